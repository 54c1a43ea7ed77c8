import PyProof.Rows.All
import Wide.All
import OpenK.AllK
import Wide.FinOn
import HandS.ForMost
import HandS.Codes
import HandS.Style
import HandS.Walk
import HandS.IsInst
import HandS.Wide
import HandS.Defaults
import HandS.Flow
import HandS.Replace
import KE.GoesMore
import KE.GoesZip
import KE.GoesEnum
import PyProof.ListStr
import PyProof.StrBlock2
import HandS.Conv
import HandS.ReplaceList
import HandS.SortInts
import PyProof.Rows.SortShellAny
import PyProof.Rows.StrRev
import HandS.ReplaceLit
import PyProof.Rows.SeqMore
import HandS.HeadHook1
import HandS.HeadHook2
import HandS.More
import HandS.ExcOwn
import HandS.ExcIs
import HandS.TryOnly
import HandS.WordsExc
import HandS.HeadEnd
import HandS.TupSets
import HandS.Deep
import KE.LtData
import HandS.Zip
import KE.KDictPairs
import HandS.SetFor
import HandS.Strs
import PyProof.Rows.StrFirst
import HandS.Dict
import HandS.List
import PyProof.ReprRoads
import PyProof.StrLawsRepr
import PyProof.ReprLen
import HandS.DeepEq
import HandS.StrMore
import KE.KIntText
import KE.IntTextLaws
import KE.SortData
import KE.KDictSum
import PySem.Challenge.RW_nestmend_k33_shares_told
import HandS.Head0
import HandS.Head1
import HandS.Head2
set_option Elab.async false
set_option linter.all false
set_option maxRecDepth 100000
set_option maxHeartbeats 4000000
namespace Ly
open PySem PySem.Spec PyProof.Rows L2 SX

/-- a text by its codes -/
abbrev Tx (l : List Nat) : V := V.str (S l)
theorem Tx_inj {a b : List Nat} : Tx a = Tx b ↔ a = b := ⟨fun h => S_inj (V.str.inj h), fun h => by rw [h]⟩
def OPN : List Nat := [40, 60, 91, 123]
def CLO : List Nat := [41, 62, 93, 125]
def BRK : List Nat := [40, 41, 60, 62, 91, 93, 123, 125]
def LET : List Nat := [97, 98, 99, 100, 101, 102, 103, 104, 105, 106, 107, 108, 109, 110, 111, 112, 113, 114, 115, 116, 117, 118, 119, 120, 121, 122]

/-! ### rules -/
section
variable {X : Cx} {k j : Nat} {x : Str} {sp : Sp} {p pos : Pos} {e : Expr} {es : List Expr} {t : TA} {ta tb : TE}
def tOwn (sp : Sp) (t : TA) : TE := fun σ H Q => t σ H fun vs H1 => sp vs H1 Q C8.E0
theorem pe_own (c : C8.Cal X.prog X.w X.K X.mg X.base k x sp []) (hr : Room j X.A) (hk : k ≤ j) (hg : Gl X x) (ha : PA X (e :: es) t)
    (hdb : (x == ("__debug__" : Str)) = false := by decide) (he : starEach (e :: es) X.env = (false, eval e X.env) :: starEach es X.env := by rfl) (hpl : (backTo pos (starEach es X.env)).any (·.1) = false := by rfl) :
    PE X (.Call (.Name x p) (e :: es) [] pos) (tOwn sp t) := by
  have h := C8.pe_c (p := p) c hr hk hg ha hdb he hpl
  have e : tCall sp [] C8.E0 t = tOwn sp t := by
    funext σ H Q
    show (t σ H fun vs H1 => sp (vs ++ []) H1 Q C8.E0) = _
    simp only [List.append_nil]
    rfl
  rw [← e]
  exact h
theorem pe_strS {z : Str} {jj : Nat} {l : List Nat} (h : z = S l) : PE X (.Constant (.str z) jj pos) (tC (Tx l)) := by
  subst h
  exact pe_str
/-- operators by names -/
def rAddT : R2 := fun x y H Q => ∃ a b : List Nat, x = Tx a ∧ y = Tx b ∧ a.length + b.length ≤ 100000 ∧ Q (Tx (a ++ b)) H
theorem op_addT : OpR X (binaryOp .Add) rAddT := fun pins s σ H x y v u Q I rx ry h => by
  obtain ⟨a, b, rfl, rfl, hl, q⟩ := h
  refine op_add_str pins s σ H _ _ v u Q I rx ry ⟨_, _, rfl, rfl, ?_, ?_⟩
  · rw [S_len, S_len]
    exact Nat.le_trans hl (by decide)
  · rw [S_cat]
    exact q
def rInT (neg : Bool) : R2 := fun x y H Q => ∃ (c : Nat) (l : List Nat), x = Tx [c] ∧ y = Tx l ∧ Q (.bl (if neg then !decide (c ∈ l) else decide (c ∈ l))) H
theorem op_inT : OpR X (compareOp .In) (rInT false) := fun pins s σ H x y v u Q I rx ry h => by
  obtain ⟨c, l, rfl, rfl, q⟩ := h
  exact op_in_sign pins s σ H _ _ v u Q I rx ry ⟨c, S l, rfl, rfl, q⟩
theorem op_notInT : OpR X (compareOp .NotIn) (rInT true) := fun pins s σ H x y v u Q I rx ry h => by
  obtain ⟨c, l, rfl, rfl, q⟩ := h
  exact op_notIn_sign pins s σ H _ _ v u Q I rx ry ⟨c, S l, rfl, rfl, q⟩
def rIxT1 : R2 := fun x y H Q => ∃ (l : List Nat) (i : Int) (c : Nat), x = Tx l ∧ y = .int i ∧ l.length ≤ 100000 ∧ atI l i = some c ∧ Q (Tx [c]) H
theorem ix_txt : IxR X rIxT1 := fun value slice pins s σ H x y v u Q I rx ry h hs => by
  obtain ⟨l, i, c, rfl, rfl, hl, h1, q⟩ := h
  refine ix_str value slice pins s σ H _ _ v u Q I rx ry ⟨S l, i, c, rfl, rfl, ?_, h1, q⟩ hs
  rw [S_len]
  exact Nat.le_trans hl (by decide)
def rLenT : List V → Hp → VK → Prop := fun xs H Q => ∃ l : List Nat, xs = [Tx l] ∧ l.length ≤ 100000 ∧ Q (.int l.length) H
theorem call_lenT : CallR X (.builtin "len") rLenT := fun pins s σ H xs us Q I r h => by
  obtain ⟨l, rfl, hl, q⟩ := h
  refine call_len_str pins s σ H _ us Q I r ⟨S l, rfl, ?_, ?_⟩
  · rw [S_len]
    exact Nat.le_trans hl (by decide)
  · rw [S_len]
    exact q
def rIntB : List V → Hp → VK → Prop := fun xs H Q => ∃ b : Bool, xs = [.bl b] ∧ Q (.int (if b then 1 else 0)) H
theorem call_intB : CallR X (.type "int") rIntB := fun pins s σ H xs us Q I r h => by
  obtain ⟨b, rfl, q⟩ := h
  exact call_int1 pins s σ H _ us Q I r (.inr ⟨b, rfl, q⟩)
def rLenL (K : PySem.W.Frag) : List V → Hp → VK → Prop := fun xs H Q => ∃ p ys, xs = [.ref p] ∧ (SqL K H p ys ∨ SqT K H p ys) ∧ Q (.int ys.length) H
theorem call_lenL : CallR X (.builtin "len") (rLenL X.K) := call_len_seq
def rFindT : V → List V → Hp → VK → Prop := fun x xs H Q => ∃ a b : List Nat, x = Tx a ∧ xs = [Tx b] ∧ Q (.int (Txt.find (S a) (S b))) H
def rIdxT : V → List V → Hp → VK → Prop := fun x xs H Q => ∃ (a b : List Nat) (i : Nat), x = Tx a ∧ xs = [Tx b] ∧ Txt.find (S a) (S b) = (i : Int) ∧ Q (.int i) H
theorem mt_idxT : MtR X "str.index" rIdxT := fun pins s σ H x xs v us Q I rx rs h => by
  obtain ⟨a, b, i, h1, h2, h3, q⟩ := h
  unfold Txt.find at h3
  cases ho : Builtin.Str.occurrences (S a) (S b) 0 (S a).length 1 with
  | nil =>
    rw [ho] at h3
    exact absurd h3 (by show ¬ ((-1 : Int) = (i : Int)); omega)
  | cons j r =>
    rw [ho] at h3
    have e : (j : Int) = (i : Int) := h3
    have e2 : j = i := by omega
    subst e2
    exact mt_sindex pins s σ H x xs v us Q I rx rs ⟨S a, S b, j, r, h1, h2, ho, q⟩
def rSlTx : V → Option Int → Option Int → Hp → VK → Prop := fun x lo hi H Q => ∃ l : List Nat, x = Tx l ∧ l.length ≤ 100000 ∧ Q (.str (Txt.slice (S l) lo hi)) H
theorem sl_tx : SlR X rSlTx := by
  intro pins s σ H x v vl vu lo hi sl Q I rx hs pl pu h
  obtain ⟨l, hx, hz, q⟩ := h
  refine C8.sl_txt pins s σ H x v vl vu lo hi sl Q I rx hs pl pu ⟨S l, hx, ?_, q⟩
  rw [S_len]
  exact Nat.le_trans hz (by decide)
end

/-! ### heaps -/
def But (p : Addr) (H H' : Hp) : Prop := ∀ b o, b ≠ p → H b = some o → H' b = some o
section
variable {H H' H1 H2 : Hp} {a b p : Addr} {o u : HO}
theorem Same.new (h : H p = none) : Same H (upd H p u) := fun b x e => by
  rw [upd_ne (ne_of_none e h)]
  exact e
theorem But.refl : But p H H := fun _ _ _ h => h
theorem But.set : But p H (upd H p u) := fun b x n e => by
  rw [upd_ne n]
  exact e
theorem But.trans (x : But p H H1) (y : But p H1 H2) : But p H H2 := fun b o n h => y b o n (x b o n h)
theorem But.same (x : But p H H1) (y : Same H1 H2) : But p H H2 := fun b o n h => y b o (x b o n h)
theorem Same.but (x : Same H H1) (y : But p H1 H2) : But p H H2 := fun b o n h => y b o n (x b o h)
theorem Same.toBut (x : Same H H1) : But p H H1 := fun b o _ h => x b o h
/-- p is new since H -/
theorem Same.but0 (x : Same H H1) (y : But p H1 H2) (n : H p = none) : Same H H2 := fun b o h => y b o (ne_of_none h n) (x b o h)
theorem But.free (x : But p H H1) (n : a ≠ p) (h : H1 a = none) : H a = none := by
  cases q : H a with
  | none => rfl
  | some o =>
    rw [x a o n q] at h
    cases h
theorem But.but0 {q : Addr} (x : But p H H1) (y : But q H1 H2) (n : H q = none) : But p H H2 := fun b o m h => y b o (ne_of_none h n) (x b o m h)
theorem Same.get (s : Same H H1) (h : H a = some o) : H1 a = some o := s a o h
theorem But.get (s : But p H H1) (n : a ≠ p) (h : H a = some o) : H1 a = some o := s a o n h
theorem ne_new (n : H b = none) (h : H a = some o) : a ≠ b := ne_of_none h n
theorem Same.fr (n : H1 a = none) (x : Same H H1) : H a = none := x.free n
theorem But.fr (n : H1 a = none) (x : But p H H1) (m : a ≠ p) : H a = none := x.free m n
theorem Same.tr (y : Same H1 H2) (x : Same H H1) : Same H H2 := x.trans y
theorem Same.b0 (y : But p H1 H2) (x : Same H H1) (n : H p = none) : Same H H2 := Same.but0 x y n
theorem But.sa (y : Same H1 H2) (x : But p H H1) : But p H H2 := But.same x y
theorem But.tr (y : But p H1 H2) (x : But p H H1) : But p H H2 := x.trans y
theorem But.b0 {q : Addr} (y : But q H1 H2) (x : But p H H1) (n : H q = none) : But p H H2 := But.but0 x y n
theorem sq_of {K : PySem.W.Frag} {xs : List V} (h : H a = some (.lst xs)) : SqL K H a xs := .inl (.inl h)
theorem st_of {K : PySem.W.Frag} {xs : List V} (h : H a = some (.tup xs)) : SqT K H a xs := .inl (.inl h)
theorem But.sq {K : PySem.W.Frag} {xs : List V} (x : But p H H1) (n : a ≠ p) (h : SqL K H a xs) : SqL K H1 a xs := by
  rcases h with (h | ⟨o, h⟩) | h
  · exact .inl (.inl (x _ _ n h))
  · exact .inl (.inr ⟨o, x _ _ n h⟩)
  · exact .inr h
end

/-! ### readings, step by step -/
theorem cx_K {CX : CXT} {P : Program} {w : World} {K : PySem.W.Frag} {mg : Str → Option Value} {base : Heap} {N : List Str} {q : Str} {sc : Scope} {f : Addr} {cd : Value} {A : Around} {outer : List Env} {s : Shared} {H : Hp} {E : XK} : (cxOf CX P w K mg base N q sc f cd A outer s H E).K = K := rfl
section
variable {K : PySem.W.Frag} {σ : L2.St} {H : Hp} {Q : VK} {R : Hp → Prop} {i j : Int} {n : Nat} {v : V} {a p : Addr} {l m : List Nat} {xs ys : List V}
theorem g_var (h : σ[n]? = some (some v)) (q : Q v H) : tVar n σ H Q := ⟨v, h, q⟩
theorem g_I0 {g : Int → Int → V} (q : Q (g i j) H) : rI0 g (.int i) (.int j) H Q := ⟨i, j, rfl, rfl, q⟩
theorem g_I {C : Int → Int → Prop} {g : Int → Int → V} (c : C i j) (q : Q (g i j) H) : rI C g (.int i) (.int j) H Q := ⟨i, j, rfl, rfl, c, q⟩
theorem g_U {g : Int → V} (q : Q (g i) H) : rU g (.int i) H Q := ⟨i, rfl, q⟩
theorem g_ipI {g : Int → Int → Int} (q : Q (.int (g i j)) H) : ipI g (.int i) (.int j) H Q := ⟨i, j, rfl, rfl, q⟩
theorem g_addT (h : l.length + m.length ≤ 100000) (q : Q (Tx (l ++ m)) H) : rAddT (Tx l) (Tx m) H Q := ⟨l, m, rfl, rfl, h, q⟩
theorem g_inT {c : Nat} (q : Q (.bl (decide (c ∈ l))) H) : rInT false (Tx [c]) (Tx l) H Q := ⟨c, l, rfl, rfl, q⟩
theorem g_ninT {c : Nat} (q : Q (.bl (!decide (c ∈ l))) H) : rInT true (Tx [c]) (Tx l) H Q := ⟨c, l, rfl, rfl, q⟩
theorem g_ixT {c : Nat} (h : l.length ≤ 100000) (h1 : atI l i = some c) (q : Q (Tx [c]) H) : rIxT1 (Tx l) (.int i) H Q := ⟨l, i, c, rfl, rfl, h, h1, q⟩
theorem g_ixL (h : SqL K H p xs) (h1 : atI xs i = some v) (q : Q v H) : rIxL K (.ref p) (.int i) H Q := ⟨p, xs, i, v, rfl, rfl, h, h1, q⟩
theorem g_ixU (h : SqT K H p xs) (h1 : atI xs i = some v) (q : Q v H) : rIxT K (.ref p) (.int i) H Q := ⟨p, xs, i, v, rfl, rfl, h, h1, q⟩
theorem g_lenT (h : l.length ≤ 100000) (q : Q (.int l.length) H) : rLenT [Tx l] H Q := ⟨l, rfl, h, q⟩
theorem g_lenL (h : SqL K H p xs) (q : Q (.int xs.length) H) : rLenL K [.ref p] H Q := ⟨p, xs, rfl, .inl h, q⟩
theorem g_lenU (h : SqT K H p xs) (q : Q (.int xs.length) H) : rLenL K [.ref p] H Q := ⟨p, xs, rfl, .inr h, q⟩
theorem g_findT1 (q : Q (.int (Txt.find (S l) (S m))) H) : rFindT (Tx l) [Tx m] H Q := ⟨l, m, rfl, rfl, q⟩
theorem g_idxT1 {k : Nat} (h : Txt.find (S l) (S m) = (k : Int)) (q : Q (.int k) H) : rIdxT (Tx l) [Tx m] H Q := ⟨l, m, k, rfl, rfl, h, q⟩
theorem g_str {A : Prop} (q : A) : (∃ z, Tx l = .str z) ∧ A := ⟨⟨_, rfl⟩, q⟩
theorem g_intB {b : Bool} (q : Q (.int (if b then 1 else 0)) H) : rIntB [.bl b] H Q := ⟨b, rfl, q⟩
theorem g_eq {x y : V} (h : scal x y = true) (q : Q (.bl (decide (x = y))) H) : rEq x y H Q := ⟨h, q⟩
theorem g_ne {x y : V} (h : scal x y = true) (q : Q (.bl (!decide (x = y))) H) : rNe x y H Q := ⟨h, q⟩
theorem g_tyL (h : SqL K H p xs) : tyV K "list" (.ref p) H := .inl ⟨rfl, _, h⟩
/-! new objects, changed ones -/
def rLstN (xs : List V) (H : Hp) (Q : VK) : Prop := xs.length ≤ sizeLine ∧ ∀ p, H p = none → Q (.ref p) (upd H p (.lst xs))
def rTupN (xs : List V) (H : Hp) (Q : VK) : Prop := xs.length ≤ sizeLine ∧ ∀ p, H p = none → Q (.ref p) (upd H p (.tup xs))
def rRevN (K : PySem.W.Frag) (x : V) (H : Hp) (Q : VK) : Prop := ∃ a xs, x = .ref a ∧ SqL K H a xs ∧ ∀ p, H p = none → Q (.ref p) (upd H p (.lst xs.reverse))
theorem tLst_eq {t : TA} : tLst t σ H Q = t σ H fun xs H1 => rLstN xs H1 Q := rfl
theorem tTup_eq {t : TA} : tTup t σ H Q = t σ H fun xs H1 => rTupN xs H1 Q := rfl
theorem tRevL_eq {t : TE} : tRevL K t σ H Q = t σ H fun x H1 => rRevN K x H1 Q := rfl
def rPart (x : V) (H : Hp) (Q : Option Int → Hp → Prop) : Prop := ∃ i, x = .int i ∧ Q (some i) H
theorem tPart_eq {t : TE} {Q : Option Int → Hp → Prop} : tPart t σ H Q = t σ H fun x H1 => rPart x H1 Q := rfl
theorem g_part {Q : Option Int → Hp → Prop} (q : Q (some i) H) : rPart (.int i) H Q := ⟨i, rfl, q⟩
theorem g_lst (h : xs.length ≤ 100000) (q : ∀ p H1, H p = none → Same H H1 → H1 p = some (.lst xs) → Q (.ref p) H1) : rLstN xs H Q :=
  ⟨Nat.le_trans h (by decide), fun p np => q p _ np (Same.new np) upd_same⟩
theorem g_tup (h : xs.length ≤ 100000) (q : ∀ p H1, H p = none → Same H H1 → H1 p = some (.tup xs) → Q (.ref p) H1) : rTupN xs H Q :=
  ⟨Nat.le_trans h (by decide), fun p np => q p _ np (Same.new np) upd_same⟩
theorem g_new {o : HO} (q : ∀ p H1, H p = none → Same H H1 → H1 p = some o → Q (.ref p) H1) : ∀ p, H p = none → Q (.ref p) (upd H p o) := fun p np => q p _ np (Same.new np) upd_same
theorem g_setL (h : H p = some (.lst xs)) (h1 : ixN xs.length i = some n) (q : ∀ H1, But p H H1 → H1 p = some (.lst (xs.set n v)) → R H1) : rSetL (.ref p) (.int i) v H R := ⟨p, xs, i, n, rfl, rfl, h, h1, q _ But.set upd_same⟩
theorem g_append1 (h : H p = some (.lst xs)) (hl : xs.length < 100000) (q : ∀ H1, But p H H1 → H1 p = some (.lst (xs ++ [v])) → Q .non H1) : rAppend (.ref p) [v] H Q :=
  ⟨p, xs, v, rfl, rfl, h, Nat.lt_of_lt_of_le hl (by decide), q _ But.set upd_same⟩
theorem g_slL {lo hi : Option Int} (h : SqL K H p xs) (q : ∀ p H1, H p = none → Same H H1 → H1 p = some (.lst (cutV xs lo hi)) → Q (.ref p) H1) : rSlL K (.ref p) lo hi H Q := ⟨p, xs, rfl, h, g_new q⟩
theorem g_revL (h : SqL K H p xs) (q : ∀ p H1, H p = none → Same H H1 → H1 p = some (.lst xs.reverse) → Q (.ref p) H1) : rRevN K (.ref p) H Q := ⟨p, xs, rfl, h, g_new q⟩
theorem g_cat (h : H a = some (.lst xs)) (h2 : H p = some (.lst ys)) (hl : xs.length + ys.length ≤ 100000) (q : ∀ p H1, H p = none → Same H H1 → H1 p = some (.lst (xs ++ ys)) → Q (.ref p) H1) : rCat (.ref a) (.ref p) H Q := ⟨a, p, xs, ys, rfl, rfl, h, h2, Nat.le_trans hl (by decide), g_new q⟩
theorem g_slTo (h : l.length ≤ 100000) (hi : 0 ≤ i) (q : Q (Tx (l.take i.toNat)) H) : rSlTx (Tx l) none (some i) H Q := ⟨l, rfl, h, by rw [slice_to hi]; exact q⟩
theorem g_slFrom (h : l.length ≤ 100000) (hi : 0 ≤ i) (q : Q (Tx (l.drop i.toNat)) H) : rSlTx (Tx l) (some i) none H Q := ⟨l, rfl, h, by rw [slice_from hi]; exact q⟩
/-! tests -/
theorem g_test {c : Prop} [Decidable c] {A B : Prop} (h1 : c → A) (h2 : ¬ c → B) : ∃ k, V.bl (decide c) = V.bl k ∧ if k = true then A else B := by
  refine ⟨_, rfl, ?_⟩
  by_cases h : c
  · rw [decide_eq_true h, if_pos rfl]
    exact h1 h
  · rw [decide_eq_false h, if_neg Bool.false_ne_true]
    exact h2 h
theorem g_testN {c : Prop} [Decidable c] {A B : Prop} (h1 : ¬ c → A) (h2 : c → B) : ∃ k, V.bl (!decide c) = V.bl k ∧ if k = true then A else B := by
  refine ⟨_, rfl, ?_⟩
  by_cases h : c
  · rw [decide_eq_true h]
    exact h2 h
  · rw [decide_eq_false h]
    exact h1 h
theorem g_testB {b : Bool} {A B : Prop} (h1 : b = true → A) (h2 : b = false → B) : ∃ k, V.bl b = V.bl k ∧ if k = true then A else B := by
  refine ⟨_, rfl, ?_⟩
  cases b with
  | true => exact h1 rfl
  | false => exact h2 rfl
end

/-! ### loops -/
def ForR (J : It) (g : TG) (tb : TS) (D : Ends) (σ : L2.St) (H : Hp) : Prop := ∃ W : Nat → Nat → L2.St → Hp → Prop, (∃ m, W 0 m σ H) ∧ ∀ i m σ H, W i m σ H →
  (J.stop i H ∧ D.nx σ H) ∨ (J.go i H ∧ ∃ N : L2.St → Hp → Prop, (∀ σ' H', N σ' H' → ∃ m', m' < m ∧ W (i + 1) m' σ' H') ∧ ∀ x H', J.yld i H x H' → g x σ H' fun σ2 H2 => tb { D with nx := N, ct := N, bk := D.nx } σ2 H2)
theorem tFor_eq {wi : TI} {g : TG} {tb : TS} {D : Ends} {σ : L2.St} {H : Hp} : tFor wi g tb D σ H = wi σ H fun J H1 => ForR J g tb D σ H1 := rfl
def LcR (J : It) (g : TG) (tt : TT) (te : TE) (vs : List Nat) (σ : L2.St) (H1 : Hp) (Q : VK) : Prop := ∀ D, H1 D = none → ∃ W : Nat → Nat → Hp → Prop, (∃ m, W 0 m (upd H1 D (.lst []))) ∧ ∀ i m H, W i m H →
  (J.stop i H ∧ Q (.ref D) H) ∨ (J.go i H ∧ ∃ Nx : Hp → Prop, (∀ H', Nx H' → ∃ m', m' < m ∧ W (i + 1) m' H') ∧ ∀ x H', J.yld i H x H' → g x (wipe σ vs) H' fun σ2 H2 => wipe σ2 vs = wipe σ vs ∧ tt σ2 H2 fun b H3 =>
    if b = true then te σ2 H3 fun y H4 => ∃ acc, H4 D = some (.lst acc) ∧ acc.length < sizeLine ∧ Nx (upd H4 D (.lst (acc ++ [y]))) else Nx H3)
theorem tLc_eq {wi : TI} {g : TG} {tt : TT} {te : TE} {vs : List Nat} {σ : L2.St} {H : Hp} {Q : VK} : tLc wi g tt te vs σ H Q = wi σ H fun J H1 => LcR J g tt te vs σ H1 Q := rfl
section
variable {K : PySem.W.Frag} {σ : L2.St} {H : Hp} {g : TG} {tb : TS} {D : Ends} {l : List Nat} {xs : List V} {a : Addr} {tt : TT} {te : TE} {vs : List Nat} {Q : VK} {n : Nat} {lo : Int}
/-- for c in text, by what is gone through -/
theorem for_txt (Pv : List Nat → L2.St → Hp → Prop) (h0 : Pv [] σ H)
    (hs : ∀ pre c post σ H, l = pre ++ c :: post → Pv pre σ H → g (Tx [c]) σ H fun σ2 H2 => tb { D with nx := Pv (pre ++ [c]), ct := Pv (pre ++ [c]), bk := D.nx } σ2 H2) (hd : ∀ σ H, Pv l σ H → D.nx σ H) : ForR (Its (S l)) g tb D σ H := by
  refine ⟨fun i m σ H => m = l.length - i ∧ i ≤ l.length ∧ Pv (l.take i) σ H, ⟨l.length, by simp, Nat.zero_le _, by simpa using h0⟩, ?_⟩
  rintro i m σ H ⟨rfl, hi, p⟩
  have sz : (S l).cps.size = l.length := by simp
  by_cases hlt : i < l.length
  · have e : l.take (i + 1) = l.take i ++ [l[i]] := by rw [List.take_succ_eq_append_getElem hlt]
    have e2 : l = l.take i ++ l[i] :: l.drop (i + 1) := by rw [← List.drop_eq_getElem_cons hlt, List.take_append_drop]
    refine .inr ⟨by show i < (S l).cps.size; rw [sz]; exact hlt, Pv (l.take (i + 1)), fun σ' H' p' => ⟨l.length - (i + 1), by omega, rfl, hlt, p'⟩, fun x H' y => ?_⟩
    obtain ⟨e1, c, hc, rfl⟩ := y
    subst e1
    have ec : c = l[i] := by
      have : (S l).cps[i]? = some l[i] := by simp [hlt]
      rw [this] at hc
      exact (Option.some.inj hc).symm
    subst ec
    rw [e]
    exact hs (l.take i) l[i] (l.drop (i + 1)) σ _ e2 p
  · have e : i = l.length := by omega
    subst e
    rw [List.take_length] at p
    exact .inl ⟨by show (S l).cps.size ≤ l.length; rw [sz]; exact Nat.le_refl _, hd σ H p⟩
theorem cut_at {α : Type} {xs : List α} {i : Nat} {x : α} (hx : xs[i]? = some x) : xs.take (i + 1) = xs.take i ++ [x] ∧ xs = xs.take i ++ x :: xs.drop (i + 1) := by
  obtain ⟨hlt, ex⟩ := List.getElem?_eq_some_iff.mp hx
  subst ex
  exact ⟨by rw [List.take_succ_eq_append_getElem hlt], by rw [← List.drop_eq_getElem_cons hlt, List.take_append_drop]⟩
/-- for x in list, by what is gone through; the list stays -/
theorem for_lst (xs : List V) (Pv : List V → L2.St → Hp → Prop) (h0 : Pv [] σ H) (hl : ∀ pre post σ H, xs = pre ++ post → Pv pre σ H → SqL K H a xs)
    (hs : ∀ pre x post σ H, xs = pre ++ x :: post → Pv pre σ H → g x σ H fun σ2 H2 => tb { D with nx := Pv (pre ++ [x]), ct := Pv (pre ++ [x]), bk := D.nx } σ2 H2) (hd : ∀ σ H, Pv xs σ H → D.nx σ H) : ForR (Itl K a) g tb D σ H := by
  refine for_list (xs := xs) (fun i σ H => Pv (xs.take i) σ H) (by simpa using h0) (fun i σ H _ p => hl _ (xs.drop i) σ H (List.take_append_drop i xs).symm p) (fun i x σ H hx p => ?_) (fun σ H p => hd σ H (by simpa using p))
  obtain ⟨e, e2⟩ := cut_at hx
  have z := hs (xs.take i) x (xs.drop (i + 1)) σ H e2 p
  rw [← e] at z
  exact z
/-- for i in range -/
theorem for_rng (Pv : Nat → L2.St → Hp → Prop) (h0 : Pv 0 σ H)
    (hs : ∀ i σ H, i < n → Pv i σ H → g (.int (lo + i)) σ H fun σ2 H2 => tb { D with nx := Pv (i + 1), ct := Pv (i + 1), bk := D.nx } σ2 H2) (hd : ∀ σ H, Pv n σ H → D.nx σ H) : ForR (Itr lo n) g tb D σ H := for_range Pv h0 hs hd
/-- what a comprehension's turn is to reach: y put behind the new list at d -/
def LcPut (d : Addr) (R : Hp → Prop) (y : V) (H : Hp) : Prop := ∃ acc, H d = some (.lst acc) ∧ acc.length < sizeLine ∧ R (upd H d (.lst (acc ++ [y])))
theorem lc_put {d : Addr} {R : Hp → Prop} {y : V} {acc : List V} (h : H d = some (.lst acc)) (hl : acc.length < 100000) (q : ∀ H5, But d H H5 → H5 d = some (.lst (acc ++ [y])) → R H5) : LcPut d R y H := ⟨acc, h, Nat.lt_of_lt_of_le hl (by decide), q _ But.set upd_same⟩
theorem lc_w {J : It} {G : Hp → Prop} {Y : Nat → Hp → V → Hp → Prop} (w : Walk J n G Y)
    (h : ∀ d H1, H d = none → Same H H1 → H1 d = some (.lst []) → ∃ Pv : Nat → Hp → Prop, Pv 0 H1 ∧ (∀ i H, i ≤ n → Pv i H → G H) ∧
      (∀ i x H H', i < n → Pv i H → Y i H x H' → g x (wipe σ vs) H' fun σ2 H2 => wipe σ2 vs = wipe σ vs ∧ tt σ2 H2 fun b H3 => if b = true then te σ2 H3 fun y H4 => LcPut d (Pv (i + 1)) y H4 else Pv (i + 1) H3) ∧ ∀ H, Pv n H → Q (.ref d) H) : LcR J g tt te vs σ H Q := by
  intro d nd
  obtain ⟨Pv, h0, hG, hs, hd⟩ := h d _ nd (Same.new nd) upd_same
  exact lc_it w Pv h0 hG hs hd
theorem lc_rng (h : ∀ d H1, H d = none → Same H H1 → H1 d = some (.lst []) → ∃ Pv : Nat → Hp → Prop, Pv 0 H1 ∧
      (∀ (i : Nat) H, i < n → Pv i H → g (.int (lo + i)) (wipe σ vs) H fun σ2 H2 => wipe σ2 vs = wipe σ vs ∧ tt σ2 H2 fun b H3 => if b = true then te σ2 H3 fun y H4 => LcPut d (Pv (i + 1)) y H4 else Pv (i + 1) H3) ∧ ∀ H, Pv n H → Q (.ref d) H) : LcR (Itr lo n) g tt te vs σ H Q := by
  refine lc_w walk_range fun d H1 nd s e => ?_
  obtain ⟨Pv, h0, hs, hd⟩ := h d H1 nd s e
  refine ⟨Pv, h0, fun _ _ _ _ => trivial, fun i x H H' hi p y => ?_, hd⟩
  obtain ⟨rfl, rfl⟩ := y
  exact hs i _ hi p
theorem lc_txt (h : ∀ d H1, H d = none → Same H H1 → H1 d = some (.lst []) → ∃ Pv : List Nat → Hp → Prop, Pv [] H1 ∧
      (∀ pre c post H, l = pre ++ c :: post → Pv pre H → g (Tx [c]) (wipe σ vs) H fun σ2 H2 => wipe σ2 vs = wipe σ vs ∧ tt σ2 H2 fun b H3 => if b = true then te σ2 H3 fun y H4 => LcPut d (Pv (pre ++ [c])) y H4 else Pv (pre ++ [c]) H3) ∧ ∀ H, Pv l H → Q (.ref d) H) : LcR (Its (S l)) g tt te vs σ H Q := by
  refine lc_w walk_str fun d H1 nd s e => ?_
  obtain ⟨Pv, h0, hs, hd⟩ := h d H1 nd s e
  have sz : (S l).cps.size = l.length := by simp
  refine ⟨fun i => Pv (l.take i), by simpa using h0, fun _ _ _ _ => trivial, fun i x H H' hi p y => ?_, fun H p => hd H (by rw [sz, List.take_length] at p; exact p)⟩
  obtain ⟨rfl, c, hc, rfl⟩ := y
  have hc2 : l[i]? = some c := by simpa using hc
  obtain ⟨e1, e2⟩ := cut_at hc2
  have z := hs (l.take i) c (l.drop (i + 1)) _ e2 p
  rw [← e1] at z
  exact z
theorem lc_lst (xs : List V) (h : ∀ d H1, H d = none → Same H H1 → H1 d = some (.lst []) → ∃ Pv : List V → Hp → Prop, Pv [] H1 ∧ (∀ pre post H, xs = pre ++ post → Pv pre H → SqL K H a xs) ∧
      (∀ pre x post H, xs = pre ++ x :: post → Pv pre H → g x (wipe σ vs) H fun σ2 H2 => wipe σ2 vs = wipe σ vs ∧ tt σ2 H2 fun b H3 => if b = true then te σ2 H3 fun y H4 => LcPut d (Pv (pre ++ [x])) y H4 else Pv (pre ++ [x]) H3) ∧ ∀ H, Pv xs H → Q (.ref d) H) : LcR (Itl K a) g tt te vs σ H Q := by
  refine lc_w (walk_list (xs := xs)) fun d H1 nd s e => ?_
  obtain ⟨Pv, h0, hl, hs, hd⟩ := h d H1 nd s e
  refine ⟨fun i => Pv (xs.take i), by simpa using h0, fun i H _ p => hl _ (xs.drop i) H (List.take_append_drop i xs).symm p, fun i x H H' hi p y => ?_, fun H p => hd H (by simpa using p)⟩
  obtain ⟨rfl, hc⟩ := y
  obtain ⟨e1, e2⟩ := cut_at hc
  have z := hs (xs.take i) x (xs.drop (i + 1)) _ e2 p
  rw [← e1] at z
  exact z
end

/-! ### a def of the text -/
def DefAt (K : PySem.W.Frag) (mg : Str → Option Value) (x : Str) (st : Stmt) (ps : List Str) : Prop := ∃ (f : Addr) (fd : FuncData), FunD K x x (defArgs st) (defBody st) (defScope st) [] [] f fd ∧ mg x = some (.ref f) ∧ Binds K fd ps []
section
variable {P : Program} {w : World} {K : PySem.W.Frag} {mg : Str → Option Value} {base : Heap}
theorem fnD {x : Str} {st : Stmt} {f : Addr} {fd : FuncData} {N ps : List Str} {k : Nat} {sp : Sp} (F : FunD K x x (defArgs st) (defBody st) (defScope st) [] [] f fd) (S : FnScope N ps (defScope st)) (len : ∀ vs H Q E, sp vs H Q E → vs.length = ps.length)
    (hbody : ∀ (cdv : Value) (A : Around) (outer : List Env) (s : Shared) (H : Hp) (vs : List V) (Q : VK) (E : XK), Room k (A.deeper (envOfC x (defScope st) s.heap.objs.size f cdv)) → sp vs H Q E →
      ∃ t, PSs (cxOf C8.CX0 P w K mg base N x (defScope st) f cdv A outer s H E).nox (defBody st) t ∧ t { nx := fun _ H' => Q .non H', rt := Q } (start N vs) H) : FnOk P w K mg base C8.CX0 (k + 1) f fd ps sp := by
  refine F.ok S len fun cdv A outer s H vs Q E hr hsp => ?_
  obtain ⟨t, h, q⟩ := hbody cdv A outer s H vs Q E hr hsp
  exact ⟨t, h.nox, q⟩
theorem calD {x : Str} {st : Stmt} {N ps : List Str} {k : Nat} {sp : Sp} (D : DefAt K mg x st ps) (S : FnScope N ps (defScope st)) (len : ∀ vs H Q E, sp vs H Q E → vs.length = ps.length)
    (hbody : ∀ (f : Addr) (cdv : Value) (A : Around) (outer : List Env) (s : Shared) (H : Hp) (vs : List V) (Q : VK) (E : XK), Room k (A.deeper (envOfC x (defScope st) s.heap.objs.size f cdv)) → sp vs H Q E →
      ∃ t, PSs (cxOf C8.CX0 P w K mg base N x (defScope st) f cdv A outer s H E).nox (defBody st) t ∧ t { nx := fun _ H' => Q .non H', rt := Q } (start N vs) H) : C8.Cal P w K mg base (k + 1) x sp [] := by
  obtain ⟨f, fd, F, hm, b⟩ := D
  exact ⟨f, fd, ps, [], fnD F S len (hbody f), hm, F.kp, b, .nil⟩
end
end Ly

set_option maxHeartbeats 4000000
namespace Ly
open PySem SX
/-! ### signs -/
def isSg (c : Nat) : Prop := c ∈ LET ∨ c ∈ BRK
/-- the number of a bracket's kind -/
def knd (c : Nat) : Nat := if c ∈ OPN then OPN.idxOf c else CLO.idxOf c
/-- the other bracket of a bracket's kind -/
def oth (c : Nat) : Nat := if c ∈ OPN then CLO.getD (OPN.idxOf c) 0 else OPN.getD (CLO.idxOf c) 0
theorem find_opn : ∀ c ∈ OPN, Txt.find (S OPN) (S [c]) = (knd c : Int) := by decide +kernel
theorem find_clo : ∀ c ∈ CLO, Txt.find (S CLO) (S [c]) = (knd c : Int) := by decide +kernel
theorem brk_or {c : Nat} : c ∈ BRK ↔ c ∈ OPN ∨ c ∈ CLO := by
  unfold BRK OPN CLO
  simp
  omega
theorem at_clo : ∀ c ∈ OPN, CLO[knd c]? = some (oth c) := by decide
theorem at_opn : ∀ c ∈ CLO, OPN[knd c]? = some (oth c) := by decide
theorem oth_clo : ∀ c ∈ OPN, oth c ∈ CLO := by decide
theorem oth_opn : ∀ c ∈ CLO, oth c ∈ OPN := by decide
theorem oth_brk : ∀ c ∈ BRK, oth c ∈ BRK := by decide
theorem oth_oth : ∀ c ∈ BRK, oth (oth c) = c := by decide
theorem opn_clo : ∀ c ∈ OPN, c ∉ CLO := by decide
theorem atI_of {α : Type} {l : List α} {k : Nat} {c : α} (h : l[k]? = some c) : L2.atI l (k : Int) = some c := L2.atI_nat h

/-! ### clean texts, by a pile of awaited closing brackets -/
def stp (s : Option (List Nat)) (c : Nat) : Option (List Nat) := match s with
  | none => none
  | some st => if c ∈ OPN then some (oth c :: st) else if c ∈ CLO then (match st with
    | d :: r => if d = c then some r else none
    | [] => none) else some st
def run (l : List Nat) : Option (List Nat) := l.foldl stp (some [])
def clean (l : List Nat) : Prop := run l = some []
instance (l : List Nat) : Decidable (clean l) := inferInstanceAs (Decidable (run l = some []))
theorem run_app (a b : List Nat) : run (a ++ b) = b.foldl stp (run a) := by
  unfold run
  rw [List.foldl_append]
theorem stp_let {s : Option (List Nat)} {c : Nat} (h1 : c ∉ OPN) (h2 : c ∉ CLO) : stp s c = s := by
  cases s with
  | none => rfl
  | some st => unfold stp; simp only [h1, h2, if_false]
theorem stp_opn {st : List Nat} {c : Nat} (h1 : c ∈ OPN) : stp (some st) c = some (oth c :: st) := by
  unfold stp
  simp only [h1, if_true]
theorem stp_clo {st : List Nat} {c : Nat} (h2 : c ∈ CLO) : stp (some (c :: st)) c = some st := by
  have h1 : c ∉ OPN := fun h => opn_clo c h h2
  unfold stp
  simp only [h1, h2, if_true, if_false]
theorem brk_at {z : Nat} (h : z < 8) : ∃ c, BRK[z]? = some c ∧ c ∈ BRK := ⟨BRK[z]'h, List.getElem?_eq_getElem h, List.getElem_mem h⟩
theorem let_at {z : Nat} (h : z < 26) : ∃ c, LET[z]? = some c ∧ c ∈ LET := ⟨LET[z]'h, List.getElem?_eq_getElem h, List.getElem_mem h⟩
theorem ixN_nat {n j : Nat} (h : j < n) : L2.ixN n (j : Int) = some j := by
  unfold L2.ixN
  rw [if_pos (by omega), if_pos (by omega), Int.toNat_natCast]
end Ly

set_option maxHeartbeats 4000000
namespace Ly
open PySem PySem.Spec PyProof.Rows L2 SX

/-! ### list(text) -/
def sgV (l : List Nat) : List V := l.map fun c => Tx [c]
section
variable {X : Cx}
/-! ### joins of texts -/
def rJoinT (K : PySem.W.Frag) : V → List V → Hp → VK → Prop := fun x xs H Q => ∃ (a : List Nat) (p : Addr) (ps : List (List Nat)), x = Tx a ∧ xs = [.ref p] ∧ SqL K H p (ps.map Tx) ∧ (ps.map (·.length)).sum + ps.length * a.length ≤ 100000 ∧ Q (Tx (TL.joinL a ps)) H
theorem mt_joinT : MtR X "str.join" (rJoinT X.K) := fun pins s σ H x xs v us Q I rx rs h => by
  obtain ⟨a, p, ps, h1, h2, h3, h4, q⟩ := h
  refine mt_join pins s σ H x xs v us Q I rx rs ⟨S a, p, ps.map S, h1, h2, .inl ?_, ?_, ?_⟩
  · rw [List.map_map]
    exact h3
  · rw [lens, List.length_map, S_len]
    exact Nat.le_trans h4 (by decide)
  · rw [join_S]
    exact q

/-! ### text * n -/
end

/-! ### enumerate(text) -/
def IteS (x : Str) : It := ⟨fun i _ => i < x.cps.size, fun i H v H' => ∃ T c, v = .ref T ∧ H T = none ∧ H' = upd H T (.tup [.int (i : Nat), .str ⟨#[c]⟩]) ∧ x.cps[i]? = some c, fun i _ => i = x.cps.size⟩
def iEnumS (ta : TA) : TI := fun σ H R => ta σ H fun vs H1 => ∃ l : List Nat, vs = [Tx l] ∧ R (IteS (S l)) H1
section
variable {K : PySem.W.Frag} {σ : L2.St} {H : Hp} {g : TG} {tb : TS} {D : Ends} {l : List Nat} {xs : List V} {a : Addr}
/-! readings -/
variable {Q : VK} {p : Addr} {m : List Nat} {n : Nat}
theorem g_joinT {ps : List (List Nat)} (h : SqL K H p (ps.map Tx)) (hl : (ps.map (·.length)).sum + ps.length * m.length ≤ 100000) (q : Q (Tx (TL.joinL m ps)) H) : rJoinT K (Tx m) [.ref p] H Q := ⟨m, p, ps, rfl, rfl, h, hl, q⟩
theorem joinL_nil : ∀ ps : List (List Nat), TL.joinL [] ps = ps.flatten
  | [] => rfl
  | [p] => by simp [TL.joinL]
  | p :: q :: r => by
    show p ++ ([] ++ TL.joinL [] (q :: r)) = _
    rw [joinL_nil (q :: r)]
    simp
/-- ''.join of signs -/
theorem g_join0 (h : SqL K H p (sgV l)) (hl : l.length ≤ 100000) (q : Q (Tx l) H) : rJoinT K (Tx []) [.ref p] H Q := by
  refine g_joinT (ps := l.map fun c => [c]) ?_ ?_ ?_
  · rw [List.map_map]
    exact h
  · rw [List.map_map]
    have : ((fun x : List Nat => x.length) ∘ fun c : Nat => [c]) = fun _ => 1 := rfl
    rw [this]
    have e : ∀ l : List Nat, (l.map fun _ => 1).sum = l.length := by
      intro l
      induction l with
      | nil => rfl
      | cons c l ih => simp [ih]; omega
    rw [e]
    simpa using hl
  · rw [joinL_nil]
    have : ∀ l : List Nat, (l.map fun c => [c]).flatten = l := by
      intro l
      induction l with
      | nil => rfl
      | cons c l ih => simp [ih]
    rw [this]
    exact q
end

/-! ### an if whose test is told once -/
def tIfC (c : TT) (t u : TS) : TS := tIfS c t u
theorem ps_ifC {X : Cx} {pos : Pos} {c : Expr} {a b : List Stmt} {tc : TT} {t u : TS} (hc : PT X c tc) (ha : PSs X a t) (hb : PSs X b u) : PS X (.If c a b pos) (tIfC tc t u) := ps_if hc ha hb
/-- the test c comes out as b and leaves the heap -/
def Tst (c : TT) (σ : L2.St) (H : Hp) (b : Bool) : Prop := ∀ Q : Bool → Hp → Prop, Q b H → c σ H Q
theorem g_ifC {c : TT} {t u : TS} {D : Ends} {σ : L2.St} {H : Hp} {b : Bool} (hA : Tst c σ H b) (h1 : b = true → t D σ H) (h2 : b = false → u D σ H) : tIfC c t u D σ H := by
  refine hA _ ?_
  cases b with
  | true => exact h1 rfl
  | false => exact h2 rfl
/-- the test changes the heap as G says -/
def TstH (c : TT) (σ : L2.St) (H : Hp) (b : Bool) (G : Hp → Prop) : Prop := ∀ Q : Bool → Hp → Prop, (∀ H1, G H1 → Q b H1) → c σ H Q
theorem g_ifH {c : TT} {t u : TS} {D : Ends} {σ : L2.St} {H : Hp} {b : Bool} {G : Hp → Prop} (hA : TstH c σ H b G) (h1 : ∀ H1, G H1 → b = true → t D σ H1) (h2 : ∀ H1, G H1 → b = false → u D σ H1) : tIfC c t u D σ H := by
  refine hA _ fun H1 g => ?_
  cases b with
  | true => exact h1 H1 g rfl
  | false => exact h2 H1 g rfl
/-! ### while -/
section
variable {c : TT} {tb : TS} {D : Ends} {σ : L2.St} {H : Hp}
def WhB (tb : TS) (D : Ends) (W : Nat → L2.St → Hp → Prop) (m : Nat) (σ : L2.St) (H : Hp) : Prop := ∃ N : L2.St → Hp → Prop, (∀ σ' H', N σ' H' → ∃ m', m' < m ∧ W m' σ' H') ∧ tb { D with nx := N, ct := N, bk := D.nx } σ H
theorem g_while (W : Nat → L2.St → Hp → Prop) (m : Nat) (h0 : W m σ H) (hs : ∀ m σ H, W m σ H → c σ H fun b H1 => if b = true then WhB tb D W m σ H1 else D.nx σ H1) : tWhile c tb D σ H := ⟨W, ⟨m, h0⟩, hs⟩
theorem g_whb {W : Nat → L2.St → Hp → Prop} {m : Nat} (q : tb { D with nx := fun σ' H' => ∃ m', m' < m ∧ W m' σ' H', ct := fun σ' H' => ∃ m', m' < m ∧ W m' σ' H', bk := D.nx } σ H) : WhB tb D W m σ H := ⟨_, fun _ _ h => h, q⟩
end
/-! ### data: == and != -/
def txD (l : List Nat) : PyData := .str (S l)
section
variable {K : PySem.W.Frag} {H : Hp} {Q : VK} {p a : Addr} {X : Cx}
theorem can_tx {l : List Nat} (h : ∀ c ∈ l, c < 1114112) : PyData.canLay0 (txD l) = true := by
  show PyData.strOk (S l) = true
  unfold PyData.strOk
  rw [← Array.all_toList]
  exact List.all_eq_true.mpr fun c hc => decide_eq_true (h c hc)
end
theorem sgV_snoc (l : List Nat) (c : Nat) : sgV (l ++ [c]) = sgV l ++ [Tx [c]] := by
  unfold sgV
  rw [List.map_append]
  rfl
theorem sgV_len (l : List Nat) : (sgV l).length = l.length := by
  unfold sgV
  rw [List.length_map]

section
variable {K : PySem.W.Frag} {H : Hp} {Q : VK} {p a : Addr} {xs : List V} {v : V} {i : Nat}
theorem g_isi {x : V} {t u : String} {b : Bool} (ty : TyX K H x (.type t)) (h : kitB t u = some b) (q : Q (.bl b) H) : rIsi K [x, .ty u] H Q := ⟨x, .ty u, .type t, .type u, b, rfl, .ty u, ty, kit_ty h, q⟩
theorem ty_str {x : Str} : TyX K H (.str x) (.type "str") := .base (.str x)
theorem ty_int {n : Int} : TyX K H (.int n) (.type "int") := .base (.int n)
theorem ty_bl {b : Bool} : TyX K H (.bl b) (.type "bool") := .base (.bl b)
theorem ty_lst (h : H p = some (.lst xs)) : TyX K H (.ref p) (.type "list") := .base (.lst h)
theorem ty_tup (h : H p = some (.tup xs)) : TyX K H (.ref p) (.type "tuple") := .base (.tup h)
theorem cut_ints (ns : List Int) (lo hi : Option Int) : ∃ ms : List Int, cutV (ns.map V.int) lo hi = ms.map V.int ∧ ms.length ≤ ns.length := by
  unfold cutV
  refine ⟨(ns.drop (HT.sIx (ns.map V.int).length 0 lo)).take (HT.sIx (ns.map V.int).length (ns.map V.int).length hi - HT.sIx (ns.map V.int).length 0 lo), ?_, ?_⟩
  · rw [List.map_take, List.map_drop]
  · rw [List.length_take, List.length_drop]
    omega
theorem mid_at {α : Type} {xs pre post : List α} {x : α} (e : xs = pre ++ x :: post) : xs[pre.length]? = some x := by
  rw [e]
  simp
end
end Ly

set_option maxHeartbeats 4000000
namespace Ly
open PySem PySem.Spec PyProof.Rows L2 SX
/-! ### zip(text, list) -/
def ItzS (K : PySem.W.Frag) (x : Str) (b : Addr) : It :=
  ⟨fun i H => ∃ (ys : List V) (y : V), i < x.cps.size ∧ SqL K H b ys ∧ ys[i]? = some y,
    fun i H v H' => ∃ T c y, v = .ref T ∧ H T = none ∧ H' = upd H T (.tup [.str ⟨#[c]⟩, y]) ∧ x.cps[i]? = some c ∧ ∀ ys, SqL K H b ys → ys[i]? = some y,
    fun i H => ∃ ys : List V, SqL K H b ys ∧ (i = x.cps.size ∨ i = ys.length) ∧ i ≤ x.cps.size ∧ i ≤ ys.length⟩
def iZipS (K : PySem.W.Frag) (ta : TA) : TI := fun σ H R => ta σ H fun vs H1 => ∃ (l : List Nat) (b : Addr) (ys : List V), vs = [Tx l, .ref b] ∧ SqL K H1 b ys ∧ R (ItzS K (S l) b) H1
/-! ### flat data -/
section
variable {K : PySem.W.Frag} {H : Hp} {Q : VK} {p a : Addr} {xs : List V}
theorem g_rep {n : Nat} (h : H p = some (.lst xs)) (hl : xs.length * n ≤ 100000) (hn : n ≤ 100000) (q : ∀ p H1, H p = none → Same H H1 → H1 p = some (.lst (List.replicate n xs).flatten) → Q (.ref p) H1) : rRep (.ref p) (.int (n : Int)) H Q := by
  refine ⟨p, n, xs, rfl, rfl, h, by omega, by omega, Nat.le_trans (by rw [Int.toNat_natCast]; exact hl) (by decide), ?_⟩
  rw [Int.toNat_natCast]
  exact g_new q
end

/-! ### downward ranges -/
theorem rgc_dn {n : Nat} (h : n ≤ 100000) : RgC ((n : Int) - 1) (-1) (-1) n := by
  have e := RgC.neg (i := (n : Int) - 1) (j := -1) (by omega) (by omega) (by omega) (by omega)
  rw [show ((n : Int) - 1 - -1).toNat = n by omega] at e
  exact e
section
variable {σ : L2.St} {H : Hp} {g : TG} {tb : TS} {D : Ends} {n : Nat}
/-- for k in range(n - 1, -1, -1): Pv k: those from k on are gone through -/
theorem for_dn (Pv : Nat → L2.St → Hp → Prop) (h0 : Pv n σ H)
    (hs : ∀ (k : Nat) σ H, k < n → Pv (k + 1) σ H → g (.int (k : Int)) σ H fun σ2 H2 => tb { D with nx := Pv k, ct := Pv k, bk := D.nx } σ2 H2) (hd : ∀ σ H, Pv 0 σ H → D.nx σ H) : ForR (Itc ((n : Int) - 1) (-1) n) g tb D σ H := by
  refine for_it walk_rangeC (fun i σ H => Pv (n - i) σ H) h0 (fun _ _ _ _ _ => trivial) (fun i x σ H H' hi p y => ?_) (fun σ H p => hd σ H (by rw [Nat.sub_self] at p; exact p))
  obtain ⟨rfl, rfl⟩ := y
  have e : ((n : Int) - 1 + (i : Nat) * -1) = ((n - (i + 1) : Nat) : Int) := by omega
  show g (V.int ((n : Int) - 1 + (i : Nat) * -1)) σ H' fun σ2 H2 => tb { D with nx := Pv (n - (i + 1)), ct := Pv (n - (i + 1)), bk := D.nx } σ2 H2
  rw [e]
  refine hs (n - (i + 1)) σ _ (by omega) ?_
  rw [show n - (i + 1) + 1 = n - i by omega]
  exact p
end
/-! ### a promise that nobody asks -/
theorem cal_false {P : Program} {w : World} {K : PySem.W.Frag} {mg : Str → Option Value} {base : Heap} {x : Str} {st : Stmt} {N ps : List Str} {k : Nat} {sp : Sp} (D : DefAt K mg x st ps) (S : FnScope N ps (defScope st)) (hf : ∀ vs H Q E, ¬ sp vs H Q E) : C8.Cal P w K mg base (k + 1) x sp [] :=
  calD D S (fun vs H Q E h => (hf vs H Q E h).elim) (fun _ _ _ _ _ H vs Q E _ h => (hf vs H Q E h).elim)
end Ly

set_option maxHeartbeats 4000000
namespace Ly
/-! ### stretches, partners -/
/-- the signs from a on and below b -/
def seg (l : List Nat) (a b : Nat) : List Nat := (l.take b).drop a
theorem seg_snoc {l : List Nat} {a n : Nat} (h : a ≤ n) (hn : n < l.length) : seg l a (n + 1) = seg l a n ++ [l[n]] := by
  unfold seg
  rw [List.take_succ_eq_append_getElem hn, List.drop_append_of_le_length (by rw [List.length_take]; omega)]
theorem seg_self {l : List Nat} {a : Nat} : seg l a a = [] := by
  unfold seg
  exact List.drop_eq_nil_of_le (by rw [List.length_take]; omega)
theorem seg_app {l : List Nat} {a b c : Nat} (h1 : a ≤ b) (h2 : b ≤ c) (h3 : b ≤ l.length) : seg l a c = seg l a b ++ seg l b c := by
  unfold seg
  have e : (l.take c).drop a = ((l.take c).take b ++ (l.take c).drop b).drop a := by rw [List.take_append_drop]
  rw [e, List.take_take, Nat.min_eq_left h2, List.drop_append_of_le_length (by rw [List.length_take]; omega)]
theorem seg_len {l : List Nat} {a b : Nat} (h : b ≤ l.length) : (seg l a b).length = b - a := by
  unfold seg
  rw [List.length_drop, List.length_take]
  omega
theorem seg_all {l : List Nat} : seg l 0 l.length = l := by
  unfold seg
  rw [List.take_length, List.drop_zero]
/-- i an opening bracket, j its partner -/
def ptn (l : List Nat) (i j : Nat) : Prop := i < j ∧ ∃ c, l[i]? = some c ∧ c ∈ OPN ∧ l[j]? = some (oth c) ∧ clean (seg l (i + 1) j)
/-! the pile from any begin -/
theorem fold_none : ∀ l : List Nat, l.foldl stp none = none
  | [] => rfl
  | c :: l => by
    rw [List.foldl_cons]
    exact fold_none l
/-- what lies deeper in the pile stays -/
theorem fold_deep : ∀ (l : List Nat) (st r : List Nat) (t : List Nat), l.foldl stp (some st) = some r → l.foldl stp (some (st ++ t)) = some (r ++ t)
  | [], st, r, t, h => by
    cases h
    rfl
  | c :: l, st, r, t, h => by
    rw [List.foldl_cons] at h ⊢
    by_cases h1 : c ∈ OPN
    · rw [stp_opn h1] at h ⊢
      exact fold_deep l (oth c :: st) r t h
    · by_cases h2 : c ∈ CLO
      · cases st with
        | nil =>
          have e : stp (some []) c = none := by unfold stp; simp only [h1, h2, if_true, if_false]
          rw [e, fold_none] at h
          cases h
        | cons d st =>
          by_cases hd : d = c
          · subst hd
            rw [stp_clo h2] at h
            rw [List.cons_append, stp_clo h2]
            exact fold_deep l st r t h
          · have e : stp (some (d :: st)) c = none := by unfold stp; simp only [h1, h2, hd, if_true, if_false]
            rw [e, fold_none] at h
            cases h
      · rw [stp_let h1 h2] at h ⊢
        exact fold_deep l st r t h
theorem run_clean_app {a b : List Nat} (h : clean a) : run (a ++ b) = run b := by
  rw [run_app, h]
  rfl
theorem fold_run {l : List Nat} {st r : List Nat} (h : run l = some r) : l.foldl stp (some st) = some (r ++ st) := by
  have := fold_deep l [] r st h
  simpa using this
/-- a clean text leaves each pile -/
theorem fold_clean {l : List Nat} (h : clean l) (st : Option (List Nat)) : l.foldl stp st = st := by
  cases st with
  | none => exact fold_none l
  | some st => simpa using fold_run (st := st) h
theorem clean_app {a b : List Nat} (h1 : clean a) (h2 : clean b) : clean (a ++ b) := by
  unfold clean
  rw [run_clean_app h1]
  exact h2
theorem clean_nil : clean [] := rfl
theorem clean_pair {c : Nat} {a : List Nat} (hc : c ∈ OPN) (h : clean a) : clean (c :: (a ++ [oth c])) := by
  show (c :: (a ++ [oth c])).foldl stp (some []) = some []
  rw [List.foldl_cons, stp_opn hc, List.foldl_append, fold_clean h]
  exact stp_clo (oth_clo c hc)
/-! ### the program's way -/
/-- what holds of both lists when the signs below n are gone over -/
structure PInv (l : List Nat) (n : Nat) (f : List (Option Nat)) (ws : List Nat) : Prop where
  len : f.length = l.length
  fnd : ∀ i j, f[i]? = some (some j) ↔ (ptn l i j ∧ j < n) ∨ (ptn l j i ∧ i < n)
  opn : ∀ j ∈ ws, j < n ∧ ∃ c, l[j]? = some c ∧ c ∈ OPN
  pile : ∀ k j, ws[k]? = some j → run (seg l (j + 1) n) = some ((ws.take k).map fun j => oth (l.getD j 0))
  all : ∀ i c, i < n → l[i]? = some c → c ∈ OPN → (run (seg l (i + 1) n)).isSome = true → i ∈ ws
  good : ∀ st, run (l.take n) = some st → ws.map (fun j => oth (l.getD j 0)) = st ∧ ∀ i c, i < n → l[i]? = some c → c ∈ BRK → f[i]? = some none → i ∈ ws
  bad : run (l.take n) = none → ∃ i c, i < n ∧ l[i]? = some c ∧ c ∈ CLO ∧ ∀ j, ¬ ptn l j i
/-- one closing bracket closes at most the last that waits -/
theorem PInv.top {l : List Nat} {n c : Nat} {f : List (Option Nat)} {ws : List Nat} (I : PInv l n f ws) (hc : l[n]? = some c) (h2 : c ∈ CLO) {i : Nat} (h : ptn l i n) : ∃ w, ws = i :: w ∧ l[i]? = some (oth c) := by
  obtain ⟨hlt, d, hd, hdo, hnd, hcl⟩ := h
  rw [hnd] at hc
  have ed : oth d = c := Option.some.inj hc
  have hi : i ∈ ws := I.all i d hlt hd hdo (by rw [hcl]; rfl)
  obtain ⟨k, hk⟩ := List.mem_iff_getElem?.mp hi
  have hp := I.pile k i hk
  rw [hcl] at hp
  have hk0 : ws.take k = [] := by
    have := Option.some.inj hp
    exact List.map_eq_nil_iff.mp this.symm
  have hk00 : k = 0 := by
    rcases Nat.eq_zero_or_pos k with h | h
    · exact h
    · exfalso
      have hlen : k < ws.length := (List.getElem?_eq_some_iff.mp hk).1
      have := congrArg List.length hk0
      rw [List.length_take, List.length_nil] at this
      omega
  subst hk00
  cases ws with
  | nil => cases hk
  | cons a w =>
    have : a = i := Option.some.inj hk
    subst this
    refine ⟨w, rfl, ?_⟩
    rw [hd, ← ed, oth_oth d (brk_or.mpr (.inl hdo))]
end Ly

set_option maxHeartbeats 4000000
namespace Ly
theorem clean_let {c : Nat} {r : List Nat} (h1 : c ∉ OPN) (h2 : c ∉ CLO) : clean (c :: r) ↔ clean r := by
  show (c :: r).foldl stp (some []) = some [] ↔ _
  rw [List.foldl_cons, stp_let h1 h2]
  rfl
/-! ### by places -/
theorem seg_cons {l : List Nat} {a b c : Nat} (h : l[a]? = some c) (hb : a < b) (hl : b ≤ l.length) : seg l a b = c :: seg l (a + 1) b := by
  obtain ⟨ha, e⟩ := List.getElem?_eq_some_iff.mp h
  rw [seg_app (b := a + 1) (by omega) (by omega) (by omega), seg_snoc (Nat.le_refl a) ha, seg_self, e]
  rfl
end Ly

set_option maxHeartbeats 4000000
namespace Ly
/-! ### partners found from behind -/
def over (l : List Nat) (m : List (Option Nat)) (s : Nat) : Bool := match l[s]? with
  | none => false
  | some c => if c ∈ CLO then false else if c ∈ OPN then (match m[s]? with | some (some _) => true | _ => false) else true
theorem seg_one {l : List Nat} {a c : Nat} (h : l[a]? = some c) : seg l a (a + 1) = [c] := by
  obtain ⟨hl, e⟩ := List.getElem?_eq_some_iff.mp h
  rw [seg_snoc (Nat.le_refl a) hl, seg_self, e]
  rfl
end Ly

set_option maxHeartbeats 4000000
namespace Ly
/-! ### clean texts put together -/
theorem run_mid {a m b : List Nat} (h : clean m) : run (a ++ m ++ b) = run (a ++ b) := by
  rw [run_app, run_app, fold_clean h, ← run_app]
theorem clean_mid {a m b : List Nat} (h : clean m) : clean (a ++ m ++ b) ↔ clean (a ++ b) := by
  unfold clean
  rw [run_mid h]
end Ly

set_option maxHeartbeats 4000000
namespace Ly
open PySem PySem.Spec PyProof.Rows L2 SX
/-! ### text[i:j] -/
section
variable {K : PySem.W.Frag} {H : Hp} {Q : VK} {p a : Addr} {xs : List V}
end
end Ly

set_option maxHeartbeats 4000000
namespace Ly
/-! ### kinds renamed -/
/-! ### turned about -/
/-- the sign turned -/
def tn (c : Nat) : Nat := if c ∈ BRK then oth c else c
end Ly

set_option maxHeartbeats 4000000
namespace Ly
/-! ### clean stretches counted -/
/-- how many begins of l that are not empty are clean -/
def cp (l : List Nat) : Nat := (List.range l.length).countP fun k => decide (clean (l.take (k + 1)))
def many : List Nat → Nat
  | [] => 0
  | c :: r => cp (c :: r) + many r
/-! sums -/
/-! ### by places -/
def cps (l : List Nat) : List Nat := (List.range (l.length + 1)).map fun i => cp (l.drop i)
/-! ### texts of one kind -/
/-! ### units -/
end Ly

set_option maxHeartbeats 4000000
namespace Ly
open PySem PySem.Spec PyProof.Rows L2 SX PySem.StrLaws
/-! ### pairs struck out -/
def rm (o : Nat) (l : List Nat) : List Nat := replL [o, oth o] [] l
/-! the program's texts -/
end Ly

set_option maxHeartbeats 4000000
namespace Ly
open PySem PySem.Spec PyProof.Rows L2 SX
/-! ### nests in the heap: each inner list is one of its own -/
inductive Nd where
  | let_ (c : Nat)
  | num (i : Int)
  | br (o : Nat) (ds : List Nd)
mutual
inductive TrI (H : Hp) : V → Nd → List Addr → Prop
  | let_ (c : Nat) : TrI H (Tx [c]) (.let_ c) []
  | num (i : Int) : TrI H (.int i) (.num i) []
  | br {t b : Addr} {o : Nat} {xs : List V} {ds : List Nd} {A : List Addr} : H t = some (.tup [Tx [o], .ref b]) → H b = some (.lst xs) → TrIs H xs ds A → TrI H (.ref t) (.br o ds) (b :: A)
inductive TrIs (H : Hp) : List V → List Nd → List Addr → Prop
  | nil : TrIs H [] [] []
  | cons {v : V} {vs : List V} {d : Nd} {ds : List Nd} {A B : List Addr} : TrI H v d A → TrIs H vs ds B → TrIs H (v :: vs) (d :: ds) (A ++ B)
end
/-- all but the lists in C stay -/
def ButS (C : List Addr) (H H' : Hp) : Prop := (∀ x ∈ C, ∃ ys, H x = some (.lst ys)) ∧ ∀ x o, H x = some o → x ∉ C → H' x = some o
theorem ButS.refl (H : Hp) : ButS [] H H := ⟨by simp, fun _ _ h _ => h⟩
theorem ButS.of_same {H H' : Hp} (s : Same H H') : ButS [] H H' := ⟨by simp, fun x o h _ => s x o h⟩
mutual
theorem TrI.frame {H H' : Hp} {C : List Addr} (s : ButS C H H') : ∀ {v : V} {d : Nd} {A : List Addr}, TrI H v d A → (∀ x ∈ A, x ∉ C) → TrI H' v d A
  | _, _, _, .let_ c, _ => .let_ c
  | _, _, _, .num i, _ => .num i
  | _, _, _, @TrI.br _ t b o xs ds A ht hb hs, h => .br (s.2 _ _ ht fun hc => by obtain ⟨ys, e⟩ := s.1 _ hc; rw [ht] at e; cases e) (s.2 _ _ hb (h b (List.mem_cons_self ..))) (TrIs.frame s hs fun x hx => h x (List.mem_cons_of_mem _ hx))
theorem TrIs.frame {H H' : Hp} {C : List Addr} (s : ButS C H H') : ∀ {vs : List V} {ds : List Nd} {A : List Addr}, TrIs H vs ds A → (∀ x ∈ A, x ∉ C) → TrIs H' vs ds A
  | _, _, _, .nil, _ => .nil
  | _, _, _, .cons hi hs, h => .cons (TrI.frame s hi fun x hx => h x (List.mem_append_left _ hx)) (TrIs.frame s hs fun x hx => h x (List.mem_append_right _ hx))
end
theorem TrIs.len {H : Hp} : ∀ {vs : List V} {ds : List Nd} {A : List Addr}, TrIs H vs ds A → vs.length = ds.length
  | _, _, _, .nil => rfl
  | _, _, _, .cons _ hs => by simp [TrIs.len hs]
theorem TrIs.app {H : Hp} : ∀ {vs ws : List V} {ds es : List Nd} {A B : List Addr}, TrIs H vs ds A → TrIs H ws es B → TrIs H (vs ++ ws) (ds ++ es) (A ++ B)
  | _, _, _, _, _, _, .nil, h => h
  | _, _, _, _, _, _, .cons hi hs, h => by
    rw [List.append_assoc]
    exact .cons hi (TrIs.app hs h)
theorem TrIs.snoc {H : Hp} {vs : List V} {v : V} {ds : List Nd} {d : Nd} {A B : List Addr} (h : TrIs H vs ds A) (h1 : TrI H v d B) : TrIs H (vs ++ [v]) (ds ++ [d]) (A ++ B) := by
  have := TrIs.app h (.cons h1 .nil)
  simpa using this
theorem TrIs.split {H : Hp} : ∀ {vs ws : List V} {ds : List Nd} {A : List Addr}, TrIs H (vs ++ ws) ds A → ∃ ds1 ds2 A1 A2, ds = ds1 ++ ds2 ∧ A = A1 ++ A2 ∧ TrIs H vs ds1 A1 ∧ TrIs H ws ds2 A2
  | [], ws, ds, A, h => ⟨[], ds, [], A, rfl, rfl, .nil, h⟩
  | v :: vs, ws, _, _, .cons hi hs => by
    obtain ⟨ds1, ds2, A1, A2, rfl, rfl, h1, h2⟩ := TrIs.split hs
    exact ⟨_ :: ds1, ds2, _ ++ A1, A2, rfl, by rw [List.append_assoc], .cons hi h1, h2⟩
/-! depth, size -/
mutual
def Nd.deep : Nd → Nat
  | .br _ ds => Nd.deeps ds + 1
  | _ => 0
def Nd.deeps : List Nd → Nat
  | [] => 0
  | d :: ds => max (Nd.deep d) (Nd.deeps ds)
end
/-! ### numbered -/
end Ly
namespace Ly
open PySem PySem.Spec PyProof.Rows L2 SX
theorem ButS.trans {C D : List Addr} {H H1 H2 : Hp} (x : ButS C H H1) (y : ButS D H1 H2) (hD : ∀ a ∈ D, ∃ ys, H a = some (.lst ys)) : ButS (C ++ D) H H2 := by
  refine ⟨fun a ha => ?_, fun a o h hn => ?_⟩
  · rcases List.mem_append.mp ha with ha | ha
    · exact x.1 a ha
    · exact hD a ha
  · rw [List.mem_append, not_or] at hn
    exact y.2 a o (x.2 a o h hn.1) hn.2
theorem ButS.but {b : Addr} {xs : List V} {H H1 : Hp} (h : H b = some (.lst xs)) (y : But b H H1) : ButS [b] H H1 := by
  refine ⟨fun a ha => ?_, fun a o h hn => y a o (fun e => hn (by rw [e]; simp)) h⟩
  rw [List.mem_singleton] at ha
  rw [ha]
  exact ⟨_, h⟩
theorem TrI.same {H H' : Hp} (s : Same H H') {v : V} {d : Nd} {A : List Addr} (h : TrI H v d A) : TrI H' v d A := TrI.frame (ButS.of_same s) h (by simp)
theorem TrIs.same {H H' : Hp} (s : Same H H') {v : List V} {d : List Nd} {A : List Addr} (h : TrIs H v d A) : TrIs H' v d A := TrIs.frame (ButS.of_same s) h (by simp)
end Ly

set_option maxHeartbeats 4000000
namespace Ly
open PySem PySem.Spec PyProof.Rows L2 SX
/-! ### a nest being made: the list b hangs in open frames -/
inductive Ctx (H : Hp) : Addr → List Addr → List (List Nd × Nat) → List Addr → Prop
  | nil (b : Addr) : Ctx H b [] [] []
  | cons {b b0 t : Addr} {bs : List Addr} {fs : List (List Nd × Nat)} {A A0 : List Addr} {xs0 : List V} {ds0 : List Nd} {o : Nat} : H b0 = some (.lst (xs0 ++ [.ref t])) → TrIs H xs0 ds0 A0 → H t = some (.tup [Tx [o], .ref b]) → Ctx H b0 bs fs A → Ctx H b (b0 :: bs) ((ds0, o) :: fs) (b0 :: (A0 ++ A))
theorem Ctx.frame {H H' : Hp} {C : List Addr} (s : ButS C H H') : ∀ {b : Addr} {bs : List Addr} {fs : List (List Nd × Nat)} {A : List Addr}, Ctx H b bs fs A → (∀ x ∈ A, x ∉ C) → Ctx H' b bs fs A
  | _, _, _, _, .nil b, _ => .nil b
  | _, _, _, _, .cons h1 h2 h3 h4, h => .cons (s.2 _ _ h1 (h _ (List.mem_cons_self ..))) (TrIs.frame s h2 fun x hx => h x (List.mem_cons_of_mem _ (List.mem_append_left _ hx))) (s.2 _ _ h3 fun hc => by obtain ⟨ys, e⟩ := s.1 _ hc; rw [h3] at e; cases e) (Ctx.frame s h4 fun x hx => h x (List.mem_cons_of_mem _ (List.mem_append_right _ hx)))
theorem Ctx.len {H : Hp} : ∀ {b : Addr} {bs : List Addr} {fs : List (List Nd × Nat)} {A : List Addr}, Ctx H b bs fs A → bs.length = fs.length
  | _, _, _, _, .nil b => rfl
  | _, _, _, _, .cons _ _ _ h4 => by simp [Ctx.len h4]
/-- the whole state: the open list, its frames, all lists unlike and new since H0 -/
structure Bld (N : Addr → Prop) (H : Hp) (b : Addr) (bs : List Addr) (fs : List (List Nd × Nat)) (cur : List Nd) : Prop where
  ex : ∃ xs A1 A, H b = some (.lst xs) ∧ TrIs H xs cur A1 ∧ Ctx H b bs fs A ∧ (b :: (A1 ++ A)).Nodup ∧ ∀ x ∈ b :: (A1 ++ A), N x
theorem Bld.start {N : Addr → Prop} {H : Hp} {b : Addr} (h : H b = some (.lst [])) (n : N b) : Bld N H b [] [] [] := ⟨[], [], [], h, .nil, .nil b, by simp, by simpa using n⟩
/-- nothing of it is touched -/
theorem Bld.same {N : Addr → Prop} {H H' : Hp} {b : Addr} {bs : List Addr} {fs : List (List Nd × Nat)} {cur : List Nd} (B : Bld N H b bs fs cur) (s : Same H H') : Bld N H' b bs fs cur := by
  obtain ⟨xs, A1, A, h1, h2, h3, h4, h5⟩ := B.ex
  exact ⟨xs, A1, A, s _ _ h1, TrIs.same s h2, Ctx.frame (ButS.of_same s) h3 (by simp), h4, h5⟩
theorem Bld.but {N : Addr → Prop} {H H' : Hp} {b p : Addr} {bs : List Addr} {fs : List (List Nd × Nat)} {cur : List Nd} {ys : List V} (B : Bld N H b bs fs cur) (s : But p H H') (hp : H p = some (.lst ys)) (hn : ¬ N p) : Bld N H' b bs fs cur := by
  obtain ⟨xs, A1, A, h1, h2, h3, h4, h5⟩ := B.ex
  have bs := ButS.but hp s
  have hno : ∀ x ∈ b :: (A1 ++ A), x ∉ [p] := fun x hx hc => by
    rw [List.mem_singleton] at hc
    rw [hc] at hx
    exact hn (h5 p hx)
  exact ⟨xs, A1, A, bs.2 _ _ h1 (hno b (List.mem_cons_self ..)), TrIs.frame bs h2 fun x hx => hno x (List.mem_cons_of_mem _ (List.mem_append_left _ hx)), Ctx.frame bs h3 fun x hx => hno x (List.mem_cons_of_mem _ (List.mem_append_right _ hx)), h4, h5⟩
theorem Bld.cur {N : Addr → Prop} {H : Hp} {b : Addr} {bs : List Addr} {fs : List (List Nd × Nat)} {cur : List Nd} (B : Bld N H b bs fs cur) : ∃ xs, H b = some (.lst xs) ∧ xs.length = cur.length ∧ N b ∧ bs.length = fs.length := by
  obtain ⟨xs, A1, A, h1, h2, h3, h4, h5⟩ := B.ex
  exact ⟨xs, h1, TrIs.len h2, h5 b (List.mem_cons_self ..), Ctx.len h3⟩
/-- a letter behind -/
theorem Bld.letter {N : Addr → Prop} {H H' : Hp} {b : Addr} {bs : List Addr} {fs : List (List Nd × Nat)} {cur : List Nd} {xs : List V} {c : Nat} (B : Bld N H b bs fs cur) (hb : H b = some (.lst xs)) (s : But b H H') (e : H' b = some (.lst (xs ++ [Tx [c]]))) : Bld N H' b bs fs (cur ++ [.let_ c]) := by
  obtain ⟨xs', A1, A, h1, h2, h3, h4, h5⟩ := B.ex
  rw [hb] at h1
  cases h1
  have bs := ButS.but hb s
  have hn := List.nodup_cons.mp h4
  have hno : ∀ x ∈ A1 ++ A, x ∉ [b] := fun x hx hc => by
    rw [List.mem_singleton] at hc
    rw [hc] at hx
    exact hn.1 hx
  have h2' := TrIs.snoc (TrIs.frame bs h2 fun x hx => hno x (List.mem_append_left _ hx)) (TrI.let_ (H := H') c)
  rw [List.append_nil] at h2'
  exact ⟨_, A1, A, e, h2', Ctx.frame bs h3 fun x hx => hno x (List.mem_append_right _ hx), h4, h5⟩
/-- a bracket closed -/
theorem Bld.close {N : Addr → Prop} {H : Hp} {b : Addr} {bs : List Addr} {fs : List (List Nd × Nat)} {cur ds0 : List Nd} {o : Nat} (B : Bld N H b bs ((ds0, o) :: fs) cur) : ∃ b0 bs0, bs = b0 :: bs0 ∧ Bld N H b0 bs0 fs (ds0 ++ [.br o cur]) := by
  obtain ⟨xs, A1, A, h1, h2, h3, h4, h5⟩ := B.ex
  cases h3 with
  | @cons _ b0 t bs0 _ A' A0 xs0 _ _ k1 k2 k3 k4 =>
    refine ⟨b0, bs0, rfl, ⟨xs0 ++ [.ref t], A0 ++ (b :: A1), A', k1, TrIs.snoc k2 (.br k3 h1 h2), k4, ?_, ?_⟩⟩
    · refine List.Perm.nodup (List.perm_iff_count.mpr fun a => ?_) h4
      simp only [List.count_cons, List.count_append]
      omega
    · intro x hx
      refine h5 x ?_
      simp only [List.mem_cons, List.mem_append] at hx ⊢
      rcases hx with rfl | ((hx | rfl | hx) | hx)
      · exact .inr (.inr (.inl rfl))
      · exact .inr (.inr (.inr (.inl hx)))
      · exact .inl rfl
      · exact .inr (.inl hx)
      · exact .inr (.inr (.inr (.inr hx)))
/-! ### what the text tells -/
def nstep (s : List (List Nd × Nat) × List Nd) (c : Nat) : List (List Nd × Nat) × List Nd :=
  if c ∈ CLO then (match s.1 with | (ds, o) :: fs => (fs, ds ++ [.br o s.2]) | [] => s) else if c ∈ OPN then ((s.2, c) :: s.1, []) else (s.1, s.2 ++ [.let_ c])
def nst (l : List Nat) : List (List Nd × Nat) × List Nd := l.foldl nstep ([], [])
theorem nst_snoc (l : List Nat) (c : Nat) : nst (l ++ [c]) = nstep (nst l) c := by
  unfold nst
  rw [List.foldl_append]
  rfl
/-- the frames are the pile -/
theorem fold_nst : ∀ (l st : List Nat) (fs : List (List Nd × Nat)) (cur : List Nd) (r : List Nat), st = fs.map (fun p => oth p.2) → l.foldl stp (some st) = some r → r = (l.foldl nstep (fs, cur)).1.map fun p => oth p.2
  | [], st, fs, cur, r, h, e => by
    cases e
    exact h
  | c :: l, st, fs, cur, r, h, e => by
    rw [List.foldl_cons] at e ⊢
    by_cases h1 : c ∈ OPN
    · have h2 : c ∉ CLO := opn_clo c h1
      rw [stp_opn h1] at e
      have en : nstep (fs, cur) c = ((cur, c) :: fs, []) := by unfold nstep; rw [if_neg h2, if_pos h1]
      rw [en]
      exact fold_nst l _ _ _ r (by rw [h]; rfl) e
    · by_cases h2 : c ∈ CLO
      · cases fs with
        | nil =>
          subst h
          have e0 : stp (some (List.map (fun p : List Nd × Nat => oth p.2) [])) c = none := by
            show stp (some []) c = none
            unfold stp
            simp only [h1, h2, if_true, if_false]
          rw [e0, fold_none] at e
          cases e
        | cons f fs =>
          obtain ⟨ds, o⟩ := f
          subst h
          by_cases hd : oth o = c
          · have e0 : stp (some (List.map (fun p : List Nd × Nat => oth p.2) ((ds, o) :: fs))) c = some (fs.map fun p => oth p.2) := by
              show stp (some (oth o :: fs.map fun p => oth p.2)) c = _
              rw [hd, stp_clo h2]
            rw [e0] at e
            have en : nstep ((ds, o) :: fs, cur) c = (fs, ds ++ [.br o cur]) := by unfold nstep; rw [if_pos h2]
            rw [en]
            exact fold_nst l _ _ _ r rfl e
          · have e0 : stp (some (List.map (fun p : List Nd × Nat => oth p.2) ((ds, o) :: fs))) c = none := by
              show stp (some (oth o :: fs.map fun p => oth p.2)) c = none
              unfold stp
              simp only [h1, h2, hd, if_true, if_false]
            rw [e0, fold_none] at e
            cases e
      · rw [stp_let h1 h2] at e
        have en : nstep (fs, cur) c = (fs, cur ++ [.let_ c]) := by unfold nstep; rw [if_neg h2, if_neg h1]
        rw [en]
        exact fold_nst l _ _ _ r h e
theorem nst_run {l st : List Nat} (h : run l = some st) : st = (nst l).1.map fun p => oth p.2 := fold_nst l [] [] [] st rfl h
/-- a closing bracket in a clean text closes one -/
theorem nst_clo {l pre post : List Nat} {c : Nat} (h : clean l) (e : l = pre ++ c :: post) (hc : c ∈ CLO) : ∃ ds o fs, (nst pre).1 = (ds, o) :: fs ∧ oth o = c := by
  have h1 : c ∉ OPN := fun h1 => opn_clo c h1 hc
  have h' : run (pre ++ c :: post) = some [] := by rw [← e]; exact h
  rw [run_app, List.foldl_cons] at h'
  cases hr : run pre with
  | none =>
    rw [hr] at h'
    have : stp none c = none := rfl
    rw [this, fold_none] at h'
    cases h'
  | some st =>
    have hst := nst_run hr
    rw [hr] at h'
    cases hf : (nst pre).1 with
    | nil =>
      rw [hf] at hst
      subst hst
      have e0 : stp (some (List.map (fun p : List Nd × Nat => oth p.2) [])) c = none := by
        show stp (some []) c = none
        unfold stp
        simp only [h1, hc, if_true, if_false]
      rw [e0, fold_none] at h'
      cases h'
    | cons f fs =>
      obtain ⟨ds, o⟩ := f
      rw [hf] at hst
      refine ⟨ds, o, fs, rfl, ?_⟩
      by_cases hd : oth o = c
      · exact hd
      · exfalso
        subst hst
        have e0 : stp (some (List.map (fun p : List Nd × Nat => oth p.2) ((ds, o) :: fs))) c = none := by
          show stp (some (oth o :: fs.map fun p => oth p.2)) c = none
          unfold stp
          simp only [h1, hc, hd, if_true, if_false]
        rw [e0, fold_none] at h'
        cases h'
end Ly
namespace Ly
end Ly
namespace Ly
end Ly

set_option maxHeartbeats 4000000
namespace Ly
open PySem PySem.Spec PyProof.Rows L2 SX
/-! ### == and != of deep data -/
section
variable {X : Cx}
end
/-! nests as data -/
end Ly
namespace Ly
open PySem PySem.Spec PyProof.Rows L2 SX
end Ly
namespace Ly
open PySem PySem.Spec PyProof.Rows L2 SX
end Ly
namespace Ly
end Ly

set_option maxHeartbeats 4000000
namespace Ly
open PySem PySem.Spec PyProof.Rows L2 SX
/-! ### more steps -/
theorem kb_str_str : kitB "str" "str" = some true := by decide +kernel
theorem kb_str_int : kitB "str" "int" = some false := by decide +kernel
theorem kb_str_bool : kitB "str" "bool" = some false := by decide +kernel
theorem kb_str_list : kitB "str" "list" = some false := by decide +kernel
theorem kb_str_tuple : kitB "str" "tuple" = some false := by decide +kernel
theorem kb_int_str : kitB "int" "str" = some false := by decide +kernel
theorem kb_int_int : kitB "int" "int" = some true := by decide +kernel
theorem kb_int_bool : kitB "int" "bool" = some false := by decide +kernel
theorem kb_int_list : kitB "int" "list" = some false := by decide +kernel
theorem kb_int_tuple : kitB "int" "tuple" = some false := by decide +kernel
theorem kb_bool_str : kitB "bool" "str" = some false := by decide +kernel
theorem kb_bool_int : kitB "bool" "int" = some true := by decide +kernel
theorem kb_bool_bool : kitB "bool" "bool" = some true := by decide +kernel
theorem kb_bool_list : kitB "bool" "list" = some false := by decide +kernel
theorem kb_bool_tuple : kitB "bool" "tuple" = some false := by decide +kernel
theorem kb_list_str : kitB "list" "str" = some false := by decide +kernel
theorem kb_list_int : kitB "list" "int" = some false := by decide +kernel
theorem kb_list_bool : kitB "list" "bool" = some false := by decide +kernel
theorem kb_list_list : kitB "list" "list" = some true := by decide +kernel
theorem kb_list_tuple : kitB "list" "tuple" = some false := by decide +kernel
theorem kb_tuple_str : kitB "tuple" "str" = some false := by decide +kernel
theorem kb_tuple_int : kitB "tuple" "int" = some false := by decide +kernel
theorem kb_tuple_bool : kitB "tuple" "bool" = some false := by decide +kernel
theorem kb_tuple_list : kitB "tuple" "list" = some false := by decide +kernel
theorem kb_tuple_tuple : kitB "tuple" "tuple" = some true := by decide +kernel
theorem kb_NoneType_str : kitB "NoneType" "str" = some false := by decide +kernel
theorem kb_NoneType_int : kitB "NoneType" "int" = some false := by decide +kernel
theorem kb_NoneType_bool : kitB "NoneType" "bool" = some false := by decide +kernel
theorem kb_NoneType_list : kitB "NoneType" "list" = some false := by decide +kernel
theorem kb_NoneType_tuple : kitB "NoneType" "tuple" = some false := by decide +kernel
theorem kb_dict_str : kitB "dict" "str" = some false := by decide +kernel
theorem kb_dict_int : kitB "dict" "int" = some false := by decide +kernel
theorem kb_dict_bool : kitB "dict" "bool" = some false := by decide +kernel
theorem kb_dict_list : kitB "dict" "list" = some false := by decide +kernel
theorem kb_dict_tuple : kitB "dict" "tuple" = some false := by decide +kernel
section
variable {K : PySem.W.Frag} {σ : L2.St} {H : Hp} {Q : VK} {A B : Prop} {p a : Addr} {xs : List V} {v : V} {i : Int}
theorem g_T (q : A) : ∃ k, V.bl true = V.bl k ∧ if k = true then A else B := ⟨true, rfl, by rw [if_pos rfl]; exact q⟩
theorem g_F (q : B) : ∃ k, V.bl false = V.bl k ∧ if k = true then A else B := ⟨false, rfl, by rw [if_neg Bool.false_ne_true]; exact q⟩
theorem g_NT (q : B) : ∃ k, V.bl true = V.bl k ∧ if (!k) = true then A else B := ⟨true, rfl, q⟩
theorem g_NF (q : A) : ∃ k, V.bl false = V.bl k ∧ if (!k) = true then A else B := ⟨false, rfl, q⟩
theorem g_nT (q : A) : ∃ k, V.bl (!true) = V.bl k ∧ if k = true then B else A := ⟨false, rfl, q⟩
theorem g_nF (q : B) : ∃ k, V.bl (!false) = V.bl k ∧ if k = true then B else A := ⟨true, rfl, q⟩
theorem g_Td {c : Prop} [Decidable c] (h : c) (q : A) : ∃ k, V.bl (decide c) = V.bl k ∧ if k = true then A else B := by rw [decide_eq_true h]; exact g_T q
theorem g_Fd {c : Prop} [Decidable c] (h : ¬ c) (q : B) : ∃ k, V.bl (decide c) = V.bl k ∧ if k = true then A else B := by rw [decide_eq_false h]; exact g_F q
theorem g_NTd {c : Prop} [Decidable c] (h : c) (q : B) : ∃ k, V.bl (decide c) = V.bl k ∧ if (!k) = true then A else B := by rw [decide_eq_true h]; exact g_NT q
theorem g_NFd {c : Prop} [Decidable c] (h : ¬ c) (q : A) : ∃ k, V.bl (decide c) = V.bl k ∧ if (!k) = true then A else B := by rw [decide_eq_false h]; exact g_NF q
theorem g_nTd {c : Prop} [Decidable c] (h : c) (q : B) : ∃ k, V.bl (!decide c) = V.bl k ∧ if k = true then A else B := by rw [decide_eq_true h]; exact g_F q
theorem g_nFd {c : Prop} [Decidable c] (h : ¬ c) (q : A) : ∃ k, V.bl (!decide c) = V.bl k ∧ if k = true then A else B := by rw [decide_eq_false h]; exact g_T q
/-- a test that is told as a truth R of its answer -/
theorem g_RT {R : Bool → Hp → Prop} (q : R true H) : ∃ k, V.bl true = V.bl k ∧ R k H := ⟨_, rfl, q⟩
theorem g_RF {R : Bool → Hp → Prop} (q : R false H) : ∃ k, V.bl false = V.bl k ∧ R k H := ⟨_, rfl, q⟩
theorem g_RTd {c : Prop} [Decidable c] {R : Bool → Hp → Prop} (h : c) (q : R true H) : ∃ k, V.bl (decide c) = V.bl k ∧ R k H := ⟨_, rfl, by rw [decide_eq_true h]; exact q⟩
theorem g_RFd {c : Prop} [Decidable c] {R : Bool → Hp → Prop} (h : ¬ c) (q : R false H) : ∃ k, V.bl (decide c) = V.bl k ∧ R k H := ⟨_, rfl, by rw [decide_eq_false h]; exact q⟩
theorem g_eqS {x : V} (h : scal x x = true) (q : Q (.bl true) H) : rEq x x H Q := ⟨h, by rw [decide_eq_true rfl]; exact q⟩
theorem g_neS {x : V} (h : scal x x = true) (q : Q (.bl false) H) : rNe x x H Q := ⟨h, by rw [decide_eq_true rfl]; exact q⟩
theorem g_ixAU3 (h : H p = some (.tup xs)) (h1 : atI xs i = some v) (q : Q v H) : rIx K (.ref p) (.int i) H Q := .inr (.inl (g_ixU (st_of h) h1 q))
theorem g_ixAL3 (h : H p = some (.lst xs)) (h1 : atI xs i = some v) (q : Q v H) : rIx K (.ref p) (.int i) H Q := .inl (g_ixL (sq_of h) h1 q)
theorem g_ixU3 (h : H p = some (.tup xs)) (h1 : atI xs i = some v) (q : Q v H) : rIxT K (.ref p) (.int i) H Q := g_ixU (st_of h) h1 q
theorem g_lenL3 (h : H p = some (.lst xs)) (q : Q (.int xs.length) H) : rLenL K [.ref p] H Q := g_lenL (sq_of h) q
theorem g_lenU3 (h : H p = some (.tup xs)) (q : Q (.int xs.length) H) : rLenL K [.ref p] H Q := g_lenU (st_of h) q
theorem ty_non : TyX K H .non (.type "NoneType") := .base .non
theorem g_tyL3 (h : H p = some (.lst xs)) (q : A) : tyV K "list" (.ref p) H ∧ A := ⟨g_tyL (sq_of h), q⟩
end
end Ly

set_option maxHeartbeats 4000000
namespace Ly
open PySem PySem.Spec PyProof.Rows L2 SX
/-! ### outlines -/
theorem Bld.closes {N : Addr → Prop} {H : Hp} {l : List Nat} (hc : clean l) : ∀ (cl pre post : List Nat) (b : Addr) (bs : List Addr), l = pre ++ (cl ++ post) → (∀ d ∈ cl, d ∈ CLO) → Bld N H b bs (nst pre).1 (nst pre).2 →
    ∃ b' bs', (b :: bs).drop cl.length = b' :: bs' ∧ Bld N H b' bs' (nst (pre ++ cl)).1 (nst (pre ++ cl)).2
  | [], pre, post, b, bs, e, h, B => ⟨b, bs, rfl, by rw [List.append_nil]; exact B⟩
  | c :: cl, pre, post, b, bs, e, h, B => by
    have hk := h c (List.mem_cons_self ..)
    obtain ⟨ds, o, fs, hf, _⟩ := nst_clo (post := cl ++ post) hc e hk
    rw [hf] at B
    obtain ⟨b0, bs0, rfl, B0⟩ := B.close
    have en : nst (pre ++ [c]) = (fs, ds ++ [.br o (nst pre).2]) := by
      rw [nst_snoc]
      unfold nstep
      rw [if_pos hk, hf]
    obtain ⟨b', bs', h1, h2⟩ := Bld.closes hc cl (pre ++ [c]) post b0 bs0 (by rw [e]; simp) (fun d hd => h d (List.mem_cons_of_mem _ hd)) (by rw [en]; exact B0)
    refine ⟨b', bs', by simpa using h1, ?_⟩
    rw [show pre ++ c :: cl = pre ++ [c] ++ cl by simp]
    exact h2
/-! ### text.split(sign) -/
section
variable {X : Cx}
end
end Ly

set_option maxHeartbeats 4000000
namespace Ly
open PySem PySem.Spec PyProof.Rows L2 SX
/-! ### sorted(text) -/
section
variable {prog : Program} {w : World} {A : Around} {E : Value → Shared → Prop} {s : Shared}
end
section
variable {X : Cx}
end
end Ly

set_option maxHeartbeats 4000000
namespace Ly
open PySem PySem.Spec PyProof.Rows L2 SX
/-! ### text[::-1] -/
section
variable {X : Cx}
def rRevT (x : V) (H : Hp) (Q : VK) : Prop := ∃ l : List Nat, x = Tx l ∧ l.length ≤ 100000 ∧ Q (Tx l.reverse) H
def tRevS (te : TE) : TE := fun σ H Q => te σ H fun x H1 => rRevT x H1 Q
def rReplT (y z : List Nat) (x : V) (H : Hp) (Q : VK) : Prop := ∃ l : List Nat, x = Tx l ∧ l.length ≤ 1000 ∧ z.length ≤ 10 ∧ Q (.str (Txt.replace (S l) (S y) (S z))) H
def tReplT (to : TE) (y z : List Nat) : TE := fun σ H Q => to σ H fun v H1 => rReplT y z v H1 Q
end
end Ly
namespace Ly
open PySem PySem.Spec PyProof.Rows L2 SX PySem.StrLaws
end Ly

set_option maxHeartbeats 4000000
namespace Ly
/-! ### least numbers of deeds: strikes and turns -/
/-- how many of two brackets are to be turned -/
def tns (c d : Nat) : Nat := if c ∈ CLO ∨ d ∈ OPN then (if c ∈ CLO then 1 else 0) + (if d ∈ OPN then 1 else 0) else if knd c = knd d then 0 else 1
inductive Mn (l : List Nat) : Nat → Nat → Nat → Prop
  | nil (i : Nat) : Mn l i i 0
  | let_ {i j n c : Nat} : l[i]? = some c → c ∉ BRK → Mn l (i + 1) j n → Mn l i j n
  | str {i j n c : Nat} : l[i]? = some c → c ∈ BRK → Mn l (i + 1) j n → Mn l i j (n + 1)
  | pair {i m j a b c d : Nat} : l[i]? = some c → c ∈ BRK → l[m]? = some d → d ∈ BRK → Mn l (i + 1) m a → Mn l (m + 1) j b → Mn l i j (tns c d + a + b)
theorem Mn.le {l : List Nat} {i j n : Nat} (h : Mn l i j n) : i ≤ j := by
  induction h with
  | nil i => exact Nat.le_refl _
  | let_ _ _ _ ih => omega
  | str _ _ _ ih => omega
  | pair _ _ _ _ _ _ ih1 ih2 => omega
theorem Mn.self {l : List Nat} {i n : Nat} (h : Mn l i i n) : n = 0 := by
  cases h with
  | nil => rfl
  | let_ _ _ h => have := h.le; omega
  | str _ _ h => have := h.le; omega
  | pair _ _ _ _ h1 h2 => have := h1.le; have := h2.le; omega
theorem Mn.app {l : List Nat} {i m j a b : Nat} (h : Mn l i m a) (h2 : Mn l m j b) : Mn l i j (a + b) := by
  induction h with
  | nil i => rw [Nat.zero_add]; exact h2
  | let_ e1 e2 _ ih => exact .let_ e1 e2 (ih h2)
  | @str i j n c e1 e2 _ ih =>
    rw [show n + 1 + b = n + b + 1 by omega]
    exact .str e1 e2 (ih h2)
  | @pair i m j a b' c d e1 e2 e3 e4 h3 _ _ ih =>
    rw [Nat.add_assoc]
    exact .pair e1 e2 e3 e4 h3 (ih h2)
theorem Mn.one_str {l : List Nat} {i c : Nat} (e : l[i]? = some c) (h : c ∈ BRK) : Mn l i (i + 1) 1 := .str e h (.nil _)
theorem Mn.last {l : List Nat} {i j n : Nat} (h : Mn l i j n) : i < j → ∃ c, l[j - 1]? = some c ∧ ((c ∉ BRK ∧ Mn l i (j - 1) n) ∨ (c ∈ BRK ∧ ((∃ n', n = n' + 1 ∧ Mn l i (j - 1) n') ∨ ∃ m d a b, i ≤ m ∧ m < j - 1 ∧ l[m]? = some d ∧ d ∈ BRK ∧ Mn l i m a ∧ Mn l (m + 1) (j - 1) b ∧ n = tns d c + a + b))) := by
  induction h with
  | nil i => intro h; omega
  | @let_ i j n c e1 e2 h ih =>
    intro hij
    by_cases hj : i + 1 = j
    · subst hj
      have := h.self
      subst this
      exact ⟨c, by simpa using e1, .inl ⟨e2, .nil _⟩⟩
    · obtain ⟨c', h1, h2⟩ := ih (by have := h.le; omega)
      refine ⟨c', h1, ?_⟩
      rcases h2 with ⟨h2, h3⟩ | ⟨h2, ⟨n', rfl, h3⟩ | ⟨m, d, a, b, g1, g2, g3, g4, g5, g6, rfl⟩⟩
      · exact .inl ⟨h2, .let_ e1 e2 h3⟩
      · exact .inr ⟨h2, .inl ⟨n', rfl, .let_ e1 e2 h3⟩⟩
      · exact .inr ⟨h2, .inr ⟨m, d, a, b, by omega, g2, g3, g4, .let_ e1 e2 g5, g6, rfl⟩⟩
  | @str i j n c e1 e2 h ih =>
    intro hij
    by_cases hj : i + 1 = j
    · subst hj
      have := h.self
      subst this
      exact ⟨c, by simpa using e1, .inr ⟨e2, .inl ⟨0, rfl, .nil _⟩⟩⟩
    · obtain ⟨c', h1, h2⟩ := ih (by have := h.le; omega)
      refine ⟨c', h1, ?_⟩
      rcases h2 with ⟨h2, h3⟩ | ⟨h2, ⟨n', rfl, h3⟩ | ⟨m, d, a, b, g1, g2, g3, g4, g5, g6, rfl⟩⟩
      · exact .inl ⟨h2, .str e1 e2 h3⟩
      · exact .inr ⟨h2, .inl ⟨n' + 1, rfl, .str e1 e2 h3⟩⟩
      · exact .inr ⟨h2, .inr ⟨m, d, a + 1, b, by omega, g2, g3, g4, .str e1 e2 g5, g6, by omega⟩⟩
  | @pair i m j a b c d e1 e2 e3 e4 h1 h2 ih1 ih2 =>
    intro hij
    by_cases hj : m + 1 = j
    · subst hj
      have := h2.self
      subst this
      have hm := h1.le
      exact ⟨d, by simpa using e3, .inr ⟨e4, .inr ⟨i, c, 0, a, Nat.le_refl _, by omega, e1, e2, .nil _, by simpa using h1, by omega⟩⟩⟩
    · have hm := h1.le
      obtain ⟨c', g1, g2⟩ := ih2 (by have := h2.le; omega)
      refine ⟨c', g1, ?_⟩
      rcases g2 with ⟨g2, g3⟩ | ⟨g2, ⟨n', rfl, g3⟩ | ⟨m', d', a', b', k1, k2, k3, k4, k5, k6, rfl⟩⟩
      · exact .inl ⟨g2, .pair e1 e2 e3 e4 h1 g3⟩
      · exact .inr ⟨g2, .inl ⟨tns c d + a + n', by omega, .pair e1 e2 e3 e4 h1 g3⟩⟩
      · exact .inr ⟨g2, .inr ⟨m', d', tns c d + a + a', b', by omega, k2, k3, k4, .pair e1 e2 e3 e4 h1 k5, k6, by omega⟩⟩
/-- the least that is so -/
def Lst (P : Nat → Prop) (n : Nat) : Prop := P n ∧ ∀ m, P m → n ≤ m
theorem Lst.ex {P : Nat → Prop} : ∀ n, P n → ∃ n, Lst P n := by
  intro n
  induction n using Nat.strongRecOn with
  | ind n ih =>
    intro h
    by_cases hm : ∃ m, m < n ∧ P m
    · obtain ⟨m, h1, h2⟩ := hm
      exact ih m h1 h2
    · exact ⟨n, h, fun m hp => Nat.le_of_not_lt fun hlt => hm ⟨m, hlt, hp⟩⟩
theorem Lst.uniq {P : Nat → Prop} {n m : Nat} (h1 : Lst P n) (h2 : Lst P m) : n = m := Nat.le_antisymm (h1.2 m h2.1) (h2.2 n h1.1)
open Classical in
noncomputable def lstN (l : List Nat) (i j : Nat) : Nat := if h : ∃ n, Lst (Mn l i j) n then Classical.choose h else 0
theorem Mn.ex (l : List Nat) : ∀ (k i : Nat), i + k ≤ l.length → ∃ n, Mn l i (i + k) n
  | 0, i, _ => ⟨0, .nil _⟩
  | k + 1, i, h => by
    obtain ⟨n, hn⟩ := Mn.ex l k (i + 1) (by omega)
    rw [show i + 1 + k = i + (k + 1) by omega] at hn
    have e : l[i]? = some l[i] := List.getElem?_eq_getElem (by omega)
    by_cases hb : l[i] ∈ BRK
    · exact ⟨n + 1, .str e hb hn⟩
    · exact ⟨n, .let_ e hb hn⟩
theorem lstN_spec {l : List Nat} {i j : Nat} (h1 : i ≤ j) (h2 : j ≤ l.length) : Lst (Mn l i j) (lstN l i j) := by
  have hx : ∃ n, Lst (Mn l i j) n := by
    obtain ⟨n, hn⟩ := Mn.ex l (j - i) i (by omega)
    rw [show i + (j - i) = j by omega] at hn
    exact Lst.ex n hn
  unfold lstN
  rw [dif_pos hx]
  exact Classical.choose_spec hx
theorem lstN_of {l : List Nat} {i j n : Nat} (h1 : i ≤ j) (h2 : j ≤ l.length) (h : Lst (Mn l i j) n) : lstN l i j = n := (lstN_spec h1 h2).uniq h
theorem lstN_self {l : List Nat} {i : Nat} (h : i ≤ l.length) : lstN l i i = 0 := (lstN_spec (Nat.le_refl _) h).1.self
/-! by the first sign -/
/-! by the last sign -/
/-- the numbers that are looked at for a last bracket: the least one so far -/
def LwB (l : List Nat) (i j c k n : Nat) : Prop := Mn l i (j + 1) n ∧ n ≤ lstN l i j + 1 ∧ ∀ m d, i ≤ m → m < i + k → m < j → l[m]? = some d → d ∈ BRK → n ≤ lstN l i m + lstN l (m + 1) j + tns d c
theorem LwB.start {l : List Nat} {i j c : Nat} (hi : i ≤ j) (hj : j < l.length) (e : l[j]? = some c) (hb : c ∈ BRK) : LwB l i j c 0 (lstN l i j + 1) :=
  ⟨(lstN_spec hi (by omega)).1.app (.one_str e hb), Nat.le_refl _, fun m d h1 h2 => by omega⟩
theorem LwB.skip {l : List Nat} {i j c k n d : Nat} (h : LwB l i j c k n) (e : l[i + k]? = some d) (hd : d ∉ BRK) : LwB l i j c (k + 1) n := by
  refine ⟨h.1, h.2.1, fun m d' h1 h2 h3 h4 h5 => ?_⟩
  by_cases hm : m < i + k
  · exact h.2.2 m d' h1 hm h3 h4 h5
  · have : m = i + k := by omega
    subst this
    rw [e] at h4
    exact absurd (Option.some.inj h4 ▸ h5) hd
theorem LwB.step {l : List Nat} {i j c k n d : Nat} (h : LwB l i j c k n) (hj : j < l.length) (ec : l[j]? = some c) (hc : c ∈ BRK) (hk : i + k < j) (e : l[i + k]? = some d) (hd : d ∈ BRK) : LwB l i j c (k + 1) (min n (lstN l i (i + k) + lstN l (i + k + 1) j + tns d c)) := by
  have s1 := lstN_spec (l := l) (show i ≤ i + k by omega) (by omega)
  have s2 := lstN_spec (l := l) (show i + k + 1 ≤ j by omega) (by omega)
  refine ⟨?_, by have := h.2.1; omega, fun m d' h1 h2 h3 h4 h5 => ?_⟩
  · rcases Nat.le_total n (lstN l i (i + k) + lstN l (i + k + 1) j + tns d c) with hq | hq
    · rw [Nat.min_eq_left hq]
      exact h.1
    · rw [Nat.min_eq_right hq]
      have := s1.1.app (Mn.pair e hd ec hc s2.1 (.nil _))
      rw [show lstN l i (i + k) + lstN l (i + k + 1) j + tns d c = lstN l i (i + k) + (tns d c + lstN l (i + k + 1) j + 0) by omega]
      exact this
  · by_cases hm : m < i + k
    · have := h.2.2 m d' h1 hm h3 h4 h5
      omega
    · have : m = i + k := by omega
      subst this
      rw [e] at h4
      have := Option.some.inj h4
      subst this
      exact Nat.min_le_right _ _
theorem LwB.fin {l : List Nat} {i j c n : Nat} (hi : i ≤ j) (hj : j < l.length) (ec : l[j]? = some c) (hc : c ∈ BRK) (h : LwB l i j c (j - i) n) : lstN l i (j + 1) = n := by
  refine lstN_of (by omega) (by omega) ⟨h.1, fun x hx => ?_⟩
  obtain ⟨c', h1, h2⟩ := hx.last (by omega)
  rw [Nat.add_sub_cancel] at h1 h2
  rw [ec] at h1
  have := Option.some.inj h1
  subst this
  rcases h2 with ⟨h2, _⟩ | ⟨_, ⟨n', rfl, h3⟩ | ⟨m, d, a, b, g1, g2, g3, g4, g5, g6, rfl⟩⟩
  · exact absurd hc h2
  · have := (lstN_spec (l := l) hi (by omega)).2 _ h3
    have := h.2.1
    omega
  · have k1 := (lstN_spec (l := l) g1 (by omega)).2 _ g5
    have k2 := (lstN_spec (l := l) (show m + 1 ≤ j by omega) (by omega)).2 _ g6
    have := h.2.2 m d g1 (by omega) g2 g3 g4
    omega
/-! reckoned -/
end Ly

set_option maxHeartbeats 4000000
namespace Ly
open PySem PySem.Spec PyProof.Rows L2 SX
/-! ### dicts whose keys are pairs of whole numbers -/
section
variable {K : PySem.W.Frag} {σ : L2.St} {H H1 : Hp} {Q : VK} {R : Hp → Prop} {a b p : Addr} {i j : Int} {v : V} {n : Nat} {td ty tv : TE} {D : Ends} {xs : List V}
def rDGet (x y : V) (H : Hp) (Q : VK) : Prop := ∃ a v, x = .ref a ∧ DGet H a y (some v) ∧ Q v H
def rDPut (x y v : V) (H : Hp) (R : Hp → Prop) : Prop := ∃ a H4, x = .ref a ∧ DPut H a y v H4 ∧ R H4
def rDNewT (H : Hp) (Q : VK) : Prop := ∀ p, H p = none → Q (.ref p) (upd H p (.dT []))
theorem tDGet_eq : tDGet td ty σ H Q = td σ H fun x H1 => ty σ H1 fun y H2 => rDGet x y H2 Q := rfl
theorem sDPut_eq : sDPut td ty tv D σ H = tv σ H fun v H1 => td σ H1 fun x H2 => ty σ H2 fun y H3 => rDPut x y v H3 (D.nx σ) := rfl
theorem tDNewT_eq : tDNewT σ H Q = rDNewT H Q := rfl
/-- at a stands a dict of pairs, f tells what it holds, at most n entries -/
def DTab (H : Hp) (a : Addr) (f : Int → Int → Option V) (n : Nat) : Prop := ∃ kvs : List (List Key × V), H a = some (.dT kvs) ∧ kvs.length ≤ n ∧ ∀ i j, valV kvs [.inl i, .inl j] = f i j
theorem DTab.same {f : Int → Int → Option V} (h : DTab H a f n) (s : Same H H1) : DTab H1 a f n := by
  obtain ⟨kvs, h1, h2⟩ := h
  exact ⟨kvs, s _ _ h1, h2⟩
theorem DTab.but {f : Int → Int → Option V} (h : DTab H a f n) (s : But p H H1) (hn : a ≠ p) : DTab H1 a f n := by
  obtain ⟨kvs, h1, h2⟩ := h
  exact ⟨kvs, s _ _ hn h1, h2⟩
theorem DTab.ne {f : Int → Int → Option V} (h : DTab H a f n) (hb : H b = none) : a ≠ b := by
  obtain ⟨kvs, h1, h2⟩ := h
  exact ne_new hb h1
theorem g_dnewT (q : ∀ p H1, H p = none → Same H H1 → DTab H1 p (fun _ _ => none) 0 → Q (.ref p) H1) : rDNewT H Q := fun p np => q p _ np (Same.new np) ⟨[], upd_same, Nat.le_refl _, fun _ _ => rfl⟩
theorem g_dgetT {f : Int → Int → Option V} (h : DTab H a f n) (hb : H b = some (.tup [.int i, .int j])) (hv : f i j = some v) (q : Q v H) : rDGet (.ref a) (.ref b) H Q := by
  obtain ⟨kvs, h1, h2, h3⟩ := h
  refine ⟨a, v, rfl, ?_, q⟩
  have e := DGet.t (k := [.inl i, .inl j]) h1 hb
  rw [h3, hv] at e
  exact e
theorem g_dputT {f : Int → Int → Option V} (h : DTab H a f n) (hb : H b = some (.tup [.int i, .int j])) (hn : n < 100000) (q : ∀ H1, But a H H1 → DTab H1 a (fun x y => if x = i ∧ y = j then some v else f x y) (n + 1) → R H1) : rDPut (.ref a) (.ref b) v H R := by
  obtain ⟨kvs, h1, h2, h3⟩ := h
  refine ⟨a, _, rfl, DPut.t (k := [.inl i, .inl j]) h1 hb (Nat.lt_of_lt_of_le (Nat.lt_of_le_of_lt h2 hn) (by decide)), q _ But.set ⟨_, upd_same, ?_, fun x y => ?_⟩⟩
  · unfold putK
    split
    · rw [List.length_map]; omega
    · rw [List.length_append, List.length_singleton]; omega
  · rw [valV_put, h3]
    show _ = if x = i ∧ y = j then some v else f x y
    by_cases e : x = i ∧ y = j
    · obtain ⟨rfl, rfl⟩ := e
      rw [if_pos rfl, if_pos ⟨rfl, rfl⟩]
    · rw [if_neg e, if_neg fun q => e ?_]
      injection q with q1 q2
      injection q2 with q2 _
      exact ⟨Sum.inl.inj q1, Sum.inl.inj q2⟩
/-! ### places told as natural numbers -/
theorem g_ixLn {x : Int} (k : Nat) (h : SqL K H p xs) (hk : x = (k : Int)) (h1 : xs[k]? = some v) (q : Q v H) : rIxL K (.ref p) (.int x) H Q := by
  subst hk
  exact g_ixL h (atI_of h1) q
theorem g_ixTn {l : List Nat} {x : Int} {c : Nat} (k : Nat) (h : l.length ≤ 100000) (hk : x = (k : Int)) (h1 : l[k]? = some c) (q : Q (Tx [c]) H) : rIxT1 (Tx l) (.int x) H Q := by
  subst hk
  exact g_ixT h (atI_of h1) q
theorem g_setLn {x : Int} (k : Nat) (h : H p = some (.lst xs)) (hk : x = (k : Int)) (h1 : k < xs.length) (q : ∀ H1, But p H H1 → H1 p = some (.lst (xs.set k v)) → R H1) : rSetL (.ref p) (.int x) v H R := by
  subst hk
  exact g_setL h (ixN_nat h1) q
/-! ### min, max -/
theorem g_minL {ns : List Int} (h : SqL K H p (ns.map V.int)) (hn : ns ≠ []) (q : ∀ m, m ∈ ns → (∀ y, y ∈ ns → m ≤ y) → Q (.int m) H) : rMin K [.ref p] H Q := ⟨p, ns, rfl, h, List.length_pos_iff.mpr hn, q⟩
end
section
variable {X : Cx}
def rMin2 : List V → Hp → VK → Prop := fun xs H Q => ∃ i j : Int, xs = [.int i, .int j] ∧ Q (.int (min i j)) H
def rMax2 : List V → Hp → VK → Prop := fun xs H Q => ∃ i j : Int, xs = [.int i, .int j] ∧ Q (.int (max i j)) H
theorem call_min2' (hc : X.calm = true) : CallR X (.builtin "min") rMin2 := fun pins s σ H xs us Q I r h => by
  obtain ⟨i, j, rfl, q⟩ := h
  refine call_min2 hc pins s σ H _ us Q I r ⟨i, j, rfl, ?_⟩
  have e : (if j < i then j else i) = min i j := by split <;> omega
  rw [e]
  exact q
theorem g_min2 {H : Hp} {Q : VK} {i j : Int} (q : Q (.int (min i j)) H) : rMin2 [.int i, .int j] H Q := ⟨i, j, rfl, q⟩
theorem g_max2 {H : Hp} {Q : VK} {i j : Int} (q : Q (.int (max i j)) H) : rMax2 [.int i, .int j] H Q := ⟨i, j, rfl, q⟩
end
/-! ### a list of lists, each its own -/
/-- at d the list of the lists rs; the k-th holds f k -/
structure Tab (H : Hp) (d : Addr) (rs : List Addr) (f : Nat → List V) : Prop where
  hd : H d = some (.lst (rs.map V.ref))
  r : ∀ k r, rs[k]? = some r → H r = some (.lst (f k))
  nd : rs.Nodup
  nin : d ∉ rs
theorem Tab.same {H H' : Hp} {d : Addr} {rs : List Addr} {f : Nat → List V} (T : Tab H d rs f) (s : Same H H') : Tab H' d rs f := ⟨s _ _ T.hd, fun k r h => s _ _ (T.r k r h), T.nd, T.nin⟩
theorem Tab.but {H H' : Hp} {d p : Addr} {rs : List Addr} {f : Nat → List V} (T : Tab H d rs f) (s : But p H H') (h1 : p ≠ d) (h2 : p ∉ rs) : Tab H' d rs f :=
  ⟨s _ _ (Ne.symm h1) T.hd, fun k r h => s _ _ (fun e => h2 (by rw [← e]; exact List.mem_of_getElem? h)) (T.r k r h), T.nd, T.nin⟩
theorem Tab.fresh {H : Hp} {d p : Addr} {rs : List Addr} {f : Nat → List V} (T : Tab H d rs f) (h : H p = none) : p ≠ d ∧ p ∉ rs := by
  refine ⟨fun e => ?_, fun e => ?_⟩
  · have := T.hd
    rw [← e, h] at this
    cases this
  · obtain ⟨k, hk⟩ := List.getElem?_of_mem e
    have := T.r k p hk
    rw [h] at this
    cases this
/-- one row set -/
theorem Tab.set {H H' : Hp} {d r : Addr} {rs : List Addr} {f : Nat → List V} {k : Nat} {xs : List V} (T : Tab H d rs f) (hk : rs[k]? = some r) (s : But r H H') (h : H' r = some (.lst xs)) : Tab H' d rs (fun i => if i = k then xs else f i) := by
  have hr : r ∈ rs := List.mem_of_getElem? hk
  refine ⟨s _ _ (fun e => T.nin (by rw [e]; exact hr)) T.hd, fun i q hi => ?_, T.nd, T.nin⟩
  by_cases e : i = k
  · subst e
    rw [hk] at hi
    have := Option.some.inj hi
    subst this
    rw [if_pos rfl]
    exact h
  · rw [if_neg e]
    refine s _ _ (fun e2 => e ?_) (T.r i q hi)
    subst e2
    obtain ⟨h1, e1⟩ := List.getElem?_eq_some_iff.mp hi
    obtain ⟨h2, e2⟩ := List.getElem?_eq_some_iff.mp hk
    exact (List.getElem_inj T.nd).mp (e1.trans e2.symm)
theorem Tab.congr {H : Hp} {d : Addr} {rs : List Addr} {f g : Nat → List V} (T : Tab H d rs f) (h : ∀ k, k < rs.length → f k = g k) : Tab H d rs g :=
  ⟨T.hd, fun k r hk => by rw [← h k (List.getElem?_eq_some_iff.mp hk).1]; exact T.r k r hk, T.nd, T.nin⟩
theorem Tab.row {H : Hp} {d : Addr} {rs : List Addr} {f : Nat → List V} (T : Tab H d rs f) {k : Nat} (hk : k < rs.length) : ∃ r, rs[k]? = some r ∧ (rs.map V.ref)[k]? = some (V.ref r) ∧ H r = some (.lst (f k)) := by
  refine ⟨rs[k], List.getElem?_eq_getElem hk, by simp [hk], T.r k _ (List.getElem?_eq_getElem hk)⟩
theorem Tab.snoc {H H' : Hp} {d r : Addr} {rs : List Addr} {f : Nat → List V} {xs : List V} (T : Tab H d rs f) (hr : H' r = some (.lst xs)) (hd : H' d = some (.lst ((rs ++ [r]).map V.ref))) (h1 : r ∉ rs) (h2 : d ≠ r) (hk : ∀ q ∈ rs, ∀ o, H q = some o → H' q = some o) : Tab H' d (rs ++ [r]) (fun i => if i = rs.length then xs else f i) := by
  refine ⟨hd, fun i q hi => ?_, ?_, ?_⟩
  · by_cases e : i < rs.length
    · rw [List.getElem?_append_left e] at hi
      rw [if_neg (by omega)]
      exact hk q (List.mem_of_getElem? hi) _ (T.r i q hi)
    · rw [List.getElem?_append_right (by omega)] at hi
      have e2 : i = rs.length := by
        have := (List.getElem?_eq_some_iff.mp hi).1
        simp at this
        omega
      subst e2
      rw [Nat.sub_self] at hi
      have := Option.some.inj hi
      subst this
      rw [if_pos rfl]
      exact hr
  · rw [List.nodup_append]
    refine ⟨T.nd, by simp, fun a ha b hb => ?_⟩
    rw [List.mem_singleton] at hb
    subst hb
    exact fun e => h1 (by rw [← e]; exact ha)
  · rw [List.mem_append, List.mem_singleton]
    rintro (h | h)
    · exact T.nin h
    · exact h2 h
end Ly

set_option maxHeartbeats 4000000
namespace Ly
open PySem PySem.Spec PyProof.Rows L2 SX
theorem g_ET {R : Bool → Prop} (q : R true) : ∃ k, V.bl true = V.bl k ∧ R k := ⟨_, rfl, q⟩
theorem g_EF {R : Bool → Prop} (q : R false) : ∃ k, V.bl false = V.bl k ∧ R k := ⟨_, rfl, q⟩
theorem g_EnT {R : Bool → Prop} (q : R false) : ∃ k, V.bl (!true) = V.bl k ∧ R k := ⟨_, rfl, q⟩
theorem g_EnF {R : Bool → Prop} (q : R true) : ∃ k, V.bl (!false) = V.bl k ∧ R k := ⟨_, rfl, q⟩
/-! ### list + list, where one may be the script -/
section
variable {X : Cx}
end
section
variable {K : PySem.W.Frag} {σ : L2.St} {H : Hp} {g : TG} {tb : TS} {D : Ends} {a b : Addr} {xs ys : List V}
end
end Ly

namespace Ly
/-! ### least numbers with how often they are met -/
/-- a number of deeds and in how many ways; none: in no way -/
abbrev MC := Option (Nat × Nat)
def mAdd : MC → MC → MC
  | none, y => y
  | some p, none => some p
  | some p, some q => if p.1 < q.1 then some p else if q.1 < p.1 then some q else some (p.1, p.2 + q.2)
def mMul : MC → MC → MC
  | some p, some q => some (p.1 + q.1, p.2 * q.2)
  | _, _ => none
def mOne : MC := some (0, 1)
theorem mAdd_none (x : MC) : mAdd x none = x := by cases x <;> rfl
theorem none_mAdd (x : MC) : mAdd none x = x := rfl
theorem mAdd_comm (x y : MC) : mAdd x y = mAdd y x := by
  cases x with
  | none => rw [mAdd_none]; rfl
  | some p =>
    cases y with
    | none => rfl
    | some q =>
      unfold mAdd
      dsimp only
      by_cases h1 : p.1 < q.1
      · rw [if_pos h1, if_neg (by omega), if_pos h1]
      · rw [if_neg h1]
        by_cases h2 : q.1 < p.1
        · rw [if_pos h2, if_pos h2]
        · rw [if_neg h2, if_neg h2, if_neg h1, show p.1 = q.1 by omega, Nat.add_comm]
theorem mAdd_assoc (x y z : MC) : mAdd (mAdd x y) z = mAdd x (mAdd y z) := by
  cases x with
  | none => rfl
  | some p =>
    cases y with
    | none => rfl
    | some q =>
      cases z with
      | none => rw [mAdd_none, mAdd_none]
      | some r =>
        obtain ⟨a, m⟩ := p
        obtain ⟨b, n⟩ := q
        obtain ⟨c, k⟩ := r
        unfold mAdd
        dsimp only
        by_cases h1 : a < b <;> by_cases h2 : b < a <;> by_cases h3 : b < c <;> by_cases h4 : c < b <;> by_cases h5 : a < c <;> by_cases h6 : c < a <;>
          first | (exfalso; omega) | (simp only [h1, h2, h3, h4, h5, h6, if_true, if_false]; try (first | rfl | (rw [Nat.add_assoc]) | (congr 1 <;> omega)))
theorem mMul_comm (x y : MC) : mMul x y = mMul y x := by
  cases x with
  | none => cases y <;> rfl
  | some p =>
    cases y with
    | none => rfl
    | some q =>
      unfold mMul
      dsimp only
      rw [Nat.add_comm, Nat.mul_comm]
theorem mMul_none (x : MC) : mMul x none = none := by cases x <;> rfl
theorem mMul_assoc (x y z : MC) : mMul (mMul x y) z = mMul x (mMul y z) := by
  cases x with
  | none => rfl
  | some p =>
    cases y with
    | none => rfl
    | some q =>
      cases z with
      | none => rfl
      | some r =>
        unfold mMul
        dsimp only
        rw [Nat.add_assoc, Nat.mul_assoc]
theorem mOne_mul (x : MC) : mMul mOne x = x := by
  cases x with
  | none => rfl
  | some p =>
    unfold mMul mOne
    dsimp only
    rw [Nat.zero_add, Nat.one_mul]
theorem mMul_one (x : MC) : mMul x mOne = x := by rw [mMul_comm, mOne_mul]
/-! sums -/
def sm (f : Nat → MC) : Nat → MC
  | 0 => none
  | n + 1 => mAdd (sm f n) (f n)
theorem sm_congr {f g : Nat → MC} : ∀ {n : Nat}, (∀ k, k < n → f k = g k) → sm f n = sm g n
  | 0, _ => rfl
  | n + 1, h => by
    rw [sm, sm, sm_congr (fun k hk => h k (by omega)), h n (by omega)]
theorem sm_head (f : Nat → MC) : ∀ n : Nat, sm f (n + 1) = mAdd (f 0) (sm (fun k => f (k + 1)) n)
  | 0 => by rw [sm, sm, sm, none_mAdd, mAdd_none]
  | n + 1 => by rw [sm, sm_head f n, sm, mAdd_assoc]
theorem sm_none : ∀ n : Nat, sm (fun _ => none) n = none
  | 0 => rfl
  | n + 1 => by rw [sm, sm_none n]; rfl
/-! ### tilings: by the first item, by the last one -/
end Ly

set_option maxHeartbeats 4000000
namespace Ly
open PySem PySem.Spec PyProof.Rows L2 SX
/-! ### classes: their methods, their making -/
def MetAt (K : PySem.W.Frag) (c m q : Str) (st : Stmt) (ps : List Str) : Prop := ∃ fd : FuncData, FunD K m q (defArgs st) (defBody st) (defScope st) [] [] (He.ma K (He.ga K c) m) fd ∧ Cls K (He.ga K c) ∧ Meth K (He.ga K c) m (He.ma K (He.ga K c) m) ∧ Binds K fd ps []
def MakAt (K : PySem.W.Frag) (mg : Str → Option Value) (c q : Str) (st : Stmt) (ps : List Str) : Prop := ∃ fd : FuncData, FunD K "__init__" q (defArgs st) (defBody st) (defScope st) [] [] (He.ma K (He.ga K c) "__init__") fd ∧ Mk K (He.ga K c) (He.ma K (He.ga K c) "__init__") ∧ mg c = some (.ref (He.ga K c)) ∧ Binds K fd ps []
section
variable {P : Program} {w : World} {K : PySem.W.Frag} {mg : Str → Option Value} {base : Heap}
theorem fnDq {x q : Str} {st : Stmt} {f : Addr} {fd : FuncData} {N ps : List Str} {k : Nat} {sp : Sp} (F : FunD K x q (defArgs st) (defBody st) (defScope st) [] [] f fd) (S : FnScope N ps (defScope st)) (len : ∀ vs H Q E, sp vs H Q E → vs.length = ps.length)
    (hbody : ∀ (cdv : Value) (A : Around) (outer : List Env) (s : Shared) (H : Hp) (vs : List V) (Q : VK) (E : XK), Room k (A.deeper (envOfC q (defScope st) s.heap.objs.size f cdv)) → sp vs H Q E →
      ∃ t, PSs (cxOf C8.CX0 P w K mg base N q (defScope st) f cdv A outer s H E).nox (defBody st) t ∧ t { nx := fun _ H' => Q .non H', rt := Q } (start N vs) H) : FnOk P w K mg base C8.CX0 (k + 1) f fd ps sp := by
  refine F.ok S len fun cdv A outer s H vs Q E hr hsp => ?_
  obtain ⟨t, h, q⟩ := hbody cdv A outer s H vs Q E hr hsp
  exact ⟨t, h.nox, q⟩
theorem metD {c m q : Str} {st : Stmt} {N ps : List Str} {k : Nat} {sp : Sp} (D : MetAt K c m q st ps) (S : FnScope N ps (defScope st)) (len : ∀ vs H Q E, sp vs H Q E → vs.length = ps.length)
    (hbody : ∀ (f : Addr) (cdv : Value) (A : Around) (outer : List Env) (s : Shared) (H : Hp) (vs : List V) (Q : VK) (E : XK), Room k (A.deeper (envOfC q (defScope st) s.heap.objs.size f cdv)) → sp vs H Q E →
      ∃ t, PSs (cxOf C8.CX0 P w K mg base N q (defScope st) f cdv A outer s H E).nox (defBody st) t ∧ t { nx := fun _ H' => Q .non H', rt := Q } (start N vs) H) : C8.Met P w K mg base (k + 1) (He.ga K c) m sp [] := by
  obtain ⟨fd, F, cl, me, b⟩ := D
  exact ⟨_, fd, ps, [], cl, me, fnDq F S len (hbody _), b, .nil⟩
theorem makD {c q : Str} {st : Stmt} {N ps : List Str} {k : Nat} {sp : Sp} (D : MakAt K mg c q st ps) (S : FnScope N ps (defScope st)) (len : ∀ vs H Q E, sp vs H Q E → vs.length = ps.length)
    (hbody : ∀ (f : Addr) (cdv : Value) (A : Around) (outer : List Env) (s : Shared) (H : Hp) (vs : List V) (Q : VK) (E : XK), Room k (A.deeper (envOfC q (defScope st) s.heap.objs.size f cdv)) → sp vs H Q E →
      ∃ t, PSs (cxOf C8.CX0 P w K mg base N q (defScope st) f cdv A outer s H E).nox (defBody st) t ∧ t { nx := fun _ H' => Q .non H', rt := Q } (start N vs) H) : C8.Mak P w K mg base (k + 1) c (He.ga K c) sp [] := by
  obtain ⟨fd, F, mk, hm, b⟩ := D
  exact ⟨_, fd, ps, [], mk, fnDq F S len (hbody _), hm, b, .nil⟩
end
def rMetO (C : Addr) (m : Str) (x : V) (H : Hp) (A : Prop) : Prop := (∃ a dx fs, x = .ref a ∧ H a = some (.ins C dx fs) ∧ fs.lookup m = none) ∧ A
def tMet (C : Addr) (m : Str) (sp : Sp) (ta : TE) (t : TA) : TE := fun σ H Q => ta σ H fun x H1 => rMetO C m x H1 (t σ H1 fun vs H2 => sp (x :: vs) H2 Q C8.E0)
theorem tMet_eq {C : Addr} {m : Str} {sp : Sp} {ta : TE} {t : TA} : tMeth C m sp [] C8.E0 ta t = tMet C m sp ta t := by
  funext σ H Q
  show (ta σ H fun x H1 => ∃ a dx fs, x = .ref a ∧ H1 a = some (.ins C dx fs) ∧ fs.lookup m = none ∧ t σ H1 fun vs H2 => sp (x :: (vs ++ [])) H2 Q C8.E0) = ta σ H _
  congr 1
  funext x H1
  simp only [List.append_nil]
  refine propext ⟨fun ⟨a, dx, fs, h1, h2, h3, h4⟩ => ⟨⟨a, dx, fs, h1, h2, h3⟩, h4⟩, fun ⟨⟨a, dx, fs, h1, h2, h3⟩, h4⟩ => ⟨a, dx, fs, h1, h2, h3, h4⟩⟩
def rMak (C : Addr) (sp : Sp) (vs : List V) (H : Hp) (Q : VK) : Prop := ∀ x dx, H x = none → H dx = none → dx ≠ x → sp (.ref x :: vs) (upd (upd H dx (.own x)) x (.ins C dx [])) (fun v H2 => v = .non ∧ Q (.ref x) H2) C8.E0
def tMak (C : Addr) (sp : Sp) (t : TA) : TE := fun σ H Q => t σ H fun vs H1 => rMak C sp vs H1 Q
theorem tMak_eq {C : Addr} {sp : Sp} {t : TA} : tMake C sp [] C8.E0 t = tMak C sp t := by
  funext σ H Q
  show (t σ H fun vs H1 => ∀ x dx, H1 x = none → H1 dx = none → dx ≠ x → sp (.ref x :: (vs ++ [])) _ _ C8.E0) = t σ H _
  simp only [List.append_nil]
  rfl
section
variable {X : Cx} {k j : Nat} {C : Addr} {x m : Str} {sp : Sp} {p pos apos : Pos} {e o : Expr} {es : List Expr} {ta : TE} {t : TA}
theorem pe_met {pl : Sem Bool} (c : C8.Met X.prog X.w X.K X.mg X.base k C m sp []) (hr : Room j X.A) (hk : k ≤ j) (he : PE X o ta) (ha : PA X (e :: es) t)
    (hst : starEach (e :: es) X.env = (false, eval e X.env) :: starEach es X.env := by rfl) (hpl : (backTo pos (starEach es X.env)).any (·.1) = false := by rfl)
    (ht : eval (.Call (.Attribute o m apos) (e :: es) [] pos) X.env = (do
      let ov ← eval o X.env
      standAt apos.atName
      let (f, first) ← holding [ov] (getMethod ov m pl)
      callWith pos f first (backTo pos (starEach (e :: es) X.env)) (backToKw pos (keywordEach [] X.env))) := by rfl) :
    PE X (.Call (.Attribute o m apos) (e :: es) [] pos) (tMet C m sp ta t) := by
  rw [← tMet_eq]
  exact C8.pe_mt (pl := pl) c hr hk he ha hst hpl ht
theorem pe_mak (c : C8.Mak X.prog X.w X.K X.mg X.base k x C sp []) (hr : Room j X.A) (hk : k + 1 ≤ j) (hg : Gl X x) (ha : PA X (e :: es) t)
    (hdb : (x == ("__debug__" : Str)) = false := by decide) (he : starEach (e :: es) X.env = (false, eval e X.env) :: starEach es X.env := by rfl) (hpl : (backTo pos (starEach es X.env)).any (·.1) = false := by rfl) :
    PE X (.Call (.Name x p) (e :: es) [] pos) (tMak C sp t) := by
  rw [← tMak_eq]
  exact C8.pe_mk c hr hk hg ha hdb he hpl
end
section
variable {K : PySem.W.Frag} {σ : L2.St} {H : Hp} {Q : VK} {A : Prop} {a dx C : Addr} {fs : List (Str × V)} {m f : Str} {v y : V} {ta tv : TE} {D : Ends} {R : Hp → Prop} {sp : Sp} {vs : List V}
theorem g_met (h : H a = some (.ins C dx fs)) (hl : fs.lookup m = none) (q : A) : rMetO C m (.ref a) H A := ⟨⟨a, dx, fs, rfl, h, hl⟩, q⟩
theorem g_mak (q : ∀ x dx H1, H x = none → Same H H1 → H1 x = some (.ins C dx []) → sp (.ref x :: vs) H1 (fun v H2 => v = .non ∧ Q (.ref x) H2) C8.E0) : rMak C sp vs H Q := fun x dx nx ndx hne =>
  q x dx _ nx (fun b o e => by rw [upd_ne (ne_of_none e nx), upd_ne (ne_of_none e ndx)]; exact e) upd_same
def rFld (K : PySem.W.Frag) (f : Str) (x : V) (H : Hp) (Q : VK) : Prop := ∃ a C dx fs v, x = .ref a ∧ H a = some (.ins C dx fs) ∧ Cls K C ∧ NoAttr K C f ∧ fs.lookup f = some v ∧ Q v H
def rSFld (K : PySem.W.Frag) (f : Str) (y x : V) (H : Hp) (R : Hp → Prop) : Prop := ∃ a C dx fs, x = .ref a ∧ H a = some (.ins C dx fs) ∧ Cls K C ∧ NoAttr K C f ∧ fs.length < 1000 ∧ R (upd H a (.ins C dx (putF f y fs)))
theorem tFld_eq : tFld K ta f σ H Q = ta σ H fun x H1 => rFld K f x H1 Q := rfl
theorem sFld_eq : sFld K ta tv f D σ H = tv σ H fun y H1 => ta σ H1 fun x H2 => rSFld K f y x H2 (D.nx σ) := rfl
theorem g_fld (h : H a = some (.ins C dx fs)) (cl : Cls K C) (na : NoAttr K C f) (hl : fs.lookup f = some v) (q : Q v H) : rFld K f (.ref a) H Q := ⟨a, C, dx, fs, v, rfl, h, cl, na, hl, q⟩
theorem g_sfld (h : H a = some (.ins C dx fs)) (cl : Cls K C) (na : NoAttr K C f) (hl : fs.length < 1000) (q : ∀ H1, But a H H1 → H1 a = some (.ins C dx (putF f y fs)) → R H1) : rSFld K f y (.ref a) H R := ⟨a, C, dx, fs, rfl, h, cl, na, hl, q _ But.set upd_same⟩
end
end Ly

namespace Ly
open PySem
/-! ### the head's facts with one truth more -/
abbrev AlE : Type := He.AlD × Bool
def obsEG (n : Nat) (fa : List He.Fa) (fn : List He.DefD) (ex : PySem.W.Frag → Bool) (g : Addr → Option Obj) : AlE := (He.obsDG n fa fn g, ex (He.frG g (He.asD g n)))
def hookE (n : Nat) (fa : List He.Fa) (fn : List He.DefD) (ex : PySem.W.Frag → Bool) : PySem.W.Hook where
  α := AlE
  obs := fun s => obsEG n fa fn ex s.heap.get?
  val := fun _ => (He.valD fn, true)
  says := fun _ h => ∃ K : PySem.W.Frag, K.In h ∧ He.SaysD fa fn K ∧ ex K = true
  of := fun _ _ e => ⟨_, He.frG_in, congrArg Prod.fst e, congrArg Prod.snd e⟩
  keeps := fun _ _ _ ⟨K, hK, c, cx⟩ k => ⟨K, PySem.W.Frag.In.keeps hK k, c, cx⟩
theorem obsEG_eq {n : Nat} {fa : List He.Fa} {fn : List He.DefD} {ex : PySem.W.Frag → Bool} {g : Addr → Option Obj} {s : Shared} (h : ∀ a, g a = s.heap.get? a) : obsEG n fa fn ex g = (hookE n fa fn ex).obs s := by
  have e : g = s.heap.get? := funext h
  rw [e] <;> rfl
end Ly

set_option maxHeartbeats 4000000
namespace Ly
/-! ### least numbers with how many, by words -/
structure Wd where
  pt : Bool
  st : Bool
  tn : Bool
def few (c d : Nat) : Nat × Nat := if c ∈ OPN ∧ d ∈ CLO then (if knd c = knd d then (0, 1) else (1, 2)) else if c ∈ CLO ∧ d ∈ OPN then (2, 4) else (1, 1)
def w1 : MC := some (1, 1)
/-- a pair of the text's signs at i and m -/
def prM (l : List Nat) (W : Wd) (i m : Nat) : MC := match l[i]?, l[m]? with
  | some c, some d => if c ∈ BRK ∧ d ∈ BRK ∧ ((few c d).1 = 0 ∨ W.tn = true) then some (few c d) else none
  | _, _ => none
def opM (l : List Nat) (W : Wd) (i : Nat) : MC := match l[i]? with
  | some c => if c ∈ OPN ∧ W.pt = true then w1 else none
  | none => none
def clM (l : List Nat) (W : Wd) (m : Nat) : MC := match l[m]? with
  | some c => if c ∈ CLO ∧ W.pt = true then w1 else none
  | none => none
/-- the sign alone: a letter, or a struck bracket -/
def sgM (l : List Nat) (W : Wd) (i : Nat) : MC := match l[i]? with
  | some c => if c ∈ BRK then (if W.st = true then w1 else none) else mOne
  | none => none
def m3 (x y z : MC) : MC := mMul (mMul x y) z
theorem m3_none (y z : MC) : m3 none y z = none := rfl
/-- by the first sign -/
def stM (l : List Nat) (W : Wd) (F : Nat → Nat → MC) (i j : Nat) : MC :=
  mAdd (mMul (sgM l W i) (F (i + 1) j)) (mAdd (sm (fun t => m3 (prM l W i (i + 1 + t)) (F (i + 1) (i + 1 + t)) (F (i + 1 + t + 1) j)) (j - i - 1))
    (mAdd (sm (fun t => m3 (opM l W i) (F (i + 1) (i + 1 + t)) (F (i + 1 + t) j)) (j - i)) (sm (fun t => m3 (clM l W (i + t)) (F i (i + t)) (F (i + t + 1) j)) (j - i))))
theorem stM_congr {l l' : List Nat} {W : Wd} {F F' : Nat → Nat → MC} {i j : Nat} (hi : i < j) (hl : ∀ k, k < j → l[k]? = l'[k]?) (h : ∀ a b, a ≤ b → b ≤ j → b - a < j - i → i ≤ a → F a b = F' a b) : stM l W F i j = stM l' W F' i j := by
  unfold stM
  have e1 : sgM l W i = sgM l' W i := by unfold sgM; rw [hl i hi]
  have e2 : ∀ m, m < j → prM l W i m = prM l' W i m := fun m hm => by unfold prM; rw [hl i hi, hl m hm]
  have e3 : opM l W i = opM l' W i := by unfold opM; rw [hl i hi]
  have e4 : ∀ m, m < j → clM l W m = clM l' W m := fun m hm => by unfold clM; rw [hl m hm]
  rw [e1, h (i + 1) j (by omega) (by omega) (by omega) (by omega), e3]
  congr 1
  congr 1
  · refine sm_congr fun t ht => ?_
    rw [e2 _ (by omega), h (i + 1) (i + 1 + t) (by omega) (by omega) (by omega) (by omega), h (i + 1 + t + 1) j (by omega) (by omega) (by omega) (by omega)]
  · congr 1
    · refine sm_congr fun t ht => ?_
      rw [h (i + 1) (i + 1 + t) (by omega) (by omega) (by omega) (by omega), h (i + 1 + t) j (by omega) (by omega) (by omega) (by omega)]
    · refine sm_congr fun t ht => ?_
      rw [e4 _ (by omega), h i (i + t) (by omega) (by omega) (by omega) (by omega), h (i + t + 1) j (by omega) (by omega) (by omega) (by omega)]
def mcF (l : List Nat) (W : Wd) : Nat → Nat → Nat → MC
  | 0, _, _ => mOne
  | n + 1, i, j => if j ≤ i then mOne else stM l W (mcF l W n) i j
theorem mcF_eq (l l' : List Nat) (W : Wd) : ∀ (n m i j : Nat), j - i ≤ n → j - i ≤ m → (∀ k, k < j → l[k]? = l'[k]?) → mcF l W n i j = mcF l' W m i j
  | 0, 0, i, j, _, _, _ => rfl
  | 0, m + 1, i, j, h1, h2, _ => by rw [mcF, mcF, if_pos (by omega)]
  | n + 1, 0, i, j, h1, h2, _ => by rw [mcF, mcF, if_pos (by omega)]
  | n + 1, m + 1, i, j, h1, h2, hl => by
    rw [mcF, mcF]
    by_cases h : j ≤ i
    · rw [if_pos h, if_pos h]
    · rw [if_neg h, if_neg h]
      exact stM_congr (by omega) hl fun a b g1 g2 g3 g4 => mcF_eq l l' W n m a b (by omega) (by omega) fun k hk => hl k (by omega)
def mcN (l : List Nat) (W : Wd) (i j : Nat) : MC := mcF l W (j - i) i j
theorem mcN_self (l : List Nat) (W : Wd) (i : Nat) : mcN l W i i = mOne := by unfold mcN; rw [Nat.sub_self]; rfl
theorem mcN_step {l : List Nat} {W : Wd} {i j : Nat} (h : i < j) : mcN l W i j = stM l W (mcN l W) i j := by
  have e : mcN l W i j = mcF l W (j - i - 1 + 1) i j := mcF_eq l l W _ _ i j (Nat.le_refl _) (by omega) fun _ _ => rfl
  rw [e, mcF, if_neg (by omega)]
  exact stM_congr h (fun _ _ => rfl) fun a b g1 g2 g3 g4 => mcF_eq l l W _ _ a b (by omega) (Nat.le_refl _) fun _ _ => rfl
theorem mcN_text {l l' : List Nat} {W : Wd} {i j : Nat} (hl : ∀ k, k < j → l[k]? = l'[k]?) : mcN l W i j = mcN l' W i j := mcF_eq l l' W _ _ i j (Nat.le_refl _) (Nat.le_refl _) hl
/-! by the last sign -/
/-! there is always one, where striking is a word -/
theorem mAdd_some {x y : MC} (h : x ≠ none ∨ y ≠ none) : mAdd x y ≠ none := by
  cases x with
  | none => rcases h with h | h
            · exact absurd rfl h
            · exact h
  | some p =>
    cases y with
    | none => exact fun e => nomatch e
    | some q =>
      unfold mAdd
      dsimp only
      split
      · exact fun e => nomatch e
      · split <;> exact fun e => nomatch e
theorem mMul_some {x y : MC} (h1 : x ≠ none) (h2 : y ≠ none) : mMul x y ≠ none := by
  cases x with
  | none => exact absurd rfl h1
  | some p =>
    cases y with
    | none => exact absurd rfl h2
    | some q => exact fun e => nomatch e
theorem mcN_some {l : List Nat} {W : Wd} (hs : W.st = true) : ∀ (n i : Nat), i + n ≤ l.length → mcN l W i (i + n) ≠ none
  | 0, i, _ => by rw [Nat.add_zero, mcN_self]; exact fun e => nomatch e
  | n + 1, i, h => by
    rw [mcN_step (by omega)]
    refine mAdd_some (.inl (mMul_some ?_ ?_))
    · have e : l[i]? = some l[i] := List.getElem?_eq_getElem (by omega)
      unfold sgM
      rw [e]
      dsimp only
      by_cases hb : l[i] ∈ BRK
      · rw [if_pos hb, if_pos hs]; exact fun e => nomatch e
      · rw [if_neg hb]; exact fun e => nomatch e
    · have := mcN_some (l := l) hs n (i + 1) (by omega)
      rw [show i + 1 + n = i + (n + 1) by omega] at this
      exact this
/-! sums of lists -/
def totL (xs : List (Nat × Nat)) : MC := xs.foldl (fun a x => mAdd a (some x)) none
theorem totL_snoc (xs : List (Nat × Nat)) (x : Nat × Nat) : totL (xs ++ [x]) = mAdd (totL xs) (some x) := by
  unfold totL
  rw [List.foldl_append]
  rfl
theorem totL_app : ∀ (ys xs : List (Nat × Nat)), totL (xs ++ ys) = mAdd (totL xs) (totL ys)
  | [], xs => by rw [List.append_nil]; exact (mAdd_none _).symm
  | y :: ys, xs => by
    have e1 := totL_app ys (xs ++ [y])
    have e2 := totL_app ys [y]
    rw [show xs ++ y :: ys = xs ++ [y] ++ ys by simp, e1, totL_snoc, mAdd_assoc, show y :: ys = [y] ++ ys from rfl, e2]
    rfl
theorem totL_opt (xs : List (Nat × Nat)) (y : MC) : totL (xs ++ y.toList) = mAdd (totL xs) y := by
  cases y with
  | none => rw [Option.toList_none, List.append_nil, mAdd_none]
  | some p => exact totL_snoc xs p
end Ly

set_option maxHeartbeats 4000000
namespace Ly
open PySem PySem.Spec PyProof.Rows L2 SX
/-! ### how great the counts can be -/
def cnt : MC → Nat
  | none => 0
  | some p => p.2
theorem cnt_add (x y : MC) : cnt (mAdd x y) ≤ cnt x + cnt y := by
  cases x with
  | none => exact Nat.le_add_left _ _
  | some p =>
    cases y with
    | none => exact Nat.le_add_right _ _
    | some q =>
      unfold mAdd
      dsimp only
      split
      · exact Nat.le_add_right _ _
      · split
        · exact Nat.le_add_left _ _
        · exact Nat.le_refl _
theorem cnt_mul (x y : MC) : cnt (mMul x y) = cnt x * cnt y := by
  cases x with
  | none => exact (Nat.zero_mul _).symm
  | some p =>
    cases y with
    | none => exact (Nat.mul_zero _).symm
    | some q => rfl
theorem cnt_sm {f : Nat → MC} {b : Nat} : ∀ n, (∀ k, k < n → cnt (f k) ≤ b) → cnt (sm f n) ≤ n * b
  | 0, _ => by rw [sm]; exact Nat.zero_le _
  | n + 1, h => by
    have h1 := cnt_sm n fun k hk => h k (by omega)
    have h2 := h n (by omega)
    have h3 := cnt_add (sm f n) (f n)
    rw [sm, Nat.succ_mul]
    omega
theorem cnt_few (c d : Nat) : (few c d).2 ≤ 4 := by
  unfold few
  split
  · split <;> decide
  · split <;> decide
theorem cnt_pr (l : List Nat) (W : Wd) (i m : Nat) : cnt (prM l W i m) ≤ 4 := by
  unfold prM
  split
  · split
    · exact cnt_few _ _
    · exact Nat.zero_le _
  · exact Nat.zero_le _
theorem cnt_op (l : List Nat) (W : Wd) (i : Nat) : cnt (opM l W i) ≤ 4 := by
  unfold opM
  split
  · split
    · show 1 ≤ 4; decide
    · exact Nat.zero_le _
  · exact Nat.zero_le _
theorem cnt_cl (l : List Nat) (W : Wd) (i : Nat) : cnt (clM l W i) ≤ 4 := by
  unfold clM
  split
  · split
    · show 1 ≤ 4; decide
    · exact Nat.zero_le _
  · exact Nat.zero_le _
theorem cnt_sg (l : List Nat) (W : Wd) (i : Nat) : cnt (sgM l W i) ≤ 4 := by
  unfold sgM
  split
  · split
    · split
      · show 1 ≤ 4; decide
      · exact Nat.zero_le _
    · show 1 ≤ 4; decide
  · exact Nat.zero_le _
theorem cnt_m3 {x y z : MC} {n a b : Nat} (hx : cnt x ≤ 4) (hy : cnt y ≤ 2 ^ a) (hz : cnt z ≤ 2 ^ b) (h : a + b ≤ n) : cnt (m3 x y z) ≤ 2 ^ (n + 2) := by
  unfold m3
  rw [cnt_mul, cnt_mul]
  refine Nat.le_trans (Nat.mul_le_mul (Nat.mul_le_mul hx hy) hz) ?_
  rw [show (4 : Nat) = 2 ^ 2 from rfl, ← Nat.pow_add, ← Nat.pow_add]
  exact Nat.pow_le_pow_right (by decide) (by omega)
theorem mcN_cnt {l : List Nat} {W : Wd} : ∀ (n i : Nat), n ≤ 1000 → cnt (mcN l W i (i + n)) ≤ 2 ^ (16 * n) := by
  intro n
  induction n using Nat.strongRecOn with
  | ind n ih =>
    intro i hn
    cases n with
    | zero => rw [Nat.add_zero, mcN_self]; show 1 ≤ 2 ^ 0; decide
    | succ n =>
      have ih' : ∀ a b, a ≤ b → b - a ≤ n → cnt (mcN l W a b) ≤ 2 ^ (16 * (b - a)) := fun a b h1 h2 => by
        have := ih (b - a) (by omega) a (by omega)
        rw [show a + (b - a) = b by omega] at this
        exact this
      rw [mcN_step (by omega)]
      unfold stM
      have k1 : cnt (mMul (sgM l W i) (mcN l W (i + 1) (i + (n + 1)))) ≤ 2 ^ (16 * n + 2) := by
        rw [cnt_mul]
        refine Nat.le_trans (Nat.mul_le_mul (cnt_sg l W i) (ih' _ _ (by omega) (by omega))) ?_
        rw [show (4 : Nat) = 2 ^ 2 from rfl, ← Nat.pow_add]
        exact Nat.pow_le_pow_right (by decide) (by omega)
      have k2 := cnt_sm (f := fun t => m3 (prM l W i (i + 1 + t)) (mcN l W (i + 1) (i + 1 + t)) (mcN l W (i + 1 + t + 1) (i + (n + 1)))) (b := 2 ^ (16 * n + 2)) (i + (n + 1) - i - 1) fun k hk => cnt_m3 (cnt_pr _ _ _ _) (ih' _ _ (by omega) (by omega)) (ih' _ _ (by omega) (by omega)) (by omega)
      have k3 := cnt_sm (f := fun t => m3 (opM l W i) (mcN l W (i + 1) (i + 1 + t)) (mcN l W (i + 1 + t) (i + (n + 1)))) (b := 2 ^ (16 * n + 2)) (i + (n + 1) - i) fun k hk => cnt_m3 (cnt_op _ _ _) (ih' _ _ (by omega) (by omega)) (ih' _ _ (by omega) (by omega)) (by omega)
      have k4 := cnt_sm (f := fun t => m3 (clM l W (i + t)) (mcN l W i (i + t)) (mcN l W (i + t + 1) (i + (n + 1)))) (b := 2 ^ (16 * n + 2)) (i + (n + 1) - i) fun k hk => cnt_m3 (cnt_cl _ _ _) (ih' _ _ (by omega) (by omega)) (ih' _ _ (by omega) (by omega)) (by omega)
      have a1 := cnt_add (mMul (sgM l W i) (mcN l W (i + 1) (i + (n + 1)))) (mAdd (sm (fun t => m3 (prM l W i (i + 1 + t)) (mcN l W (i + 1) (i + 1 + t)) (mcN l W (i + 1 + t + 1) (i + (n + 1)))) (i + (n + 1) - i - 1))
        (mAdd (sm (fun t => m3 (opM l W i) (mcN l W (i + 1) (i + 1 + t)) (mcN l W (i + 1 + t) (i + (n + 1)))) (i + (n + 1) - i)) (sm (fun t => m3 (clM l W (i + t)) (mcN l W i (i + t)) (mcN l W (i + t + 1) (i + (n + 1)))) (i + (n + 1) - i))))
      have a2 := cnt_add (sm (fun t => m3 (prM l W i (i + 1 + t)) (mcN l W (i + 1) (i + 1 + t)) (mcN l W (i + 1 + t + 1) (i + (n + 1)))) (i + (n + 1) - i - 1))
        (mAdd (sm (fun t => m3 (opM l W i) (mcN l W (i + 1) (i + 1 + t)) (mcN l W (i + 1 + t) (i + (n + 1)))) (i + (n + 1) - i)) (sm (fun t => m3 (clM l W (i + t)) (mcN l W i (i + t)) (mcN l W (i + t + 1) (i + (n + 1)))) (i + (n + 1) - i)))
      have a3 := cnt_add (sm (fun t => m3 (opM l W i) (mcN l W (i + 1) (i + 1 + t)) (mcN l W (i + 1 + t) (i + (n + 1)))) (i + (n + 1) - i)) (sm (fun t => m3 (clM l W (i + t)) (mcN l W i (i + t)) (mcN l W (i + t + 1) (i + (n + 1)))) (i + (n + 1) - i))
      have e : (2 : Nat) ^ (16 * (n + 1)) = 16384 * 2 ^ (16 * n + 2) := by
        rw [show (16384 : Nat) = 2 ^ 14 from rfl, ← Nat.pow_add]
        congr 1
        omega
      rw [e]
      generalize (2 : Nat) ^ (16 * n + 2) = B at k1 k2 k3 k4 ⊢
      have q2 : (i + (n + 1) - i - 1) * B ≤ 1000 * B := Nat.mul_le_mul_right _ (by omega)
      have q3 : (i + (n + 1) - i) * B ≤ 1000 * B := Nat.mul_le_mul_right _ (by omega)
      omega
theorem mcN_big {l : List Nat} {W : Wd} {i j : Nat} (h : i ≤ j) (h2 : j - i ≤ 1000) : cnt (mcN l W i j) < 2 ^ 16001 := by
  have := mcN_cnt (l := l) (W := W) (j - i) i h2
  rw [show i + (j - i) = j by omega] at this
  exact Nat.lt_of_le_of_lt this (Nat.pow_lt_pow_right (by decide) (by omega))
/-! ### values -/
def cV : MC → V
  | none => .non
  | some p => .int p.1
def nV : MC → V
  | none => .int 0
  | some p => .int p.2
def colV (g : MC → V) (F : Nat → Nat → MC) (j n : Nat) : List V := (List.range n).map fun i => g (F i j)
theorem colV_at {g : MC → V} {F : Nat → Nat → MC} {j n i : Nat} (h : i < n) : (colV g F j n)[i]? = some (g (F i j)) := by
  unfold colV
  rw [List.getElem?_map, List.getElem?_range h]
  rfl
theorem colV_congr {g : MC → V} {F F' : Nat → Nat → MC} {j n : Nat} (h : ∀ i, i < n → F i j = F' i j) : colV g F j n = colV g F' j n := by
  unfold colV
  exact List.map_congr_left fun i hi => by rw [h i (List.mem_range.mp hi)]
/-! ### lists of pairs of whole numbers -/
def Prs (H : Hp) (a : Addr) (xs : List (Nat × Nat)) : Prop := ∃ rs : List Addr, H a = some (.lst (rs.map V.ref)) ∧ rs.length = xs.length ∧ ∀ (k : Nat) (r : Addr) (x : Nat × Nat), rs[k]? = some r → xs[k]? = some x → H r = some (.tup [.int x.1, .int x.2])
theorem Prs.same {H H' : Hp} {a : Addr} {xs : List (Nat × Nat)} (h : Prs H a xs) (s : Same H H') : Prs H' a xs := by
  obtain ⟨rs, h1, h2, h3⟩ := h
  exact ⟨rs, s _ _ h1, h2, fun k r x q1 q2 => s _ _ (h3 k r x q1 q2)⟩
theorem Prs.lst {H : Hp} {a : Addr} {xs : List (Nat × Nat)} (h : Prs H a xs) : ∃ ys, H a = some (.lst ys) ∧ ys.length = xs.length := by
  obtain ⟨rs, h1, h2, h3⟩ := h
  exact ⟨_, h1, by rw [List.length_map]; exact h2⟩
theorem Prs.but {H H' : Hp} {a p : Addr} {xs : List (Nat × Nat)} {ys : List V} (h : Prs H a xs) (s : But p H H') (hp : H p = some (.lst ys)) (hn : a ≠ p) : Prs H' a xs := by
  obtain ⟨rs, h1, h2, h3⟩ := h
  refine ⟨rs, s _ _ hn h1, h2, fun k r x q1 q2 => s _ _ (fun e => ?_) (h3 k r x q1 q2)⟩
  have := h3 k r x q1 q2
  rw [e, hp] at this
  cases this
theorem Prs.snoc {H H' : Hp} {a t : Addr} {xs : List (Nat × Nat)} {x : Nat × Nat} (h : Prs H a xs) (ht : H t = some (.tup [.int x.1, .int x.2])) (s : But a H H') (h2 : ∀ rs : List Addr, H a = some (.lst (rs.map V.ref)) → H' a = some (.lst (rs.map V.ref ++ [.ref t]))) : Prs H' a (xs ++ [x]) := by
  obtain ⟨rs, h1, hl, h3⟩ := h
  have ne : ∀ r ys, H r = some (.tup ys) → r ≠ a := fun r ys e q => by rw [q, h1] at e; cases e
  refine ⟨rs ++ [t], by rw [h2 rs h1, List.map_append]; rfl, by simp [hl], fun k r y q1 q2 => ?_⟩
  by_cases e : k < rs.length
  · rw [List.getElem?_append_left e] at q1
    rw [List.getElem?_append_left (by omega)] at q2
    have := h3 k r y q1 q2
    exact s _ _ (ne _ _ this) this
  · have hk : k = rs.length := by
      have := (List.getElem?_eq_some_iff.mp q1).1
      simp at this
      omega
    rw [List.getElem?_append_right (by omega), hk, Nat.sub_self] at q1
    rw [List.getElem?_append_right (by omega), hk, hl, Nat.sub_self] at q2
    have e1 : t = r := Option.some.inj q1
    have e2 : x = y := Option.some.inj q2
    subst e1 e2
    exact s _ _ (ne _ _ ht) ht
/-! ### tuples that stay -/
theorem SqT.same {K : PySem.W.Frag} {H H' : Hp} {a : Addr} {xs : List V} (s : Same H H') (h : SqT K H a xs) : SqT K H' a xs := by
  rcases h with (h | ⟨o, h⟩) | h
  · exact .inl (.inl (s _ _ h))
  · exact .inl (.inr ⟨o, s _ _ h⟩)
  · exact .inr h
theorem SqT.but {K : PySem.W.Frag} {H H' : Hp} {a p : Addr} {xs : List V} {u : HO} (s : But p H H') (h : SqT K H a xs) (hp : H p = some u) (hu : (∀ ys, u ≠ .tup ys) ∧ ∀ o ys, u ≠ .frz o (.tup ys)) : SqT K H' a xs := by
  rcases h with (h | ⟨o, h⟩) | h
  · exact .inl (.inl (s _ _ (fun e => by rw [e, hp] at h; exact hu.1 _ (Option.some.inj h)) h))
  · exact .inl (.inr ⟨o, s _ _ (fun e => by rw [e, hp] at h; exact hu.2 _ _ (Option.some.inj h)) h⟩)
  · exact .inr h
/-- the words: a tuple of texts -/
def WdIs (K : PySem.W.Frag) (H : Hp) (v : V) (W : Wd) : Prop := ∃ a xs, v = .ref a ∧ SqT K H a xs ∧ xs.all flatV = true ∧ inV (Tx [112, 117, 116]) xs = W.pt ∧ inV (Tx [115, 116, 114, 105, 107, 101]) xs = W.st ∧ inV (Tx [116, 117, 114, 110]) xs = W.tn
theorem WdIs.same {K : PySem.W.Frag} {H H' : Hp} {v : V} {W : Wd} (h : WdIs K H v W) (s : Same H H') : WdIs K H' v W := by
  obtain ⟨a, xs, h1, h2, h3⟩ := h
  exact ⟨a, xs, h1, SqT.same s h2, h3⟩
theorem WdIs.but {K : PySem.W.Frag} {H H' : Hp} {v : V} {W : Wd} {p : Addr} {ys : List V} (h : WdIs K H v W) (s : But p H H') (hp : H p = some (.lst ys)) : WdIs K H' v W := by
  obtain ⟨a, xs, h1, h2, h3⟩ := h
  exact ⟨a, xs, h1, SqT.but s h2 hp ⟨(fun _ e => nomatch e), (fun _ _ e => nomatch e)⟩, h3⟩
theorem WdIs.butI {K : PySem.W.Frag} {H H' : Hp} {v : V} {W : Wd} {p C dx : Addr} {fs : List (Str × V)} (h : WdIs K H v W) (s : But p H H') (hp : H p = some (.ins C dx fs)) : WdIs K H' v W := by
  obtain ⟨a, xs, h1, h2, h3⟩ := h
  exact ⟨a, xs, h1, SqT.but s h2 hp ⟨(fun _ e => nomatch e), (fun _ _ e => nomatch e)⟩, h3⟩
/-! ### the object -/
def wfl (l : List Nat) (wd : V) (cd kd : Addr) : List (Str × V) := [("signs", Tx l), ("words", wd), ("costs", .ref cd), ("counts", .ref kd)]
theorem wfl_signs (l : List Nat) (wd : V) (cd kd : Addr) : (wfl l wd cd kd).lookup ("signs" : Str) = some (Tx l) := rfl
theorem wfl_words (l : List Nat) (wd : V) (cd kd : Addr) : (wfl l wd cd kd).lookup ("words" : Str) = some wd := rfl
theorem wfl_costs (l : List Nat) (wd : V) (cd kd : Addr) : (wfl l wd cd kd).lookup ("costs" : Str) = some (.ref cd) := rfl
theorem wfl_counts (l : List Nat) (wd : V) (cd kd : Addr) : (wfl l wd cd kd).lookup ("counts" : Str) = some (.ref kd) := rfl
theorem wfl_put (l l' : List Nat) (wd : V) (cd kd : Addr) : putF "signs" (Tx l') (wfl l wd cd kd) = wfl l' wd cd kd := rfl
end Ly

set_option maxHeartbeats 4000000
namespace Ly
/-! ### alike opening brackets: Catalan's numbers -/
section
variable {m c : Nat} (hc : c ∈ OPN)
include hc
end
end Ly

set_option maxHeartbeats 4000000
namespace Ly
open PySem PySem.Spec PyProof.Rows L2 SX
section
variable {X : Cx} {k j : Nat} {C : Addr} {x m : Str} {sp : Sp} {p pos : Pos}
end
end Ly

set_option maxHeartbeats 4000000
namespace Ly
/-! ### the least number with how many is the least number -/
def lo (x : MC) (n : Nat) : Prop := ∀ y, x = some y → n ≤ y.1
def hi (x : MC) (n : Nat) : Prop := ∃ y, x = some y ∧ y.1 ≤ n
theorem lo_add {x y : MC} {n : Nat} (h1 : lo x n) (h2 : lo y n) : lo (mAdd x y) n := by
  intro z hz
  cases x with
  | none => exact h2 z hz
  | some p =>
    cases y with
    | none => exact h1 z hz
    | some q =>
      have a := h1 p rfl
      have b := h2 q rfl
      unfold mAdd at hz
      dsimp only at hz
      split at hz
      · rw [← Option.some.inj hz]; exact a
      · split at hz
        · rw [← Option.some.inj hz]; exact b
        · rw [← Option.some.inj hz]; exact a
theorem hi_addL {x y : MC} {n : Nat} (h : hi x n) : hi (mAdd x y) n := by
  obtain ⟨p, rfl, hp⟩ := h
  cases y with
  | none => exact ⟨p, rfl, hp⟩
  | some q =>
    unfold mAdd
    dsimp only
    split
    · exact ⟨_, rfl, hp⟩
    · split
      · exact ⟨_, rfl, by omega⟩
      · exact ⟨_, rfl, hp⟩
theorem hi_addR {x y : MC} {n : Nat} (h : hi y n) : hi (mAdd x y) n := by
  rw [mAdd_comm]
  exact hi_addL h
theorem lo_sm {f : Nat → MC} {n : Nat} : ∀ k, (∀ i, i < k → lo (f i) n) → lo (sm f k) n
  | 0, _ => fun y hy => by cases hy
  | k + 1, h => lo_add (lo_sm k fun i hi => h i (by omega)) (h k (by omega))
theorem hi_sm {f : Nat → MC} {n i : Nat} : ∀ k, i < k → hi (f i) n → hi (sm f k) n
  | 0, h, _ => by omega
  | k + 1, h, hf => by
    by_cases e : i = k
    · subst e
      exact hi_addR hf
    · exact hi_addL (hi_sm k (by omega) hf)
theorem lo_mul {x y : MC} {a b n : Nat} (h1 : lo x a) (h2 : lo y b) (hn : n ≤ a + b) : lo (mMul x y) n := by
  intro z hz
  cases x with
  | none => cases hz
  | some p =>
    cases y with
    | none => cases hz
    | some q =>
      have a := h1 p rfl
      have b := h2 q rfl
      rw [← Option.some.inj hz]
      show n ≤ p.1 + q.1
      omega
theorem hi_mul {x y : MC} {a b n : Nat} (h1 : hi x a) (h2 : hi y b) (hn : a + b ≤ n) : hi (mMul x y) n := by
  obtain ⟨p, rfl, hp⟩ := h1
  obtain ⟨q, rfl, hq⟩ := h2
  exact ⟨_, rfl, by show p.1 + q.1 ≤ n; omega⟩
theorem few_tns : ∀ c ∈ BRK, ∀ d ∈ BRK, (few c d).1 = tns c d := by decide
theorem mcN_lo {l : List Nat} {W : Wd} : ∀ (n i j : Nat), j - i ≤ n → i ≤ j → j ≤ l.length → lo (mcN l W i j) (lstN l i j)
  | 0, i, j, h, h1, h2 => by
    have : i = j := by omega
    subst this
    rw [mcN_self, lstN_self h2]
    intro y _
    omega
  | n + 1, i, j, h, h1, h2 => by
    by_cases e : i = j
    · subst e
      rw [mcN_self, lstN_self h2]
      intro y _
      omega
    · have ih : ∀ a b, i ≤ a → a ≤ b → b ≤ j → b - a ≤ n → lo (mcN l W a b) (lstN l a b) := fun a b k1 k2 k3 k4 => mcN_lo n a b k4 k2 (by omega)
      have hM : ∀ a b, i ≤ a → a ≤ b → b ≤ j → Mn l a b (lstN l a b) := fun a b k1 k2 k3 => (lstN_spec k2 (by omega)).1
      have up : ∀ m, Mn l i j m → lstN l i j ≤ m := fun m hm => (lstN_spec h1 h2).2 m hm
      rw [mcN_step (by omega)]
      obtain ⟨c, hc⟩ : ∃ c, l[i]? = some c := ⟨_, List.getElem?_eq_getElem (by omega)⟩
      unfold stM
      refine lo_add ?_ (lo_add ?_ (lo_add ?_ ?_))
      · unfold sgM
        rw [hc]
        dsimp only
        by_cases hb : c ∈ BRK
        · rw [if_pos hb]
          split
          · exact lo_mul (a := 1) (b := lstN l (i + 1) j) (fun y hy => by rw [← Option.some.inj hy]; exact Nat.le_refl _) (ih _ _ (by omega) (by omega) (by omega) (by omega)) (by have := up _ (.str hc hb (hM (i + 1) j (by omega) (by omega) (by omega))); omega)
          · intro y hy; cases hy
        · rw [if_neg hb]
          exact lo_mul (a := 0) (b := lstN l (i + 1) j) (fun y _ => Nat.zero_le _) (ih _ _ (by omega) (by omega) (by omega) (by omega)) (by have := up _ (.let_ hc hb (hM (i + 1) j (by omega) (by omega) (by omega))); omega)
      · refine lo_sm _ fun t ht => ?_
        obtain ⟨d, hd⟩ : ∃ d, l[i + 1 + t]? = some d := ⟨_, List.getElem?_eq_getElem (by omega)⟩
        unfold m3 prM
        rw [hc, hd]
        dsimp only
        split
        · rename_i hq
          refine lo_mul (a := tns c d + lstN l (i + 1) (i + 1 + t)) (b := lstN l (i + 1 + t + 1) j) (lo_mul (a := tns c d) (b := lstN l (i + 1) (i + 1 + t)) (fun y hy => ?_) (ih _ _ (by omega) (by omega) (by omega) (by omega)) (Nat.le_refl _)) (ih _ _ (by omega) (by omega) (by omega) (by omega)) ?_
          · rw [← Option.some.inj hy, few_tns c hq.1 d hq.2.1]
            exact Nat.le_refl _
          · have := up _ (.pair hc hq.1 hd hq.2.1 (hM (i + 1) (i + 1 + t) (by omega) (by omega) (by omega)) (hM (i + 1 + t + 1) j (by omega) (by omega) (by omega)))
            omega
        · intro y hy; cases hy
      · refine lo_sm _ fun t ht => ?_
        unfold m3 opM
        rw [hc]
        dsimp only
        split
        · rename_i hq
          refine lo_mul (a := 1 + lstN l (i + 1) (i + 1 + t)) (b := lstN l (i + 1 + t) j) (lo_mul (a := 1) (b := lstN l (i + 1) (i + 1 + t)) (fun y hy => by rw [← Option.some.inj hy]; exact Nat.le_refl _) (ih _ _ (by omega) (by omega) (by omega) (by omega)) (Nat.le_refl _)) (ih _ _ (by omega) (by omega) (by omega) (by omega)) ?_
          have := up _ (.str hc (brk_or.mpr (.inl hq.1)) ((hM (i + 1) (i + 1 + t) (by omega) (by omega) (by omega)).app (hM (i + 1 + t) j (by omega) (by omega) (by omega))))
          omega
        · intro y hy; cases hy
      · refine lo_sm _ fun t ht => ?_
        obtain ⟨d, hd⟩ : ∃ d, l[i + t]? = some d := ⟨_, List.getElem?_eq_getElem (by omega)⟩
        unfold m3 clM
        rw [hd]
        dsimp only
        split
        · rename_i hq
          refine lo_mul (a := 1 + lstN l i (i + t)) (b := lstN l (i + t + 1) j) (lo_mul (a := 1) (b := lstN l i (i + t)) (fun y hy => by rw [← Option.some.inj hy]; exact Nat.le_refl _) (ih _ _ (by omega) (by omega) (by omega) (by omega)) (Nat.le_refl _)) (ih _ _ (by omega) (by omega) (by omega) (by omega)) ?_
          have := up _ ((hM i (i + t) (by omega) (by omega) (by omega)).app (.str hd (brk_or.mpr (.inr hq.1)) (hM (i + t + 1) j (by omega) (by omega) (by omega))))
          omega
        · intro y hy; cases hy
theorem mcN_hi {l : List Nat} {W : Wd} (hs : W.st = true) (ht : W.tn = true) {i j n : Nat} (h : Mn l i j n) : hi (mcN l W i j) n := by
  induction h with
  | nil i => exact ⟨_, mcN_self l W i, Nat.le_refl _⟩
  | @let_ i j n c e hb h ih =>
    have hij := h.le
    rw [mcN_step (by omega)]
    refine hi_addL (hi_mul (a := 0) ?_ ih (by omega))
    unfold sgM
    rw [e]
    dsimp only
    rw [if_neg hb]
    exact ⟨_, rfl, Nat.le_refl _⟩
  | @str i j n c e hb h ih =>
    have hij := h.le
    rw [mcN_step (by omega)]
    refine hi_addL (hi_mul (a := 1) ?_ ih (by omega))
    unfold sgM
    rw [e]
    dsimp only
    rw [if_pos hb, if_pos hs]
    exact ⟨_, rfl, Nat.le_refl _⟩
  | @pair i m j a b c d e1 hc e2 hd h1 h2 ih1 ih2 =>
    have k1 := h1.le
    have k2 := h2.le
    rw [mcN_step (by omega)]
    refine hi_addR (hi_addL (hi_sm (i := m - (i + 1)) _ (by omega) ?_))
    rw [show i + 1 + (m - (i + 1)) = m by omega]
    refine hi_mul (a := tns c d + a) (b := b) (hi_mul (a := tns c d) (b := a) ?_ ih1 (Nat.le_refl _)) ih2 (Nat.le_refl _)
    unfold prM
    rw [e1, e2]
    dsimp only
    rw [if_pos ⟨hc, hd, .inr ht⟩]
    exact ⟨_, rfl, by rw [few_tns c hc d hd]; exact Nat.le_refl _⟩
theorem mcN_cost {l : List Nat} {W : Wd} (hs : W.st = true) (ht : W.tn = true) {i j : Nat} (h1 : i ≤ j) (h2 : j ≤ l.length) : ∃ c, mcN l W i j = some (lstN l i j, c) := by
  obtain ⟨y, hy, hle⟩ := mcN_hi hs ht (lstN_spec h1 h2).1
  have := mcN_lo (W := W) (j - i) i j (Nat.le_refl _) h1 h2 y hy
  refine ⟨y.2, ?_⟩
  rw [hy, show lstN l i j = y.1 by omega]
end Ly

set_option maxHeartbeats 4000000
namespace Ly
open PySem PySem.Spec PyProof.Rows L2 SX
/-! ### data in heaps -/
section
variable {K : PySem.W.Frag} {H : Hp} {Q : VK} {x y : V} {d e : PyData}
theorem g_neDp (h1 : Dp K H x d) (h2 : Dp K H y d) (hs : SeqAt.shaped d = true) (q : Q (.bl false) H) : rNeD K x y H Q := by
  refine ⟨d, d, h1, h2, hs, hs, ?_⟩
  rw [SeqAt.eqv_refl d (by unfold SeqAt.shaped at hs; rw [Bool.and_eq_true] at hs; exact hs.1)]
  exact q
theorem g_eqDp (h1 : Dp K H x d) (h2 : Dp K H y d) (hs : SeqAt.shaped d = true) (q : Q (.bl true) H) : rEqD K x y H Q := by
  refine ⟨d, d, h1, h2, hs, hs, ?_⟩
  rw [SeqAt.eqv_refl d (by unfold SeqAt.shaped at hs; rw [Bool.and_eq_true] at hs; exact hs.1)]
  exact q
end
end Ly

set_option maxHeartbeats 4000000
namespace Ly
open PySem PySem.Spec PyProof.Rows L2 SX
/-! ### deeds -/
inductive Dw where
  | put (c : Nat)
  | str
  | trn (c : Nat)
  deriving DecidableEq
abbrev Deed := Nat × Dw
def Dw.w : Dw → List Nat
  | .put _ => [112, 117, 116]
  | .str => [115, 116, 114, 105, 107, 101]
  | .trn _ => [116, 117, 114, 110]
def Dw.s : Dw → List Nat
  | .put c => [c]
  | .str => []
  | .trn c => [c]
def Dw.isPut : Dw → Bool
  | .put _ => true
  | _ => false
def ddV (d : Deed) : List V := [.int (d.1 : Nat), Tx d.2.w, Tx d.2.s]
def okB (l : List Nat) (d : Deed) : Bool := match d.2 with
  | .put c => decide (d.1 ≤ l.length) && decide (c ∈ BRK)
  | .str => match l[d.1]? with
    | some x => decide (x ∈ BRK)
    | none => false
  | .trn c => match l[d.1]? with
    | some x => decide (x ∈ BRK) && (decide (c ∈ BRK) && !decide (c = x))
    | none => false
def nxB (d e : Deed) : Bool := decide (d.1 < e.1) || (decide (d.1 = e.1) && d.2.isPut)
def chB : List Deed → Bool
  | d :: e :: r => nxB d e && chB (e :: r)
  | _ => true
def okDs (l : List Nat) (ds : List Deed) : Bool := ds.all (okB l) && chB ds
def putc (p : Nat) (d : Deed) : List Nat := if d.1 = p then (match d.2 with | .put c => [c] | _ => []) else []
def puts (ds : List Deed) (p : Nat) : List Nat := (ds.map (putc p)).flatten
def othD : List Deed → Nat → Option Dw
  | [], _ => none
  | d :: r, p => match othD r p with
    | some w => some w
    | none => if d.1 = p ∧ d.2.isPut = false then some d.2 else none
theorem puts_cons (ds : List Deed) (d : Deed) (p : Nat) : puts (d :: ds) p = putc p d ++ puts ds p := rfl
def mid (o : Option Dw) (x : List Nat) : List Nat := match o with
  | none => x
  | some w => w.s
def piece (l : List Nat) (ds : List Deed) (p : Nat) : List Nat := puts ds p ++ mid (othD ds p) ((l.drop p).take 1)
def doneTo (l : List Nat) (ds : List Deed) (n : Nat) : List Nat := ((List.range n).map (piece l ds)).flatten
def doneL (l : List Nat) (ds : List Deed) : List Nat := doneTo l ds (l.length + 1)
def doneAt (ds : List Deed) : Nat → List Nat → List Nat
  | p, [] => puts ds p ++ mid (othD ds p) []
  | p, c :: r => puts ds p ++ mid (othD ds p) [c] ++ doneAt ds (p + 1) r
theorem doneAt_rng (l : List Nat) (ds : List Deed) : ∀ (r : List Nat) (p : Nat), l.drop p = r → ((List.range' p (r.length + 1)).map (piece l ds)).flatten = doneAt ds p r
  | [], p, h => by
    show (piece l ds p ++ _) = _
    unfold piece
    rw [h]
    simp [doneAt]
  | c :: r, p, h => by
    rw [List.length_cons, List.range'_succ, List.map_cons, List.flatten_cons, doneAt, doneAt_rng l ds r (p + 1) (by rw [← List.drop_drop, h]; rfl)]
    unfold piece
    rw [h]
    rfl
theorem doneL_at (l : List Nat) (ds : List Deed) : doneL l ds = doneAt ds 0 l := by
  unfold doneL doneTo
  rw [List.range_eq_range']
  exact doneAt_rng l ds l 0 (by simp)
def low (q : Nat) (ds : List Deed) : Prop := ∀ d ∈ ds, q ≤ d.1
theorem low_cons {q : Nat} {d : Deed} {ds : List Deed} : low q (d :: ds) ↔ q ≤ d.1 ∧ low q ds := by
  unfold low
  simp
theorem puts_low {p : Nat} : ∀ {ds : List Deed}, low (p + 1) ds → puts ds p = []
  | [], _ => rfl
  | d :: ds, h => by
    rw [low_cons] at h
    rw [puts_cons, puts_low h.2, putc, if_neg (by omega)]
    rfl
theorem oth_low {p : Nat} : ∀ {ds : List Deed}, low (p + 1) ds → othD ds p = none
  | [], _ => rfl
  | d :: ds, h => by
    rw [low_cons] at h
    rw [othD, oth_low h.2]
    dsimp only
    rw [if_neg (by omega)]
theorem doneAt_past {d : Deed} (ds : List Deed) : ∀ (r : List Nat) (p : Nat), d.1 < p → doneAt (d :: ds) p r = doneAt ds p r
  | [], p, h => by
    rw [doneAt, doneAt, puts_cons, putc, if_neg (by omega), othD]
    cases othD ds p with
    | some w => rfl
    | none => dsimp only; rw [if_neg (by omega)]; rfl
  | c :: r, p, h => by
    rw [doneAt, doneAt, puts_cons, putc, if_neg (by omega), othD, doneAt_past ds r (p + 1) (by omega)]
    cases othD ds p with
    | some w => rfl
    | none => dsimp only; rw [if_neg (by omega)]; rfl
def app (d : Deed) (s : List Nat) : List Nat := match d.2 with
  | .put c => s.take d.1 ++ [c] ++ s.drop d.1
  | .str => s.eraseIdx d.1
  | .trn c => s.set d.1 c
def behind (l : List Nat) (ds : List Deed) : List Nat := ds.foldr app l
theorem okB_le {l : List Nat} {d : Deed} (h : okB l d = true) : d.1 ≤ l.length ∧ (d.2.isPut = false → d.1 < l.length) := by
  unfold okB at h
  obtain ⟨q, w⟩ := d
  cases w with
  | put c =>
    rw [Bool.and_eq_true] at h
    exact ⟨of_decide_eq_true h.1, fun e => by cases e⟩
  | str =>
    dsimp only at h
    cases e : l[q]? with
    | none => rw [e] at h; cases h
    | some x =>
      have := (List.getElem?_eq_some_iff.mp e).1
      exact ⟨by show q ≤ _; omega, fun _ => this⟩
  | trn c =>
    dsimp only at h
    cases e : l[q]? with
    | none => rw [e] at h; cases h
    | some x =>
      have := (List.getElem?_eq_some_iff.mp e).1
      exact ⟨by show q ≤ _; omega, fun _ => this⟩
/-! ### lists of deeds in heaps -/
def ddD (d : Deed) : PyData := .tuple [.int (d.1 : Nat), .str (S d.2.w), .str (S d.2.s)]
def ddsD (ds : List Deed) : PyData := .list (ds.map ddD)
structure Dds (H : Hp) (a : Addr) (rs : List Addr) (ds : List Deed) : Prop where
  hd : H a = some (.lst (rs.map V.ref))
  len : rs.length = ds.length
  it : ∀ (k : Nat) (r : Addr) (d : Deed), rs[k]? = some r → ds[k]? = some d → H r = some (.tup (ddV d))
theorem Dds.same {H H' : Hp} {a : Addr} {rs : List Addr} {ds : List Deed} (h : Dds H a rs ds) (s : Same H H') : Dds H' a rs ds := ⟨s _ _ h.hd, h.len, fun k r d h1 h2 => s _ _ (h.it k r d h1 h2)⟩
theorem Dds.but {H H' : Hp} {a p : Addr} {rs : List Addr} {ds : List Deed} {ys : List V} (h : Dds H a rs ds) (s : But p H H') (hp : H p = some (.lst ys)) (hn : a ≠ p) : Dds H' a rs ds := by
  refine ⟨s _ _ hn h.hd, h.len, fun k r d h1 h2 => ?_⟩
  have := h.it k r d h1 h2
  exact s _ _ (fun e => by rw [e, hp] at this; cases this) this
def sgD (ds : List Deed) : Prop := ∀ d ∈ ds, ∀ c ∈ d.2.s, c < 1114112
theorem dw_lt (w : Dw) : ∀ c ∈ w.w, c < 1114112 := by
  cases w with
  | put c => show ∀ c ∈ [112, 117, 116], c < 1114112; decide
  | str => decide
  | trn c => show ∀ c ∈ [116, 117, 114, 110], c < 1114112; decide
theorem Dds.row {H : Hp} {a : Addr} {rs : List Addr} {ds : List Deed} (h : Dds H a rs ds) {k : Nat} (hk : k < ds.length) : ∃ r d, rs[k]? = some r ∧ ds[k]? = some d ∧ (rs.map V.ref)[k]? = some (V.ref r) ∧ H r = some (.tup (ddV d)) := by
  have e1 : rs[k]? = some (rs[k]'(by rw [h.len]; exact hk)) := List.getElem?_eq_getElem (by rw [h.len]; exact hk)
  have e2 : ds[k]? = some ds[k] := List.getElem?_eq_getElem hk
  exact ⟨_, _, e1, e2, by rw [List.getElem?_map, e1]; rfl, h.it k _ _ e1 e2⟩
theorem Dds.snoc {H H' : Hp} {a t : Addr} {rs : List Addr} {ds : List Deed} {d : Deed} (h : Dds H a rs ds) (ht : H t = some (.tup (ddV d))) (s : But a H H') (e : H' a = some (.lst (rs.map V.ref ++ [.ref t]))) : Dds H' a (rs ++ [t]) (ds ++ [d]) := by
  have ne : ∀ r ys, H r = some (.tup ys) → r ≠ a := fun r ys e q => by rw [q, h.hd] at e; cases e
  refine ⟨by rw [e, List.map_append]; rfl, by simp [h.len], fun k r y q1 q2 => ?_⟩
  by_cases hk : k < rs.length
  · rw [List.getElem?_append_left hk] at q1
    rw [List.getElem?_append_left (by rw [← h.len]; exact hk)] at q2
    have := h.it k r y q1 q2
    exact s _ _ (ne _ _ this) this
  · have hk : k = rs.length := by
      have := (List.getElem?_eq_some_iff.mp q1).1
      simp at this
      omega
    rw [List.getElem?_append_right (by omega), hk, Nat.sub_self] at q1
    rw [List.getElem?_append_right (by rw [← h.len]; omega), hk, h.len, Nat.sub_self] at q2
    have e1 : t = r := Option.some.inj q1
    have e2 : d = y := Option.some.inj q2
    subst e1 e2
    exact s _ _ (ne _ _ ht) ht
/-! ### one sign of a text by a slice -/
section
variable {K : PySem.W.Frag} {σ : L2.St} {H : Hp} {g : TG} {tb : TS} {D : Ends} {a b : Addr} {xs ys : List V}
end
theorem nxB_lt {d e : Deed} (h : d.1 < e.1) : nxB d e = true := by
  unfold nxB
  rw [decide_eq_true h]
  rfl
theorem nxB_put {d e : Deed} (h : d.1 ≤ e.1) (hp : d.2.isPut = true) : nxB d e = true := by
  unfold nxB
  rw [hp]
  by_cases h1 : d.1 < e.1
  · rw [decide_eq_true h1]; rfl
  · rw [decide_eq_true (show d.1 = e.1 by omega)]; simp
end Ly

set_option maxHeartbeats 4000000
namespace Ly
/-! ### deeds as rows of steps -/
inductive Stp where
  | kp (c : Nat)
  | st (c : Nat)
  | tn (c d : Nat)
  | pt (d : Nat)
  deriving DecidableEq
def Stp.i : Stp → List Nat
  | .kp c => [c]
  | .st c => [c]
  | .tn c _ => [c]
  | .pt _ => []
def Stp.o : Stp → List Nat
  | .kp c => [c]
  | .st _ => []
  | .tn _ d => [d]
  | .pt d => [d]
def Stp.ok : Stp → Prop
  | .kp _ => True
  | .st c => c ∈ BRK
  | .tn c d => c ∈ BRK ∧ d ∈ BRK ∧ d ≠ c
  | .pt d => d ∈ BRK
def inS (α : List Stp) : List Nat := (α.map Stp.i).flatten
def outS (α : List Stp) : List Nat := (α.map Stp.o).flatten
def okS (α : List Stp) : Prop := ∀ s ∈ α, s.ok
def ddS : Nat → List Stp → List Deed
  | _, [] => []
  | p, .kp _ :: α => ddS (p + 1) α
  | p, .st _ :: α => (p, .str) :: ddS (p + 1) α
  | p, .tn _ d :: α => (p, .trn d) :: ddS (p + 1) α
  | p, .pt d :: α => (p, .put d) :: ddS p α
theorem inS_cons (s : Stp) (α : List Stp) : inS (s :: α) = s.i ++ inS α := rfl
theorem outS_cons (s : Stp) (α : List Stp) : outS (s :: α) = s.o ++ outS α := rfl
theorem dd_low : ∀ (α : List Stp) (p : Nat), low p (ddS p α)
  | [], p => fun d hd => by cases hd
  | .kp c :: α, p => fun d hd => by have := dd_low α (p + 1) d hd; omega
  | .st c :: α, p => low_cons.mpr ⟨Nat.le_refl _, fun d hd => by have := dd_low α (p + 1) d hd; omega⟩
  | .tn c e :: α, p => low_cons.mpr ⟨Nat.le_refl _, fun d hd => by have := dd_low α (p + 1) d hd; omega⟩
  | .pt c :: α, p => low_cons.mpr ⟨Nat.le_refl _, dd_low α p⟩
theorem doneAt_put {c p : Nat} (ds : List Deed) (r : List Nat) : doneAt ((p, Dw.put c) :: ds) p r = c :: doneAt ds p r := by
  have e4 : othD ((p, Dw.put c) :: ds) p = othD ds p := by
    rw [othD]
    cases othD ds p with
    | some w => rfl
    | none => dsimp only; rw [if_neg (by intro h; cases h.2)]
  cases r with
  | nil => rw [doneAt, doneAt, puts_cons, putc, if_pos rfl, e4]; rfl
  | cons x r => rw [doneAt, doneAt, puts_cons, putc, if_pos rfl, e4, doneAt_past ds r (p + 1) (by show p < p + 1; omega)]; rfl
theorem doneAt_oth {w : Dw} {p x : Nat} {ds : List Deed} (hw : w.isPut = false) (hl : low (p + 1) ds) (r : List Nat) : doneAt ((p, w) :: ds) p (x :: r) = w.s ++ doneAt ds (p + 1) r := by
  rw [doneAt, puts_cons, putc, if_pos rfl, puts_low hl, othD, oth_low hl, doneAt_past ds _ (p + 1) (by show p < p + 1; omega)]
  dsimp only
  rw [if_pos ⟨rfl, hw⟩]
  cases w with
  | put c => cases hw
  | str => rfl
  | trn c => rfl
theorem doneAt_none {p x : Nat} {ds : List Deed} (hl : low (p + 1) ds) (r : List Nat) : doneAt ds p (x :: r) = x :: doneAt ds (p + 1) r := by
  rw [doneAt, puts_low hl, oth_low hl]
  rfl
theorem done_out : ∀ (α : List Stp) (p : Nat), doneAt (ddS p α) p (inS α) = outS α
  | [], p => rfl
  | .kp c :: α, p => by
    show doneAt (ddS (p + 1) α) p (c :: inS α) = c :: outS α
    rw [doneAt_none (dd_low α (p + 1)), done_out α (p + 1)]
  | .st c :: α, p => by
    show doneAt ((p, .str) :: ddS (p + 1) α) p (c :: inS α) = outS α
    rw [doneAt_oth rfl (dd_low α (p + 1)), done_out α (p + 1)]
    rfl
  | .tn c d :: α, p => by
    show doneAt ((p, .trn d) :: ddS (p + 1) α) p (c :: inS α) = d :: outS α
    rw [doneAt_oth rfl (dd_low α (p + 1)), done_out α (p + 1)]
    rfl
  | .pt d :: α, p => by
    show doneAt ((p, .put d) :: ddS p α) p (inS α) = d :: outS α
    rw [doneAt_put, done_out α p]
/-! the row of steps of deeds -/
theorem dd_chain : ∀ (α : List Stp) (p : Nat), chB (ddS p α) = true
  | [], p => rfl
  | .kp c :: α, p => dd_chain α (p + 1)
  | .st c :: α, p => by
    have h := dd_chain α (p + 1)
    have hl := dd_low α (p + 1)
    rw [ddS]
    cases e : ddS (p + 1) α with
    | nil => rfl
    | cons d ds =>
      rw [e] at h hl
      rw [chB, h, Bool.and_true]
      exact nxB_lt (by have := (low_cons.mp hl).1; show p < d.1; omega)
  | .tn c x :: α, p => by
    have h := dd_chain α (p + 1)
    have hl := dd_low α (p + 1)
    rw [ddS]
    cases e : ddS (p + 1) α with
    | nil => rfl
    | cons d ds =>
      rw [e] at h hl
      rw [chB, h, Bool.and_true]
      exact nxB_lt (by have := (low_cons.mp hl).1; show p < d.1; omega)
  | .pt c :: α, p => by
    have h := dd_chain α p
    have hl := dd_low α p
    rw [ddS]
    cases e : ddS p α with
    | nil => rfl
    | cons d ds =>
      rw [e] at h hl
      rw [chB, h, Bool.and_true]
      exact nxB_put (by have := (low_cons.mp hl).1; show p ≤ d.1; omega) rfl
theorem okB_app {pre l : List Nat} {d : Deed} (h : okB l d = true) : okB (pre ++ l) (pre.length + d.1, d.2) = true := by
  obtain ⟨q, w⟩ := d
  unfold okB at h ⊢
  cases w with
  | put c =>
    dsimp only at h ⊢
    rw [Bool.and_eq_true] at h ⊢
    refine ⟨decide_eq_true ?_, h.2⟩
    have := of_decide_eq_true h.1
    rw [List.length_append]
    omega
  | str =>
    dsimp only at h ⊢
    rw [List.getElem?_append_right (by omega), show pre.length + q - pre.length = q by omega]
    exact h
  | trn c =>
    dsimp only at h ⊢
    rw [List.getElem?_append_right (by omega), show pre.length + q - pre.length = q by omega]
    exact h
theorem dd_ok : ∀ (α : List Stp) (pre : List Nat), okS α → ∀ d ∈ ddS pre.length α, okB (pre ++ inS α) d = true
  | [], pre, _, d, hd => by cases hd
  | .kp c :: α, pre, h, d, hd => by
    have := dd_ok α (pre ++ [c]) (fun s hs => h s (List.mem_cons_of_mem _ hs)) d (by rw [List.length_append]; exact hd)
    rw [List.append_assoc] at this
    exact this
  | .st c :: α, pre, h, d, hd => by
    rcases List.mem_cons.mp hd with rfl | hd
    · have hb : c ∈ BRK := h _ (List.mem_cons_self ..)
      have := okB_app (pre := pre) (l := inS (.st c :: α)) (d := (0, .str)) (by show decide (c ∈ BRK) = true; exact decide_eq_true hb)
      exact this
    · have := dd_ok α (pre ++ [c]) (fun s hs => h s (List.mem_cons_of_mem _ hs)) d (by rw [List.length_append]; exact hd)
      rw [List.append_assoc] at this
      exact this
  | .tn c e :: α, pre, h, d, hd => by
    rcases List.mem_cons.mp hd with rfl | hd
    · have hb : c ∈ BRK ∧ e ∈ BRK ∧ e ≠ c := h _ (List.mem_cons_self ..)
      have := okB_app (pre := pre) (l := inS (.tn c e :: α)) (d := (0, .trn e)) (by
        show (decide (c ∈ BRK) && (decide (e ∈ BRK) && !decide (e = c))) = true
        rw [decide_eq_true hb.1, decide_eq_true hb.2.1, decide_eq_false hb.2.2]
        rfl)
      exact this
    · have := dd_ok α (pre ++ [c]) (fun s hs => h s (List.mem_cons_of_mem _ hs)) d (by rw [List.length_append]; exact hd)
      rw [List.append_assoc] at this
      exact this
  | .pt c :: α, pre, h, d, hd => by
    rcases List.mem_cons.mp hd with rfl | hd
    · have hb : c ∈ BRK := h _ (List.mem_cons_self ..)
      have := okB_app (pre := pre) (l := inS (.pt c :: α)) (d := (0, .put c)) (by
        show (decide (0 ≤ (inS (Stp.pt c :: α)).length) && decide (c ∈ BRK)) = true
        rw [decide_eq_true (Nat.zero_le _), decide_eq_true hb]
        rfl)
      exact this
    · exact dd_ok α pre (fun s hs => h s (List.mem_cons_of_mem _ hs)) d hd
theorem row_ok {α : List Stp} (h : okS α) : okDs (inS α) (ddS 0 α) = true := by
  unfold okDs
  rw [dd_chain, Bool.and_true]
  exact List.all_eq_true.mpr fun d hd => dd_ok α [] h d hd
theorem row_done (α : List Stp) : doneL (inS α) (ddS 0 α) = outS α := by rw [doneL_at, done_out]
/-! ### deeds that lead back -/
/-! ### rows of old and new signs -/
abbrev Rw := Option Nat × List Nat
section
open PySem PySem.Spec PyProof.Rows L2 SX
variable {X : Cx} {tg : Expr}
end
end Ly

set_option maxHeartbeats 4000000
namespace Ly
open PySem PySem.Spec PyProof.Rows L2 SX
/-! ### exceptions that are caught and kept -/
section
variable {X : Cx} {pins : List (Addr × Obj)} {σ : L2.St} {H : Hp} {s : Shared}
end
section
variable {X : Cx} {x n : Str} {c : Value} {i : Nat} {body suite : List Stmt} {b₀ : Stmt} {np pos pos' : Pos} {tb : WX → TS} {ts : Addr → Value → Option Addr → TS} {Wout : WX}
end
/-! isinstance of a kept exception -/
section
variable {X : Cx}
end
/-! defs that raise -/
section
variable {P : Program} {w : World} {K : PySem.W.Frag} {mg : Str → Option Value} {base : Heap}
end
def tOwnX (sp : Sp) (W : WX) (t : TA) : TE := fun σ H Q => t σ H fun vs H1 => sp vs H1 Q (fun cls d H2 => W cls d σ H2)
def tMetX (C : Addr) (m : Str) (sp : Sp) (W : WX) (ta : TE) (t : TA) : TE := fun σ H Q => ta σ H fun x H1 => rMetO C m x H1 (t σ H1 fun vs H2 => sp (x :: vs) H2 Q (fun cls d H2 => W cls d σ H2))
section
variable {X : Cx} {k j : Nat} {C : Addr} {x m : Str} {sp : Sp} {p pos apos : Pos} {e o : Expr} {es : List Expr} {ta : TE} {t : TA} {W : WX}
end
/-! what is known of an error's class -/
theorem all_at {bs : List Bool} (h : bs.all id = true) {i : Nat} {b : Bool} (e : bs[i]? = some b) : b = true := List.all_eq_true.mp h b (List.mem_of_getElem? e)
/-! readings -/
section
variable {K : PySem.W.Frag} {H : Hp} {Q : VK} {a D : Addr}
end
end Ly

set_option maxHeartbeats 0
namespace K33
open PySem PySem.Spec PyProof.Rows L2 SX Ly
def topS (i : Nat) : Stmt := PySem.Challenge.pw_nestmend_k33_shares_told.main.body.getD i (.Pass ⟨0, 0, 0, 0⟩)
abbrev s_wall : Stmt := topS 0
abbrev s_kind_of : Stmt := topS 4
abbrev N_kind_of : List Str := ["bracket"]
theorem st_kind_of (v0 : V) : L2.start N_kind_of [v0] = [some v0] := rfl
theorem sc_kind_of : FnScope N_kind_of ["bracket"] (defScope s_kind_of) := ⟨rfl, rfl, rfl, by decide +kernel, rfl, by decide +kernel, by decide +kernel⟩
abbrev s_turned : Stmt := topS 7
abbrev N_turned : List Str := ["place", "sign", "wanted"]
theorem st_turned (v0 v1 v2 : V) : L2.start N_turned [v0, v1, v2] = [some v0, some v1, some v2] := rfl
theorem sc_turned : FnScope N_turned ["place", "sign", "wanted"] (defScope s_turned) := ⟨rfl, rfl, rfl, by decide +kernel, rfl, by decide +kernel, by decide +kernel⟩
abbrev s_is_letter : Stmt := topS 8
abbrev N_is_letter : List Str := ["sign"]
theorem st_is_letter (v0 : V) : L2.start N_is_letter [v0] = [some v0] := rfl
theorem sc_is_letter : FnScope N_is_letter ["sign"] (defScope s_is_letter) := ⟨rfl, rfl, rfl, by decide +kernel, rfl, by decide +kernel, by decide +kernel⟩
abbrev s_fewest_turns : Stmt := topS 9
abbrev N_fewest_turns : List Str := ["one", "other", "unlike"]
theorem st_fewest_turns (v0 v1 : V) : L2.start N_fewest_turns [v0, v1] = [some v0, some v1, none] := rfl
theorem sc_fewest_turns : FnScope N_fewest_turns ["one", "other"] (defScope s_fewest_turns) := ⟨rfl, rfl, rfl, by decide +kernel, rfl, by decide +kernel, by decide +kernel⟩
abbrev s_least_steps : Stmt := topS 12
abbrev N_least_steps : List Str := ["ways", "i", "j", "found", "deeds", "parts", "number", "many"]
theorem st_least_steps (v0 v1 v2 : V) : L2.start N_least_steps [v0, v1, v2] = [some v0, some v1, some v2, none, none, none, none, none] := rfl
theorem sc_least_steps : FnScope N_least_steps ["ways", "i", "j"] (defScope s_least_steps) := ⟨rfl, rfl, rfl, by decide +kernel, rfl, by decide +kernel, by decide +kernel⟩
abbrev s_shares_in : Stmt := topS 13
abbrev N_shares_in : List Str := ["ways", "known", "i", "j", "found", "deeds", "parts", "many", "deed", "part", "times", "some"]
theorem st_shares_in (v0 v1 v2 v3 : V) : L2.start N_shares_in [v0, v1, v2, v3] = [some v0, some v1, some v2, some v3, none, none, none, none, none, none, none, none] := rfl
theorem sc_shares_in : FnScope N_shares_in ["ways", "known", "i", "j"] (defScope s_shares_in) := ⟨rfl, rfl, rfl, by decide +kernel, rfl, by decide +kernel, by decide +kernel⟩
abbrev s_all_shares : Stmt := topS 14
abbrev N_all_shares : List Str := ["ways", "size", "known", "i", "j"]
theorem st_all_shares (v0 : V) : L2.start N_all_shares [v0] = [some v0, none, none, none, none] := rfl
theorem sc_all_shares : FnScope N_all_shares ["ways"] (defScope s_all_shares) := ⟨rfl, rfl, rfl, by decide +kernel, rfl, by decide +kernel, by decide +kernel⟩
abbrev s_shares_of : Stmt := topS 15
abbrev N_shares_of : List Str := ["text", "found", "deed"]
theorem st_shares_of (v0 : V) : L2.start N_shares_of [v0] = [some v0, none, none] := rfl
theorem sc_shares_of : FnScope N_shares_of ["text"] (defScope s_shares_of) := ⟨rfl, rfl, rfl, by decide +kernel, rfl, by decide +kernel, by decide +kernel⟩
abbrev s_law_stream : Stmt := topS 17
abbrev N_law_stream : List Str := ["cell", "low"]
theorem st_law_stream (v0 : V) : L2.start N_law_stream [v0] = [some v0, none] := rfl
theorem sc_law_stream : FnScope N_law_stream ["cell"] (defScope s_law_stream) := ⟨rfl, rfl, rfl, by decide +kernel, rfl, by decide +kernel, by decide +kernel⟩
abbrev s_law_take : Stmt := topS 18
abbrev N_law_take : List Str := ["row", "many", "got"]
theorem st_law_take (v0 v1 : V) : L2.start N_law_take [v0, v1] = [some v0, some v1, none] := rfl
theorem sc_law_take : FnScope N_law_take ["row", "many"] (defScope s_law_take) := ⟨rfl, rfl, rfl, by decide +kernel, rfl, by decide +kernel, by decide +kernel⟩
abbrev s_law_bracket : Stmt := topS 19
abbrev N_law_bracket : List Str := ["row", "kinds"]
theorem st_law_bracket (v0 v1 : V) : L2.start N_law_bracket [v0, v1] = [some v0, some v1] := rfl
theorem sc_law_bracket : FnScope N_law_bracket ["row", "kinds"] (defScope s_law_bracket) := ⟨rfl, rfl, rfl, by decide +kernel, rfl, by decide +kernel, by decide +kernel⟩
abbrev s_law_clean : Stmt := topS 20
abbrev N_law_clean : List Str := ["row", "most", "kinds", "text", "k", "at", "kind", "inner"]
theorem st_law_clean (v0 v1 v2 : V) : L2.start N_law_clean [v0, v1, v2] = [some v0, some v1, some v2, none, none, none, none, none] := rfl
theorem sc_law_clean : FnScope N_law_clean ["row", "most", "kinds"] (defScope s_law_clean) := ⟨rfl, rfl, rfl, by decide +kernel, rfl, by decide +kernel, by decide +kernel⟩
abbrev s_law_text : Stmt := topS 21
abbrev N_law_text : List Str := ["row", "most", "kinds", "signs", "letter", "text", "k", "at", "others", "sign"]
theorem st_law_text (v0 v1 : V) : L2.start N_law_text [v0, v1] = [some v0, some v1, none, none, none, none, none, none, none, none] := rfl
theorem sc_law_text : FnScope N_law_text ["row", "most"] (defScope s_law_text) := ⟨rfl, rfl, rfl, by decide +kernel, rfl, by decide +kernel, by decide +kernel⟩
abbrev s_law_open : Stmt := topS 22
abbrev N_law_open : List Str := ["stack", "bracket"]
theorem st_law_open (v0 v1 : V) : L2.start N_law_open [v0, v1] = [some v0, some v1] := rfl
theorem sc_law_open : FnScope N_law_open ["stack", "bracket"] (defScope s_law_open) := ⟨rfl, rfl, rfl, by decide +kernel, rfl, by decide +kernel, by decide +kernel⟩
abbrev s_law_steps : Stmt := topS 23
abbrev N_law_steps : List Str := ["text", "words", "at", "left", "found", "others", "bracket"]
theorem st_law_steps (v0 v1 v2 v3 : V) : L2.start N_law_steps [v0, v1, v2, v3] = [some v0, some v1, some v2, some v3, none, none, none] := rfl
theorem sc_law_steps : FnScope N_law_steps ["text", "words", "at", "left"] (defScope s_law_steps) := ⟨rfl, rfl, rfl, by decide +kernel, rfl, by decide +kernel, by decide +kernel⟩
abbrev s_law_behind : Stmt := topS 24
abbrev N_law_behind : List Str := ["stack", "bracket"]
theorem st_law_behind (v0 v1 : V) : L2.start N_law_behind [v0, v1] = [some v0, some v1] := rfl
theorem sc_law_behind : FnScope N_law_behind ["stack", "bracket"] (defScope s_law_behind) := ⟨rfl, rfl, rfl, by decide +kernel, rfl, by decide +kernel, by decide +kernel⟩
abbrev s_law_all : Stmt := topS 25
abbrev N_law_all : List Str := ["text", "at", "stack", "left", "found", "deed", "bracket", "further", "behind", "rows", "one"]
theorem st_law_all (v0 v1 v2 v3 : V) : L2.start N_law_all [v0, v1, v2, v3] = [some v0, some v1, some v2, some v3, none, none, none, none, none, none, none] := rfl
theorem sc_law_all : FnScope N_law_all ["text", "at", "stack", "left"] (defScope s_law_all) := ⟨rfl, rfl, rfl, by decide +kernel, rfl, by decide +kernel, by decide +kernel⟩
abbrev s_law_least_rows : Stmt := topS 26
abbrev N_law_least_rows : List Str := ["text", "left", "rows"]
theorem st_law_least_rows (v0 : V) : L2.start N_law_least_rows [v0] = [some v0, none, none] := rfl
theorem sc_law_least_rows : FnScope N_law_least_rows ["text"] (defScope s_law_least_rows) := ⟨rfl, rfl, rfl, by decide +kernel, rfl, by decide +kernel, by decide +kernel⟩
abbrev s_law_shares : Stmt := topS 27
abbrev N_law_shares : List Str := ["rows", "found", "row", "deed"]
theorem st_law_shares (v0 : V) : L2.start N_law_shares [v0] = [some v0, none, none, none] := rfl
theorem sc_law_shares : FnScope N_law_shares ["rows"] (defScope s_law_shares) := ⟨rfl, rfl, rfl, by decide +kernel, rfl, by decide +kernel, by decide +kernel⟩
abbrev s_law_same : Stmt := topS 28
abbrev N_law_same : List Str := ["found", "due", "one"]
theorem st_law_same (v0 v1 : V) : L2.start N_law_same [v0, v1] = [some v0, some v1, none] := rfl
theorem sc_law_same : FnScope N_law_same ["found", "due"] (defScope s_law_same) := ⟨rfl, rfl, rfl, by decide +kernel, rfl, by decide +kernel, by decide +kernel⟩
abbrev s_law : Stmt := topS 29
abbrev N_law : List Str := ["script", "cell", "text", "due", "told"]
theorem st_law (v0 : V) : L2.start N_law [v0] = [some v0, none, none, none, none] := rfl
theorem sc_law : FnScope N_law ["script"] (defScope s_law) := ⟨rfl, rfl, rfl, by decide +kernel, rfl, by decide +kernel, by decide +kernel⟩
abbrev s_Ways_init : Stmt := inClass (topS 10) 0
abbrev N_Ways_init : List Str := ["self", "signs", "words", "sign"]
theorem st_Ways_init (v0 v1 v2 : V) : L2.start N_Ways_init [v0, v1, v2] = [some v0, some v1, some v2, none] := rfl
theorem sc_Ways_init : FnScope N_Ways_init ["self", "signs", "words"] (defScope s_Ways_init) := ⟨rfl, rfl, rfl, by decide +kernel, rfl, by decide +kernel, by decide +kernel⟩
abbrev s_Ways_cost : Stmt := inClass (topS 10) 1
abbrev N_Ways_cost : List Str := ["self", "i", "j"]
theorem st_Ways_cost (v0 v1 v2 : V) : L2.start N_Ways_cost [v0, v1, v2] = [some v0, some v1, some v2] := rfl
theorem sc_Ways_cost : FnScope N_Ways_cost ["self", "i", "j"] (defScope s_Ways_cost) := ⟨rfl, rfl, rfl, by decide +kernel, rfl, by decide +kernel, by decide +kernel⟩
abbrev s_Ways_count : Stmt := inClass (topS 10) 2
abbrev N_Ways_count : List Str := ["self", "i", "j"]
theorem st_Ways_count (v0 v1 v2 : V) : L2.start N_Ways_count [v0, v1, v2] = [some v0, some v1, some v2] := rfl
theorem sc_Ways_count : FnScope N_Ways_count ["self", "i", "j"] (defScope s_Ways_count) := ⟨rfl, rfl, rfl, by decide +kernel, rfl, by decide +kernel, by decide +kernel⟩
abbrev s_Ways_grow : Stmt := inClass (topS 10) 3
abbrev N_Ways_grow : List Str := ["self", "sign", "end", "begin", "told"]
theorem st_Ways_grow (v0 v1 : V) : L2.start N_Ways_grow [v0, v1] = [some v0, some v1, none, none, none] := rfl
theorem sc_Ways_grow : FnScope N_Ways_grow ["self", "sign"] (defScope s_Ways_grow) := ⟨rfl, rfl, rfl, by decide +kernel, rfl, by decide +kernel, by decide +kernel⟩
abbrev s_Ways_reckoned : Stmt := inClass (topS 10) 5
abbrev N_Ways_reckoned : List Str := ["self", "i", "j", "least", "count", "number", "many"]
theorem st_Ways_reckoned (v0 v1 v2 : V) : L2.start N_Ways_reckoned [v0, v1, v2] = [some v0, some v1, some v2, none, none, none, none] := rfl
theorem sc_Ways_reckoned : FnScope N_Ways_reckoned ["self", "i", "j"] (defScope s_Ways_reckoned) := ⟨rfl, rfl, rfl, by decide +kernel, rfl, by decide +kernel, by decide +kernel⟩
abbrev s_Ways_numbers : Stmt := inClass (topS 10) 6
abbrev N_Ways_numbers : List Str := ["self", "i", "j", "found", "sign", "m", "number", "kinds"]
theorem st_Ways_numbers (v0 v1 v2 : V) : L2.start N_Ways_numbers [v0, v1, v2] = [some v0, some v1, some v2, none, none, none, none, none] := rfl
theorem sc_Ways_numbers : FnScope N_Ways_numbers ["self", "i", "j"] (defScope s_Ways_numbers) := ⟨rfl, rfl, rfl, by decide +kernel, rfl, by decide +kernel, by decide +kernel⟩
abbrev s_Ways_note : Stmt := inClass (topS 10) 7
abbrev N_Ways_note : List Str := ["self", "found", "number", "many", "begin", "m", "j", "behind", "inside", "rest"]
theorem st_Ways_note (v0 v1 v2 v3 v4 v5 v6 : V) : L2.start N_Ways_note [v0, v1, v2, v3, v4, v5, v6] = [some v0, some v1, some v2, some v3, some v4, some v5, some v6, none, none, none] := rfl
theorem sc_Ways_note : FnScope N_Ways_note ["self", "found", "number", "many", "begin", "m", "j"] (defScope s_Ways_note) := ⟨rfl, rfl, rfl, by decide +kernel, rfl, by decide +kernel, by decide +kernel⟩
abbrev s_Ways_note_puts : Stmt := inClass (topS 10) 8
abbrev N_Ways_note_puts : List Str := ["self", "found", "i", "j", "m", "number"]
theorem st_Ways_note_puts (v0 v1 v2 v3 : V) : L2.start N_Ways_note_puts [v0, v1, v2, v3] = [some v0, some v1, some v2, some v3, none, none] := rfl
theorem sc_Ways_note_puts : FnScope N_Ways_note_puts ["self", "found", "i", "j"] (defScope s_Ways_note_puts) := ⟨rfl, rfl, rfl, by decide +kernel, rfl, by decide +kernel, by decide +kernel⟩
abbrev s_Ways_together : Stmt := inClass (topS 10) 9
abbrev N_Ways_together : List Str := ["self", "deeds", "parts", "number", "many", "begin", "end"]
theorem st_Ways_together (v0 v1 v2 : V) : L2.start N_Ways_together [v0, v1, v2] = [some v0, some v1, some v2, none, none, none, none] := rfl
theorem sc_Ways_together : FnScope N_Ways_together ["self", "deeds", "parts"] (defScope s_Ways_together) := ⟨rfl, rfl, rfl, by decide +kernel, rfl, by decide +kernel, by decide +kernel⟩
abbrev s_Ways_first_steps : Stmt := inClass (topS 10) 10
abbrev N_Ways_first_steps : List Str := ["self", "i", "j", "found"]
theorem st_Ways_first_steps (v0 v1 v2 : V) : L2.start N_Ways_first_steps [v0, v1, v2] = [some v0, some v1, some v2, none] := rfl
theorem sc_Ways_first_steps : FnScope N_Ways_first_steps ["self", "i", "j"] (defScope s_Ways_first_steps) := ⟨rfl, rfl, rfl, by decide +kernel, rfl, by decide +kernel, by decide +kernel⟩
abbrev s_Ways_pairs : Stmt := inClass (topS 10) 11
abbrev N_Ways_pairs : List Str := ["self", "i", "j", "found", "m", "deeds"]
theorem st_Ways_pairs (v0 v1 v2 : V) : L2.start N_Ways_pairs [v0, v1, v2] = [some v0, some v1, some v2, none, none, none] := rfl
theorem sc_Ways_pairs : FnScope N_Ways_pairs ["self", "i", "j"] (defScope s_Ways_pairs) := ⟨rfl, rfl, rfl, by decide +kernel, rfl, by decide +kernel, by decide +kernel⟩
abbrev s_Ways_as_pair : Stmt := inClass (topS 10) 12
abbrev N_Ways_as_pair : List Str := ["self", "i", "m", "some", "k", "fewest", "deeds"]
theorem st_Ways_as_pair (v0 v1 v2 : V) : L2.start N_Ways_as_pair [v0, v1, v2] = [some v0, some v1, some v2, none, none, none, none] := rfl
theorem sc_Ways_as_pair : FnScope N_Ways_as_pair ["self", "i", "m"] (defScope s_Ways_as_pair) := ⟨rfl, rfl, rfl, by decide +kernel, rfl, by decide +kernel, by decide +kernel⟩
abbrev s_Ways_put_partners : Stmt := inClass (topS 10) 13
abbrev N_Ways_put_partners : List Str := ["self", "i", "j", "found", "closing", "m", "opening"]
theorem st_Ways_put_partners (v0 v1 v2 : V) : L2.start N_Ways_put_partners [v0, v1, v2] = [some v0, some v1, some v2, none, none, none, none] := rfl
theorem sc_Ways_put_partners : FnScope N_Ways_put_partners ["self", "i", "j"] (defScope s_Ways_put_partners) := ⟨rfl, rfl, rfl, by decide +kernel, rfl, by decide +kernel, by decide +kernel⟩

namespace Top
/-! ### the head -/
def d_wall : He.DefD := ⟨("_wall", none), "_wall", "_wall", defArgs s_wall, defBody s_wall, defScope s_wall, [], []⟩
def d_kind_of : He.DefD := ⟨("kind_of", none), "kind_of", "kind_of", defArgs s_kind_of, defBody s_kind_of, defScope s_kind_of, [], []⟩
def d_turned : He.DefD := ⟨("turned", none), "turned", "turned", defArgs s_turned, defBody s_turned, defScope s_turned, [], []⟩
def d_is_letter : He.DefD := ⟨("is_letter", none), "is_letter", "is_letter", defArgs s_is_letter, defBody s_is_letter, defScope s_is_letter, [], []⟩
def d_fewest_turns : He.DefD := ⟨("fewest_turns", none), "fewest_turns", "fewest_turns", defArgs s_fewest_turns, defBody s_fewest_turns, defScope s_fewest_turns, [], []⟩
def d_least_steps : He.DefD := ⟨("least_steps", none), "least_steps", "least_steps", defArgs s_least_steps, defBody s_least_steps, defScope s_least_steps, [], []⟩
def d_shares_in : He.DefD := ⟨("shares_in", none), "shares_in", "shares_in", defArgs s_shares_in, defBody s_shares_in, defScope s_shares_in, [], []⟩
def d_all_shares : He.DefD := ⟨("all_shares", none), "all_shares", "all_shares", defArgs s_all_shares, defBody s_all_shares, defScope s_all_shares, [], []⟩
def d_shares_of : He.DefD := ⟨("shares_of", none), "shares_of", "shares_of", defArgs s_shares_of, defBody s_shares_of, defScope s_shares_of, [], []⟩
def d_law_stream : He.DefD := ⟨("_law_stream", none), "_law_stream", "_law_stream", defArgs s_law_stream, defBody s_law_stream, defScope s_law_stream, [], []⟩
def d_law_take : He.DefD := ⟨("_law_take", none), "_law_take", "_law_take", defArgs s_law_take, defBody s_law_take, defScope s_law_take, [], []⟩
def d_law_bracket : He.DefD := ⟨("_law_bracket", none), "_law_bracket", "_law_bracket", defArgs s_law_bracket, defBody s_law_bracket, defScope s_law_bracket, [], []⟩
def d_law_clean : He.DefD := ⟨("_law_clean", none), "_law_clean", "_law_clean", defArgs s_law_clean, defBody s_law_clean, defScope s_law_clean, [], []⟩
def d_law_text : He.DefD := ⟨("_law_text", none), "_law_text", "_law_text", defArgs s_law_text, defBody s_law_text, defScope s_law_text, [], []⟩
def d_law_open : He.DefD := ⟨("_law_open", none), "_law_open", "_law_open", defArgs s_law_open, defBody s_law_open, defScope s_law_open, [], []⟩
def d_law_steps : He.DefD := ⟨("_law_steps", none), "_law_steps", "_law_steps", defArgs s_law_steps, defBody s_law_steps, defScope s_law_steps, [], []⟩
def d_law_behind : He.DefD := ⟨("_law_behind", none), "_law_behind", "_law_behind", defArgs s_law_behind, defBody s_law_behind, defScope s_law_behind, [], []⟩
def d_law_all : He.DefD := ⟨("_law_all", none), "_law_all", "_law_all", defArgs s_law_all, defBody s_law_all, defScope s_law_all, [], []⟩
def d_law_least_rows : He.DefD := ⟨("_law_least_rows", none), "_law_least_rows", "_law_least_rows", defArgs s_law_least_rows, defBody s_law_least_rows, defScope s_law_least_rows, [], []⟩
def d_law_shares : He.DefD := ⟨("_law_shares", none), "_law_shares", "_law_shares", defArgs s_law_shares, defBody s_law_shares, defScope s_law_shares, [], []⟩
def d_law_same : He.DefD := ⟨("_law_same", none), "_law_same", "_law_same", defArgs s_law_same, defBody s_law_same, defScope s_law_same, [], []⟩
def d_law : He.DefD := ⟨("law", none), "law", "law", defArgs s_law, defBody s_law, defScope s_law, [], []⟩
def d_Ways_init : He.DefD := ⟨("Ways", some "__init__"), "__init__", "Ways.__init__", defArgs s_Ways_init, defBody s_Ways_init, defScope s_Ways_init, [], []⟩
def d_Ways_cost : He.DefD := ⟨("Ways", some "cost"), "cost", "Ways.cost", defArgs s_Ways_cost, defBody s_Ways_cost, defScope s_Ways_cost, [], []⟩
def d_Ways_count : He.DefD := ⟨("Ways", some "count"), "count", "Ways.count", defArgs s_Ways_count, defBody s_Ways_count, defScope s_Ways_count, [], []⟩
def d_Ways_grow : He.DefD := ⟨("Ways", some "grow"), "grow", "Ways.grow", defArgs s_Ways_grow, defBody s_Ways_grow, defScope s_Ways_grow, [], []⟩
def d_Ways_reckoned : He.DefD := ⟨("Ways", some "reckoned"), "reckoned", "Ways.reckoned", defArgs s_Ways_reckoned, defBody s_Ways_reckoned, defScope s_Ways_reckoned, [], []⟩
def d_Ways_numbers : He.DefD := ⟨("Ways", some "numbers"), "numbers", "Ways.numbers", defArgs s_Ways_numbers, defBody s_Ways_numbers, defScope s_Ways_numbers, [], []⟩
def d_Ways_note : He.DefD := ⟨("Ways", some "note"), "note", "Ways.note", defArgs s_Ways_note, defBody s_Ways_note, defScope s_Ways_note, [], []⟩
def d_Ways_note_puts : He.DefD := ⟨("Ways", some "note_puts"), "note_puts", "Ways.note_puts", defArgs s_Ways_note_puts, defBody s_Ways_note_puts, defScope s_Ways_note_puts, [], []⟩
def d_Ways_together : He.DefD := ⟨("Ways", some "together"), "together", "Ways.together", defArgs s_Ways_together, defBody s_Ways_together, defScope s_Ways_together, [], []⟩
def d_Ways_first_steps : He.DefD := ⟨("Ways", some "first_steps"), "first_steps", "Ways.first_steps", defArgs s_Ways_first_steps, defBody s_Ways_first_steps, defScope s_Ways_first_steps, [], []⟩
def d_Ways_pairs : He.DefD := ⟨("Ways", some "pairs"), "pairs", "Ways.pairs", defArgs s_Ways_pairs, defBody s_Ways_pairs, defScope s_Ways_pairs, [], []⟩
def d_Ways_as_pair : He.DefD := ⟨("Ways", some "as_pair"), "as_pair", "Ways.as_pair", defArgs s_Ways_as_pair, defBody s_Ways_as_pair, defScope s_Ways_as_pair, [], []⟩
def d_Ways_put_partners : He.DefD := ⟨("Ways", some "put_partners"), "put_partners", "Ways.put_partners", defArgs s_Ways_put_partners, defBody s_Ways_put_partners, defScope s_Ways_put_partners, [], []⟩
def fn : List He.DefD := [d_wall, d_kind_of, d_turned, d_is_letter, d_fewest_turns, d_least_steps, d_shares_in, d_all_shares, d_shares_of, d_law_stream, d_law_take, d_law_bracket, d_law_clean, d_law_text, d_law_open, d_law_steps, d_law_behind, d_law_all, d_law_least_rows, d_law_shares, d_law_same, d_law, d_Ways_init, d_Ways_cost, d_Ways_count, d_Ways_grow, d_Ways_reckoned, d_Ways_numbers, d_Ways_note, d_Ways_note_puts, d_Ways_together, d_Ways_first_steps, d_Ways_pairs, d_Ways_as_pair, d_Ways_put_partners]
def exL (K : PySem.W.Frag) : List Bool := (He.tupB K "ALL_WORDS" [.str (S [112, 117, 116]), .str (S [115, 116, 114, 105, 107, 101]), .str (S [116, 117, 114, 110])]) :: []
def ex (K : PySem.W.Frag) : Bool := (exL K).all id
def fa : List He.Fa := [.glo "_wall", .glo "kind_of", .glo "turned", .glo "is_letter", .glo "fewest_turns", .glo "least_steps", .glo "shares_in", .glo "all_shares", .glo "shares_of", .glo "_law_stream", .glo "_law_take", .glo "_law_bracket", .glo "_law_clean", .glo "_law_text", .glo "_law_open", .glo "_law_steps", .glo "_law_behind", .glo "_law_all", .glo "_law_least_rows", .glo "_law_shares", .glo "_law_same", .glo "law", .str "OPENING" (S OPN), .str "CLOSING" (S CLO), .free "len", .free "int", .free "range", .free "isinstance", .free "list", .free "tuple", .free "bool", .free "min", .free "sorted", .glo "ALL_WORDS", .glo "Ways", .cls "Ways", .noat "Ways" "signs", .noat "Ways" "words", .noat "Ways" "costs", .noat "Ways" "counts", .mkr "Ways", .meth "Ways" "cost", .meth "Ways" "count", .meth "Ways" "grow", .meth "Ways" "reckoned", .meth "Ways" "numbers", .meth "Ways" "note", .meth "Ways" "note_puts", .meth "Ways" "together", .meth "Ways" "first_steps", .meth "Ways" "pairs", .meth "Ways" "as_pair", .meth "Ways" "put_partners"]
abbrev R : PySem.W.OpenRow := PySem.W.OpenLaw.row PySem.Challenge.rw_nestmend_k33_shares_told
abbrev hk : PySem.W.Hook := hookE 4 fa fn ex
def ob (s : PySem.W.SharedT) : AlE := obsEG 4 fa fn ex (HandSHeadRun.getT s)
theorem ob_eq (s : PySem.W.SharedT) : ob s = hk.obs s.abs := obsEG_eq (HandSHeadRun.getT_eq s)
def loose : List Str := ["_wall", "OPENING", "CLOSING", "kind_of", "ALL_WORDS", "turned", "is_letter", "fewest_turns", "Ways", "least_steps", "shares_in", "all_shares", "shares_of", "_law_stream", "_law_take", "_law_bracket", "_law_clean", "_law_text", "_law_open", "_law_steps", "_law_behind", "_law_all", "_law_least_rows", "_law_shares", "_law_same"]
theorem run (w : World) : HandSHeadRun.RunEq R (PySem.W.view R.prog [29]) hk ob 6000 loose w := by
  intro os
  kernel_rfl

end Top
end K33

set_option maxHeartbeats 4000000
namespace Ly
open PySem PySem.Spec PyProof.Rows L2 SX
/-! ### texts with their tokens: for y in [texts]: x = x.replace(y, z) -/
section
variable {X : Cx} {pins : List (Addr × Obj)} {σ : L2.St} {H : Hp} {s : Shared}
end
section
variable {X : Cx} {ik ip : Nat} {kx px z : Str} {y1 y2 y3 y4 : Str}
end
end Ly

set_option maxHeartbeats 4000000
namespace Ly
open PySem PySem.Spec PyProof.Rows L2 SX
section
variable {X : Cx} {ik ip : Nat} {kx px z : Str} {y1 y2 y3 y4 : Str}
end
end Ly

set_option maxHeartbeats 4000000
namespace Ly
/-! ### from piece to piece -/
/-! ### sums -/
end Ly

set_option maxHeartbeats 4000000
namespace Ly
open PySem PySem.Spec PyProof.Rows L2 SX
/-! ### promises that stand where nothing is being shown: repr -/
section
variable {P : Program} {w : World} {K : PySem.W.Frag} {mg : Str → Option Value} {base : Heap}
end
/-! ### the law's call -/
section
variable {P : Program} {w : World} {K : PySem.W.Frag} {mg mb : Str → Option Value} {k : Nat} {fa a : Addr} {fd : FuncData} {x : Str} {sp : Sp} {s₁ : Shared} {vs : List Value} {ns : List Int}
end
/-! ### repr of data -/
section
variable {X : Cx}
end
/-! lists of small numbers -/
end Ly

set_option maxHeartbeats 4000000
namespace Ly
open PySem PySem.Spec PyProof.Rows L2 SX
/-! ### paths, depths, the nests within a nest -/
/-! ways of the maker -/
section
variable {fs : List (List Nd × Nat)} {cur ds : List Nd} {c o : Nat}
end
/-! what a path leads to -/
def Rch : List Nd → List Nat → Nd → Prop
  | _, [], _ => False
  | ds, [k], d => ds[k]? = some d
  | ds, k :: j :: p, d => ∃ o es, ds[k]? = some (.br o es) ∧ Rch es (j :: p) d
theorem Rch.cons {ds es : List Nd} {k o : Nat} {p : List Nat} {d : Nd} (h : ds[k]? = some (.br o es)) (r : Rch es p d) : Rch ds (k :: p) d := by
  cases p with
  | nil => exact r.elim
  | cons j p => exact ⟨o, es, h, r⟩
/-! the text within -/
/-! an opening sign of a nest's text opens the nest that stands there in the row of nests within -/
end Ly

set_option maxHeartbeats 4000000
namespace Ly
open PySem PySem.Spec PyProof.Rows L2 SX
/-! ### len(set) of tuples of ints -/
/-! ### nests side by side -/
/-! paths: all different, each behind the one it goes on from -/
/-! outlines side by side, within -/
end Ly

set_option maxHeartbeats 4000000
namespace Ly
/-! ### all rows of steps with so many deeds, counted -/
def Stp.wd (W : Wd) : Stp → Prop
  | .kp _ => True
  | .st _ => W.st = true
  | .tn _ _ => W.tn = true
  | .pt _ => W.pt = true
def cstS : List Stp → Nat
  | [] => 0
  | .kp _ :: α => cstS α
  | .st _ :: α => cstS α + 1
  | .tn _ _ :: α => cstS α + 1
  | .pt _ :: α => cstS α + 1
/-- all rows of steps by words, from a pile of awaited ones, over a text, with so many deeds, in order -/
def rowsL (W : Wd) (st r : List Nat) (n : Nat) : List (List Stp) :=
  (match n with
   | 0 => []
   | n + 1 => if W.pt = true then BRK.flatMap fun c => (match stp (some st) c with | none => [] | some s => rowsL W s r n).map (Stp.pt c :: ·) else [])
  ++ (match r with
   | [] => if st = [] ∧ n = 0 then [[]] else []
   | x :: r => if x ∈ BRK then
        (match n with
         | 0 => []
         | n + 1 => (if W.st = true then (rowsL W st r n).map (Stp.st x :: ·) else []) ++ (if W.tn = true then (BRK.filter (· ≠ x)).flatMap fun c => (match stp (some st) c with | none => [] | some s => rowsL W s r n).map (Stp.tn x c :: ·) else []))
        ++ (match stp (some st) x with | none => [] | some s => rowsL W s r n).map (Stp.kp x :: ·)
      else (rowsL W st r n).map (Stp.kp x :: ·))
termination_by n + r.length
/-! series -/
abbrev Ser := Nat → Nat
def sh (f : Ser) : Ser := fun n => match n with | 0 => 0 | n + 1 => f n
def gat (b : Bool) (f : Ser) : Ser := fun n => if b = true then f n else 0
def oA (f : List Nat → Ser) (o : Option (List Nat)) : Ser := fun n => match o with | none => 0 | some s => f s n
def bS (cs : List Nat) (f : Nat → Ser) : Ser := fun n => (cs.map fun c => f c n).sum
def An (W : Wd) (st r : List Nat) : Ser := fun n => (rowsL W st r n).length
def pA (W : Wd) (st r : List Nat) : Ser := sh (gat W.pt (bS BRK fun c => oA (fun s => An W s r) (stp (some st) c)))
theorem len_oA {W : Wd} {r : List Nat} {n : Nat} (o : Option (List Nat)) (f : List Stp → List Stp) : ((match o with | none => [] | some s => rowsL W s r n).map f).length = oA (fun s => An W s r) o n := by
  cases o with
  | none => rfl
  | some s => rw [List.length_map]; rfl
theorem len_bS {W : Wd} {r st : List Nat} {n : Nat} (cs : List Nat) (f : Nat → List Stp → List Stp) : (cs.flatMap fun c => (match stp (some st) c with | none => [] | some s => rowsL W s r n).map (f c)).length = bS cs (fun c => oA (fun s => An W s r) (stp (some st) c)) n := by
  rw [List.length_flatMap]
  unfold bS
  congr 1
  exact List.map_congr_left fun c _ => len_oA _ _
theorem pA_len {W : Wd} {r st : List Nat} {n : Nat} : (match n with
   | 0 => []
   | n + 1 => if W.pt = true then BRK.flatMap fun c => (match stp (some st) c with | none => [] | some s => rowsL W s r n).map (Stp.pt c :: ·) else []).length = pA W st r n := by
  cases n with
  | zero => rfl
  | succ n =>
    unfold pA sh gat
    dsimp only
    by_cases h : W.pt = true
    · rw [if_pos h, if_pos h, len_bS]
    · rw [if_neg h, if_neg h]; rfl
theorem An_nil (W : Wd) (st : List Nat) (n : Nat) : An W st [] n = pA W st [] n + if st = [] ∧ n = 0 then 1 else 0 := by
  show (rowsL W st [] n).length = _
  rw [rowsL.eq_def, List.length_append, pA_len]
  dsimp only
  by_cases h : st = [] ∧ n = 0
  · rw [if_pos h, if_pos h]; rfl
  · rw [if_neg h, if_neg h]; rfl
theorem An_let {W : Wd} {x : Nat} (hx : x ∉ BRK) (st r : List Nat) (n : Nat) : An W st (x :: r) n = pA W st (x :: r) n + An W st r n := by
  show (rowsL W st (x :: r) n).length = _
  rw [rowsL.eq_def, List.length_append, pA_len]
  dsimp only
  rw [if_neg hx, List.length_map]
  rfl
def tA (W : Wd) (st : List Nat) (x : Nat) (r : List Nat) : Ser := sh fun n => gat W.st (An W st r) n + gat W.tn (bS (BRK.filter (· ≠ x)) fun c => oA (fun s => An W s r) (stp (some st) c)) n
theorem An_brk {W : Wd} {x : Nat} (hx : x ∈ BRK) (st r : List Nat) (n : Nat) : An W st (x :: r) n = pA W st (x :: r) n + (tA W st x r n + oA (fun s => An W s r) (stp (some st) x) n) := by
  show (rowsL W st (x :: r) n).length = _
  rw [rowsL.eq_def, List.length_append, pA_len]
  dsimp only
  rw [if_pos hx, List.length_append, len_oA]
  congr 2
  cases n with
  | zero => rfl
  | succ n =>
    dsimp only [tA, sh]
    rw [List.length_append]
    congr 1
    · unfold gat
      by_cases h : W.st = true
      · rw [if_pos h, if_pos h, List.length_map]; rfl
      · rw [if_neg h, if_neg h]; rfl
    · unfold gat
      by_cases h : W.tn = true
      · rw [if_pos h, if_pos h, len_bS]
      · rw [if_neg h, if_neg h]; rfl
/-! products -/
def cv : Ser → Ser → Ser
  | f, g, 0 => f 0 * g 0
  | f, g, n + 1 => f 0 * g (n + 1) + cv (fun a => f (a + 1)) g n
theorem cv_add (f f' g : Ser) : ∀ n, cv (fun a => f a + f' a) g n = cv f g n + cv f' g n := by
  intro n
  induction n generalizing f f' with
  | zero => exact Nat.add_mul _ _ _
  | succ n ih => rw [cv, cv, cv, ih, Nat.add_mul]; omega
theorem cv_addR (f g g' : Ser) : ∀ n, cv f (fun a => g a + g' a) n = cv f g n + cv f g' n := by
  intro n
  induction n generalizing f with
  | zero => exact Nat.mul_add _ _ _
  | succ n ih => rw [cv, cv, cv, ih, Nat.mul_add]; omega
theorem cv_zero (g : Ser) : ∀ n, cv (fun _ => 0) g n = 0 := by
  intro n
  induction n with
  | zero => exact Nat.zero_mul _
  | succ n ih => rw [cv, ih, Nat.zero_mul]
theorem cv_zeroR (f : Ser) : ∀ n, cv f (fun _ => 0) n = 0 := by
  intro n
  induction n generalizing f with
  | zero => exact Nat.mul_zero _
  | succ n ih => rw [cv, ih, Nat.mul_zero]
theorem cv_sh (f g : Ser) (n : Nat) : cv (sh f) g n = sh (cv f g) n := by
  cases n with
  | zero => exact Nat.zero_mul _
  | succ n => show sh f 0 * g (n + 1) + cv (fun a => f a) g n = cv f g n; rw [show sh f 0 = 0 from rfl, Nat.zero_mul, Nat.zero_add]
theorem cv_one (g : Ser) (n : Nat) : cv (fun a => if a = 0 then 1 else 0) g n = g n := by
  cases n with
  | zero => exact Nat.one_mul _
  | succ n =>
    show 1 * g (n + 1) + cv (fun a => if a + 1 = 0 then 1 else 0) g n = g (n + 1)
    rw [show (fun a : Nat => if a + 1 = 0 then 1 else 0) = fun _ => 0 from funext fun a => if_neg (by omega), cv_zero]
    omega
theorem cv_shR (f g : Ser) : ∀ n, cv f (sh g) n = sh (cv f g) n := by
  intro n
  induction n generalizing f with
  | zero => exact Nat.mul_zero _
  | succ n ih =>
    rw [cv, ih]
    cases n with
    | zero => show f 0 * g 0 + 0 = f 0 * g 0; omega
    | succ n => rfl
theorem cv_pos {f g : Ser} : ∀ {n : Nat}, cv f g n ≠ 0 ↔ ∃ a b, a + b = n ∧ f a ≠ 0 ∧ g b ≠ 0 := by
  intro n
  induction n generalizing f with
  | zero =>
    constructor
    · intro h
      exact ⟨0, 0, rfl, fun e => h (by show f 0 * g 0 = 0; rw [e, Nat.zero_mul]), fun e => h (by show f 0 * g 0 = 0; rw [e, Nat.mul_zero])⟩
    · rintro ⟨a, b, e, h1, h2⟩
      have ea : a = 0 := by omega
      have eb : b = 0 := by omega
      subst ea eb
      exact Nat.mul_ne_zero h1 h2
  | succ n ih =>
    rw [cv]
    constructor
    · intro h
      by_cases h0 : f 0 * g (n + 1) = 0
      · have h1 : cv (fun a => f (a + 1)) g n ≠ 0 := by omega
        obtain ⟨a, b, e, ha, hb⟩ := ih.mp h1
        exact ⟨a + 1, b, by omega, ha, hb⟩
      · exact ⟨0, n + 1, by omega, fun e => h0 (by rw [e, Nat.zero_mul]), fun e => h0 (by rw [e, Nat.mul_zero])⟩
    · rintro ⟨a, b, e, ha, hb⟩
      cases a with
      | zero =>
        have eb : b = n + 1 := by omega
        subst eb
        have := Nat.mul_ne_zero ha hb
        omega
      | succ a =>
        have := (ih (f := fun a => f (a + 1))).mpr ⟨a, b, by omega, ha, hb⟩
        omega
/-- over all ways to part a text in two -/
def SP (f g : List Nat → Ser) : List Nat → Ser
  | [] => cv (f []) (g [])
  | x :: r => fun n => cv (f []) (g (x :: r)) n + SP (fun u => f (x :: u)) g r n
theorem SP_congr {f f' g g' : List Nat → Ser} : ∀ {r : List Nat}, (∀ u v, u ++ v = r → f u = f' u) → (∀ u v, u ++ v = r → g v = g' v) → SP f g r = SP f' g' r
  | [], h1, h2 => by rw [SP, SP, h1 [] [] rfl, h2 [] [] rfl]
  | x :: r, h1, h2 => by
    funext n
    rw [SP, SP, h1 [] (x :: r) rfl, h2 [] (x :: r) rfl, SP_congr (f := fun u => f (x :: u)) (f' := fun u => f' (x :: u)) (fun u v e => h1 (x :: u) v (by rw [List.cons_append, e])) (fun u v e => h2 (x :: u) v (by rw [List.cons_append, e]))]
theorem SP_add (f f' g : List Nat → Ser) : ∀ (r : List Nat) (n : Nat), SP (fun u a => f u a + f' u a) g r n = SP f g r n + SP f' g r n
  | [], n => cv_add _ _ _ n
  | x :: r, n => by
    show cv (fun a => f [] a + f' [] a) _ n + SP (fun u a => f (x :: u) a + f' (x :: u) a) g r n = _
    rw [cv_add, SP_add (fun u => f (x :: u)) (fun u => f' (x :: u)) g r n, SP, SP]
    dsimp only
    omega
theorem SP_addR (f g g' : List Nat → Ser) : ∀ (r : List Nat) (n : Nat), SP f (fun v a => g v a + g' v a) r n = SP f g r n + SP f g' r n := by
  intro r
  induction r generalizing f with
  | nil => intro n; exact cv_addR _ _ _ n
  | cons x r ih =>
    intro n
    show cv _ (fun a => g (x :: r) a + g' (x :: r) a) n + SP (fun u => f (x :: u)) (fun v a => g v a + g' v a) r n = _
    rw [cv_addR, ih, SP, SP]
    dsimp only
    omega
theorem SP_zero (g : List Nat → Ser) : ∀ (r : List Nat) (n : Nat), SP (fun _ _ => 0) g r n = 0
  | [], n => cv_zero _ n
  | x :: r, n => by
    show cv (fun _ => 0) _ n + SP (fun _ _ => 0) g r n = 0
    rw [cv_zero, SP_zero g r n]
theorem SP_sh (f g : List Nat → Ser) : ∀ (r : List Nat) (n : Nat), SP (fun u => sh (f u)) g r n = sh (SP f g r) n := by
  intro r
  induction r generalizing f with
  | nil => intro n; exact cv_sh _ _ n
  | cons x r ih =>
    intro n
    show cv (sh (f [])) _ n + SP (fun u => sh (f (x :: u))) g r n = _
    rw [cv_sh, ih (fun u => f (x :: u))]
    cases n <;> rfl
theorem SP_gat (b : Bool) (f g : List Nat → Ser) (r : List Nat) (n : Nat) : SP (fun u => gat b (f u)) g r n = gat b (SP f g r) n := by
  cases b with
  | true => rfl
  | false => exact SP_zero g r n
theorem SP_bS (cs : List Nat) (f : Nat → List Nat → Ser) (g : List Nat → Ser) (r : List Nat) (n : Nat) : SP (fun u => bS cs fun c => f c u) g r n = bS cs (fun c => SP (f c) g r) n := by
  induction cs with
  | nil => exact SP_zero g r n
  | cons c cs ih =>
    have e : (fun u => bS (c :: cs) fun c => f c u) = fun u a => f c u a + bS cs (fun c => f c u) a := rfl
    rw [e, SP_add, ih]
    rfl
theorem SP_oA (f : List Nat → List Nat → Ser) (o : Option (List Nat)) (g : List Nat → Ser) (r : List Nat) (n : Nat) : SP (fun u => oA (fun s => f s u) o) g r n = oA (fun s => SP (f s) g r) o n := by
  cases o with
  | none => exact SP_zero g r n
  | some s => rfl
/-- closing what is awaited last, then the rest -/
def Cl (W : Wd) (k : Nat) (st v : List Nat) : Ser := fun n => sh (gat W.pt (An W st v)) n + match v with
  | [] => 0
  | x :: v => if x ∈ BRK then (if x = k then An W st v n else sh (gat W.tn (An W st v)) n) else 0
theorem stp_under {k : Nat} (hk : k ∈ CLO) (s st : List Nat) (c : Nat) : stp (some (s ++ k :: st)) c = match stp (some s) c with
    | some s' => some (s' ++ k :: st)
    | none => if s = [] ∧ c = k then some st else none := by
  unfold stp
  dsimp only
  by_cases h1 : c ∈ OPN
  · rw [if_pos h1, if_pos h1]; rfl
  · rw [if_neg h1, if_neg h1]
    by_cases h2 : c ∈ CLO
    · rw [if_pos h2, if_pos h2]
      cases s with
      | nil =>
        show (if k = c then some st else none) = if [] = [] ∧ c = k then some st else none
        by_cases e : k = c
        · rw [if_pos e, if_pos ⟨rfl, e.symm⟩]
        · rw [if_neg e, if_neg (fun h => e h.2.symm)]
      | cons d s =>
        show (if d = c then some (s ++ k :: st) else none) = _
        by_cases e : d = c
        · rw [if_pos e]; dsimp only; rw [if_pos e]
        · rw [if_neg e]; dsimp only; rw [if_neg e]; dsimp only; rw [if_neg (fun h => by cases h.1)]
    · rw [if_neg h2, if_neg h2]

/-- all but what is put first -/
def rA (W : Wd) (st : List Nat) : List Nat → Ser
  | [] => fun n => if st = [] ∧ n = 0 then 1 else 0
  | x :: r => fun n => if x ∈ BRK then tA W st x r n + oA (fun s => An W s r) (stp (some st) x) n else An W st r n
theorem An_eq (W : Wd) (st r : List Nat) (n : Nat) : An W st r n = pA W st r n + rA W st r n := by
  cases r with
  | nil => exact An_nil W st n
  | cons x r =>
    show _ = _ + (if x ∈ BRK then tA W st x r n + oA (fun s => An W s r) (stp (some st) x) n else An W st r n)
    by_cases h : x ∈ BRK
    · rw [if_pos h]; exact An_brk h st r n
    · rw [if_neg h]; exact An_let h st r n
theorem SP_pA (W : Wd) (s : List Nat) (g : List Nat → Ser) (r : List Nat) (n : Nat) : SP (pA W s) g r n = sh (gat W.pt (bS BRK fun c => oA (fun s' => SP (An W s') g r) (stp (some s) c))) n := by
  unfold pA
  rw [SP_sh]
  cases n with
  | zero => rfl
  | succ n =>
    show SP (fun u => gat W.pt _) g r n = gat W.pt _ n
    rw [SP_gat]
    unfold gat
    by_cases h : W.pt = true
    · rw [if_pos h, if_pos h, SP_bS BRK (fun c u => oA (fun s' => An W s' u) (stp (some s) c))]
      unfold bS
      congr 1
      exact List.map_congr_left fun c _ => SP_oA (fun s' u => An W s' u) _ g r n
    · rw [if_neg h, if_neg h]
theorem oA_under {W : Wd} {k : Nat} (hk : k ∈ CLO) {s st r : List Nat} {n c : Nat} {g : List Nat → Ser} (ih : ∀ s', An W (s' ++ k :: st) r n = SP (An W s') g r n) :
    oA (fun s => An W s r) (stp (some (s ++ k :: st)) c) n = oA (fun s' => SP (An W s') g r) (stp (some s) c) n + if s = [] ∧ c = k then An W st r n else 0 := by
  rw [stp_under hk]
  by_cases h : s = [] ∧ c = k
  · obtain ⟨rfl, rfl⟩ := h
    have e : stp (some []) c = none := by
      unfold stp
      dsimp only
      rw [if_neg (fun h => opn_clo c h hk), if_pos hk]
    rw [e]
    dsimp only
    rw [if_pos ⟨rfl, rfl⟩, if_pos ⟨rfl, rfl⟩]
    show An W st r n = 0 + An W st r n
    omega
  · rw [if_neg h, if_neg h]
    cases stp (some s) c with
    | none => rfl
    | some s' => exact ih s'
theorem bS_under {W : Wd} {k : Nat} (hk : k ∈ CLO) {s st r : List Nat} {n : Nat} {g : List Nat → Ser} (ih : ∀ s', An W (s' ++ k :: st) r n = SP (An W s') g r n) : ∀ cs : List Nat,
    bS cs (fun c => oA (fun s => An W s r) (stp (some (s ++ k :: st)) c)) n = bS cs (fun c => oA (fun s' => SP (An W s') g r) (stp (some s) c)) n + if s = [] then cs.count k * An W st r n else 0
  | [] => by unfold bS; simp
  | c :: cs => by
    have i := bS_under hk ih (s := s) cs
    have e1 : ∀ f : Nat → Ser, bS (c :: cs) f n = f c n + bS cs f n := fun f => rfl
    rw [e1, e1, i, oA_under hk ih, List.count_cons]
    by_cases h : s = []
    · rw [if_pos h, if_pos h]
      by_cases e : c = k
      · rw [if_pos ⟨h, e⟩, if_pos (by simp [e]), Nat.add_mul]; omega
      · rw [if_neg (fun q => e q.2), if_neg (by simp [e]), show List.count k cs + 0 = List.count k cs from rfl]; omega
    · rw [if_neg h, if_neg h, if_neg (fun q => h q.1)]; omega
theorem cnt_brk : ∀ k ∈ CLO, BRK.count k = 1 := by decide
theorem cnt_brkF : ∀ k ∈ CLO, ∀ x ∈ BRK, (BRK.filter (· ≠ x)).count k = if x = k then 0 else 1 := by decide
theorem first_ret {W : Wd} {k : Nat} (hk : k ∈ CLO) (st : List Nat) : ∀ (N n : Nat) (r s : List Nat), n + r.length ≤ N → An W (s ++ k :: st) r n = SP (An W s) (Cl W k st) r n := by
  intro N
  induction N with
  | zero =>
    intro n r s h
    have h1 : n = 0 := by omega
    have h2 : r = [] := List.length_eq_zero_iff.mp (by omega)
    subst h1 h2
    rw [An_nil]
    show 0 + (if s ++ k :: st = [] ∧ 0 = 0 then 1 else 0) = An W s [] 0 * (0 + 0)
    rw [if_neg (by simp)]; rfl
  | succ N ihN =>
    intro n r s h
    have eS : SP (An W s) (Cl W k st) r n = SP (pA W s) (Cl W k st) r n + SP (rA W s) (Cl W k st) r n := by
      rw [← SP_add]
      exact congrFun (SP_congr (fun u v e => funext fun a => An_eq W s u a) (fun u v e => rfl)) n
    have eP : pA W (s ++ k :: st) r n = SP (pA W s) (Cl W k st) r n + if s = [] then sh (gat W.pt (An W st r)) n else 0 := by
      rw [SP_pA]
      unfold pA
      cases n with
      | zero => show (0 : Nat) = 0 + _; split <;> rfl
      | succ n =>
        show gat W.pt _ n = gat W.pt _ n + if s = [] then gat W.pt (An W st r) n else 0
        unfold gat
        by_cases hp : W.pt = true
        · rw [if_pos hp, if_pos hp, if_pos hp, bS_under hk (g := Cl W k st) (fun s' => ihN n r s' (by omega)), cnt_brk k hk, Nat.one_mul]
        · rw [if_neg hp, if_neg hp, if_neg hp]; split <;> rfl
    have eB : ∀ r', cv (rA W s []) (Cl W k st r') n = if s = [] then Cl W k st r' n else 0 := fun r' => by
      by_cases hs : s = []
      · rw [if_pos hs]
        have : rA W s [] = fun a => if a = 0 then 1 else 0 := by
          funext a
          show (if s = [] ∧ a = 0 then 1 else 0) = _
          by_cases ha : a = 0
          · rw [if_pos ⟨hs, ha⟩, if_pos ha]
          · rw [if_neg (fun q => ha q.2), if_neg ha]
        rw [this, cv_one]
      · rw [if_neg hs]
        have : rA W s [] = fun _ => 0 := by
          funext a
          exact if_neg (fun q => hs q.1)
        rw [this, cv_zero]
    rw [eS, An_eq, eP]
    cases r with
    | nil =>
      have e0 : rA W (s ++ k :: st) [] n = 0 := if_neg (fun q => by simp at q)
      rw [e0]
      show _ = _ + cv (rA W s []) (Cl W k st []) n
      rw [eB]
      by_cases hs : s = []
      · rw [if_pos hs, if_pos hs]
        show _ = _ + (sh (gat W.pt (An W st [])) n + 0)
        omega
      · rw [if_neg hs, if_neg hs]
    | cons x r =>
      have eR : SP (rA W s) (Cl W k st) (x :: r) n = (if s = [] then Cl W k st (x :: r) n else 0) + SP (fun u => rA W s (x :: u)) (Cl W k st) r n := by
        show cv (rA W s []) (Cl W k st (x :: r)) n + _ = _
        rw [eB]
      rw [eR]
      have hl : n + r.length ≤ N := by rw [List.length_cons] at h; omega
      by_cases hx : x ∈ BRK
      · have e1 : rA W (s ++ k :: st) (x :: r) n = tA W (s ++ k :: st) x r n + oA (fun s => An W s r) (stp (some (s ++ k :: st)) x) n := if_pos hx
        have e2 : SP (fun u => rA W s (x :: u)) (Cl W k st) r n = SP (tA W s x) (Cl W k st) r n + oA (fun s' => SP (An W s') (Cl W k st) r) (stp (some s) x) n := by
          rw [← SP_oA (fun s' u => An W s' u), ← SP_add]
          exact congrFun (SP_congr (fun u v e => funext fun a => if_pos hx) (fun u v e => rfl)) n
        have e3 : tA W (s ++ k :: st) x r n = SP (tA W s x) (Cl W k st) r n + if s = [] ∧ x ≠ k then sh (gat W.tn (An W st r)) n else 0 := by
          unfold tA
          rw [SP_sh]
          cases n with
          | zero => show (0 : Nat) = 0 + _; split <;> rfl
          | succ n =>
            show gat W.st _ n + gat W.tn _ n = SP _ _ r n + if s = [] ∧ x ≠ k then gat W.tn (An W st r) n else 0
            rw [SP_add, SP_gat, SP_gat]
            have hi : ∀ s', An W (s' ++ k :: st) r n = SP (An W s') (Cl W k st) r n := fun s' => ihN n r s' (by omega)
            have a1 : gat W.st (An W (s ++ k :: st) r) n = gat W.st (SP (An W s) (Cl W k st) r) n := by unfold gat; rw [hi s]
            rw [a1]
            have a2 : gat W.tn (bS (BRK.filter (· ≠ x)) fun c => oA (fun s => An W s r) (stp (some (s ++ k :: st)) c)) n = gat W.tn (SP (fun u => bS (BRK.filter (· ≠ x)) fun c => oA (fun s => An W s u) (stp (some s) c)) (Cl W k st) r) n + if s = [] ∧ x ≠ k then gat W.tn (An W st r) n else 0 := by
              unfold gat
              by_cases ht : W.tn = true
              · rw [if_pos ht, if_pos ht, if_pos ht, bS_under hk hi, SP_bS _ (fun c u => oA (fun s => An W s u) (stp (some s) c)), cnt_brkF k hk x hx]
                congr 1
                · unfold bS
                  congr 1
                  exact List.map_congr_left fun c _ => (SP_oA (fun s' u => An W s' u) _ _ r n).symm
                · by_cases hs : s = []
                  · rw [if_pos hs]
                    by_cases hxk : x = k
                    · rw [if_pos hxk, if_neg (fun q => q.2 hxk), Nat.zero_mul]
                    · rw [if_neg hxk, if_pos ⟨hs, hxk⟩, Nat.one_mul]
                  · rw [if_neg hs, if_neg (fun q => hs q.1)]
              · rw [if_neg ht, if_neg ht, if_neg ht]; split <;> rfl
            rw [a2]
            omega
        rw [e1, e2, e3, oA_under hk (g := Cl W k st) (fun s' => ihN n r s' hl)]
        by_cases hs : s = []
        · rw [if_pos hs, if_pos hs]
          have e4 : Cl W k st (x :: r) n = sh (gat W.pt (An W st (x :: r))) n + if x = k then An W st r n else sh (gat W.tn (An W st r)) n := by
            unfold Cl
            dsimp only
            rw [if_pos hx]
          rw [e4]
          by_cases hxk : x = k
          · rw [if_neg (fun q => q.2 hxk), if_pos ⟨hs, hxk⟩, if_pos hxk]; omega
          · rw [if_pos ⟨hs, hxk⟩, if_neg (fun q => hxk q.2), if_neg hxk]; omega
        · rw [if_neg hs, if_neg hs, if_neg (fun q => hs q.1), if_neg (fun q => hs q.1)]; omega
      · have e1 : rA W (s ++ k :: st) (x :: r) n = An W (s ++ k :: st) r n := if_neg hx
        have e2 : SP (fun u => rA W s (x :: u)) (Cl W k st) r n = SP (An W s) (Cl W k st) r n := by
          exact congrFun (SP_congr (fun u v e => funext fun a => if_neg hx) (fun u v e => rfl)) n
        have e4 : Cl W k st (x :: r) n = sh (gat W.pt (An W st (x :: r))) n := by
          unfold Cl
          dsimp only
          rw [if_neg hx]
          rfl
        rw [e1, e2, e4, ihN n r s hl]
        by_cases hs : s = []
        · rw [if_pos hs]; omega
        · rw [if_neg hs]; omega
end Ly

set_option maxHeartbeats 4000000
namespace Ly
/-! ### the least number with how many, of a series -/
def Ld (f : Ser) (x : MC) : Prop := match x with
  | none => ∀ n, f n = 0
  | some p => f p.1 = p.2 ∧ p.2 ≠ 0 ∧ ∀ a, a < p.1 → f a = 0
theorem Ld.uniq {f : Ser} {x y : MC} (h1 : Ld f x) (h2 : Ld f y) : x = y := by
  cases x with
  | none =>
    cases y with
    | none => rfl
    | some q => exact absurd ((h1 q.1).symm.trans h2.1).symm h2.2.1
  | some p =>
    cases y with
    | none => exact absurd ((h2 p.1).symm.trans h1.1).symm h1.2.1
    | some q =>
      obtain ⟨a, m⟩ := p
      obtain ⟨b, k⟩ := q
      obtain ⟨u1, u2, u3⟩ := h1
      obtain ⟨v1, v2, v3⟩ := h2
      dsimp only at *
      have e : a = b := by
        rcases Nat.lt_trichotomy a b with h | h | h
        · exact absurd (u1.symm.trans (v3 a h)) u2
        · exact h
        · exact absurd (v1.symm.trans (u3 b h)) v2
      subst e
      rw [← u1, ← v1]
theorem Ld.congr {f g : Ser} {x : MC} (h : Ld f x) (e : ∀ n, f n = g n) : Ld g x := by
  have : f = g := funext e
  rw [← this]
  exact h
theorem Ld_zero : Ld (fun _ => 0) none := fun _ => rfl
theorem Ld_add {f g : Ser} {x y : MC} (h1 : Ld f x) (h2 : Ld g y) : Ld (fun n => f n + g n) (mAdd x y) := by
  cases x with
  | none => exact h2.congr fun n => by rw [h1 n, Nat.zero_add]
  | some p =>
    cases y with
    | none => exact Ld.congr (x := some p) h1 fun n => by rw [h2 n, Nat.add_zero]
    | some q =>
      obtain ⟨a, m⟩ := p
      obtain ⟨b, k⟩ := q
      obtain ⟨u1, u2, u3⟩ := h1
      obtain ⟨v1, v2, v3⟩ := h2
      dsimp only at *
      unfold mAdd
      dsimp only
      by_cases h : a < b
      · rw [if_pos h]
        exact ⟨by show f a + g a = m; rw [u1, v3 a h]; rfl, u2, fun c hc => by show f c + g c = 0; rw [u3 c hc, v3 c (Nat.lt_trans hc h)]⟩
      · rw [if_neg h]
        by_cases h' : b < a
        · rw [if_pos h']
          exact ⟨by show f b + g b = k; rw [v1, u3 b h', Nat.zero_add], v2, fun c hc => by show f c + g c = 0; rw [v3 c hc, u3 c (Nat.lt_trans hc h')]⟩
        · rw [if_neg h']
          have e : a = b := by omega
          subst e
          exact ⟨by show f a + g a = m + k; rw [u1, v1], by show m + k ≠ 0; omega, fun c hc => by show f c + g c = 0; rw [u3 c hc, v3 c hc]⟩
theorem cv_none {f g : Ser} (h : ∀ n, f n = 0) (n : Nat) : cv f g n = 0 := by
  rw [show f = fun _ => 0 from funext h, cv_zero]
theorem cv_noneR {f g : Ser} (h : ∀ n, g n = 0) (n : Nat) : cv f g n = 0 := by
  rw [show g = fun _ => 0 from funext h, cv_zeroR]
theorem cv_lead {g : Ser} {b k : Nat} (v1 : g b = k) (v3 : ∀ c, c < b → g c = 0) : ∀ (a m : Nat) (f : Ser), f a = m → (∀ c, c < a → f c = 0) → cv f g (a + b) = m * k
  | 0, m, f, u1, _ => by
    rw [Nat.zero_add]
    cases b with
    | zero => show f 0 * g 0 = m * k; rw [u1, v1]
    | succ b =>
      show f 0 * g (b + 1) + cv (fun a => f (a + 1)) g b = m * k
      have : cv (fun a => f (a + 1)) g b = 0 := Classical.byContradiction fun h => by
        obtain ⟨x, y, e, _, hy⟩ := cv_pos.mp h
        exact hy (v3 y (by omega))
      rw [this, u1, v1, Nat.add_zero]
  | a + 1, m, f, u1, u3 => by
    rw [show a + 1 + b = (a + b) + 1 by omega]
    show f 0 * g (a + b + 1) + cv (fun a => f (a + 1)) g (a + b) = m * k
    rw [u3 0 (by omega), Nat.zero_mul, Nat.zero_add]
    exact cv_lead v1 v3 a m (fun a => f (a + 1)) u1 fun c hc => u3 (c + 1) (by omega)
theorem Ld_cv {f g : Ser} {x y : MC} (h1 : Ld f x) (h2 : Ld g y) : Ld (cv f g) (mMul x y) := by
  cases x with
  | none => exact fun n => cv_none h1 n
  | some p =>
    cases y with
    | none => exact fun n => cv_noneR h2 n
    | some q =>
      obtain ⟨a, m⟩ := p
      obtain ⟨b, k⟩ := q
      obtain ⟨u1, u2, u3⟩ := h1
      obtain ⟨v1, v2, v3⟩ := h2
      dsimp only at *
      refine ⟨cv_lead v1 v3 a m f u1 u3, Nat.mul_ne_zero u2 v2, fun c hc => Classical.byContradiction fun h => ?_⟩
      obtain ⟨x, y, e, hx, hy⟩ := cv_pos.mp h
      by_cases hxa : x < a
      · exact hx (u3 x hxa)
      · exact hy (v3 y (by show y < b; have : c < a + b := hc; omega))
def mS (p : Nat × Nat) : Ser := fun n => if n = p.1 then p.2 else 0
theorem Ld_mS {p : Nat × Nat} (h : p.2 ≠ 0) : Ld (mS p) (some p) := ⟨if_pos rfl, h, fun a ha => if_neg (by omega)⟩
theorem cv_mS (f : Ser) (k : Nat) : ∀ (e n : Nat), cv (mS (e, k)) f n = if e ≤ n then k * f (n - e) else 0
  | 0, n => by
    rw [if_pos (Nat.zero_le _)]
    cases n with
    | zero => rfl
    | succ n =>
      show k * f (n + 1) + cv (fun a => if a + 1 = 0 then k else 0) f n = _
      rw [show (fun a : Nat => if a + 1 = 0 then k else 0) = fun _ => 0 from funext fun a => if_neg (by omega), cv_zero]
      rfl
  | e + 1, 0 => by
    rw [if_neg (by omega)]
    show (if 0 = e + 1 then k else 0) * f 0 = 0
    rw [if_neg (by omega), Nat.zero_mul]
  | e + 1, n + 1 => by
    show (if 0 = e + 1 then k else 0) * f (n + 1) + cv (fun a => if a + 1 = e + 1 then k else 0) f n = _
    rw [if_neg (by omega), Nat.zero_mul, Nat.zero_add]
    have : (fun a => if a + 1 = e + 1 then k else 0) = mS (e, k) := funext fun a => by
      show (if a + 1 = e + 1 then k else 0) = if a = e then k else 0
      by_cases h : a = e
      · rw [if_pos h, if_pos (by omega)]
      · rw [if_neg h, if_neg (by omega)]
    rw [this, cv_mS f k e n, show n + 1 - (e + 1) = n - e by omega]
    by_cases h : e ≤ n
    · rw [if_pos h, if_pos (by omega)]
    · rw [if_neg h, if_neg (by omega)]
theorem sh_mS (f : Ser) (n : Nat) : sh f n = cv (mS (1, 1)) f n := by
  rw [cv_mS]
  cases n with
  | zero => rfl
  | succ n => rw [if_pos (by omega), Nat.one_mul]; rfl
theorem Ld_sh {f : Ser} {x : MC} (h : Ld f x) : Ld (sh f) (mMul w1 x) := (Ld_cv (Ld_mS (p := (1, 1)) (by decide)) h).congr fun n => (sh_mS f n).symm
theorem Ld_gat {b : Bool} {f : Ser} {x : MC} (h : Ld f x) : Ld (gat b f) (if b = true then x else none) := by
  cases b with
  | true => exact h
  | false => exact Ld_zero
/-- what is more never comes ahead -/
theorem Ld_junk {f g : Ser} {x : MC} (h : Ld g x) (hle : ∀ n, g n ≤ f n) (hj : ∀ n, g n < f n → ∃ m, m < n ∧ f m ≠ 0) : Ld f x := by
  have key : ∀ n, (∀ m, m < n → g m = 0) → ∀ m, m < n → f m = 0 := by
    intro n hg m
    induction m using Nat.strongRecOn with
    | ind m ih =>
      intro hm
      refine Classical.byContradiction fun h0 => ?_
      obtain ⟨k, hk, hf⟩ := hj m (by rw [hg m hm]; omega)
      exact hf (ih k hk (by omega))
  cases x with
  | none => exact fun n => key (n + 1) (fun m _ => h m) n (by omega)
  | some p =>
    obtain ⟨h1, h2, h3⟩ := h
    have hz := key p.1 h3
    refine ⟨?_, h2, hz⟩
    refine Classical.byContradiction fun hne => ?_
    obtain ⟨k, hk, hf⟩ := hj p.1 (by have := hle p.1; omega)
    exact hf (hz k hk)
theorem cv_le {f g g' : Ser} : ∀ {n : Nat}, (∀ b, g b ≤ g' b) → cv f g n ≤ cv f g' n := by
  intro n h
  induction n generalizing f with
  | zero => exact Nat.mul_le_mul_left _ (h 0)
  | succ n ih => exact Nat.add_le_add (Nat.mul_le_mul_left _ (h _)) ih
theorem cv_lt {f g g' : Ser} : ∀ {n : Nat}, (∀ b, g b ≤ g' b) → cv f g n < cv f g' n → ∃ a b, a + b = n ∧ f a ≠ 0 ∧ g b < g' b := by
  intro n h
  induction n generalizing f with
  | zero =>
    intro hl
    refine ⟨0, 0, rfl, fun e => ?_, Classical.byContradiction fun e => ?_⟩
    · rw [cv, cv, e, Nat.zero_mul, Nat.zero_mul] at hl; omega
    · have : g' 0 ≤ g 0 := by omega
      rw [cv, cv] at hl
      exact absurd (Nat.mul_le_mul_left (f 0) this) (by omega)
  | succ n ih =>
    intro hl
    rw [cv, cv] at hl
    by_cases h1 : cv (fun a => f (a + 1)) g n < cv (fun a => f (a + 1)) g' n
    · obtain ⟨a, b, e, ha, hb⟩ := ih h1
      exact ⟨a + 1, b, by omega, ha, hb⟩
    · have h2 : f 0 * g (n + 1) < f 0 * g' (n + 1) := by omega
      refine ⟨0, n + 1, by omega, fun e => ?_, Classical.byContradiction fun e => ?_⟩
      · rw [e, Nat.zero_mul, Nat.zero_mul] at h2; omega
      · have : g' (n + 1) ≤ g (n + 1) := by omega
        exact absurd (Nat.mul_le_mul_left (f 0) this) (by omega)
theorem SP_le {g g' : List Nat → Ser} (h : ∀ v b, g v b ≤ g' v b) : ∀ {r : List Nat} {f : List Nat → Ser} {n : Nat}, SP f g r n ≤ SP f g' r n
  | [], f, n => cv_le (h [])
  | x :: r, f, n => Nat.add_le_add (cv_le (h (x :: r))) (SP_le h)
theorem SP_lt {g g' : List Nat → Ser} (h : ∀ v b, g v b ≤ g' v b) : ∀ {r : List Nat} {f : List Nat → Ser} {n : Nat}, SP f g r n < SP f g' r n → ∃ u v a b, u ++ v = r ∧ a + b = n ∧ f u a ≠ 0 ∧ g v b < g' v b
  | [], f, n, hl => by
    obtain ⟨a, b, e, ha, hb⟩ := cv_lt (h []) hl
    exact ⟨[], [], a, b, rfl, e, ha, hb⟩
  | x :: r, f, n, hl => by
    by_cases h1 : SP (fun u => f (x :: u)) g r n < SP (fun u => f (x :: u)) g' r n
    · obtain ⟨u, v, a, b, e, e2, ha, hb⟩ := SP_lt h h1
      exact ⟨x :: u, v, a, b, by rw [List.cons_append, e], e2, ha, hb⟩
    · have h2 : cv (f []) (g (x :: r)) n < cv (f []) (g' (x :: r)) n := by
        have : cv (f []) (g (x :: r)) n + SP (fun u => f (x :: u)) g r n < cv (f []) (g' (x :: r)) n + SP (fun u => f (x :: u)) g' r n := hl
        omega
      obtain ⟨a, b, e, ha, hb⟩ := cv_lt (h (x :: r)) h2
      exact ⟨[], x :: r, a, b, rfl, e, ha, hb⟩
theorem SP_shR (f g : List Nat → Ser) : ∀ (r : List Nat) (n : Nat), SP f (fun v => sh (g v)) r n = sh (SP f g r) n := by
  intro r
  induction r generalizing f with
  | nil => intro n; exact cv_shR _ _ n
  | cons x r ih =>
    intro n
    show cv _ (sh (g (x :: r))) n + SP (fun u => f (x :: u)) (fun v => sh (g v)) r n = _
    rw [cv_shR, ih]
    cases n <;> rfl
theorem SP_zeroR (f : List Nat → Ser) : ∀ (r : List Nat) (n : Nat), SP f (fun _ _ => 0) r n = 0 := by
  intro r
  induction r generalizing f with
  | nil => intro n; exact cv_zeroR _ n
  | cons x r ih =>
    intro n
    show cv _ (fun _ => 0) n + SP (fun u => f (x :: u)) (fun _ _ => 0) r n = 0
    rw [cv_zeroR, ih]
theorem SP_gatR (b : Bool) (f g : List Nat → Ser) (r : List Nat) (n : Nat) : SP f (fun v => gat b (g v)) r n = gat b (SP f g r) n := by
  cases b with
  | true => rfl
  | false => exact SP_zeroR f r n
theorem SP_bSR (cs : List Nat) (f : List Nat → Ser) (g : Nat → List Nat → Ser) (r : List Nat) (n : Nat) : SP f (fun v => bS cs fun c => g c v) r n = bS cs (fun c => SP f (g c) r) n := by
  induction cs with
  | nil => exact SP_zeroR f r n
  | cons c cs ih =>
    have e : (fun v => bS (c :: cs) fun c => g c v) = fun v a => g c v a + bS cs (fun c => g c v) a := rfl
    rw [e, SP_addR, ih]
    rfl
end Ly

set_option maxHeartbeats 4000000
namespace Ly
/-! ### rows of steps -/
structure Row (W : Wd) (st r : List Nat) (n : Nat) (α : List Stp) : Prop where
  ok : okS α
  wd : ∀ s ∈ α, s.wd W
  tx : inS α = r
  ct : cstS α = n
  fo : (outS α).foldl stp (some st) = some []
section
variable {W : Wd} {st s r : List Nat} {n c x : Nat} {β : List Stp}
theorem okS_cons {y : Stp} : okS (y :: β) ↔ y.ok ∧ okS β := by
  unfold okS
  simp
theorem wd_cons {y : Stp} : (∀ s ∈ y :: β, s.wd W) ↔ y.wd W ∧ ∀ s ∈ β, s.wd W := by simp
theorem Row.pt (hp : W.pt = true) (hc : c ∈ BRK) (hs : stp (some st) c = some s) (h : Row W s r n β) : Row W st r (n + 1) (.pt c :: β) :=
  ⟨okS_cons.mpr ⟨hc, h.ok⟩, wd_cons.mpr ⟨hp, h.wd⟩, h.tx, by show cstS β + 1 = n + 1; rw [h.ct], by show (outS β).foldl stp (stp (some st) c) = some []; rw [hs]; exact h.fo⟩
theorem Row.str (hp : W.st = true) (hx : x ∈ BRK) (h : Row W st r n β) : Row W st (x :: r) (n + 1) (.st x :: β) :=
  ⟨okS_cons.mpr ⟨hx, h.ok⟩, wd_cons.mpr ⟨hp, h.wd⟩, by show x :: inS β = x :: r; rw [h.tx], by show cstS β + 1 = n + 1; rw [h.ct], h.fo⟩
theorem Row.tn (hp : W.tn = true) (hx : x ∈ BRK) (hc : c ∈ BRK) (hn : c ≠ x) (hs : stp (some st) c = some s) (h : Row W s r n β) : Row W st (x :: r) (n + 1) (.tn x c :: β) :=
  ⟨okS_cons.mpr ⟨⟨hx, hc, hn⟩, h.ok⟩, wd_cons.mpr ⟨hp, h.wd⟩, by show x :: inS β = x :: r; rw [h.tx], by show cstS β + 1 = n + 1; rw [h.ct], by show (outS β).foldl stp (stp (some st) c) = some []; rw [hs]; exact h.fo⟩
theorem Row.kp (hs : stp (some st) x = some s) (h : Row W s r n β) : Row W st (x :: r) n (.kp x :: β) :=
  ⟨okS_cons.mpr ⟨trivial, h.ok⟩, wd_cons.mpr ⟨trivial, h.wd⟩, by show x :: inS β = x :: r; rw [h.tx], h.ct, by show (outS β).foldl stp (stp (some st) x) = some []; rw [hs]; exact h.fo⟩
theorem fold_some {o : Option (List Nat)} {l t : List Nat} (h : l.foldl stp o = some t) : ∃ s, o = some s := by
  cases o with
  | none => rw [fold_none] at h; cases h
  | some s => exact ⟨s, rfl⟩
theorem Row.ipt (h : Row W st r n (.pt c :: β)) : W.pt = true ∧ c ∈ BRK ∧ ∃ s m, stp (some st) c = some s ∧ n = m + 1 ∧ Row W s r m β := by
  obtain ⟨h1, h2, h3, h4, h5⟩ := h
  have h5' : (outS β).foldl stp (stp (some st) c) = some [] := h5
  obtain ⟨s, hs⟩ := fold_some h5'
  rw [hs] at h5'
  exact ⟨(wd_cons.mp h2).1, (okS_cons.mp h1).1, s, cstS β, hs, h4.symm, (okS_cons.mp h1).2, (wd_cons.mp h2).2, h3, rfl, h5'⟩
theorem Row.ist (h : Row W st r n (.st x :: β)) : W.st = true ∧ x ∈ BRK ∧ ∃ r' m, r = x :: r' ∧ n = m + 1 ∧ Row W st r' m β := by
  obtain ⟨h1, h2, h3, h4, h5⟩ := h
  exact ⟨(wd_cons.mp h2).1, (okS_cons.mp h1).1, inS β, cstS β, h3.symm, h4.symm, (okS_cons.mp h1).2, (wd_cons.mp h2).2, rfl, rfl, h5⟩
theorem Row.itn (h : Row W st r n (.tn x c :: β)) : W.tn = true ∧ x ∈ BRK ∧ c ∈ BRK ∧ c ≠ x ∧ ∃ s r' m, stp (some st) c = some s ∧ r = x :: r' ∧ n = m + 1 ∧ Row W s r' m β := by
  obtain ⟨h1, h2, h3, h4, h5⟩ := h
  have h5' : (outS β).foldl stp (stp (some st) c) = some [] := h5
  obtain ⟨s, hs⟩ := fold_some h5'
  rw [hs] at h5'
  obtain ⟨⟨a1, a2, a3⟩, a4⟩ := okS_cons.mp h1
  exact ⟨(wd_cons.mp h2).1, a1, a2, a3, s, inS β, cstS β, hs, h3.symm, h4.symm, a4, (wd_cons.mp h2).2, rfl, rfl, h5'⟩
theorem Row.ikp (h : Row W st r n (.kp x :: β)) : ∃ s r', stp (some st) x = some s ∧ r = x :: r' ∧ Row W s r' n β := by
  obtain ⟨h1, h2, h3, h4, h5⟩ := h
  have h5' : (outS β).foldl stp (stp (some st) x) = some [] := h5
  obtain ⟨s, hs⟩ := fold_some h5'
  rw [hs] at h5'
  exact ⟨s, inS β, hs, h3.symm, (okS_cons.mp h1).2, (wd_cons.mp h2).2, rfl, h4, h5'⟩
end
theorem mem_opt {W : Wd} {r : List Nat} {n : Nat} {o : Option (List Nat)} {f : List Stp → List Stp} {α : List Stp} : α ∈ (match o with | none => [] | some s => rowsL W s r n).map f ↔ ∃ s β, o = some s ∧ β ∈ rowsL W s r n ∧ f β = α := by
  cases o with
  | none => simp
  | some s => simp
theorem not_brk {x : Nat} (h : x ∉ BRK) (st : Option (List Nat)) : stp st x = st := stp_let (fun q => h (brk_or.mpr (.inl q))) (fun q => h (brk_or.mpr (.inr q)))
theorem rows_sound {W : Wd} : ∀ (N n : Nat) (r st : List Nat) (α : List Stp), n + r.length ≤ N → α ∈ rowsL W st r n → Row W st r n α := by
  intro N
  induction N with
  | zero =>
    intro n r st α h hm
    have h1 : n = 0 := by omega
    have h2 : r = [] := List.length_eq_zero_iff.mp (by omega)
    subst h1 h2
    rw [rowsL.eq_def] at hm
    dsimp only at hm
    rw [List.nil_append] at hm
    by_cases hs : st = [] ∧ 0 = 0
    · rw [if_pos hs] at hm
      rw [List.mem_singleton.mp hm, hs.1]
      exact ⟨(fun _ h => nomatch h), (fun _ h => nomatch h), rfl, rfl, rfl⟩
    · rw [if_neg hs] at hm; cases hm
  | succ N ih =>
    intro n r st α h hm
    rw [rowsL.eq_def] at hm
    rcases List.mem_append.mp hm with hm | hm
    · cases n with
      | zero => cases hm
      | succ n =>
        dsimp only at hm
        by_cases hp : W.pt = true
        · rw [if_pos hp] at hm
          obtain ⟨c, hc, hm⟩ := List.mem_flatMap.mp hm
          obtain ⟨s, β, hs, hb, rfl⟩ := mem_opt.mp hm
          exact Row.pt hp hc hs (ih n r s β (by omega) hb)
        · rw [if_neg hp] at hm; cases hm
    · cases r with
      | nil =>
        dsimp only at hm
        by_cases hs : st = [] ∧ n = 0
        · rw [if_pos hs] at hm
          rw [List.mem_singleton.mp hm, hs.1, hs.2]
          exact ⟨(fun _ h => nomatch h), (fun _ h => nomatch h), rfl, rfl, rfl⟩
        · rw [if_neg hs] at hm; cases hm
      | cons x r =>
        rw [List.length_cons] at h
        dsimp only at hm
        by_cases hx : x ∈ BRK
        · rw [if_pos hx] at hm
          rcases List.mem_append.mp hm with hm | hm
          · cases n with
            | zero => cases hm
            | succ n =>
              dsimp only at hm
              rcases List.mem_append.mp hm with hm | hm
              · by_cases hp : W.st = true
                · rw [if_pos hp] at hm
                  obtain ⟨β, hb, rfl⟩ := List.mem_map.mp hm
                  exact Row.str hp hx (ih n r st β (by omega) hb)
                · rw [if_neg hp] at hm; cases hm
              · by_cases hp : W.tn = true
                · rw [if_pos hp] at hm
                  obtain ⟨c, hc, hm⟩ := List.mem_flatMap.mp hm
                  obtain ⟨hc1, hc2⟩ := List.mem_filter.mp hc
                  obtain ⟨s, β, hs, hb, rfl⟩ := mem_opt.mp hm
                  exact Row.tn hp hx hc1 (by simpa using hc2) hs (ih n r s β (by omega) hb)
                · rw [if_neg hp] at hm; cases hm
          · obtain ⟨s, β, hs, hb, rfl⟩ := mem_opt.mp hm
            exact Row.kp hs (ih n r s β (by omega) hb)
        · rw [if_neg hx] at hm
          obtain ⟨β, hb, rfl⟩ := List.mem_map.mp hm
          exact Row.kp (not_brk hx _) (ih n r st β (by omega) hb)
theorem rows_all {W : Wd} : ∀ (α : List Stp) (st r : List Nat) (n : Nat), Row W st r n α → α ∈ rowsL W st r n
  | [], st, r, n, h => by
    have h1 : r = [] := h.tx.symm
    have h2 : n = 0 := h.ct.symm
    have h3 : st = [] := Option.some.inj h.fo
    subst h1 h2 h3
    rw [rowsL.eq_def]
    exact List.mem_append_right _ (by dsimp only; rw [if_pos ⟨rfl, rfl⟩]; exact List.mem_singleton.mpr rfl)
  | .pt c :: β, st, r, n, h => by
    obtain ⟨hp, hc, s, m, hs, rfl, hb⟩ := h.ipt
    rw [rowsL.eq_def]
    refine List.mem_append_left _ ?_
    dsimp only
    rw [if_pos hp]
    exact List.mem_flatMap.mpr ⟨c, hc, mem_opt.mpr ⟨s, β, hs, rows_all β s r m hb, rfl⟩⟩
  | .st x :: β, st, r, n, h => by
    obtain ⟨hp, hx, r', m, rfl, rfl, hb⟩ := h.ist
    rw [rowsL.eq_def]
    refine List.mem_append_right _ ?_
    dsimp only
    rw [if_pos hx]
    refine List.mem_append_left _ (List.mem_append_left _ ?_)
    rw [if_pos hp]
    exact List.mem_map.mpr ⟨β, rows_all β st r' m hb, rfl⟩
  | .tn x c :: β, st, r, n, h => by
    obtain ⟨hp, hx, hc, hn, s, r', m, hs, rfl, rfl, hb⟩ := h.itn
    rw [rowsL.eq_def]
    refine List.mem_append_right _ ?_
    dsimp only
    rw [if_pos hx]
    refine List.mem_append_left _ (List.mem_append_right _ ?_)
    rw [if_pos hp]
    exact List.mem_flatMap.mpr ⟨c, List.mem_filter.mpr ⟨hc, by simpa using hn⟩, mem_opt.mpr ⟨s, β, hs, rows_all β s r' m hb, rfl⟩⟩
  | .kp x :: β, st, r, n, h => by
    obtain ⟨s, r', hs, rfl, hb⟩ := h.ikp
    have hm := rows_all β s r' n hb
    rw [rowsL.eq_def]
    refine List.mem_append_right _ ?_
    dsimp only
    by_cases hx : x ∈ BRK
    · rw [if_pos hx]
      exact List.mem_append_right _ (mem_opt.mpr ⟨s, β, hs, hm, rfl⟩)
    · rw [if_neg hx]
      rw [not_brk hx] at hs
      cases hs
      exact List.mem_map.mpr ⟨β, hm, rfl⟩
theorem mem_rows {W : Wd} {st r : List Nat} {n : Nat} {α : List Stp} : α ∈ rowsL W st r n ↔ Row W st r n α := ⟨rows_sound _ n r st α (Nat.le_refl _), rows_all α st r n⟩
theorem An_pos {W : Wd} {st r : List Nat} {n : Nat} : An W st r n ≠ 0 ↔ ∃ α, Row W st r n α := by
  constructor
  · intro h
    have : rowsL W st r n ≠ [] := fun e => h (by show (rowsL W st r n).length = 0; rw [e]; rfl)
    obtain ⟨α, ha⟩ := List.exists_mem_of_ne_nil _ this
    exact ⟨α, mem_rows.mp ha⟩
  · rintro ⟨α, ha⟩ h
    have := List.length_pos_of_mem (mem_rows.mpr ha)
    have h' : (rowsL W st r n).length = 0 := h
    omega
/-! ### rows put together -/
theorem okS_app {α β : List Stp} (h1 : okS α) (h2 : okS β) : okS (α ++ β) := fun s hs => (List.mem_append.mp hs).elim (h1 s) (h2 s)
theorem inS_app (α β : List Stp) : inS (α ++ β) = inS α ++ inS β := by unfold inS; rw [List.map_append, List.flatten_append]
theorem outS_app (α β : List Stp) : outS (α ++ β) = outS α ++ outS β := by unfold outS; rw [List.map_append, List.flatten_append]
theorem cstS_app : ∀ (α β : List Stp), cstS (α ++ β) = cstS α + cstS β
  | [], β => (Nat.zero_add _).symm
  | .kp _ :: α, β => cstS_app α β
  | .st _ :: α, β => by show cstS (α ++ β) + 1 = cstS α + 1 + cstS β; rw [cstS_app α β]; omega
  | .tn _ _ :: α, β => by show cstS (α ++ β) + 1 = cstS α + 1 + cstS β; rw [cstS_app α β]; omega
  | .pt _ :: α, β => by show cstS (α ++ β) + 1 = cstS α + 1 + cstS β; rw [cstS_app α β]; omega
theorem Row.app {W : Wd} {u v : List Nat} {a b : Nat} {α β : List Stp} (h1 : Row W [] u a α) (h2 : Row W [] v b β) : Row W [] (u ++ v) (a + b) (α ++ β) :=
  ⟨okS_app h1.ok h2.ok, fun s hs => (List.mem_append.mp hs).elim (h1.wd s) (h2.wd s), by rw [inS_app, h1.tx, h2.tx], by rw [cstS_app, h1.ct, h2.ct], by rw [outS_app, List.foldl_append, h1.fo]; exact h2.fo⟩
theorem An_app {W : Wd} {u v : List Nat} {a b : Nat} (h1 : An W [] u a ≠ 0) (h2 : An W [] v b ≠ 0) : An W [] (u ++ v) (a + b) ≠ 0 := by
  obtain ⟨α, ha⟩ := An_pos.mp h1
  obtain ⟨β, hb⟩ := An_pos.mp h2
  exact An_pos.mpr ⟨_, ha.app hb⟩
theorem An_one {W : Wd} {x : Nat} (hp : W.pt = true) (hx : x ∈ BRK) : An W [] [x] 1 ≠ 0 := by
  refine An_pos.mpr ?_
  by_cases ho : x ∈ OPN
  · exact ⟨[.kp x, .pt (oth x)], Row.kp (stp_opn ho) (Row.pt hp (oth_brk x hx) (stp_clo (oth_clo x ho)) ⟨(fun _ h => nomatch h), (fun _ h => nomatch h), rfl, rfl, rfl⟩)⟩
  · have hc : x ∈ CLO := (brk_or.mp hx).resolve_left ho
    have e : stp (some []) (oth x) = some [x] := by rw [stp_opn (oth_opn x hc), oth_oth x hx]
    exact ⟨[.pt (oth x), .kp x], Row.pt hp (oth_brk x hx) e (Row.kp (stp_clo hc) ⟨(fun _ h => nomatch h), (fun _ h => nomatch h), rfl, rfl, rfl⟩)⟩
/-- a sign made into another one, or kept -/
def asS (x c : Nat) : Stp := if c = x then .kp x else .tn x c
def asC (x c : Nat) : Nat := if c = x then 0 else 1
theorem Row.as {W : Wd} {st s r : List Nat} {n x c : Nat} {β : List Stp} (hp : c = x ∨ W.tn = true) (hx : x ∈ BRK) (hc : c ∈ BRK) (hs : stp (some st) c = some s) (h : Row W s r n β) : Row W st (x :: r) (asC x c + n) (asS x c :: β) := by
  unfold asS asC
  by_cases e : c = x
  · rw [if_pos e, if_pos e, Nat.zero_add]
    subst e
    exact Row.kp hs h
  · rw [if_neg e, if_neg e, Nat.add_comm]
    exact Row.tn (hp.resolve_left e) hx hc e hs h
/-- what stands on a pile that stays -/
theorem Row.fr {W : Wd} {u : List Nat} {a : Nat} {α : List Stp} (h : Row W [] u a α) {st r : List Nat} {n : Nat} {β : List Stp} (hb : Row W st r n β) : Row W st (u ++ r) (a + n) (α ++ β) :=
  ⟨okS_app h.ok hb.ok, fun s hs => (List.mem_append.mp hs).elim (h.wd s) (hb.wd s), by rw [inS_app, h.tx, hb.tx], by rw [cstS_app, h.ct, hb.ct], by
    rw [outS_app, List.foldl_append, fold_run (r := []) h.fo]
    exact hb.fo⟩
theorem Row.nil {W : Wd} : Row W [] [] 0 [] := ⟨(fun _ h => nomatch h), (fun _ h => nomatch h), rfl, rfl, rfl⟩
theorem few_way : ∀ x ∈ BRK, ∀ d ∈ BRK, ∃ o ∈ OPN, asC x o + asC d (oth o) = (few x d).1 := by decide
theorem An_pair {W : Wd} {x d : Nat} (hx : x ∈ BRK) (hd : d ∈ BRK) (hg : (few x d).1 = 0 ∨ W.tn = true) {u : List Nat} {a : Nat} (h : An W [] u a ≠ 0) : An W [] (x :: (u ++ [d])) (a + (few x d).1) ≠ 0 := by
  obtain ⟨α, ha⟩ := An_pos.mp h
  obtain ⟨o, ho, ec⟩ := few_way x hx d hd
  have hob := brk_or.mpr (.inl ho)
  have hcb := oth_brk o hob
  have p1 : o = x ∨ W.tn = true := by
    by_cases e : o = x
    · exact .inl e
    · refine .inr (hg.resolve_left ?_)
      have : asC x o = 1 := if_neg e
      omega
  have p2 : oth o = d ∨ W.tn = true := by
    by_cases e : oth o = d
    · exact .inl e
    · refine .inr (hg.resolve_left ?_)
      have : asC d (oth o) = 1 := if_neg e
      omega
  have h2 : Row W [oth o] [d] (asC d (oth o) + 0) [asS d (oth o)] := Row.as p2 hd hcb (stp_clo (oth_clo o ho)) Row.nil
  have h3 := Row.as p1 hx hob (stp_opn ho) (ha.fr h2)
  rw [show asC x o + (a + (asC d (oth o) + 0)) = a + (few x d).1 by omega] at h3
  exact An_pos.mpr ⟨_, h3⟩
end Ly

set_option maxHeartbeats 4000000
namespace Ly
/-! ### all that begins so: what is least of it -/
section
variable {W : Wd}
/-- the sign that closes what was opened with k, kept or turned -/
def clo (W : Wd) (k : Nat) (v : List Nat) : Ser := fun n => match v with
  | [] => 0
  | d :: v => if d ∈ BRK then (if d = k then An W [] v n else sh (gat W.tn (An W [] v)) n) else 0
theorem Cl_eq (k : Nat) (v : List Nat) (n : Nat) : Cl W k [] v n = sh (gat W.pt (An W [] v)) n + clo W k v n := by
  cases v <;> rfl
def g1 (W : Wd) (x : Nat) (v : List Nat) : Ser := fun n => (if x ∈ OPN then Cl W (oth x) [] v n else 0) + sh (gat W.tn (bS (OPN.filter (· ≠ x)) fun o => Cl W (oth o) [] v)) n
def g2 (W : Wd) (v : List Nat) : Ser := sh (gat W.pt (bS OPN fun o => Cl W (oth o) [] v))
theorem bS_filter {f : Nat → Ser} {n : Nat} (p : Nat → Bool) : ∀ {cs : List Nat}, (∀ c ∈ cs, p c = false → f c n = 0) → bS cs f n = bS (cs.filter p) f n
  | [], _ => rfl
  | c :: cs, h => by
    have ih := bS_filter p (cs := cs) fun d hd => h d (List.mem_cons_of_mem _ hd)
    have e1 : ∀ ds, bS (c :: ds) f n = f c n + bS ds f n := fun ds => rfl
    cases hc : p c with
    | true => rw [List.filter_cons_of_pos hc, e1, e1, ih]
    | false => rw [List.filter_cons_of_neg (by rw [hc]; exact Bool.false_ne_true), e1, h c List.mem_cons_self hc, Nat.zero_add, ih]
theorem brk_opn : BRK.filter (fun c => decide (c ∈ OPN)) = OPN := by decide
theorem bS_congr {f g : Nat → Ser} {n : Nat} {cs : List Nat} (h : ∀ c ∈ cs, f c n = g c n) : bS cs f n = bS cs g n := by
  unfold bS
  congr 1
  exact List.map_congr_left h
theorem ret_one {o : Nat} (ho : o ∈ OPN) (r : List Nat) (n : Nat) : An W [oth o] r n = SP (An W []) (Cl W (oth o) []) r n := first_ret (oth_clo o ho) [] _ n r [] (Nat.le_refl _)
theorem oA_opn {r : List Nat} {n c : Nat} (hc : c ∈ OPN) : oA (fun s => An W s r) (stp (some []) c) n = SP (An W []) (Cl W (oth c) []) r n := by
  rw [stp_opn hc]
  exact ret_one hc r n
theorem oA_clo {r : List Nat} {n c : Nat} (hc : c ∈ BRK) (h : c ∉ OPN) : oA (fun s => An W s r) (stp (some []) c) n = 0 := by
  have : stp (some []) c = none := by
    unfold stp
    dsimp only
    rw [if_neg h, if_pos ((brk_or.mp hc).resolve_left h)]
  rw [this]
  rfl
theorem pA_g2 (r : List Nat) (n : Nat) : pA W [] r n = SP (An W []) (g2 W) r n := by
  unfold pA g2
  rw [SP_shR]
  cases n with
  | zero => rfl
  | succ n =>
    show gat W.pt _ n = SP _ (fun v => gat W.pt _) r n
    rw [SP_gatR]
    unfold gat
    by_cases h : W.pt = true
    · rw [if_pos h, if_pos h, SP_bSR OPN _ (fun o v => Cl W (oth o) [] v), bS_filter (fun c => decide (c ∈ OPN)) (fun c hc hp => oA_clo hc (by simpa using hp)), brk_opn]
      exact bS_congr fun c hc => oA_opn hc
    · rw [if_neg h, if_neg h]
theorem An_first {x : Nat} (hx : x ∈ BRK) (r : List Nat) (n : Nat) : An W [] (x :: r) n = SP (An W []) (g2 W) (x :: r) n + (sh (gat W.st (An W [] r)) n + SP (An W []) (g1 W x) r n) := by
  rw [An_brk hx, pA_g2]
  congr 1
  have e1 : SP (An W []) (g1 W x) r n = (if x ∈ OPN then SP (An W []) (Cl W (oth x) []) r n else 0) + sh (gat W.tn (bS (OPN.filter (· ≠ x)) fun o => SP (An W []) (Cl W (oth o) []) r)) n := by
    unfold g1
    rw [SP_addR (An W []) (fun v n => if x ∈ OPN then Cl W (oth x) [] v n else 0) (fun v => sh (gat W.tn (bS (OPN.filter (· ≠ x)) fun o => Cl W (oth o) [] v)))]
    congr 1
    · by_cases h : x ∈ OPN
      · simp only [if_pos h]
      · simp only [if_neg h]; exact SP_zeroR _ r n
    · rw [SP_shR]
      cases n with
      | zero => rfl
      | succ n =>
        show SP _ (fun v => gat W.tn _) r n = gat W.tn _ n
        rw [SP_gatR]
        unfold gat
        by_cases h : W.tn = true
        · rw [if_pos h, if_pos h, SP_bSR _ _ (fun o v => Cl W (oth o) [] v)]
        · rw [if_neg h, if_neg h]
  have e2 : oA (fun s => An W s r) (stp (some []) x) n = if x ∈ OPN then SP (An W []) (Cl W (oth x) []) r n else 0 := by
    by_cases h : x ∈ OPN
    · rw [if_pos h, oA_opn h]
    · rw [if_neg h, oA_clo hx h]
  have e3 : tA W [] x r n = sh (gat W.st (An W [] r)) n + sh (gat W.tn (bS (OPN.filter (· ≠ x)) fun o => SP (An W []) (Cl W (oth o) []) r)) n := by
    unfold tA
    cases n with
    | zero => rfl
    | succ n =>
      show _ + _ = gat W.st _ n + gat W.tn _ n
      congr 1
      unfold gat
      by_cases h : W.tn = true
      · rw [if_pos h, if_pos h, bS_filter (fun c => decide (c ∈ OPN)) (fun c hc hp => oA_clo (List.mem_filter.mp hc).1 (by simpa using hp)), List.filter_filter, show (fun a => decide (a ∈ OPN) && decide (a ≠ x)) = fun a => decide (a ≠ x) && decide (a ∈ OPN) from funext fun a => Bool.and_comm _ _, ← List.filter_filter, brk_opn]
        exact bS_congr fun c hc => oA_opn (List.mem_filter.mp hc).1
      · rw [if_neg h, if_neg h]
  rw [e1, e2, e3]
  omega
theorem An_firstL {x : Nat} (hx : x ∉ BRK) (r : List Nat) (n : Nat) : An W [] (x :: r) n = SP (An W []) (g2 W) (x :: r) n + An W [] r n := by
  rw [An_let hx, pA_g2]
/-! the least ones -/
def g2m (W : Wd) (v : List Nat) : Ser := fun n => match v with
  | [] => 0
  | d :: v => if d ∈ CLO then sh (gat W.pt (An W [] v)) n else 0
def g1o (W : Wd) (x : Nat) (v : List Nat) : Ser := fun n => if x ∈ OPN then sh (gat W.pt (An W [] v)) n else 0
def g1p (W : Wd) (x : Nat) (v : List Nat) : Ser := fun n => match v with
  | [] => 0
  | d :: v => if d ∈ BRK ∧ ((few x d).1 = 0 ∨ W.tn = true) then cv (mS (few x d)) (An W [] v) n else 0
theorem sum_if (cs : List Nat) (d A C : Nat) : (cs.map fun o => if d = oth o then A else C).sum = cs.countP (fun o => decide (d = oth o)) * A + (cs.length - cs.countP (fun o => decide (d = oth o))) * C := by
  induction cs with
  | nil => simp
  | cons c cs ih =>
    have hle := List.countP_le_length (p := fun o => decide (d = oth o)) (l := cs)
    rw [List.map_cons, List.sum_cons, ih, List.length_cons, List.countP_cons]
    by_cases h : d = oth c
    · rw [if_pos h, if_pos (by simpa using h), Nat.add_mul, show cs.length + 1 - (cs.countP (fun o => decide (d = oth o)) + 1) = cs.length - cs.countP (fun o => decide (d = oth o)) by omega]
      omega
    · rw [if_neg h, if_neg (by simpa using h), Nat.add_zero, show cs.length + 1 - cs.countP (fun o => decide (d = oth o)) = (cs.length - cs.countP (fun o => decide (d = oth o))) + 1 by omega, Nat.add_mul _ 1 C]
      omega
theorem sum_add (cs : List Nat) (A : Nat) (f : Nat → Nat) : (cs.map fun o => A + f o).sum = cs.length * A + (cs.map f).sum := by
  induction cs with
  | nil => simp
  | cons c cs ih => rw [List.map_cons, List.sum_cons, ih, List.length_cons, List.map_cons, List.sum_cons, Nat.add_mul]; omega
theorem bS_Cl (cs : List Nat) (v : List Nat) (n : Nat) : bS cs (fun o => Cl W (oth o) [] v) n = cs.length * sh (gat W.pt (An W [] v)) n + (cs.map fun o => clo W (oth o) v n).sum := by
  rw [← sum_add]
  exact bS_congr (g := fun o n => sh (gat W.pt (An W [] v)) n + clo W (oth o) v n) fun c _ => Cl_eq _ v n
theorem clo_sum (cs : List Nat) (d : Nat) (hd : d ∈ BRK) (v : List Nat) (n : Nat) : (cs.map fun o => clo W (oth o) (d :: v) n).sum = cs.countP (fun o => decide (d = oth o)) * An W [] v n + (cs.length - cs.countP (fun o => decide (d = oth o))) * sh (gat W.tn (An W [] v)) n := by
  rw [← sum_if]
  congr 1
  refine List.map_congr_left fun o _ => ?_
  show (if d ∈ BRK then (if d = oth o then An W [] v n else sh (gat W.tn (An W [] v)) n) else 0) = _
  rw [if_pos hd]
theorem clo_not (cs : List Nat) (v : List Nat) (n : Nat) (h : ∀ d w, v = d :: w → d ∉ BRK) : (cs.map fun o => clo W (oth o) v n).sum = 0 := by
  have : ∀ o, clo W (oth o) v n = 0 := fun o => by
    cases v with
    | nil => rfl
    | cons d w => exact if_neg (h d w rfl)
  rw [show (fun o => clo W (oth o) v n) = fun _ => 0 from funext this]
  clear this h
  induction cs with
  | nil => rfl
  | cons c cs ih => rw [List.map_cons, List.sum_cons, ih]
theorem sh_succ (f : Ser) (n : Nat) : sh f (n + 1) = f n := rfl
theorem sh_pos {f : Ser} {n : Nat} (h : sh f n ≠ 0) : ∃ m, n = m + 1 ∧ f m ≠ 0 := by
  cases n with
  | zero => exact absurd rfl h
  | succ m => exact ⟨m, rfl, h⟩
theorem gat_pos {b : Bool} {f : Ser} {n : Nat} (h : gat b f n ≠ 0) : b = true ∧ f n ≠ 0 := by
  unfold gat at h
  by_cases hb : b = true
  · rw [if_pos hb] at h; exact ⟨hb, h⟩
  · rw [if_neg hb] at h; exact absurd rfl h
theorem cnt_opn1 : ∀ d ∈ BRK, OPN.countP (fun o => decide (d = oth o)) = if d ∈ CLO then 1 else 0 := by decide
theorem opn_len : OPN.length = 4 := rfl
/-- what is put first, and not with a sign of the text: there is less -/
theorem g2_both (v : List Nat) (n : Nat) : g2m W v n ≤ g2 W v n ∧ (g2m W v n < g2 W v n → W.pt = true ∧ ((∃ m, n = m + 2 ∧ An W [] v m ≠ 0) ∨ ∃ d w m, v = d :: w ∧ d ∈ BRK ∧ n = m + 2 ∧ An W [] w m ≠ 0)) := by
  by_cases hp : W.pt = true
  · cases n with
    | zero =>
      have e : g2m W v 0 = 0 := by
        cases v with
        | nil => rfl
        | cons d w => show (if d ∈ CLO then 0 else 0) = 0; split <;> rfl
      rw [e]
      exact ⟨Nat.zero_le _, fun h => absurd h (by show ¬ 0 < 0; omega)⟩
    | succ n =>
      have e : g2 W v (n + 1) = 4 * sh (gat W.pt (An W [] v)) n + (OPN.map fun o => clo W (oth o) v n).sum := by
        show gat W.pt _ n = _
        unfold gat
        rw [if_pos hp, ← opn_len]
        exact bS_Cl OPN v n
      have key1 : sh (gat W.pt (An W [] v)) n ≠ 0 → ∃ m, n + 1 = m + 2 ∧ An W [] v m ≠ 0 := fun h => by
        obtain ⟨m, rfl, hm⟩ := sh_pos h
        exact ⟨m, rfl, (gat_pos hm).2⟩
      rw [e]
      cases v with
      | nil =>
        rw [clo_not OPN [] n (fun d w h => by cases h)]
        refine ⟨Nat.zero_le _, fun h => ⟨hp, .inl (key1 ?_)⟩⟩
        have : 0 < 4 * sh (gat W.pt (An W [] [])) n + 0 := h
        omega
      | cons d w =>
        by_cases hd : d ∈ BRK
        · rw [clo_sum OPN d hd, cnt_opn1 d hd, opn_len]
          have key2 : sh (gat W.tn (An W [] w)) n ≠ 0 → ∃ d' w' m, d :: w = d' :: w' ∧ d' ∈ BRK ∧ n + 1 = m + 2 ∧ An W [] w' m ≠ 0 := fun h => by
            obtain ⟨m, rfl, hm⟩ := sh_pos h
            exact ⟨d, w, m, rfl, hd, rfl, (gat_pos hm).2⟩
          by_cases hc : d ∈ CLO
          · have em : g2m W (d :: w) (n + 1) = An W [] w n := by
              show (if d ∈ CLO then gat W.pt (An W [] w) n else 0) = _
              unfold gat
              rw [if_pos hc, if_pos hp]
            rw [em, if_pos hc]
            refine ⟨by omega, fun h => ⟨hp, ?_⟩⟩
            by_cases h1 : sh (gat W.pt (An W [] (d :: w))) n = 0
            · exact .inr (key2 (by omega))
            · exact .inl (key1 h1)
          · have em : g2m W (d :: w) (n + 1) = 0 := if_neg hc
            rw [em, if_neg hc]
            refine ⟨Nat.zero_le _, fun h => ⟨hp, ?_⟩⟩
            by_cases h1 : sh (gat W.pt (An W [] (d :: w))) n = 0
            · exact .inr (key2 (by omega))
            · exact .inl (key1 h1)
        · rw [clo_not OPN (d :: w) n (fun d' w' e => by cases e; exact hd)]
          have em : g2m W (d :: w) (n + 1) = 0 := if_neg fun h => hd (brk_or.mpr (.inr h))
          rw [em]
          exact ⟨Nat.zero_le _, fun h => ⟨hp, .inl (key1 (by omega))⟩⟩
  · have e1 : g2 W v n = 0 := by
      cases n with
      | zero => rfl
      | succ n => exact if_neg hp
    have e2 : g2m W v n = 0 := by
      cases v with
      | nil => rfl
      | cons d w =>
        show (if d ∈ CLO then sh (gat W.pt (An W [] w)) n else 0) = 0
        cases n with
        | zero => show (if d ∈ CLO then 0 else 0) = 0; split <;> rfl
        | succ n => show (if d ∈ CLO then gat W.pt (An W [] w) n else 0) = 0; unfold gat; rw [if_neg hp]; split <;> rfl
    rw [e1, e2]
    exact ⟨Nat.le_refl _, fun h => absurd h (by omega)⟩
theorem g2_junk {v : List Nat} {b : Nat} (h : g2m W v b < g2 W v b) {u : List Nat} {a : Nat} (hu : An W [] u a ≠ 0) : ∃ m, m < a + b ∧ An W [] (u ++ v) m ≠ 0 := by
  obtain ⟨hp, ⟨m, rfl, hm⟩ | ⟨d, w, m, rfl, hd, rfl, hm⟩⟩ := (g2_both v b).2 h
  · exact ⟨a + m, by omega, An_app hu hm⟩
  · refine ⟨a + (1 + m), by omega, ?_⟩
    exact An_app hu (An_app (u := [d]) (An_one hp hd) hm)
/-! pairs -/
def n0 (x d : Nat) : Nat := if x ∈ OPN ∧ d = oth x then 1 else 0
def n1 (x d : Nat) : Nat := (if x ∈ OPN ∧ d ≠ oth x then 1 else 0) + (OPN.filter (· ≠ x)).countP (fun o => decide (d = oth o))
def n2 (x d : Nat) : Nat := (OPN.filter (· ≠ x)).length - (OPN.filter (· ≠ x)).countP (fun o => decide (d = oth o))
theorem few_n : ∀ x ∈ BRK, ∀ d ∈ BRK, (few x d = (0, 1) ∧ n0 x d = 1) ∨ (few x d = (1, n1 x d) ∧ n0 x d = 0) ∨ (few x d = (2, n2 x d) ∧ n0 x d = 0 ∧ n1 x d = 0) := by decide
/-- all ways to make two signs a pair -/
theorem pair_all {x d : Nat} (hd : d ∈ BRK) (v : List Nat) (n : Nat) :
    (if x ∈ OPN then clo W (oth x) (d :: v) n else 0) + sh (gat W.tn (fun n => ((OPN.filter (· ≠ x)).map fun o => clo W (oth o) (d :: v) n).sum)) n
      = n0 x d * An W [] v n + (n1 x d * sh (gat W.tn (An W [] v)) n + n2 x d * sh (sh (gat W.tn (An W [] v))) n) := by
  have e1 : (if x ∈ OPN then clo W (oth x) (d :: v) n else 0) = n0 x d * An W [] v n + (if x ∈ OPN ∧ d ≠ oth x then 1 else 0) * sh (gat W.tn (An W [] v)) n := by
    unfold n0
    by_cases hx : x ∈ OPN
    · rw [if_pos hx]
      show (if d ∈ BRK then (if d = oth x then An W [] v n else sh (gat W.tn (An W [] v)) n) else 0) = _
      rw [if_pos hd]
      by_cases e : d = oth x
      · rw [if_pos e, if_pos ⟨hx, e⟩, if_neg (fun h => h.2 e), Nat.one_mul, Nat.zero_mul]; rfl
      · rw [if_neg e, if_neg (fun h => e h.2), if_pos ⟨hx, e⟩, Nat.one_mul, Nat.zero_mul, Nat.zero_add]
    · rw [if_neg hx, if_neg (fun h => hx h.1), if_neg (fun h => hx h.1), Nat.zero_mul, Nat.zero_mul]
  have e2 : sh (gat W.tn (fun n => ((OPN.filter (· ≠ x)).map fun o => clo W (oth o) (d :: v) n).sum)) n = (OPN.filter (· ≠ x)).countP (fun o => decide (d = oth o)) * sh (gat W.tn (An W [] v)) n + n2 x d * sh (sh (gat W.tn (An W [] v))) n := by
    cases n with
    | zero => rfl
    | succ n =>
      rw [sh_succ, sh_succ, sh_succ]
      unfold gat
      by_cases ht : W.tn = true
      · rw [if_pos ht, if_pos ht]
        refine (clo_sum _ d hd v n).trans ?_
        unfold n2 gat
        rfl
      · rw [if_neg ht, if_neg ht]
        cases n with
        | zero => rfl
        | succ n => show 0 = _ * 0 + _ * (if W.tn = true then _ else 0); rw [if_neg ht, Nat.mul_zero, Nat.mul_zero]
  rw [e1, e2]
  unfold n1
  rw [Nat.add_mul]
  omega
theorem pair_both {x d : Nat} (hx : x ∈ BRK) (hd : d ∈ BRK) (v : List Nat) (n : Nat) : g1p W x (d :: v) n ≤ n0 x d * An W [] v n + (n1 x d * sh (gat W.tn (An W [] v)) n + n2 x d * sh (sh (gat W.tn (An W [] v))) n) ∧
    (g1p W x (d :: v) n < n0 x d * An W [] v n + (n1 x d * sh (gat W.tn (An W [] v)) n + n2 x d * sh (sh (gat W.tn (An W [] v))) n) → W.tn = true ∧ ∃ q m, (few x d).1 < q ∧ n = m + q ∧ An W [] v m ≠ 0) := by
  have eg : g1p W x (d :: v) n = if d ∈ BRK ∧ ((few x d).1 = 0 ∨ W.tn = true) then cv (mS (few x d)) (An W [] v) n else 0 := rfl
  rw [eg]
  by_cases ht : W.tn = true
  · rw [if_pos ⟨hd, .inr ht⟩]
    have eG : gat W.tn (An W [] v) = An W [] v := by rw [ht]; rfl
    rw [eG]
    have k1 : ∀ q, 1 < q → True := fun _ _ => trivial
    have s1 : sh (An W [] v) n ≠ 0 → ∃ m, n = m + 1 ∧ An W [] v m ≠ 0 := sh_pos
    have s2 : sh (sh (An W [] v)) n ≠ 0 → ∃ m, n = m + 2 ∧ An W [] v m ≠ 0 := fun h => by
      obtain ⟨m, rfl, hm⟩ := sh_pos h
      obtain ⟨k, rfl, hk⟩ := sh_pos hm
      exact ⟨k, rfl, hk⟩
    rcases few_n x hx d hd with ⟨ef, e0⟩ | ⟨ef, e0⟩ | ⟨ef, e0, e1⟩
    · rw [ef, cv_mS, if_pos (Nat.zero_le _), e0, Nat.sub_zero]
      refine ⟨by omega, fun h => ⟨ht, ?_⟩⟩
      by_cases z1 : sh (An W [] v) n = 0
      · rw [z1] at h
        have : sh (sh (An W [] v)) n ≠ 0 := fun z2 => by rw [z2] at h; omega
        obtain ⟨m, e, hm⟩ := s2 this
        exact ⟨2, m, by decide, e, hm⟩
      · obtain ⟨m, e, hm⟩ := s1 z1
        exact ⟨1, m, by decide, e, hm⟩
    · have em : cv (mS (1, n1 x d)) (An W [] v) n = n1 x d * sh (An W [] v) n := by
        rw [cv_mS]
        cases n with
        | zero => rfl
        | succ n => rw [if_pos (by omega)]; rfl
      rw [ef, em, e0]
      refine ⟨by omega, fun h => ⟨ht, ?_⟩⟩
      have : sh (sh (An W [] v)) n ≠ 0 := fun z2 => by rw [z2] at h; omega
      obtain ⟨m, e, hm⟩ := s2 this
      exact ⟨2, m, by show 1 < 2; decide, e, hm⟩
    · have em : cv (mS (2, n2 x d)) (An W [] v) n = n2 x d * sh (sh (An W [] v)) n := by
        rw [cv_mS]
        cases n with
        | zero => rfl
        | succ n =>
          cases n with
          | zero => rfl
          | succ n => rw [if_pos (by omega)]; rfl
      rw [ef, em, e0, e1]
      exact ⟨by omega, fun h => absurd h (by omega)⟩
  · have z1 : sh (gat W.tn (An W [] v)) n = 0 := by
      cases n with
      | zero => rfl
      | succ n => exact if_neg ht
    have z2 : sh (sh (gat W.tn (An W [] v))) n = 0 := by
      cases n with
      | zero => rfl
      | succ n =>
        cases n with
        | zero => rfl
        | succ n => exact if_neg ht
    rw [z1, z2]
    rcases few_n x hx d hd with ⟨ef, e0⟩ | ⟨ef, e0⟩ | ⟨ef, e0, e1⟩
    · rw [ef, if_pos ⟨hd, .inl rfl⟩, cv_mS, if_pos (Nat.zero_le _), e0, Nat.sub_zero]
      exact ⟨by omega, fun h => absurd h (by omega)⟩
    · rw [ef, if_neg (fun h => h.2.elim (fun q => absurd (show (1 : Nat) = 0 from q) (by decide)) ht)]
      rw [e0]
      exact ⟨Nat.zero_le _, fun h => absurd h (by omega)⟩
    · rw [ef, if_neg (fun h => h.2.elim (fun q => absurd (show (2 : Nat) = 0 from q) (by decide)) ht)]
      rw [e0]
      exact ⟨Nat.zero_le _, fun h => absurd h (by omega)⟩
/-- g1 by its parts -/
theorem g1_parts (x : Nat) (v : List Nat) (n : Nat) : g1 W x v n = g1o W x v n + ((OPN.filter (· ≠ x)).length * sh (gat W.tn (sh (gat W.pt (An W [] v)))) n + ((if x ∈ OPN then clo W (oth x) v n else 0) + sh (gat W.tn (fun n => ((OPN.filter (· ≠ x)).map fun o => clo W (oth o) v n).sum)) n)) := by
  unfold g1 g1o
  have e1 : (if x ∈ OPN then Cl W (oth x) [] v n else 0) = (if x ∈ OPN then sh (gat W.pt (An W [] v)) n else 0) + (if x ∈ OPN then clo W (oth x) v n else 0) := by
    by_cases h : x ∈ OPN
    · rw [if_pos h, if_pos h, if_pos h, Cl_eq]
    · rw [if_neg h, if_neg h, if_neg h]
  have e2 : sh (gat W.tn (bS (OPN.filter (· ≠ x)) fun o => Cl W (oth o) [] v)) n = (OPN.filter (· ≠ x)).length * sh (gat W.tn (sh (gat W.pt (An W [] v)))) n + sh (gat W.tn (fun n => ((OPN.filter (· ≠ x)).map fun o => clo W (oth o) v n).sum)) n := by
    cases n with
    | zero => rfl
    | succ n =>
      rw [sh_succ, sh_succ, sh_succ]
      unfold gat
      by_cases ht : W.tn = true
      · rw [if_pos ht, if_pos ht, if_pos ht]
        exact bS_Cl _ v n
      · rw [if_neg ht, if_neg ht, if_neg ht, Nat.mul_zero]
  rw [e1, e2]
  omega
theorem g1_both {x : Nat} (hx : x ∈ BRK) (v : List Nat) (n : Nat) : g1o W x v n + g1p W x v n ≤ g1 W x v n ∧ (g1o W x v n + g1p W x v n < g1 W x v n → (W.pt = true ∧ ∃ m, n = m + 2 ∧ An W [] v m ≠ 0) ∨ ∃ d w q m, v = d :: w ∧ d ∈ BRK ∧ W.tn = true ∧ (few x d).1 < q ∧ n = m + q ∧ An W [] w m ≠ 0) := by
  rw [g1_parts]
  have key1 : sh (gat W.tn (sh (gat W.pt (An W [] v)))) n ≠ 0 → W.pt = true ∧ ∃ m, n = m + 2 ∧ An W [] v m ≠ 0 := fun h => by
    obtain ⟨m, rfl, hm⟩ := sh_pos h
    obtain ⟨k, rfl, hk⟩ := sh_pos (gat_pos hm).2
    exact ⟨(gat_pos hk).1, k, rfl, (gat_pos hk).2⟩
  have zero : (∀ d w, v = d :: w → d ∉ BRK) → ((if x ∈ OPN then clo W (oth x) v n else 0) + sh (gat W.tn (fun n => ((OPN.filter (· ≠ x)).map fun o => clo W (oth o) v n).sum)) n = 0 ∧ g1p W x v n = 0) := fun h => by
    have a1 : clo W (oth x) v n = 0 := by
      cases v with
      | nil => rfl
      | cons d w => exact if_neg (h d w rfl)
    have a2 : sh (gat W.tn (fun n => ((OPN.filter (· ≠ x)).map fun o => clo W (oth o) v n).sum)) n = 0 := by
      cases n with
      | zero => rfl
      | succ n =>
        rw [sh_succ]
        unfold gat
        dsimp only
        rw [clo_not _ v n h]
        split <;> rfl
    have a3 : g1p W x v n = 0 := by
      cases v with
      | nil => rfl
      | cons d w => exact if_neg fun q => h d w rfl q.1
    rw [a1, a2, a3]
    exact ⟨by split <;> rfl, rfl⟩
  have fin : ∀ {A : Nat}, g1p W x v n ≤ A → (g1p W x v n < A → ∃ d w q m, v = d :: w ∧ d ∈ BRK ∧ W.tn = true ∧ (few x d).1 < q ∧ n = m + q ∧ An W [] w m ≠ 0) → g1o W x v n + g1p W x v n ≤ g1o W x v n + ((OPN.filter (· ≠ x)).length * sh (gat W.tn (sh (gat W.pt (An W [] v)))) n + A) ∧ (g1o W x v n + g1p W x v n < g1o W x v n + ((OPN.filter (· ≠ x)).length * sh (gat W.tn (sh (gat W.pt (An W [] v)))) n + A) → (W.pt = true ∧ ∃ m, n = m + 2 ∧ An W [] v m ≠ 0) ∨ ∃ d w q m, v = d :: w ∧ d ∈ BRK ∧ W.tn = true ∧ (few x d).1 < q ∧ n = m + q ∧ An W [] w m ≠ 0) := fun h1 h2 => by
    refine ⟨by omega, fun h => ?_⟩
    by_cases z : sh (gat W.tn (sh (gat W.pt (An W [] v)))) n = 0
    · rw [z] at h
      exact .inr (h2 (by omega))
    · exact .inl (key1 z)
  by_cases hv : ∃ d w, v = d :: w ∧ d ∈ BRK
  · obtain ⟨d, w, rfl, hd⟩ := hv
    rw [pair_all hd]
    obtain ⟨p1, p2⟩ := pair_both (W := W) hx hd w n
    refine fin p1 fun h => ?_
    obtain ⟨ht, q, m, h1, h2, h3⟩ := p2 h
    exact ⟨d, w, q, m, rfl, hd, ht, h1, h2, h3⟩
  · obtain ⟨z1, z2⟩ := zero fun d w e hd => hv ⟨d, w, e, hd⟩
    rw [z1]
    refine fin (by rw [z2]; exact Nat.le_refl _) fun h => ?_
    rw [z2] at h
    exact absurd h (by omega)
theorem g1_junk {x : Nat} (hx : x ∈ BRK) {v : List Nat} {b : Nat} (h : g1o W x v b + g1p W x v b < g1 W x v b) {u : List Nat} {a : Nat} (hu : An W [] u a ≠ 0) : ∃ m, m < a + b ∧ An W [] (x :: (u ++ v)) m ≠ 0 := by
  rcases (g1_both hx v b).2 h with ⟨hp, m, rfl, hm⟩ | ⟨d, w, q, m, rfl, hd, ht, hq, rfl, hm⟩
  · refine ⟨1 + (a + m), by omega, ?_⟩
    exact An_app (u := [x]) (An_one hp hx) (An_app hu hm)
  · refine ⟨a + (few x d).1 + m, by omega, ?_⟩
    have := An_app (An_pair hx hd (.inr ht) hu) hm
    rw [show x :: (u ++ [d]) ++ w = x :: (u ++ d :: w) by simp] at this
    exact this
end
end Ly

set_option maxHeartbeats 4000000
namespace Ly
/-! ### the table's numbers are the least ones, with how many -/
theorem Ld_SPz : ∀ {r : List Nat} {f g : List Nat → Ser} {Z : Nat → MC}, (∀ t, t ≤ r.length → Ld (cv (f (r.take t)) (g (r.drop t))) (Z t)) → Ld (SP f g r) (sm Z (r.length + 1))
  | [], f, g, Z, h => h 0 (Nat.le_refl _)
  | x :: r, f, g, Z, h => by
    rw [sm_head]
    refine Ld_add (h 0 (Nat.zero_le _)) ?_
    exact Ld_SPz (f := fun u => f (x :: u)) (Z := fun k => Z (k + 1)) (fun t ht => h (t + 1) (by rw [List.length_cons]; omega))
theorem seg_take {l : List Nat} {i j t : Nat} (h : i + t ≤ j) (hj : j ≤ l.length) : (seg l i j).take t = seg l i (i + t) := by
  rw [seg_app (b := i + t) (by omega) h (by omega), List.take_left' (by rw [seg_len (by omega)]; omega)]
theorem seg_dropT {l : List Nat} {i j t : Nat} (h : i + t ≤ j) (hj : j ≤ l.length) : (seg l i j).drop t = seg l (i + t) j := by
  rw [seg_app (b := i + t) (by omega) h (by omega), List.drop_left' (by rw [seg_len (by omega)]; omega)]
theorem Ld_seg {l : List Nat} {i j : Nat} {f g : List Nat → Ser} {Z : Nat → MC} (hij : i ≤ j) (hj : j ≤ l.length) (h : ∀ t, i + t ≤ j → Ld (cv (f (seg l i (i + t))) (g (seg l (i + t) j))) (Z t)) : Ld (SP f g (seg l i j)) (sm Z (j - i + 1)) := by
  have e : (seg l i j).length = j - i := seg_len hj
  rw [← e]
  refine Ld_SPz fun t ht => ?_
  rw [e] at ht
  rw [seg_take (by omega) hj, seg_dropT (by omega) hj]
  exact h t (by omega)
theorem mMul_left (x y z : MC) : mMul x (mMul y z) = m3 y x z := by
  unfold m3
  rw [← mMul_assoc, mMul_comm x y]
theorem few_pos : ∀ x ∈ BRK, ∀ d ∈ BRK, (few x d).2 ≠ 0 := by decide
theorem Ld_mc {l : List Nat} {W : Wd} : ∀ (N i j : Nat), j - i ≤ N → i ≤ j → j ≤ l.length → Ld (An W [] (seg l i j)) (mcN l W i j) := by
  intro N
  induction N with
  | zero =>
    intro i j h1 h2 h3
    have e : i = j := by omega
    subst e
    rw [seg_self, mcN_self]
    have hz : ∀ n, g2m W [] n = 0 := fun n => rfl
    have hn : ∀ n, An W [] [] n = SP (An W []) (g2 W) [] n + (if n = 0 then 1 else 0) := fun n => by
      rw [An_nil, pA_g2]
      congr 1
      simp
    have hm : ∀ n, SP (An W []) (g2m W) [] n = 0 := fun n => cv_noneR hz n
    refine Ld_junk (g := fun n => SP (An W []) (g2m W) [] n + (if n = 0 then 1 else 0)) ?_ (fun n => ?_) (fun n hl => ?_)
    · exact ⟨by show SP (An W []) (g2m W) [] 0 + 1 = 1; rw [hm], by decide, fun a ha => absurd ha (by show ¬ a < 0; omega)⟩
    · rw [hn]
      exact Nat.add_le_add_right (SP_le (fun v b => (g2_both v b).1)) _
    · rw [hn] at hl
      obtain ⟨u, v, a, b, e1, e2, ha, hb⟩ := SP_lt (fun v b => (g2_both (W := W) v b).1) (show SP (An W []) (g2m W) [] n < SP (An W []) (g2 W) [] n by omega)
      obtain ⟨m, hm, hA⟩ := g2_junk hb ha
      rw [e1] at hA
      exact ⟨m, by omega, hA⟩
  | succ N ihN =>
    intro i j h1 h2 h3
    by_cases hij : i = j
    · exact ihN i j (by omega) h2 h3
    have ih : ∀ a b, i ≤ a → a ≤ b → b ≤ j → b - a < j - i → Ld (An W [] (seg l a b)) (mcN l W a b) := fun a b k1 k2 k3 k4 => ihN a b (by omega) k2 (by omega)
    obtain ⟨x, hx⟩ : ∃ x, l[i]? = some x := ⟨_, List.getElem?_eq_getElem (by omega)⟩
    have es : seg l i j = x :: seg l (i + 1) j := seg_cons hx (by omega) h3
    have hat : ∀ t, i + t < j → ∃ d, l[i + t]? = some d ∧ seg l (i + t) j = d :: seg l (i + t + 1) j := fun t ht => by
      have e : l[i + t]? = some l[i + t] := List.getElem?_eq_getElem (by omega)
      exact ⟨_, e, seg_cons e ht h3⟩
    -- put first, closed by the text's own
    have L2 : Ld (SP (An W []) (g2m W) (seg l i j)) (sm (fun t => m3 (clM l W (i + t)) (mcN l W i (i + t)) (mcN l W (i + t + 1) j)) (j - i)) := by
      have := Ld_seg (f := An W []) (g := g2m W) (Z := fun t => if i + t < j then m3 (clM l W (i + t)) (mcN l W i (i + t)) (mcN l W (i + t + 1) j) else none) h2 h3 (fun t ht => by
        by_cases hlt : i + t < j
        · rw [if_pos hlt]
          obtain ⟨d, hd, ed⟩ := hat t hlt
          rw [ed, ← mMul_left]
          refine Ld_cv (ih i (i + t) (Nat.le_refl _) (by omega) ht (by omega)) ?_
          have hL : Ld (g2m W (d :: seg l (i + t + 1) j)) (mMul (clM l W (i + t)) (mcN l W (i + t + 1) j)) := by
            unfold clM
            rw [hd]
            dsimp only
            by_cases hc : d ∈ CLO
            · have e1 : g2m W (d :: seg l (i + t + 1) j) = sh (gat W.pt (An W [] (seg l (i + t + 1) j))) := funext fun n => if_pos hc
              rw [e1]
              have := Ld_sh (Ld_gat (b := W.pt) (ih (i + t + 1) j (by omega) (by omega) (Nat.le_refl _) (by omega)))
              by_cases hp : W.pt = true
              · rw [if_pos hp] at this
                rw [if_pos ⟨hc, hp⟩]
                exact this
              · rw [if_neg hp, mMul_none] at this
                rw [if_neg fun q => hp q.2]
                exact this
            · have e1 : g2m W (d :: seg l (i + t + 1) j) = fun _ => 0 := funext fun n => if_neg hc
              rw [e1, if_neg fun q => hc q.1]
              exact Ld_zero
          exact hL
        · rw [if_neg hlt]
          have e : i + t = j := by omega
          rw [e, seg_self]
          exact fun n => cv_noneR (fun _ => rfl) n)
      rw [sm, if_neg (by omega), mAdd_none] at this
      rw [sm_congr (g := fun t => if i + t < j then m3 (clM l W (i + t)) (mcN l W i (i + t)) (mcN l W (i + t + 1) j) else none) fun t ht => by rw [if_pos (by omega)]]
      exact this
    have junk2 : ∀ n, SP (An W []) (g2m W) (seg l i j) n < SP (An W []) (g2 W) (seg l i j) n → ∃ m, m < n ∧ An W [] (seg l i j) m ≠ 0 := fun n hl => by
      obtain ⟨u, v, a, b, e1, e2, ha, hb⟩ := SP_lt (fun v b => (g2_both (W := W) v b).1) hl
      obtain ⟨m, hm, hA⟩ := g2_junk hb ha
      rw [e1] at hA
      exact ⟨m, by omega, hA⟩
    have le2 : ∀ n, SP (An W []) (g2m W) (seg l i j) n ≤ SP (An W []) (g2 W) (seg l i j) n := fun n => SP_le (fun v b => (g2_both v b).1)
    rw [mcN_step (by omega)]
    unfold stM
    have ihr := ih (i + 1) j (by omega) (by omega) (Nat.le_refl _) (by omega)
    by_cases hb : x ∈ BRK
    · -- a bracket
      have Lsg : Ld (sh (gat W.st (An W [] (seg l (i + 1) j)))) (mMul (sgM l W i) (mcN l W (i + 1) j)) := by
        unfold sgM
        rw [hx]
        dsimp only
        rw [if_pos hb]
        have := Ld_sh (Ld_gat (b := W.st) ihr)
        by_cases hp : W.st = true
        · rw [if_pos hp] at this
          rw [if_pos hp]
          exact this
        · rw [if_neg hp, mMul_none] at this
          rw [if_neg hp]
          exact this
      have Lop : Ld (SP (An W []) (g1o W x) (seg l (i + 1) j)) (sm (fun t => m3 (opM l W i) (mcN l W (i + 1) (i + 1 + t)) (mcN l W (i + 1 + t) j)) (j - i)) := by
        have := Ld_seg (f := An W []) (g := g1o W x) (Z := fun t => m3 (opM l W i) (mcN l W (i + 1) (i + 1 + t)) (mcN l W (i + 1 + t) j)) (show i + 1 ≤ j by omega) h3 (fun t ht => by
          rw [← mMul_left]
          refine Ld_cv (ih (i + 1) (i + 1 + t) (by omega) (by omega) ht (by omega)) ?_
          have hr := ih (i + 1 + t) j (by omega) (by omega) (Nat.le_refl _) (by omega)
          unfold opM
          rw [hx]
          dsimp only
          by_cases ho : x ∈ OPN
          · have e1 : g1o W x (seg l (i + 1 + t) j) = sh (gat W.pt (An W [] (seg l (i + 1 + t) j))) := funext fun n => if_pos ho
            rw [e1]
            have := Ld_sh (Ld_gat (b := W.pt) hr)
            by_cases hp : W.pt = true
            · rw [if_pos hp] at this
              rw [if_pos ⟨ho, hp⟩]
              exact this
            · rw [if_neg hp, mMul_none] at this
              rw [if_neg fun q => hp q.2]
              exact this
          · have e1 : g1o W x (seg l (i + 1 + t) j) = fun _ => 0 := funext fun n => if_neg ho
            rw [e1, if_neg fun q => ho q.1]
            exact Ld_zero)
        rw [show j - (i + 1) + 1 = j - i by omega] at this
        exact this
      have Lpr : Ld (SP (An W []) (g1p W x) (seg l (i + 1) j)) (sm (fun t => m3 (prM l W i (i + 1 + t)) (mcN l W (i + 1) (i + 1 + t)) (mcN l W (i + 1 + t + 1) j)) (j - i - 1)) := by
        have := Ld_seg (f := An W []) (g := g1p W x) (Z := fun t => if i + 1 + t < j then m3 (prM l W i (i + 1 + t)) (mcN l W (i + 1) (i + 1 + t)) (mcN l W (i + 1 + t + 1) j) else none) (show i + 1 ≤ j by omega) h3 (fun t ht => by
          by_cases hlt : i + 1 + t < j
          · rw [if_pos hlt]
            obtain ⟨d, hd, ed⟩ := hat (1 + t) (by omega)
            rw [show i + (1 + t) = i + 1 + t by omega] at hd ed
            rw [ed, ← mMul_left]
            refine Ld_cv (ih (i + 1) (i + 1 + t) (by omega) (by omega) ht (by omega)) ?_
            have hr := ih (i + 1 + t + 1) j (by omega) (by omega) (Nat.le_refl _) (by omega)
            unfold prM
            rw [hx, hd]
            dsimp only
            by_cases hg : d ∈ BRK ∧ ((few x d).1 = 0 ∨ W.tn = true)
            · have e1 : g1p W x (d :: seg l (i + 1 + t + 1) j) = cv (mS (few x d)) (An W [] (seg l (i + 1 + t + 1) j)) := funext fun n => if_pos hg
              rw [e1, if_pos ⟨hb, hg⟩]
              exact Ld_cv (Ld_mS (few_pos x hb d hg.1)) hr
            · have e1 : g1p W x (d :: seg l (i + 1 + t + 1) j) = fun _ => 0 := funext fun n => if_neg hg
              rw [e1, if_neg fun q => hg q.2]
              exact Ld_zero
          · rw [if_neg hlt]
            have e : i + 1 + t = j := by omega
            rw [e, seg_self]
            exact fun n => cv_noneR (fun _ => rfl) n)
        rw [sm, if_neg (by omega), mAdd_none] at this
        rw [show j - i - 1 = j - (i + 1) by omega, sm_congr (g := fun t => if i + 1 + t < j then m3 (prM l W i (i + 1 + t)) (mcN l W (i + 1) (i + 1 + t)) (mcN l W (i + 1 + t + 1) j) else none) fun t ht => by rw [if_pos (by omega)]]
        exact this
      have Lall := Ld_add Lsg (Ld_add Lpr (Ld_add Lop L2))
      refine Ld_junk Lall (fun n => ?_) (fun n hl => ?_)
      · have q1 := le2 n
        have q2 : SP (An W []) (g1o W x) (seg l (i + 1) j) n + SP (An W []) (g1p W x) (seg l (i + 1) j) n ≤ SP (An W []) (g1 W x) (seg l (i + 1) j) n := by
          rw [← SP_addR]
          exact SP_le (fun v b => (g1_both hb v b).1)
        have e : An W [] (seg l i j) n = SP (An W []) (g2 W) (seg l i j) n + (sh (gat W.st (An W [] (seg l (i + 1) j))) n + SP (An W []) (g1 W x) (seg l (i + 1) j) n) := by
          rw [es]; exact An_first hb _ n
        rw [e]
        omega
      · have e : An W [] (seg l i j) n = SP (An W []) (g2 W) (seg l i j) n + (sh (gat W.st (An W [] (seg l (i + 1) j))) n + SP (An W []) (g1 W x) (seg l (i + 1) j) n) := by
          rw [es]; exact An_first hb _ n
        rw [e] at hl
        by_cases hc : SP (An W []) (g2m W) (seg l i j) n < SP (An W []) (g2 W) (seg l i j) n
        · exact junk2 n hc
        · have q1 := le2 n
          have hl2 : SP (An W []) (fun v n => g1o W x v n + g1p W x v n) (seg l (i + 1) j) n < SP (An W []) (g1 W x) (seg l (i + 1) j) n := by
            rw [SP_addR]
            omega
          obtain ⟨u, v, a, b, e1, e2, ha, hbb⟩ := SP_lt (fun v b => (g1_both (W := W) hb v b).1) hl2
          obtain ⟨m, hm, hA⟩ := g1_junk hb hbb ha
          rw [e1, ← es] at hA
          exact ⟨m, by omega, hA⟩
    · -- a letter
      have n1 : ∀ m, prM l W i m = none := fun m => by
        unfold prM
        rw [hx]
        cases l[m]? with
        | none => rfl
        | some d => exact if_neg fun q => hb q.1
      have n2 : opM l W i = none := by
        unfold opM
        rw [hx]
        exact if_neg fun q => hb (brk_or.mpr (.inl q.1))
      have n3 : sgM l W i = mOne := by
        unfold sgM
        rw [hx]
        exact if_neg hb
      have z1 : sm (fun t => m3 (prM l W i (i + 1 + t)) (mcN l W (i + 1) (i + 1 + t)) (mcN l W (i + 1 + t + 1) j)) (j - i - 1) = none := by
        refine (sm_congr (g := fun _ => none) fun t _ => ?_).trans (sm_none _)
        rw [n1]
        rfl
      have z2 : sm (fun t => m3 (opM l W i) (mcN l W (i + 1) (i + 1 + t)) (mcN l W (i + 1 + t) j)) (j - i) = none := by
        refine (sm_congr (g := fun _ => none) fun t _ => ?_).trans (sm_none _)
        rw [n2]
        rfl
      rw [z1, z2, n3, mOne_mul, none_mAdd, none_mAdd]
      have e : ∀ n, An W [] (seg l i j) n = SP (An W []) (g2 W) (seg l i j) n + An W [] (seg l (i + 1) j) n := fun n => by
        rw [es]; exact An_firstL hb _ n
      refine Ld_junk (Ld_add ihr L2) (fun n => ?_) (fun n hl => ?_)
      · rw [e]
        have := le2 n
        omega
      · rw [e] at hl
        exact junk2 n (by omega)
theorem Ld_whole {W : Wd} (l : List Nat) : Ld (An W [] l) (mcN l W 0 l.length) := by
  have := Ld_mc (l := l) (W := W) _ 0 l.length (Nat.le_refl _) (Nat.zero_le _) (Nat.le_refl _)
  rw [seg_all] at this
  exact this
end Ly

set_option maxHeartbeats 4000000
namespace Ly
/-! ### with some brackets open: the least number from each place on -/
def clC (W : Wd) (l : List Nat) (k : Nat) (F : Nat → MC) (m : Nat) : MC := mAdd (if W.pt = true then mMul w1 (F m) else none) (match l[m]? with
  | none => none
  | some x => if x = k then F (m + 1) else if x ∈ BRK ∧ W.tn = true then mMul w1 (F (m + 1)) else none)
def LV (W : Wd) (l : List Nat) : List Nat → Nat → MC
  | [], i => mcN l W i l.length
  | k :: st, i => sm (fun t => mMul (mcN l W i (i + t)) (clC W l k (LV W l st) (i + t))) (l.length - i + 1)
theorem seg_end {l : List Nat} {i : Nat} : seg l i l.length = l.drop i := by unfold seg; rw [List.take_length]
/-! ### what can be done at a place, in order -/
def chS (W : Wd) (l : List Nat) (i : Nat) : List Stp := (if W.pt = true then BRK.map Stp.pt else []) ++ (match l[i]? with
  | none => []
  | some x => (if x ∈ BRK ∧ W.st = true then [Stp.st x] else []) ++ ((if x ∈ BRK ∧ W.tn = true then (BRK.filter (· ≠ x)).map (Stp.tn x) else []) ++ [Stp.kp x]))
def Stp.c : Stp → Nat
  | .kp _ => 0
  | _ => 1
/-- the pile behind a step -/
def nxS (st : List Nat) (s : Stp) : Option (List Nat) := s.o.foldl stp (some st)
def aftS (W : Wd) (st l : List Nat) (i n : Nat) (s : Stp) : List (List Stp) := if s.c ≤ n then (match nxS st s with | none => [] | some st' => rowsL W st' (l.drop (i + s.i.length)) (n - s.c)) else []
theorem flatMap_map' {α β γ : Type} (xs : List α) (f : α → β) (g : β → List γ) : (xs.map f).flatMap g = xs.flatMap fun x => g (f x) := by
  induction xs with
  | nil => rfl
  | cons x xs ih => rw [List.map_cons, List.flatMap_cons, List.flatMap_cons, ih]
theorem flatMap_nil' {α β : Type} (xs : List α) : xs.flatMap (fun _ => ([] : List β)) = [] := by
  induction xs with
  | nil => rfl
  | cons x xs ih => rw [List.flatMap_cons, ih]; rfl
theorem flatMap_congr' {α β : Type} {f g : α → List β} : ∀ {xs : List α}, (∀ x ∈ xs, f x = g x) → xs.flatMap f = xs.flatMap g
  | [], _ => rfl
  | x :: xs, h => by rw [List.flatMap_cons, List.flatMap_cons, h x List.mem_cons_self, flatMap_congr' (xs := xs) fun y hy => h y (List.mem_cons_of_mem _ hy)]
theorem rows_ch {W : Wd} {l : List Nat} {st : List Nat} {i n : Nat} (hi : i ≤ l.length) (h : ¬ (i = l.length ∧ st = [] ∧ n = 0)) : rowsL W st (l.drop i) n = (chS W l i).flatMap fun s => (aftS W st l i n s).map (s :: ·) := by
  rw [rowsL.eq_def]
  unfold chS
  rw [List.flatMap_append]
  congr 1
  · cases n with
    | zero =>
      by_cases hp : W.pt = true
      · rw [if_pos hp, flatMap_map']
        exact (flatMap_nil' BRK).symm
      · rw [if_neg hp]; rfl
    | succ n =>
      dsimp only
      by_cases hp : W.pt = true
      · rw [if_pos hp, if_pos hp, flatMap_map']
        refine flatMap_congr' fun c _ => ?_
        show _ = ((if 1 ≤ n + 1 then _ else []) : List (List Stp)).map _
        rw [if_pos (by omega)]
        rfl
      · rw [if_neg hp, if_neg hp]; rfl
  · by_cases hlt : i < l.length
    · have ex : l[i]? = some l[i] := List.getElem?_eq_getElem hlt
      have ed : l.drop i = l[i] :: l.drop (i + 1) := List.drop_eq_getElem_cons hlt
      rw [ex, ed]
      generalize l[i] = x
      dsimp only
      by_cases hb : x ∈ BRK
      · rw [if_pos hb, List.flatMap_append, List.flatMap_append]
        have ek : [Stp.kp x].flatMap (fun s => (aftS W st l i n s).map (s :: ·)) = (match stp (some st) x with | none => [] | some s => rowsL W s (l.drop (i + 1)) n).map (Stp.kp x :: ·) := by
          rw [List.flatMap_cons, List.flatMap_nil, List.append_nil]
          show ((if 0 ≤ n then _ else []) : List (List Stp)).map _ = _
          rw [if_pos (Nat.zero_le _)]
          rfl
        rw [ek, ← List.append_assoc]
        congr 1
        cases n with
        | zero =>
          have z1 : (if x ∈ BRK ∧ W.st = true then [Stp.st x] else []).flatMap (fun s => (aftS W st l i 0 s).map (s :: ·)) = [] := by split <;> rfl
          have z2 : (if x ∈ BRK ∧ W.tn = true then (BRK.filter (· ≠ x)).map (Stp.tn x) else []).flatMap (fun s => (aftS W st l i 0 s).map (s :: ·)) = [] := by
            split
            · rw [flatMap_map']; exact flatMap_nil' _
            · rfl
          rw [z1, z2]
          rfl
        | succ n =>
          dsimp only
          congr 1
          · by_cases hs : W.st = true
            · rw [if_pos hs, if_pos ⟨hb, hs⟩, List.flatMap_cons, List.flatMap_nil, List.append_nil]
              show _ = ((if 1 ≤ n + 1 then _ else []) : List (List Stp)).map _
              rw [if_pos (by omega)]
              rfl
            · rw [if_neg hs, if_neg fun q => hs q.2]; rfl
          · by_cases ht : W.tn = true
            · rw [if_pos ht, if_pos ⟨hb, ht⟩, flatMap_map']
              refine flatMap_congr' fun c _ => ?_
              show _ = ((if 1 ≤ n + 1 then _ else []) : List (List Stp)).map _
              rw [if_pos (by omega)]
              rfl
            · rw [if_neg ht, if_neg fun q => ht q.2]; rfl
      · rw [if_neg hb, if_neg fun q => hb q.1, if_neg fun q => hb q.1]
        show _ = [Stp.kp x].flatMap (fun s => (aftS W st l i n s).map (s :: ·))
        rw [List.flatMap_cons, List.flatMap_nil, List.append_nil]
        have : aftS W st l i n (Stp.kp x) = rowsL W st (l.drop (i + 1)) n := by
          show ((if 0 ≤ n then (match stp (some st) x with | none => [] | some st' => rowsL W st' (l.drop (i + 1)) (n - 0)) else []) : List (List Stp)) = _
          rw [if_pos (Nat.zero_le _), not_brk hb]
          rfl
        rw [this]
    · have ei : i = l.length := by omega
      have ex : l[i]? = none := List.getElem?_eq_none (by omega)
      have ed : l.drop i = [] := List.drop_eq_nil_of_le (by omega)
      rw [ex, ed]
      dsimp only
      rw [if_neg fun q => h ⟨ei, q⟩]
      rfl
/-- how many go on by a step, with just so many deeds -/
def mb (W : Wd) (l : List Nat) (st : List Nat) (i n : Nat) (s : Stp) : Nat := match nxS st s with
  | none => 0
  | some st' => match LV W l st' (i + s.i.length) with
    | none => 0
    | some p => if p.1 + s.c = n then p.2 else 0
theorem ch_in {W : Wd} {l : List Nat} {i : Nat} {s : Stp} (h : s ∈ chS W l i) : i + s.i.length ≤ max i l.length := by
  unfold chS at h
  rcases List.mem_append.mp h with h | h
  · by_cases hp : W.pt = true
    · rw [if_pos hp] at h
      obtain ⟨c, _, rfl⟩ := List.mem_map.mp h
      show i + 0 ≤ _
      omega
    · rw [if_neg hp] at h; cases h
  · by_cases hlt : i < l.length
    · have : s.i.length ≤ 1 := by cases s <;> simp [Stp.i]
      omega
    · rw [List.getElem?_eq_none (by omega)] at h; cases h
end Ly

set_option maxHeartbeats 4000000
namespace Ly
/-! ### how many at most, how great the least number at most -/
/-! ### the row with a number -/
end Ly

set_option maxHeartbeats 4000000
namespace Ly
open PySem PySem.Spec PyProof.Rows L2 SX
/-! ### things side by side -/
theorem pd_imp {α β : Type} {R S : α → β → Prop} (h : ∀ a b, R a b → S a b) : ∀ {xs : List α} {ys : List β}, Paired R xs ys → Paired S xs ys
  | _, _, .nil => .nil
  | _, _, .cons x r => .cons (h _ _ x) (pd_imp h r)
theorem pd_app {α β : Type} {R : α → β → Prop} : ∀ {xs xs' : List α} {ys ys' : List β}, Paired R xs ys → Paired R xs' ys' → Paired R (xs ++ xs') (ys ++ ys')
  | _, _, _, _, .nil, h => h
  | _, _, _, _, .cons x r, h => .cons x (pd_app r h)
theorem pd_len {α β : Type} {R : α → β → Prop} : ∀ {xs : List α} {ys : List β}, Paired R xs ys → xs.length = ys.length
  | _, _, .nil => rfl
  | _, _, .cons x r => by rw [List.length_cons, List.length_cons, pd_len r]
theorem pd_one {α β : Type} {R : α → β → Prop} {x : α} {y : β} (h : R x y) : Paired R [x] [y] := .cons h .nil
/-- a turn through a list and what stands beside it -/
theorem pd_mid {α β : Type} {R : α → β → Prop} : ∀ {pre : List α} {x : α} {post : List α} {ys : List β}, Paired R (pre ++ x :: post) ys → ∃ p y q, ys = p ++ y :: q ∧ p.length = pre.length ∧ R x y ∧ Paired R pre p ∧ Paired R post q
  | [], x, post, _, .cons h r => ⟨[], _, _, rfl, rfl, h, .nil, r⟩
  | a :: pre, x, post, _, .cons h r => by
    obtain ⟨p, y, q, e1, e2, h1, h2, h3⟩ := pd_mid r
    exact ⟨_ :: p, y, q, by rw [e1]; rfl, by rw [List.length_cons, List.length_cons, e2], h1, .cons h h2, h3⟩
theorem g_ext {H : Hp} {Q : VK} {p a : Addr} {xs ys : List V} (h : H p = some (.lst xs)) (h2 : H a = some (.lst ys)) (hl : xs.length + ys.length ≤ 100000) (q : ∀ H1, But p H H1 → H1 p = some (.lst (xs ++ ys)) → Q .non H1) : rExtend (.ref p) [.ref a] H Q := ⟨p, a, xs, ys, rfl, rfl, h, h2, Nat.le_trans hl (by decide), q _ But.set upd_same⟩
/-- the deed of a step -/
def dwS : Stp → Dw
  | .kp c => .trn c
  | .st _ => .str
  | .tn _ d => .trn d
  | .pt d => .put d
end Ly

set_option maxHeartbeats 4000000
namespace Ly
/-! ### so many deeds are enough: strikes and turned pairs, by lists -/
inductive Mx : List Nat → Nat → Prop
  | nil : Mx [] 0
  | let_ {x n : Nat} {r : List Nat} : x ∉ BRK → Mx r n → Mx (x :: r) n
  | str {x n : Nat} {r : List Nat} : x ∈ BRK → Mx r n → Mx (x :: r) (n + 1)
  | pair {x d a b : Nat} {u v : List Nat} : x ∈ BRK → d ∈ BRK → Mx u a → Mx v b → Mx (x :: (u ++ d :: v)) (tns x d + a + b)
theorem Mx.app {u v : List Nat} {a b : Nat} (h : Mx u a) (h2 : Mx v b) : Mx (u ++ v) (a + b) := by
  induction h with
  | nil => rw [Nat.zero_add]; exact h2
  | let_ e _ ih => exact .let_ e ih
  | @str x n r e _ ih =>
    rw [show n + 1 + b = n + b + 1 by omega]
    exact .str e ih
  | @pair x d a b' u v e1 e2 h3 _ _ ih =>
    rw [List.cons_append, List.append_assoc, List.cons_append, Nat.add_assoc]
    exact .pair e1 e2 h3 ih
theorem Mx.one {x : Nat} (h : x ∈ BRK) : Mx [x] 1 := .str h .nil
theorem app_split {α : Type} {u v a z : List α} {d o : α} (h : u ++ d :: v = a ++ o :: z) : (∃ c, u = a ++ o :: c ∧ z = c ++ d :: v) ∨ (u = a ∧ d = o ∧ v = z) ∨ (∃ c, a = u ++ d :: c ∧ v = c ++ o :: z) := by
  rcases List.append_eq_append_iff.mp h with ⟨as, h1, h2⟩ | ⟨bs, h1, h2⟩
  · cases as with
    | nil =>
      rw [List.append_nil] at h1
      cases h2
      exact .inr (.inl ⟨h1.symm, rfl, rfl⟩)
    | cons x as =>
      cases h2
      exact .inr (.inr ⟨as, h1, rfl⟩)
  · cases bs with
    | nil =>
      rw [List.append_nil] at h1
      cases h2
      exact .inr (.inl ⟨h1, rfl, rfl⟩)
    | cons x bs =>
      cases h2
      exact .inl ⟨bs, h1, rfl⟩
theorem Mx.last {w : List Nat} {n : Nat} (h : Mx w n) : ∀ {u : List Nat} {y : Nat}, w = u ++ [y] → y ∈ BRK → (∃ m, Mx u m ∧ m + 1 ≤ n) ∨ (∃ a1 Y a2 p q, u = a1 ++ Y :: a2 ∧ Y ∈ BRK ∧ Mx a1 p ∧ Mx a2 q ∧ tns Y y + p + q ≤ n) := by
  induction h with
  | nil => intro u y e; cases u <;> cases e
  | @let_ x n r hx hr ih =>
    intro u y e hy
    cases u with
    | nil => cases e; exact absurd hy hx
    | cons z u =>
      cases e
      rcases ih rfl hy with ⟨m, h1, h2⟩ | ⟨a1, Y, a2, p, q, rfl, h2, h3, h4, h5⟩
      · exact .inl ⟨m, .let_ hx h1, h2⟩
      · exact .inr ⟨x :: a1, Y, a2, p, q, rfl, h2, .let_ hx h3, h4, h5⟩
  | @str x n r hx hr ih =>
    intro u y e hy
    cases u with
    | nil => cases e; exact .inl ⟨0, .nil, by omega⟩
    | cons z u =>
      cases e
      rcases ih rfl hy with ⟨m, h1, h2⟩ | ⟨a1, Y, a2, p, q, rfl, h2, h3, h4, h5⟩
      · exact .inl ⟨m + 1, .str hx h1, by omega⟩
      · exact .inr ⟨x :: a1, Y, a2, p + 1, q, rfl, h2, .str hx h3, h4, by omega⟩
  | @pair x d a b s v hx hd hs hv ih1 ih2 =>
    intro u y e hy
    cases u with
    | nil =>
      exfalso
      have := congrArg List.length e
      simp at this
    | cons z u =>
      rw [List.cons_append] at e
      have ex : x = z := (List.cons.inj e).1
      subst ex
      rcases app_split (List.cons.inj e).2 with ⟨c, h1, h2⟩ | ⟨h1, h2, h3⟩ | ⟨c, h1, h2⟩
      · exfalso
        cases c <;> cases h2
      · subst h1 h2 h3
        have : b = 0 := by cases hv; rfl
        subst this
        exact .inr ⟨[], x, s, 0, a, rfl, hx, .nil, hs, by omega⟩
      · subst h1
        rcases ih2 h2 hy with ⟨m, g1, g2⟩ | ⟨a1, Y, a2, p, q, rfl, g2, g3, g4, g5⟩
        · exact .inl ⟨tns x d + a + m, .pair hx hd hs g1, by omega⟩
        · exact .inr ⟨x :: (s ++ d :: a1), Y, a2, tns x d + a + p, q, by simp, g2, .pair hx hd hs g3, g4, by omega⟩
/-- the first bracket struck or made a pair -/
theorem Mx.first {x n : Nat} {r : List Nat} (h : Mx (x :: r) n) (hx : x ∈ BRK) : (∃ m, Mx r m ∧ n = m + 1) ∨ (∃ u d v p q, r = u ++ d :: v ∧ d ∈ BRK ∧ Mx u p ∧ Mx v q ∧ n = tns x d + p + q) := by
  cases h with
  | let_ h _ => exact absurd hx h
  | str _ h => exact .inl ⟨_, h, rfl⟩
  | pair _ hd h1 h2 => exact .inr ⟨_, _, _, _, _, rfl, hd, h1, h2, rfl⟩
/-! ### the least number -/
noncomputable def lsN (l : List Nat) : Nat := lstN l 0 l.length
def wAll : Wd := ⟨true, true, true⟩
theorem mc_ls {W : Wd} (hs : W.st = true) (ht : W.tn = true) (l : List Nat) : ∃ N, mcN l W 0 l.length = some (lsN l, N) := mcN_cost hs ht (Nat.zero_le _) (Nat.le_refl _)
theorem lsN_An {W : Wd} (hs : W.st = true) (ht : W.tn = true) (l : List Nat) : An W [] l (lsN l) ≠ 0 ∧ ∀ n, An W [] l n ≠ 0 → lsN l ≤ n := by
  obtain ⟨N, hN⟩ := mc_ls hs ht l
  have := Ld_whole (W := W) l
  rw [hN] at this
  obtain ⟨h1, h2, h3⟩ := this
  exact ⟨fun e => h2 (h1.symm.trans e), fun n hn => Nat.le_of_not_lt fun q => hn (h3 n q)⟩
theorem Mx.An {W : Wd} (hs : W.st = true) (ht : W.tn = true) {l : List Nat} {n : Nat} (h : Mx l n) : An W [] l n ≠ 0 := by
  induction h with
  | nil => exact An_pos.mpr ⟨_, Row.nil⟩
  | let_ hx _ ih =>
    obtain ⟨α, ha⟩ := An_pos.mp ih
    exact An_pos.mpr ⟨_, Row.kp (not_brk hx _) ha⟩
  | str hx _ ih =>
    obtain ⟨α, ha⟩ := An_pos.mp ih
    exact An_pos.mpr ⟨_, Row.str hs hx ha⟩
  | @pair x d a b u v hx hd _ _ ih1 ih2 =>
    have := An_app (An_pair hx hd (.inr ht) ih1) ih2
    rw [few_tns x hx d hd, show x :: (u ++ [d]) ++ v = x :: (u ++ d :: v) by simp, show a + tns x d + b = tns x d + a + b by omega] at this
    exact this
theorem lsN_le {l : List Nat} {n : Nat} (h : Mx l n) : lsN l ≤ n := (lsN_An (W := wAll) rfl rfl l).2 n (h.An rfl rfl)
theorem lsN_row (l : List Nat) : ∃ α, Row wAll [] l (lsN l) α := An_pos.mp (lsN_An (W := wAll) rfl rfl l).1
/-! a clean text put in -/
end Ly

set_option maxHeartbeats 4000000
namespace Ly
/-! ### rows cut, changed at one place -/
section
variable {W : Wd} {a b : List Nat} {n : Nat}
end
/-! ### laws of the least number -/
def brks (l : List Nat) : List Nat := l.filter fun c => decide (c ∈ BRK)
theorem brks_cons (x : Nat) (l : List Nat) : (brks (x :: l)).length = (if x ∈ BRK then 1 else 0) + (brks l).length := by
  unfold brks
  by_cases h : x ∈ BRK
  · rw [List.filter_cons_of_pos (by simpa using h), List.length_cons, if_pos h]; omega
  · rw [List.filter_cons_of_neg (by simpa using h), if_neg h]; omega
theorem lsN_all : ∀ l : List Nat, Mx l (brks l).length
  | [] => .nil
  | x :: l => by
    rw [brks_cons]
    by_cases h : x ∈ BRK
    · rw [if_pos h, Nat.add_comm]; exact .str h (lsN_all l)
    · rw [if_neg h, Nat.zero_add]; exact .let_ h (lsN_all l)
theorem lsN_brks (l : List Nat) : lsN l ≤ (brks l).length := lsN_le (lsN_all l)
theorem Mx.brks {l : List Nat} {n : Nat} (h : Mx l n) : Mx (brks l) n := by
  induction h with
  | nil => exact .nil
  | let_ hx _ ih =>
    unfold Ly.brks
    rw [List.filter_cons_of_neg (by simpa using hx)]
    exact ih
  | str hx _ ih =>
    unfold Ly.brks
    rw [List.filter_cons_of_pos (by simpa using hx)]
    exact .str hx ih
  | pair hx hd _ _ ih1 ih2 =>
    unfold Ly.brks
    rw [List.filter_cons_of_pos (by simpa using hx), List.filter_append, List.filter_cons_of_pos (by simpa using hd)]
    exact .pair hx hd ih1 ih2
theorem clean_one {x : Nat} (h : x ∉ BRK) : clean [x] := by
  show [x].foldl stp (some []) = some []
  rw [List.foldl_cons, not_brk h]
  rfl
/-! clean texts -/
theorem rows_zero (W : Wd) : ∀ (r st : List Nat), rowsL W st r 0 = if r.foldl stp (some st) = some [] then [r.map Stp.kp] else []
  | [], st => by
    rw [rowsL.eq_def]
    show (if st = [] ∧ 0 = 0 then [[]] else []) = if some st = some [] then [[]] else []
    by_cases h : st = []
    · rw [if_pos ⟨h, rfl⟩, if_pos (by rw [h])]
    · rw [if_neg fun q => h q.1, if_neg fun q => h (Option.some.inj q)]
  | x :: r, st => by
    rw [rowsL.eq_def, List.foldl_cons]
    dsimp only
    rw [List.nil_append]
    by_cases hx : x ∈ BRK
    · rw [if_pos hx, List.nil_append]
      cases hs : stp (some st) x with
      | none => rw [fold_none, if_neg (fun q => nomatch q)]; rfl
      | some s =>
        dsimp only
        rw [rows_zero W r s]
        by_cases hf : r.foldl stp (some s) = some []
        · rw [if_pos hf, if_pos hf]; rfl
        · rw [if_neg hf, if_neg hf]; rfl
    · rw [if_neg hx, not_brk hx, rows_zero W r st]
      by_cases hf : r.foldl stp (some st) = some []
      · rw [if_pos hf, if_pos hf]; rfl
      · rw [if_neg hf, if_neg hf]; rfl
end Ly

set_option maxHeartbeats 4000000
namespace Ly
open PySem PySem.Spec PyProof.Rows L2 SX
/-! ### lists of deeds as values -/
def DdV (H : Hp) (v : V) (d : Deed) : Prop := ∃ r, v = .ref r ∧ H r = some (.tup (ddV d))
theorem DdV.same {H H' : Hp} {v : V} {d : Deed} (h : DdV H v d) (s : Same H H') : DdV H' v d := by
  obtain ⟨r, h1, h2⟩ := h
  exact ⟨r, h1, s _ _ h2⟩
theorem DdV.but {H H' : Hp} {v : V} {d : Deed} {p : Addr} (h : DdV H v d) (b : But p H H') (hp : ∀ ys, H p ≠ some (.tup ys)) : DdV H' v d := by
  obtain ⟨r, h1, h2⟩ := h
  exact ⟨r, h1, b _ _ (fun e => hp _ (by rw [← e]; exact h2)) h2⟩
theorem pd_dds {H : Hp} : ∀ {rs : List Addr} {ds : List Deed}, rs.length = ds.length → (∀ (k : Nat) (r : Addr) (d : Deed), rs[k]? = some r → ds[k]? = some d → H r = some (.tup (ddV d))) → Paired (DdV H) (rs.map V.ref) ds
  | [], [], _, _ => .nil
  | [], _ :: _, h, _ => by cases h
  | _ :: _, [], h, _ => by cases h
  | r :: rs, d :: ds, h, hi => .cons ⟨r, rfl, hi 0 r d rfl rfl⟩ (pd_dds (by simpa using h) fun k r' d' h1 h2 => hi (k + 1) r' d' h1 h2)
theorem Dds.pd {H : Hp} {a : Addr} {rs : List Addr} {ds : List Deed} (h : Dds H a rs ds) : Paired (DdV H) (rs.map V.ref) ds := pd_dds h.len h.it
theorem pd_refs {H : Hp} : ∀ {ys : List V} {ds : List Deed}, Paired (DdV H) ys ds → ∃ rs : List Addr, ys = rs.map V.ref ∧ rs.length = ds.length ∧ ∀ (k : Nat) (r : Addr) (d : Deed), rs[k]? = some r → ds[k]? = some d → H r = some (.tup (ddV d))
  | _, _, .nil => ⟨[], rfl, rfl, fun k r d h => by cases h⟩
  | _, _, .cons h r => by
    obtain ⟨rs, h1, h2, h3⟩ := pd_refs r
    obtain ⟨t, rfl, ht⟩ := h
    refine ⟨t :: rs, by rw [h1]; rfl, by rw [List.length_cons, List.length_cons, h2], fun k r' d' e1 e2 => ?_⟩
    cases k with
    | zero => cases e1; cases e2; exact ht
    | succ k => exact h3 k r' d' e1 e2
theorem dds_pd {H : Hp} {a : Addr} {ys : List V} {ds : List Deed} (h : H a = some (.lst ys)) (hp : Paired (DdV H) ys ds) : ∃ rs, Dds H a rs ds ∧ ys = rs.map V.ref := by
  obtain ⟨rs, rfl, h2, h3⟩ := pd_refs hp
  exact ⟨rs, ⟨h, h2, h3⟩, rfl⟩
theorem pd_turn {α β : Type} {R : α → β → Prop} {ys : List α} {ds : List β} {pre post : List α} {x : α} (h : Paired R ys ds) (e : ys = pre ++ x :: post) : ∃ d, R x d ∧ d ∈ ds ∧ ds.take (pre ++ [x]).length = ds.take pre.length ++ [d] := by
  rw [e] at h
  obtain ⟨p, y, q, h1, h2, h3, _, _⟩ := pd_mid h
  subst h1
  refine ⟨y, h3, by simp, ?_⟩
  rw [List.length_append, List.length_singleton, ← h2, List.take_left, show p ++ y :: q = (p ++ [y]) ++ q by simp, show p.length + 1 = (p ++ [y]).length by simp, List.take_left]
/-! ### deeds and rows -/
theorem dd_cst : ∀ (α : List Stp) (p : Nat), (ddS p α).length = cstS α
  | [], _ => rfl
  | .kp c :: α, p => dd_cst α (p + 1)
  | .st c :: α, p => by show (ddS (p + 1) α).length + 1 = cstS α + 1; rw [dd_cst]
  | .tn c d :: α, p => by show (ddS (p + 1) α).length + 1 = cstS α + 1; rw [dd_cst]
  | .pt d :: α, p => by show (ddS p α).length + 1 = cstS α + 1; rw [dd_cst]
theorem wAll_wd (α : List Stp) : ∀ s ∈ α, s.wd wAll := fun s _ => by cases s <;> first | exact trivial | exact rfl
theorem row_ds {l : List Nat} {n : Nat} {α : List Stp} (h : Row wAll [] l n α) : okDs l (ddS 0 α) = true ∧ (ddS 0 α).length = n ∧ clean (doneL l (ddS 0 α)) := by
  refine ⟨by rw [← h.tx]; exact row_ok h.ok, by rw [dd_cst, h.ct], ?_⟩
  have e : doneL l (ddS 0 α) = outS α := by rw [← h.tx]; exact row_done α
  rw [e]
  exact h.fo
/-! ### all lists of deeds, one by one -/
def evP (l : List Nat) (p : Nat) : List Deed := (BRK.map fun c => ((p, Dw.put c) : Deed)) ++ (match l[p]? with
  | none => []
  | some x => if x ∈ BRK then (p, Dw.str) :: (BRK.filter (· ≠ x)).map (fun c => ((p, Dw.trn c) : Deed)) else [])
def evD (l : List Nat) : List Deed := (List.range (l.length + 1)).flatMap (evP l)
theorem mem_evP {l : List Nat} {p : Nat} {d : Deed} (hp : p ≤ l.length) : d ∈ evP l p ↔ d.1 = p ∧ okB l d = true := by
  obtain ⟨q, w⟩ := d
  unfold evP okB
  constructor
  · intro h
    rcases List.mem_append.mp h with h | h
    · obtain ⟨c, hc, e⟩ := List.mem_map.mp h
      cases e
      exact ⟨rfl, by simp [hp, hc]⟩
    · cases hx : l[p]? with
      | none => rw [hx] at h; cases h
      | some x =>
        rw [hx] at h
        dsimp only at h
        by_cases hb : x ∈ BRK
        · rw [if_pos hb] at h
          rcases List.mem_cons.mp h with h | h
          · cases h
            exact ⟨rfl, by dsimp only; rw [hx]; simp [hb]⟩
          · obtain ⟨c, hc, e⟩ := List.mem_map.mp h
            cases e
            obtain ⟨h1, h2⟩ := List.mem_filter.mp hc
            have h3 : c ≠ x := by simpa using h2
            exact ⟨rfl, by dsimp only; rw [hx]; simp [hb, h1, h3]⟩
        · rw [if_neg hb] at h; cases h
  · rintro ⟨e, h⟩
    dsimp only at e
    subst e
    cases w with
    | put c =>
      dsimp only at h
      rw [Bool.and_eq_true] at h
      exact List.mem_append_left _ (List.mem_map.mpr ⟨c, of_decide_eq_true h.2, rfl⟩)
    | str =>
      dsimp only at h
      refine List.mem_append_right _ ?_
      cases hx : l[q]? with
      | none => rw [hx] at h; cases h
      | some x =>
        rw [hx] at h
        dsimp only
        rw [if_pos (of_decide_eq_true h)]
        exact List.mem_cons_self ..
    | trn c =>
      dsimp only at h
      refine List.mem_append_right _ ?_
      cases hx : l[q]? with
      | none => rw [hx] at h; cases h
      | some x =>
        rw [hx] at h
        dsimp only at h ⊢
        rw [Bool.and_eq_true, Bool.and_eq_true] at h
        rw [if_pos (of_decide_eq_true h.1)]
        refine List.mem_cons_of_mem _ (List.mem_map.mpr ⟨c, List.mem_filter.mpr ⟨of_decide_eq_true h.2.1, ?_⟩, rfl⟩)
        simpa using h.2.2
theorem mem_evD {l : List Nat} {d : Deed} : d ∈ evD l ↔ okB l d = true := by
  unfold evD
  rw [List.mem_flatMap]
  constructor
  · rintro ⟨p, hp, h⟩
    exact ((mem_evP (by have := List.mem_range.mp hp; omega)).mp h).2
  · intro h
    have hle := (okB_le h).1
    exact ⟨d.1, List.mem_range.mpr (by omega), (mem_evP hle).mpr ⟨rfl, h⟩⟩
end Ly

set_option maxHeartbeats 4000000
namespace Ly
open PySem PySem.Spec PyProof.Rows L2 SX
/-! ### no row stands twice -/
theorem nodup_flat {α : Type} {f : α → List (List α)} : ∀ {xs : List α}, xs.Nodup → (∀ x ∈ xs, (f x).Nodup) → (xs.flatMap fun x => (f x).map (x :: ·)).Nodup
  | [], _, _ => List.nodup_nil
  | x :: xs, h, hf => by
    obtain ⟨h1, h2⟩ := List.nodup_cons.mp h
    rw [List.flatMap_cons]
    refine List.nodup_append.mpr ⟨List.pairwise_map.mpr ((hf x (List.mem_cons_self ..)).imp fun hab e => hab (List.cons.inj e).2), nodup_flat h2 fun y hy => hf y (List.mem_cons_of_mem _ hy), fun a ha b hb e => ?_⟩
    obtain ⟨u, _, rfl⟩ := List.mem_map.mp ha
    obtain ⟨y, hy, hb⟩ := List.mem_flatMap.mp hb
    obtain ⟨w, _, rfl⟩ := List.mem_map.mp hb
    exact h1 ((List.cons.inj e).1 ▸ hy)
theorem brk_nodup : BRK.Nodup := by decide
theorem chS_nodup (W : Wd) (l : List Nat) (i : Nat) : (chS W l i).Nodup := by
  unfold chS
  have hpt : (if W.pt = true then BRK.map Stp.pt else []).Nodup := by
    split
    · exact List.pairwise_map.mpr (brk_nodup.imp fun hab e => hab (by injection e))
    · exact List.nodup_nil
  have hin : ∀ s ∈ (if W.pt = true then BRK.map Stp.pt else []), ∃ c, s = Stp.pt c := fun s hs => by
    split at hs
    · obtain ⟨c, _, rfl⟩ := List.mem_map.mp hs
      exact ⟨c, rfl⟩
    · cases hs
  cases l[i]? with
  | none => rw [List.append_nil]; exact hpt
  | some x =>
    dsimp only
    have h2 : (if x ∈ BRK ∧ W.st = true then [Stp.st x] else []).Nodup := by
      split
      · exact List.nodup_cons.mpr ⟨by simp, List.nodup_nil⟩
      · exact List.nodup_nil
    have i2 : ∀ s ∈ (if x ∈ BRK ∧ W.st = true then [Stp.st x] else []), s = Stp.st x := fun s hs => by
      split at hs
      · exact List.mem_singleton.mp hs
      · cases hs
    have h3 : (if x ∈ BRK ∧ W.tn = true then (BRK.filter (· ≠ x)).map (Stp.tn x) else []).Nodup := by
      split
      · exact List.pairwise_map.mpr ((brk_nodup.filter _).imp fun hab e => hab (by injection e))
      · exact List.nodup_nil
    have i3 : ∀ s ∈ (if x ∈ BRK ∧ W.tn = true then (BRK.filter (· ≠ x)).map (Stp.tn x) else []), ∃ c, s = Stp.tn x c := fun s hs => by
      split at hs
      · obtain ⟨c, _, rfl⟩ := List.mem_map.mp hs
        exact ⟨c, rfl⟩
      · cases hs
    have h4 : ([Stp.kp x] : List Stp).Nodup := List.nodup_cons.mpr ⟨by simp, List.nodup_nil⟩
    refine List.nodup_append.mpr ⟨hpt, List.nodup_append.mpr ⟨h2, List.nodup_append.mpr ⟨h3, h4, fun a ha b hb e => ?_⟩, fun a ha b hb e => ?_⟩, fun a ha b hb e => ?_⟩
    · obtain ⟨c, rfl⟩ := i3 a ha
      rw [List.mem_singleton.mp hb] at e
      cases e
    · rw [i2 a ha] at e
      rcases List.mem_append.mp hb with hb | hb
      · obtain ⟨c, rfl⟩ := i3 b hb
        cases e
      · rw [List.mem_singleton.mp hb] at e
        cases e
    · obtain ⟨c, rfl⟩ := hin a ha
      rcases List.mem_append.mp hb with hb | hb
      · rw [i2 b hb] at e; cases e
      · rcases List.mem_append.mp hb with hb | hb
        · obtain ⟨c', rfl⟩ := i3 b hb
          cases e
        · rw [List.mem_singleton.mp hb] at e
          cases e
theorem rows_nodup {W : Wd} : ∀ (N n : Nat) (r st : List Nat), n + r.length ≤ N → (rowsL W st r n).Nodup := by
  intro N
  induction N with
  | zero =>
    intro n r st h
    have h1 : n = 0 := by omega
    subst h1
    rw [rows_zero]
    split
    · exact List.nodup_cons.mpr ⟨by simp, List.nodup_nil⟩
    · exact List.nodup_nil
  | succ N ih =>
    intro n r st h
    by_cases h0 : 0 = r.length ∧ st = [] ∧ n = 0
    · obtain ⟨h1, h2, rfl⟩ := h0
      rw [rows_zero]
      split
      · exact List.nodup_cons.mpr ⟨by simp, List.nodup_nil⟩
      · exact List.nodup_nil
    · have e := rows_ch (W := W) (l := r) (st := st) (i := 0) (n := n) (Nat.zero_le _) h0
      rw [List.drop_zero] at e
      rw [e]
      refine nodup_flat (chS_nodup W r 0) fun s hs => ?_
      unfold aftS
      split
      · cases nxS st s with
        | none => exact List.nodup_nil
        | some st' =>
          have hin := ch_in hs
          refine ih _ _ _ ?_
          rw [List.length_drop]
          have hc : s.c + s.i.length ≥ 1 := by cases s <;> simp [Stp.c, Stp.i]
          have hl : 0 + s.i.length ≤ r.length := by rw [Nat.zero_max] at hin; exact hin
          omega
      · exact List.nodup_nil
/-! ### the deeds tell the row -/
/-- two deeds alike -/
theorem dw_inj {a b : Dw} (h1 : a.w = b.w) (h2 : a.s = b.s) : a = b := by
  cases a <;> cases b <;> first | rfl | (simp [Dw.w] at h1; done) | (simp [Dw.s] at h2; rw [h2])
/-! ### which choice deeds go on by -/
end Ly

set_option maxHeartbeats 4000000
namespace Ly
open PySem PySem.Spec PyProof.Rows L2 SX
/-! ### lists of deeds: which comes first -/
theorem lt_place {p q : Nat} {v w : Dw} (h : p < q) : PySem.W.dataLt (ddD (p, v)) (ddD (q, w)) = true := by
  unfold ddD
  rw [PySem.W.dataLt_tuple, PySem.W.dataLt_all_no rfl (by show ((p : Int) == (q : Int)) = false; exact beq_eq_false_iff_ne.mpr (by omega)), PySem.W.dataLt_int]
  exact decide_eq_true (by show (p : Int) < (q : Int); omega)
theorem S_list (l : List Nat) : (S l).cps.toList = l := by simp
theorem lt_word {p : Nat} {v w : Dw} (h : v.w < w.w) (hne : v.w ≠ w.w) : PySem.W.dataLt (ddD (p, v)) (ddD (p, w)) = true := by
  unfold ddD
  rw [PySem.W.dataLt_tuple, PySem.W.dataLt_all_yes rfl (by show ((p : Int) == (p : Int)) = true; simp), PySem.W.dataLt_all_no rfl (by show (S v.w == S w.w) = false; exact beq_eq_false_iff_ne.mpr (fun e => hne (S_inj e))), PySem.W.dataLt_str]
  exact decide_eq_true (by rw [S_list, S_list]; exact h)
theorem lt_sign {p : Nat} {v w : Dw} (h1 : v.w = w.w) (h : v.s < w.s) (hne : v.s ≠ w.s) : PySem.W.dataLt (ddD (p, v)) (ddD (p, w)) = true := by
  unfold ddD
  rw [PySem.W.dataLt_tuple, PySem.W.dataLt_all_yes rfl (by show ((p : Int) == (p : Int)) = true; simp), PySem.W.dataLt_all_yes rfl (by show (S v.w == S w.w) = true; rw [h1]; simp), PySem.W.dataLt_all_no rfl (by show (S v.s == S w.s) = false; exact beq_eq_false_iff_ne.mpr (fun e => hne (S_inj e))), PySem.W.dataLt_str]
  exact decide_eq_true (by rw [S_list, S_list]; exact h)
/-! the choices rise -/
theorem ddS_step (s : Stp) (β : List Stp) (i : Nat) : ddS i (s :: β) = (if s.c = 1 then [(i, dwS s)] else []) ++ ddS (i + s.i.length) β := by
  cases s <;> rfl
theorem pair_flat {α β : Type} {R : β → β → Prop} {T : α → α → Prop} {f : α → List β} : ∀ {xs : List α}, xs.Pairwise T → (∀ x ∈ xs, (f x).Pairwise R) → (∀ x y, T x y → x ∈ xs → y ∈ xs → ∀ a ∈ f x, ∀ b ∈ f y, R a b) → (xs.flatMap f).Pairwise R
  | [], _, _, _ => List.Pairwise.nil
  | x :: xs, h, h1, h2 => by
    obtain ⟨g1, g2⟩ := List.pairwise_cons.mp h
    rw [List.flatMap_cons]
    refine List.pairwise_append.mpr ⟨h1 x (List.mem_cons_self ..), pair_flat g2 (fun y hy => h1 y (List.mem_cons_of_mem _ hy)) (fun y z t hy hz => h2 y z t (List.mem_cons_of_mem _ hy) (List.mem_cons_of_mem _ hz)), fun a ha b hb => ?_⟩
    obtain ⟨y, hy, hb⟩ := List.mem_flatMap.mp hb
    exact h2 x y (g1 y hy) (List.mem_cons_self ..) (List.mem_cons_of_mem _ hy) a ha b hb
/-! list(..), tuple(..) by names -/
def rListOf (K : PySem.W.Frag) : List V → Hp → VK → Prop := fun xs H Q => ∃ p ys, xs = [.ref p] ∧ (SqL K H p ys ∨ SqT K H p ys) ∧ ∀ l, H l = none → Q (.ref l) (upd H l (.lst ys))
def rTupleOf (K : PySem.W.Frag) : List V → Hp → VK → Prop := fun xs H Q => ∃ p ys, xs = [.ref p] ∧ ((SqL K H p ys ∧ ∀ l, H l = none → Q (.ref l) (upd H l (.tup ys))) ∨ (SqT K H p ys ∧ Q (.ref p) H))
theorem g_listOfL {K : PySem.W.Frag} {H : Hp} {Q : VK} {p : Addr} {ys : List V} (h : H p = some (.lst ys)) (q : ∀ l H1, H l = none → Same H H1 → H1 l = some (.lst ys) → Q (.ref l) H1) : rListOf K [.ref p] H Q := ⟨p, ys, rfl, .inl (sq_of h), fun l nl => q l _ nl (Same.new nl) upd_same⟩
theorem g_tupleOfL {K : PySem.W.Frag} {H : Hp} {Q : VK} {p : Addr} {ys : List V} (h : H p = some (.lst ys)) (q : ∀ l H1, H l = none → Same H H1 → H1 l = some (.tup ys) → Q (.ref l) H1) : rTupleOf K [.ref p] H Q := ⟨p, ys, rfl, .inl ⟨sq_of h, fun l nl => q l _ nl (Same.new nl) upd_same⟩⟩
/-! dicts of whole numbers, as sets -/
end Ly

set_option maxHeartbeats 4000000
namespace Ly
open PySem PySem.Spec PyProof.Rows L2 SX
section
variable {K : PySem.W.Frag} {σ : L2.St} {H : Hp} {g : TG} {tb : TS} {D : Ends} {a b : Addr} {xs ys : List V}
end
/-! ### the lists of deeds rise, one by one -/
end Ly

set_option maxHeartbeats 4000000
namespace Ly
open PySem PySem.Spec PyProof.Rows L2 SX
/-! ### how many rows: laws by words -/
def wLe (W W' : Wd) : Prop := (W.pt = true → W'.pt = true) ∧ (W.st = true → W'.st = true) ∧ (W.tn = true → W'.tn = true)
theorem wd_mono {W W' : Wd} (h : wLe W W') {s : Stp} (hs : s.wd W) : s.wd W' := by
  cases s with
  | kp c => trivial
  | st c => exact h.2.1 hs
  | tn c d => exact h.2.2 hs
  | pt d => exact h.1 hs
/-! the signs of a row renamed -/
def Stp.mp (f : Nat → Nat) : Stp → Stp
  | .kp c => .kp (f c)
  | .st c => .st (f c)
  | .tn c d => .tn (f c) (f d)
  | .pt d => .pt (f d)
/-! a row from behind -/
end Ly

set_option maxHeartbeats 4000000
namespace Ly
open PySem PySem.Spec PyProof.Rows L2 SX
/-! ### mended by few words -/
/-- without puts, by strikes -/
def nPut (W : Wd) : Wd := ⟨false, true, W.tn⟩
theorem wd_ap {W : Wd} {a b : List Stp} (h1 : ∀ s ∈ a, s.wd W) (h2 : ∀ s ∈ b, s.wd W) : ∀ s ∈ a ++ b, s.wd W := fun s hs => by
  rcases List.mem_append.mp hs with hs | hs
  · exact h1 s hs
  · exact h2 s hs
theorem wd_con {W : Wd} {y : Stp} {b : List Stp} (h1 : y.wd W) (h2 : ∀ s ∈ b, s.wd W) : ∀ s ∈ y :: b, s.wd W := fun s hs => by
  rcases List.mem_cons.mp hs with rfl | hs
  · exact h1
  · exact h2 s hs
def Stp.ct : Stp → Nat
  | .kp _ => 0
  | _ => 1
theorem cst_cons (s : Stp) (α : List Stp) : cstS (s :: α) = s.ct + cstS α := by
  cases s with
  | kp c => show cstS α = 0 + cstS α; omega
  | st c => show cstS α + 1 = 1 + cstS α; omega
  | tn c d => show cstS α + 1 = 1 + cstS α; omega
  | pt d => show cstS α + 1 = 1 + cstS α; omega
/-- a sign that is put out is struck, or gone -/
theorem gone {W : Wd} {y : Stp} {z : Nat} (hy : y.ok) (hw : y.wd W) (ho : y.o = [z]) (hz : z ∈ BRK) : ∃ γ : List Stp, okS γ ∧ (∀ s ∈ γ, s.wd (nPut W)) ∧ inS γ = y.i ∧ outS γ = [] ∧ ((∃ d, y = .pt d) → cstS γ = 0) ∧ cstS γ ≤ 1 := by
  cases y with
  | kp c =>
    have hc : c = z := by injection ho
    exact ⟨[.st c], okS_cons.mpr ⟨show c ∈ BRK by rw [hc]; exact hz, fun s hs => (by cases hs)⟩, wd_con rfl (fun s hs => (by cases hs)), rfl, rfl, fun ⟨d, h⟩ => (by cases h), Nat.le_refl _⟩
  | st c => cases ho
  | tn c d => exact ⟨[.st c], okS_cons.mpr ⟨hy.1, fun s hs => (by cases hs)⟩, wd_con rfl (fun s hs => (by cases hs)), rfl, rfl, fun ⟨d, h⟩ => (by cases h), Nat.le_refl _⟩
  | pt d => exact ⟨[], fun s hs => (by cases hs), fun s hs => (by cases hs), rfl, rfl, fun _ => rfl, Nat.zero_le _⟩
/-! puts for strikes -/
def Stp.nst : Stp → List Stp
  | .st c => if c ∈ OPN then [.kp c, .pt (oth c)] else [.pt (oth c), .kp c]
  | s => [s]
theorem nst_in (s : Stp) : inS s.nst = s.i := by
  cases s with
  | st c => show inS (if c ∈ OPN then [.kp c, .pt (oth c)] else [.pt (oth c), .kp c]) = [c]; split <;> rfl
  | kp c => rfl
  | tn c d => rfl
  | pt d => rfl
theorem nst_ct (s : Stp) : cstS s.nst = s.ct := by
  cases s with
  | st c => show cstS (if c ∈ OPN then [.kp c, .pt (oth c)] else [.pt (oth c), .kp c]) = 1; split <;> rfl
  | kp c => rfl
  | tn c d => rfl
  | pt d => rfl
theorem nst_ok {s : Stp} (h : s.ok) : okS s.nst := by
  cases s with
  | st c =>
    show okS (if c ∈ OPN then [.kp c, .pt (oth c)] else [.pt (oth c), .kp c])
    have hb : oth c ∈ BRK := oth_brk c h
    split
    · exact okS_cons.mpr ⟨trivial, okS_cons.mpr ⟨hb, fun s hs => (by cases hs)⟩⟩
    · exact okS_cons.mpr ⟨hb, okS_cons.mpr ⟨trivial, fun s hs => (by cases hs)⟩⟩
  | kp c => exact okS_cons.mpr ⟨h, fun s hs => (by cases hs)⟩
  | tn c d => exact okS_cons.mpr ⟨h, fun s hs => (by cases hs)⟩
  | pt d => exact okS_cons.mpr ⟨h, fun s hs => (by cases hs)⟩
theorem nst_wd {W : Wd} {s : Stp} (h : s.wd W) : ∀ t ∈ s.nst, t.wd ⟨true, false, W.tn⟩ := by
  cases s with
  | st c =>
    show ∀ t ∈ (if c ∈ OPN then [Stp.kp c, Stp.pt (oth c)] else [Stp.pt (oth c), Stp.kp c] : List Stp), Stp.wd ⟨true, false, W.tn⟩ t
    split
    · exact wd_con trivial (wd_con rfl fun s hs => (by cases hs))
    · exact wd_con rfl (wd_con trivial fun s hs => (by cases hs))
  | kp c => exact wd_con trivial fun s hs => (by cases hs)
  | tn c d => exact wd_con h fun s hs => (by cases hs)
  | pt d => exact wd_con rfl fun s hs => (by cases hs)
theorem nst_fo {s : Stp} (h : s.ok) (o : Option (List Nat)) : (outS s.nst).foldl stp o = s.o.foldl stp o := by
  cases s with
  | st c =>
    show (outS (if c ∈ OPN then [.kp c, .pt (oth c)] else [.pt (oth c), .kp c])).foldl stp o = o
    cases o with
    | none => split <;> rfl
    | some st =>
      split
      · rename_i h1
        show stp (stp (some st) c) (oth c) = some st
        rw [stp_opn h1, stp_clo (oth_clo c h1)]
      · rename_i h1
        have h2 : c ∈ CLO := (brk_or.mp (show c ∈ BRK from h)).resolve_left h1
        show stp (stp (some st) (oth c)) c = some st
        rw [stp_opn (oth_opn c h2), oth_oth c h, stp_clo h2]
  | kp c => rfl
  | tn c d => rfl
  | pt d => rfl
/-! struck and put for turned -/
/-! only turned -/
/-! ### the seven sets of words -/
end Ly

set_option maxHeartbeats 4000000
namespace Ly
open PySem PySem.Spec PyProof.Rows L2 SX
/-! ### calls without arguments; a method within a comprehension -/
section
variable {X : Cx} {k j : Nat} {x : Str} {sp : Sp} {p pos : Pos}
end
section
variable {X : Cx} {K : PySem.W.Frag} {T id : String} {name : Str} {o e : Expr} {es : List Expr} {to : TE} {t : TA} {apos cpos : Pos} {r : V → List V → Hp → VK → Prop}
end
end Ly

set_option maxHeartbeats 4000000
namespace Ly
open PySem PySem.Spec PyProof.Rows L2 SX
/-! ### least numbers by words -/
inductive Mw (W : Wd) : List Nat → Nat → Prop
  | nil : Mw W [] 0
  | let_ {x n : Nat} {r : List Nat} : x ∉ BRK → Mw W r n → Mw W (x :: r) n
  | str {x n : Nat} {r : List Nat} : x ∈ BRK → W.pt = true ∨ W.st = true → Mw W r n → Mw W (x :: r) (n + 1)
  | pair {x d a b : Nat} {u v : List Nat} : x ∈ BRK → d ∈ BRK → tns x d = 0 ∨ W.tn = true → Mw W u a → Mw W v b → Mw W (x :: (u ++ d :: v)) (tns x d + a + b)
theorem tns_oo : ∀ x ∈ OPN, ∀ d ∈ OPN, tns x d = 1 := by decide
theorem tns_oc : ∀ x ∈ OPN, ∀ d ∈ CLO, tns x d = if d = oth x then 0 else 1 := by decide
theorem tns_cc : ∀ x ∈ CLO, ∀ d ∈ CLO, tns x d = 1 := by decide
theorem tns_co : ∀ x ∈ CLO, ∀ d ∈ OPN, tns x d = 2 := by decide
theorem oth_ne : ∀ x ∈ CLO, ∀ d ∈ CLO, oth d ≠ x := by decide
theorem oth_ne2 : ∀ x ∈ OPN, ∀ d ∈ OPN, oth x ≠ d := by decide
/-- the two steps of a pair -/
theorem pair_steps {W : Wd} {x d : Nat} (hx : x ∈ BRK) (hd : d ∈ BRK) (ht : tns x d = 0 ∨ W.tn = true) : ∃ (o : Nat) (y z : Stp), o ∈ OPN ∧ y.ok ∧ z.ok ∧ y.wd W ∧ z.wd W ∧ y.i = [x] ∧ z.i = [d] ∧ y.o = [o] ∧ z.o = [oth o] ∧ y.ct + z.ct = tns x d := by
  rcases brk_or.mp hx with h1 | h1
  · rcases brk_or.mp hd with h2 | h2
    · have e := tns_oo x h1 d h2
      have t : W.tn = true := by rcases ht with h | h; · omega
                                 · exact h
      exact ⟨x, .kp x, .tn d (oth x), h1, trivial, ⟨hd, oth_brk x hx, oth_ne2 x h1 d h2⟩, trivial, t, rfl, rfl, rfl, rfl, e.symm⟩
    · have e := tns_oc x h1 d h2
      by_cases hdo : d = oth x
      · rw [if_pos hdo] at e
        exact ⟨x, .kp x, .kp d, h1, trivial, trivial, trivial, trivial, rfl, rfl, rfl, by rw [hdo]; rfl, e.symm⟩
      · rw [if_neg hdo] at e
        have t : W.tn = true := by rcases ht with h | h; · omega
                                   · exact h
        exact ⟨x, .kp x, .tn d (oth x), h1, trivial, ⟨hd, oth_brk x hx, fun h => hdo h.symm⟩, trivial, t, rfl, rfl, rfl, rfl, e.symm⟩
  · rcases brk_or.mp hd with h2 | h2
    · have e := tns_co x h1 d h2
      have t : W.tn = true := by rcases ht with h | h; · omega
                                 · exact h
      exact ⟨40, .tn x 40, .tn d 41, by decide, ⟨hx, by decide, fun h => opn_clo 40 (by decide) (h ▸ h1)⟩, ⟨hd, by decide, fun h => opn_clo d h2 (h ▸ (by decide : (41 : Nat) ∈ CLO))⟩, t, t, rfl, rfl, rfl, rfl, e.symm⟩
    · have e := tns_cc x h1 d h2
      have t : W.tn = true := by rcases ht with h | h; · omega
                                 · exact h
      exact ⟨oth d, .tn x (oth d), .kp d, oth_opn d h2, ⟨hx, oth_brk d hd, oth_ne x h1 d h2⟩, trivial, t, trivial, rfl, rfl, rfl, by rw [oth_oth d hd]; rfl, e.symm⟩
theorem Mw.row {W : Wd} {l : List Nat} {n : Nat} (h : Mw W l n) : ∃ α, Row W [] l n α := by
  induction h with
  | nil => exact ⟨[], fun s hs => (by cases hs), fun s hs => (by cases hs), rfl, rfl, rfl⟩
  | @let_ x n r hx _ ih =>
    obtain ⟨α, h⟩ := ih
    exact ⟨.kp x :: α, ⟨okS_cons.mpr ⟨trivial, h.ok⟩, wd_con trivial h.wd, by rw [inS_cons, h.tx]; rfl, h.ct, (clean_let (fun h1 => hx (brk_or.mpr (.inl h1))) (fun h1 => hx (brk_or.mpr (.inr h1)))).mpr h.fo⟩⟩
  | @str x n r hx hW _ ih =>
    obtain ⟨α, h⟩ := ih
    by_cases hs : W.st = true
    · exact ⟨.st x :: α, ⟨okS_cons.mpr ⟨hx, h.ok⟩, wd_con hs h.wd, by rw [inS_cons, h.tx]; rfl, by rw [cst_cons, h.ct]; show 1 + n = n + 1; omega, h.fo⟩⟩
    · have hp : W.pt = true := hW.resolve_right hs
      have hwd : ∀ t ∈ (Stp.st x).nst, t.wd W := fun t ht => wd_mono (W := ⟨true, false, false⟩) ⟨fun _ => hp, fun q => (by cases q), fun q => (by cases q)⟩ (nst_wd (W := ⟨true, true, false⟩) (s := .st x) rfl t ht)
      refine ⟨(Stp.st x).nst ++ α, ⟨okS_app (nst_ok (s := .st x) hx) h.ok, wd_ap hwd h.wd, by rw [inS_app, nst_in, h.tx]; rfl, by rw [cstS_app, nst_ct, h.ct]; show 1 + n = n + 1; omega, ?_⟩⟩
      rw [outS_app, List.foldl_append, nst_fo (s := .st x) hx]
      exact h.fo
  | @pair x d a b u v hx hd ht _ _ ih1 ih2 =>
    obtain ⟨α, h1⟩ := ih1
    obtain ⟨β, h2⟩ := ih2
    obtain ⟨o, y, z, k1, k2, k3, k4, k5, k6, k7, k8, k9, k10⟩ := pair_steps (W := W) hx hd ht
    refine ⟨y :: (α ++ z :: β), ⟨okS_cons.mpr ⟨k2, okS_app h1.ok (okS_cons.mpr ⟨k3, h2.ok⟩)⟩, wd_con k4 (wd_ap h1.wd (wd_con k5 h2.wd)), by rw [inS_cons, inS_app, inS_cons, h1.tx, h2.tx, k6, k7]; simp, by rw [cst_cons, cstS_app, cst_cons, h1.ct, h2.ct]; omega, ?_⟩⟩
    rw [outS_cons, outS_app, outS_cons, k8, k9]
    have hh := clean_app (clean_pair k1 h1.fo) h2.fo
    rw [show [o] ++ (outS α ++ ([oth o] ++ outS β)) = o :: (outS α ++ [oth o]) ++ outS β by simp]
    exact hh
theorem Mw.le {W : Wd} (hW : W.pt = true ∨ W.st = true) : ∀ l : List Nat, ∃ n, n ≤ l.length ∧ Mw W l n
  | [] => ⟨0, Nat.le_refl _, .nil⟩
  | x :: l => by
    obtain ⟨n, h1, h2⟩ := Mw.le hW l
    by_cases hx : x ∈ BRK
    · exact ⟨n + 1, by rw [List.length_cons]; omega, .str hx hW h2⟩
    · exact ⟨n, by rw [List.length_cons]; omega, .let_ hx h2⟩
end Ly

set_option maxHeartbeats 4000000
namespace Ly
open PySem PySem.Spec PyProof.Rows L2 SX
/-! ### dict(list of pairs) with tuples for keys -/
section
variable {X : Cx}
end
/-! ### dicts of texts -/
def rDNewK (H : Hp) (Q : VK) : Prop := ∀ p, H p = none → Q (.ref p) (upd H p (.dK []))
theorem tDNewK_eq {σ : L2.St} {H : Hp} {Q : VK} : tDNewK σ H Q = rDNewK H Q := rfl
def DKt (H : Hp) (a : Addr) (f : Key → Option V) (n : Nat) : Prop := ∃ kvs : List (Key × V), H a = some (.dK kvs) ∧ kvs.length ≤ n ∧ ∀ k, valV kvs k = f k
section
variable {H H1 : Hp} {a p : Addr} {Q : VK} {v : V} {k : Key} {n : Nat} {R : Hp → Prop}
theorem DKt.same {f : Key → Option V} (h : DKt H a f n) (s : Same H H1) : DKt H1 a f n := by
  obtain ⟨kvs, h1, h2, h3⟩ := h
  exact ⟨kvs, s _ _ h1, h2, h3⟩
theorem DKt.but {f : Key → Option V} (h : DKt H a f n) (s : But p H H1) (hn : a ≠ p) : DKt H1 a f n := by
  obtain ⟨kvs, h1, h2, h3⟩ := h
  exact ⟨kvs, s _ _ hn h1, h2, h3⟩
theorem DKt.ne {f : Key → Option V} (h : DKt H a f n) (hb : H p = none) : a ≠ p := by
  obtain ⟨kvs, h1, h2, h3⟩ := h
  rintro rfl
  rw [h1] at hb
  cases hb
theorem DKt.get {f : Key → Option V} (h : DKt H a f n) (k : Key) : DGet H a (kV k) (f k) := by
  obtain ⟨kvs, h1, h2, h3⟩ := h
  rw [← h3]
  exact DGet.k h1
theorem DKt.isD {f : Key → Option V} (h : DKt H a f n) : IsD H a := by
  obtain ⟨kvs, h1, h2, h3⟩ := h
  exact .inl ⟨kvs, .inl h1⟩
end
/-! dict([((i, i), x) for i in range(n)]) -/
/-! ### the words, told -/
def wdV (W : Wd) : List V := (if W.pt then [Tx [112, 117, 116]] else []) ++ (if W.st then [Tx [115, 116, 114, 105, 107, 101]] else []) ++ (if W.tn then [Tx [116, 117, 114, 110]] else [])
def WdT (H : Hp) (v : V) (W : Wd) : Prop := ∃ a, v = .ref a ∧ H a = some (.tup (wdV W))
theorem WdT.same {H H' : Hp} {v : V} {W : Wd} (h : WdT H v W) (s : Same H H') : WdT H' v W := by
  obtain ⟨a, h1, h2⟩ := h
  exact ⟨a, h1, s _ _ h2⟩
theorem WdT.but {H H' : Hp} {v : V} {W : Wd} {p : Addr} {ys : List V} (h : WdT H v W) (s : But p H H') (hp : H p = some (.lst ys)) : WdT H' v W := by
  obtain ⟨a, h1, h2⟩ := h
  exact ⟨a, h1, s _ _ (fun e => by rw [e, hp] at h2; cases h2) h2⟩
theorem WdT.is {K : PySem.W.Frag} {H : Hp} {v : V} {W : Wd} (h : WdT H v W) : WdIs K H v W := by
  obtain ⟨a, h1, h2⟩ := h
  refine ⟨a, _, h1, st_of h2, ?_⟩
  obtain ⟨x, y, z⟩ := W
  cases x <;> cases y <;> cases z <;> exact ⟨by decide +kernel, by decide +kernel, by decide +kernel, by decide +kernel⟩
/-! ### the law's own table of least numbers by words -/
def Vl (W : Wd) (t : List Nat) (v : Int) : Prop := 0 ≤ v ∧ (∀ n : Nat, Mw W t n → v ≤ n) ∧ (v < 1000 → ∃ n : Nat, v = n ∧ Mw W t n)
theorem Mw.len {W : Wd} {l : List Nat} {n : Nat} (h : Mw W l n) : n ≤ l.length := by
  have t3 : ∀ x ∈ BRK, ∀ d ∈ BRK, tns x d ≤ 2 := by decide
  induction h with
  | nil => exact Nat.le_refl _
  | let_ _ _ ih => rw [List.length_cons]; omega
  | str _ _ _ ih => rw [List.length_cons]; omega
  | @pair x d a b u v hx hd ht _ _ i1 i2 =>
    have := t3 x hx d hd
    rw [List.length_cons, List.length_append, List.length_cons]
    omega
theorem Vl.nil {W : Wd} : Vl W [] 0 := ⟨Int.le_refl _, fun n _ => Int.natCast_nonneg n, fun _ => ⟨0, rfl, .nil⟩⟩
theorem Vl.let_ {W : Wd} {x : Nat} {r : List Nat} {v : Int} (hx : x ∉ BRK) (h : Vl W r v) : Vl W (x :: r) v := by
  obtain ⟨h0, h1, h2⟩ := h
  refine ⟨h0, fun n hn => ?_, fun hv => ?_⟩
  · cases hn with
    | let_ _ hr => exact h1 _ hr
    | str hb _ _ => exact absurd hb hx
    | pair hb _ _ _ _ => exact absurd hb hx
  · obtain ⟨n, e1, e2⟩ := h2 hv
    exact ⟨n, e1, .let_ hx e2⟩
/-- a list of numbers that first steps lead to, looked at below m -/
structure Vs (W : Wd) (x : Nat) (r : List Nat) (m : Nat) (ns : List Int) : Prop where
  ne : ns ≠ []
  sound : ∀ v ∈ ns, 0 ≤ v ∧ (v < 1000 → ∃ n : Nat, v = n ∧ Mw W (x :: r) n)
  str : W.pt = true ∨ W.st = true → ∀ n : Nat, Mw W r n → ∃ v ∈ ns, v ≤ n + 1
  pair : ∀ (d a b : Nat) (u w : List Nat), r = u ++ d :: w → u.length < m → d ∈ BRK → tns x d = 0 ∨ W.tn = true → Mw W u a → Mw W w b → ∃ v ∈ ns, v ≤ ((tns x d + a + b : Nat) : Int)
theorem Vs.skip {W : Wd} {x : Nat} {r : List Nat} {m : Nat} {ns : List Int} {d : Nat} (h : Vs W x r m ns) (hd : r[m]? = some d) (hn : ¬ (d ∈ BRK ∧ (tns x d = 0 ∨ W.tn = true))) : Vs W x r (m + 1) ns := by
  refine ⟨h.ne, h.sound, h.str, fun d' a b u w e hu hd' ht ha hb => ?_⟩
  by_cases hm : u.length < m
  · exact h.pair d' a b u w e hm hd' ht ha hb
  · have : u.length = m := by omega
    have e2 : r[m]? = some d' := by rw [e, ← this]; simp
    rw [hd] at e2
    injection e2 with e2
    subst e2
    exact absurd ⟨hd', ht⟩ hn
theorem Vs.step {W : Wd} {x : Nat} {r : List Nat} {m : Nat} {ns : List Int} {d : Nat} {v1 v2 : Int} (h : Vs W x r m ns) (hx : x ∈ BRK) (hd : r[m]? = some d) (hdb : d ∈ BRK) (ht : tns x d = 0 ∨ W.tn = true) (k1 : Vl W (r.take m) v1) (k2 : Vl W (r.drop (m + 1)) v2) : Vs W x r (m + 1) (ns ++ [(tns x d : Int) + v1 + v2]) := by
  have hlt : m < r.length := (List.getElem?_eq_some_iff.mp hd).1
  have er : r = r.take m ++ d :: r.drop (m + 1) := by
    have hg : r[m] = d := (List.getElem?_eq_some_iff.mp hd).2
    rw [← hg, List.getElem_cons_drop]
    exact (List.take_append_drop m r).symm
  obtain ⟨a0, a1, a2⟩ := k1
  obtain ⟨b0, b1, b2⟩ := k2
  refine ⟨by simp, fun y hy => ?_, fun hW n hn => ?_, fun d' a b u w e hu hd' ht' ha hb => ?_⟩
  · rcases List.mem_append.mp hy with hy | hy
    · exact h.sound y hy
    · simp at hy
      subst hy
      refine ⟨by omega, fun hl => ?_⟩
      obtain ⟨n1, e1, f1⟩ := a2 (by omega)
      obtain ⟨n2, e2, f2⟩ := b2 (by omega)
      refine ⟨tns x d + n1 + n2, by omega, ?_⟩
      rw [er]
      exact .pair hx hdb ht f1 f2
  · obtain ⟨y, y1, y2⟩ := h.str hW n hn
    exact ⟨y, List.mem_append_left _ y1, y2⟩
  · by_cases hm : u.length < m
    · obtain ⟨y, y1, y2⟩ := h.pair d' a b u w e hm hd' ht' ha hb
      exact ⟨y, List.mem_append_left _ y1, y2⟩
    · have hul : u.length = m := by omega
      have e2 : r[m]? = some d' := by rw [e, ← hul]; simp
      rw [hd] at e2
      injection e2 with e2
      subst e2
      have eu : u = r.take m := by rw [e, ← hul]; simp
      have ew : w = r.drop (m + 1) := by rw [e, ← hul]; simp
      refine ⟨_, List.mem_append_right _ (List.mem_singleton.mpr rfl), ?_⟩
      have := a1 a (eu ▸ ha)
      have := b1 b (ew ▸ hb)
      omega
theorem Vs.fin {W : Wd} {x : Nat} {r : List Nat} {ns : List Int} {v : Int} (hx : x ∈ BRK) (h : Vs W x r r.length ns) (h1 : v ∈ ns) (h2 : ∀ y ∈ ns, v ≤ y) : Vl W (x :: r) v := by
  obtain ⟨s1, s2⟩ := h.sound v h1
  refine ⟨s1, fun n hn => ?_, s2⟩
  cases hn with
  | let_ hb _ => exact absurd hx hb
  | str _ hW hr =>
    obtain ⟨y, y1, y2⟩ := h.str hW _ hr
    have := h2 y y1
    omega
  | @pair _ d a b u w hx' hd ht ha hb =>
    obtain ⟨y, y1, y2⟩ := h.pair d a b u w rfl (by simp) hd ht ha hb
    have := h2 y y1
    omega
end Ly

set_option maxHeartbeats 4000000
namespace Ly
open PySem PySem.Spec PyProof.Rows L2 SX
/-! ### rows of deeds, place by place, as the law counts them -/
def bhd (st b : List Nat) : Option (List Nat) := match b with
  | [c] => stp (some st) c
  | _ => some st
theorem outS_len : ∀ α : List Stp, (outS α).length ≤ cstS α + (inS α).length
  | [] => Nat.le_refl _
  | s :: α => by
    have ih := outS_len α
    rw [outS_cons, inS_cons, cst_cons, List.length_append, List.length_append]
    have : s.o.length ≤ s.ct + s.i.length := by
      cases s <;> (first | exact Nat.le_refl _ | decide | (show 1 ≤ 0 + 1; decide) | (show 1 ≤ 1 + 0; decide) | (show 0 ≤ _; exact Nat.zero_le _) | (show 1 ≤ 1 + 1; decide))
    omega
theorem stp_len {st s : List Nat} {c : Nat} (h : stp (some st) c = some s) : st.length ≤ s.length + 1 := by
  unfold stp at h
  dsimp only at h
  split at h
  · injection h with h; rw [← h, List.length_cons]; omega
  · split at h
    · split at h
      · split at h
        · injection h with h; rw [← h]; simp
        · cases h
      · cases h
    · injection h with h; rw [← h]; omega
theorem fold_len : ∀ (o st : List Nat), o.foldl stp (some st) = some [] → st.length ≤ o.length
  | [], st, h => by injection h with h; rw [h]; exact Nat.le_refl _
  | c :: o, st, h => by
    rw [List.foldl_cons] at h
    cases hs : stp (some st) c with
    | none => rw [hs, fold_none] at h; cases h
    | some s =>
      rw [hs] at h
      have h1 := fold_len o s h
      have h2 := stp_len hs
      rw [List.length_cons]
      omega
theorem An_prune {W : Wd} {st r : List Nat} {n : Nat} (h : n + r.length < st.length) : An W st r n = 0 := by
  by_cases e : An W st r n = 0
  · exact e
  · obtain ⟨α, hα⟩ := An_pos.mp e
    have h1 := outS_len α
    have h2 := fold_len _ _ hα.fo
    rw [hα.ct, hα.tx] at h1
    omega
/-! how many keys there can be -/
theorem nodup_len {α : Type} [DecidableEq α] : ∀ (l m : List α), l.Nodup → (∀ x ∈ l, x ∈ m) → l.length ≤ m.length
  | [], m, _, _ => Nat.zero_le _
  | x :: l, m, hn, hs => by
    obtain ⟨h1, h2⟩ := List.nodup_cons.mp hn
    have hx : x ∈ m := hs x (List.mem_cons_self ..)
    have ih := nodup_len l (m.erase x) h2 fun y hy => by
      have hne : y ≠ x := fun e => h1 (e ▸ hy)
      exact (List.mem_erase_of_ne hne).mpr (hs y (List.mem_cons_of_mem _ hy))
    rw [List.length_erase_of_mem hx] at ih
    have : 0 < m.length := List.length_pos_of_mem hx
    rw [List.length_cons]
    omega
def stks : Nat → List (List Nat)
  | 0 => [[]]
  | n + 1 => [] :: CLO.flatMap fun c => (stks n).map (c :: ·)
theorem stks_len : ∀ n, (stks n).length ≤ 5 ^ n
  | 0 => Nat.le_refl _
  | n + 1 => by
    have ih := stks_len n
    rw [stks, List.length_cons, List.length_flatMap]
    have e : CLO.map (fun c => ((stks n).map (c :: ·)).length) = CLO.map fun _ => (stks n).length := List.map_congr_left fun c _ => List.length_map _
    rw [e]
    show (stks n).length + ((stks n).length + ((stks n).length + ((stks n).length + 0))) + 1 ≤ 5 ^ (n + 1)
    have h1 : 1 ≤ 5 ^ n := Nat.one_le_pow _ _ (by decide)
    rw [Nat.pow_succ]
    omega
theorem stks_mem : ∀ (n : Nat) (s : List Nat), s.length ≤ n → (∀ c ∈ s, c ∈ CLO) → s ∈ stks n
  | 0, s, h, _ => by
    have : s = [] := List.length_eq_zero_iff.mp (by omega)
    rw [this, stks]
    exact List.mem_cons_self ..
  | n + 1, [], _, _ => List.mem_cons_self ..
  | n + 1, c :: s, h, hc => by
    rw [stks]
    refine List.mem_cons_of_mem _ (List.mem_flatMap.mpr ⟨c, hc c (List.mem_cons_self ..), List.mem_map.mpr ⟨s, stks_mem n s (by rw [List.length_cons] at h; omega) (fun x hx => hc x (List.mem_cons_of_mem _ hx)), rfl⟩⟩)
def kyOf (i : Nat) (st : List Nat) (n : Nat) : List Key := [.inl (i : Int), .inr (S st.reverse), .inl (n : Int)]
theorem kyOf_inj {i j n m : Nat} {s t : List Nat} (h : kyOf i s n = kyOf j t m) : i = j ∧ s = t ∧ n = m := by
  unfold kyOf at h
  injection h with h1 h2
  injection h2 with h2 h3
  injection h3 with h3 _
  have e1 := Sum.inl.inj h1
  have e2 := Sum.inr.inj h2
  have e3 := Sum.inl.inj h3
  have e4 : s.reverse = t.reverse := Tx_inj.mp (congrArg V.str e2)
  exact ⟨by omega, by rw [← List.reverse_reverse s, e4, List.reverse_reverse], by omega⟩
def allK : List (List Key) := (List.range 5).flatMap fun i => (stks 8).flatMap fun s => (List.range 5).map fun n => kyOf i s n
theorem flat_len {α β : Type} {f : α → List β} {b : Nat} : ∀ l : List α, (∀ x ∈ l, (f x).length ≤ b) → (l.flatMap f).length ≤ l.length * b
  | [], _ => by simp
  | x :: l, h => by
    have ih := flat_len l fun y hy => h y (List.mem_cons_of_mem _ hy)
    have hx := h x (List.mem_cons_self ..)
    rw [List.flatMap_cons, List.length_append, List.length_cons, Nat.succ_mul]
    omega
theorem allK_len : allK.length ≤ 9765625 := by
  unfold allK
  refine Nat.le_trans (flat_len (b := 5 ^ 8 * 5) _ fun i _ => Nat.le_trans (flat_len (b := 5) _ fun s _ => by rw [List.length_map, List.length_range]; exact Nat.le_refl _) (Nat.mul_le_mul_right _ (stks_len 8))) ?_
  rw [List.length_range]
  decide
theorem allK_mem {i n : Nat} {s : List Nat} (hi : i ≤ 4) (hn : n ≤ 4) (hs : s.length ≤ 8) (hc : ∀ c ∈ s, c ∈ CLO) : kyOf i s n ∈ allK :=
  List.mem_flatMap.mpr ⟨i, List.mem_range.mpr (by omega), List.mem_flatMap.mpr ⟨s, stks_mem 8 s hs hc, List.mem_map.mpr ⟨n, List.mem_range.mpr (by omega), rfl⟩⟩⟩
/-- what is known -/
structure Kn (H : Hp) (a : Addr) (W : Wd) (l : List Nat) (kvs : List (List Key × V)) : Prop where
  ob : H a = some (.dT kvs)
  nd : (kvs.map (·.1)).Nodup
  ok : ∀ p ∈ kvs, ∃ (i : Nat) (st : List Nat) (n : Nat), p.1 = kyOf i st n ∧ i ≤ 4 ∧ n ≤ 4 ∧ st.length ≤ 8 ∧ (∀ c ∈ st, c ∈ CLO) ∧ p.2 = .int (An W st (l.drop i) n)
theorem Kn.len {H : Hp} {a : Addr} {W : Wd} {l : List Nat} {kvs : List (List Key × V)} (h : Kn H a W l kvs) : kvs.length ≤ 9765625 := by
  have h1 := nodup_len _ allK h.nd fun x hx => by
    obtain ⟨p, hp, rfl⟩ := List.mem_map.mp hx
    obtain ⟨i, st, n, e, k1, k2, k3, k4, _⟩ := h.ok p hp
    rw [e]
    exact allK_mem k1 k2 k3 k4
  rw [List.length_map] at h1
  exact Nat.le_trans h1 allK_len
theorem valV_mem {κ : Type} [DecidableEq κ] {k : κ} {v : V} : ∀ {kvs : List (κ × V)}, valV kvs k = some v → (k, v) ∈ kvs
  | [], h => by cases h
  | p :: r, h => by
    by_cases e : p.1 = k
    · rw [valV_pos e] at h
      injection h with h
      rw [← e, ← h]
      exact List.mem_cons_self ..
    · rw [valV_neg e] at h
      exact List.mem_cons_of_mem _ (valV_mem h)
theorem Kn.get {H : Hp} {a : Addr} {W : Wd} {l : List Nat} {kvs : List (List Key × V)} (h : Kn H a W l kvs) {i n : Nat} {st : List Nat} {v : V} (hv : valV kvs (kyOf i st n) = some v) : v = .int (An W st (l.drop i) n) := by
  obtain ⟨i', st', n', e, _, _, _, _, e2⟩ := h.ok _ (valV_mem hv)
  obtain ⟨rfl, rfl, rfl⟩ := kyOf_inj e
  exact e2
theorem putK_fst {κ : Type} [DecidableEq κ] (kvs : List (κ × V)) (k : κ) (v : V) : (putK kvs k v).map (·.1) = if k ∈ kvs.map (·.1) then kvs.map (·.1) else kvs.map (·.1) ++ [k] := by
  unfold putK
  by_cases h : k ∈ kvs.map (·.1)
  · rw [if_pos h, if_pos (by
      obtain ⟨p, hp, e⟩ := List.mem_map.mp h
      exact List.any_eq_true.mpr ⟨p, hp, by simpa using e⟩), List.map_map]
    refine List.map_congr_left fun p _ => ?_
    show (if p.1 = k then (p.1, v) else p).1 = p.1
    split <;> rfl
  · rw [if_neg h, if_neg (fun q => h (by
      obtain ⟨p, hp, e⟩ := List.any_eq_true.mp q
      exact List.mem_map.mpr ⟨p, hp, by simpa using e⟩)), List.map_append]
    rfl
theorem putK_mem {κ : Type} [DecidableEq κ] {kvs : List (κ × V)} {k : κ} {v : V} {p : κ × V} (h : p ∈ putK kvs k v) : p ∈ kvs ∨ p = (k, v) := by
  unfold putK at h
  split at h
  · obtain ⟨q, hq, e⟩ := List.mem_map.mp h
    split at e
    · rename_i e'
      exact .inr (by rw [← e, e'])
    · exact .inl (e ▸ hq)
  · rcases List.mem_append.mp h with h | h
    · exact .inl h
    · exact .inr (List.mem_singleton.mp h)
theorem Kn.put {H H1 : Hp} {a : Addr} {W : Wd} {l : List Nat} {kvs : List (List Key × V)} {i n : Nat} {st : List Nat} (h : Kn H a W l kvs) (hi : i ≤ 4) (hn : n ≤ 4) (hs : st.length ≤ 8) (hc : ∀ c ∈ st, c ∈ CLO) (e : H1 a = some (.dT (putK kvs (kyOf i st n) (.int (An W st (l.drop i) n))))) : Kn H1 a W l (putK kvs (kyOf i st n) (.int (An W st (l.drop i) n))) := by
  refine ⟨e, ?_, fun p hp => ?_⟩
  · rw [putK_fst]
    by_cases hm : kyOf i st n ∈ kvs.map (·.1)
    · rw [if_pos hm]; exact h.nd
    · rw [if_neg hm, List.nodup_append]
      refine ⟨h.nd, by simp, fun x hx y hy => ?_⟩
      rw [List.mem_singleton.mp hy]
      exact fun q => hm (q ▸ hx)
  · rcases putK_mem hp with hp | rfl
    · exact h.ok p hp
    · exact ⟨i, st, n, rfl, hi, hn, hs, hc, rfl⟩
theorem Kn.same {H H1 : Hp} {a : Addr} {W : Wd} {l : List Nat} {kvs : List (List Key × V)} (h : Kn H a W l kvs) (s : Same H H1) : Kn H1 a W l kvs := ⟨s _ _ h.ob, h.nd, h.ok⟩
/-! the least number, tried one by one -/
end Ly

set_option maxHeartbeats 4000000
namespace Ly
open PySem PySem.Spec PyProof.Rows L2 SX
/-! ### counted by their ends, with a great number where there are none -/
def En (x : MC) (e : Int × Int) : Prop := match x with
  | none => 1000 ≤ e.1 ∧ e.2 = 0
  | some p => e = ((p.1 : Int), (p.2 : Int))
def Bt (x : MC) (e : Int × Int) : Prop := match x with
  | none => e = (1000, 0)
  | some p => e = ((p.1 : Int), (p.2 : Int))
theorem Bt.en {x : MC} {e : Int × Int} (h : Bt x e) : En x e := by
  cases x with
  | none => rw [show e = (1000, 0) from h]; exact ⟨Int.le_refl _, rfl⟩
  | some p => exact h
theorem En.nn {x : MC} {e : Int × Int} (h : En x e) : 0 ≤ e.1 ∧ 0 ≤ e.2 := by
  cases x with
  | none => have h : 1000 ≤ e.1 ∧ e.2 = 0 := h; omega
  | some p => rw [show e = ((p.1 : Int), (p.2 : Int)) from h]; exact ⟨Int.natCast_nonneg _, Int.natCast_nonneg _⟩
theorem En.cnt {x : MC} {e : Int × Int} (h : En x e) : e.2 = (cnt x : Int) := by
  cases x with
  | none => exact (show 1000 ≤ e.1 ∧ e.2 = 0 from h).2
  | some p => rw [show e = ((p.1 : Int), (p.2 : Int)) from h]; rfl
/-! the least of a list, and how often -/
end Ly

set_option maxHeartbeats 4000000
namespace Ly
open PySem PySem.Spec PyProof.Rows L2 SX
/-! ### set(xs) of a list of ints, and its numbers sorted -/
section
variable {P : Program} {w : World} {A : Around} {E : Value → Shared → Prop} {s : Shared}
end
section
variable {X : Cx}
end
end Ly

set_option maxHeartbeats 4000000
namespace Ly
open PySem PySem.Spec PyProof.Rows L2 SX
/-! ### s.partition(' ') -/
end Ly

set_option maxHeartbeats 4000000
namespace Ly
open PySem PySem.Spec PyProof.Rows L2
/-! ### data of any kind in heaps, empty dicts too -/
mutual
inductive Dx (H : Hp) : V → PyData → Prop
  | non : Dx H .non .none
  | bl (b : Bool) : Dx H (.bl b) (.bool b)
  | int (i : Int) : Dx H (.int i) (.int i)
  | str (x : Str) : Dx H (.str x) (.str x)
  | lst {a : Addr} {xs : List V} {ds : List PyData} : H a = some (.lst xs) → DxAll H xs ds → Dx H (.ref a) (.list ds)
  | tup {a : Addr} {xs : List V} {ds : List PyData} : H a = some (.tup xs) → DxAll H xs ds → Dx H (.ref a) (.tuple ds)
  | dic {a : Addr} : H a = some (.dK []) → Dx H (.ref a) (.dict [])
inductive DxAll (H : Hp) : List V → List PyData → Prop
  | nil : DxAll H [] []
  | cons {v : V} {vs : List V} {d : PyData} {ds : List PyData} : Dx H v d → DxAll H vs ds → DxAll H (v :: vs) (d :: ds)
end
theorem DxAll.length {H : Hp} : ∀ {vs : List V} {ds : List PyData}, DxAll H vs ds → vs.length = ds.length
  | _, _, .nil => rfl
  | _, _, .cons _ h => by rw [List.length_cons, List.length_cons, h.length]
theorem DxAll.get {H : Hp} : ∀ {vs : List V} {ds : List PyData} {i : Nat} {v : V} {d : PyData}, DxAll H vs ds → vs[i]? = some v → ds[i]? = some d → Dx H v d
  | _, _, _, _, _, .nil, h, _ => by simp at h
  | _, _, 0, _, _, .cons h _, h1, h2 => by
    have e1 := Option.some.inj h1
    have e2 := Option.some.inj h2
    rw [← e1, ← e2]
    exact h
  | _, _, i + 1, _, _, .cons _ hs, h1, h2 => hs.get (i := i) h1 h2
theorem DxAll.append {H : Hp} : ∀ {vs ws : List V} {ds es : List PyData}, DxAll H vs ds → DxAll H ws es → DxAll H (vs ++ ws) (ds ++ es)
  | _, _, _, _, .nil, h => h
  | _, _, _, _, .cons h hs, h' => .cons h (hs.append h')
theorem DxAll.of {H : Hp} : ∀ {vs : List V} {ds : List PyData}, vs.length = ds.length → (∀ (i : Nat) (v : V) (d : PyData), vs[i]? = some v → ds[i]? = some d → Dx H v d) → DxAll H vs ds
  | [], [], _, _ => .nil
  | [], _ :: _, h, _ => by simp at h
  | _ :: _, [], h, _ => by simp at h
  | v :: vs, d :: ds, h, g => .cons (g 0 v d rfl rfl) (DxAll.of (by simpa using h) fun i v d h1 h2 => g (i + 1) v d h1 h2)
mutual
theorem dx_same {H H' : Hp} (s : ∀ b o, H b = some o → H' b = some o) : ∀ {v : V} {d : PyData}, Dx H v d → Dx H' v d
  | _, _, .non => .non
  | _, _, .bl b => .bl b
  | _, _, .int i => .int i
  | _, _, .str l => .str l
  | _, _, .lst h hs => .lst (s _ _ h) (dxs_same s hs)
  | _, _, .tup h hs => .tup (s _ _ h) (dxs_same s hs)
  | _, _, .dic h => .dic (s _ _ h)
theorem dxs_same {H H' : Hp} (s : ∀ b o, H b = some o → H' b = some o) : ∀ {vs : List V} {ds : List PyData}, DxAll H vs ds → DxAll H' vs ds
  | _, _, .nil => .nil
  | _, _, .cons h hs => .cons (dx_same s h) (dxs_same s hs)
end
section
variable {X : Cx} {pins : List (Addr × Obj)} {σ : L2.St} {H : Hp} {s : Shared}
end
end Ly

set_option maxHeartbeats 4000000
namespace Ly
open PySem PySem.Spec PyProof.Rows L2 SX
/-! ### kinds of things -/
inductive Ty5 where
  | str
  | int
  | bool
  | list
  | tuple
def Ty5.nm : Ty5 → String
  | .str => "str"
  | .int => "int"
  | .bool => "bool"
  | .list => "list"
  | .tuple => "tuple"
section
variable {K : PySem.W.Frag} {H : Hp} {Q : VK} {v : V} {d : PyData}
end
/-! ### the size of things -/
def nbK : Nat → Nat
  | 3 => 200
  | 2 => 45
  | 1 => 4
  | _ => 0
mutual
def nc : Nat → PyData → Bool
  | _, .none => true
  | _, .bool _ => true
  | _, .int i => decide (i.natAbs < 10 ^ 100)
  | _, .str s => decide (s.length ≤ 20) && s.cps.toList.all fun c => decide (c < 1114112)
  | k + 1, .list ds => decide (ds.length ≤ nbK (k + 1)) && ncA k ds
  | k + 1, .tuple ds => decide (ds.length ≤ nbK (k + 1)) && ncA k ds
  | 0, .list ds => ds.isEmpty
  | 0, .tuple ds => ds.isEmpty
  | _, .dict ds => ds.isEmpty
def ncA : Nat → List PyData → Bool
  | _, [] => true
  | k, d :: ds => nc k d && ncA k ds
end
theorem ncA_app {k : Nat} : ∀ {ds es : List PyData}, ncA k (ds ++ es) = (ncA k ds && ncA k es)
  | [], es => by rw [List.nil_append, ncA, Bool.true_and]
  | d :: ds, es => by rw [List.cons_append, ncA, ncA, ncA_app, Bool.and_assoc]
theorem ncA_mem {k : Nat} {ds : List PyData} : ncA k ds = true ↔ ∀ d ∈ ds, nc k d = true := by
  induction ds with
  | nil => exact ⟨fun _ d h => (by cases h), fun _ => rfl⟩
  | cons d ds ih =>
    rw [ncA, Bool.and_eq_true, ih]
    constructor
    · rintro ⟨h1, h2⟩ e he
      rcases List.mem_cons.mp he with rfl | he
      · exact h1
      · exact h2 e he
    · exact fun h => ⟨h d (List.mem_cons_self ..), fun e he => h e (List.mem_cons_of_mem _ he)⟩
section
variable {X : Cx}
end
/-! ### deeds among things -/
theorem Dds.dx {H : Hp} {a : Addr} {rs : List Addr} {ds : List Deed} (h : Dds H a rs ds) : Dx H (.ref a) (ddsD ds) := by
  refine .lst h.hd (.of (by rw [List.length_map, List.length_map]; exact h.len) fun k v d h1 h2 => ?_)
  rw [List.getElem?_map] at h1 h2
  cases e1 : rs[k]? with
  | none => rw [e1] at h1; cases h1
  | some r =>
    cases e2 : ds[k]? with
    | none => rw [e2] at h2; cases h2
    | some e =>
      rw [e1] at h1
      rw [e2] at h2
      rw [← Option.some.inj h1, ← Option.some.inj h2]
      exact .tup (h.it k r e e1 e2) (.cons (.int _) (.cons (.str _) (.cons (.str _) .nil)))
end Ly

set_option maxHeartbeats 4000000
namespace Ly
open PySem PySem.Spec PyProof.Rows L2 SX
/-! ### readings that tell things -/
/-- the heap without ps -/
def del (ps : List Addr) (H : Hp) : Hp := fun x => if x ∈ ps then none else H x
/-- all of ps stand -/
def Std (ps : List Addr) (H : Hp) : Prop := ∀ p ∈ ps, ∃ o, H p = some o
section
variable {q a b : Addr} {p : List Addr} {o : HO} {H H' H1 : Hp} {v : V} {d : PyData} {vs : List V} {ds : List PyData}
theorem Std.nil : Std [] H := fun _ h => by cases h
theorem Std.cons (h : H a = some o) (hs : Std p H) : Std (a :: p) H := fun x hx => by
  rcases List.mem_cons.mp hx with rfl | hx
  · exact ⟨_, h⟩
  · exact hs x hx
theorem Std.sm (h : Std p H) (s : Same H H') : Std p H' := fun x hx => let ⟨o, e⟩ := h x hx; ⟨o, s _ _ e⟩
theorem Std.new (h : Std p H) (nb : H b = none) : b ∉ p := fun hb => by
  obtain ⟨o, e⟩ := h b hb
  rw [nb] at e
  cases e
theorem del_get (n : a ∉ p) (h : H a = some o) : del p H a = some o := by unfold del; rw [if_neg n]; exact h
theorem del_un (h : del p H a = some o) : H a = some o ∧ a ∉ p := by
  unfold del at h
  by_cases e : a ∈ p
  · rw [if_pos e] at h; cases h
  · rw [if_neg e] at h; exact ⟨h, e⟩
theorem del_but (hq : q ∈ p) (s : But q H H') : ∀ b o, del p H b = some o → del p H' b = some o := fun b o h => del_get (del_un h).2 (s b o (fun e => (del_un h).2 (e ▸ hq)) (del_un h).1)
theorem del_same (s : Same H H') : ∀ b o, del p H b = some o → del p H' b = some o := fun b o h => del_get (del_un h).2 (s b o (del_un h).1)
theorem del_tl : ∀ c o, del (b :: p) H c = some o → del p H c = some o := fun c o h => del_get (fun hc => (del_un h).2 (List.mem_cons_of_mem _ hc)) (del_un h).1
theorem Dx.tl (h : Dx (del (b :: p) H) v d) : Dx (del p H) v d := dx_same del_tl h
theorem DxAll.tl (h : DxAll (del (b :: p) H) vs ds) : DxAll (del p H) vs ds := dxs_same del_tl h
theorem Dx.sm (h : Dx (del p H) v d) (s : Same H H') : Dx (del p H') v d := dx_same (del_same s) h
theorem Dx.bt (h : Dx (del p H) v d) (s : But q H H') (hq : q ∈ p := by simp) : Dx (del p H') v d := dx_same (del_but hq s) h
theorem DxAll.sm (h : DxAll (del p H) vs ds) (s : Same H H') : DxAll (del p H') vs ds := dxs_same (del_same s) h
theorem DxAll.bt (h : DxAll (del p H) vs ds) (s : But q H H') (hq : q ∈ p := by simp) : DxAll (del p H') vs ds := dxs_same (del_but hq s) h
theorem dxa_take {n : Nat} : ∀ {vs : List V} {ds : List PyData}, DxAll H vs ds → DxAll H (vs.take n) (ds.take n) := by
  induction n with
  | zero => intro vs ds _; exact .nil
  | succ n ih =>
    intro vs ds h
    cases h with
    | nil => exact .nil
    | cons h hs => exact .cons h (ih hs)
theorem dxa_drop {n : Nat} : ∀ {vs : List V} {ds : List PyData}, DxAll H vs ds → DxAll H (vs.drop n) (ds.drop n) := by
  induction n with
  | zero => intro vs ds h; exact h
  | succ n ih =>
    intro vs ds h
    cases h with
    | nil => exact .nil
    | cons h hs => exact ih hs
theorem dxa_set {d : PyData} {v : V} (hv : Dx H v d) : ∀ {vs : List V} {ds : List PyData} {n : Nat}, DxAll H vs ds → DxAll H (vs.set n v) (ds.set n d)
  | _, _, _, .nil => .nil
  | _, _, 0, .cons h hs => .cons hv hs
  | _, _, n + 1, .cons h hs => .cons h (dxa_set hv hs)
theorem dxa_rev : ∀ {vs : List V} {ds : List PyData}, DxAll H vs ds → DxAll H vs.reverse ds.reverse
  | _, _, .nil => .nil
  | _, _, .cons h hs => by rw [List.reverse_cons, List.reverse_cons]; exact (dxa_rev hs).append (.cons h .nil)
theorem dxa_rep {n : Nat} (h : DxAll H vs ds) : DxAll H (List.replicate n vs).flatten (List.replicate n ds).flatten := by
  induction n with
  | zero => exact .nil
  | succ n ih => rw [List.replicate_succ, List.replicate_succ, List.flatten_cons, List.flatten_cons]; exact h.append ih
end
def cutL {α : Type} (xs : List α) (lo hi : Option Int) : List α := (xs.drop (HT.sIx xs.length 0 lo)).take (HT.sIx xs.length xs.length hi - HT.sIx xs.length 0 lo)
theorem dxa_cut {H : Hp} {vs : List V} {ds : List PyData} {lo hi : Option Int} (h : DxAll H vs ds) : DxAll H (cutV vs lo hi) (cutL ds lo hi) := by
  show DxAll H ((vs.drop (HT.sIx vs.length 0 lo)).take (HT.sIx vs.length vs.length hi - HT.sIx vs.length 0 lo)) _
  unfold cutL
  rw [h.length]
  exact dxa_take (dxa_drop h)
theorem cutL_from {α : Type} {xs : List α} {i : Nat} : cutL xs (some (i : Int)) none = xs.drop i := by
  unfold cutL
  have e1 : HT.sIx xs.length 0 (some (i : Int)) = min i xs.length := by unfold HT.sIx; simp; omega
  have e2 : HT.sIx xs.length xs.length none = xs.length := by unfold HT.sIx; simp
  rw [e1, e2, List.take_of_length_le (by rw [List.length_drop]; exact Nat.le_refl _)]
  by_cases h : i ≤ xs.length
  · rw [Nat.min_eq_left h]
  · rw [Nat.min_eq_right (by omega), List.drop_eq_nil_of_le (Nat.le_refl _), List.drop_eq_nil_of_le (by omega)]
theorem cutL_to {α : Type} {xs : List α} {i : Nat} : cutL xs none (some (i : Int)) = xs.take i := by
  unfold cutL
  have e1 : HT.sIx xs.length xs.length (some (i : Int)) = min i xs.length := by unfold HT.sIx; simp; omega
  have e2 : HT.sIx xs.length 0 none = 0 := by unfold HT.sIx; simp
  rw [e1, e2, List.drop_zero, Nat.sub_zero]
  by_cases h : i ≤ xs.length
  · rw [Nat.min_eq_left h]
  · rw [Nat.min_eq_right (by omega), List.take_of_length_le (Nat.le_refl _), List.take_of_length_le (by omega)]
def Rd (p : List Addr) (t : TE) (σ : L2.St) (H : Hp) (d : PyData) : Prop := ∀ (H1 : Hp) (Q : VK), Same H H1 → (∀ v H2, Same H1 H2 → Dx (del p H2) v d → Q v H2) → t σ H1 Q
def RdA (p : List Addr) (t : TA) (σ : L2.St) (H : Hp) (ds : List PyData) : Prop := ∀ (H1 : Hp) (Q : List V → Hp → Prop), Same H H1 → (∀ vs H2, Same H1 H2 → DxAll (del p H2) vs ds → Q vs H2) → t σ H1 Q
def RdO (p : List Addr) (t : TO) (σ : L2.St) (H : Hp) (o : Option Int) : Prop := ∀ (H1 : Hp) (Q : Option Int → Hp → Prop), Same H H1 → (∀ H2, Same H1 H2 → Q o H2) → t σ H1 Q
section
variable {p : List Addr} {a : Addr} {t ta tb : TE} {ts : TA} {tl th : TO} {σ : L2.St} {H : Hp} {d e : PyData} {ds es : List PyData} {n : Nat} {v : V} {K : PySem.W.Frag} {i j : Int} {lo hi : Option Int}
theorem Rd.go {Q : VK} (h : Rd p t σ H d) (q : ∀ v H2, Same H H2 → Dx (del p H2) v d → Q v H2) : t σ H Q := h H Q (Same.refl _) q
theorem RdA.go {Q : List V → Hp → Prop} (h : RdA p ts σ H ds) (q : ∀ vs H2, Same H H2 → DxAll (del p H2) vs ds → Q vs H2) : ts σ H Q := h H Q (Same.refl _) q
theorem rd_int : Rd p (tC (.int i)) σ H (.int i) := fun H1 Q s q => q _ _ (Same.refl _) (.int i)
theorem rd_str {x : Str} : Rd p (tC (.str x)) σ H (.str x) := fun H1 Q s q => q _ _ (Same.refl _) (.str x)
theorem rd_bl {b : Bool} : Rd p (tC (.bl b)) σ H (.bool b) := fun H1 Q s q => q _ _ (Same.refl _) (.bl b)
theorem rd_non : Rd p (tC .non) σ H .none := fun H1 Q s q => q _ _ (Same.refl _) .non
theorem rd_var (h : σ[n]? = some (some v)) (hd : Dx (del p H) v d) : Rd p (tVar n) σ H d := fun H1 Q s q => ⟨v, h, q _ _ (Same.refl _) (hd.sm s)⟩
theorem rda_nil : RdA p tNil σ H [] := fun H1 Q s q => q _ _ (Same.refl _) .nil
theorem rda_cons (h1 : Rd p ta σ H d) (h2 : RdA p ts σ H ds) : RdA p (tCons ta ts) σ H (d :: ds) := fun H1 Q s q =>
  h1 H1 _ s fun v H2 s2 hv => h2 H2 _ (s.trans s2) fun vs H3 s3 hvs => q _ _ (s2.trans s3) (.cons (hv.sm s3) hvs)
theorem rd_tup (hp : Std p H) (h : RdA p ts σ H ds) (hl : ds.length ≤ 100000) : Rd p (tTup ts) σ H (.tuple ds) := fun H1 Q s q =>
  h H1 _ s fun vs H2 s2 hvs => ⟨by rw [hvs.length]; exact Nat.le_trans hl (by decide), fun b nb => by
    exact q _ _ (s2.trans (Same.new nb)) (.tup (del_get (Std.new (Std.sm (Std.sm hp s) s2) nb) upd_same) (hvs.sm (Same.new nb)))⟩
theorem rd_lst (hp : Std p H) (h : RdA p ts σ H ds) (hl : ds.length ≤ 100000) : Rd p (tLst ts) σ H (.list ds) := fun H1 Q s q =>
  h H1 _ s fun vs H2 s2 hvs => ⟨by rw [hvs.length]; exact Nat.le_trans hl (by decide), fun b nb => by
    exact q _ _ (s2.trans (Same.new nb)) (.lst (del_get (Std.new (Std.sm (Std.sm hp s) s2) nb) upd_same) (hvs.sm (Same.new nb)))⟩
theorem rd_dic (hp : Std p H) : Rd p tDNewK σ H (.dict []) := fun H1 Q s q => fun b nb => by
  exact q _ _ (Same.new nb) (.dic (del_get (Std.new (Std.sm hp s) nb) upd_same))
theorem rd_cat (hp : Std p H) (h1 : Rd p ta σ H (.list ds)) (h2 : Rd p tb σ H (.list es)) (hl : ds.length + es.length ≤ 100000) : Rd p (tOp rCat ta tb) σ H (.list (ds ++ es)) := fun H1 Q s q =>
  h1 H1 _ s fun v H2 s2 hv => h2 H2 _ (s.trans s2) fun w H3 s3 hw => by
    have hv := hv.sm s3
    cases hv with
    | lst k1 k2 =>
      cases hw with
      | lst k3 k4 =>
        refine g_cat (del_un k1).1 (del_un k3).1 (by rw [k2.length, k4.length]; exact hl) fun b H4 nb s4 eb => ?_
        exact q _ _ (s2.trans (s3.trans s4)) (.lst (del_get (Std.new (Std.sm (Std.sm (Std.sm hp s) s2) s3) nb) eb) ((k2.append k4).sm s4))
theorem rd_rep {m : Nat} (hp : Std p H) (h1 : Rd p ta σ H (.list ds)) (h2 : Rd p tb σ H (.int (m : Int))) (hl : ds.length * m ≤ 100000 ∧ m ≤ 100000) : Rd p (tOp rRep ta tb) σ H (.list (List.replicate m ds).flatten) := fun H1 Q s q =>
  h1 H1 _ s fun v H2 s2 hv => h2 H2 _ (s.trans s2) fun w H3 s3 hw => by
    have hv := hv.sm s3
    cases hw with
    | int _ =>
      cases hv with
      | lst k1 k2 =>
        refine g_rep (del_un k1).1 (by rw [k2.length]; exact hl.1) hl.2 fun b H4 nb s4 eb => ?_
        exact q _ _ (s2.trans (s3.trans s4)) (.lst (del_get (Std.new (Std.sm (Std.sm (Std.sm hp s) s2) s3) nb) eb) ((dxa_rep k2).sm s4))
theorem rd_rev (hp : Std p H) (h1 : Rd p ta σ H (.list ds)) : Rd p (tRevL K ta) σ H (.list ds.reverse) := fun H1 Q s q =>
  h1 H1 _ s fun v H2 s2 hv => by
    cases hv with
    | lst k1 k2 =>
      refine g_revL (sq_of (del_un k1).1) fun b H4 nb s4 eb => ?_
      exact q _ _ (s2.trans s4) (.lst (del_get (Std.new (Std.sm (Std.sm hp s) s2) nb) eb) ((dxa_rev k2).sm s4))
theorem rdo_none : RdO p tNoPart σ H none := fun H1 Q s q => q _ (Same.refl _)
theorem rdo_some (h : Rd p ta σ H (.int i)) : RdO p (tPart ta) σ H (some i) := fun H1 Q s q => h H1 _ s fun v H2 s2 hv => by
  cases hv
  exact ⟨i, rfl, q _ s2⟩
theorem rd_cut (hp : Std p H) (h1 : Rd p ta σ H (.list ds)) (hlo : RdO p tl σ H lo) (hhi : RdO p th σ H hi) : Rd p (tSl (rSlL K) ta tl th) σ H (.list (cutL ds lo hi)) := fun H1 Q s q =>
  h1 H1 _ s fun v H2 s2 hv => hlo H2 _ (s.trans s2) fun H3 s3 => hhi H3 _ (s.trans (s2.trans s3)) fun H4 s4 => by
    have hv := hv.sm (s3.trans s4)
    cases hv with
    | lst k1 k2 =>
      refine g_slL (sq_of (del_un k1).1) fun b H5 nb s5 eb => ?_
      exact q _ _ (s2.trans (s3.trans (s4.trans s5))) (.lst (del_get (Std.new (Std.sm (Std.sm (Std.sm (Std.sm hp s) s2) s3) s4) nb) eb) ((dxa_cut k2).sm s5))
theorem rd_tupOf (hp : Std p H) (h1 : RdA p ts σ H [.list ds]) : Rd p (tCB (rTupleOf K) ts) σ H (.tuple ds) := fun H1 Q s q =>
  h1 H1 _ s fun vs H2 s2 hv => by
    cases hv with
    | cons hv h0 =>
      cases h0
      cases hv with
      | lst k1 k2 =>
        refine g_tupleOfL (del_un k1).1 fun b H5 nb s5 eb => ?_
        exact q _ _ (s2.trans s5) (.tup (del_get (Std.new (Std.sm (Std.sm hp s) s2) nb) eb) (k2.sm s5))
theorem rd_lstOf (hp : Std p H) (h1 : RdA p ts σ H [.list ds]) : Rd p (tCB (rListOf K) ts) σ H (.list ds) := fun H1 Q s q =>
  h1 H1 _ s fun vs H2 s2 hv => by
    cases hv with
    | cons hv h0 =>
      cases h0
      cases hv with
      | lst k1 k2 =>
        refine g_listOfL (del_un k1).1 fun b H5 nb s5 eb => ?_
        exact q _ _ (s2.trans s5) (.lst (del_get (Std.new (Std.sm (Std.sm hp s) s2) nb) eb) (k2.sm s5))
theorem rd_I0 {g : Int → Int → Int} (h1 : Rd p ta σ H (.int i)) (h2 : Rd p tb σ H (.int j)) : Rd p (tOp (rI0 fun i j => .int (g i j)) ta tb) σ H (.int (g i j)) := fun H1 Q s q =>
  h1 H1 _ s fun v H2 s2 hv => h2 H2 _ (s.trans s2) fun w H3 s3 hw => by
    cases hv
    cases hw
    exact g_I0 (q _ _ (s2.trans s3) (.int _))
theorem rd_I {C : Int → Int → Prop} {g : Int → Int → Int} (h1 : Rd p ta σ H (.int i)) (h2 : Rd p tb σ H (.int j)) (c : C i j) : Rd p (tOp (rI C fun i j => .int (g i j)) ta tb) σ H (.int (g i j)) := fun H1 Q s q =>
  h1 H1 _ s fun v H2 s2 hv => h2 H2 _ (s.trans s2) fun w H3 s3 hw => by
    cases hv
    cases hw
    exact g_I c (q _ _ (s2.trans s3) (.int _))
theorem rd_U {g : Int → Int} (h1 : Rd p ta σ H (.int i)) : Rd p (tUn (rU fun i => .int (g i)) ta) σ H (.int (g i)) := fun H1 Q s q =>
  h1 H1 _ s fun v H2 s2 hv => by
    cases hv
    exact g_U (q _ _ s2 (.int _))
theorem rd_eqI (h1 : Rd p ta σ H (.int i)) (h2 : Rd p tb σ H (.int j)) : Rd p (tOp rEq ta tb) σ H (.bool (decide (i = j))) := fun H1 Q s q =>
  h1 H1 _ s fun v H2 s2 hv => h2 H2 _ (s.trans s2) fun w H3 s3 hw => by
    cases hv
    cases hw
    refine g_eq rfl ?_
    rw [show decide (V.int i = V.int j) = decide (i = j) by rw [decide_eq_decide]; exact ⟨fun h => V.int.inj h, fun h => by rw [h]⟩]
    exact q _ _ (s2.trans s3) (.bl _)
theorem rd_ixT {l : List Nat} {c : Nat} (h1 : Rd p ta σ H (.str (S l))) (h2 : Rd p tb σ H (.int i)) (hl : l.length ≤ 100000) (hc : atI l i = some c) : Rd p (tOp rIxT1 ta tb) σ H (.str (S [c])) := fun H1 Q s q =>
  h1 H1 _ s fun v H2 s2 hv => h2 H2 _ (s.trans s2) fun w H3 s3 hw => by
    cases hv
    cases hw
    exact g_ixT hl hc (q _ _ (s2.trans s3) (.str _))
theorem rd_ixL (h1 : Rd p ta σ H (.list ds)) (h2 : Rd p tb σ H (.int i)) (hc : atI ds i = some d) : Rd p (tOp (rIxL K) ta tb) σ H d := fun H1 Q s q =>
  h1 H1 _ s fun v H2 s2 hv => h2 H2 _ (s.trans s2) fun w H3 s3 hw => by
    have hv := hv.sm s3
    cases hw
    cases hv with
    | @lst _ xs _ k1 k2 =>
      have hl := k2.length
      unfold atI at hc
      cases hk : ixN ds.length i with
      | none => rw [hk] at hc; cases hc
      | some k =>
        rw [hk] at hc
        have hc' : ds[k]? = some d := hc
        have hkl := (List.getElem?_eq_some_iff.mp hc').1
        obtain ⟨x, hx⟩ : ∃ x, xs[k]? = some x := ⟨_, List.getElem?_eq_getElem (by omega)⟩
        refine g_ixL (sq_of (del_un k1).1) (v := x) ?_ (q _ _ (s2.trans s3) (k2.get hx hc'))
        unfold atI
        rw [hl, hk]
        exact hx
end
section
variable {p : List Addr} {a : Addr} {t ta tb : TE} {ts : TA} {tl th : TO} {σ : L2.St} {H : Hp} {d e : PyData} {ds es : List PyData} {n : Nat} {v : V} {K : PySem.W.Frag} {i j : Int} {lo hi : Option Int}
/-- the first ones to a place, from the end where it is below 0 -/
def cutTo (ds : List PyData) (i : Int) : List PyData := ds.take (if 0 ≤ i then i.toNat else ds.length - (-i).toNat)
theorem cutTo_eq {ds : List PyData} {i : Int} : cutL ds none (some i) = cutTo ds i := by
  unfold cutTo
  by_cases h : 0 ≤ i
  · rw [if_pos h]
    obtain ⟨k, rfl⟩ := Int.eq_ofNat_of_zero_le h
    exact cutL_to
  · rw [if_neg h]
    unfold cutL
    have e2 : HT.sIx ds.length 0 none = 0 := by unfold HT.sIx; simp
    have e1 : HT.sIx ds.length ds.length (some i) = ds.length - (-i).toNat := by
      have hi : i < 0 := by omega
      unfold HT.sIx
      simp [hi]
      omega
    rw [e1, e2, List.drop_zero, Nat.sub_zero]
theorem rd_to (hp : Std p H) (h1 : Rd p ta σ H (.list ds)) (hhi : Rd p tb σ H (.int i)) : Rd p (tSl (rSlL K) ta tNoPart (tPart tb)) σ H (.list (cutTo ds i)) := by
  rw [← cutTo_eq]
  exact rd_cut hp h1 rdo_none (rdo_some hhi)
theorem rd_from (hp : Std p H) (h1 : Rd p ta σ H (.list ds)) (hlo : Rd p tb σ H (.int i)) (h0 : 0 ≤ i) : Rd p (tSl (rSlL K) ta (tPart tb) tNoPart) σ H (.list (ds.drop i.toNat)) := by
  obtain ⟨k, rfl⟩ := Int.eq_ofNat_of_zero_le h0
  rw [show ds.drop ((k : Int)).toNat = cutL ds (some (k : Int)) none from cutL_from.symm]
  exact rd_cut hp h1 (rdo_some hlo) rdo_none
theorem rd_rep2 (hp : Std p H) (h1 : Rd p ta σ H (.list ds)) (hl : ds.length ≤ 1000) : Rd p (tOp rRep ta (tC (.int 2))) σ H (.list (ds ++ ds)) := by
  have := rd_rep (m := 2) hp h1 (rd_int (i := ((2 : Nat) : Int))) ⟨by omega, by decide⟩
  simpa [List.replicate_succ] using this
theorem rd_lenL (h1 : RdA p ts σ H [.list ds]) : Rd p (tCB (rLenL K) ts) σ H (.int ds.length) := fun H1 Q s q =>
  h1 H1 _ s fun vs H2 s2 hv => by
    cases hv with
    | cons hv h0 =>
      cases h0
      cases hv with
      | lst k1 k2 =>
        refine g_lenL (sq_of (del_un k1).1) ?_
        rw [k2.length]
        exact q _ _ s2 (.int _)
theorem rd_lenT {l : List Nat} (h1 : RdA p ts σ H [.str (S l)]) (hl : l.length ≤ 100000) : Rd p (tCB rLenT ts) σ H (.int l.length) := fun H1 Q s q =>
  h1 H1 _ s fun vs H2 s2 hv => by
    cases hv with
    | cons hv h0 =>
      cases h0
      cases hv
      exact g_lenT hl (q _ _ s2 (.int _))
end
section
variable {r : R2} {ta tb : TE} {te : TE} {ts : TA} {σ : L2.St} {H : Hp} {Q : VK} {rr : List V → Hp → VK → Prop}
end
/-! a list that is found, step by step -/
def Fnd (p : List Addr) (f : Addr) (H : Hp) (ds : List PyData) : Prop := ∃ xs, H f = some (.lst xs) ∧ f ∉ p ∧ DxAll (del (f :: p) H) xs ds
section
variable {p : List Addr} {f q : Addr} {t ta tb te : TE} {ts : TA} {σ : L2.St} {H H' : Hp} {d e : PyData} {ds es : List PyData} {n : Nat} {v : V} {K : PySem.W.Frag} {Q : VK}
theorem Fnd.sm (F : Fnd p f H ds) (s : Same H H') : Fnd p f H' ds := by
  obtain ⟨xs, h1, h2, h3⟩ := F
  exact ⟨xs, s _ _ h1, h2, h3.sm s⟩
theorem Fnd.bt (F : Fnd p f H ds) (s : But q H H') (hq : q ∈ p) : Fnd p f H' ds := by
  obtain ⟨xs, h1, h2, h3⟩ := F
  exact ⟨xs, s _ _ (fun e => h2 (e ▸ hq)) h1, h2, h3.bt s (List.mem_cons_of_mem _ hq)⟩
theorem Fnd.dx (F : Fnd p f H ds) : Dx (del p H) (.ref f) (.list ds) := by
  obtain ⟨xs, h1, h2, h3⟩ := F
  exact .lst (del_get h2 h1) h3.tl
end
section
variable {K : PySem.W.Frag} {c : TT} {A B : TS} {D : Ends} {σ : L2.St} {H : Hp} {b : Bool}
end
theorem atI_hd {α : Type} (x : α) (xs : List α) : atI (x :: xs) 0 = some x := by
  unfold atI ixN
  rw [if_pos (by decide), if_pos (by simp only [List.length_cons]; omega)]
  rfl
section
variable {p : List Addr} {f : Addr} {ts : TA} {σ : L2.St} {H H' : Hp} {d : PyData} {ds : List PyData} {n : Nat} {v : V} {K : PySem.W.Frag} {Q : VK} {R : Hp → Prop}
theorem Fnd.set (F : Fnd p f H ds) (hd : Dx (del (f :: p) H) v d) (hn : n < ds.length) (q : ∀ H', But f H H' → Fnd p f H' (ds.set n d) → R H') : rSetL (.ref f) (.int (n : Int)) v H R := by
  obtain ⟨xs, h1, h2, h3⟩ := F
  refine g_setLn n h1 rfl (by rw [h3.length]; exact hn) fun H3 b3 e3 => ?_
  exact q H3 b3 ⟨_, e3, h2, dxa_set (hd.bt b3 (List.mem_cons_self ..)) (h3.bt b3 (List.mem_cons_self ..))⟩
end
/-! sizes -/
section
variable {k : Nat} {ds es : List PyData} {d : PyData} {i : Int}
theorem nca_nil : ncA k [] = true := by rw [ncA]
theorem nca_cons (h : nc k d = true) (hs : ncA k ds = true) : ncA k (d :: ds) = true := by rw [ncA, h, hs]; rfl
theorem nca_app (h : ncA k ds = true) (hs : ncA k es = true) : ncA k (ds ++ es) = true := by rw [ncA_app, h, hs]; rfl
theorem nca_sub (h : ncA k ds = true) (hs : ∀ d ∈ es, d ∈ ds) : ncA k es = true := ncA_mem.mpr fun d hd => ncA_mem.mp h d (hs d hd)
theorem nca_take {n : Nat} (h : ncA k ds = true) : ncA k (ds.take n) = true := nca_sub h fun d hd => List.mem_of_mem_take hd
theorem nca_drop {n : Nat} (h : ncA k ds = true) : ncA k (ds.drop n) = true := nca_sub h fun d hd => List.mem_of_mem_drop hd
theorem nca_cutTo (h : ncA k ds = true) : ncA k (cutTo ds i) = true := nca_take h
theorem nca_rev (h : ncA k ds = true) : ncA k ds.reverse = true := nca_sub h fun d hd => List.mem_reverse.mp hd
theorem nc_non : nc k .none = true := by cases k <;> rfl
theorem nc_bl {b : Bool} : nc k (.bool b) = true := by cases k <;> rfl
theorem nc_int (h : i.natAbs ≤ 1000000) : nc k (.int i) = true := by
  have : decide (i.natAbs < 10 ^ 100) = true := decide_eq_true (Nat.lt_of_le_of_lt h (by decide))
  cases k <;> exact this
theorem nc_big (h : i.natAbs < 10 ^ 100) : nc k (.int i) = true := by
  have : decide (i.natAbs < 10 ^ 100) = true := decide_eq_true h
  cases k <;> exact this
theorem nc_strS {l : List Nat} (h1 : l.length ≤ 20) (h2 : ∀ c ∈ l, c < 1114112) : nc k (.str (S l)) = true := by
  have : (decide ((S l).length ≤ 20) && (S l).cps.toList.all fun c => decide (c < 1114112)) = true := by
    rw [S_len, decide_eq_true h1, Bool.true_and]
    exact List.all_eq_true.mpr fun c hc => decide_eq_true (h2 c hc)
  cases k <;> exact this
theorem nc_dic : nc k (.dict []) = true := by cases k <;> rfl
theorem nc_tup (hl : ds.length ≤ nbK (k + 1)) (h : ncA k ds = true) : nc (k + 1) (.tuple ds) = true := by
  simp only [nc]
  rw [decide_eq_true hl, h]
  rfl
theorem nc_lst (hl : ds.length ≤ nbK (k + 1)) (h : ncA k ds = true) : nc (k + 1) (.list ds) = true := by
  simp only [nc]
  rw [decide_eq_true hl, h]
  rfl
theorem nc_tup0 : nc k (.tuple []) = true := by cases k <;> rfl
theorem nc_lst0 : nc k (.list []) = true := by cases k <;> rfl
end
/-! a list of things, some of them known -/
end Ly

set_option maxHeartbeats 4000000
namespace Ly
open PySem PySem.Spec PyProof.Rows L2 SX
/-! ### calls of defs that show things -/
section
variable {X : Cx} {k j : Nat} {x : Str} {sp : Sp} {p pos : Pos} {e : Expr} {es : List Expr} {t : TA} {f : Addr} {fd : FuncData} {ps : List Str}
end
end Ly

set_option maxHeartbeats 4000000
namespace Ly
open PySem PySem.Spec PyProof.Rows L2 SX
/-! ### == of any list with the empty one; of a thing with itself or a copy -/
def rEqE (K : PySem.W.Frag) : R2 := fun x y H Q => ∃ a b xs, x = .ref a ∧ y = .ref b ∧ SqL K H a xs ∧ SqL K H b [] ∧ Q (.bl (decide (xs = []))) H
section
variable {X : Cx} {f : Value → Value → Sem Value} {r1 r2 : R2}
theorem op_eqE (hu : X.A.units + 64 < cLine) : OpR X (compareOp .Eq) (rEqE X.K) := by
  intro pins s σ H x y v u Q I rx ry h
  obtain ⟨a, b, xs, rfl, rfl, ha, hb, q⟩ := h
  cases (show v = Value.ref a from rx)
  cases (show u = Value.ref b from ry)
  obtain ⟨us, v1, p1, _⟩ := I.list ha
  obtain ⟨ws, v2, p2, _⟩ := I.list hb
  cases v2
  cases xs with
  | nil =>
    cases v1
    exact SeqAt.RcAt.lists (e := fun _ => true) p1.isList p2.isList rfl (by omega) (fun j h1 => absurd h1 (Nat.not_lt_zero j)) _ _ _ _ ⟨.bl true, H, I, rfl, q⟩
  | cons x xs =>
    cases v1 with
    | cons e1 e2 => exact SeqAt.RcAt.lists_lengths p1.isList p2.isList (by simp) (by omega) _ _ _ _ ⟨.bl false, H, I, rfl, q⟩
end
section
variable {K : PySem.W.Frag} {H : Hp} {Q : VK} {a b : Addr} {xs : List V} {v : V} {d : PyData}
theorem g_eqE (h1 : SqL K H a xs) (h2 : H b = some (.lst [])) (q : Q (.bl (decide (xs = []))) H) : rEqE K (.ref a) (.ref b) H Q := ⟨a, b, xs, rfl, rfl, h1, sq_of h2, q⟩
end
/-! sorted(list of ints), any length -/
end Ly

set_option maxHeartbeats 4000000
namespace Ly
open PySem PySem.Spec PyProof.Rows L2 SX
/-! ### brackets that stand alone, and mendings of them -/
inductive Lon : List Nat → List Nat → Prop
  | base {w : List Nat} : clean w → Lon w []
  | snoc {x ps : List Nat} {c : Nat} {w : List Nat} : Lon x ps → c ∈ BRK → clean w → Lon (x ++ c :: w) (ps ++ [x.length])
theorem Lon.app {x ps v : List Nat} (h : Lon x ps) (hv : clean v) : Lon (x ++ v) ps := by
  cases h with
  | base hw => exact .base (clean_app hw hv)
  | snoc h hc hw =>
    rw [List.append_assoc, List.cons_append]
    exact .snoc h hc (clean_app hw hv)
theorem Lon.push {x ps : List Nat} {c : Nat} (h : Lon x ps) (hc : c ∈ BRK) : Lon (x ++ [c]) (ps ++ [x.length]) := .snoc h hc clean_nil
theorem Lon.letter {x ps : List Nat} {c : Nat} (h : Lon x ps) (hc : c ∉ BRK) : Lon (x ++ [c]) ps := h.app (clean_one hc)
theorem Lon.lt {x ps : List Nat} (h : Lon x ps) : ∀ p ∈ ps, p < x.length ∧ ∃ c ∈ BRK, x[p]? = some c := by
  induction h with
  | base _ => intro p hp; cases hp
  | @snoc y ps' c' w h1 h2 h3 ih =>
    intro p hp
    rcases List.mem_append.mp hp with hp | hp
    · obtain ⟨k1, c, k2, k3⟩ := ih p hp
      refine ⟨by rw [List.length_append]; omega, c, k2, ?_⟩
      rw [List.getElem?_append_left k1]
      exact k3
    · rw [List.mem_singleton.mp hp]
      refine ⟨by rw [List.length_append, List.length_cons]; omega, c', h2, ?_⟩
      rw [List.getElem?_append_right (Nat.le_refl _), Nat.sub_self]
      rfl
/-! all alone ones struck -/
/-! each with a partner beside it -/
/-! all brackets struck -/
/-! the alone ones turned into pairs -/
end Ly

set_option maxHeartbeats 4000000
namespace Ly
open PySem PySem.Spec PyProof.Rows L2 SX
/-! ### the statements within a statement -/
/-! ### a dict of texts by texts at the top of the module -/
/-- an entry, where key and value are texts: both and the hash -/
def entT (e : DictEntry) : Option (Str × Str × Int) := match e.key, e.val with
  | .str x _, .str y _ => some (x, y, e.hash)
  | _, _ => none
def dicT (K : PySem.W.Frag) (a : Addr) : Option (List (Option (Str × Str × Int))) := match K.lookup a with
  | some ⟨.type c, none, .dict es _, sl⟩ => bif decide (c = "dict") && (sl.isEmpty && !(a == sysModules)) then some (es.toList.map entT) else none
  | _ => none
def entsOf (P : Params) (kvs : List (Str × Str)) : List (Option (Str × Str × Int)) := kvs.map fun kv => some (kv.1, kv.2, PyData.keyHash P kv.1)
/-- at a stands a written dict: these texts by these texts -/
def MkD (w : World) (K : PySem.W.Frag) (a : Addr) (kvs : List (Str × Str)) : Prop := dicT K a = some (entsOf w.params kvs)
theorem entT_inv {e : DictEntry} {x y : Str} {h : Int} (q : entT e = some (x, y, h)) : (∃ t, e.key = .str x t) ∧ (∃ t, e.val = .str y t) ∧ e.hash = h := by
  unfold entT at q
  split at q
  · rename_i x' t y' t' e1 e2
    have q' := Option.some.inj q
    obtain ⟨q1, q2⟩ := Prod.mk.inj q'
    obtain ⟨q3, q4⟩ := Prod.mk.inj q2
    subst q1 q3 q4
    exact ⟨⟨_, e1⟩, ⟨_, e2⟩, rfl⟩
  · cases q
theorem MkD.es {w : World} {K : PySem.W.Frag} {a : Addr} {kvs : List (Str × Str)} (D : MkD w K a kvs) : ∃ es n, K.lookup a = some ⟨.type "dict", none, .dict es n, #[]⟩ ∧ es.toList.map entT = entsOf w.params kvs ∧ (a == sysModules) = false := by
  unfold MkD dicT at D
  split at D
  · rename_i c es n sl q
    cases z : (decide (c = "dict") && (sl.isEmpty && !(a == sysModules))) with
    | false => rw [z] at D; cases D
    | true =>
      rw [z] at D
      rw [Bool.and_eq_true, Bool.and_eq_true] at z
      obtain ⟨z1, z2, z3⟩ := z
      have e1 : c = "dict" := of_decide_eq_true z1
      have e2 : sl = #[] := Array.isEmpty_iff.mp z2
      subst e1 e2
      exact ⟨es, n, q, Option.some.inj D, by simpa using z3⟩
  · cases D
theorem lit_of {P : Params} : ∀ {l : List DictEntry} {kvs : List (Str × Str)}, l.map entT = entsOf P kvs → PySem.W.KeysLit P l
  | [], _, _ => trivial
  | e :: r, [], h => by cases h
  | e :: r, kv :: kvs, h => by
    have h1 : entT e :: r.map entT = some (kv.1, kv.2, PyData.keyHash P kv.1) :: entsOf P kvs := h
    injection h1 with h2 h3
    obtain ⟨⟨t, k1⟩, _, k3⟩ := entT_inv h2
    exact ⟨⟨kv.1, t, k1, k3⟩, lit_of h3⟩
/-- what stands by a key -/
def byK (kvs : List (Str × Str)) (x : Str) : Option Str := (kvs.find? fun kv => kv.1 == x).map Prod.snd
theorem find_ents {P : Params} {x : Str} : ∀ {l : List DictEntry} {kvs : List (Str × Str)}, l.map entT = entsOf P kvs → l.any (·.refKey) = false ∧
    match byK kvs x with
    | some y => ∃ e t, l.find? (·.key.isStr x) = some e ∧ e.val = .str y t
    | none => l.find? (·.key.isStr x) = none
  | [], kvs, h => by
    cases kvs with
    | nil => exact ⟨rfl, rfl⟩
    | cons kv kvs => cases h
  | e :: r, [], h => by cases h
  | e :: r, kv :: kvs, h => by
    have h1 : entT e :: r.map entT = some (kv.1, kv.2, PyData.keyHash P kv.1) :: entsOf P kvs := h
    injection h1 with h2 h3
    obtain ⟨⟨t, k1⟩, ⟨t', k2⟩, _⟩ := entT_inv h2
    obtain ⟨i1, i2⟩ := find_ents (x := x) h3
    refine ⟨by rw [List.any_cons, i1, Bool.or_false]; unfold DictEntry.refKey; rw [k1], ?_⟩
    have ek : e.key.isStr x = (kv.1 == x) := by rw [k1]; rfl
    unfold byK at i2 ⊢
    rw [List.find?_cons, List.find?_cons]
    simp only [ek]
    cases hb : (kv.1 == x) with
    | true => exact ⟨e, t', rfl, k2⟩
    | false => exact i2
theorem MkD.nsIn {w : World} {K : PySem.W.Frag} {a : Addr} {kvs : List (Str × Str)} (D : MkD w K a kvs) (x : Str) : ∃ r, PySem.W.nsIn K a x = some r ∧ match byK kvs x with
    | some y => ∃ t, r = some (.str y t)
    | none => r = none := by
  obtain ⟨es, n, h1, h2, h3⟩ := D.es
  obtain ⟨f1, f2⟩ := find_ents (x := x) h2
  unfold PySem.W.nsIn
  rw [h1]
  cases hb : byK kvs x with
  | none =>
    rw [hb] at f2
    dsimp only at f2 ⊢
    rw [f2]
    refine ⟨none, ?_, rfl⟩
    simp only [f1, Bool.false_eq_true, if_false]
  | some y =>
    rw [hb] at f2
    obtain ⟨e, t, k1, k2⟩ := f2
    dsimp only
    rw [k1]
    exact ⟨some e.val, rfl, t, by rw [k2]⟩
theorem MkD.kd {w : World} {K : PySem.W.Frag} {a : Addr} {kvs : List (Str × Str)} (D : MkD w K a kvs) : ∃ es n, KDict K w a es n := by
  obtain ⟨es, n, h1, h2, h3⟩ := D.es
  exact ⟨es, n, h1, lit_of h2, h3⟩
theorem MkD.some {w : World} {K : PySem.W.Frag} {a : Addr} {kvs : List (Str × Str)} (D : MkD w K a kvs) (x : Str) : ∃ r, PySem.W.nsIn K a x = some r ∧ r.isSome = (byK kvs x).isSome := by
  obtain ⟨r, h1, h2⟩ := D.nsIn x
  refine ⟨r, h1, ?_⟩
  cases hb : byK kvs x with
  | none => rw [hb] at h2; rw [show r = none from h2]; rfl
  | some y => rw [hb] at h2; obtain ⟨t, rfl⟩ := h2; rfl
/-! the keys, one by one -/
def Itmk (kvs : List (Str × Str)) : It := ⟨fun i _ => i < kvs.length, fun i H x H' => H' = H ∧ ∃ kv, kvs[i]? = some kv ∧ x = .str kv.1, fun i _ => kvs.length ≤ i⟩
def iKd (d : Addr) (kvs : List (Str × Str)) (td : TE) : TI := fun σ H R => td σ H fun x H1 => x = .ref d ∧ R (Itmk kvs) H1
/-! the head's facts with such dicts -/
end Ly

set_option maxHeartbeats 4000000
namespace Ly
open PySem PySem.Spec PyProof.Rows L2 SX
/-! ### figures -/
/-! ### s.rstrip(signs) -/
/-! ### a comprehension over a dict's keys -/
/-! ### deeds written -/
def Dw.mk : Dw → Nat
  | .put _ => 43
  | .str => 45
  | .trn _ => 61
theorem Dds.app {H H' : Hp} {a b c : Addr} {r1 r2 : List Addr} {d1 d2 : List Deed} (h1 : Dds H a r1 d1) (h2 : Dds H b r2 d2) (s : Same H H') (e : H' c = some (.lst (r1.map V.ref ++ r2.map V.ref))) : Dds H' c (r1 ++ r2) (d1 ++ d2) := by
  refine ⟨by rw [e, List.map_append], by rw [List.length_append, List.length_append, h1.len, h2.len], fun k r d hr hd => ?_⟩
  have hl := h1.len
  by_cases hk : k < r1.length
  · rw [List.getElem?_append_left hk] at hr
    rw [List.getElem?_append_left (by omega)] at hd
    exact s _ _ (h1.it k r d hr hd)
  · rw [List.getElem?_append_right (by omega)] at hr
    rw [List.getElem?_append_right (by omega), ← hl] at hd
    exact s _ _ (h2.it _ r d hr hd)
theorem Dds.one {H H' : Hp} {t a : Addr} {d : Deed} (h : H t = some (.tup (ddV d))) (s : Same H H') (e : H' a = some (.lst [.ref t])) : Dds H' a [t] [d] := by
  refine ⟨e, rfl, fun k r x hr hx => ?_⟩
  cases k with
  | zero => rw [← Option.some.inj hr, ← Option.some.inj hx]; exact s _ _ h
  | succ k => cases hr
end Ly

set_option maxHeartbeats 4000000
namespace Ly
open PySem PySem.Spec PyProof.Rows L2 SX
/-! ### repr of things whose size is told -/
section
variable {X : Cx}
end
theorem Dx.two {H : Hp} {p : Addr} {v w : V} {a b : PyData} (h : H p = some (.lst [v, w])) (ha : Dx H v a) (hb : Dx H w b) : Dx H (.ref p) (.list [a, b]) := .lst h (.cons ha (.cons hb .nil))
end Ly

set_option maxHeartbeats 4000000
namespace Ly
open PySem PySem.Spec PyProof.Rows L2 SX
/-! ### outlines of any text read -/
/-! lines of a text -/
/-! depth and size by the lines -/
/-! lines put together -/
end Ly

set_option maxHeartbeats 4000000
namespace Ly
/-! ### least rows by first steps -/
/-- what is done at the first sign (h), and one part from a on; or two parts, from a to m, and behind t from b on -/
inductive Fs where
  | one (h : Stp) (a : Nat)
  | two (h : Stp) (a m : Nat) (t : Stp) (b : Nat)
  deriving DecidableEq
def cN (l : List Nat) (i j : Nat) : Nat := match mcN l wAll i j with | some p => p.1 | none => 0
def kN (l : List Nat) (i j : Nat) : Nat := cnt (mcN l wAll i j)
theorem mc_ck {l : List Nat} {i j : Nat} (h : i ≤ j) (hj : j ≤ l.length) : mcN l wAll i j = some (cN l i j, kN l i j) := by
  have := mcN_some (l := l) (W := wAll) rfl (j - i) i (by omega)
  rw [show i + (j - i) = j by omega] at this
  unfold cN kN
  cases e : mcN l wAll i j with
  | none => exact absurd e this
  | some p => rfl
def RR (l : List Nat) (i j : Nat) : List (List Stp) := rowsL wAll [] (seg l i j) (cN l i j)
theorem RR_len {l : List Nat} {i j : Nat} (h : i ≤ j) (hj : j ≤ l.length) : (RR l i j).length = kN l i j ∧ kN l i j ≠ 0 := by
  have := Ld_mc (l := l) (W := wAll) _ i j (Nat.le_refl _) h hj
  rw [mc_ck h hj] at this
  exact ⟨this.1, this.2.1⟩
theorem RR_least {l : List Nat} {i j n : Nat} {α : List Stp} (h : i ≤ j) (hj : j ≤ l.length) (hr : Row wAll [] (seg l i j) n α) : cN l i j ≤ n := by
  have := Ld_mc (l := l) (W := wAll) _ i j (Nat.le_refl _) h hj
  rw [mc_ck h hj] at this
  refine Nat.le_of_not_lt fun hn => ?_
  exact An_pos.mpr ⟨α, hr⟩ (this.2.2 n hn)
theorem mem_RR {l : List Nat} {i j : Nat} {α : List Stp} : α ∈ RR l i j ↔ Row wAll [] (seg l i j) (cN l i j) α := mem_rows
theorem RR_nodup (l : List Nat) (i j : Nat) : (RR l i j).Nodup := rows_nodup _ _ _ _ (Nat.le_refl _)
def Fs.ds (i : Nat) : Fs → List Deed
  | .one h _ => ddS i [h]
  | .two h _ m t _ => ddS i [h] ++ ddS m [t]
def Fs.parts (j : Nat) : Fs → List (Nat × Nat)
  | .one _ a => [(a, j)]
  | .two _ a m _ b => [(a, m), (b, j)]
def Fs.num (l : List Nat) (i j : Nat) (s : Fs) : Nat := (s.ds i).length + ((s.parts j).map fun p => cN l p.1 p.2).sum
def Fs.man (l : List Nat) (j : Nat) : Fs → Nat
  | .one _ a => kN l a j
  | .two _ a m _ b => kN l a m * kN l b j
def comb (l : List Nat) (j : Nat) : Fs → List (List Stp)
  | .one h a => (RR l a j).map (h :: ·)
  | .two h a m t b => (RR l a m).flatMap fun β => (RR l b j).map fun γ => h :: (β ++ t :: γ)
def wys (c d : Nat) : List Nat := OPN.filter fun o => decide (asC c o + asC d (oth o) = (few c d).1)
theorem wys_len : ∀ c ∈ BRK, ∀ d ∈ BRK, (wys c d).length = (few c d).2 := by decide
def prL (l : List Nat) (i c m : Nat) : List Fs := match l[m]? with
  | some d => if d ∈ BRK then (wys c d).map fun o => Fs.two (asS c o) (i + 1) m (asS d (oth o)) (m + 1) else []
  | none => []
def clL (l : List Nat) (i m : Nat) : List Fs := match l[m]? with
  | some d => if d ∈ CLO then [Fs.two (.pt (oth d)) i m (.kp d) (m + 1)] else []
  | none => []
def opL (i c m : Nat) : Fs := .two (.kp c) (i + 1) m (.pt (oth c)) m
def fsL (l : List Nat) (i j : Nat) : List Fs := match l[i]? with
  | none => []
  | some c => if c ∈ BRK then
      ((Fs.one (.st c) (i + 1) :: (List.range (j - i - 1)).flatMap fun k => prL l i c (i + 1 + k)) ++ (if c ∈ OPN then (List.range (j - i)).map fun k => opL i c (i + 1 + k) else [])) ++ (List.range (j - i)).flatMap fun k => clL l i (i + k)
    else Fs.one (.kp c) (i + 1) :: (List.range (j - i)).flatMap fun k => clL l i (i + k)
/-- what is asked of a first step -/
inductive FsOk (l : List Nat) (i j : Nat) : Fs → Prop
  | one (h : Stp) (hk : h.ok) (ho : h.o.foldl stp (some []) = some []) (hn : ∀ o ∈ OPN, h.o ≠ [o]) (hi : seg l i (i + 1) = h.i) : FsOk l i j (.one h (i + 1))
  | two (h : Stp) (a m : Nat) (t : Stp) (b o : Nat) (hh : h.ok) (ht : t.ok) (oo : o ∈ OPN) (ho : h.o = [o]) (to : t.o = [oth o]) (hi : seg l i a = h.i) (ti : seg l m b = t.i) (ea : a = i + h.i.length) (eb : b = m + t.i.length) (h1 : a ≤ m) (h2 : b ≤ j) (hz : 1 ≤ h.i.length + t.i.length) : FsOk l i j (.two h a m t b)
theorem asS_o (x c : Nat) : (asS x c).o = [c] := by
  unfold asS
  by_cases e : c = x
  · rw [if_pos e, e]; rfl
  · rw [if_neg e]; rfl
theorem asS_i (x c : Nat) : (asS x c).i = [x] := by
  unfold asS
  by_cases e : c = x
  · rw [if_pos e]; rfl
  · rw [if_neg e]; rfl
theorem asS_ok {x c : Nat} (hx : x ∈ BRK) (hc : c ∈ BRK) : (asS x c).ok := by
  unfold asS
  by_cases e : c = x
  · rw [if_pos e]; trivial
  · rw [if_neg e]; exact ⟨hx, hc, e⟩
theorem asS_inj {x c d : Nat} (h : asS x c = asS x d) : c = d := by
  have e1 := asS_o x c
  rw [h, asS_o] at e1
  exact ((List.cons.inj e1).1).symm
theorem asS_pt {x c q : Nat} : asS x c ≠ .pt q := by
  unfold asS
  by_cases e : c = x
  · rw [if_pos e]; exact fun h => by cases h
  · rw [if_neg e]; exact fun h => by cases h
theorem cl_ok {l : List Nat} {i j k : Nat} (hk : i + k < j) {s : Fs} (hs : s ∈ clL l i (i + k)) : FsOk l i j s := by
  unfold clL at hs
  cases hd : l[i + k]? with
  | none => rw [hd] at hs; cases hs
  | some d =>
    rw [hd] at hs
    dsimp only at hs
    by_cases hc : d ∈ CLO
    · rw [if_pos hc] at hs
      rw [List.mem_singleton.mp hs]
      have hb := brk_or.mpr (.inr hc)
      exact .two _ _ _ _ _ (oth d) (oth_brk d hb) trivial (oth_opn d hc) rfl (by rw [oth_oth d hb]; rfl) seg_self (seg_one hd) rfl rfl (by omega) (by omega) (Nat.le_refl 1)
    · rw [if_neg hc] at hs; cases hs
theorem fs_ok {l : List Nat} {i j : Nat} (h : i < j) (hj : j ≤ l.length) {s : Fs} (hs : s ∈ fsL l i j) : FsOk l i j s := by
  unfold fsL at hs
  cases hc : l[i]? with
  | none => rw [hc] at hs; cases hs
  | some c =>
    rw [hc] at hs
    dsimp only at hs
    by_cases hb : c ∈ BRK
    · rw [if_pos hb] at hs
      rcases List.mem_append.mp hs with hs | hs
      · rcases List.mem_append.mp hs with hs | hs
        · rcases List.mem_cons.mp hs with e | hs
          · rw [e]
            exact .one _ hb rfl (fun o _ e => by cases e) (seg_one hc)
          · obtain ⟨k, hk, hs⟩ := List.mem_flatMap.mp hs
            have hk := List.mem_range.mp hk
            unfold prL at hs
            cases hd : l[i + 1 + k]? with
            | none => rw [hd] at hs; cases hs
            | some d =>
              rw [hd] at hs
              dsimp only at hs
              by_cases hdb : d ∈ BRK
              · rw [if_pos hdb] at hs
                obtain ⟨o, ho, e⟩ := List.mem_map.mp hs
                have hoo := (List.mem_filter.mp ho).1
                have hob := brk_or.mpr (.inl hoo)
                rw [← e]
                exact .two _ _ _ _ _ o (asS_ok hb hob) (asS_ok hdb (oth_brk o hob)) hoo (asS_o _ _) (asS_o _ _) (by rw [asS_i]; exact seg_one hc) (by rw [asS_i]; exact seg_one hd) (by rw [asS_i]; rfl) (by rw [asS_i]; rfl) (by omega) (by omega) (by rw [asS_i, asS_i]; exact Nat.le_succ 1)
              · rw [if_neg hdb] at hs; cases hs
        · by_cases ho : c ∈ OPN
          · rw [if_pos ho] at hs
            obtain ⟨k, hk, e⟩ := List.mem_map.mp hs
            have hk := List.mem_range.mp hk
            rw [← e]
            exact .two _ _ _ _ _ c trivial (oth_brk c hb) ho rfl rfl (seg_one hc) seg_self rfl rfl (by omega) (by omega) (Nat.le_refl 1)
          · rw [if_neg ho] at hs; cases hs
      · obtain ⟨k, hk, hs⟩ := List.mem_flatMap.mp hs
        have hk := List.mem_range.mp hk
        exact cl_ok (by omega) hs
    · rw [if_neg hb] at hs
      rcases List.mem_cons.mp hs with e | hs
      · rw [e]
        have h1 : c ∉ OPN := fun q => hb (brk_or.mpr (.inl q))
        have h2 : c ∉ CLO := fun q => hb (brk_or.mpr (.inr q))
        exact .one _ trivial (show stp (some []) c = some [] from stp_let h1 h2) (fun o ho e => h1 (by rw [(List.cons.inj e).1]; exact ho)) (seg_one hc)
      · obtain ⟨k, hk, hs⟩ := List.mem_flatMap.mp hs
        have hk := List.mem_range.mp hk
        exact cl_ok (by omega) hs
theorem cst_one (h : Stp) (p : Nat) : (ddS p [h]).length = cstS [h] := dd_cst _ _
theorem Row.consA {st s r : List Nat} {n : Nat} {β : List Stp} {y : Stp} (hy : y.ok) (hs : y.o.foldl stp (some st) = some s) (h : Row wAll s r n β) : Row wAll st (y.i ++ r) (cstS [y] + n) (y :: β) :=
  ⟨okS_cons.mpr ⟨hy, h.ok⟩, wAll_wd _, by rw [inS_cons, h.tx], by rw [show y :: β = [y] ++ β from rfl, cstS_app, h.ct], by rw [outS_cons, List.foldl_append, hs]; exact h.fo⟩
theorem comb_row {l : List Nat} {i j : Nat} (h : i < j) (hj : j ≤ l.length) {s : Fs} (hs : FsOk l i j s) {α : List Stp} (ha : α ∈ comb l j s) : Row wAll [] (seg l i j) (s.num l i j) α := by
  cases hs with
  | one h0 hk ho hn hi =>
    obtain ⟨β, hb, rfl⟩ := List.mem_map.mp ha
    have := Row.consA hk ho (mem_RR.mp hb)
    rw [← hi, ← seg_app (by omega) (by omega) (by omega)] at this
    have e : (Fs.one h0 (i + 1)).num l i j = cstS [h0] + cN l (i + 1) j := by
      show (ddS i [h0]).length + (cN l (i + 1) j + 0) = _
      rw [cst_one]
      omega
    rw [e]
    exact this
  | two h0 a m t b o hh ht oo ho to hi ti ea eb h1 h2 hz =>
    obtain ⟨β, hb, ha⟩ := List.mem_flatMap.mp ha
    obtain ⟨γ, hc, rfl⟩ := List.mem_map.mp ha
    have g1 : Row wAll [oth o] (t.i ++ seg l b j) (cstS [t] + cN l b j) (t :: γ) := Row.consA ht (by rw [to]; exact stp_clo (oth_clo o oo)) (mem_RR.mp hc)
    have g2 := (mem_RR.mp hb).fr g1
    have g3 := Row.consA hh (st := []) (by rw [ho]; exact stp_opn oo) g2
    rw [← hi, ← ti, ← seg_app (by omega) (by omega) (by omega), ← seg_app (by omega) (by omega) (by omega), ← seg_app (by omega) (by omega) (by omega)] at g3
    have e : (Fs.two h0 a m t b).num l i j = cstS [h0] + (cN l a m + (cstS [t] + cN l b j)) := by
      show (ddS i [h0] ++ ddS m [t]).length + (cN l a m + (cN l b j + 0)) = _
      rw [List.length_append, cst_one, cst_one]
      omega
    rw [e]
    exact g3
/-! the parts are told by what they make -/
theorem stp_none {q : Nat} (hq : q ∈ CLO) : stp (some []) q = none := by
  unfold stp
  dsimp only
  rw [if_neg (fun h => opn_clo q h hq), if_pos hq]
theorem ret_pre {β c : List Stp} {β' : List Stp} {t : Stp} {q : Nat} (h : (outS β).foldl stp (some []) = some []) (h' : (outS β').foldl stp (some []) = some []) (ht : t.o = [q]) (hq : q ∈ CLO) (e : β' = β ++ t :: c) : False := by
  rw [e, outS_app, outS_cons, ht, List.foldl_append, h, List.foldl_append] at h'
  rw [show [q].foldl stp (some []) = stp (some []) q from rfl, stp_none hq, fold_none] at h'
  cases h'
theorem ret_uniq {β β' γ γ' : List Stp} {t t' : Stp} {q q' : Nat} (h : (outS β).foldl stp (some []) = some []) (h' : (outS β').foldl stp (some []) = some []) (ht : t.o = [q]) (hq : q ∈ CLO) (ht' : t'.o = [q']) (hq' : q' ∈ CLO)
    (e : β ++ t :: γ = β' ++ t' :: γ') : β = β' ∧ t = t' ∧ γ = γ' := by
  rcases app_split e with ⟨c, e1, _⟩ | ⟨e1, e2, e3⟩ | ⟨c, e1, _⟩
  · exact (ret_pre h' h ht' hq' e1).elim
  · exact ⟨e1, e2, e3⟩
  · exact (ret_pre h h' ht hq e1).elim
theorem seg_len_at {l : List Nat} {a m m' : Nat} (h1 : a ≤ m) (h2 : a ≤ m') (h3 : m ≤ l.length) (h4 : m' ≤ l.length) (e : seg l a m = seg l a m') : m = m' := by
  have := congrArg List.length e
  rw [seg_len h3, seg_len h4] at this
  omega
theorem comb_det {l : List Nat} {i j : Nat} (hj : j ≤ l.length) {s s' : Fs} (h : FsOk l i j s) (h' : FsOk l i j s') {α : List Stp} (ha : α ∈ comb l j s) (ha' : α ∈ comb l j s') : s = s' := by
  cases h with
  | one h0 hk ho hn hi =>
    obtain ⟨β, hb, rfl⟩ := List.mem_map.mp ha
    cases h' with
    | one h1 hk' ho' hn' hi' =>
      obtain ⟨β', hb', e⟩ := List.mem_map.mp ha'
      rw [(List.cons.inj e).1]
    | two h1 a m t b o hh ht oo ho' to hi' ti ea eb h3 h2 hz =>
      obtain ⟨β', hb', ha'⟩ := List.mem_flatMap.mp ha'
      obtain ⟨γ, hc, e⟩ := List.mem_map.mp ha'
      rw [(List.cons.inj e).1] at ho'
      exact absurd ho' (hn o oo)
  | two h0 a m t b o hh ht oo ho to hi ti ea eb h1 h2 hz =>
    obtain ⟨β, hb, ha⟩ := List.mem_flatMap.mp ha
    obtain ⟨γ, hc, rfl⟩ := List.mem_map.mp ha
    cases h' with
    | one h1 hk' ho' hn' hi' =>
      obtain ⟨β', hb', e⟩ := List.mem_map.mp ha'
      rw [(List.cons.inj e).1] at ho' hn'
      exact absurd ho (hn' o oo)
    | two h0' a' m' t' b' o' hh' ht' oo' ho' to' hi' ti' ea' eb' h1' h2' hz' =>
      obtain ⟨β', hb', ha'⟩ := List.mem_flatMap.mp ha'
      obtain ⟨γ', hc', e⟩ := List.mem_map.mp ha'
      obtain ⟨e1, e2⟩ := List.cons.inj e
      subst e1
      obtain ⟨e3, e4, e5⟩ := ret_uniq (mem_RR.mp hb').fo (mem_RR.mp hb).fo to' (oth_clo o' oo') to (oth_clo o oo) e2
      subst e3 e4
      have ea2 : a = a' := by rw [ea, ea']
      subst ea2
      have := (mem_RR.mp hb).tx.symm.trans (mem_RR.mp hb').tx
      have em := seg_len_at h1 h1' (by omega) (by omega) this
      subst em
      rw [eb, eb']
theorem comb_nodup {l : List Nat} {i j : Nat} {s : Fs} (h : FsOk l i j s) : (comb l j s).Nodup := by
  cases h with
  | one h0 hk ho hn hi =>
    exact List.pairwise_map.mpr ((RR_nodup l _ _).imp fun hab e => hab (List.cons.inj e).2)
  | two h0 a m t b o hh ht oo ho to hi ti ea eb h1 h2 hz =>
    have hu : ∀ {β β' γ γ' : List Stp}, β ∈ RR l a m → β' ∈ RR l a m → h0 :: (β ++ t :: γ) = h0 :: (β' ++ t :: γ') → β = β' ∧ γ = γ' := fun {β β' γ γ'} hb hb' e => by
      obtain ⟨e3, _, e5⟩ := ret_uniq (mem_RR.mp hb).fo (mem_RR.mp hb').fo to (oth_clo o oo) to (oth_clo o oo) (List.cons.inj e).2
      exact ⟨e3, e5⟩
    refine pair_flat (RR_nodup l a m) (fun β hb => List.pairwise_map.mpr ((RR_nodup l b j).imp fun hab e => hab (hu hb hb e).2)) (fun β β' hne hb hb' x hx y hy e => ?_)
    obtain ⟨γ, _, rfl⟩ := List.mem_map.mp hx
    obtain ⟨γ', _, rfl⟩ := List.mem_map.mp hy
    exact hne (hu hb hb' e).1
theorem opn_nodup : OPN.Nodup := by decide
theorem fs_nodup (l : List Nat) (i j : Nat) : (fsL l i j).Nodup := by
  have hcl : ∀ {m : Nat} {s : Fs}, s ∈ clL l i m → ∃ d, s = Fs.two (.pt (oth d)) i m (.kp d) (m + 1) := fun {m s} hs => by
    unfold clL at hs
    cases hd : l[m]? with
    | none => rw [hd] at hs; cases hs
    | some d =>
      rw [hd] at hs
      dsimp only at hs
      by_cases hc : d ∈ CLO
      · rw [if_pos hc] at hs
        exact ⟨d, List.mem_singleton.mp hs⟩
      · rw [if_neg hc] at hs; cases hs
  have hclN : ∀ m, (clL l i m).Nodup := fun m => by
    unfold clL
    cases l[m]? with
    | none => exact List.nodup_nil
    | some d =>
      dsimp only
      split
      · exact List.pairwise_singleton _ _
      · exact List.nodup_nil
  have N3 : ((List.range (j - i)).flatMap fun k => clL l i (i + k)).Nodup := pair_flat List.pairwise_lt_range (fun k _ => hclN _) (fun k k' hlt _ _ a ha b hb e => by
    obtain ⟨d, rfl⟩ := hcl ha
    obtain ⟨d', rfl⟩ := hcl hb
    injection e with _ _ e _ _
    omega)
  have m3' : ∀ s ∈ (List.range (j - i)).flatMap (fun k => clL l i (i + k)), ∃ d m, s = Fs.two (.pt (oth d)) i m (.kp d) (m + 1) := fun s hs => by
    obtain ⟨k, _, hs⟩ := List.mem_flatMap.mp hs
    obtain ⟨d, e⟩ := hcl hs
    exact ⟨d, _, e⟩
  unfold fsL
  cases hc : l[i]? with
  | none => exact List.nodup_nil
  | some c =>
    dsimp only
    have hpr : ∀ {m : Nat} {s : Fs}, s ∈ prL l i c m → ∃ d o, s = Fs.two (asS c o) (i + 1) m (asS d (oth o)) (m + 1) := fun {m s} hs => by
      unfold prL at hs
      cases hd : l[m]? with
      | none => rw [hd] at hs; cases hs
      | some d =>
        rw [hd] at hs
        dsimp only at hs
        by_cases hc : d ∈ BRK
        · rw [if_pos hc] at hs
          obtain ⟨o, _, e⟩ := List.mem_map.mp hs
          exact ⟨d, o, e.symm⟩
        · rw [if_neg hc] at hs; cases hs
    have hprN : ∀ m, (prL l i c m).Nodup := fun m => by
      unfold prL
      cases l[m]? with
      | none => exact List.nodup_nil
      | some d =>
        dsimp only
        split
        · exact List.pairwise_map.mpr ((opn_nodup.filter _).imp fun hab e => hab (by injection e with e1; exact asS_inj e1))
        · exact List.nodup_nil
    by_cases hb : c ∈ BRK
    · rw [if_pos hb]
      have N1 : ((List.range (j - i - 1)).flatMap fun k => prL l i c (i + 1 + k)).Nodup := pair_flat List.pairwise_lt_range (fun k _ => hprN _) (fun k k' hlt _ _ a ha b hb e => by
        obtain ⟨d, o, rfl⟩ := hpr ha
        obtain ⟨d', o', rfl⟩ := hpr hb
        injection e with _ _ e _ _
        omega)
      have N2 : (if c ∈ OPN then (List.range (j - i)).map fun k => opL i c (i + 1 + k) else []).Nodup := by
        split
        · exact List.pairwise_map.mpr (List.pairwise_lt_range.imp fun hab e => by
            injection e with _ _ e _ _
            omega)
        · exact List.nodup_nil
      have m2 : ∀ s ∈ (if c ∈ OPN then (List.range (j - i)).map fun k => opL i c (i + 1 + k) else []), ∃ m, s = opL i c m := fun s hs => by
        split at hs
        · obtain ⟨k, _, e⟩ := List.mem_map.mp hs
          exact ⟨_, e.symm⟩
        · cases hs
      have m1 : ∀ s ∈ (List.range (j - i - 1)).flatMap (fun k => prL l i c (i + 1 + k)), ∃ d o m, s = Fs.two (asS c o) (i + 1) m (asS d (oth o)) (m + 1) := fun s hs => by
        obtain ⟨k, _, hs⟩ := List.mem_flatMap.mp hs
        obtain ⟨d, o, e⟩ := hpr hs
        exact ⟨d, o, _, e⟩
      refine List.nodup_append.mpr ⟨List.nodup_append.mpr ⟨List.nodup_cons.mpr ⟨fun hs => ?_, N1⟩, N2, fun a ha b hb e => ?_⟩, N3, fun a ha b hb e => ?_⟩
      · obtain ⟨d, o, m, e⟩ := m1 _ hs
        cases e
      · subst e
        obtain ⟨m, rfl⟩ := m2 a hb
        rcases List.mem_cons.mp ha with e | ha
        · cases e
        · obtain ⟨d, o, m', e⟩ := m1 _ ha
          injection e with _ _ _ e _
          exact asS_pt e.symm
      · subst e
        obtain ⟨d, m, rfl⟩ := m3' a hb
        rcases List.mem_append.mp ha with ha | ha
        · rcases List.mem_cons.mp ha with e | ha
          · cases e
          · obtain ⟨d', o, m', e⟩ := m1 _ ha
            injection e with e _ _ _ _
            exact asS_pt e.symm
        · obtain ⟨m', e⟩ := m2 _ ha
          injection e with e _ _ _ _
          cases e
    · rw [if_neg hb]
      refine List.nodup_cons.mpr ⟨fun hs => ?_, N3⟩
      obtain ⟨d, m, e⟩ := m3' _ hs
      cases e
/-! how many there are -/
def Fs.val (l : List Nat) (i j : Nat) (s : Fs) : Nat × Nat := (s.num l i j, s.man l j)
theorem totL_none : ∀ {xs : List (Nat × Nat)}, totL xs = none → xs = []
  | [], _ => rfl
  | x :: xs, h => by
    have e := totL_app xs [x]
    rw [show [x] ++ xs = x :: xs from rfl, h] at e
    exact absurd e.symm (mAdd_some (.inl (fun q => by cases q)))
theorem totL_range (f : Nat → List (Nat × Nat)) : ∀ n, totL ((List.range n).flatMap f) = sm (fun k => totL (f k)) n
  | 0 => rfl
  | n + 1 => by
    rw [List.range_succ, List.flatMap_append, totL_app, totL_range f n, sm]
    simp
theorem totL_cons (x : Nat × Nat) (xs : List (Nat × Nat)) : totL (x :: xs) = mAdd (some x) (totL xs) := totL_app xs [x]
theorem totL_sum : ∀ (xs : List (Nat × Nat)) (c k : Nat), totL xs = some (c, k) → ((xs.filter fun x => decide (x.1 = c)).map (·.2)).sum = k ∧ ∀ x ∈ xs, c ≤ x.1
  | [], c, k, h => by cases h
  | x :: xs, c, k, h => by
    rw [totL_cons] at h
    cases hx : totL xs with
    | none =>
      rw [totL_none hx]
      rw [hx] at h
      have h : some x = some (c, k) := h
      injection h with h
      subst h
      refine ⟨by simp, fun y hy => ?_⟩
      rw [List.mem_singleton.mp hy]
      exact Nat.le_refl _
    | some p =>
      obtain ⟨c', k'⟩ := p
      obtain ⟨i1, i2⟩ := totL_sum xs c' k' hx
      rw [hx] at h
      obtain ⟨a, b⟩ := x
      unfold mAdd at h
      dsimp only at h
      have hz : ∀ q, q < c' → xs.filter (fun x => decide (x.1 = q)) = [] := fun q hq => List.filter_eq_nil_iff.mpr fun y hy e => by
        have := i2 y hy
        have := of_decide_eq_true e
        omega
      by_cases h1 : a < c'
      · rw [if_pos h1] at h
        injection h with h
        injection h with e1 e2
        subst e1 e2
        refine ⟨?_, fun y hy => ?_⟩
        · rw [List.filter_cons_of_pos (by simp), hz a h1]
          simp
        · rcases List.mem_cons.mp hy with e | hy
          · rw [e]; exact Nat.le_refl _
          · have := i2 y hy; omega
      · rw [if_neg h1] at h
        by_cases h2 : c' < a
        · rw [if_pos h2] at h
          injection h with h
          injection h with e1 e2
          subst e1 e2
          refine ⟨?_, fun y hy => ?_⟩
          · rw [List.filter_cons_of_neg (by simp; omega)]
            exact i1
          · rcases List.mem_cons.mp hy with e | hy
            · rw [e]; exact Nat.le_of_lt h2
            · exact i2 y hy
        · rw [if_neg h2] at h
          injection h with h
          injection h with e1 e2
          have ec : a = c' := by omega
          subst ec e1 e2
          refine ⟨?_, fun y hy => ?_⟩
          · rw [List.filter_cons_of_pos (by simp), List.map_cons, List.sum_cons, i1]
          · rcases List.mem_cons.mp hy with e | hy
            · rw [e]; exact Nat.le_refl _
            · exact i2 y hy
theorem totL_same (a k : Nat) (f : Nat → Nat × Nat) : ∀ (os : List Nat), (∀ o ∈ os, f o = (a, k)) → os ≠ [] → totL (os.map f) = some (a, os.length * k)
  | [], _, h => absurd rfl h
  | o :: os, h, _ => by
    rw [List.map_cons, totL_cons, h o List.mem_cons_self]
    by_cases e : os = []
    · subst e
      show some (a, k) = some (a, 1 * k)
      rw [Nat.one_mul]
    · rw [totL_same a k f os (fun q hq => h q (List.mem_cons_of_mem _ hq)) e]
      unfold mAdd
      dsimp only
      rw [if_neg (Nat.lt_irrefl _), if_neg (Nat.lt_irrefl _), List.length_cons, Nat.add_mul, Nat.one_mul, Nat.add_comm]
theorem asC_cst (x c : Nat) : cstS [asS x c] = asC x c := by
  unfold asS asC
  by_cases e : c = x
  · rw [if_pos e, if_pos e]; rfl
  · rw [if_neg e, if_neg e]; rfl
theorem num_two (l : List Nat) (i j : Nat) (h : Stp) (a m : Nat) (t : Stp) (b : Nat) : (Fs.two h a m t b).num l i j = cstS [h] + cstS [t] + cN l a m + cN l b j := by
  show (ddS i [h] ++ ddS m [t]).length + (cN l a m + (cN l b j + 0)) = _
  rw [List.length_append, cst_one, cst_one]
  omega
theorem num_one (l : List Nat) (i j : Nat) (h : Stp) (a : Nat) : (Fs.one h a).num l i j = cstS [h] + cN l a j := by
  show (ddS i [h]).length + (cN l a j + 0) = _
  rw [cst_one]
  omega
theorem m3_some (x y z : Nat × Nat) : m3 (some x) (some y) (some z) = some (x.1 + y.1 + z.1, x.2 * y.2 * z.2) := rfl
theorem pr_tot {l : List Nat} {i j k c : Nat} (hc : l[i]? = some c) (hb : c ∈ BRK) (hk : i + 1 + k < j) (hj : j ≤ l.length) : totL ((prL l i c (i + 1 + k)).map (Fs.val l i j)) = m3 (prM l wAll i (i + 1 + k)) (mcN l wAll (i + 1) (i + 1 + k)) (mcN l wAll (i + 1 + k + 1) j) := by
  have hd : l[i + 1 + k]? = some l[i + 1 + k] := List.getElem?_eq_getElem (by omega)
  unfold prL prM
  rw [hc, hd]
  dsimp only
  by_cases hdb : l[i + 1 + k] ∈ BRK
  · rw [if_pos hdb, if_pos ⟨hb, hdb, .inr rfl⟩, mc_ck (by omega) (by omega), mc_ck (by omega) (by omega), m3_some, List.map_map]
    have hn : wys c l[i + 1 + k] ≠ [] := fun e => few_pos c hb _ hdb (by rw [← wys_len c hb _ hdb, e]; rfl)
    rw [totL_same ((few c l[i + 1 + k]).1 + cN l (i + 1) (i + 1 + k) + cN l (i + 1 + k + 1) j) (kN l (i + 1) (i + 1 + k) * kN l (i + 1 + k + 1) j) _ _ (fun o ho => ?_) hn, wys_len c hb _ hdb]
    · congr 2
      rw [Nat.mul_assoc]
    · have hw := of_decide_eq_true (List.mem_filter.mp ho).2
      show (Fs.num l i j _, Fs.man l j _) = _
      rw [num_two, asC_cst, asC_cst, hw]
      rfl
  · rw [if_neg hdb, if_neg fun q => hdb q.2.1]
    rfl
theorem cl_tot {l : List Nat} {i j k : Nat} (hk : i + k < j) (hj : j ≤ l.length) : totL ((clL l i (i + k)).map (Fs.val l i j)) = m3 (clM l wAll (i + k)) (mcN l wAll i (i + k)) (mcN l wAll (i + k + 1) j) := by
  have hd : l[i + k]? = some l[i + k] := List.getElem?_eq_getElem (by omega)
  unfold clL clM
  rw [hd]
  dsimp only
  by_cases hc : l[i + k] ∈ CLO
  · rw [if_pos hc, if_pos ⟨hc, rfl⟩, mc_ck (by omega) (by omega), mc_ck (by omega) (by omega), w1, m3_some]
    show some (Fs.num l i j _, Fs.man l j _) = _
    rw [num_two]
    congr 2
    show kN l i (i + k) * kN l (i + k + 1) j = 1 * kN l i (i + k) * kN l (i + k + 1) j
    rw [Nat.one_mul]
  · rw [if_neg hc, if_neg fun q => hc q.1]
    rfl
theorem op_tot {l : List Nat} {i j k c : Nat} (hc : l[i]? = some c) (ho : c ∈ OPN) (hk : i + 1 + k ≤ j) (hj : j ≤ l.length) : some (Fs.val l i j (opL i c (i + 1 + k))) = m3 (opM l wAll i) (mcN l wAll (i + 1) (i + 1 + k)) (mcN l wAll (i + 1 + k) j) := by
  unfold opM
  rw [hc]
  dsimp only
  rw [if_pos ⟨ho, rfl⟩, mc_ck (by omega) (by omega), mc_ck (by omega) (by omega), w1, m3_some]
  show some (Fs.num l i j (Fs.two _ _ _ _ _), Fs.man l j (Fs.two _ _ _ _ _)) = _
  rw [num_two]
  congr 2
  show kN l (i + 1) (i + 1 + k) * kN l (i + 1 + k) j = 1 * kN l (i + 1) (i + 1 + k) * kN l (i + 1 + k) j
  rw [Nat.one_mul]
theorem map_flat {α β γ : Type} (g : β → γ) (f : α → List β) : ∀ xs : List α, (xs.flatMap f).map g = xs.flatMap fun x => (f x).map g
  | [] => rfl
  | x :: xs => by rw [List.flatMap_cons, List.map_append, map_flat g f xs, List.flatMap_cons]
theorem map_sing {α β : Type} (g : α → β) : ∀ xs : List α, xs.map g = xs.flatMap fun x => [g x]
  | [] => rfl
  | x :: xs => by rw [List.map_cons, map_sing g xs]; rfl
theorem fs_tot {l : List Nat} {i j : Nat} (h : i < j) (hj : j ≤ l.length) : totL ((fsL l i j).map (Fs.val l i j)) = some (cN l i j, kN l i j) := by
  rw [← mc_ck (Nat.le_of_lt h) hj, mcN_step h]
  unfold stM fsL
  obtain ⟨c, hc⟩ : ∃ c, l[i]? = some c := ⟨_, List.getElem?_eq_getElem (by omega)⟩
  rw [hc]
  dsimp only
  have eC : totL (((List.range (j - i)).flatMap fun k => clL l i (i + k)).map (Fs.val l i j)) = sm (fun t => m3 (clM l wAll (i + t)) (mcN l wAll i (i + t)) (mcN l wAll (i + t + 1) j)) (j - i) := by
    rw [map_flat, totL_range]
    exact sm_congr fun k hk => cl_tot (by omega) hj
  by_cases hb : c ∈ BRK
  · rw [if_pos hb, List.map_append, List.map_append, List.map_cons, totL_app, totL_app, totL_cons, eC, mAdd_assoc, mAdd_assoc]
    congr 1
    · unfold sgM
      rw [hc]
      dsimp only
      rw [if_pos hb, if_pos (show wAll.st = true from rfl), mc_ck (by omega) hj]
      show some (Fs.num l i j _, Fs.man l j _) = some (1 + cN l (i + 1) j, 1 * kN l (i + 1) j)
      rw [num_one, Nat.one_mul]
      rfl
    · congr 1
      · rw [map_flat, totL_range]
        exact sm_congr fun k hk => pr_tot hc hb (by omega) hj
      · congr 1
        by_cases ho : c ∈ OPN
        · rw [if_pos ho, List.map_map, show (List.range (j - i)).map (Fs.val l i j ∘ fun k => opL i c (i + 1 + k)) = (List.range (j - i)).flatMap fun k => [Fs.val l i j (opL i c (i + 1 + k))] from map_sing _ _, totL_range]
          exact sm_congr fun k hk => op_tot hc ho (by omega) hj
        · rw [if_neg ho]
          refine ((sm_congr (g := fun _ => none) fun t _ => ?_).trans (sm_none _)).symm
          unfold opM
          rw [hc]
          dsimp only
          rw [if_neg fun q => ho q.1]
          rfl
  · rw [if_neg hb, List.map_cons, totL_cons, eC]
    congr 1
    · unfold sgM
      rw [hc]
      dsimp only
      rw [if_neg hb, mOne_mul, mc_ck (by omega) hj]
      show some (Fs.num l i j _, Fs.man l j _) = some (cN l (i + 1) j, kN l (i + 1) j)
      rw [num_one]
      have : cstS [Stp.kp c] + cN l (i + 1) j = cN l (i + 1) j := Nat.zero_add _
      rw [this]
      rfl
    · have z1 : sm (fun t => m3 (prM l wAll i (i + 1 + t)) (mcN l wAll (i + 1) (i + 1 + t)) (mcN l wAll (i + 1 + t + 1) j)) (j - i - 1) = none := by
        refine (sm_congr (g := fun _ => none) fun t _ => ?_).trans (sm_none _)
        unfold prM
        rw [hc]
        cases l[i + 1 + t]? with
        | none => rfl
        | some d => dsimp only; rw [if_neg fun q => hb q.1]; rfl
      have z2 : sm (fun t => m3 (opM l wAll i) (mcN l wAll (i + 1) (i + 1 + t)) (mcN l wAll (i + 1 + t) j)) (j - i) = none := by
        refine (sm_congr (g := fun _ => none) fun t _ => ?_).trans (sm_none _)
        unfold opM
        rw [hc]
        dsimp only
        rw [if_neg fun q => hb (brk_or.mpr (.inl q.1))]
        rfl
      rw [z1, z2]
      rfl
/-- the least first steps -/
def lsF (l : List Nat) (i j : Nat) : List Fs := (fsL l i j).filter fun s => decide (s.num l i j = cN l i j)
theorem lsF_sum {l : List Nat} {i j : Nat} (h : i < j) (hj : j ≤ l.length) : ((lsF l i j).map (Fs.man l j)).sum = kN l i j := by
  have := (totL_sum _ _ _ (fs_tot h hj)).1
  rw [List.filter_map, List.map_map] at this
  exact this
theorem comb_len {l : List Nat} {i j : Nat} (hj : j ≤ l.length) {s : Fs} (h : FsOk l i j s) (hi : i < j) : (comb l j s).length = s.man l j := by
  cases h with
  | one h0 hk ho hn hi => show ((RR l (i + 1) j).map _).length = kN l (i + 1) j; rw [List.length_map, (RR_len (by omega) hj).1]
  | two h0 a m t b o hh ht oo ho to hi ti ea eb h1 h2 hz =>
    have hmb : m ≤ b := by omega
    show ((RR l a m).flatMap _).length = kN l a m * kN l b j
    rw [List.length_flatMap]
    have : (RR l a m).map (fun β => ((RR l b j).map fun γ => h0 :: (β ++ t :: γ)).length) = (RR l a m).map fun _ => kN l b j := List.map_congr_left fun β _ => by rw [List.length_map, (RR_len (by omega) hj).1]
    rw [this, List.map_const', List.sum_replicate_nat, (RR_len h1 (by omega)).1]
theorem perm_of {α : Type} : ∀ {A B : List α}, A.Nodup → (∀ x ∈ A, x ∈ B) → A.length = B.length → A.Perm B
  | [], B, _, _, h => by
    rw [List.length_eq_zero_iff.mp (show B.length = 0 from h.symm)]
  | x :: A, B, hn, hs, h => by
    obtain ⟨s, t, rfl⟩ := List.append_of_mem (hs x List.mem_cons_self)
    obtain ⟨h1, h2⟩ := List.nodup_cons.mp hn
    refine (List.Perm.cons x (perm_of (A := A) (B := s ++ t) h2 (fun y hy => ?_) ?_)).trans List.perm_middle.symm
    · have := hs y (List.mem_cons_of_mem _ hy)
      rcases List.mem_append.mp this with h' | h'
      · exact List.mem_append_left _ h'
      · rcases List.mem_cons.mp h' with e | h'
        · subst e; exact absurd hy h1
        · exact List.mem_append_right _ h'
    · simp at h ⊢
      omega
/-- the least rows are those made by the least first steps -/
theorem RR_perm {l : List Nat} {i j : Nat} (h : i < j) (hj : j ≤ l.length) : ((lsF l i j).flatMap (comb l j)).Perm (RR l i j) := by
  have hok : ∀ s ∈ lsF l i j, FsOk l i j s := fun s hs => fs_ok h hj (List.mem_filter.mp hs).1
  refine perm_of ?_ (fun α ha => ?_) ?_
  · exact pair_flat ((fs_nodup l i j).filter _) (fun s hs => comb_nodup (hok s hs)) (fun s s' hne hs hs' a ha b hb e => by
      subst e
      exact hne (comb_det hj (hok s hs) (hok s' hs') ha hb))
  · obtain ⟨s, hs, ha⟩ := List.mem_flatMap.mp ha
    have := comb_row h hj (hok s hs) ha
    rw [of_decide_eq_true (List.mem_filter.mp hs).2] at this
    exact mem_RR.mpr this
  · rw [List.length_flatMap, (RR_len (Nat.le_of_lt h) hj).1, ← lsF_sum h hj]
    congr 1
    exact List.map_congr_left fun s hs => comb_len hj (hok s hs) h
/-! ### shares -/
def shR (i : Nat) (A : List (List Stp)) (d : Deed) : Nat := (A.map fun α => (ddS i α).count d).sum
/-- how often a deed stands in the least rows of a stretch -/
def shN (l : List Nat) (i j : Nat) (d : Deed) : Nat := shR i (RR l i j) d
theorem ddS_app : ∀ (α β : List Stp) (i : Nat), ddS i (α ++ β) = ddS i α ++ ddS (i + (inS α).length) β
  | [], β, i => rfl
  | s :: α, β, i => by
    rw [List.cons_append, ddS_step, ddS_step, ddS_app α β, inS_cons, List.length_append, List.append_assoc, Nat.add_assoc]
theorem shR_flat (i : Nat) (d : Deed) {β : Type} (f : β → List (List Stp)) : ∀ xs : List β, shR i (xs.flatMap f) d = (xs.map fun x => shR i (f x) d).sum
  | [] => rfl
  | x :: xs => by
    have ih := shR_flat i d f xs
    unfold shR at *
    rw [List.flatMap_cons, List.map_append, List.sum_append_nat, ih]
    rfl
theorem sum_cst {α : Type} (k : Nat) (f : α → Nat) : ∀ xs : List α, (xs.map fun x => k + f x).sum = xs.length * k + (xs.map f).sum
  | [] => by simp
  | x :: xs => by
    rw [List.map_cons, List.sum_cons, sum_cst k f xs, List.length_cons, List.map_cons, List.sum_cons, Nat.add_mul]
    omega
theorem sum_mulR {α : Type} (k : Nat) (f : α → Nat) : ∀ xs : List α, (xs.map fun x => k * f x).sum = k * (xs.map f).sum
  | [] => by simp
  | x :: xs => by
    rw [List.map_cons, List.sum_cons, sum_mulR k f xs, List.map_cons, List.sum_cons, Nat.mul_add]
def Fs.tms (l : List Nat) (j : Nat) (s : Fs) (p : Nat × Nat) : Nat := s.man l j / kN l p.1 p.2
def Fs.shr (l : List Nat) (i j : Nat) (s : Fs) (d : Deed) : Nat := (s.ds i).count d * s.man l j + ((s.parts j).map fun p => s.tms l j p * shN l p.1 p.2 d).sum
theorem comb_shr {l : List Nat} {i j : Nat} (hi : i < j) (hj : j ≤ l.length) {s : Fs} (h : FsOk l i j s) (d : Deed) : shR i (comb l j s) d = s.shr l i j d := by
  cases h with
  | one h0 hk ho hn hi2 =>
    have hl : (inS [h0]).length = 1 := by
      show (h0.i ++ []).length = 1
      rw [List.append_nil, ← hi2, seg_len (by omega)]
      omega
    obtain ⟨hk1, hk2⟩ := RR_len (l := l) (i := i + 1) (j := j) (by omega) hj
    have e : ∀ β : List Stp, (ddS i (h0 :: β)).count d = (ddS i [h0]).count d + (ddS (i + 1) β).count d := fun β => by
      rw [show h0 :: β = [h0] ++ β from rfl, ddS_app, List.count_append, hl]
    show (((RR l (i + 1) j).map (h0 :: ·)).map fun α => (ddS i α).count d).sum = (ddS i [h0]).count d * kN l (i + 1) j + (kN l (i + 1) j / kN l (i + 1) j * shN l (i + 1) j d + 0)
    rw [List.map_map, show ((fun α => (ddS i α).count d) ∘ fun x => h0 :: x) = fun β => (ddS i [h0]).count d + (ddS (i + 1) β).count d from funext e, sum_cst, hk1, Nat.div_self (by omega), Nat.one_mul, Nat.mul_comm]
    rfl
  | two h0 a m t b o hh ht oo ho to hi2 ti ea eb h1 h2 hz =>
    have hmb : m ≤ b := by omega
    obtain ⟨ka, ka0⟩ := RR_len (l := l) (i := a) (j := m) h1 (by omega)
    obtain ⟨kb, kb0⟩ := RR_len (l := l) (i := b) (j := j) h2 hj
    have e : ∀ β ∈ RR l a m, ∀ γ : List Stp, (ddS i (h0 :: (β ++ t :: γ))).count d = (ddS i [h0] ++ ddS m [t]).count d + ((ddS a β).count d + (ddS b γ).count d) := fun β hb γ => by
      have e1 : i + (inS [h0]).length = a := by show i + (h0.i ++ []).length = a; rw [List.append_nil, ea]
      have e2 : a + (inS β).length = m := by rw [(mem_RR.mp hb).tx, seg_len (by omega)]; omega
      have e3 : m + (inS [t]).length = b := by show m + (t.i ++ []).length = b; rw [List.append_nil, eb]
      rw [show h0 :: (β ++ t :: γ) = [h0] ++ (β ++ ([t] ++ γ)) from rfl, ddS_app, ddS_app, ddS_app, e1, e2, e3]
      simp only [List.count_append]
      omega
    have eI : ∀ β ∈ RR l a m, shR i ((RR l b j).map fun γ => h0 :: (β ++ t :: γ)) d = (kN l b j * (ddS i [h0] ++ ddS m [t]).count d + shN l b j d) + kN l b j * (ddS a β).count d := fun β hb => by
      unfold shR
      rw [List.map_map, show ((fun α => (ddS i α).count d) ∘ fun γ => h0 :: (β ++ t :: γ)) = fun γ => ((ddS i [h0] ++ ddS m [t]).count d + (ddS a β).count d) + (ddS b γ).count d from funext fun γ => by show (ddS i _).count d = _; rw [e β hb γ]; omega, sum_cst, kb, Nat.mul_add]
      show _ + shN l b j d = _
      omega
    show shR i ((RR l a m).flatMap fun β => (RR l b j).map fun γ => h0 :: (β ++ t :: γ)) d = (ddS i [h0] ++ ddS m [t]).count d * (kN l a m * kN l b j) + (kN l a m * kN l b j / kN l a m * shN l a m d + (kN l a m * kN l b j / kN l b j * shN l b j d + 0))
    rw [shR_flat, List.map_congr_left eI, sum_cst, sum_mulR, ka, Nat.mul_div_cancel_left _ (by omega), Nat.mul_div_cancel _ (by omega)]
    show kN l a m * (kN l b j * _ + shN l b j d) + kN l b j * shN l a m d = _
    rw [Nat.mul_add, ← Nat.mul_assoc, Nat.mul_comm (kN l a m * kN l b j)]
    omega
theorem sum_perm {xs ys : List Nat} (h : xs.Perm ys) : xs.sum = ys.sum := by
  induction h with
  | nil => rfl
  | cons x _ ih => rw [List.sum_cons, List.sum_cons, ih]
  | swap x y l => simp only [List.sum_cons]; omega
  | trans _ _ h1 h2 => exact h1.trans h2
theorem shR_perm {i : Nat} {A B : List (List Stp)} (h : A.Perm B) (d : Deed) : shR i A d = shR i B d := sum_perm (h.map _)
theorem shN_step {l : List Nat} {i j : Nat} (h : i < j) (hj : j ≤ l.length) (d : Deed) : shN l i j d = ((lsF l i j).map fun s => s.shr l i j d).sum := by
  unfold shN
  rw [← shR_perm (RR_perm h hj), shR_flat]
  congr 1
  exact List.map_congr_left fun s hs => comb_shr h hj (fs_ok h hj (List.mem_filter.mp hs).1) d
theorem shN_self (l : List Nat) (i : Nat) (d : Deed) : shN l i i d = 0 := by
  unfold shN RR shR
  rw [seg_self, show cN l i i = 0 by unfold cN; rw [mcN_self]; rfl]
  have : rowsL wAll [] [] 0 = [[]] := by rw [rows_zero]; rfl
  rw [this]
  rfl
theorem RR_whole (l : List Nat) : RR l 0 l.length = rowsL wAll [] l (lsN l) := by
  unfold RR
  obtain ⟨N, e⟩ := mc_ls (W := wAll) rfl rfl l
  rw [seg_all, show cN l 0 l.length = lsN l by unfold cN; rw [e]]
end Ly

set_option maxHeartbeats 4000000
namespace Ly
open PySem PySem.Spec PyProof.Rows L2 SX
/-! ### sorted(..) of what reads as data -/
/-- values and what they stand for -/
theorem each_of {β : Type} {R : V → β → Prop} : ∀ {ys : List V} {us : List Value} {bs : List β}, Vals ys us → Paired R ys bs → PySem.W.EachIs (fun u b => ∃ y, RelV y u ∧ R y b) us bs
  | _, _, _, .nil, .nil => .nil
  | _, _, _, .cons r t, .cons h q => .cons ⟨_, r, h⟩ (each_of t q)
theorem of_each {β : Type} {R : V → β → Prop} : ∀ {us : List Value} {bs : List β}, PySem.W.EachIs (fun u b => ∃ y, RelV y u ∧ R y b) us bs → ∃ ys, Vals ys us ∧ Paired R ys bs
  | _, _, .nil => ⟨[], .nil, .nil⟩
  | _, _, .cons ⟨y, r, h⟩ t => by
    obtain ⟨ys, r2, h2⟩ := of_each t
    exact ⟨y :: ys, .cons r r2, .cons h h2⟩
section
variable {X : Cx}
end
/-! ### dicts by deeds -/
def dkey (d : Deed) : List Key := [.inl (d.1 : Nat), .inr (S d.2.w), .inr (S d.2.s)]
theorem dkey_inj {d e : Deed} (h : dkey d = dkey e) : d = e := by
  unfold dkey at h
  injection h with h1 h
  injection h with h2 h
  injection h with h3 _
  have e1 := Sum.inl.inj h1
  obtain ⟨x, v⟩ := d
  obtain ⟨y, w⟩ := e
  have e2 : v = w := dw_inj (S_inj (Sum.inr.inj h2)) (S_inj (Sum.inr.inj h3))
  have e3 : x = y := by
    have : ((x : Nat) : Int) = (y : Nat) := e1
    omega
  rw [e2, e3]
/-- a dict at a that tells f, of deeds of E alone -/
structure SDt (H : Hp) (a : Addr) (E : List Deed) (f : Deed → Nat) (kvs : List (List Key × V)) : Prop where
  ob : H a = some (.dT kvs)
  nd : (kvs.map (·.1)).Nodup
  mem : ∀ p ∈ kvs, ∃ d, p.1 = dkey d ∧ d ∈ E
  val : ∀ d, valV kvs (dkey d) = if f d = 0 then none else some (.int (f d : Nat))
def SD (H : Hp) (a : Addr) (E : List Deed) (f : Deed → Nat) : Prop := ∃ kvs, SDt H a E f kvs
section
variable {H H1 : Hp} {a b p : Addr} {E : List Deed} {f : Deed → Nat} {Q : VK} {R : Hp → Prop}
theorem SD.same (h : SD H a E f) (s : Same H H1) : SD H1 a E f := by
  obtain ⟨kvs, h⟩ := h
  exact ⟨kvs, s _ _ h.ob, h.nd, h.mem, h.val⟩
theorem SD.but (h : SD H a E f) (s : But p H H1) (hn : a ≠ p) : SD H1 a E f := by
  obtain ⟨kvs, h⟩ := h
  exact ⟨kvs, s _ _ hn h.ob, h.nd, h.mem, h.val⟩
theorem SD.ne (h : SD H a E f) (hb : H b = none) : a ≠ b := by
  obtain ⟨kvs, h⟩ := h
  rintro rfl
  rw [h.ob] at hb
  cases hb
theorem SD.nek {o : HO} (h : SD H a E f) (hb : H b = some o) (hk : ∀ kvs, o ≠ .dT kvs) : a ≠ b := by
  obtain ⟨kvs, h⟩ := h
  rintro rfl
  rw [h.ob] at hb
  cases hb
  exact hk _ rfl
theorem SD.congr {g : Deed → Nat} (h : SD H a E f) (e : ∀ d, f d = g d) : SD H a E g := by
  rw [← (funext e : f = g)]
  exact h
/-- the deeds in it -/
theorem SDt.deeds {kvs : List (List Key × V)} (h : SDt H a E f kvs) : ∃ ds : List Deed, kvs.map (·.1) = ds.map dkey ∧ ds.Nodup ∧ (∀ d, d ∈ ds ↔ f d ≠ 0) ∧ ∀ d ∈ ds, d ∈ E := by
  have key : ∀ ks : List (List Key × V), (∀ p ∈ ks, ∃ d, p.1 = dkey d ∧ d ∈ E) → ∃ ds : List Deed, ks.map (·.1) = ds.map dkey ∧ ∀ d ∈ ds, d ∈ E := by
    intro ks
    induction ks with
    | nil => exact fun _ => ⟨[], rfl, fun _ h => nomatch h⟩
    | cons p r ih =>
      intro hm
      obtain ⟨d, e, hd⟩ := hm p List.mem_cons_self
      obtain ⟨ds, e2, h2⟩ := ih fun q hq => hm q (List.mem_cons_of_mem _ hq)
      refine ⟨d :: ds, by rw [List.map_cons, List.map_cons, e, e2], fun x hx => ?_⟩
      rcases List.mem_cons.mp hx with e | hx
      · rw [e]; exact hd
      · exact h2 x hx
  obtain ⟨ds, e, hE⟩ := key kvs h.mem
  have hnd := h.nd
  rw [e] at hnd
  have hn : ds.Nodup := (List.pairwise_map.mp hnd).imp fun hab q => hab (by rw [q])
  refine ⟨ds, e, hn, fun d => ⟨fun hd hf => ?_, fun hf => ?_⟩, hE⟩
  · have hv := h.val d
    rw [if_pos hf] at hv
    have := valV_not hv
    rw [e] at this
    exact this (List.mem_map.mpr ⟨d, hd, rfl⟩)
  · have hv := h.val d
    rw [if_neg hf] at hv
    have := valV_in hv
    rw [e] at this
    obtain ⟨d', hd', e'⟩ := List.mem_map.mp this
    rw [← dkey_inj e']
    exact hd'
theorem SDt.len {kvs : List (List Key × V)} (h : SDt H a E f kvs) : kvs.length ≤ E.length := by
  obtain ⟨ds, e, hn, _, hE⟩ := h.deeds
  have := nodup_len ds E hn hE
  have e' := congrArg List.length e
  rw [List.length_map, List.length_map] at e'
  omega
theorem g_dnewD (q : ∀ p H1, H p = none → Same H H1 → SD H1 p E (fun _ => 0) → Q (.ref p) H1) : rDNewT H Q := fun p np => q p _ np (Same.new np) ⟨[], ⟨upd_same, List.nodup_nil, (fun _ h => nomatch h), fun _ => rfl⟩⟩
theorem SD.get {d : Deed} (h : SD H a E f) (hb : H b = some (.tup (ddV d))) : DGet H a (.ref b) (if f d = 0 then none else some (.int (f d : Nat))) := by
  obtain ⟨kvs, h⟩ := h
  rw [← h.val]
  exact DGet.t (k := dkey d) h.ob hb
theorem SD.isD (h : SD H a E f) : IsD H a := by
  obtain ⟨kvs, h⟩ := h
  exact .inr ⟨kvs, .inl h.ob⟩
theorem g_dgetD {d : Deed} (h : SD H a E f) (hb : H b = some (.tup (ddV d))) (hf : f d ≠ 0) (q : Q (.int (f d : Nat)) H) : rDGet (.ref a) (.ref b) H Q := by
  have e := h.get hb
  rw [if_neg hf] at e
  exact ⟨a, _, rfl, e, q⟩
theorem SDt.put {d : Deed} {n : Nat} {kvs : List (List Key × V)} (h : SDt H a E f kvs) (hd : d ∈ E) (hn : n ≠ 0) (e : H1 a = some (.dT (putK kvs (dkey d) (.int n)))) : SDt H1 a E (fun x => if x = d then n else f x) (putK kvs (dkey d) (.int n)) := by
  refine ⟨e, ?_, fun p hp => ?_, fun x => ?_⟩
  · rw [putK_fst]
    split
    · exact h.nd
    · rename_i hk
      refine List.nodup_append.mpr ⟨h.nd, List.pairwise_singleton _ _, fun x hx y hy q => hk ?_⟩
      rw [← List.mem_singleton.mp hy, ← q]
      exact hx
  · have h1 : p.1 ∈ (putK kvs (dkey d) (V.int n)).map (·.1) := List.mem_map.mpr ⟨p, hp, rfl⟩
    rw [putK_fst] at h1
    have h2 : p.1 ∈ kvs.map (·.1) ∨ p.1 = dkey d := by
      split at h1
      · exact .inl h1
      · rcases List.mem_append.mp h1 with h1 | h1
        · exact .inl h1
        · exact .inr (List.mem_singleton.mp h1)
    rcases h2 with h2 | h2
    · obtain ⟨q, hq, e⟩ := List.mem_map.mp h2
      obtain ⟨d', e', hd'⟩ := h.mem q hq
      exact ⟨d', by rw [← e, e'], hd'⟩
    · exact ⟨d, h2, hd⟩
  · rw [valV_put]
    show _ = if (if x = d then n else f x) = 0 then none else some (V.int ((if x = d then n else f x : Nat)))
    by_cases q : x = d
    · subst q
      rw [if_pos rfl, if_pos rfl, if_neg hn]
    · rw [if_neg fun z => q (dkey_inj z), if_neg q, h.val]
theorem g_dputD {d : Deed} {n : Nat} (h : SD H a E f) (hb : H b = some (.tup (ddV d))) (hd : d ∈ E) (hE : E.length < 100000) (hn : n ≠ 0) (q : ∀ H1, But a H H1 → SD H1 a E (fun x => if x = d then n else f x) → R H1) : rDPut (.ref a) (.ref b) (.int n) H R := by
  obtain ⟨kvs, h⟩ := h
  have hl := h.len
  refine ⟨a, _, rfl, DPut.t (k := dkey d) h.ob hb (Nat.lt_of_le_of_lt (Nat.le_trans hl (Nat.le_of_lt hE)) (by decide)), q _ But.set ⟨_, h.put hd hn upd_same⟩⟩
end
theorem g_dputDv {H : Hp} {a b : Addr} {E : List Deed} {f : Deed → Nat} {R : Hp → Prop} {d : Deed} {n : Nat} {v : V} (h : SD H a E f) (hb : H b = some (.tup (ddV d))) (hd : d ∈ E) (hE : E.length < 100000) (hv : v = .int (n : Nat)) (hn : n ≠ 0) (q : ∀ H1, But a H H1 → SD H1 a E (fun x => if x = d then n else f x) → R H1) : rDPut (.ref a) (.ref b) v H R := by
  subst hv
  exact g_dputD h hb hd hE hn q
theorem sd_getD (f : Deed → Nat) (d : Deed) : ((if f d = 0 then none else some (V.int (f d : Nat))) : Option V).getD (.int 0) = .int (f d : Nat) := by
  by_cases h : f d = 0
  · rw [if_pos h, h]; rfl
  · rw [if_neg h]; rfl
theorem SD.ex {H : Hp} {a : Addr} {E : List Deed} {f : Deed → Nat} (h : SD H a E f) : ∃ g, SD H a E g ∧ ∀ d, g d = f d := ⟨f, h, fun _ => rfl⟩
theorem Dds.butD {H H' : Hp} {a p : Addr} {rs : List Addr} {ds : List Deed} {E : List Deed} {f : Deed → Nat} (h : Dds H a rs ds) (s : But p H H') (hp : SD H p E f) (hn : a ≠ p) : Dds H' a rs ds := by
  obtain ⟨kvs, hp⟩ := hp
  exact ⟨s _ _ hn h.hd, h.len, fun k r d h1 h2 => s _ _ (fun e => by have := h.it k r d h1 h2; rw [e, hp.ob] at this; cases this) (h.it k r d h1 h2)⟩
theorem Prs.butD {H H' : Hp} {a p : Addr} {xs : List (Nat × Nat)} {E : List Deed} {f : Deed → Nat} (h : Prs H a xs) (s : But p H H') (hp : SD H p E f) (hn : a ≠ p) : Prs H' a xs := by
  obtain ⟨kvs, hp⟩ := hp
  obtain ⟨rs, h1, h2, h3⟩ := h
  exact ⟨rs, s _ _ hn h1, h2, fun k r x q1 q2 => s _ _ (fun e => by have := h3 k r x q1 q2; rw [e, hp.ob] at this; cases this) (h3 k r x q1 q2)⟩
/-! `for d in dict` -/
theorem g_forD {wi : TE} {g : TG} {tb : TS} {D : Ends} {σ : L2.St} {H : Hp} {a : Addr} {E : List Deed} {f : Deed → Nat} (h : SD H a E f) (hw : ∀ (H1 : Hp) (Q : VK), Q (.ref a) H1 → wi σ H1 Q)
    (q : ∀ (ds : List Deed) (HL : Hp), ds.Nodup → (∀ d, d ∈ ds ↔ f d ≠ 0) → (∀ d ∈ ds, d ∈ E) → But a H HL →
      (∀ (H1 : Hp) (d : Deed) (b : Addr), (∀ o, HL a = some o → H1 a = some o) → f d ≠ 0 → H1 b = some (.tup (ddV d)) → DGet H1 a (.ref b) (some (.int (f d : Nat)))) →
      ∃ Pv : List Deed → L2.St → Hp → Prop, Pv [] σ HL ∧ (∀ pre d post σ H1 t, ds = pre ++ d :: post → Pv pre σ H1 → H1 t = some (.tup (ddV d)) → ∀ D' : Ends, D'.nx = Pv (pre ++ [d]) → g (.ref t) σ H1 fun σ2 H2 => tb D' σ2 H2) ∧
      (∀ pre σ H1, Pv pre σ H1 → ∀ o, HL a = some o → H1 a = some o) ∧
      (∀ σ H1, Pv ds σ H1 → ∀ H2, But a H1 H2 → (∀ o, H a = some o → H2 a = some o) → D.nx σ H2)) : tLock (tFor (iKeys wi) g tb) D σ H := by
  obtain ⟨kvs, h⟩ := h
  obtain ⟨ds, ek, hn, hm, hE⟩ := h.deeds
  refine ⟨a, .dT kvs, h.ob, trivial, fun od => ?_⟩
  have hlk : ∀ (H1 : Hp), (∀ o, upd H a (.frz od (.dT kvs)) a = some o → H1 a = some o) → H1 a = some (.frz od (.dT kvs)) := fun H1 e => e _ upd_same
  obtain ⟨Pv, q0, q1, q2, q3⟩ := q ds (upd H a (.frz od (.dT kvs))) hn hm hE (fun b o hb e => by rw [upd_ne hb]; exact e) (fun H1 d b e hf hb => by
    have e2 := hlk H1 e
    have : valV kvs (dkey d) = some (.int (f d : Nat)) := by rw [h.val, if_neg hf]
    rw [← this]
    exact .inr ⟨kvs, dkey d, b, .inr ⟨od, e2⟩, rfl, hb, rfl⟩)
  refine hw _ _ ⟨a, od, rfl, .inr ⟨kvs, upd_same, ?_⟩⟩
  have ekl : kvs.length = ds.length := by
    have := congrArg List.length ek
    rw [List.length_map, List.length_map] at this
    exact this
  refine for_it (walk_keysT (d := a) (o := od) (kvs := kvs)) (fun i σ' H' => Pv (ds.take i) σ' H') (by rw [List.take_zero]; exact q0) (fun i σ' H' _ hp => hlk H' (q2 _ _ _ hp)) (fun i x σ' H1 H' hi hp y => ?_) (fun σ' H' hp => ?_)
  · obtain ⟨rfl, k, v, t, e1, rfl, e2⟩ := y
    have e3 : (ds.map dkey)[i]? = some k := by rw [← ek, List.getElem?_map, e1]; rfl
    rw [List.getElem?_map] at e3
    cases hd : ds[i]? with
    | none => rw [hd] at e3; cases e3
    | some d =>
      rw [hd] at e3
      have e3 : dkey d = k := Option.some.inj e3
      subst e3
      obtain ⟨c1, c2⟩ := cut_at hd
      rw [c1]
      exact q1 (ds.take i) d (ds.drop (i + 1)) σ' H' t c2 hp e2 _ rfl
  · rw [ekl, List.take_length] at hp
    have e2 := hlk H' (q2 _ _ _ hp)
    refine ⟨e2, q3 σ' H' hp _ (fun b o hb e => by rw [upd_ne hb]; exact e) fun o e => ?_⟩
    rw [upd_same]
    rw [h.ob] at e
    exact e
/-! ### sorted(dict by deeds) -/
def srtD (ds : List Deed) : List Deed := ds.mergeSort (PySem.W.dataLe false ddD)
theorem le_total : PySem.W.TotalLe (PySem.W.dataLe false ddD) := PySem.W.sortLe_total _ _ _
theorem le_def (a b : Deed) : PySem.W.dataLe false ddD a b = !PySem.W.dataLt (ddD b) (ddD a) := rfl
theorem lt_total {a b : Deed} (h : a ≠ b) : PySem.W.dataLt (ddD a) (ddD b) = true ∨ PySem.W.dataLt (ddD b) (ddD a) = true := by
  obtain ⟨x, v⟩ := a
  obtain ⟨y, w⟩ := b
  rcases Nat.lt_trichotomy x y with h1 | h1 | h1
  · exact .inl (lt_place h1)
  · subst h1
    by_cases h2 : v.w = w.w
    · have h3 : v.s ≠ w.s := fun e => h (by rw [dw_inj h2 e])
      rcases Std.lt_trichotomy v.s w.s with h4 | h4 | h4
      · exact .inl (lt_sign h2 h4 h3)
      · exact absurd h4 h3
      · exact .inr (lt_sign h2.symm h4 (Ne.symm h3))
    · rcases Std.lt_trichotomy v.w w.w with h4 | h4 | h4
      · exact .inl (lt_word h4 h2)
      · exact absurd h4 h2
      · exact .inr (lt_word h4 (Ne.symm h2))
  · exact .inr (lt_place h1)
theorem le_anti {a b : Deed} (h1 : PySem.W.dataLe false ddD a b = true) (h2 : PySem.W.dataLe false ddD b a = true) : a = b := by
  refine Classical.byContradiction fun hne => ?_
  rw [le_def] at h1 h2
  rcases lt_total hne with h | h
  · rw [h] at h2; cases h2
  · rw [h] at h1; cases h1
theorem srt_perm (ds : List Deed) : (srtD ds).Perm ds := List.mergeSort_perm _ _
theorem srt_le (ds : List Deed) : (srtD ds).Pairwise fun a b => PySem.W.dataLe false ddD a b = true := PySem.W.sort_pairwise le_total ds
theorem srt_uniq {xs ys : List Deed} (hx : xs.Pairwise fun a b => PySem.W.dataLe false ddD a b = true) (hy : ys.Pairwise fun a b => PySem.W.dataLe false ddD a b = true) (h : xs.Perm ys) : xs = ys :=
  List.Perm.eq_of_pairwise (fun a b _ _ h1 h2 => le_anti h1 h2) hx hy h
theorem srt_eq {ds es : List Deed} (h : ds.Perm es) : srtD ds = srtD es := srt_uniq (srt_le ds) (srt_le es) ((srt_perm ds).trans (h.trans (srt_perm es).symm))
theorem perm_mem {α : Type} [DecidableEq α] {xs ys : List α} (hx : xs.Nodup) (hy : ys.Nodup) (h : ∀ a, a ∈ xs ↔ a ∈ ys) : xs.Perm ys :=
  perm_of hx (fun a ha => (h a).mp ha) (Nat.le_antisymm (nodup_len xs ys hx fun a ha => (h a).mp ha) (nodup_len ys xs hy fun a ha => (h a).mpr ha))
theorem srt_set {ds es : List Deed} (hx : ds.Nodup) (hy : es.Nodup) (h : ∀ a, a ∈ ds ↔ a ∈ es) : srtD ds = srtD es := srt_eq (perm_mem hx hy h)
theorem mem_srt {ds : List Deed} {d : Deed} : d ∈ srtD ds ↔ d ∈ ds := (srt_perm ds).mem_iff
theorem srt_len (ds : List Deed) : (srtD ds).length = ds.length := (srt_perm ds).length_eq
theorem alike_dd2 (a b : Deed) : PySem.W.alike (ddD a) (ddD b) = true := rfl
def rSortDd : List V → Hp → VK → Prop := fun xs H Q => ∃ (a : Addr) (E : List Deed) (f : Deed → Nat), xs = [.ref a] ∧ SD H a E f ∧ ∀ (ds : List Deed) (p : Addr) (rs : List Addr) (H1 : Hp), ds.Nodup → (∀ d, d ∈ ds ↔ f d ≠ 0) → (∀ d ∈ ds, d ∈ E) → H p = none → Same H H1 → Dds H1 p rs (srtD ds) → Q (.ref p) H1
theorem reads_tup {h : Heap} {v : Value} {ds : List PyData} {as : List Addr} (hr : Reads h v (.tuple ds) as) (hf : ∀ d ∈ ds, ∃ n, d = .int n ∨ ∃ z, d = .str z) : as = [] := by
  cases hr with
  | tuple h1 h2 h3 h4 =>
    clear h1 h2 h3
    rename_i o vs n
    generalize hv : vs.toList = us at h4
    clear hv
    induction ds generalizing us as with
    | nil => cases h4; rfl
    | cons d ds ih =>
      cases h4 with
      | cons g1 g2 =>
        have e2 := ih (fun x hx => hf x (List.mem_cons_of_mem _ hx)) _ g2
        obtain ⟨n, e | ⟨z, e⟩⟩ := hf d List.mem_cons_self
        · subst e; cases g1; rw [e2]; rfl
        · subst e; cases g1; rw [e2]; rfl
section
variable {X : Cx}
theorem call_sortDd (hcalm : X.calm = true) (hu : X.A.units + 64 < cLine) : CallR X (.builtin "sorted") rSortDd := by
  intro pins s σ H xs us Q I r q
  obtain ⟨a, E, f, rfl, ⟨kvs, hS⟩, q⟩ := q
  obtain ⟨ds, ek, hnd, hmem, hE0⟩ := hS.deeds
  rw [Vals.ref1 r]
  obtain ⟨z, hs, ks, pr, o, es, ep, ho, hx, hdt, he, hn⟩ := (show ObjOk X.prog X.w H s.heap a (.dT kvs) from I.hok a _ hS.ob)
  have l1 : es.size = ks.length := size_of_entries he
  have l2 : kvs.length = ks.length := Paired.length pr
  refine Calls.call_function_entry PyProof.Rows.kind_sorted PyProof.Rows.plain_sorted PyProof.Rows.entry_sorted (PyProof.Rows.args_sorted1 _) ?_
  unfold Builtin.«sorted»
  refine wpAny_bind (m := checkCount "sorted" 1 1 _) (wpAny_pure ?_)
  refine wpAny_bind (PySem.W.kdu_collect (A := X.A.in1) (kdl_raw hs hx hdt) (I.ok.hd hcalm) ho (by omega) fun h' tk acc hk hacc => ?_)
  have ea : acc.toList = ks.map fun x => Value.ref x.2.1 := by
    have hl : acc.toList.length = ks.length := by rw [Array.length_toList, hacc.1]; exact l1
    apply List.ext_getElem?
    intro j
    rw [List.getElem?_map]
    cases hj : acc.toList[j]? with
    | none =>
      have h1 := List.getElem?_eq_none_iff.mp hj
      rw [List.getElem?_eq_none (by omega)]
      all_goals rfl
    | some v =>
      obtain ⟨en, hen, hv⟩ := hacc.2 j v (by rw [← Array.getElem?_toList]; exact hj)
      have qe := entry_at he j
      rw [hen] at qe
      cases hb : ks[j]? with
      | none =>
        rw [hb] at qe
        exact nomatch (show some en = none from qe)
      | some b =>
        rw [hb] at qe
        have e2 : en = entryOfKey (tupleKind (mixKind X.prog X.w)) b := Option.some.inj qe
        rw [hv, e2]
        all_goals rfl
  have eb : acc.toList = (ks.map fun x => x.2.1).map Value.ref := by rw [ea, List.map_map]; all_goals rfl
  have I1 : Inv X pins σ H { s with heap := h', toks := tk } := I.kept hk
  have rv : Vals ((ks.map fun x => x.2.1).map V.ref) acc.toList := by rw [eb]; exact vals_refs _
  have hkeys := isKeys_of pr
  have hp : Paired (DdV H) ((ks.map fun x => x.2.1).map V.ref) ds := by
    have key : ∀ (kv : List (List Key × V)) (ts : List Addr) (es : List Deed), Paired (fun (p : List Key × V) b => H b = some (.tup (p.1.map kV))) kv ts → kv.map (·.1) = es.map dkey → Paired (DdV H) (ts.map V.ref) es := by
      intro kv
      induction kv with
      | nil =>
        intro ts es h1 h2
        cases h1
        cases es with
        | nil => exact .nil
        | cons _ _ => cases h2
      | cons p kv ih =>
        intro ts es h1 h2
        cases h1 with
        | cons g1 g2 =>
          cases es with
          | nil => cases h2
          | cons d es =>
            rw [List.map_cons, List.map_cons] at h2
            injection h2 with h3 h4
            rw [h3] at g1
            exact .cons ⟨_, rfl, g1⟩ (ih _ _ g2 h4)
    exact key _ _ _ hkeys ek
  have he2 := each_of rv hp
  have hlen : acc.toList.length = ds.length := by rw [← rv.length]; exact pd_len hp
  have hzl : acc.toList.length ≤ sizeLine := by rw [Array.length_toList, hacc.1]; omega
  refine wpAny_bind (wpAny_newList ?_ hzl)
  have hoL : (h'.push (seqObj "list" acc.toList.toArray 0)).get? h'.objs.size = some (seqObj "list" acc.toList.toArray 0) := Heap.get?_push_size _ rfl
  show wpAny _ _ _ _ _ { s with heap := h'.push (seqObj "list" acc.toList.toArray 0), toks := tk }
  have I2 : Inv X pins σ H { s with heap := h'.push (seqObj "list" acc.toList.toArray 0), toks := tk } := I1.kept (t' := tk) fun b ob e => Heap.get?_push_of_some _ e
  have er : PySem.W.EachIs (fun v b => ∃ as, Reads (h'.push (seqObj "list" acc.toList.toArray 0)) v (ddD b) as ∧ h'.objs.size ∉ as) acc.toList ds := he2.mono fun v b ⟨y, r, t, e, ht⟩ => by
    subst e
    obtain ⟨as, hr⟩ := Dp.reads I2 (ddD b) (.ref t) v (.tup (st_of ht) (.cons (.int _) (.cons (.str _) (.cons (.str _) .nil)))) r
    have := reads_tup hr (fun d hd => by
      rcases List.mem_cons.mp hd with e | hd
      · exact ⟨_, .inl e⟩
      · rcases List.mem_cons.mp hd with e | hd
        · exact ⟨0, .inr ⟨_, e⟩⟩
        · exact ⟨0, .inr ⟨_, List.mem_singleton.mp hd⟩⟩)
    exact ⟨as, hr, by rw [this]; exact fun h => nomatch h⟩
  have hdep : ∀ b : Deed, (ddD b).depth ≤ 60 := fun b => by
    show (PyData.tuple _).depth ≤ 60
    simp [PyData.depth, PyData.depthAll]
  refine wpAny_bind (wpAny_holding (wpAny_mono (PySem.W.list_sort_data (Q := fun v s' => v = .none ∧ ∃ out : List Value, out.length = ds.length ∧ PySem.W.EachIs (fun u b => ∃ y, RelV y u ∧ DdV H y b) out (srtD ds) ∧ s' = { s with heap := sortedHeap (h'.push (seqObj "list" acc.toList.toArray 0)) h'.objs.size acc.toList out.toArray, toks := tk }) hoL he2 er (PySem.W.AllAlike.of alike_dd2) (PySem.W.Sortable.tuples fun b => ⟨_, _, rfl⟩) (by rw [← hlen]; exact hzl) (fun b _ => by have := hdep b; have hin : X.A.in1.units = X.A.units + 1 := rfl; omega) fun out ho hE => ⟨rfl, out, ho, hE, rfl⟩) (fun v s' hv => ?_) fun _ _ e => e))
  obtain ⟨rfl, out, hol, hE, rfl⟩ := hv
  obtain ⟨zs, rz, pz⟩ := of_each hE
  obtain ⟨rs, e1, e2, e3⟩ := pd_refs pz
  obtain ⟨e', he'⟩ := PyProof.Rows.sortedHeap_at (vs := acc.toList) (out := out.toArray) hoL
  have hzz : zs.length ≤ sizeLine := by rw [rz.length, hol, ← hlen]; exact hzl
  have hfr := I1.hok.fresh (Nat.le_refl _)
  refine wpAny_pure ⟨_, rfl, .ref h'.objs.size, upd H h'.objs.size (.lst zs), I1.laid (t' := tk) (fun b u e => ?_) (Nat.le_refl _)
    (show ObjOk X.prog X.w _ _ _ (.lst zs) from ⟨hzz, out, e', rz, he'⟩), rfl, q ds _ rs _ hnd hmem hE0 hfr (Same.new hfr) ⟨by rw [upd_same, e1], e2, fun k r d h1 h2 => Same.new hfr _ _ (e3 k r d h1 h2)⟩⟩
  have hb : b < h'.objs.size := Heap.lt_size e
  rw [PyProof.Rows.sortedHeap_old (Nat.ne_of_lt hb) (by rw [PyProof.Rows.size_push']; exact Nat.lt_succ_of_lt hb)]
  exact Heap.get?_push_of_some _ e
end
/-! ### whole numbers: name *= e -/
theorem ip_mulW {X : Cx} : PIp X .Mult (rI CMulW fun i j => .int (i * j)) := opI fun _ _ _ _ _ _ _ hc q => imul_int q hc.ok
theorem dds_nil {H : Hp} {a : Addr} (e : H a = some (.lst [])) : Dds H a [] [] := ⟨e, rfl, fun k r d h _ => by simp at h⟩
theorem dds_one {H : Hp} {a t : Addr} {d : Deed} (e : H a = some (.lst [.ref t])) (h : H t = some (.tup (ddV d))) : Dds H a [t] [d] := ⟨e, rfl, fun k r x h1 h2 => by
  match k, h1, h2 with
  | 0, h1, h2 => cases h1; cases h2; exact h
  | k + 1, h1, h2 => simp at h1⟩
theorem dds_cat {H : Hp} {a b p : Addr} {rs ts : List Addr} {ds es : List Deed} (h1 : Dds H a rs ds) (h2 : Dds H b ts es) (e : H p = some (.lst (rs.map V.ref ++ ts.map V.ref))) : Dds H p (rs ++ ts) (ds ++ es) := by
  obtain ⟨rs', g, e'⟩ := dds_pd e (pd_app h1.pd h2.pd)
  rw [← List.map_append] at e'
  have : rs' = rs ++ ts := by
    have hm : ∀ xs ys : List Addr, xs.map V.ref = ys.map V.ref → ys = xs := fun xs ys q => by
      have := congrArg (List.map fun v : V => match v with | .ref a => a | _ => 0) q
      rw [List.map_map, List.map_map, show ((fun v : V => match v with | .ref a => a | _ => 0) ∘ V.ref) = id from rfl, List.map_id, List.map_id] at this
      exact this.symm
    exact hm _ _ e'
  rw [← this]
  exact g
/-! lists of pairs as they stand in the heap, and new -/
theorem prs1 {H : Hp} {pa t : Addr} {x : Nat × Nat} (e : H pa = some (.lst [.ref t])) (h : H t = some (.tup [.int x.1, .int x.2])) : Prs H pa [x] := ⟨[t], e, rfl, fun k r y h1 h2 => by
  match k, h1, h2 with
  | 0, h1, h2 => cases h1; cases h2; exact h
  | k + 1, h1, h2 => simp at h1⟩
theorem prs2 {H : Hp} {pa t u : Addr} {x y : Nat × Nat} (e : H pa = some (.lst [.ref t, .ref u])) (h : H t = some (.tup [.int x.1, .int x.2])) (h' : H u = some (.tup [.int y.1, .int y.2])) : Prs H pa [x, y] := ⟨[t, u], e, rfl, fun k r z h1 h2 => by
  match k, h1, h2 with
  | 0, h1, h2 => cases h1; cases h2; exact h
  | 1, h1, h2 => cases h1; cases h2; exact h'
  | k + 2, h1, h2 => simp at h1⟩
/-- a first step as it stands in the heap; its lists were not there in G -/
def FsH (G H : Hp) (j i : Nat) (v : V) (s : Fs) : Prop := ∃ t da pa rs, v = .ref t ∧ H t = some (.tup [.ref da, .ref pa]) ∧ Dds H da rs (s.ds i) ∧ Prs H pa (s.parts j) ∧ G da = none ∧ G pa = none
def FlH (G H : Hp) (l : List Nat) (j i : Nat) (v : V) (s : Fs) : Prop := ∃ t da pa rs, v = .ref t ∧ H t = some (.tup [.ref da, .ref pa, .int (s.man l j : Nat)]) ∧ Dds H da rs (s.ds i) ∧ Prs H pa (s.parts j) ∧ G da = none ∧ G pa = none
/-- a list of deeds, not there in G -/
def DlH (G H : Hp) (f : Nat → List Deed) (v : V) (o : Nat) : Prop := ∃ a rs, v = .ref a ∧ Dds H a rs (f o) ∧ G a = none
section
variable {G G0 H H1 : Hp} {i j fa : Addr} {v : V} {s : Fs} {l : List Nat} {ys : List V} {f : Nat → List Deed} {o : Nat} {u : HO}
theorem FsH.same (h : FsH G H j i v s) (z : Same H H1) : FsH G H1 j i v s := by
  obtain ⟨t, da, pa, rs, e, h1, h2, h3, h4, h5⟩ := h
  exact ⟨t, da, pa, rs, e, z _ _ h1, h2.same z, h3.same z, h4, h5⟩
theorem FsH.old (h : FsH G H j i v s) (z : Same G0 G) : FsH G0 H j i v s := by
  obtain ⟨t, da, pa, rs, e, h1, h2, h3, h4, h5⟩ := h
  exact ⟨t, da, pa, rs, e, h1, h2, h3, z.free h4, z.free h5⟩
theorem FsH.but (h : FsH G H j i v s) (z : But fa H H1) (hf : H fa = some (.lst ys)) (hg : G fa = some u) : FsH G H1 j i v s := by
  obtain ⟨t, da, pa, rs, e, h1, h2, h3, h4, h5⟩ := h
  exact ⟨t, da, pa, rs, e, z _ _ (fun q => by rw [q, hf] at h1; cases h1) h1, h2.but z hf (fun q => by rw [q, hg] at h4; cases h4), h3.but z hf (fun q => by rw [q, hg] at h5; cases h5), h4, h5⟩
theorem FlH.same (h : FlH G H l j i v s) (z : Same H H1) : FlH G H1 l j i v s := by
  obtain ⟨t, da, pa, rs, e, h1, h2, h3, h4, h5⟩ := h
  exact ⟨t, da, pa, rs, e, z _ _ h1, h2.same z, h3.same z, h4, h5⟩
theorem FlH.old (h : FlH G H l j i v s) (z : Same G0 G) : FlH G0 H l j i v s := by
  obtain ⟨t, da, pa, rs, e, h1, h2, h3, h4, h5⟩ := h
  exact ⟨t, da, pa, rs, e, h1, h2, h3, z.free h4, z.free h5⟩
theorem FlH.but (h : FlH G H l j i v s) (z : But fa H H1) (hf : H fa = some (.lst ys)) (hg : G fa = some u) : FlH G H1 l j i v s := by
  obtain ⟨t, da, pa, rs, e, h1, h2, h3, h4, h5⟩ := h
  exact ⟨t, da, pa, rs, e, z _ _ (fun q => by rw [q, hf] at h1; cases h1) h1, h2.but z hf (fun q => by rw [q, hg] at h4; cases h4), h3.but z hf (fun q => by rw [q, hg] at h5; cases h5), h4, h5⟩
theorem DlH.same (h : DlH G H f v o) (z : Same H H1) : DlH G H1 f v o := by
  obtain ⟨a, rs, e, h1, h2⟩ := h
  exact ⟨a, rs, e, h1.same z, h2⟩
theorem DlH.old (h : DlH G H f v o) (z : Same G0 G) : DlH G0 H f v o := by
  obtain ⟨a, rs, e, h1, h2⟩ := h
  exact ⟨a, rs, e, h1, z.free h2⟩
theorem DlH.but (h : DlH G H f v o) (z : But fa H H1) (hf : H fa = some (.lst ys)) (hg : G fa = some u) : DlH G H1 f v o := by
  obtain ⟨a, rs, e, h1, h2⟩ := h
  exact ⟨a, rs, e, h1.but z hf (fun q => by rw [q, hg] at h2; cases h2), h2⟩
end
theorem few_min : ∀ c ∈ BRK, ∀ d ∈ BRK, (∀ o ∈ OPN, (few c d).1 ≤ asC c o + asC d (oth o)) ∧ ∃ o ∈ OPN, asC c o + asC d (oth o) = (few c d).1 := by decide
theorem as_len (c d o p q : Nat) : (ddS p [asS c o] ++ ddS q [asS d (oth o)]).length = asC c o + asC d (oth o) := by
  rw [List.length_append, cst_one, cst_one, asC_cst, asC_cst]
theorem opn_get : ∀ k, k < 4 → OPN[k]? = some (OPN.getD k 0) ∧ CLO[k]? = some (oth (OPN.getD k 0)) := by decide
theorem opn_take {k : Nat} (h : k < 4) : OPN.take (k + 1) = OPN.take k ++ [OPN.getD k 0] := (cut_at (opn_get k h).1).1
theorem wys_le (c d : Nat) : (wys c d).length ≤ 4 := List.length_filter_le _ _
end Ly

set_option maxHeartbeats 4000000
namespace Ly
open PySem PySem.Spec PyProof.Rows L2 SX
theorem okB_ext {l r : List Nat} {d : Deed} (h : okB l d = true) : okB (l ++ r) d = true := by
  obtain ⟨p, w⟩ := d
  cases w with
  | put c =>
    unfold okB at *
    dsimp only at *
    rw [Bool.and_eq_true] at *
    refine ⟨?_, h.2⟩
    have := of_decide_eq_true h.1
    exact decide_eq_true (by rw [List.length_append]; omega)
  | str =>
    unfold okB at *
    dsimp only at *
    cases e : l[p]? with
    | none => rw [e] at h; cases h
    | some x =>
      rw [e] at h
      rw [List.getElem?_append_left (List.getElem?_eq_some_iff.mp e).1, e]
      exact h
  | trn c =>
    unfold okB at *
    dsimp only at *
    cases e : l[p]? with
    | none => rw [e] at h; cases h
    | some x =>
      rw [e] at h
      rw [List.getElem?_append_left (List.getElem?_eq_some_iff.mp e).1, e]
      exact h
theorem dd_ev {l : List Nat} {i a : Nat} {h : Stp} (hk : h.ok) (hi : seg l i a = h.i) (h1 : i ≤ a) (h2 : a ≤ l.length) : ∀ d ∈ ddS i [h], d ∈ evD l := fun d hd => by
  rw [mem_evD]
  have hl : (l.take i).length = i := by rw [List.length_take]; omega
  have := dd_ok [h] (l.take i) (fun s hs => by rw [List.mem_singleton.mp hs]; exact hk) d (by rw [hl]; exact hd)
  have e : l = (l.take i ++ inS [h]) ++ l.drop a := by
    show l = (l.take i ++ (h.i ++ [])) ++ l.drop a
    rw [List.append_nil, ← hi]
    have e1 : l.take i = seg l 0 i := rfl
    have e2 : l.drop a = seg l a l.length := seg_end.symm
    rw [e1, e2, ← seg_app (Nat.zero_le _) h1 (by omega), ← seg_app (Nat.zero_le _) h2 (by omega), seg_all]
  rw [e]
  exact okB_ext this
theorem fs_ev {l : List Nat} {i j : Nat} {s : Fs} (h : FsOk l i j s) (hij : i < j) (hj : j ≤ l.length) : ∀ d ∈ s.ds i, d ∈ evD l := by
  cases h with
  | one h0 hk ho hn hi => exact dd_ev hk hi (by omega) (by omega)
  | two h0 a m t b o hh ht oo ho to hi ti ea eb h1 h2 hz =>
    intro d hd
    rcases List.mem_append.mp hd with hd | hd
    · exact dd_ev hh hi (by omega) (by omega) d hd
    · exact dd_ev ht ti (by omega) (by omega) d hd
theorem man_ne {l : List Nat} {i j : Nat} {s : Fs} (h : FsOk l i j s) (hij : i < j) (hj : j ≤ l.length) : s.man l j ≠ 0 := by
  cases h with
  | one h0 hk ho hn hi => exact (RR_len (by omega) hj).2
  | two h0 a m t b o hh ht oo ho to hi ti ea eb h1 h2 hz => exact Nat.mul_ne_zero (RR_len h1 (by omega)).2 (RR_len h2 hj).2
theorem tms_ne {l : List Nat} {i j : Nat} {s : Fs} (h : FsOk l i j s) (hij : i < j) (hj : j ≤ l.length) : ∀ p ∈ s.parts j, s.tms l j p ≠ 0 := by
  cases h with
  | one h0 hk ho hn hi =>
    intro p hp
    rw [List.mem_singleton.mp hp]
    have := (RR_len (l := l) (i := i + 1) (j := j) (by omega) hj).2
    show kN l (i + 1) j / kN l (i + 1) j ≠ 0
    rw [Nat.div_self (by omega)]
    decide
  | two h0 a m t b o hh ht oo ho to hi ti ea eb h1 h2 hz =>
    intro p hp
    have k1 := (RR_len (l := l) (i := a) (j := m) h1 (by omega)).2
    have k2 := (RR_len (l := l) (i := b) (j := j) h2 hj).2
    rcases List.mem_cons.mp hp with e | hp
    · rw [e]
      show kN l a m * kN l b j / kN l a m ≠ 0
      rw [Nat.mul_div_cancel_left _ (by omega)]
      exact k2
    · rw [List.mem_singleton.mp hp]
      show kN l a m * kN l b j / kN l b j ≠ 0
      rw [Nat.mul_div_cancel _ (by omega)]
      exact k1
theorem kN_lt {l : List Nat} {a b : Nat} (h : a ≤ b) (hb : b ≤ l.length) (hl : l.length ≤ 100) : kN l a b < 2 ^ 1601 := by
  have := mcN_cnt (l := l) (W := wAll) (b - a) a (by omega)
  rw [show a + (b - a) = b by omega] at this
  exact Nat.lt_of_le_of_lt this (Nat.pow_lt_pow_right (by decide) (by omega))
theorem man_lt {l : List Nat} {i j : Nat} {s : Fs} (h : FsOk l i j s) (hij : i < j) (hj : j ≤ l.length) (hl : l.length ≤ 100) : s.man l j < 2 ^ 3202 := by
  cases h with
  | one h0 hk ho hn hi =>
    have := kN_lt (l := l) (a := i + 1) (b := j) (by omega) hj hl
    exact Nat.lt_trans this (Nat.pow_lt_pow_right (by decide) (by decide))
  | two h0 a m t b o hh ht oo ho to hi ti ea eb h1 h2 hz =>
    have k1 := kN_lt (l := l) (a := a) (b := m) h1 (by omega) hl
    have k2 := kN_lt (l := l) (a := b) (b := j) h2 hj hl
    show kN l a m * kN l b j < 2 ^ (1601 + 1601)
    rw [Nat.pow_add]
    exact Nat.mul_lt_mul'' k1 k2
theorem cN_le {l : List Nat} {a b : Nat} (h : a ≤ b) (hb : b ≤ l.length) : cN l a b ≤ b - a := by
  obtain ⟨α, hr⟩ := lsN_row (seg l a b)
  have h1 := RR_least h hb hr
  have h2 := lsN_brks (seg l a b)
  have h3 : (brks (seg l a b)).length ≤ (seg l a b).length := List.length_filter_le _ _
  rw [seg_len hb] at h3
  omega
theorem sum_leF {α : Type} {f : α → Nat} {k : Nat} : ∀ {xs : List α}, (∀ x ∈ xs, f x ≤ k) → (xs.map f).sum ≤ xs.length * k
  | [], _ => by simp
  | x :: xs, h => by
    have := sum_leF (xs := xs) fun y hy => h y (List.mem_cons_of_mem _ hy)
    have := h x List.mem_cons_self
    rw [List.map_cons, List.sum_cons, List.length_cons, Nat.add_mul]
    omega
theorem shN_le {l : List Nat} {a b : Nat} (h : a ≤ b) (hb : b ≤ l.length) (d : Deed) : shN l a b d ≤ kN l a b * (b - a) := by
  unfold shN shR
  have := sum_leF (f := fun α => (ddS a α).count d) (k := b - a) (xs := RR l a b) fun α ha => by
    have h1 := List.count_le_length (a := d) (l := ddS a α)
    rw [dd_cst, (mem_RR.mp ha).ct] at h1
    have := cN_le h hb
    omega
  rw [(RR_len h hb).1] at this
  exact this
theorem shN_lt {l : List Nat} {a b : Nat} (h : a ≤ b) (hb : b ≤ l.length) (hl : l.length ≤ 100) (d : Deed) : shN l a b d < 2 ^ 1608 := by
  have h1 := shN_le h hb d
  have h2 := kN_lt h hb hl
  have h3 : kN l a b * (b - a) ≤ kN l a b * 2 ^ 7 := Nat.mul_le_mul_left _ (by omega)
  have h4 : kN l a b * 2 ^ 7 < 2 ^ 1601 * 2 ^ 7 := Nat.mul_lt_mul_of_pos_right h2 (by decide)
  rw [← Nat.pow_add] at h4
  omega
theorem evD_len (l : List Nat) : (evD l).length ≤ (l.length + 1) * 16 := by
  unfold evD
  have := flat_len (f := evP l) (b := 16) (List.range (l.length + 1)) fun p _ => by
    unfold evP
    rw [List.length_append, List.length_map]
    have h1 : BRK.length = 8 := rfl
    rw [h1]
    show 8 + _ ≤ 8 + 8
    refine Nat.add_le_add_left ?_ 8
    cases l[p]? with
    | none => exact Nat.zero_le _
    | some x =>
      dsimp only
      split
      · rename_i hx
        rw [List.length_cons, List.length_map]
        have : ∀ x ∈ BRK, (BRK.filter (· ≠ x)).length = 7 := by decide
        exact Nat.le_of_eq (by rw [this x hx])
      · exact Nat.zero_le _
  rw [List.length_range] at this
  exact this
end Ly

set_option maxHeartbeats 4000000
namespace Ly
/-! ### all rows of steps, in another order -/
def stpsS (l : List Nat) (i n : Nat) : List Stp := (if 0 < n then BRK.map Stp.pt else []) ++ (match l[i]? with
  | none => []
  | some x => Stp.kp x :: (if 0 < n ∧ x ∈ BRK then Stp.st x :: (BRK.filter (· ≠ x)).map (Stp.tn x) else []))
theorem stps_perm (l : List Nat) (i n : Nat) : (stpsS l i n).Perm ((chS wAll l i).filter fun s => decide (s.c ≤ n)) := by
  unfold stpsS chS
  rw [List.filter_append, show wAll.pt = true from rfl, if_pos rfl]
  have hp : (BRK.map Stp.pt).filter (fun s => decide (s.c ≤ n)) = if 0 < n then BRK.map Stp.pt else [] := by
    by_cases h : 0 < n
    · rw [if_pos h]
      refine List.filter_eq_self.mpr fun s hs => ?_
      obtain ⟨c, _, rfl⟩ := List.mem_map.mp hs
      exact decide_eq_true h
    · rw [if_neg h]
      refine List.filter_eq_nil_iff.mpr fun s hs => ?_
      obtain ⟨c, _, rfl⟩ := List.mem_map.mp hs
      rw [decide_eq_false (show ¬ (Stp.pt c).c ≤ n from h)]
      exact Bool.false_ne_true
  rw [hp]
  refine List.Perm.append_left _ ?_
  cases l[i]? with
  | none => exact List.Perm.refl _
  | some x =>
    dsimp only
    by_cases hx : x ∈ BRK
    · rw [if_pos (show x ∈ BRK ∧ wAll.st = true from ⟨hx, rfl⟩), if_pos (show x ∈ BRK ∧ wAll.tn = true from ⟨hx, rfl⟩)]
      by_cases h : 0 < n
      · rw [if_pos (show 0 < n ∧ x ∈ BRK from ⟨h, hx⟩), List.filter_eq_self.mpr (fun s _ => decide_eq_true (Nat.le_trans (show s.c ≤ 1 by cases s <;> first | exact Nat.le_refl _ | exact Nat.zero_le _) h))]
        rw [← List.append_assoc]
        exact (List.perm_append_singleton _ _).symm
      · rw [if_neg (show ¬ (0 < n ∧ x ∈ BRK) from fun z => h z.1), List.filter_append, List.filter_append]
        have h1 : [Stp.st x].filter (fun s => decide (s.c ≤ n)) = [] := List.filter_eq_nil_iff.mpr fun s hs => by
          rw [List.mem_singleton.mp hs, decide_eq_false (show ¬ (Stp.st x).c ≤ n from h)]
          exact Bool.false_ne_true
        have h2 : [Stp.kp x].filter (fun s => decide (s.c ≤ n)) = [Stp.kp x] := List.filter_eq_self.mpr fun s hs => by
          rw [List.mem_singleton.mp hs]
          exact decide_eq_true (Nat.zero_le n)
        have h3 : ((BRK.filter (· ≠ x)).map (Stp.tn x)).filter (fun s => decide (s.c ≤ n)) = [] := List.filter_eq_nil_iff.mpr fun s hs => by
          obtain ⟨c, _, rfl⟩ := List.mem_map.mp hs
          rw [decide_eq_false (show ¬ (Stp.tn x c).c ≤ n from h)]
          exact Bool.false_ne_true
        rw [h1, h2, h3]
        exact List.Perm.refl _
    · rw [if_neg (show ¬ (0 < n ∧ x ∈ BRK) from fun z => hx z.2), if_neg (show ¬ (x ∈ BRK ∧ wAll.st = true) from fun z => hx z.1), if_neg (show ¬ (x ∈ BRK ∧ wAll.tn = true) from fun z => hx z.1)]
      have h2 : [Stp.kp x].filter (fun s => decide (s.c ≤ n)) = [Stp.kp x] := List.filter_eq_self.mpr fun s hs => by
        rw [List.mem_singleton.mp hs]
        exact decide_eq_true (Nat.zero_le n)
      show (_ : List Stp).Perm (([Stp.kp x] : List Stp).filter _)
      rw [h2]
theorem flat_filter {α β : Type} {f : α → List β} {p : α → Bool} : ∀ {xs : List α}, (∀ x ∈ xs, p x = false → f x = []) → (xs.filter p).flatMap f = xs.flatMap f
  | [], _ => rfl
  | x :: xs, h => by
    have ih := flat_filter (p := p) (xs := xs) fun y hy => h y (List.mem_cons_of_mem _ hy)
    cases hp : p x with
    | true => rw [List.filter_cons_of_pos hp, List.flatMap_cons, List.flatMap_cons, ih]
    | false => rw [List.filter_cons_of_neg (by rw [hp]; exact Bool.false_ne_true), List.flatMap_cons, h x List.mem_cons_self hp, ih]; rfl
theorem flat_perm {α β : Type} {xs ys : List α} (h : xs.Perm ys) (f : α → List β) : (xs.flatMap f).Perm (ys.flatMap f) := by
  induction h with
  | nil => exact List.Perm.refl _
  | cons x _ ih => rw [List.flatMap_cons, List.flatMap_cons]; exact List.Perm.append_left _ ih
  | swap x y l =>
    rw [List.flatMap_cons, List.flatMap_cons, List.flatMap_cons, List.flatMap_cons, ← List.append_assoc, ← List.append_assoc]
    exact List.Perm.append_right _ List.perm_append_comm
  | trans _ _ h1 h2 => exact h1.trans h2
theorem law_rows {l st : List Nat} {i n : Nat} (hi : i ≤ l.length) : ((if i = l.length ∧ st = [] ∧ n = 0 then [[]] else []) ++ (stpsS l i n).flatMap fun s => (aftS wAll st l i n s).map (s :: ·)).Perm (rowsL wAll st (l.drop i) n) := by
  by_cases h : i = l.length ∧ st = [] ∧ n = 0
  · rw [if_pos h]
    obtain ⟨rfl, rfl, rfl⟩ := h
    have e : stpsS l l.length 0 = [] := by
      unfold stpsS
      rw [List.getElem?_eq_none (Nat.le_refl _)]
      rfl
    rw [e, List.drop_length, rows_zero]
    exact List.Perm.refl _
  · rw [if_neg h, List.nil_append, rows_ch hi h]
    refine (flat_perm (stps_perm l i n) _).trans (List.Perm.of_eq (flat_filter fun s _ hs => ?_))
    unfold aftS
    rw [if_neg (of_decide_eq_false hs)]
    rfl
theorem mem_le {α : Type} {f : α → Nat} {x : α} : ∀ {xs : List α}, x ∈ xs → f x ≤ (xs.map f).sum
  | y :: ys, h => by
    rw [List.map_cons, List.sum_cons]
    rcases List.mem_cons.mp h with e | h
    · rw [e]; exact Nat.le_add_right _ _
    · exact Nat.le_trans (mem_le h) (Nat.le_add_left _ _)
theorem aft_le {l st : List Nat} {i n : Nat} {s : Stp} (hi : i ≤ l.length) (hs : s ∈ stpsS l i n) : (aftS wAll st l i n s).length ≤ An wAll st (l.drop i) n := by
  have := (law_rows (st := st) (n := n) hi).length_eq
  show _ ≤ (rowsL wAll st (l.drop i) n).length
  rw [← this, List.length_append, List.length_flatMap]
  have := mem_le (f := fun s => ((aftS wAll st l i n s).map (s :: ·)).length) hs
  rw [List.length_map] at this
  exact Nat.le_trans this (Nat.le_add_left _ _)
theorem take_le {l st : List Nat} {i n k : Nat} (hi : i ≤ l.length) : ((if i = l.length ∧ st = [] ∧ n = 0 then [[]] else []) ++ ((stpsS l i n).take k).flatMap fun s => (aftS wAll st l i n s).map (s :: ·)).length ≤ An wAll st (l.drop i) n := by
  have := (law_rows (st := st) (n := n) hi).length_eq
  show _ ≤ (rowsL wAll st (l.drop i) n).length
  rw [← this, List.length_append, List.length_append]
  refine Nat.add_le_add_left ?_ _
  conv => rhs; rw [← List.take_append_drop k (stpsS l i n), List.flatMap_append, List.length_append]
  exact Nat.le_add_right _ _
theorem stps_mem {l : List Nat} {i n : Nat} {s : Stp} (hi : i ≤ l.length) (hs : ∀ c ∈ l, isSg c) (h : s ∈ stpsS l i n) : (s.o = [] ∨ ∃ c, s.o = [c]) ∧ i + s.i.length ≤ l.length ∧ s.c ≤ n ∧ (n - s.c) + (l.length - (i + s.i.length)) + 1 ≤ n + (l.length - i) ∧ (s.c = 0 → s.i.length = 1) := by
  have h0 : (s.o = [] ∨ ∃ c, s.o = [c]) := by cases s <;> first | exact .inr ⟨_, rfl⟩ | exact .inl rfl
  refine ⟨h0, ?_⟩
  have hm := (stps_perm l i n).mem_iff.mp h
  obtain ⟨h1, h2⟩ := List.mem_filter.mp hm
  have hc := of_decide_eq_true h2
  have hin := ch_in h1
  have hcl : s.c + s.i.length ≥ 1 := by cases s <;> simp [Stp.c, Stp.i]
  rw [Nat.max_eq_right hi] at hin
  exact ⟨hin, hc, by omega, fun e => by cases s <;> first | rfl | cases e⟩
/-! how many least rows a short text has at most -/
theorem cnt_smS (f : Nat → MC) : ∀ n, cnt (sm f n) ≤ ((List.range n).map fun k => cnt (f k)).sum
  | 0 => Nat.le_refl _
  | n + 1 => by
    rw [sm, List.range_succ, List.map_append, List.sum_append_nat]
    refine Nat.le_trans (cnt_add _ _) (Nat.add_le_add (cnt_smS f n) ?_)
    simp
theorem cnt_m3S (x y z : MC) {a b c : Nat} (h1 : cnt x ≤ a) (h2 : cnt y ≤ b) (h3 : cnt z ≤ c) : cnt (m3 x y z) ≤ a * b * c := by
  unfold m3
  rw [cnt_mul, cnt_mul]
  exact Nat.mul_le_mul (Nat.mul_le_mul h1 h2) h3
def bQ : Nat → Nat
  | 0 => 1
  | 1 => 3
  | 2 => 19
  | 3 => 137
  | _ => 1101
theorem cnt_sg1 (l : List Nat) (W : Wd) (i : Nat) : cnt (sgM l W i) ≤ 1 := by
  unfold sgM
  cases l[i]? with
  | none => exact Nat.zero_le _
  | some c =>
    dsimp only
    split
    · split
      · exact Nat.le_refl _
      · exact Nat.zero_le _
    · exact Nat.le_refl _
theorem cnt_op1 (l : List Nat) (W : Wd) (i : Nat) : cnt (opM l W i) ≤ 1 := by
  unfold opM
  cases l[i]? with
  | none => exact Nat.zero_le _
  | some c =>
    dsimp only
    split
    · exact Nat.le_refl _
    · exact Nat.zero_le _
theorem cnt_cl1 (l : List Nat) (W : Wd) (i : Nat) : cnt (clM l W i) ≤ 1 := by
  unfold clM
  cases l[i]? with
  | none => exact Nat.zero_le _
  | some c =>
    dsimp only
    split
    · exact Nat.le_refl _
    · exact Nat.zero_le _
theorem cnt_stM {l : List Nat} {W : Wd} {i n : Nat} (b : Nat → Nat) (hb : ∀ a k, k < n + 1 → cnt (mcN l W a (a + k)) ≤ b k) : cnt (mcN l W i (i + (n + 1))) ≤ b n + (((List.range n).map fun t => 4 * b t * b (n - 1 - t)).sum + (((List.range (n + 1)).map fun t => 1 * b t * b (n - t)).sum + ((List.range (n + 1)).map fun t => 1 * b t * b (n - t)).sum)) := by
  rw [mcN_step (by omega)]
  unfold stM
  rw [show i + (n + 1) - i - 1 = n by omega, show i + (n + 1) - i = n + 1 by omega]
  have hF : ∀ a k c, k < n + 1 → c = a + k → cnt (mcN l W a c) ≤ b k := fun a k c h e => by rw [e]; exact hb a k h
  have hsum : ∀ (m : Nat) (f g : Nat → Nat), (∀ t, t < m → f t ≤ g t) → ((List.range m).map f).sum ≤ ((List.range m).map g).sum := fun m f g h => by
    induction m with
    | zero => exact Nat.le_refl _
    | succ m ih =>
      rw [List.range_succ, List.map_append, List.map_append, List.sum_append_nat, List.sum_append_nat]
      refine Nat.add_le_add (ih fun t ht => h t (by omega)) ?_
      simpa using h m (by omega)
  refine Nat.le_trans (cnt_add _ _) (Nat.add_le_add ?_ (Nat.le_trans (cnt_add _ _) (Nat.add_le_add ?_ (Nat.le_trans (cnt_add _ _) (Nat.add_le_add ?_ ?_)))))
  · rw [cnt_mul]
    have h1 := cnt_sg1 l W i
    have h2 := hF (i + 1) n (i + (n + 1)) (by omega) (by omega)
    have := Nat.mul_le_mul h1 h2
    rw [Nat.one_mul] at this
    exact this
  · refine Nat.le_trans (cnt_smS _ _) (hsum n _ _ fun t ht => ?_)
    exact cnt_m3S _ _ _ (cnt_pr l W i _) (hF _ t _ (by omega) rfl) (hF _ (n - 1 - t) _ (by omega) (by omega))
  · refine Nat.le_trans (cnt_smS _ _) (hsum (n + 1) _ _ fun t ht => ?_)
    exact cnt_m3S _ _ _ (cnt_op1 l W i) (hF _ t _ (by omega) rfl) (hF _ (n - t) _ (by omega) (by omega))
  · refine Nat.le_trans (cnt_smS _ _) (hsum (n + 1) _ _ fun t ht => ?_)
    exact cnt_m3S _ _ _ (cnt_cl1 l W _) (hF _ t _ (by omega) rfl) (hF _ (n - t) _ (by omega) (by omega))
theorem mcN_bQ {l : List Nat} {W : Wd} : ∀ (n i : Nat), n ≤ 4 → cnt (mcN l W i (i + n)) ≤ bQ n := by
  have h0 : ∀ i, cnt (mcN l W i (i + 0)) ≤ bQ 0 := fun i => by rw [Nat.add_zero, mcN_self]; exact Nat.le_refl _
  have h1 : ∀ i, cnt (mcN l W i (i + 1)) ≤ bQ 1 := fun i => cnt_stM (n := 0) bQ fun a k hk => by
    have : k = 0 := by omega
    rw [this]; exact h0 a
  have h2 : ∀ i, cnt (mcN l W i (i + 2)) ≤ bQ 2 := fun i => cnt_stM (n := 1) bQ fun a k hk => by
    match k, hk with
    | 0, _ => exact h0 a
    | 1, _ => exact h1 a
  have h3 : ∀ i, cnt (mcN l W i (i + 3)) ≤ bQ 3 := fun i => cnt_stM (n := 2) bQ fun a k hk => by
    match k, hk with
    | 0, _ => exact h0 a
    | 1, _ => exact h1 a
    | 2, _ => exact h2 a
  have h4 : ∀ i, cnt (mcN l W i (i + 4)) ≤ bQ 4 := fun i => cnt_stM (n := 3) bQ fun a k hk => by
    match k, hk with
    | 0, _ => exact h0 a
    | 1, _ => exact h1 a
    | 2, _ => exact h2 a
    | 3, _ => exact h3 a
  intro n i hn
  match n, hn with
  | 0, _ => exact h0 i
  | 1, _ => exact h1 i
  | 2, _ => exact h2 i
  | 3, _ => exact h3 i
  | 4, _ => exact h4 i
theorem least_few {l : List Nat} (hl : l.length ≤ 4) : An wAll [] l (lsN l) ≤ 1101 ∧ ∀ n, n < lsN l → An wAll [] l n = 0 := by
  obtain ⟨N, e⟩ := mc_ls (W := wAll) rfl rfl l
  have h := Ld_whole (W := wAll) l
  rw [e] at h
  refine ⟨?_, fun n hn => h.2.2 n hn⟩
  have h1 : An wAll [] l (lsN l) = N := h.1
  have h2 := mcN_bQ (l := l) (W := wAll) l.length 0 hl
  rw [Nat.zero_add, e] at h2
  have h3 : N ≤ bQ l.length := h2
  have h4 : ∀ n, n ≤ 4 → bQ n ≤ 1101 := by decide
  rw [h1]
  exact Nat.le_trans h3 (h4 _ hl)
theorem lsN_len (l : List Nat) : lsN l ≤ l.length := Nat.le_trans (lsN_brks l) (List.length_filter_le _ _)
end Ly

set_option maxHeartbeats 4000000
namespace K33
open PySem PySem.Spec PyProof.Rows L2 SX Ly
structure Facts (K : PySem.W.Frag) (mg : Str → Option Value) : Prop where
  f_wall : DefAt K mg "_wall" s_wall ["k"]
  f_kind_of : DefAt K mg "kind_of" s_kind_of ["bracket"]
  f_turned : DefAt K mg "turned" s_turned ["place", "sign", "wanted"]
  f_is_letter : DefAt K mg "is_letter" s_is_letter ["sign"]
  f_fewest_turns : DefAt K mg "fewest_turns" s_fewest_turns ["one", "other"]
  f_least_steps : DefAt K mg "least_steps" s_least_steps ["ways", "i", "j"]
  f_shares_in : DefAt K mg "shares_in" s_shares_in ["ways", "known", "i", "j"]
  f_all_shares : DefAt K mg "all_shares" s_all_shares ["ways"]
  f_shares_of : DefAt K mg "shares_of" s_shares_of ["text"]
  f_law_stream : DefAt K mg "_law_stream" s_law_stream ["cell"]
  f_law_take : DefAt K mg "_law_take" s_law_take ["row", "many"]
  f_law_bracket : DefAt K mg "_law_bracket" s_law_bracket ["row", "kinds"]
  f_law_clean : DefAt K mg "_law_clean" s_law_clean ["row", "most", "kinds"]
  f_law_text : DefAt K mg "_law_text" s_law_text ["row", "most"]
  f_law_open : DefAt K mg "_law_open" s_law_open ["stack", "bracket"]
  f_law_steps : DefAt K mg "_law_steps" s_law_steps ["text", "words", "at", "left"]
  f_law_behind : DefAt K mg "_law_behind" s_law_behind ["stack", "bracket"]
  f_law_all : DefAt K mg "_law_all" s_law_all ["text", "at", "stack", "left"]
  f_law_least_rows : DefAt K mg "_law_least_rows" s_law_least_rows ["text"]
  f_law_shares : DefAt K mg "_law_shares" s_law_shares ["rows"]
  f_law_same : DefAt K mg "_law_same" s_law_same ["found", "due"]
  c_OPENING : ∃ u, mg "OPENING" = some u ∧ RelV (Tx OPN) u
  c_CLOSING : ∃ u, mg "CLOSING" = some u ∧ RelV (Tx CLO) u
  -- const ALL_WORDS
  c_ALL_WORDS : ∃ u, mg "ALL_WORDS" = some u ∧ RelV (V.ref (He.ga K "ALL_WORDS")) u
  q_ALL_WORDS : ∀ H : Hp, SqT K H (He.ga K "ALL_WORDS") [Tx [112, 117, 116], Tx [115, 116, 114, 105, 107, 101], Tx [116, 117, 114, 110]]
  b_len : mg "len" = none
  b_int : mg "int" = none
  b_range : mg "range" = none
  b_isinstance : mg "isinstance" = none
  b_list : mg "list" = none
  b_tuple : mg "tuple" = none
  b_bool : mg "bool" = none
  b_min : mg "min" = none
  b_sorted : mg "sorted" = none
  cl_Ways : Cls K (He.ga K "Ways")
  n_Ways_signs : NoAttr K (He.ga K "Ways") "signs"
  n_Ways_words : NoAttr K (He.ga K "Ways") "words"
  n_Ways_costs : NoAttr K (He.ga K "Ways") "costs"
  n_Ways_counts : NoAttr K (He.ga K "Ways") "counts"
  k_Ways_init : MakAt K mg "Ways" "Ways.__init__" s_Ways_init ["self", "signs", "words"]
  m_Ways_cost : MetAt K "Ways" "cost" "Ways.cost" s_Ways_cost ["self", "i", "j"]
  m_Ways_count : MetAt K "Ways" "count" "Ways.count" s_Ways_count ["self", "i", "j"]
  m_Ways_grow : MetAt K "Ways" "grow" "Ways.grow" s_Ways_grow ["self", "sign"]
  m_Ways_reckoned : MetAt K "Ways" "reckoned" "Ways.reckoned" s_Ways_reckoned ["self", "i", "j"]
  m_Ways_numbers : MetAt K "Ways" "numbers" "Ways.numbers" s_Ways_numbers ["self", "i", "j"]
  m_Ways_note : MetAt K "Ways" "note" "Ways.note" s_Ways_note ["self", "found", "number", "many", "begin", "m", "j"]
  m_Ways_note_puts : MetAt K "Ways" "note_puts" "Ways.note_puts" s_Ways_note_puts ["self", "found", "i", "j"]
  m_Ways_together : MetAt K "Ways" "together" "Ways.together" s_Ways_together ["self", "deeds", "parts"]
  m_Ways_first_steps : MetAt K "Ways" "first_steps" "Ways.first_steps" s_Ways_first_steps ["self", "i", "j"]
  m_Ways_pairs : MetAt K "Ways" "pairs" "Ways.pairs" s_Ways_pairs ["self", "i", "j"]
  m_Ways_as_pair : MetAt K "Ways" "as_pair" "Ways.as_pair" s_Ways_as_pair ["self", "i", "m"]
  m_Ways_put_partners : MetAt K "Ways" "put_partners" "Ways.put_partners" s_Ways_put_partners ["self", "i", "j"]
end K33

set_option maxHeartbeats 4000000
namespace K33
open PySem PySem.Spec PyProof.Rows L2 SX Ly
local macro_rules | `(tactic| wtm_at "unf") => `(tactic| (try simp only [tMetX, tOwnX, tChain, tSeq, tNext, tBreak, tCont, tDrop, tRet, tRetN, tIfS, tAsg, tAug, tC, tOp, tUn, tNil, tCons, tOwn, tCB, tTest, tB, tAnd, tOr, tNot, tAndV, tOrV, tNotV, tIf, gName, gSub, tBM, tBM0, tM0, tM1, tSl, tPart_eq, tNoPart, tLst_eq, tTup_eq, tRevL_eq, tReplT, tRevS, tDGet_eq, sDPut_eq, tDNewT_eq, tMet, tMak, tFld_eq, sFld_eq, C8.tCut, wipe, tYes, gTup, gCons, gNil, List.set_cons_zero, List.set_cons_succ, if_true, if_false, Bool.false_eq_true, Bool.not_true, Bool.not_false, true_and, reduceIte, cx_K, tFor_eq, tLc_eq, iStr, iList, iTup, iRng1, iRng2, iRng3, iEnum, iZip, tLstRg, tRg1, gLst, RZ.iZipA, iEnumS, iZipS, tDNewK_eq, tDGet2, tDIn, tDNotIn, iKd]))
local macro_rules | `(tactic| wtm_at "unfA") => `(tactic| (try simp only [tMetX, tOwnX, tChain, tSeq, tNext, tBreak, tCont, tDrop, tRet, tRetN, tIfS, tAsg, tAug, tC, tOp, tUn, tNil, tCons, tOwn, tCB, tTest, tB, tAnd, tOr, tNot, tIf, gName, gSub, tBM, tBM0, tM0, tM1, tSl, tPart_eq, tNoPart, tLst_eq, tTup_eq, tRevL_eq, tReplT, tRevS, tDGet_eq, sDPut_eq, tDNewT_eq, tMet, tMak, tFld_eq, sFld_eq, C8.tCut, wipe, tYes, gTup, gCons, gNil, List.set_cons_zero, List.set_cons_succ, if_true, if_false, Bool.false_eq_true, Bool.not_true, Bool.not_false, true_and, reduceIte, cx_K, tFor_eq, tLc_eq, iStr, iList, iTup, iRng1, iRng2, iRng3, iEnum, iZip, tLstRg, tRg1, gLst, RZ.iZipA, iEnumS, iZipS, tDNewK_eq, tDGet2, tDIn, tDNotIn, iKd]))
local macro_rules | `(tactic| wtm_at "ne") => `(tactic| first | assumption | (apply Ne.symm; assumption) | (apply ne_new; (· assumption); (· wtm_at "lk")) | (apply Ne.symm; apply ne_new; (· assumption); (· wtm_at "lk")))
local macro_rules | `(tactic| wtm_at "lk") => `(tactic| first | assumption | exact upd_same | (apply Same.get; (· assumption); (· wtm_at "lk")) | (apply But.get; (· assumption); (· wtm_at "ne"); (· wtm_at "lk")))
local macro_rules | `(tactic| wtm_at "sq") => `(tactic| first | assumption | (apply sq_of; wtm_at "lk") | (apply Same.seq; (· assumption); (· wtm_at "sq")) | (apply But.sq; (· assumption); (· wtm_at "ne"); (· wtm_at "sq")))
local macro_rules | `(tactic| wtm_at "fr") => `(tactic| first | assumption | (apply Same.fr; (· assumption); (· wtm_at "sm")) | (apply But.fr; (· assumption); (· wtm_at "sm"); (· wtm_at "ne")))
local macro_rules | `(tactic| wtm_at "sm") => `(tactic| first | exact Same.refl _ | exact But.refl | assumption | (apply Same.tr; (· assumption); (· wtm_at "sm")) | (apply Same.b0; (· assumption); (· wtm_at "sm"); (· wtm_at "fr")) | (apply But.sa; (· assumption); (· wtm_at "sm")) | (apply But.tr; (· assumption); (· wtm_at "sm")) | (apply But.b0; (· assumption); (· wtm_at "sm"); (· wtm_at "fr")) | (apply Same.toBut; wtm_at "sm"))
local macro_rules | `(tactic| wtm_at "sc") => `(tactic| first | exact Int.zero_lt_one | (show (0 : Int) < _; omega) | (show (0 : Int) < _; decide) | exact ⟨by omega, by omega⟩ | exact .inl ⟨by omega, by omega⟩ | exact .inr ⟨by omega, by omega⟩)
local macro_rules | `(tactic| wtm_at "go1") => `(tactic| first | ((with_reducible apply g_var); (· exact rfl)) | with_reducible apply g_I0 | ((with_reducible apply g_I); (· wtm_at "sc")) | with_reducible apply g_U | with_reducible apply g_ipI | ((with_reducible apply g_addT); (· first | omega | (simp; done) | (simp; omega))) | with_reducible apply g_inT | with_reducible apply g_ninT | ((with_reducible apply g_lenT); (· omega)) | with_reducible apply g_findT1 | with_reducible apply g_str | with_reducible apply g_part | with_reducible apply g_intB | ((with_reducible apply g_ixL); (· wtm_at "sq"); (· exact rfl)) | ((with_reducible apply g_setL); (· wtm_at "lk"); (· exact rfl)) | ((with_reducible apply g_eq); (· rfl)) | ((with_reducible apply g_ne); (· rfl)))
local macro_rules | `(tactic| wtm_at "go") => `(tactic| repeat wtm_at "go1")
local macro_rules | `(tactic| wtm_at "lp") => `(tactic| skip)
local macro_rules | `(tactic| wtm_at "om") => `(tactic| first | omega | (simp; done) | (simp; omega) | (simp at *; omega))
local macro_rules | `(tactic| wtm_at "ty") => `(tactic| first | exact ty_str | exact ty_int | exact ty_bl | exact ty_non | (apply ty_lst; wtm_at "lk") | (apply ty_tup; wtm_at "lk"))
local macro_rules | `(tactic| wtm_at "kb") => `(tactic| first | exact kb_str_str | exact kb_str_int | exact kb_str_bool | exact kb_str_list | exact kb_str_tuple | exact kb_int_str | exact kb_int_int | exact kb_int_bool | exact kb_int_list | exact kb_int_tuple | exact kb_bool_str | exact kb_bool_int | exact kb_bool_bool | exact kb_bool_list | exact kb_bool_tuple | exact kb_list_str | exact kb_list_int | exact kb_list_bool | exact kb_list_list | exact kb_list_tuple | exact kb_tuple_str | exact kb_tuple_int | exact kb_tuple_bool | exact kb_tuple_list | exact kb_tuple_tuple | exact kb_NoneType_str | exact kb_NoneType_int | exact kb_NoneType_bool | exact kb_NoneType_list | exact kb_NoneType_tuple | exact kb_dict_str | exact kb_dict_int | exact kb_dict_bool | exact kb_dict_list | exact kb_dict_tuple)
local macro_rules | `(tactic| wtm_at "gx1") => `(tactic| first | ((with_reducible apply g_eqS); (· exact rfl)) | ((with_reducible apply g_neS); (· exact rfl)) | wtm_at "go1" | with_reducible apply g_min2 | with_reducible apply g_max2 | with_reducible apply g_T | with_reducible apply g_F | with_reducible apply g_NT | with_reducible apply g_NF | with_reducible apply g_nT | with_reducible apply g_nF | with_reducible apply g_RT | with_reducible apply g_RF | ((with_reducible apply g_isi); (· wtm_at "ty"); (· wtm_at "kb")) | ((with_reducible apply g_ixAU3); (· wtm_at "lk"); (· exact rfl)) | ((with_reducible apply g_ixAL3); (· wtm_at "lk"); (· exact rfl)) | ((with_reducible apply g_ixU3); (· wtm_at "lk"); (· exact rfl)) | ((with_reducible apply g_lenL3); (· wtm_at "lk")) | ((with_reducible apply g_lenU3); (· wtm_at "lk")) | ((with_reducible apply g_tyL3); (· wtm_at "lk")) | ((with_reducible apply g_lenT); (· wtm_at "pv")) | wtm_at "tr" | with_reducible apply g_ET | with_reducible apply g_EF | with_reducible apply g_EnT | with_reducible apply g_EnF)
local macro_rules | `(tactic| wtm_at "pv") => `(tactic| first | exact rfl | assumption | omega | (simp; done) | (simp; omega))
local macro_rules | `(tactic| wtm_at "tr") => `(tactic| first | ((with_reducible apply g_Td); (· wtm_at "pv")) | ((with_reducible apply g_Fd); (· wtm_at "pv")) | ((with_reducible apply g_NTd); (· wtm_at "pv")) | ((with_reducible apply g_NFd); (· wtm_at "pv")) | ((with_reducible apply g_nTd); (· wtm_at "pv")) | ((with_reducible apply g_nFd); (· wtm_at "pv")) | ((with_reducible apply g_RTd); (· wtm_at "pv")) | ((with_reducible apply g_RFd); (· wtm_at "pv")))
local macro_rules | `(tactic| wtm_at "gx") => `(tactic| repeat wtm_at "gx1")
local macro_rules | `(tactic| wtm_at "unfS") => `(tactic| (try simp only [tSeq, tNext, tAsg, tFor_eq, C8.tCut, wipe, gName, tDrop, List.set_cons_zero, List.set_cons_succ, cx_K]))
local macro_rules | `(tactic| wtm_at "rd1") => `(tactic| first | exact rd_int | exact rd_str | exact rd_bl | exact rd_non | exact rda_nil | apply rda_cons | (with_reducible apply rd_tup; (· assumption)) | (with_reducible apply rd_lst; (· assumption)) | exact rd_dic (by assumption) | exact rd_var rfl (.int _) | exact rd_var rfl (.str _) | exact rd_var rfl (.bl _) | exact rd_var rfl (by assumption) | (with_reducible apply rd_cat; (· assumption)) | (with_reducible apply rd_rep2; (· assumption)) | (with_reducible apply rd_rev; (· assumption)) | (with_reducible apply rd_to; (· assumption)) | (with_reducible apply rd_from; (· assumption)) | (with_reducible apply rd_tupOf; (· assumption)) | (with_reducible apply rd_lstOf; (· assumption)) | with_reducible apply rd_lenL | with_reducible apply rd_lenT | with_reducible apply rd_I0 | with_reducible apply rd_I | with_reducible apply rd_U | with_reducible apply rd_eqI | with_reducible apply rd_ixL | with_reducible apply rd_ixT | exact atI_hd _ _ | exact ‹atI _ _ = some _›)
local macro_rules | `(tactic| wtm_at "rdl") => `(tactic| first | decide | omega | wtm_at "sc" | (simp only [List.length_append, List.length_cons, List.length_nil, List.length_map, List.length_take, List.length_drop, List.length_reverse, cutTo]; omega))
local macro_rules | `(tactic| wtm_at "rd") => `(tactic| ((repeat' wtm_at "rd1"); (all_goals wtm_at "rdl")))
local macro_rules | `(tactic| wtm_at "nc") => `(tactic| repeat' (first | assumption | exact nca_nil | exact nc_non | exact nc_bl | exact nc_dic | exact nc_tup0 | exact nc_lst0 | (refine nc_strS (by decide) (by decide)) | (refine nc_int (by omega)) | (refine nc_big (by decide +kernel)) | refine nca_app ?_ ?_ | refine nca_cons ?_ ?_ | refine nca_take ?_ | refine nca_drop ?_ | refine nca_cutTo ?_ | refine nca_rev ?_ | refine nc_tup (by decide) ?_ | refine nc_lst (by decide) ?_ | refine nc_lst (Nat.le_trans (show _ ≤ 45 by wtm_at "rdl") (by decide)) ?_ | refine nc_tup (Nat.le_trans (show _ ≤ 45 by wtm_at "rdl") (by decide)) ?_))

section
variable {P : Program} {w : World} {K : PySem.W.Frag} {mg : Str → Option Value} {base : Heap}
/-- a row: three ints -/
structure Rw where
  a : Int
  b : Int
  c : Int
  h0 : 0 ≤ b
  h1 : b < 536870909
def Rw.o (P : Rw) : HO := .lst [.int P.a, .int P.b, .int P.c]
/-! _law_stream -/
def sp_law_stream : Sp := fun vs H Q _ => ∃ c : Int, vs = [.int c] ∧ ∀ (p : Addr) (P1 : Rw) (H' : Hp), H p = none → Same H H' → H' p = some P1.o → Q (.ref p) H'
theorem ok_law_stream (T : Facts K mg) : C8.Cal P w K mg base 1 "_law_stream" sp_law_stream [] := by
  refine calD T.f_law_stream sc_law_stream (fun vs H Q E h => ?_) (fun f cdv A outer s H vs Q E hr h => ?_)
  · obtain ⟨c, rfl, q⟩ := h; rfl
  · obtain ⟨c, rfl, q⟩ := h
    refine ⟨_, (pss_cons (ps_set (i := 1) sc_law_stream.nd rfl (Or.inl rfl) (pe_op op_mod (pv 0) pe_int))
       (pss_cons (ps_set (i := 1) sc_law_stream.nd rfl (Or.inl rfl) (pe_op op_mod (pe_op op_add (pe_op op_mul (pe_op op_mod (pe_op op_mul (pv 1) (pv 1)) pe_int) (pe_op op_add (pv 1) pe_int)) pe_int) pe_int))
       (pss_one (ps_ret (pe_lst (pa_cons (pv 0) (pa_cons (pv 1) (pa_cons (pe_callTy call_intB rfl T.b_int (by decide +kernel) (pa_cons (pe_cmpR op_ge (pv 0) (pe_op op_pow pe_int pe_int) (nomark _)) pa_nil)) pa_nil)))))))), ?_⟩
    rw [st_law_stream]
    wtm_at "unf"
    wtm_at "go"
    refine g_lst (by show 3 ≤ 100000; decide) fun p H1 np s1 e1 => ?_
    exact q p ⟨_, _, _, Int.emod_nonneg _ (by decide), Int.emod_lt_of_pos _ (by decide)⟩ H1 np s1 e1
/-! _law_take -/
def sp_law_take : Sp := fun vs H Q _ => ∃ (p : Addr) (P0 : Rw) (m : Int), vs = [.ref p, .int m] ∧ H p = some P0.o ∧ 0 < m ∧ m < 1000000 ∧ ∀ (r : Int) (P1 : Rw) (H' : Hp), 0 ≤ r → r < m → But p H H' → H' p = some P1.o → Q (.int r) H'
theorem ok_law_take (T : Facts K mg) : C8.Cal P w K mg base 1 "_law_take" sp_law_take [] := by
  refine calD T.f_law_take sc_law_take (fun vs H Q E h => ?_) (fun f cdv A outer s H vs Q E hr h => ?_)
  · obtain ⟨p, P0, m, rfl, hp, h0, h1, q⟩ := h; rfl
  · obtain ⟨p, P0, m, rfl, hp, h0, h1, q⟩ := h
    refine ⟨_, (pss_cons (ps_if (pt_cmpR op_eq (pe_ix ix_list (pv 0) pe_int (fun _ _ => rfl)) pe_int (nomark _))
       (pss_cons (ps_set (i := 2) sc_law_take.nd rfl (Or.inl rfl) (pe_op op_mod (pe_ix ix_list (pv 0) pe_int (fun _ _ => rfl)) (pv 1)))
       (pss_cons (ps_asg (pe_op op_fdiv (pe_ix ix_list (pv 0) pe_int (fun _ _ => rfl)) (pv 1)) (pg_sub (pv 0) pe_int set_list))
       (pss_one (ps_ret (pv 2)))))
       pss_nil)
       (pss_cons (ps_asg (pe_op op_mod (pe_op op_mul (pe_op op_add (pe_ix ix_list (pv 0) pe_int (fun _ _ => rfl)) pe_int) (pe_op op_add (pe_ix ix_list (pv 0) pe_int (fun _ _ => rfl)) pe_int)) pe_int) (pg_sub (pv 0) pe_int set_list))
       (pss_one (ps_ret (pe_op op_mod (pe_op op_fdiv (pe_op op_add (pe_op op_mul (pe_ix ix_list (pv 0) pe_int (fun _ _ => rfl)) pe_int) pe_int) pe_int) (pv 1)))))), ?_⟩
    rw [st_law_take]
    have hp' : H p = some (.lst [.int P0.a, .int P0.b, .int P0.c]) := hp
    wtm_at "unf"
    wtm_at "go"
    refine g_testB (fun h => ?_) (fun h => ?_)
    · wtm_at "go"
      intro H2 b2 e2
      wtm_at "go"
      exact q (P0.a % m) ⟨P0.a / m, P0.b, P0.c, P0.h0, P0.h1⟩ H2 (Int.emod_nonneg _ (by omega)) (Int.emod_lt_of_pos _ h0) (by wtm_at "sm") e2
    · have i0 := P0.h0
      have i1 := P0.h1
      wtm_at "go"
      generalize hx : (P0.b + 7919) * (P0.b + 104729) % 536870909 = x
      have x0 : 0 ≤ x := by rw [← hx]; exact Int.emod_nonneg _ (by decide)
      have x1 : x < 536870909 := by rw [← hx]; exact Int.emod_lt_of_pos _ (by decide)
      intro H2 b2 e2
      wtm_at "go"
      exact q _ ⟨P0.a, x, P0.c, x0, x1⟩ H2 (Int.emod_nonneg _ (by omega)) (Int.emod_lt_of_pos _ h0) (by wtm_at "sm") e2
end
end K33

set_option maxHeartbeats 4000000
namespace K33
open PySem PySem.Spec PyProof.Rows L2 SX Ly
local macro_rules | `(tactic| wtm_at "unf") => `(tactic| (try simp only [tMetX, tOwnX, tChain, tSeq, tNext, tBreak, tCont, tDrop, tRet, tRetN, tIfS, tAsg, tAug, tC, tOp, tUn, tNil, tCons, tOwn, tCB, tTest, tB, tAnd, tOr, tNot, tAndV, tOrV, tNotV, tIf, gName, gSub, tBM, tBM0, tM0, tM1, tSl, tPart_eq, tNoPart, tLst_eq, tTup_eq, tRevL_eq, tReplT, tRevS, tDGet_eq, sDPut_eq, tDNewT_eq, tMet, tMak, tFld_eq, sFld_eq, C8.tCut, wipe, tYes, gTup, gCons, gNil, List.set_cons_zero, List.set_cons_succ, if_true, if_false, Bool.false_eq_true, Bool.not_true, Bool.not_false, true_and, reduceIte, cx_K, tFor_eq, tLc_eq, iStr, iList, iTup, iRng1, iRng2, iRng3, iEnum, iZip, tLstRg, tRg1, gLst, RZ.iZipA, iEnumS, iZipS, tDNewK_eq, tDGet2, tDIn, tDNotIn, iKd]))
local macro_rules | `(tactic| wtm_at "unfA") => `(tactic| (try simp only [tMetX, tOwnX, tChain, tSeq, tNext, tBreak, tCont, tDrop, tRet, tRetN, tIfS, tAsg, tAug, tC, tOp, tUn, tNil, tCons, tOwn, tCB, tTest, tB, tAnd, tOr, tNot, tIf, gName, gSub, tBM, tBM0, tM0, tM1, tSl, tPart_eq, tNoPart, tLst_eq, tTup_eq, tRevL_eq, tReplT, tRevS, tDGet_eq, sDPut_eq, tDNewT_eq, tMet, tMak, tFld_eq, sFld_eq, C8.tCut, wipe, tYes, gTup, gCons, gNil, List.set_cons_zero, List.set_cons_succ, if_true, if_false, Bool.false_eq_true, Bool.not_true, Bool.not_false, true_and, reduceIte, cx_K, tFor_eq, tLc_eq, iStr, iList, iTup, iRng1, iRng2, iRng3, iEnum, iZip, tLstRg, tRg1, gLst, RZ.iZipA, iEnumS, iZipS, tDNewK_eq, tDGet2, tDIn, tDNotIn, iKd]))
local macro_rules | `(tactic| wtm_at "ne") => `(tactic| first | assumption | (apply Ne.symm; assumption) | (apply ne_new; (· assumption); (· wtm_at "lk")) | (apply Ne.symm; apply ne_new; (· assumption); (· wtm_at "lk")))
local macro_rules | `(tactic| wtm_at "lk") => `(tactic| first | assumption | exact upd_same | (apply Same.get; (· assumption); (· wtm_at "lk")) | (apply But.get; (· assumption); (· wtm_at "ne"); (· wtm_at "lk")))
local macro_rules | `(tactic| wtm_at "sq") => `(tactic| first | assumption | (apply sq_of; wtm_at "lk") | (apply Same.seq; (· assumption); (· wtm_at "sq")) | (apply But.sq; (· assumption); (· wtm_at "ne"); (· wtm_at "sq")))
local macro_rules | `(tactic| wtm_at "fr") => `(tactic| first | assumption | (apply Same.fr; (· assumption); (· wtm_at "sm")) | (apply But.fr; (· assumption); (· wtm_at "sm"); (· wtm_at "ne")))
local macro_rules | `(tactic| wtm_at "sm") => `(tactic| first | exact Same.refl _ | exact But.refl | assumption | (apply Same.tr; (· assumption); (· wtm_at "sm")) | (apply Same.b0; (· assumption); (· wtm_at "sm"); (· wtm_at "fr")) | (apply But.sa; (· assumption); (· wtm_at "sm")) | (apply But.tr; (· assumption); (· wtm_at "sm")) | (apply But.b0; (· assumption); (· wtm_at "sm"); (· wtm_at "fr")) | (apply Same.toBut; wtm_at "sm"))
local macro_rules | `(tactic| wtm_at "sc") => `(tactic| first | exact Int.zero_lt_one | (show (0 : Int) < _; omega) | (show (0 : Int) < _; decide) | exact ⟨by omega, by omega⟩ | exact .inl ⟨by omega, by omega⟩ | exact .inr ⟨by omega, by omega⟩)
local macro_rules | `(tactic| wtm_at "go1") => `(tactic| first | ((with_reducible apply g_var); (· exact rfl)) | with_reducible apply g_I0 | ((with_reducible apply g_I); (· wtm_at "sc")) | with_reducible apply g_U | with_reducible apply g_ipI | ((with_reducible apply g_addT); (· first | omega | (simp; done) | (simp; omega))) | with_reducible apply g_inT | with_reducible apply g_ninT | ((with_reducible apply g_lenT); (· omega)) | with_reducible apply g_findT1 | with_reducible apply g_str | with_reducible apply g_part | with_reducible apply g_intB | ((with_reducible apply g_ixL); (· wtm_at "sq"); (· exact rfl)) | ((with_reducible apply g_setL); (· wtm_at "lk"); (· exact rfl)) | ((with_reducible apply g_eq); (· rfl)) | ((with_reducible apply g_ne); (· rfl)))
local macro_rules | `(tactic| wtm_at "go") => `(tactic| repeat wtm_at "go1")
local macro_rules | `(tactic| wtm_at "lp") => `(tactic| skip)
local macro_rules | `(tactic| wtm_at "om") => `(tactic| first | omega | (simp; done) | (simp; omega) | (simp at *; omega))
local macro_rules | `(tactic| wtm_at "ty") => `(tactic| first | exact ty_str | exact ty_int | exact ty_bl | exact ty_non | (apply ty_lst; wtm_at "lk") | (apply ty_tup; wtm_at "lk"))
local macro_rules | `(tactic| wtm_at "kb") => `(tactic| first | exact kb_str_str | exact kb_str_int | exact kb_str_bool | exact kb_str_list | exact kb_str_tuple | exact kb_int_str | exact kb_int_int | exact kb_int_bool | exact kb_int_list | exact kb_int_tuple | exact kb_bool_str | exact kb_bool_int | exact kb_bool_bool | exact kb_bool_list | exact kb_bool_tuple | exact kb_list_str | exact kb_list_int | exact kb_list_bool | exact kb_list_list | exact kb_list_tuple | exact kb_tuple_str | exact kb_tuple_int | exact kb_tuple_bool | exact kb_tuple_list | exact kb_tuple_tuple | exact kb_NoneType_str | exact kb_NoneType_int | exact kb_NoneType_bool | exact kb_NoneType_list | exact kb_NoneType_tuple | exact kb_dict_str | exact kb_dict_int | exact kb_dict_bool | exact kb_dict_list | exact kb_dict_tuple)
local macro_rules | `(tactic| wtm_at "gx1") => `(tactic| first | ((with_reducible apply g_eqS); (· exact rfl)) | ((with_reducible apply g_neS); (· exact rfl)) | wtm_at "go1" | with_reducible apply g_min2 | with_reducible apply g_max2 | with_reducible apply g_T | with_reducible apply g_F | with_reducible apply g_NT | with_reducible apply g_NF | with_reducible apply g_nT | with_reducible apply g_nF | with_reducible apply g_RT | with_reducible apply g_RF | ((with_reducible apply g_isi); (· wtm_at "ty"); (· wtm_at "kb")) | ((with_reducible apply g_ixAU3); (· wtm_at "lk"); (· exact rfl)) | ((with_reducible apply g_ixAL3); (· wtm_at "lk"); (· exact rfl)) | ((with_reducible apply g_ixU3); (· wtm_at "lk"); (· exact rfl)) | ((with_reducible apply g_lenL3); (· wtm_at "lk")) | ((with_reducible apply g_lenU3); (· wtm_at "lk")) | ((with_reducible apply g_tyL3); (· wtm_at "lk")) | ((with_reducible apply g_lenT); (· wtm_at "pv")) | wtm_at "tr" | with_reducible apply g_ET | with_reducible apply g_EF | with_reducible apply g_EnT | with_reducible apply g_EnF)
local macro_rules | `(tactic| wtm_at "pv") => `(tactic| first | exact rfl | assumption | omega | (simp; done) | (simp; omega))
local macro_rules | `(tactic| wtm_at "tr") => `(tactic| first | ((with_reducible apply g_Td); (· wtm_at "pv")) | ((with_reducible apply g_Fd); (· wtm_at "pv")) | ((with_reducible apply g_NTd); (· wtm_at "pv")) | ((with_reducible apply g_NFd); (· wtm_at "pv")) | ((with_reducible apply g_nTd); (· wtm_at "pv")) | ((with_reducible apply g_nFd); (· wtm_at "pv")) | ((with_reducible apply g_RTd); (· wtm_at "pv")) | ((with_reducible apply g_RFd); (· wtm_at "pv")))
local macro_rules | `(tactic| wtm_at "gx") => `(tactic| repeat wtm_at "gx1")
local macro_rules | `(tactic| wtm_at "unfS") => `(tactic| (try simp only [tSeq, tNext, tAsg, tFor_eq, C8.tCut, wipe, gName, tDrop, List.set_cons_zero, List.set_cons_succ, cx_K]))
local macro_rules | `(tactic| wtm_at "rd1") => `(tactic| first | exact rd_int | exact rd_str | exact rd_bl | exact rd_non | exact rda_nil | apply rda_cons | (with_reducible apply rd_tup; (· assumption)) | (with_reducible apply rd_lst; (· assumption)) | exact rd_dic (by assumption) | exact rd_var rfl (.int _) | exact rd_var rfl (.str _) | exact rd_var rfl (.bl _) | exact rd_var rfl (by assumption) | (with_reducible apply rd_cat; (· assumption)) | (with_reducible apply rd_rep2; (· assumption)) | (with_reducible apply rd_rev; (· assumption)) | (with_reducible apply rd_to; (· assumption)) | (with_reducible apply rd_from; (· assumption)) | (with_reducible apply rd_tupOf; (· assumption)) | (with_reducible apply rd_lstOf; (· assumption)) | with_reducible apply rd_lenL | with_reducible apply rd_lenT | with_reducible apply rd_I0 | with_reducible apply rd_I | with_reducible apply rd_U | with_reducible apply rd_eqI | with_reducible apply rd_ixL | with_reducible apply rd_ixT | exact atI_hd _ _ | exact ‹atI _ _ = some _›)
local macro_rules | `(tactic| wtm_at "rdl") => `(tactic| first | decide | omega | wtm_at "sc" | (simp only [List.length_append, List.length_cons, List.length_nil, List.length_map, List.length_take, List.length_drop, List.length_reverse, cutTo]; omega))
local macro_rules | `(tactic| wtm_at "rd") => `(tactic| ((repeat' wtm_at "rd1"); (all_goals wtm_at "rdl")))
local macro_rules | `(tactic| wtm_at "nc") => `(tactic| repeat' (first | assumption | exact nca_nil | exact nc_non | exact nc_bl | exact nc_dic | exact nc_tup0 | exact nc_lst0 | (refine nc_strS (by decide) (by decide)) | (refine nc_int (by omega)) | (refine nc_big (by decide +kernel)) | refine nca_app ?_ ?_ | refine nca_cons ?_ ?_ | refine nca_take ?_ | refine nca_drop ?_ | refine nca_cutTo ?_ | refine nca_rev ?_ | refine nc_tup (by decide) ?_ | refine nc_lst (by decide) ?_ | refine nc_lst (Nat.le_trans (show _ ≤ 45 by wtm_at "rdl") (by decide)) ?_ | refine nc_tup (Nat.le_trans (show _ ≤ 45 by wtm_at "rdl") (by decide)) ?_))

section
variable {P : Program} {w : World} {K : PySem.W.Frag} {mg : Str → Option Value} {base : Heap}
/-! kind_of -/
def sp_kind_of : Sp := fun vs H Q _ => ∃ c : Nat, vs = [Tx [c]] ∧ c ∈ BRK ∧ Q (.int (knd c)) H
theorem ok_kind_of (T : Facts K mg) : C8.Cal P w K mg base 1 "kind_of" sp_kind_of [] := by
  refine calD T.f_kind_of sc_kind_of (fun vs H Q E h => ?_) (fun f cdv A outer s H vs Q E hr h => ?_)
  · obtain ⟨c, rfl, hc, q⟩ := h; rfl
  · obtain ⟨c, rfl, hc, q⟩ := h
    refine ⟨_, (pss_cons (ps_if (pt_cmpR op_inT (pv 0) (C8.pe_gc rfl T.c_OPENING) (by rfl))
       (pss_one (ps_ret (pe_m1 PySem.F.slot_str_index PySem.F.type_str_index mt_idxT (C8.pe_gc rfl T.c_OPENING) (pv 0))))
       pss_nil)
       (pss_one (ps_ret (pe_m1 PySem.F.slot_str_index PySem.F.type_str_index mt_idxT (C8.pe_gc rfl T.c_CLOSING) (pv 0))))), ?_⟩
    rw [st_kind_of]
    wtm_at "unf"
    wtm_at "go"
    refine g_test (fun h => ?_) (fun h => ?_)
    · wtm_at "go"
      exact g_idxT1 (find_opn c h) q
    · wtm_at "go"
      exact g_idxT1 (find_clo c ((brk_or.mp hc).resolve_left h)) q
/-- a text's signs from behind, each bracket the other one of its kind -/
def oth1 (c : Nat) : Nat := if c ∈ BRK then oth c else c
def about (l : List Nat) : List Nat := (l.map oth1).reverse
end
end K33

set_option maxHeartbeats 4000000
namespace K33
open PySem PySem.Spec PyProof.Rows L2 SX Ly
local macro_rules | `(tactic| wtm_at "unf") => `(tactic| (try simp only [tMetX, tOwnX, tChain, tSeq, tNext, tBreak, tCont, tDrop, tRet, tRetN, tIfS, tAsg, tAug, tC, tOp, tUn, tNil, tCons, tOwn, tCB, tTest, tB, tAnd, tOr, tNot, tAndV, tOrV, tNotV, tIf, gName, gSub, tBM, tBM0, tM0, tM1, tSl, tPart_eq, tNoPart, tLst_eq, tTup_eq, tRevL_eq, tReplT, tRevS, tDGet_eq, sDPut_eq, tDNewT_eq, tMet, tMak, tFld_eq, sFld_eq, C8.tCut, wipe, tYes, gTup, gCons, gNil, List.set_cons_zero, List.set_cons_succ, if_true, if_false, Bool.false_eq_true, Bool.not_true, Bool.not_false, true_and, reduceIte, cx_K, tFor_eq, tLc_eq, iStr, iList, iTup, iRng1, iRng2, iRng3, iEnum, iZip, tLstRg, tRg1, gLst, RZ.iZipA, iEnumS, iZipS, tDNewK_eq, tDGet2, tDIn, tDNotIn, iKd]))
local macro_rules | `(tactic| wtm_at "unfA") => `(tactic| (try simp only [tMetX, tOwnX, tChain, tSeq, tNext, tBreak, tCont, tDrop, tRet, tRetN, tIfS, tAsg, tAug, tC, tOp, tUn, tNil, tCons, tOwn, tCB, tTest, tB, tAnd, tOr, tNot, tIf, gName, gSub, tBM, tBM0, tM0, tM1, tSl, tPart_eq, tNoPart, tLst_eq, tTup_eq, tRevL_eq, tReplT, tRevS, tDGet_eq, sDPut_eq, tDNewT_eq, tMet, tMak, tFld_eq, sFld_eq, C8.tCut, wipe, tYes, gTup, gCons, gNil, List.set_cons_zero, List.set_cons_succ, if_true, if_false, Bool.false_eq_true, Bool.not_true, Bool.not_false, true_and, reduceIte, cx_K, tFor_eq, tLc_eq, iStr, iList, iTup, iRng1, iRng2, iRng3, iEnum, iZip, tLstRg, tRg1, gLst, RZ.iZipA, iEnumS, iZipS, tDNewK_eq, tDGet2, tDIn, tDNotIn, iKd]))
local macro_rules | `(tactic| wtm_at "ne") => `(tactic| first | assumption | (apply Ne.symm; assumption) | (apply ne_new; (· assumption); (· wtm_at "lk")) | (apply Ne.symm; apply ne_new; (· assumption); (· wtm_at "lk")))
local macro_rules | `(tactic| wtm_at "lk") => `(tactic| first | assumption | exact upd_same | (apply Same.get; (· assumption); (· wtm_at "lk")) | (apply But.get; (· assumption); (· wtm_at "ne"); (· wtm_at "lk")))
local macro_rules | `(tactic| wtm_at "sq") => `(tactic| first | assumption | (apply sq_of; wtm_at "lk") | (apply Same.seq; (· assumption); (· wtm_at "sq")) | (apply But.sq; (· assumption); (· wtm_at "ne"); (· wtm_at "sq")))
local macro_rules | `(tactic| wtm_at "fr") => `(tactic| first | assumption | (apply Same.fr; (· assumption); (· wtm_at "sm")) | (apply But.fr; (· assumption); (· wtm_at "sm"); (· wtm_at "ne")))
local macro_rules | `(tactic| wtm_at "sm") => `(tactic| first | exact Same.refl _ | exact But.refl | assumption | (apply Same.tr; (· assumption); (· wtm_at "sm")) | (apply Same.b0; (· assumption); (· wtm_at "sm"); (· wtm_at "fr")) | (apply But.sa; (· assumption); (· wtm_at "sm")) | (apply But.tr; (· assumption); (· wtm_at "sm")) | (apply But.b0; (· assumption); (· wtm_at "sm"); (· wtm_at "fr")) | (apply Same.toBut; wtm_at "sm"))
local macro_rules | `(tactic| wtm_at "sc") => `(tactic| first | exact Int.zero_lt_one | (show (0 : Int) < _; omega) | (show (0 : Int) < _; decide) | exact ⟨by omega, by omega⟩ | exact .inl ⟨by omega, by omega⟩ | exact .inr ⟨by omega, by omega⟩)
local macro_rules | `(tactic| wtm_at "go1") => `(tactic| first | ((with_reducible apply g_var); (· exact rfl)) | with_reducible apply g_I0 | ((with_reducible apply g_I); (· wtm_at "sc")) | with_reducible apply g_U | with_reducible apply g_ipI | ((with_reducible apply g_addT); (· first | omega | (simp; done) | (simp; omega))) | with_reducible apply g_inT | with_reducible apply g_ninT | ((with_reducible apply g_lenT); (· omega)) | with_reducible apply g_findT1 | with_reducible apply g_str | with_reducible apply g_part | with_reducible apply g_intB | ((with_reducible apply g_ixL); (· wtm_at "sq"); (· exact rfl)) | ((with_reducible apply g_setL); (· wtm_at "lk"); (· exact rfl)) | ((with_reducible apply g_eq); (· rfl)) | ((with_reducible apply g_ne); (· rfl)))
local macro_rules | `(tactic| wtm_at "go") => `(tactic| repeat wtm_at "go1")
local macro_rules | `(tactic| wtm_at "lp") => `(tactic| skip)
local macro_rules | `(tactic| wtm_at "om") => `(tactic| first | omega | (simp; done) | (simp; omega) | (simp at *; omega))
local macro_rules | `(tactic| wtm_at "ty") => `(tactic| first | exact ty_str | exact ty_int | exact ty_bl | exact ty_non | (apply ty_lst; wtm_at "lk") | (apply ty_tup; wtm_at "lk"))
local macro_rules | `(tactic| wtm_at "kb") => `(tactic| first | exact kb_str_str | exact kb_str_int | exact kb_str_bool | exact kb_str_list | exact kb_str_tuple | exact kb_int_str | exact kb_int_int | exact kb_int_bool | exact kb_int_list | exact kb_int_tuple | exact kb_bool_str | exact kb_bool_int | exact kb_bool_bool | exact kb_bool_list | exact kb_bool_tuple | exact kb_list_str | exact kb_list_int | exact kb_list_bool | exact kb_list_list | exact kb_list_tuple | exact kb_tuple_str | exact kb_tuple_int | exact kb_tuple_bool | exact kb_tuple_list | exact kb_tuple_tuple | exact kb_NoneType_str | exact kb_NoneType_int | exact kb_NoneType_bool | exact kb_NoneType_list | exact kb_NoneType_tuple | exact kb_dict_str | exact kb_dict_int | exact kb_dict_bool | exact kb_dict_list | exact kb_dict_tuple)
local macro_rules | `(tactic| wtm_at "gx1") => `(tactic| first | ((with_reducible apply g_eqS); (· exact rfl)) | ((with_reducible apply g_neS); (· exact rfl)) | wtm_at "go1" | with_reducible apply g_min2 | with_reducible apply g_max2 | with_reducible apply g_T | with_reducible apply g_F | with_reducible apply g_NT | with_reducible apply g_NF | with_reducible apply g_nT | with_reducible apply g_nF | with_reducible apply g_RT | with_reducible apply g_RF | ((with_reducible apply g_isi); (· wtm_at "ty"); (· wtm_at "kb")) | ((with_reducible apply g_ixAU3); (· wtm_at "lk"); (· exact rfl)) | ((with_reducible apply g_ixAL3); (· wtm_at "lk"); (· exact rfl)) | ((with_reducible apply g_ixU3); (· wtm_at "lk"); (· exact rfl)) | ((with_reducible apply g_lenL3); (· wtm_at "lk")) | ((with_reducible apply g_lenU3); (· wtm_at "lk")) | ((with_reducible apply g_tyL3); (· wtm_at "lk")) | ((with_reducible apply g_lenT); (· wtm_at "pv")) | wtm_at "tr" | with_reducible apply g_ET | with_reducible apply g_EF | with_reducible apply g_EnT | with_reducible apply g_EnF)
local macro_rules | `(tactic| wtm_at "pv") => `(tactic| first | exact rfl | assumption | omega | (simp; done) | (simp; omega))
local macro_rules | `(tactic| wtm_at "tr") => `(tactic| first | ((with_reducible apply g_Td); (· wtm_at "pv")) | ((with_reducible apply g_Fd); (· wtm_at "pv")) | ((with_reducible apply g_NTd); (· wtm_at "pv")) | ((with_reducible apply g_NFd); (· wtm_at "pv")) | ((with_reducible apply g_nTd); (· wtm_at "pv")) | ((with_reducible apply g_nFd); (· wtm_at "pv")) | ((with_reducible apply g_RTd); (· wtm_at "pv")) | ((with_reducible apply g_RFd); (· wtm_at "pv")))
local macro_rules | `(tactic| wtm_at "gx") => `(tactic| repeat wtm_at "gx1")
local macro_rules | `(tactic| wtm_at "unfS") => `(tactic| (try simp only [tSeq, tNext, tAsg, tFor_eq, C8.tCut, wipe, gName, tDrop, List.set_cons_zero, List.set_cons_succ, cx_K]))
local macro_rules | `(tactic| wtm_at "rd1") => `(tactic| first | exact rd_int | exact rd_str | exact rd_bl | exact rd_non | exact rda_nil | apply rda_cons | (with_reducible apply rd_tup; (· assumption)) | (with_reducible apply rd_lst; (· assumption)) | exact rd_dic (by assumption) | exact rd_var rfl (.int _) | exact rd_var rfl (.str _) | exact rd_var rfl (.bl _) | exact rd_var rfl (by assumption) | (with_reducible apply rd_cat; (· assumption)) | (with_reducible apply rd_rep2; (· assumption)) | (with_reducible apply rd_rev; (· assumption)) | (with_reducible apply rd_to; (· assumption)) | (with_reducible apply rd_from; (· assumption)) | (with_reducible apply rd_tupOf; (· assumption)) | (with_reducible apply rd_lstOf; (· assumption)) | with_reducible apply rd_lenL | with_reducible apply rd_lenT | with_reducible apply rd_I0 | with_reducible apply rd_I | with_reducible apply rd_U | with_reducible apply rd_eqI | with_reducible apply rd_ixL | with_reducible apply rd_ixT | exact atI_hd _ _ | exact ‹atI _ _ = some _›)
local macro_rules | `(tactic| wtm_at "rdl") => `(tactic| first | decide | omega | wtm_at "sc" | (simp only [List.length_append, List.length_cons, List.length_nil, List.length_map, List.length_take, List.length_drop, List.length_reverse, cutTo]; omega))
local macro_rules | `(tactic| wtm_at "rd") => `(tactic| ((repeat' wtm_at "rd1"); (all_goals wtm_at "rdl")))
local macro_rules | `(tactic| wtm_at "nc") => `(tactic| repeat' (first | assumption | exact nca_nil | exact nc_non | exact nc_bl | exact nc_dic | exact nc_tup0 | exact nc_lst0 | (refine nc_strS (by decide) (by decide)) | (refine nc_int (by omega)) | (refine nc_big (by decide +kernel)) | refine nca_app ?_ ?_ | refine nca_cons ?_ ?_ | refine nca_take ?_ | refine nca_drop ?_ | refine nca_cutTo ?_ | refine nca_rev ?_ | refine nc_tup (by decide) ?_ | refine nc_lst (by decide) ?_ | refine nc_lst (Nat.le_trans (show _ ≤ 45 by wtm_at "rdl") (by decide)) ?_ | refine nc_tup (Nat.le_trans (show _ ≤ 45 by wtm_at "rdl") (by decide)) ?_))

section
variable {P : Program} {w : World} {K : PySem.W.Frag} {mg : Str → Option Value} {base : Heap}
theorem pair_at {z : Nat} (h : z < 4) : ∃ c, ([Tx [40, 41], Tx [60, 62], Tx [91, 93], Tx [123, 125]] : List V)[z]? = some (Tx [c, oth c]) ∧ c ∈ OPN := by
  have hc : z = 0 ∨ z = 1 ∨ z = 2 ∨ z = 3 := by omega
  rcases hc with rfl | rfl | rfl | rfl
  · exact ⟨40, by rw [show oth 40 = 41 by decide]; rfl, by decide⟩
  · exact ⟨60, by rw [show oth 60 = 62 by decide]; rfl, by decide⟩
  · exact ⟨91, by rw [show oth 91 = 93 by decide]; rfl, by decide⟩
  · exact ⟨123, by rw [show oth 123 = 125 by decide]; rfl, by decide⟩
theorem abz_at2 {z : Nat} (h : z < 3) : ∃ c, ([97, 98, 122] : List Nat)[z]? = some c ∧ clean [c] ∧ isSg c := by
  have hc : z = 0 ∨ z = 1 ∨ z = 2 := by omega
  rcases hc with rfl | rfl | rfl
  · exact ⟨97, rfl, by decide, .inl (by decide)⟩
  · exact ⟨98, rfl, by decide, .inl (by decide)⟩
  · exact ⟨122, rfl, by decide, .inl (by decide)⟩
/-! _law_bracket -/
def sp_law_bracket : Sp := fun vs H Q _ => ∃ (p : Addr) (P0 : Rw) (n : Nat), vs = [.ref p, .int n] ∧ H p = some P0.o ∧ 0 < n ∧ n ≤ 4 ∧ ∀ (c : Nat) (P1 : Rw) (H' : Hp), c ∈ BRK → But p H H' → H' p = some P1.o → Q (Tx [c]) H'
theorem ok_law_bracket (T : Facts K mg) : C8.Cal P w K mg base 2 "_law_bracket" sp_law_bracket [] := by
  refine calD T.f_law_bracket sc_law_bracket (fun vs H Q E h => ?_) (fun f cdv A outer s H vs Q E hr h => ?_)
  · obtain ⟨p, P0, n, rfl, hp, h0, h1, q⟩ := h; rfl
  · obtain ⟨p, P0, n, rfl, hp, h0, h1, q⟩ := h
    refine ⟨_, (pss_one (ps_ret (pe_ix ix_txt (pe_strS (l := BRK) (by decide +kernel)) (pe_own (ok_law_take T) hr (by omega) rfl (pa_cons (pv 0) (pa_cons (pe_op op_mul pe_int (pv 1)) pa_nil))) (fun _ _ => rfl)))), ?_⟩
    rw [st_law_bracket]
    wtm_at "unf"
    wtm_at "go"
    refine ⟨p, P0, _, rfl, hp, by omega, by omega, fun x P1 H1 x0 x1 b1 e1 => ?_⟩
    obtain ⟨z, rfl⟩ := Int.eq_ofNat_of_zero_le x0
    obtain ⟨c, hc1, hc2⟩ := brk_at (z := z) (by omega)
    refine g_ixT (by decide) (atI_of hc1) ?_
    exact q c P1 H1 hc2 b1 e1
/-! _law_clean -/
def sp_law_clean : Sp := fun vs H Q _ => ∃ (p : Addr) (P0 : Rw) (M n : Nat), vs = [.ref p, .int M, .int n] ∧ H p = some P0.o ∧ M ≤ 100 ∧ 0 < n ∧ n ≤ 4 ∧ ∀ (l : List Nat) (P1 : Rw) (H' : Hp), l.length ≤ M → (∀ c ∈ l, isSg c) → clean l → But p H H' → H' p = some P1.o → Q (Tx l) H'
theorem ok_law_clean (T : Facts K mg) : C8.Cal P w K mg base 2 "_law_clean" sp_law_clean [] := by
  refine calD T.f_law_clean sc_law_clean (fun vs H Q E h => ?_) (fun f cdv A outer s H vs Q E hr h => ?_)
  · obtain ⟨p, P0, M, n, rfl, hp, hM, h0, h1, q⟩ := h; rfl
  · obtain ⟨p, P0, M, n, rfl, hp, hM, h0, h1, q⟩ := h
    refine ⟨_, (pss_cons (ps_set (i := 3) sc_law_clean.nd rfl (Or.inl rfl) (pe_strS (l := []) (by decide +kernel)))
       (pss_cons (ps_for PassesOwn.never rfl (pi_range1 rfl T.b_range (pa_cons (pe_own (ok_law_take T) hr (by omega) rfl (pa_cons (pv 0) (pa_cons (pe_op op_add (pe_op op_fdiv (pv 1) pe_int) pe_int) pa_nil))) pa_nil)) (pg_name (i := 4) sc_law_clean.nd rfl (Or.inl rfl))
       (pss_cons (ps_set (i := 5) sc_law_clean.nd rfl (Or.inl rfl) (pe_own (ok_law_take T) hr (by omega) rfl (pa_cons (pv 0) (pa_cons (pe_op op_add (pe_callB call_lenT rfl T.b_len PySem.boot_len (pa_cons (pv 3) pa_nil)) pe_int) pa_nil))))
       (pss_cons (ps_set (i := 6) sc_law_clean.nd rfl (Or.inl rfl) (pe_own (ok_law_take T) hr (by omega) rfl (pa_cons (pv 0) (pa_cons (pv 2) pa_nil))))
       (pss_cons (ps_set (i := 7) sc_law_clean.nd rfl (Or.inl rfl) (pe_ix ix_list (pe_lst (pa_cons (pe_strS (l := [40, 41]) (by decide +kernel)) (pa_cons (pe_strS (l := [60, 62]) (by decide +kernel)) (pa_cons (pe_strS (l := [91, 93]) (by decide +kernel)) (pa_cons (pe_strS (l := [123, 125]) (by decide +kernel)) pa_nil))))) (pv 6) (fun _ _ => rfl)))
       (C8.pss_cut (ps_if (pt_cmpR op_eq (pe_own (ok_law_take T) hr (by omega) rfl (pa_cons (pv 0) (pa_cons pe_int pa_nil))) pe_int (nomark _))
       (pss_one (ps_set (i := 7) sc_law_clean.nd rfl (Or.inl rfl) (pe_ix ix_txt (pe_strS (l := [97, 98, 122]) (by decide +kernel)) (pe_op op_mod (pv 6) pe_int) (fun _ _ => rfl))))
       pss_nil)
       (pss_one (ps_set (i := 3) sc_law_clean.nd rfl (Or.inl rfl) (pe_op op_addT (pe_op op_addT (pe_slice sl_tx (pv 3) po_none (po_some (pv 5))) (pv 7)) (pe_slice sl_tx (pv 3) (po_some (pv 5)) po_none)))))))))
       (pss_one (ps_ret (pv 3))))), ?_⟩
    rw [st_law_clean]
    wtm_at "unf"
    wtm_at "go"
    refine ⟨p, P0, _, rfl, hp, by omega, by omega, fun nn P1 H1 n0 n1 b1 e1 => ?_⟩
    obtain ⟨m, rfl⟩ := Int.eq_ofNat_of_zero_le n0
    have hm : 2 * m ≤ M := by omega
    refine ⟨_, rfl, by omega, by omega, for_rng (fun i σ H' => ∃ (t : List Nat) (P2 : Rw) (y4 y5 y6 y7 : Option V), σ = [some (V.ref p), some (V.int M), some (V.int n), some (Tx t), y4, y5, y6, y7] ∧ clean t ∧ (∀ c ∈ t, isSg c) ∧ t.length ≤ 2 * i ∧ But p H H' ∧ H' p = some P2.o) ⟨[], P1, _, _, _, _, rfl, clean_nil, by simp, by simp, b1, e1⟩ (fun i σ H' hi hv => ?_) (fun σ H' hv => ?_)⟩
    · obtain ⟨t, P2, y4, y5, y6, y7, rfl, ht, hts, htl, b2, e2⟩ := hv
      rw [Int.toNat_natCast] at hi
      wtm_at "unf"
      wtm_at "go"
      refine ⟨p, P2, _, rfl, e2, by omega, by omega, fun x P3 H3 x0 x1 b3 e3 => ?_⟩
      obtain ⟨at', rfl⟩ := Int.eq_ofNat_of_zero_le x0
      wtm_at "go"
      refine ⟨p, P3, n, rfl, e3, by omega, by omega, fun k P4 H4 k0 k1 b4 e4 => ?_⟩
      obtain ⟨z, rfl⟩ := Int.eq_ofNat_of_zero_le k0
      obtain ⟨c, hc1, hc2⟩ := pair_at (z := z) (by omega)
      refine g_lst (by show 4 ≤ 100000; decide) fun la H5 nla s5 ela => ?_
      wtm_at "go"
      refine g_ixL (sq_of ela) (atI_of hc1) ?_
      refine ⟨fun σ' H6 => ∃ (u : List Nat) (P6 : Rw), σ' = [some (V.ref p), some (V.int M), some (V.int n), some (Tx t), some (V.int (0 + (i : Int))), some (V.int at'), some (V.int z), some (Tx u)] ∧ clean u ∧ (∀ c ∈ u, isSg c) ∧ u.length ≤ 2 ∧ But p H H6 ∧ H6 p = some P6.o, ?_, ?_⟩
      · wtm_at "go"
        refine ⟨p, P4, 4, rfl, by wtm_at "lk", by decide, by decide, fun w P6 H6 w0 w1 b6 e6 => ?_⟩
        wtm_at "go"
        refine g_testB (fun h => ?_) (fun h => ?_)
        · wtm_at "go"
          obtain ⟨d, hd1, hd2, hd3⟩ := abz_at2 (z := z % 3) (by omega)
          refine g_ixT (c := d) (by decide) (by rw [show ((z : Int) % 3) = ((z % 3 : Nat) : Int) by omega]; exact atI_of hd1) ?_
          exact ⟨[d], P6, rfl, hd2, by simpa using hd3, by simp, by wtm_at "sm", e6⟩
        · refine ⟨[c, oth c], P6, rfl, clean_pair (a := []) hc2 clean_nil, ?_, by simp, by wtm_at "sm", e6⟩
          have hb : c ∈ BRK := brk_or.mpr (.inl hc2)
          intro x hx
          rcases List.mem_cons.mp hx with rfl | hx
          · exact .inr hb
          · rw [List.mem_singleton] at hx
            rw [hx]
            exact .inr (oth_brk c hb)
      · rintro σ' H6 ⟨u, P6, rfl, hu, hus, hul, b6, e6⟩
        wtm_at "go"
        refine g_slTo (by omega) (by omega) ?_
        rw [Int.toNat_natCast]
        wtm_at "go"
        refine g_slFrom (by omega) (by omega) ?_
        rw [Int.toNat_natCast]
        wtm_at "go"
        refine ⟨_, P6, _, _, _, _, rfl, (clean_mid hu).mpr (by rw [List.take_append_drop]; exact ht), ?_, by simp; omega, b6, e6⟩
        intro x hx
        rcases List.mem_append.mp hx with hx | hx
        · rcases List.mem_append.mp hx with hx | hx
          · exact hts x (List.mem_of_mem_take hx)
          · exact hus x hx
        · exact hts x (List.mem_of_mem_drop hx)
    · obtain ⟨t, P2, y4, y5, y6, y7, rfl, ht, hts, htl, b2, e2⟩ := hv
      rw [Int.toNat_natCast] at htl
      wtm_at "unf"
      wtm_at "go"
      exact q t P2 H' (by omega) hts ht b2 e2
/-! _law_text -/
def sp_law_text : Sp := fun vs H Q _ => ∃ (p : Addr) (P0 : Rw) (M : Nat), vs = [.ref p, .int M] ∧ H p = some P0.o ∧ M ≤ 100 ∧ ∀ (l : List Nat) (P1 : Rw) (H' : Hp), l.length ≤ M → (∀ c ∈ l, isSg c) → But p H H' → H' p = some P1.o → Q (Tx l) H'
theorem ok_law_text (T : Facts K mg) : C8.Cal P w K mg base 3 "_law_text" sp_law_text [] := by
  refine calD T.f_law_text sc_law_text (fun vs H Q E h => ?_) (fun f cdv A outer s H vs Q E hr h => ?_)
  · obtain ⟨p, P0, M, rfl, hp, hM, q⟩ := h; rfl
  · obtain ⟨p, P0, M, rfl, hp, hM, q⟩ := h
    refine ⟨_, (pss_cons (ps_set (i := 2) sc_law_text.nd rfl (Or.inr rfl) (pe_op op_add pe_int (pe_own (ok_law_take T) hr (by omega) rfl (pa_cons (pv 0) (pa_cons pe_int pa_nil)))))
       (pss_cons (ps_if (pt_cmpR op_eq (pe_own (ok_law_take T) hr (by omega) rfl (pa_cons (pv 0) (pa_cons pe_int pa_nil))) pe_int (nomark _))
       (pss_cons (ps_setLc (i := 3) (own := [("k", 6)]) (by rfl) sc_law_text.nd rfl rfl (sw_true rfl rfl rfl (by decide +kernel)) (pi_range1 rfl T.b_range (pa_cons (pe_own (ok_law_take T) hr (by omega) rfl (pa_cons (pv 0) (pa_cons (pe_op op_add (pv 1) pe_int) pa_nil))) pa_nil)) (blkOk_by (own := [("k", 6)]) (N := N_law_text) (sc := defScope s_law_text) (by decide +kernel)) (fun _ _ _ _ _ => (pg_name (i := 6) sc_law_text.nd rfl (Or.inl rfl))) (fun _ _ _ _ _ => pts_nil) (fun _ _ _ _ _ => (pe_own (ok_law_bracket T) hr (by omega) rfl (pa_cons (pv 0) (pa_cons (pv 2) pa_nil)))))
       (pss_cons (ps_set (i := 4) sc_law_text.nd rfl (Or.inr rfl) (pe_ix ix_txt (pe_strS (l := LET) (by decide +kernel)) (pe_own (ok_law_take T) hr (by omega) rfl (pa_cons (pv 0) (pa_cons pe_int pa_nil))) (fun _ _ => rfl)))
       (pss_one (ps_ret (pe_m1 PySem.F.slot_str_join PySem.F.type_str_join mt_joinT (pe_strS (l := []) (by decide +kernel)) (pe_lc (own := [("sign", 9)]) (by rfl) sc_law_text.nd (pi_list (pv 3)) (blkOk_by (own := [("sign", 9)]) (N := N_law_text) (sc := defScope s_law_text) (by decide +kernel)) (fun _ _ _ _ _ => (pg_name (i := 9) sc_law_text.nd rfl (Or.inl rfl))) (fun _ _ _ _ _ => pts_nil) (fun _ _ _ _ _ => (pe_ix (r := rIxL K) ix_list (pe_lst (pa_cons (pv 9) (pa_cons (pv 4) pa_nil))) (pe_callTy call_intB rfl T.b_int (by decide +kernel) (pa_cons (pe_cmpR op_eq (pe_own (ok_law_take T) hr (by omega) rfl (pa_cons (pv 0) (pa_cons pe_int pa_nil))) pe_int (nomark _)) pa_nil)) (fun _ _ => rfl)))))))))
       pss_nil)
       (pss_cons (ps_set (i := 5) sc_law_text.nd rfl (Or.inl rfl) (pe_own (ok_law_clean T) hr (by omega) rfl (pa_cons (pv 0) (pa_cons (pv 1) (pa_cons (pv 2) pa_nil)))))
       (pss_cons (ps_for PassesOwn.never rfl (pi_range1 rfl T.b_range (pa_cons (pe_own (ok_law_take T) hr (by omega) rfl (pa_cons (pv 0) (pa_cons pe_int pa_nil))) pa_nil)) (pg_name (i := 6) sc_law_text.nd rfl (Or.inl rfl))
       (pss_cons (ps_set (i := 7) sc_law_text.nd rfl (Or.inl rfl) (pe_own (ok_law_take T) hr (by omega) rfl (pa_cons (pv 0) (pa_cons (pe_op op_add (pe_callB call_lenT rfl T.b_len PySem.boot_len (pa_cons (pv 5) pa_nil)) pe_int) pa_nil))))
       (pss_cons (ps_set (i := 8) sc_law_text.nd rfl (Or.inl rfl) (pe_lst (pa_cons (pe_op op_addT (pe_slice sl_tx (pv 5) po_none (po_some (pv 7))) (pe_slice sl_tx (pv 5) (po_some (pe_op op_add (pv 7) pe_int)) po_none)) (pa_cons (pe_op op_addT (pe_op op_addT (pe_slice sl_tx (pv 5) po_none (po_some (pv 7))) (pe_own (ok_law_bracket T) hr (by omega) rfl (pa_cons (pv 0) (pa_cons (pv 2) pa_nil)))) (pe_slice sl_tx (pv 5) (po_some (pe_op op_add (pv 7) pe_int)) po_none)) pa_nil))))
       (pss_cons (ps_expr (pe_bm PySem.F.plainAttrs_list PySem.F.slot_list_append PySem.F.type_list_append mt_append (pv 8) (pa_cons (pe_op op_addT (pe_op op_addT (pe_slice sl_tx (pv 5) po_none (po_some (pv 7))) (pe_own (ok_law_bracket T) hr (by omega) rfl (pa_cons (pv 0) (pa_cons (pv 2) pa_nil)))) (pe_slice sl_tx (pv 5) (po_some (pv 7)) po_none)) pa_nil)))
       (pss_one (ps_set (i := 5) sc_law_text.nd rfl (Or.inl rfl) (pe_ix ix_list (pv 8) (pe_own (ok_law_take T) hr (by omega) rfl (pa_cons (pv 0) (pa_cons pe_int pa_nil))) (fun _ _ => rfl))))))))
       (pss_one (ps_ret (pe_slice sl_tx (pv 5) po_none (po_some (pv 1))))))))), ?_⟩
    rw [st_law_text]
    wtm_at "unf"
    wtm_at "go"
    refine ⟨p, P0, 4, rfl, hp, by decide, by decide, fun x P1 H1 x0 x1 b1 e1 => ?_⟩
    obtain ⟨kd, rfl⟩ := Int.eq_ofNat_of_zero_le x0
    wtm_at "go"
    refine ⟨p, P1, 2, rfl, e1, by decide, by decide, fun y P2 H2 y0 y1 b2 e2 => ?_⟩
    wtm_at "go"
    rw [show ((1 : Int) + (kd : Int)) = ((kd + 1 : Nat) : Int) by omega]
    refine g_testB (fun h => ?_) (fun h => ?_)
    · wtm_at "go"
      refine ⟨p, P2, _, rfl, e2, by omega, by omega, fun n P3 H3 n0 n1 b3 e3 => ?_⟩
      obtain ⟨m, rfl⟩ := Int.eq_ofNat_of_zero_le n0
      refine ⟨_, rfl, by omega, by omega, lc_rng fun d H4 nd s4 ed => ⟨fun i H5 => ∃ (cs : List Nat) (P5 : Rw), H5 d = some (.lst (sgV cs)) ∧ cs.length = i ∧ (∀ c ∈ cs, c ∈ BRK) ∧ H5 p = some P5.o ∧ But p H H5, ⟨[], P3, ed, rfl, by simp, by wtm_at "lk", by wtm_at "sm"⟩, fun i H5 hi hv => ?_, fun H5 hv => ?_⟩⟩
      · obtain ⟨cs, P5, ec, hcl, hcb, ep, b5⟩ := hv
        rw [Int.toNat_natCast] at hi
        have hdp : d ≠ p := Ne.symm (ne_new nd e3)
        wtm_at "unf"
        refine ⟨rfl, ?_⟩
        wtm_at "go"
        refine ⟨p, P5, kd + 1, rfl, ep, by omega, by omega, fun c P6 H6 hc b6 e6 => ?_⟩
        refine lc_put (acc := sgV cs) (by wtm_at "lk") (by rw [sgV_len]; omega) fun H7 b7 e7 => ?_
        rw [← sgV_snoc] at e7
        refine ⟨cs ++ [c], P6, e7, by simp; omega, ?_, But.get b7 (Ne.symm hdp) e6, ?_⟩
        · intro x hx
          rcases List.mem_append.mp hx with hx | hx
          · exact hcb x hx
          · rw [List.mem_singleton] at hx
            rw [hx]
            exact hc
        · exact But.b0 b7 (b5.trans b6) (by
            have : H3 d = none := nd
            exact (b1.trans (b2.trans b3)).free hdp this)
      · obtain ⟨cs, P5, ec, hcl, hcb, ep, b5⟩ := hv
        rw [Int.toNat_natCast] at hcl
        have hdp : d ≠ p := Ne.symm (ne_new nd e3)
        have nd0 : H d = none := (b1.trans (b2.trans b3)).free hdp nd
        wtm_at "go"
        refine ⟨p, P5, 26, rfl, ep, by decide, by decide, fun w P6 H6 w0 w1 b6 e6 => ?_⟩
        obtain ⟨wz, rfl⟩ := Int.eq_ofNat_of_zero_le w0
        obtain ⟨lt, hlt1, hlt2⟩ := let_at (z := wz) (by omega)
        refine g_ixT (by decide) (atI_of hlt1) ?_
        refine ⟨⟨_, rfl⟩, ?_⟩
        wtm_at "go"
        have ec6 : H6 d = some (.lst (sgV cs)) := by wtm_at "lk"
        have bH6 : But p H H6 := b5.trans b6
        refine ⟨_, rfl, ⟨_, sq_of ec6⟩, lc_lst (sgV cs) fun d2 H7 nd2 s7 ed2 => ⟨fun pre H8 => ∃ (es : List Nat) (P8 : Rw), H8 d2 = some (.lst (sgV es)) ∧ es.length = pre.length ∧ (∀ c ∈ es, isSg c) ∧ H8 d = some (.lst (sgV cs)) ∧ H8 p = some P8.o ∧ But p H H8, ⟨[], P6, ed2, rfl, by simp, by wtm_at "lk", by wtm_at "lk", bH6.same s7⟩, fun pre post H8 e hv => ?_, fun pre x post H8 e hv => ?_, fun H8 hv => ?_⟩⟩
        · obtain ⟨es, P8, ee, hel, hes, ed8, ep8, b8⟩ := hv
          exact sq_of ed8
        · obtain ⟨es, P8, ee, hel, hes, ed8, ep8, b8⟩ := hv
          have hd2p : d2 ≠ p := Ne.symm (ne_new nd2 e6)
          have hd2d : d2 ≠ d := Ne.symm (ne_new nd2 ec6)
          have nd20 : H d2 = none := bH6.free hd2p nd2
          have hpl : pre.length < 1000 := by
            have := congrArg List.length e
            rw [sgV_len] at this
            simp at this
            omega
          obtain ⟨c, hcc, rfl⟩ : ∃ c, c ∈ cs ∧ x = Tx [c] := by
            have hm : x ∈ sgV cs := by rw [e]; simp
            unfold sgV at hm
            obtain ⟨c, hc, hx⟩ := List.mem_map.mp hm
            exact ⟨c, hc, hx.symm⟩
          wtm_at "unf"
          refine ⟨rfl, ?_⟩
          wtm_at "go"
          refine g_lst (by show 2 ≤ 100000; decide) fun pa H9 npa s9 epa => ?_
          wtm_at "go"
          have hpp : pa ≠ p := Ne.symm (ne_new npa ep8)
          refine ⟨p, P8, 6, rfl, by wtm_at "lk", by decide, by decide, fun v P10 H10 v0 v1 b10 e10 => ?_⟩
          wtm_at "go"
          have epa10 : H10 pa = some (.lst [Tx [c], Tx [lt]]) := But.get b10 hpp epa
          have hd2pa : d2 ≠ pa := ne_new npa ee
          have put : ∀ x : Nat, isSg x → LcPut d2 (fun H8 => ∃ (es : List Nat) (P8 : Rw), H8 d2 = some (.lst (sgV es)) ∧ es.length = (pre ++ [Tx [c]]).length ∧ (∀ c ∈ es, isSg c) ∧ H8 d = some (.lst (sgV cs)) ∧ H8 p = some P8.o ∧ But p H H8) (Tx [x]) H10 := by
            intro x hx
            refine lc_put (acc := sgV es) (But.get b10 hd2p (Same.get s9 ee)) (by rw [sgV_len]; omega) fun H11 b11 e11 => ?_
            rw [← sgV_snoc] at e11
            refine ⟨es ++ [x], P10, e11, by simp; omega, ?_, But.get b11 (Ne.symm hd2d) (But.get b10 hdp (Same.get s9 ed8)), But.get b11 (Ne.symm hd2p) e10, But.b0 b11 ((b8.same s9).trans b10) nd20⟩
            intro y hy
            rcases List.mem_append.mp hy with hy | hy
            · exact hes y hy
            · rw [List.mem_singleton] at hy
              rw [hy]
              exact hx
          by_cases hv1 : V.int v = V.int 1
          · rw [decide_eq_true hv1]
            refine g_ixL (v := Tx [lt]) (sq_of epa10) rfl ?_
            exact put lt (.inl hlt2)
          · rw [decide_eq_false hv1]
            refine g_ixL (v := Tx [c]) (sq_of epa10) rfl ?_
            exact put c (.inr (hcb c hcc))
        · obtain ⟨es, P8, ee, hel, hes, ed8, ep8, b8⟩ := hv
          rw [sgV_len] at hel
          refine g_join0 (sq_of ee) (by omega) ?_
          exact q es P8 H8 (by omega) hes b8 ep8
    · wtm_at "go"
      refine ⟨p, P2, M, kd + 1, rfl, e2, hM, by omega, by omega, fun t0 P3 H3 ht0 hts0 _ b3 e3 => ?_⟩
      wtm_at "go"
      refine ⟨p, P3, 4, rfl, e3, by decide, by decide, fun n P4 H4 n0 n1 b4 e4 => ?_⟩
      obtain ⟨m, rfl⟩ := Int.eq_ofNat_of_zero_le n0
      refine ⟨_, rfl, by omega, by omega, for_rng (fun i σ H' => ∃ (t : List Nat) (P5 : Rw) (y6 y7 y8 : Option V), σ = [some (V.ref p), some (V.int M), some (V.int ((kd + 1 : Nat) : Int)), none, none, some (Tx t), y6, y7, y8, none] ∧ (∀ c ∈ t, isSg c) ∧ t.length ≤ M + i ∧ But p H H' ∧ H' p = some P5.o) ⟨t0, P4, _, _, _, rfl, hts0, by omega, by wtm_at "sm", e4⟩ (fun i σ H' hi hv => ?_) (fun σ H' hv => ?_)⟩
      · obtain ⟨t, P5, y6, y7, y8, rfl, hts, htl, b5, e5⟩ := hv
        rw [Int.toNat_natCast] at hi
        wtm_at "unf"
        wtm_at "go"
        refine ⟨p, P5, _, rfl, e5, by omega, by omega, fun x P6 H6 x0 x1 b6 e6 => ?_⟩
        obtain ⟨at', rfl⟩ := Int.eq_ofNat_of_zero_le x0
        have cutS : ∀ (u : List Nat) (a b : Nat), (∀ c ∈ u, isSg c) → ∀ c ∈ t.take a ++ u ++ t.drop b, isSg c := by
          intro u a b hu c hc
          rcases List.mem_append.mp hc with hc | hc
          · rcases List.mem_append.mp hc with hc | hc
            · exact hts c (List.mem_of_mem_take hc)
            · exact hu c hc
          · exact hts c (List.mem_of_mem_drop hc)
        wtm_at "go"
        refine g_slTo (by omega) (by omega) ?_
        wtm_at "go"
        refine g_slFrom (by omega) (by omega) ?_
        rw [Int.toNat_natCast, show ((at' : Int) + 1).toNat = at' + 1 by omega]
        wtm_at "go"
        refine g_slTo (by omega) (by omega) ?_
        rw [Int.toNat_natCast]
        wtm_at "go"
        refine ⟨p, P6, kd + 1, rfl, e6, by omega, by omega, fun c1 P7 H7 hc1 b7 e7 => ?_⟩
        wtm_at "go"
        refine g_slFrom (by omega) (by omega) ?_
        rw [show ((at' : Int) + 1).toNat = at' + 1 by omega]
        wtm_at "go"
        refine g_lst (by show 2 ≤ 100000; decide) fun la H8 nla s8 ela => ?_
        have hlp : la ≠ p := Ne.symm (ne_new nla e7)
        have nla0 : H la = none := (b5.trans (b6.trans b7)).free hlp nla
        wtm_at "go"
        refine ⟨g_tyL (sq_of ela), ?_⟩
        wtm_at "go"
        refine g_slTo (by omega) (by omega) ?_
        rw [Int.toNat_natCast]
        wtm_at "go"
        refine ⟨p, P7, kd + 1, rfl, by wtm_at "lk", by omega, by omega, fun c2 P9 H9 hc2 b9 e9 => ?_⟩
        wtm_at "go"
        refine g_slFrom (by omega) (by omega) ?_
        rw [Int.toNat_natCast]
        wtm_at "go"
        refine g_append1 (xs := [Tx (t.take at' ++ t.drop (at' + 1)), Tx (t.take at' ++ [c1] ++ t.drop (at' + 1))]) (by wtm_at "lk") (by show 2 < 100000; decide) fun H10 b10 e10 => ?_
        wtm_at "go"
        refine ⟨p, P9, 3, rfl, But.get b10 (Ne.symm hlp) e9, by decide, by decide, fun w P11 H11 w0 w1 b11 e11 => ?_⟩
        obtain ⟨wz, rfl⟩ := Int.eq_ofNat_of_zero_le w0
        have e11l : H11 la = some (.lst ([Tx (t.take at' ++ t.drop (at' + 1)), Tx (t.take at' ++ [c1] ++ t.drop (at' + 1))] ++ [Tx (t.take at' ++ [c2] ++ t.drop at')])) := But.get b11 hlp e10
        have bb : But p H H11 := by
          have x1 : But p H H8 := (b5.trans (b6.trans b7)).same s8
          exact (But.b0 b10 (x1.trans b9) nla0).trans b11
        have sg : ∀ u : List Nat, (∀ c ∈ u, c ∈ BRK) → ∀ c ∈ u, isSg c := fun u h c hc => .inr (h c hc)
        have hw : wz = 0 ∨ wz = 1 ∨ wz = 2 := by omega
        rcases hw with rfl | rfl | rfl
        · refine g_ixL (sq_of e11l) rfl ?_
          refine ⟨_, P11, _, _, _, rfl, ?_, by simp; omega, bb, e11⟩
          have := cutS [] at' (at' + 1) (by simp)
          simpa using this
        · refine g_ixL (sq_of e11l) rfl ?_
          exact ⟨_, P11, _, _, _, rfl, cutS [c1] at' (at' + 1) (sg _ (by simpa using hc1)), by simp; omega, bb, e11⟩
        · refine g_ixL (sq_of e11l) rfl ?_
          exact ⟨_, P11, _, _, _, rfl, cutS [c2] at' at' (sg _ (by simpa using hc2)), by simp; omega, bb, e11⟩
      · obtain ⟨t, P5, y6, y7, y8, rfl, hts, htl, b5, e5⟩ := hv
        rw [Int.toNat_natCast] at htl
        wtm_at "unf"
        wtm_at "go"
        refine g_slTo (by omega) (by omega) ?_
        rw [Int.toNat_natCast]
        exact q _ P5 H' (by simp; omega) (fun c hc => hts c (List.mem_of_mem_take hc)) b5 e5
end
end K33

set_option maxHeartbeats 4000000
namespace K33
open PySem PySem.Spec PyProof.Rows L2 SX Ly
local macro_rules | `(tactic| wtm_at "unf") => `(tactic| (try simp only [tMetX, tOwnX, tChain, tSeq, tNext, tBreak, tCont, tDrop, tRet, tRetN, tIfS, tAsg, tAug, tC, tOp, tUn, tNil, tCons, tOwn, tCB, tTest, tB, tAnd, tOr, tNot, tAndV, tOrV, tNotV, tIf, gName, gSub, tBM, tBM0, tM0, tM1, tSl, tPart_eq, tNoPart, tLst_eq, tTup_eq, tRevL_eq, tReplT, tRevS, tDGet_eq, sDPut_eq, tDNewT_eq, tMet, tMak, tFld_eq, sFld_eq, C8.tCut, wipe, tYes, gTup, gCons, gNil, List.set_cons_zero, List.set_cons_succ, if_true, if_false, Bool.false_eq_true, Bool.not_true, Bool.not_false, true_and, reduceIte, cx_K, tFor_eq, tLc_eq, iStr, iList, iTup, iRng1, iRng2, iRng3, iEnum, iZip, tLstRg, tRg1, gLst, RZ.iZipA, iEnumS, iZipS, tDNewK_eq, tDGet2, tDIn, tDNotIn, iKd]))
local macro_rules | `(tactic| wtm_at "unfA") => `(tactic| (try simp only [tMetX, tOwnX, tChain, tSeq, tNext, tBreak, tCont, tDrop, tRet, tRetN, tIfS, tAsg, tAug, tC, tOp, tUn, tNil, tCons, tOwn, tCB, tTest, tB, tAnd, tOr, tNot, tIf, gName, gSub, tBM, tBM0, tM0, tM1, tSl, tPart_eq, tNoPart, tLst_eq, tTup_eq, tRevL_eq, tReplT, tRevS, tDGet_eq, sDPut_eq, tDNewT_eq, tMet, tMak, tFld_eq, sFld_eq, C8.tCut, wipe, tYes, gTup, gCons, gNil, List.set_cons_zero, List.set_cons_succ, if_true, if_false, Bool.false_eq_true, Bool.not_true, Bool.not_false, true_and, reduceIte, cx_K, tFor_eq, tLc_eq, iStr, iList, iTup, iRng1, iRng2, iRng3, iEnum, iZip, tLstRg, tRg1, gLst, RZ.iZipA, iEnumS, iZipS, tDNewK_eq, tDGet2, tDIn, tDNotIn, iKd]))
local macro_rules | `(tactic| wtm_at "ne") => `(tactic| first | assumption | (apply Ne.symm; assumption) | (apply ne_new; (· assumption); (· wtm_at "lk")) | (apply Ne.symm; apply ne_new; (· assumption); (· wtm_at "lk")))
local macro_rules | `(tactic| wtm_at "lk") => `(tactic| first | assumption | exact upd_same | (apply Same.get; (· assumption); (· wtm_at "lk")) | (apply But.get; (· assumption); (· wtm_at "ne"); (· wtm_at "lk")))
local macro_rules | `(tactic| wtm_at "sq") => `(tactic| first | assumption | (apply sq_of; wtm_at "lk") | (apply Same.seq; (· assumption); (· wtm_at "sq")) | (apply But.sq; (· assumption); (· wtm_at "ne"); (· wtm_at "sq")))
local macro_rules | `(tactic| wtm_at "fr") => `(tactic| first | assumption | (apply Same.fr; (· assumption); (· wtm_at "sm")) | (apply But.fr; (· assumption); (· wtm_at "sm"); (· wtm_at "ne")))
local macro_rules | `(tactic| wtm_at "sm") => `(tactic| first | exact Same.refl _ | exact But.refl | assumption | (apply Same.tr; (· assumption); (· wtm_at "sm")) | (apply Same.b0; (· assumption); (· wtm_at "sm"); (· wtm_at "fr")) | (apply But.sa; (· assumption); (· wtm_at "sm")) | (apply But.tr; (· assumption); (· wtm_at "sm")) | (apply But.b0; (· assumption); (· wtm_at "sm"); (· wtm_at "fr")) | (apply Same.toBut; wtm_at "sm"))
local macro_rules | `(tactic| wtm_at "sc") => `(tactic| first | exact Int.zero_lt_one | (show (0 : Int) < _; omega) | (show (0 : Int) < _; decide) | exact ⟨by omega, by omega⟩ | exact .inl ⟨by omega, by omega⟩ | exact .inr ⟨by omega, by omega⟩)
local macro_rules | `(tactic| wtm_at "go1") => `(tactic| first | ((with_reducible apply g_var); (· exact rfl)) | with_reducible apply g_I0 | ((with_reducible apply g_I); (· wtm_at "sc")) | with_reducible apply g_U | with_reducible apply g_ipI | ((with_reducible apply g_addT); (· first | omega | (simp; done) | (simp; omega))) | with_reducible apply g_inT | with_reducible apply g_ninT | ((with_reducible apply g_lenT); (· omega)) | with_reducible apply g_findT1 | with_reducible apply g_str | with_reducible apply g_part | with_reducible apply g_intB | ((with_reducible apply g_ixL); (· wtm_at "sq"); (· exact rfl)) | ((with_reducible apply g_setL); (· wtm_at "lk"); (· exact rfl)) | ((with_reducible apply g_eq); (· rfl)) | ((with_reducible apply g_ne); (· rfl)))
local macro_rules | `(tactic| wtm_at "go") => `(tactic| repeat wtm_at "go1")
local macro_rules | `(tactic| wtm_at "lp") => `(tactic| skip)
local macro_rules | `(tactic| wtm_at "om") => `(tactic| first | omega | (simp; done) | (simp; omega) | (simp at *; omega))
local macro_rules | `(tactic| wtm_at "ty") => `(tactic| first | exact ty_str | exact ty_int | exact ty_bl | exact ty_non | (apply ty_lst; wtm_at "lk") | (apply ty_tup; wtm_at "lk"))
local macro_rules | `(tactic| wtm_at "kb") => `(tactic| first | exact kb_str_str | exact kb_str_int | exact kb_str_bool | exact kb_str_list | exact kb_str_tuple | exact kb_int_str | exact kb_int_int | exact kb_int_bool | exact kb_int_list | exact kb_int_tuple | exact kb_bool_str | exact kb_bool_int | exact kb_bool_bool | exact kb_bool_list | exact kb_bool_tuple | exact kb_list_str | exact kb_list_int | exact kb_list_bool | exact kb_list_list | exact kb_list_tuple | exact kb_tuple_str | exact kb_tuple_int | exact kb_tuple_bool | exact kb_tuple_list | exact kb_tuple_tuple | exact kb_NoneType_str | exact kb_NoneType_int | exact kb_NoneType_bool | exact kb_NoneType_list | exact kb_NoneType_tuple | exact kb_dict_str | exact kb_dict_int | exact kb_dict_bool | exact kb_dict_list | exact kb_dict_tuple)
local macro_rules | `(tactic| wtm_at "gx1") => `(tactic| first | ((with_reducible apply g_eqS); (· exact rfl)) | ((with_reducible apply g_neS); (· exact rfl)) | wtm_at "go1" | with_reducible apply g_min2 | with_reducible apply g_max2 | with_reducible apply g_T | with_reducible apply g_F | with_reducible apply g_NT | with_reducible apply g_NF | with_reducible apply g_nT | with_reducible apply g_nF | with_reducible apply g_RT | with_reducible apply g_RF | ((with_reducible apply g_isi); (· wtm_at "ty"); (· wtm_at "kb")) | ((with_reducible apply g_ixAU3); (· wtm_at "lk"); (· exact rfl)) | ((with_reducible apply g_ixAL3); (· wtm_at "lk"); (· exact rfl)) | ((with_reducible apply g_ixU3); (· wtm_at "lk"); (· exact rfl)) | ((with_reducible apply g_lenL3); (· wtm_at "lk")) | ((with_reducible apply g_lenU3); (· wtm_at "lk")) | ((with_reducible apply g_tyL3); (· wtm_at "lk")) | ((with_reducible apply g_lenT); (· wtm_at "pv")) | wtm_at "tr" | with_reducible apply g_ET | with_reducible apply g_EF | with_reducible apply g_EnT | with_reducible apply g_EnF)
local macro_rules | `(tactic| wtm_at "pv") => `(tactic| first | exact rfl | assumption | omega | (simp; done) | (simp; omega))
local macro_rules | `(tactic| wtm_at "tr") => `(tactic| first | ((with_reducible apply g_Td); (· wtm_at "pv")) | ((with_reducible apply g_Fd); (· wtm_at "pv")) | ((with_reducible apply g_NTd); (· wtm_at "pv")) | ((with_reducible apply g_NFd); (· wtm_at "pv")) | ((with_reducible apply g_nTd); (· wtm_at "pv")) | ((with_reducible apply g_nFd); (· wtm_at "pv")) | ((with_reducible apply g_RTd); (· wtm_at "pv")) | ((with_reducible apply g_RFd); (· wtm_at "pv")))
local macro_rules | `(tactic| wtm_at "gx") => `(tactic| repeat wtm_at "gx1")
local macro_rules | `(tactic| wtm_at "unfS") => `(tactic| (try simp only [tSeq, tNext, tAsg, tFor_eq, C8.tCut, wipe, gName, tDrop, List.set_cons_zero, List.set_cons_succ, cx_K]))
local macro_rules | `(tactic| wtm_at "rd1") => `(tactic| first | exact rd_int | exact rd_str | exact rd_bl | exact rd_non | exact rda_nil | apply rda_cons | (with_reducible apply rd_tup; (· assumption)) | (with_reducible apply rd_lst; (· assumption)) | exact rd_dic (by assumption) | exact rd_var rfl (.int _) | exact rd_var rfl (.str _) | exact rd_var rfl (.bl _) | exact rd_var rfl (by assumption) | (with_reducible apply rd_cat; (· assumption)) | (with_reducible apply rd_rep2; (· assumption)) | (with_reducible apply rd_rev; (· assumption)) | (with_reducible apply rd_to; (· assumption)) | (with_reducible apply rd_from; (· assumption)) | (with_reducible apply rd_tupOf; (· assumption)) | (with_reducible apply rd_lstOf; (· assumption)) | with_reducible apply rd_lenL | with_reducible apply rd_lenT | with_reducible apply rd_I0 | with_reducible apply rd_I | with_reducible apply rd_U | with_reducible apply rd_eqI | with_reducible apply rd_ixL | with_reducible apply rd_ixT | exact atI_hd _ _ | exact ‹atI _ _ = some _›)
local macro_rules | `(tactic| wtm_at "rdl") => `(tactic| first | decide | omega | wtm_at "sc" | (simp only [List.length_append, List.length_cons, List.length_nil, List.length_map, List.length_take, List.length_drop, List.length_reverse, cutTo]; omega))
local macro_rules | `(tactic| wtm_at "rd") => `(tactic| ((repeat' wtm_at "rd1"); (all_goals wtm_at "rdl")))
local macro_rules | `(tactic| wtm_at "nc") => `(tactic| repeat' (first | assumption | exact nca_nil | exact nc_non | exact nc_bl | exact nc_dic | exact nc_tup0 | exact nc_lst0 | (refine nc_strS (by decide) (by decide)) | (refine nc_int (by omega)) | (refine nc_big (by decide +kernel)) | refine nca_app ?_ ?_ | refine nca_cons ?_ ?_ | refine nca_take ?_ | refine nca_drop ?_ | refine nca_cutTo ?_ | refine nca_rev ?_ | refine nc_tup (by decide) ?_ | refine nc_lst (by decide) ?_ | refine nc_lst (Nat.le_trans (show _ ≤ 45 by wtm_at "rdl") (by decide)) ?_ | refine nc_tup (Nat.le_trans (show _ ≤ 45 by wtm_at "rdl") (by decide)) ?_))

section
variable {P : Program} {w : World} {K : PySem.W.Frag} {mg : Str → Option Value} {base : Heap}
structure WaysG (K : PySem.W.Frag) (H : Hp) (p : Addr) (l : List Nat) (W : Wd) (cd kd : Addr) (crs krs : List Addr) (fc fk : Nat → List V) : Prop where
  ob : ∃ dx wd, H p = some (.ins (He.ga K "Ways") dx (wfl l wd cd kd)) ∧ WdIs K H wd W
  c : Tab H cd crs fc
  k : Tab H kd krs fk
  sep : ∀ x ∈ cd :: crs, x ∉ kd :: krs
theorem WaysG.same {K : PySem.W.Frag} {H H' : Hp} {p : Addr} {l : List Nat} {W : Wd} {cd kd : Addr} {crs krs : List Addr} {fc fk : Nat → List V} (G : WaysG K H p l W cd kd crs krs fc fk) (s : Same H H') : WaysG K H' p l W cd kd crs krs fc fk := by
  obtain ⟨dx, wd, h1, h2⟩ := G.ob
  exact ⟨⟨dx, wd, s _ _ h1, h2.same s⟩, G.c.same s, G.k.same s, G.sep⟩
theorem WaysG.butL {K : PySem.W.Frag} {H H' : Hp} {p q : Addr} {l : List Nat} {W : Wd} {cd kd : Addr} {crs krs : List Addr} {fc fk : Nat → List V} {ys : List V} (G : WaysG K H p l W cd kd crs krs fc fk) (s : But q H H') (hq : H q = some (.lst ys)) (h1 : q ∉ cd :: crs) (h2 : q ∉ kd :: krs) : WaysG K H' p l W cd kd crs krs fc fk := by
  obtain ⟨dx, wd, g1, g2⟩ := G.ob
  rw [List.mem_cons, not_or] at h1 h2
  exact ⟨⟨dx, wd, s _ _ (fun e => by rw [e, hq] at g1; cases g1) g1, g2.but s hq⟩, G.c.but s h1.1 h1.2, G.k.but s h2.1 h2.2, G.sep⟩
theorem WaysG.fresh {K : PySem.W.Frag} {H : Hp} {p q : Addr} {l : List Nat} {W : Wd} {cd kd : Addr} {crs krs : List Addr} {fc fk : Nat → List V} (G : WaysG K H p l W cd kd crs krs fc fk) (h : H q = none) : q ∉ cd :: crs ∧ q ∉ kd :: krs := by
  have h1 := G.c.fresh h
  have h2 := G.k.fresh h
  rw [List.mem_cons, List.mem_cons, not_or, not_or]
  exact ⟨h1, h2⟩
/-- entry (a, b) of both tables tells x -/
def Ent (fc fk : Nat → List V) (a b : Nat) (x : MC) : Prop := (fc b)[a]? = some (cV x) ∧ (fk b)[a]? = some (nV x)
section
variable {P : Program} {w : World} {K : PySem.W.Frag} {mg : Str → Option Value} {H : Hp} {p : Addr} {l : List Nat} {W : Wd} {cd kd : Addr} {crs krs : List Addr} {fc fk : Nat → List V} {Q : VK} {A : Prop}
theorem g_wsig (T : Facts K mg) (G : WaysG K H p l W cd kd crs krs fc fk) (q : Q (Tx l) H) : rFld K "signs" (.ref p) H Q := by
  obtain ⟨dx, wd, h1, h2⟩ := G.ob
  exact g_fld h1 T.cl_Ways T.n_Ways_signs (wfl_signs ..) q
theorem g_wcost (T : Facts K mg) (G : WaysG K H p l W cd kd crs krs fc fk) (q : Q (.ref cd) H) : rFld K "costs" (.ref p) H Q := by
  obtain ⟨dx, wd, h1, h2⟩ := G.ob
  exact g_fld h1 T.cl_Ways T.n_Ways_costs (wfl_costs ..) q
theorem g_wcount (T : Facts K mg) (G : WaysG K H p l W cd kd crs krs fc fk) (q : Q (.ref kd) H) : rFld K "counts" (.ref p) H Q := by
  obtain ⟨dx, wd, h1, h2⟩ := G.ob
  exact g_fld h1 T.cl_Ways T.n_Ways_counts (wfl_counts ..) q
theorem g_wword (T : Facts K mg) (G : WaysG K H p l W cd kd crs krs fc fk) (q : ∀ wd, WdIs K H wd W → Q wd H) : rFld K "words" (.ref p) H Q := by
  obtain ⟨dx, wd, h1, h2⟩ := G.ob
  exact g_fld h1 T.cl_Ways T.n_Ways_words (wfl_words ..) (q wd h2)
theorem g_wmet {m : Str} (G : WaysG K H p l W cd kd crs krs fc fk) (hm : ∀ l wd cd kd, (wfl l wd cd kd).lookup m = none) (q : A) : rMetO (He.ga K "Ways") m (.ref p) H A := by
  obtain ⟨dx, wd, h1, h2⟩ := G.ob
  exact g_met h1 (hm _ _ _ _) q
theorem g_inPut {wd : V} (h : WdIs K H wd W) (q : Q (.bl W.pt) H) : rIn K false (Tx [112, 117, 116]) wd H Q := by
  obtain ⟨a, xs, h1, h2, h3, h4, h5, h6⟩ := h
  exact ⟨a, xs, h1, .inr h2, rfl, h3, by rw [if_neg Bool.false_ne_true, h4]; exact q⟩
theorem g_inStrike {wd : V} (h : WdIs K H wd W) (q : Q (.bl W.st) H) : rIn K false (Tx [115, 116, 114, 105, 107, 101]) wd H Q := by
  obtain ⟨a, xs, h1, h2, h3, h4, h5, h6⟩ := h
  exact ⟨a, xs, h1, .inr h2, rfl, h3, by rw [if_neg Bool.false_ne_true, h5]; exact q⟩
theorem g_inTurn {wd : V} (h : WdIs K H wd W) (q : Q (.bl W.tn) H) : rIn K false (Tx [116, 117, 114, 110]) wd H Q := by
  obtain ⟨a, xs, h1, h2, h3, h4, h5, h6⟩ := h
  exact ⟨a, xs, h1, .inr h2, rfl, h3, by rw [if_neg Bool.false_ne_true, h6]; exact q⟩
end
theorem two_pow_lt {a : Nat} (h : a ≤ 4) : ((a : Int)).natAbs < 2 ^ 3 := by omega
/-! is_letter -/
def sp_is_letter : Sp := fun vs H Q _ => ∃ c : Nat, vs = [Tx [c]] ∧ Q (.bl (decide (c ∉ BRK))) H
theorem ok_is_letter (T : Facts K mg) : C8.Cal P w K mg base 1 "is_letter" sp_is_letter [] := by
  refine calD T.f_is_letter sc_is_letter (fun vs H Q E h => ?_) (fun f cdv A outer s H vs Q E hr h => ?_)
  · obtain ⟨c, rfl, q⟩ := h; rfl
  · obtain ⟨c, rfl, q⟩ := h
    refine ⟨_, (pss_one (ps_ret (pe_and (pe_cmpR op_notInT (pv 0) (C8.pe_gc rfl T.c_OPENING) (by rfl)) (pe_one (pe_cmpR op_notInT (pv 0) (C8.pe_gc rfl T.c_CLOSING) (by rfl)))))), ?_⟩
    rw [st_is_letter]
    wtm_at "unf"
    wtm_at "gx"
    refine g_testN (fun h => ?_) (fun h => ?_)
    · wtm_at "gx"
      have e : decide (¬ c ∈ BRK) = !decide (c ∈ CLO) := by
        by_cases h2 : c ∈ CLO
        · rw [decide_eq_true h2, decide_eq_false (show ¬ ¬ c ∈ BRK from fun hq => hq (brk_or.mpr (.inr h2)))]; rfl
        · rw [decide_eq_false h2, decide_eq_true (show ¬ c ∈ BRK from fun hb => (brk_or.mp hb).elim h h2)]; rfl
      rw [e] at q
      exact q
    · rw [decide_eq_false (show ¬ ¬ c ∈ BRK from fun hq => hq (brk_or.mpr (.inl h)))] at q
      exact q
/-! fewest_turns -/
def sp_fewest_turns : Sp := fun vs H Q _ => ∃ c d : Nat, vs = [Tx [c], Tx [d]] ∧ c ∈ BRK ∧ d ∈ BRK ∧ ∀ (t : Addr) (H' : Hp), H t = none → Same H H' → H' t = some (.tup [.int (few c d).1, .int (few c d).2]) → Q (.ref t) H'
theorem ok_fewest_turns (T : Facts K mg) : C8.Cal P w K mg base 2 "fewest_turns" sp_fewest_turns [] := by
  refine calD T.f_fewest_turns sc_fewest_turns (fun vs H Q E h => ?_) (fun f cdv A outer s H vs Q E hr h => ?_)
  · obtain ⟨c, d, rfl, hc, hd, q⟩ := h; rfl
  · obtain ⟨c, d, rfl, hc, hd, q⟩ := h
    refine ⟨_, (pss_cons (ps_ifC (PW.pt (pw_and (pt_cmpR op_inT (pv 0) (C8.pe_gc rfl T.c_OPENING) (by rfl)) (pw_and1 (pt_cmpR op_inT (pv 1) (C8.pe_gc rfl T.c_CLOSING) (by rfl)))))
       (pss_cons (ps_set (i := 2) sc_fewest_turns.nd rfl (Or.inl rfl) (pe_callTy call_intB rfl T.b_int (by decide +kernel) (pa_cons (pe_cmpR op_ne (pe_own (ok_kind_of T) hr (by omega) rfl (pa_cons (pv 0) pa_nil)) (pe_own (ok_kind_of T) hr (by omega) rfl (pa_cons (pv 1) pa_nil)) (nomark _)) pa_nil)))
       (pss_one (ps_ret (pe_tup (pa_cons (pv 2) (pa_cons (pe_op op_add pe_int (pv 2)) pa_nil))))))
       pss_nil)
       (pss_cons (ps_ifC (PW.pt (pw_and (pt_cmpR op_inT (pv 0) (C8.pe_gc rfl T.c_CLOSING) (by rfl)) (pw_and1 (pt_cmpR op_inT (pv 1) (C8.pe_gc rfl T.c_OPENING) (by rfl)))))
       (pss_one (ps_ret (pe_tup (pa_cons pe_int (pa_cons (pe_callB call_lenT rfl T.b_len PySem.boot_len (pa_cons (C8.pe_gc rfl T.c_OPENING) pa_nil)) pa_nil)))))
       pss_nil)
       (pss_one (ps_ret (pe_tup (pa_cons pe_int (pa_cons pe_int pa_nil))))))), ?_⟩
    rw [st_fewest_turns]
    unfold few at q
    wtm_at "unf"
    refine g_ifC (b := decide (c ∈ OPN ∧ d ∈ CLO)) (fun Q q => ?_) (fun h => ?_) (fun h => ?_)
    · wtm_at "unf"
      wtm_at "gx"
      refine g_test (fun h1 => ?_) (fun h1 => ?_)
      · wtm_at "gx"
        refine ⟨_, rfl, ?_⟩
        rw [show decide (c ∈ OPN ∧ d ∈ CLO) = decide (d ∈ CLO) from decide_eq_decide.mpr ⟨fun z => z.2, fun z => ⟨h1, z⟩⟩] at q
        exact q
      · rw [decide_eq_false (fun z => h1 z.1)] at q
        exact q
    · have h' := of_decide_eq_true h
      rw [if_pos h'] at q
      wtm_at "unf"
      wtm_at "gx"
      refine ⟨c, rfl, hc, ?_⟩
      wtm_at "gx"
      refine ⟨d, rfl, hd, ?_⟩
      wtm_at "gx"
      refine g_tup (by show 2 ≤ 100000; decide) fun t H1 nt s1 et => q t H1 nt s1 ?_
      rw [et]
      by_cases h3 : knd c = knd d
      · rw [if_pos h3, decide_eq_true (by rw [h3])]
        rfl
      · rw [if_neg h3, decide_eq_false (fun hq => h3 (by have := V.int.inj hq; omega))]
        rfl
    · have h' := of_decide_eq_false h
      rw [if_neg h'] at q
      wtm_at "unf"
      refine g_ifC (b := decide (c ∈ CLO ∧ d ∈ OPN)) (fun Q q => ?_) (fun h => ?_) (fun h => ?_)
      · wtm_at "unf"
        wtm_at "gx"
        refine g_test (fun h1 => ?_) (fun h1 => ?_)
        · wtm_at "gx"
          refine ⟨_, rfl, ?_⟩
          rw [show decide (c ∈ CLO ∧ d ∈ OPN) = decide (d ∈ OPN) from decide_eq_decide.mpr ⟨fun z => z.2, fun z => ⟨h1, z⟩⟩] at q
          exact q
        · rw [decide_eq_false (fun z => h1 z.1)] at q
          exact q
      · rw [if_pos (of_decide_eq_true h)] at q
        wtm_at "unf"
        wtm_at "gx"
        refine g_lenT (by decide) ?_
        refine g_tup (by show 2 ≤ 100000; decide) fun t H1 nt s1 et => q t H1 nt s1 et
      · rw [if_neg (of_decide_eq_false h)] at q
        wtm_at "unf"
        wtm_at "gx"
        refine g_tup (by show 2 ≤ 100000; decide) fun t H1 nt s1 et => q t H1 nt s1 et
/-! Ways.count -/
def sp_Ways_count (K : PySem.W.Frag) : Sp := fun vs H Q _ => ∃ (p : Addr) (i j : Nat) (l : List Nat) (W : Wd) (cd kd : Addr) (crs krs : List Addr) (fc fk : Nat → List V) (v : V), vs = [.ref p, .int i, .int j] ∧ WaysG K H p l W cd kd crs krs fc fk ∧ j < krs.length ∧ (fk j)[i]? = some v ∧ Q v H
theorem ok_Ways_count (T : Facts K mg) : C8.Met P w K mg base 1 (He.ga K "Ways") "count" (sp_Ways_count K) [] := by
  refine metD T.m_Ways_count sc_Ways_count (fun vs H Q E h => ?_) (fun f cdv A outer s H vs Q E hr h => ?_)
  · obtain ⟨p, i, j, l, W, cd, kd, crs, krs, fc, fk, v, rfl, hG, hj, hv, q⟩ := h; rfl
  · obtain ⟨p, i, j, l, W, cd, kd, crs, krs, fc, fk, v, rfl, hG, hj, hv, q⟩ := h
    refine ⟨_, (pss_one (ps_ret (pe_ix ix_list (pe_ix ix_list (pe_fld (pv 0) rfl) (pv 2) (fun _ _ => rfl)) (pv 1) (fun _ _ => rfl)))), ?_⟩
    rw [st_Ways_count]
    wtm_at "unf"
    wtm_at "gx"
    refine g_wcount T hG ?_
    wtm_at "gx"
    obtain ⟨r, h1, h2, h3⟩ := hG.k.row hj
    refine g_ixLn j (sq_of hG.k.hd) rfl h2 ?_
    wtm_at "gx"
    exact g_ixLn i (sq_of h3) rfl hv q
/-! Ways.note -/
def sp_Ways_note (K : PySem.W.Frag) : Sp := fun vs H Q _ => ∃ (p fa : Addr) (nm mn b m j : Nat) (l : List Nat) (W : Wd) (cd kd : Addr) (crs krs : List Addr) (fc fk : Nat → List V) (xs : List (Nat × Nat)) (x y : MC), vs = [.ref p, .ref fa, .int nm, .int mn, .int b, .int m, .int j] ∧ WaysG K H p l W cd kd crs krs fc fk ∧ Prs H fa xs ∧ fa ∉ cd :: crs ∧ fa ∉ kd :: krs ∧ m < crs.length ∧ m < krs.length ∧ j < crs.length ∧ j < krs.length ∧ Ent fc fk b m x ∧ Ent fc fk (min (m + 1) j) j y ∧ mn ≤ 4 ∧ cnt x < 2 ^ 16001 ∧ cnt y < 2 ^ 16001 ∧ xs.length < 90000 ∧ ∀ H', But fa H H' → Prs H' fa (xs ++ (m3 (some (nm, mn)) x y).toList) → Q .non H'
theorem ok_Ways_note (T : Facts K mg) : C8.Met P w K mg base 1 (He.ga K "Ways") "note" (sp_Ways_note K) [] := by
  refine metD T.m_Ways_note sc_Ways_note (fun vs H Q E h => ?_) (fun f cdv A outer s H vs Q E hr h => ?_)
  · obtain ⟨p, fa, nm, mn, b, m, j, l, W, cd, kd, crs, krs, fc, fk, xs, x, y, rfl, hG, hP, hfa1, hfa2, hm, hm2, hj, hj2, hx, hy, hmn, hcx, hcy, hxl, q⟩ := h; rfl
  · obtain ⟨p, fa, nm, mn, b, m, j, l, W, cd, kd, crs, krs, fc, fk, xs, x, y, rfl, hG, hP, hfa1, hfa2, hm, hm2, hj, hj2, hx, hy, hmn, hcx, hcy, hxl, q⟩ := h
    refine ⟨_, (pss_cons (ps_set (i := 7) sc_Ways_note.nd rfl (Or.inl rfl) (pe_callB (call_min2' rfl) rfl T.b_min (by decide +kernel) (pa_cons (pe_op op_add (pv 5) pe_int) (pa_cons (pv 6) pa_nil))))
       (pss_cons (ps_set (i := 8) sc_Ways_note.nd rfl (Or.inl rfl) (pe_ix ix_list (pe_ix ix_list (pe_fld (pv 0) rfl) (pv 5) (fun _ _ => rfl)) (pv 4) (fun _ _ => rfl)))
       (pss_cons (ps_set (i := 9) sc_Ways_note.nd rfl (Or.inl rfl) (pe_ix ix_list (pe_ix ix_list (pe_fld (pv 0) rfl) (pv 6) (fun _ _ => rfl)) (pv 7) (fun _ _ => rfl)))
       (pss_one (ps_ifC (PW.pt (pw_and (pt_cmpR op_notN (pv 8) pe_non (nomark _)) (pw_and1 (pt_cmpR op_notN (pv 9) pe_non (nomark _)))))
       (pss_one (ps_expr (pe_bm PySem.F.plainAttrs_list PySem.F.slot_list_append PySem.F.type_list_append mt_append (pv 1) (pa_cons (pe_tup (pa_cons (pe_op op_add (pe_op op_add (pv 2) (pv 8)) (pv 9)) (pa_cons (pe_op op_mulW (pe_op op_mulW (pv 3) (pe_ix ix_list (pe_ix ix_list (pe_fld (pv 0) rfl) (pv 5) (fun _ _ => rfl)) (pv 4) (fun _ _ => rfl))) (pe_ix ix_list (pe_ix ix_list (pe_fld (pv 0) rfl) (pv 6) (fun _ _ => rfl)) (pv 7) (fun _ _ => rfl))) pa_nil))) pa_nil))))
       pss_nil))))), ?_⟩
    rw [st_Ways_note]
    obtain ⟨rm, hm1, hm2', hm3⟩ := hG.c.row hm
    obtain ⟨rj, hj1, hj2', hj3⟩ := hG.c.row hj
    obtain ⟨km, gm1, gm2, gm3⟩ := hG.k.row hm2
    obtain ⟨kj, gj1, gj2, gj3⟩ := hG.k.row hj2
    wtm_at "unf"
    wtm_at "gx"
    rw [show min ((m : Int) + 1) (j : Int) = ((min (m + 1) j : Nat) : Int) by omega]
    refine g_wcost T hG ?_
    wtm_at "gx"
    refine g_ixLn m (sq_of hG.c.hd) rfl hm2' ?_
    wtm_at "gx"
    refine g_ixLn b (sq_of hm3) rfl hx.1 ?_
    wtm_at "gx"
    refine g_wcost T hG ?_
    wtm_at "gx"
    refine g_ixLn j (sq_of hG.c.hd) rfl hj2' ?_
    wtm_at "gx"
    refine g_ixLn (min (m + 1) j) (sq_of hj3) rfl hy.1 ?_
    cases x with
    | none =>
      refine g_ifC (b := false) (fun Q q => ?_) (fun h => ?_) (fun h => ?_)
      · wtm_at "unf"
        wtm_at "gx"
        exact q
      · cases h
      · refine q H But.refl ?_
        rw [m3, mMul_none]
        show Prs H fa (xs ++ [])
        rw [List.append_nil]
        exact hP
    | some x =>
    rw [show cV (some x) = V.int x.1 from rfl]
    cases y with
    | none =>
      rw [show cV none = V.non from rfl]
      refine g_ifC (b := false) (fun Q q => ?_) (fun h => ?_) (fun h => ?_)
      · wtm_at "unf"
        wtm_at "gx"
        refine ⟨_, rfl, ?_⟩
        rw [decide_eq_true rfl]
        exact q
      · cases h
      · refine q H But.refl ?_
        rw [m3, mMul_none]
        show Prs H fa (xs ++ [])
        rw [List.append_nil]
        exact hP
    | some y =>
      rw [show cV (some y) = V.int y.1 from rfl]
      have hx2 : (fk m)[b]? = some (V.int x.2) := hx.2
      have hy2 : (fk j)[min (m + 1) j]? = some (V.int y.2) := hy.2
      have hbx : ((x.2 : Nat) : Int).natAbs < 2 ^ 16001 := by rw [Int.natAbs_natCast]; exact hcx
      have hby : ((y.2 : Nat) : Int).natAbs < 2 ^ 16001 := by rw [Int.natAbs_natCast]; exact hcy
      refine g_ifC (b := true) (fun Q q => ?_) (fun h => ?_) (fun h => ?_)
      · wtm_at "unf"
        wtm_at "gx"
        refine ⟨_, rfl, ?_⟩
        rw [decide_eq_false (fun h => nomatch h)]
        exact q
      · obtain ⟨rsP, hP1, hP2, hP3⟩ := id hP
        wtm_at "unf"
        wtm_at "gx"
        refine g_wcount T hG ?_
        wtm_at "gx"
        refine g_ixLn m (sq_of hG.k.hd) rfl gm2 ?_
        wtm_at "gx"
        refine g_ixLn b (sq_of gm3) rfl hx2 ?_
        refine g_I (wide_mul (a := 3) (b := 16001) (two_pow_lt hmn) hbx (by decide) (by decide) (by decide)) ?_
        wtm_at "gx"
        refine g_wcount T hG ?_
        wtm_at "gx"
        refine g_ixLn j (sq_of hG.k.hd) rfl gj2 ?_
        wtm_at "gx"
        refine g_ixLn (min (m + 1) j) (sq_of gj3) rfl hy2 ?_
        refine g_I (wide_mul (a := 16004) (b := 16001) (wide_lt (a := 3) (b := 16001) (two_pow_lt hmn) hbx) hby (by decide) (by decide) (by decide)) ?_
        refine g_tup (by show 2 ≤ 100000; decide) fun t H1 nt s1 et => ?_
        refine g_append1 (s1 _ _ hP1) (by rw [List.length_map]; omega) fun H2 b2 e2 => ?_
        refine q H2 (Same.but s1 b2) ?_
        refine Prs.snoc (t := t) (x := ((nm + x.1) + y.1, (mn * x.2) * y.2)) (hP.same s1) ?_ b2 fun rs' h' => ?_
        · rw [et]
          simp
        · have := (s1 _ _ hP1).symm.trans h'
          injection this with this
          injection this with this
          rw [e2, this]
      · cases h
/-! Ways.note_puts -/
def sp_Ways_note_puts (K : PySem.W.Frag) : Sp := fun vs H Q _ => ∃ (p fa : Addr) (i j : Nat) (l : List Nat) (W : Wd) (cd kd : Addr) (crs krs : List Addr) (fc fk : Nat → List V) (xs : List (Nat × Nat)), vs = [.ref p, .ref fa, .int i, .int j] ∧ WaysG K H p l W cd kd crs krs fc fk ∧ Prs H fa xs ∧ fa ∉ cd :: crs ∧ fa ∉ kd :: krs ∧ i < j ∧ j ≤ l.length ∧ l.length ≤ 1000 ∧ crs.length = l.length + 1 ∧ krs.length = l.length + 1 ∧ (∀ a b, i ≤ a → a ≤ b → b ≤ j → b - a < j - i → Ent fc fk a b (mcN l W a b)) ∧ W.pt = true ∧ (∀ a b, a ≤ b → b ≤ l.length → mcN l W a b ≠ none) ∧ xs.length ≤ 2000 ∧ ∀ (ys : List (Nat × Nat)) (H' : Hp), But fa H H' → Prs H' fa (xs ++ ys) → totL ys = mAdd (sm (fun t => m3 (opM l W i) (mcN l W (i + 1) (i + 1 + t)) (mcN l W (i + 1 + t) j)) (j - i)) (sm (fun t => m3 (clM l W (i + t)) (mcN l W i (i + t)) (mcN l W (i + t + 1) j)) (j - i)) → ys.length ≤ 2 * (j - i) → Q .non H'
theorem ok_Ways_note_puts (T : Facts K mg) : C8.Met P w K mg base 2 (He.ga K "Ways") "note_puts" (sp_Ways_note_puts K) [] := by
  refine metD T.m_Ways_note_puts sc_Ways_note_puts (fun vs H Q E h => ?_) (fun f cdv A outer s H vs Q E hr h => ?_)
  · obtain ⟨p, fa, i, j, l, W, cd, kd, crs, krs, fc, fk, xs, rfl, hG, hP, hfa1, hfa2, hi, hj, hjl, hcl, hkl, hE, hW, hN, hxl, q⟩ := h; rfl
  · obtain ⟨p, fa, i, j, l, W, cd, kd, crs, krs, fc, fk, xs, rfl, hG, hP, hfa1, hfa2, hi, hj, hjl, hcl, hkl, hE, hW, hN, hxl, q⟩ := h
    refine ⟨_, (C8.pss_cut (ps_if (pt_cmpR op_inT (pe_ix ix_txt (pe_fld (pv 0) rfl) (pv 2) (fun _ _ => rfl)) (C8.pe_gc rfl T.c_OPENING) (by rfl))
       (pss_one (ps_for PassesOwn.never rfl (pi_range2 rfl T.b_range (pa_cons (pe_op op_add (pv 2) pe_int) (pa_cons (pe_op op_add (pv 3) pe_int) pa_nil))) (pg_name (i := 4) sc_Ways_note_puts.nd rfl (Or.inl rfl))
       (pss_cons (ps_set (i := 5) sc_Ways_note_puts.nd rfl (Or.inl rfl) (pe_op op_add (pe_op op_add pe_int (pe_ix ix_list (pe_ix ix_list (pe_fld (pv 0) rfl) (pv 4) (fun _ _ => rfl)) (pe_op op_add (pv 2) pe_int) (fun _ _ => rfl))) (pe_ix ix_list (pe_ix ix_list (pe_fld (pv 0) rfl) (pv 3) (fun _ _ => rfl)) (pv 4) (fun _ _ => rfl))))
       (pss_one (ps_expr (pe_bm PySem.F.plainAttrs_list PySem.F.slot_list_append PySem.F.type_list_append mt_append (pv 1) (pa_cons (pe_tup (pa_cons (pv 5) (pa_cons (pe_op op_mulW (pe_ix ix_list (pe_ix ix_list (pe_fld (pv 0) rfl) (pv 4) (fun _ _ => rfl)) (pe_op op_add (pv 2) pe_int) (fun _ _ => rfl)) (pe_ix ix_list (pe_ix ix_list (pe_fld (pv 0) rfl) (pv 3) (fun _ _ => rfl)) (pv 4) (fun _ _ => rfl))) pa_nil))) pa_nil)))))))
       pss_nil)
       (pss_one (ps_for PassesOwn.never rfl (pi_range2 rfl T.b_range (pa_cons (pv 2) (pa_cons (pv 3) pa_nil))) (pg_name (i := 4) sc_Ways_note_puts.nd rfl (Or.inl rfl))
       (pss_one (ps_if (pt_cmpR op_inT (pe_ix ix_txt (pe_fld (pv 0) rfl) (pv 4) (fun _ _ => rfl)) (C8.pe_gc rfl T.c_CLOSING) (by rfl))
       (pss_one (ps_expr (pe_met (ok_Ways_note T) hr (by omega) (pv 0) (pa_cons (pv 1) (pa_cons pe_int (pa_cons pe_int (pa_cons (pv 2) (pa_cons (pv 4) (pa_cons (pv 3) pa_nil)))))))))
       pss_nil))))), ?_⟩
    rw [st_Ways_note_puts]
    have hcn : ∀ a b, a ≤ b → b ≤ j → cnt (mcN l W a b) < 2 ^ 16001 := fun a b h1 h2 => mcN_big h1 (by omega)
    have hsg : l[i]? = some l[i] := List.getElem?_eq_getElem (by omega)
    have hnn : ∀ a b, a ≤ b → b ≤ j → ∃ x : Nat × Nat, mcN l W a b = some x := fun a b h1 h2 => Option.ne_none_iff_exists'.mp (hN a b h1 (by omega))
    have rdc : ∀ (H' : Hp), WaysG K H' p l W cd kd crs krs fc fk → ∀ a b, i ≤ a → a ≤ b → b ≤ j → b - a < j - i → ∃ r r2, (crs.map V.ref)[b]? = some (V.ref r) ∧ SqL K H' r (fc b) ∧ (fc b)[a]? = some (cV (mcN l W a b)) ∧ (krs.map V.ref)[b]? = some (V.ref r2) ∧ SqL K H' r2 (fk b) ∧ (fk b)[a]? = some (nV (mcN l W a b)) := by
      intro H' G' a b h1 h2 h3 h4
      obtain ⟨r, _, g2, g3⟩ := G'.c.row (k := b) (by omega)
      obtain ⟨r2, _, g5, g6⟩ := G'.k.row (k := b) (by omega)
      exact ⟨r, r2, g2, sq_of g3, (hE a b h1 h2 h3 h4).1, g5, sq_of g6, (hE a b h1 h2 h3 h4).2⟩
    generalize hc : l[i] = c at hsg
    wtm_at "unf"
    refine ⟨fun σ' H1 => ∃ (ys : List (Nat × Nat)) (y4 y5 : Option V), σ' = [some (V.ref p), some (V.ref fa), some (V.int i), some (V.int j), y4, y5] ∧ But fa H H1 ∧ Prs H1 fa (xs ++ ys) ∧ WaysG K H1 p l W cd kd crs krs fc fk ∧ totL ys = sm (fun t => m3 (opM l W i) (mcN l W (i + 1) (i + 1 + t)) (mcN l W (i + 1 + t) j)) (j - i) ∧ ys.length ≤ j - i, ?_, ?_⟩
    · wtm_at "gx"
      refine g_wsig T hG ?_
      wtm_at "gx"
      refine g_ixT (by omega) (atI_of hsg) ?_
      wtm_at "gx"
      refine g_test (fun ho => ?_) (fun ho => ?_)
      · have hop : opM l W i = w1 := by unfold opM; rw [hsg]; exact if_pos ⟨ho, hW⟩
        wtm_at "gx"
        refine ⟨_, _, rfl, ⟨by omega, by omega, by omega, by omega⟩, for_rng (fun t σ H1 => ∃ (ys : List (Nat × Nat)) (y4 y5 : Option V), σ = [some (V.ref p), some (V.ref fa), some (V.int i), some (V.int j), y4, y5] ∧ But fa H H1 ∧ Prs H1 fa (xs ++ ys) ∧ WaysG K H1 p l W cd kd crs krs fc fk ∧ totL ys = sm (fun t => m3 (opM l W i) (mcN l W (i + 1) (i + 1 + t)) (mcN l W (i + 1 + t) j)) t ∧ ys.length ≤ t) ⟨[], _, _, rfl, But.refl, by rw [List.append_nil]; exact hP, hG, rfl, by simp⟩ (fun t σ H1 ht hv => ?_) (fun σ H1 hv => ?_)⟩
        · obtain ⟨ys, y4, y5, rfl, bH, hP1, hG1, hty, hyl⟩ := hv
          have ht2 : t < j - i := by omega
          obtain ⟨ra, ra2, a1, a2, a3, a4, a5, a6⟩ := rdc H1 hG1 (i + 1) (i + 1 + t) (by omega) (by omega) (by omega) (by omega)
          obtain ⟨rb, rb2, b1, b2, b3, b4, b5, b6⟩ := rdc H1 hG1 (i + 1 + t) j (by omega) (by omega) (by omega) (by omega)
          have c1 := hcn (i + 1) (i + 1 + t) (by omega) (by omega)
          have c2 := hcn (i + 1 + t) j (by omega) (by omega)
          obtain ⟨x, hx⟩ := hnn (i + 1) (i + 1 + t) (by omega) (by omega)
          obtain ⟨y, hy⟩ := hnn (i + 1 + t) j (by omega) (by omega)
          rw [hx] at a3 a6 c1
          rw [hy] at b3 b6 c2
          have hbx : ((x.2 : Nat) : Int).natAbs < 2 ^ 16001 := by rw [Int.natAbs_natCast]; exact c1
          have hby : ((y.2 : Nat) : Int).natAbs < 2 ^ 16001 := by rw [Int.natAbs_natCast]; exact c2
          obtain ⟨rsP, hQ1, hQ2, hQ3⟩ := id hP1
          wtm_at "unf"
          wtm_at "gx"
          refine g_wcost T hG1 ?_
          wtm_at "gx"
          refine g_ixLn (i + 1 + t) (sq_of hG1.c.hd) (by omega) a1 ?_
          wtm_at "gx"
          refine g_ixLn (v := V.int x.1) (i + 1) a2 (by omega) a3 ?_
          wtm_at "gx"
          refine g_wcost T hG1 ?_
          wtm_at "gx"
          refine g_ixLn j (sq_of hG1.c.hd) (by omega) b1 ?_
          wtm_at "gx"
          refine g_ixLn (v := V.int y.1) (i + 1 + t) b2 (by omega) b3 ?_
          wtm_at "gx"
          refine g_wcount T hG1 ?_
          wtm_at "gx"
          refine g_ixLn (i + 1 + t) (sq_of hG1.k.hd) (by omega) a4 ?_
          wtm_at "gx"
          refine g_ixLn (v := V.int x.2) (i + 1) a5 (by omega) a6 ?_
          wtm_at "gx"
          refine g_wcount T hG1 ?_
          wtm_at "gx"
          refine g_ixLn j (sq_of hG1.k.hd) (by omega) b4 ?_
          wtm_at "gx"
          refine g_ixLn (v := V.int y.2) (i + 1 + t) b5 (by omega) b6 ?_
          refine g_I (wide_mul (a := 16001) (b := 16001) hbx hby (by decide) (by decide) (by decide)) ?_
          refine g_tup (by show 2 ≤ 100000; decide) fun tt H2 nt s2 et => ?_
          refine g_append1 (s2 _ _ hQ1) (by rw [List.length_map, hQ2, List.length_append]; omega) fun H3 b3' e3 => ?_
          refine ⟨ys ++ [((1 + x.1) + y.1, (1 * x.2) * y.2)], _, _, rfl, But.tr b3' (But.sa s2 bH), ?_, (hG1.same s2).butL b3' (s2 _ _ hQ1) hfa1 hfa2, ?_, by simp; omega⟩
          · rw [← List.append_assoc]
            refine Prs.snoc (t := tt) (hP1.same s2) ?_ b3' fun rs' h' => ?_
            · rw [et]
              simp
            · have := (s2 _ _ hQ1).symm.trans h'
              injection this with this
              injection this with this
              rw [e3, this]
          · rw [totL_snoc, hty, sm, hop, hx, hy]
            rfl
        · obtain ⟨ys, y4, y5, rfl, bH, hP1, hG1, hty, hyl⟩ := hv
          have e : ((j : Int) + 1 - ((i : Int) + 1)).toNat = j - i := by omega
          rw [e] at hty hyl
          exact ⟨ys, _, _, rfl, bH, hP1, hG1, hty, hyl⟩
      · have hop : opM l W i = none := by unfold opM; rw [hsg]; exact if_neg fun z => ho z.1
        wtm_at "unf"
        refine ⟨[], _, _, rfl, But.refl, by rw [List.append_nil]; exact hP, hG, ?_, by simp⟩
        rw [hop]
        exact (sm_none (j - i)).symm
    · rintro σ' H1 ⟨ys, y4, y5, rfl, bH, hP1, hG1, hty, hyl⟩
      wtm_at "unf"
      wtm_at "gx"
      refine ⟨_, _, rfl, ⟨by omega, by omega, by omega, by omega⟩, for_rng (fun t σ H1 => ∃ (zs : List (Nat × Nat)) (y4 y5 : Option V), σ = [some (V.ref p), some (V.ref fa), some (V.int i), some (V.int j), y4, y5] ∧ But fa H H1 ∧ Prs H1 fa (xs ++ ys ++ zs) ∧ WaysG K H1 p l W cd kd crs krs fc fk ∧ totL zs = sm (fun t => m3 (clM l W (i + t)) (mcN l W i (i + t)) (mcN l W (i + t + 1) j)) t ∧ zs.length ≤ t) ⟨[], _, _, rfl, bH, by rw [List.append_nil]; exact hP1, hG1, rfl, by simp⟩ (fun t σ H1 ht hv => ?_) (fun σ H1 hv => ?_)⟩
      · obtain ⟨zs, y4, y5, rfl, bH, hP1, hG1, htz, hzl⟩ := hv
        have ht2 : t < j - i := by omega
        have em : l[i + t]? = some l[i + t] := List.getElem?_eq_getElem (by omega)
        generalize l[i + t] = d at em
        wtm_at "unf"
        wtm_at "gx"
        refine g_wsig T hG1 ?_
        wtm_at "gx"
        refine g_ixTn (i + t) (by omega) (by omega) em ?_
        wtm_at "gx"
        refine g_test (fun ho => ?_) (fun ho => ?_)
        · have hcl' : clM l W (i + t) = w1 := by unfold clM; rw [em]; exact if_pos ⟨ho, hW⟩
          wtm_at "gx"
          refine g_wmet hG1 (fun _ _ _ _ => rfl) ?_
          wtm_at "gx"
          refine ⟨p, fa, 1, 1, i, i + t, j, l, W, cd, kd, crs, krs, fc, fk, xs ++ ys ++ zs, mcN l W i (i + t), mcN l W (i + t + 1) j, ?_, hG1, hP1, hfa1, hfa2, by omega, by omega, by omega, by omega, hE _ _ (by omega) (by omega) (by omega) (by omega), by rw [show min (i + t + 1) j = i + t + 1 by omega]; exact hE _ _ (by omega) (by omega) (by omega) (by omega), by decide, hcn _ _ (by omega) (by omega), hcn _ _ (by omega) (by omega), by simp; omega, fun H2 b2 hP2 => ?_⟩
          · rw [show ((i + t : Nat) : Int) = (i : Int) + (t : Int) by omega]
            rfl
          obtain ⟨yl, hyl1, hyl2⟩ := hP1.lst
          refine ⟨zs ++ (m3 (some (1, 1)) (mcN l W i (i + t)) (mcN l W (i + t + 1) j)).toList, _, _, rfl, But.tr b2 bH, by rw [← List.append_assoc]; exact hP2, hG1.butL b2 hyl1 hfa1 hfa2, ?_, ?_⟩
          · rw [totL_opt, htz, sm, hcl']
            rfl
          · rw [List.length_append]
            have : ∀ o : MC, o.toList.length ≤ 1 := fun o => by cases o <;> simp
            have := this (m3 (some (1, 1)) (mcN l W i (i + t)) (mcN l W (i + t + 1) j))
            omega
        · have hcl' : clM l W (i + t) = none := by unfold clM; rw [em]; exact if_neg fun z => ho z.1
          wtm_at "unf"
          refine ⟨zs, _, _, rfl, bH, hP1, hG1, ?_, by omega⟩
          rw [htz, sm, hcl', m3_none, mAdd_none]
      · obtain ⟨zs, y4, y5, rfl, bH, hP1, hG1, htz, hzl⟩ := hv
        rw [show ((j : Int) - (i : Int)).toNat = j - i by omega] at htz hzl
        refine q (ys ++ zs) H1 bH (by rw [← List.append_assoc]; exact hP1) ?_ (by rw [List.length_append]; omega)
        rw [totL_app, hty, htz]
/-! Ways.numbers -/
def sp_Ways_numbers (K : PySem.W.Frag) : Sp := fun vs H Q _ => ∃ (p : Addr) (i j : Nat) (l : List Nat) (W : Wd) (cd kd : Addr) (crs krs : List Addr) (fc fk : Nat → List V), vs = [.ref p, .int i, .int j] ∧ WaysG K H p l W cd kd crs krs fc fk ∧ i < j ∧ j ≤ l.length ∧ l.length ≤ 1000 ∧ crs.length = l.length + 1 ∧ krs.length = l.length + 1 ∧ (∀ a b, i ≤ a → a ≤ b → b ≤ j → b - a < j - i → Ent fc fk a b (mcN l W a b)) ∧ (W.pt = true → ∀ a b, a ≤ b → b ≤ l.length → mcN l W a b ≠ none) ∧ ∀ (fa : Addr) (xs : List (Nat × Nat)) (H' : Hp), H fa = none → Same H H' → Prs H' fa xs → totL xs = stM l W (mcN l W) i j → Q (.ref fa) H'
theorem ok_Ways_numbers (T : Facts K mg) : C8.Met P w K mg base 3 (He.ga K "Ways") "numbers" (sp_Ways_numbers K) [] := by
  refine metD T.m_Ways_numbers sc_Ways_numbers (fun vs H Q E h => ?_) (fun f cdv A outer s H vs Q E hr h => ?_)
  · obtain ⟨p, i, j, l, W, cd, kd, crs, krs, fc, fk, rfl, hG, hi, hj, hjl, hcl, hkl, hE, hp, q⟩ := h; rfl
  · obtain ⟨p, i, j, l, W, cd, kd, crs, krs, fc, fk, rfl, hG, hi, hj, hjl, hcl, hkl, hE, hp, q⟩ := h
    refine ⟨_, (pss_cons (ps_set (i := 3) sc_Ways_numbers.nd rfl (Or.inl rfl) (pe_lst pa_nil))
       (pss_cons (ps_set (i := 4) sc_Ways_numbers.nd rfl (Or.inl rfl) (pe_ix ix_txt (pe_fld (pv 0) rfl) (pv 1) (fun _ _ => rfl)))
       (C8.pss_cut (ps_if (pt_val (pe_own (ok_is_letter T) hr (by omega) rfl (pa_cons (pv 4) pa_nil)))
       (pss_one (ps_expr (pe_met (ok_Ways_note T) hr (by omega) (pv 0) (pa_cons (pv 3) (pa_cons pe_int (pa_cons pe_int (pa_cons (pe_op op_add (pv 1) pe_int) (pa_cons (pv 2) (pa_cons (pv 2) pa_nil)))))))))
       (C8.pss_cut (ps_if (pt_cmpR op_in_seq (pe_strS (l := [115, 116, 114, 105, 107, 101]) (by decide +kernel)) (pe_fld (pv 0) rfl) (by rfl))
       (pss_one (ps_expr (pe_met (ok_Ways_note T) hr (by omega) (pv 0) (pa_cons (pv 3) (pa_cons pe_int (pa_cons pe_int (pa_cons (pe_op op_add (pv 1) pe_int) (pa_cons (pv 2) (pa_cons (pv 2) pa_nil)))))))))
       pss_nil)
       (pss_one (ps_for PassesOwn.never rfl (pi_range2 rfl T.b_range (pa_cons (pe_op op_add (pv 1) pe_int) (pa_cons (pv 2) pa_nil))) (pg_name (i := 5) sc_Ways_numbers.nd rfl (Or.inl rfl))
       (pss_one (ps_if (pt_not (pt_val (pe_own (ok_is_letter T) hr (by omega) rfl (pa_cons (pe_ix ix_txt (pe_fld (pv 0) rfl) (pv 5) (fun _ _ => rfl)) pa_nil))))
       (pss_cons (ps_asg (pe_own (ok_fewest_turns T) hr (by omega) rfl (pa_cons (pv 4) (pa_cons (pe_ix ix_txt (pe_fld (pv 0) rfl) (pv 5) (fun _ _ => rfl)) pa_nil))) (pg_tup rfl (pgs_cons (pg_name (i := 6) sc_Ways_numbers.nd rfl (Or.inl rfl)) (pgs_cons (pg_name (i := 7) sc_Ways_numbers.nd rfl (Or.inl rfl)) pgs_nil))))
       (pss_one (ps_ifC (PW.pt (pw_or (pt_cmpR op_eq (pv 6) pe_int (nomark _)) (pw_or1 (pt_cmpR op_in_seq (pe_strS (l := [116, 117, 114, 110]) (by decide +kernel)) (pe_fld (pv 0) rfl) (by rfl)))))
       (pss_one (ps_expr (pe_met (ok_Ways_note T) hr (by omega) (pv 0) (pa_cons (pv 3) (pa_cons (pv 6) (pa_cons (pv 7) (pa_cons (pe_op op_add (pv 1) pe_int) (pa_cons (pv 5) (pa_cons (pv 2) pa_nil)))))))))
       pss_nil)))
       pss_nil))))))
       (C8.pss_cut (ps_if (pt_cmpR op_in_seq (pe_strS (l := [112, 117, 116]) (by decide +kernel)) (pe_fld (pv 0) rfl) (by rfl))
       (pss_one (ps_expr (pe_met (ok_Ways_note_puts T) hr (by omega) (pv 0) (pa_cons (pv 3) (pa_cons (pv 1) (pa_cons (pv 2) pa_nil))))))
       pss_nil)
       (pss_one (ps_ret (pv 3))))))), ?_⟩
    rw [st_Ways_numbers]
    have hcn : ∀ a b, a ≤ b → b ≤ j → cnt (mcN l W a b) < 2 ^ 16001 := fun a b h1 h2 => mcN_big h1 (by omega)
    have hsg : l[i]? = some l[i] := List.getElem?_eq_getElem (by omega)
    generalize l[i] = c at hsg
    have hopt : ∀ o : MC, o.toList.length ≤ 1 := fun o => by cases o <;> simp
    wtm_at "unf"
    refine g_lst (by show 0 ≤ 100000; decide) fun fa H1 nfa s1 efa => ?_
    have hG1 := hG.same s1
    obtain ⟨hfa1, hfa2⟩ := hG.fresh nfa
    have hP1 : Prs H1 fa [] := ⟨[], efa, rfl, fun k r x h => by simp at h⟩
    wtm_at "gx"
    refine g_wsig T hG1 ?_
    wtm_at "gx"
    refine g_ixT (by omega) (atI_of hsg) ?_
    refine ⟨fun σ' H2 => ∃ (ys : List (Nat × Nat)) (y5 y6 y7 : Option V), σ' = [some (V.ref p), some (V.int i), some (V.int j), some (V.ref fa), some (Tx [c]), y5, y6, y7] ∧ But fa H1 H2 ∧ Prs H2 fa ys ∧ WaysG K H2 p l W cd kd crs krs fc fk ∧ totL ys = mAdd (mMul (sgM l W i) (mcN l W (i + 1) j)) (sm (fun t => m3 (prM l W i (i + 1 + t)) (mcN l W (i + 1) (i + 1 + t)) (mcN l W (i + 1 + t + 1) j)) (j - i - 1)) ∧ ys.length ≤ j - i, ?_, ?_⟩
    · wtm_at "gx"
      refine ⟨c, rfl, ?_⟩
      by_cases hb : c ∈ BRK
      · rw [decide_eq_false (show ¬ ¬ c ∈ BRK from fun z => z hb)]
        wtm_at "gx"
        -- the strike
        refine ⟨fun σ' H2 => ∃ (ys : List (Nat × Nat)), σ' = [some (V.ref p), some (V.int i), some (V.int j), some (V.ref fa), some (Tx [c]), none, none, none] ∧ But fa H1 H2 ∧ Prs H2 fa ys ∧ WaysG K H2 p l W cd kd crs krs fc fk ∧ totL ys = mMul (sgM l W i) (mcN l W (i + 1) j) ∧ ys.length ≤ 1, ?_, ?_⟩
        · wtm_at "gx"
          refine g_wword T hG1 fun wd hwd => ?_
          refine g_inStrike hwd ?_
          cases hst : W.st with
          | true =>
            wtm_at "gx"
            refine g_wmet hG1 (fun _ _ _ _ => rfl) ?_
            wtm_at "gx"
            have hsgm : sgM l W i = w1 := by unfold sgM; rw [hsg]; dsimp only; rw [if_pos hb, if_pos hst]
            refine ⟨p, fa, 1, 1, i + 1, j, j, l, W, cd, kd, crs, krs, fc, fk, [], mcN l W (i + 1) j, mcN l W j j, by simp, hG1, hP1, hfa1, hfa2, by omega, by omega, by omega, by omega, hE _ _ (by omega) (by omega) (by omega) (by omega), by rw [show min (j + 1) j = j by omega]; exact hE _ _ (by omega) (by omega) (by omega) (by omega), by decide, hcn _ _ (by omega) (by omega), hcn _ _ (by omega) (by omega), by decide, fun H2 b2 hP2 => ?_⟩
            refine ⟨_, rfl, b2, hP2, hG1.butL b2 efa hfa1 hfa2, ?_, ?_⟩
            · rw [totL_opt, mcN_self, m3, mMul_one, hsgm]
              rfl
            · simpa using hopt _
          | false =>
            have hsgm : sgM l W i = none := by unfold sgM; rw [hsg]; dsimp only; rw [if_pos hb, if_neg (by rw [hst]; decide)]
            wtm_at "gx"
            exact ⟨[], rfl, But.refl, hP1, hG1, by rw [hsgm]; rfl, by simp⟩
        · rintro σ' H2 ⟨ys0, rfl, bH2, hP2, hG2, hty0, hyl0⟩
          wtm_at "unf"
          wtm_at "gx"
          refine ⟨_, _, rfl, ⟨by omega, by omega, by omega, by omega⟩, for_rng (fun t σ H3 => ∃ (ys : List (Nat × Nat)) (y5 y6 y7 : Option V), σ = [some (V.ref p), some (V.int i), some (V.int j), some (V.ref fa), some (Tx [c]), y5, y6, y7] ∧ But fa H1 H3 ∧ Prs H3 fa ys ∧ WaysG K H3 p l W cd kd crs krs fc fk ∧ totL ys = mAdd (mMul (sgM l W i) (mcN l W (i + 1) j)) (sm (fun t => m3 (prM l W i (i + 1 + t)) (mcN l W (i + 1) (i + 1 + t)) (mcN l W (i + 1 + t + 1) j)) t) ∧ ys.length ≤ 1 + t) ⟨ys0, _, _, _, rfl, bH2, hP2, hG2, by rw [sm, mAdd_none]; exact hty0, by omega⟩ (fun t σ H3 ht hv => ?_) (fun σ H3 hv => ?_)⟩
          · obtain ⟨ys, y5, y6, y7, rfl, bH3, hP3, hG3, hty, hyl⟩ := hv
            have ht2 : t < j - i - 1 := by omega
            have em : l[i + 1 + t]? = some l[i + 1 + t] := List.getElem?_eq_getElem (by omega)
            generalize l[i + 1 + t] = d at em
            wtm_at "unf"
            wtm_at "gx"
            refine g_wsig T hG3 ?_
            wtm_at "gx"
            refine g_ixTn (i + 1 + t) (by omega) (by omega) em ?_
            refine ⟨d, rfl, ?_⟩
            by_cases hd : d ∈ BRK
            · rw [decide_eq_false (show ¬ ¬ d ∈ BRK from fun z => z hd)]
              wtm_at "gx"
              refine g_wsig T hG3 ?_
              wtm_at "gx"
              refine g_ixTn (i + 1 + t) (by omega) (by omega) em ?_
              refine ⟨c, d, rfl, hb, hd, fun tt H4 ntt s4 ett => ?_⟩
              refine ⟨tt, _, rfl, st_of ett, rfl, _, _, rfl, _, _, rfl, rfl, ?_⟩
              wtm_at "unf"
              have hG4 := hG3.same s4
              refine g_ifH (b := decide ((few c d).1 = 0) || W.tn) (G := fun H5 => H5 = H4) (fun Q q => ?_) (fun H5 e5 hbt => ?_) (fun H5 e5 hbt => ?_)
              · wtm_at "unf"
                wtm_at "gx"
                by_cases h0 : (few c d).1 = 0
                · rw [h0]
                  wtm_at "gx"
                  rw [decide_eq_true h0] at q
                  exact q _ rfl
                · refine g_Fd (fun z => h0 (by have := V.int.inj z; omega)) ?_
                  wtm_at "gx"
                  refine g_wword T hG4 fun wd hwd => ?_
                  refine g_inTurn hwd ?_
                  rw [decide_eq_false h0] at q
                  exact ⟨_, rfl, q _ rfl⟩
              · subst e5
                have hpr : prM l W i (i + 1 + t) = some (few c d) := by
                  unfold prM
                  rw [hsg, em]
                  refine if_pos ⟨hb, hd, ?_⟩
                  rcases (Bool.or_eq_true _ _).mp hbt with h | h
                  · exact .inl (of_decide_eq_true h)
                  · exact .inr h
                wtm_at "unf"
                wtm_at "gx"
                refine g_wmet hG4 (fun _ _ _ _ => rfl) ?_
                wtm_at "gx"
                refine ⟨p, fa, (few c d).1, (few c d).2, i + 1, i + 1 + t, j, l, W, cd, kd, crs, krs, fc, fk, ys, mcN l W (i + 1) (i + 1 + t), mcN l W (i + 1 + t + 1) j, by simp, hG4, hP3.same s4, hfa1, hfa2, by omega, by omega, by omega, by omega, hE _ _ (by omega) (by omega) (by omega) (by omega), by rw [show min (i + 1 + t + 1) j = i + 1 + t + 1 by omega]; exact hE _ _ (by omega) (by omega) (by omega) (by omega), cnt_few c d, hcn _ _ (by omega) (by omega), hcn _ _ (by omega) (by omega), by omega, fun H6 b6 hP6 => ?_⟩
                obtain ⟨yl, hyl1, hyl2⟩ := (hP3.same s4).lst
                refine ⟨_, _, _, _, rfl, But.tr b6 (But.sa s4 bH3), hP6, hG4.butL b6 hyl1 hfa1 hfa2, ?_, ?_⟩
                · rw [totL_opt, hty, sm, hpr, mAdd_assoc]
                · have := hopt (m3 (some ((few c d).1, (few c d).2)) (mcN l W (i + 1) (i + 1 + t)) (mcN l W (i + 1 + t + 1) j))
                  rw [List.length_append]
                  omega
              · subst e5
                have hpr : prM l W i (i + 1 + t) = none := by
                  unfold prM
                  rw [hsg, em]
                  refine if_neg fun z => ?_
                  rw [Bool.or_eq_false_iff] at hbt
                  rcases z.2.2 with h | h
                  · exact of_decide_eq_false hbt.1 h
                  · rw [hbt.2] at h; cases h
                wtm_at "unf"
                refine ⟨ys, _, _, _, rfl, But.sa s4 bH3, hP3.same s4, hG4, ?_, by omega⟩
                rw [hty, sm, hpr, m3_none, mAdd_none]
            · rw [decide_eq_true hd]
              wtm_at "gx"
              have hpr : prM l W i (i + 1 + t) = none := by
                unfold prM
                rw [hsg, em]
                exact if_neg fun z => hd z.2.1
              refine ⟨ys, _, _, _, rfl, bH3, hP3, hG3, ?_, by omega⟩
              rw [hty, sm, hpr, m3_none, mAdd_none]
          · obtain ⟨ys, y5, y6, y7, rfl, bH3, hP3, hG3, hty, hyl⟩ := hv
            have e : ((j : Int) - ((i : Int) + 1)).toNat = j - i - 1 := by omega
            rw [e] at hty hyl
            exact ⟨ys, _, _, _, rfl, bH3, hP3, hG3, hty, by omega⟩
      · rw [decide_eq_true hb]
        wtm_at "gx"
        refine g_wmet hG1 (fun _ _ _ _ => rfl) ?_
        wtm_at "gx"
        have hsgm : sgM l W i = mOne := by unfold sgM; rw [hsg]; dsimp only; rw [if_neg hb]
        refine ⟨p, fa, 0, 1, i + 1, j, j, l, W, cd, kd, crs, krs, fc, fk, [], mcN l W (i + 1) j, mcN l W j j, by simp, hG1, hP1, hfa1, hfa2, by omega, by omega, by omega, by omega, hE _ _ (by omega) (by omega) (by omega) (by omega), by rw [show min (j + 1) j = j by omega]; exact hE _ _ (by omega) (by omega) (by omega) (by omega), by decide, hcn _ _ (by omega) (by omega), hcn _ _ (by omega) (by omega), by decide, fun H2 b2 hP2 => ?_⟩
        refine ⟨_, _, _, _, rfl, b2, hP2, hG1.butL b2 efa hfa1 hfa2, ?_, ?_⟩
        · have hpn : sm (fun t => m3 (prM l W i (i + 1 + t)) (mcN l W (i + 1) (i + 1 + t)) (mcN l W (i + 1 + t + 1) j)) (j - i - 1) = none := by
            refine (sm_congr (g := fun _ => none) fun k hk => ?_).trans (sm_none _)
            have : prM l W i (i + 1 + k) = none := by
              unfold prM
              rw [hsg]
              cases l[i + 1 + k]? with
              | none => rfl
              | some d => exact if_neg fun z => hb z.1
            rw [this, m3_none]
          rw [totL_opt, mcN_self, m3, mMul_one, hsgm, hpn, mAdd_none]
          rfl
        · have := hopt (m3 (some (0, 1)) (mcN l W (i + 1) j) (mcN l W j j))
          simp only [List.nil_append]
          omega
    · rintro σ' H2 ⟨ys, y5, y6, y7, rfl, bH2, hP2, hG2, hty, hyl⟩
      have sH2 : Same H H2 := Same.b0 bH2 s1 nfa
      wtm_at "unf"
      refine ⟨fun σ' H3 => ∃ zs : List (Nat × Nat), σ' = [some (V.ref p), some (V.int i), some (V.int j), some (V.ref fa), some (Tx [c]), y5, y6, y7] ∧ Same H H3 ∧ Prs H3 fa zs ∧ totL zs = stM l W (mcN l W) i j, ?_, ?_⟩
      · wtm_at "gx"
        refine g_wword T hG2 fun wd hwd => ?_
        refine g_inPut hwd ?_
        cases hpt : W.pt with
        | true =>
          wtm_at "gx"
          refine g_wmet hG2 (fun _ _ _ _ => rfl) ?_
          wtm_at "gx"
          refine ⟨p, fa, i, j, l, W, cd, kd, crs, krs, fc, fk, ys, rfl, hG2, hP2, hfa1, hfa2, hi, hj, hjl, hcl, hkl, hE, hpt, hp hpt, by omega, fun zs H3 b3 hP3 htz hzl => ?_⟩
          refine ⟨ys ++ zs, rfl, Same.b0 b3 sH2 nfa, hP3, ?_⟩
          rw [totL_app, hty, htz]
          unfold Ly.stM
          rw [mAdd_assoc]
        | false =>
          wtm_at "gx"
          refine ⟨ys, rfl, sH2, hP2, ?_⟩
          have ho : sm (fun t => m3 (opM l W i) (mcN l W (i + 1) (i + 1 + t)) (mcN l W (i + 1 + t) j)) (j - i) = none := by
            refine (sm_congr (g := fun _ => none) fun k hk => ?_).trans (sm_none _)
            have : opM l W i = none := by unfold opM; rw [hsg]; exact if_neg fun z => by rw [hpt] at z; cases z.2
            rw [this, m3_none]
          have hc2 : sm (fun t => m3 (clM l W (i + t)) (mcN l W i (i + t)) (mcN l W (i + t + 1) j)) (j - i) = none := by
            refine (sm_congr (g := fun _ => none) fun k hk => ?_).trans (sm_none _)
            have : clM l W (i + k) = none := by
              unfold clM
              cases l[i + k]? with
              | none => rfl
              | some d => exact if_neg fun z => by rw [hpt] at z; cases z.2
            rw [this, m3_none]
          unfold Ly.stM
          rw [hty, ho, hc2, mAdd_none, mAdd_none]
      · rintro σ' H3 ⟨zs, rfl, sH3, hP3, htz⟩
        wtm_at "unf"
        wtm_at "gx"
        exact q fa zs H3 nfa sH3 hP3 htz
def mlA (a : MC) (b : Nat) : Nat := match a with
  | none => b
  | some q => if b < q.1 then b else q.1
def mcA (a : MC) (b : Nat) : Nat := match a with
  | none => 0
  | some q => if b < q.1 then 0 else q.2
theorem ml_add (a : MC) (b m : Nat) : mAdd a (some (b, m)) = some (mlA a b, mcA a b + if b = mlA a b then m else 0) := by
  cases a with
  | none =>
    show some (b, m) = some (b, 0 + if b = b then m else 0)
    rw [if_pos rfl, Nat.zero_add]
  | some q =>
    obtain ⟨a, n⟩ := q
    have e1 : mlA (some (a, n)) b = if b < a then b else a := rfl
    have e2 : mcA (some (a, n)) b = if b < a then 0 else n := rfl
    have e3 : mAdd (some (a, n)) (some (b, m)) = if a < b then some (a, n) else if b < a then some (b, m) else some (a, n + m) := rfl
    rw [e1, e2, e3]
    by_cases h1 : a < b
    · have h2 : ¬ b < a := by omega
      have h3 : ¬ b = a := by omega
      simp only [h1, h2, h3, if_true, if_false, Nat.add_zero]
    · by_cases h2 : b < a
      · simp only [h1, h2, if_true, if_false, Nat.zero_add]
      · have h3 : b = a := by omega
        subst h3
        simp only [Nat.lt_irrefl, if_true, if_false]
/-! Ways.reckoned -/
def sp_Ways_reckoned (K : PySem.W.Frag) : Sp := fun vs H Q _ => ∃ (p : Addr) (i j : Nat) (l : List Nat) (W : Wd) (cd kd : Addr) (crs krs : List Addr) (fc fk : Nat → List V), vs = [.ref p, .int i, .int j] ∧ WaysG K H p l W cd kd crs krs fc fk ∧ i < j ∧ j ≤ l.length ∧ l.length ≤ 1000 ∧ crs.length = l.length + 1 ∧ krs.length = l.length + 1 ∧ (∀ a b, i ≤ a → a ≤ b → b ≤ j → b - a < j - i → Ent fc fk a b (mcN l W a b)) ∧ (W.pt = true → ∀ a b, a ≤ b → b ≤ l.length → mcN l W a b ≠ none) ∧ ∀ (t : Addr) (H' : Hp), H t = none → Same H H' → H' t = some (.tup [cV (mcN l W i j), nV (mcN l W i j)]) → Q (.ref t) H'
theorem ok_Ways_reckoned (T : Facts K mg) : C8.Met P w K mg base 4 (He.ga K "Ways") "reckoned" (sp_Ways_reckoned K) [] := by
  refine metD T.m_Ways_reckoned sc_Ways_reckoned (fun vs H Q E h => ?_) (fun f cdv A outer s H vs Q E hr h => ?_)
  · obtain ⟨p, i, j, l, W, cd, kd, crs, krs, fc, fk, rfl, hG, hi, hj, hjl, hcl, hkl, hE, hp, q⟩ := h; rfl
  · obtain ⟨p, i, j, l, W, cd, kd, crs, krs, fc, fk, rfl, hG, hi, hj, hjl, hcl, hkl, hE, hp, q⟩ := h
    refine ⟨_, (pss_cons (ps_set (i := 3) sc_Ways_reckoned.nd rfl (Or.inl rfl) pe_non)
       (pss_cons (ps_set (i := 4) sc_Ways_reckoned.nd rfl (Or.inl rfl) pe_int)
       (pss_cons (ps_for PassesOwn.never rfl (pi_list (pe_met (ok_Ways_numbers T) hr (by omega) (pv 0) (pa_cons (pv 1) (pa_cons (pv 2) pa_nil)))) (pg_tup rfl (pgs_cons (pg_name (i := 5) sc_Ways_reckoned.nd rfl (Or.inl rfl)) (pgs_cons (pg_name (i := 6) sc_Ways_reckoned.nd rfl (Or.inl rfl)) pgs_nil)))
       (C8.pss_cut (ps_ifC (PW.pt (pw_or (pt_cmpR op_isN (pv 3) pe_non (nomark _)) (pw_or1 (pt_cmpR op_lt (pv 5) (pv 3) (nomark _)))))
       (pss_cons (ps_set (i := 3) sc_Ways_reckoned.nd rfl (Or.inl rfl) (pv 5))
       (pss_one (ps_set (i := 4) sc_Ways_reckoned.nd rfl (Or.inl rfl) pe_int)))
       pss_nil)
       (pss_one (ps_if (pt_cmpR op_eq (pv 5) (pv 3) (nomark _))
       (pss_one (ps_aug (i := 4) sc_Ways_reckoned.nd rfl (Or.inl rfl) (pv 6) ip_add))
       pss_nil))))
       (pss_one (ps_ret (pe_tup (pa_cons (pv 3) (pa_cons (pv 4) pa_nil)))))))), ?_⟩
    rw [st_Ways_reckoned]
    wtm_at "unf"
    wtm_at "gx"
    refine g_wmet hG (fun _ _ _ _ => rfl) ?_
    wtm_at "gx"
    refine ⟨p, i, j, l, W, cd, kd, crs, krs, fc, fk, rfl, hG, hi, hj, hjl, hcl, hkl, hE, hp, fun fa xs H1 nfa s1 hP htx => ?_⟩
    rw [← mcN_step hi] at htx
    obtain ⟨rs, hP1, hP2, hP3⟩ := hP
    refine ⟨fa, rfl, ⟨_, sq_of hP1⟩, for_lst (rs.map V.ref) (fun pre σ H2 => ∃ y5 y6, σ = [some (V.ref p), some (V.int i), some (V.int j), some (cV (totL (xs.take pre.length))), some (nV (totL (xs.take pre.length))), y5, y6] ∧ H2 = H1) ⟨_, _, rfl, rfl⟩ (fun pre post σ H2 e hv => ?_) (fun pre x post σ H2 e hv => ?_) (fun σ H2 hv => ?_)⟩
    · obtain ⟨y5, y6, rfl, rfl⟩ := hv
      exact sq_of hP1
    · obtain ⟨y5, y6, rfl, rfl⟩ := hv
      have hlt : pre.length < rs.length := by
        have := congrArg List.length e
        simp at this
        omega
      have hx : (rs.map V.ref)[pre.length]? = some x := mid_at e
      have hr : rs[pre.length]? = some rs[pre.length] := List.getElem?_eq_getElem hlt
      have hxx : xs[pre.length]? = some xs[pre.length] := List.getElem?_eq_getElem (by omega)
      have hx2 : x = V.ref rs[pre.length] := by
        rw [List.getElem?_map, hr] at hx
        exact (Option.some.inj hx).symm
      subst hx2
      have ht := hP3 _ _ _ hr hxx
      have etk : xs.take (pre ++ [V.ref rs[pre.length]]).length = xs.take pre.length ++ [xs[pre.length]] := by
        rw [List.length_append, List.length_singleton]
        exact List.take_succ_eq_append_getElem (by omega)
      rw [etk, totL_snoc]
      generalize xs[pre.length] = bm at ht etk
      generalize rs[pre.length] = r at ht etk
      obtain ⟨b, m⟩ := bm
      generalize totL (xs.take pre.length) = a
      rw [ml_add]
      wtm_at "unf"
      refine ⟨r, _, rfl, st_of ht, rfl, _, _, rfl, _, _, rfl, rfl, ?_⟩
      wtm_at "unf"
      refine ⟨fun σ' H3 => σ' = [some (V.ref p), some (V.int i), some (V.int j), some (V.int (mlA a b)), some (V.int (mcA a b)), some (V.int b), some (V.int m)] ∧ H3 = H2, ?_, ?_⟩
      · cases a with
        | none =>
          refine g_ifC (b := true) (fun Q q => ?_) (fun h => ?_) (fun h => ?_)
          · wtm_at "unf"
            wtm_at "gx"
            exact q
          · wtm_at "unf"
            wtm_at "gx"
            exact ⟨rfl, rfl⟩
          · cases h
        | some q0 =>
          obtain ⟨a, n⟩ := q0
          rw [show cV (some (a, n)) = V.int a from rfl, show nV (some (a, n)) = V.int n from rfl]
          refine g_ifC (b := decide (b < a)) (fun Q q => ?_) (fun h => ?_) (fun h => ?_)
          · wtm_at "unf"
            wtm_at "gx"
            refine ⟨_, rfl, ?_⟩
            rw [show decide ((b : Int) < (a : Int)) = decide (b < a) from decide_eq_decide.mpr (by omega)]
            exact q
          · wtm_at "unf"
            wtm_at "gx"
            have hlt := of_decide_eq_true h
            have e1 : mlA (some (a, n)) b = b := if_pos hlt
            have e2 : mcA (some (a, n)) b = 0 := if_pos hlt
            rw [e1, e2]
            exact ⟨rfl, rfl⟩
          · have hlt := of_decide_eq_false h
            have e1 : mlA (some (a, n)) b = a := if_neg hlt
            have e2 : mcA (some (a, n)) b = n := if_neg hlt
            rw [e1, e2]
            exact ⟨rfl, rfl⟩
      · rintro σ' H3 ⟨rfl, rfl⟩
        wtm_at "gx"
        refine g_test (fun h => ?_) (fun h => ?_)
        · have h' : b = mlA a b := by have := V.int.inj h; omega
          rw [if_pos h']
          refine ⟨_, rfl, ?_⟩
          wtm_at "gx"
          exact ⟨_, _, rfl, rfl⟩
        · have h' : ¬ b = mlA a b := fun e => h (by rw [← e])
          rw [if_neg h', Nat.add_zero]
          exact ⟨_, _, rfl, rfl⟩
    · obtain ⟨y5, y6, rfl, rfl⟩ := hv
      rw [List.length_map, hP2, List.take_length, htx]
      wtm_at "unf"
      wtm_at "gx"
      exact g_tup (by show 2 ≤ 100000; decide) fun t H3 nt s3 et => q t H3 (s1.free nt) (s1.trans s3) et
structure WaysAt (K : PySem.W.Frag) (H : Hp) (p : Addr) (l : List Nat) (W : Wd) (cd kd : Addr) (crs krs : List Addr) : Prop where
  g : WaysG K H p l W cd kd crs krs (fun j => colV cV (mcN l W) j (j + 1)) (fun j => colV nV (mcN l W) j (j + 1))
  cl : crs.length = l.length + 1
  kl : krs.length = l.length + 1
/-- all but three stay -/
def Bt3 (p q r : Addr) (H H' : Hp) : Prop := ∀ x o, x ≠ p → x ≠ q → x ≠ r → H x = some o → H' x = some o
theorem rep_flat (v : V) : ∀ n, (List.replicate n [v]).flatten = (List.range n).map fun _ => v
  | 0 => rfl
  | n + 1 => by
    rw [List.replicate_succ', List.flatten_append, rep_flat v n, List.range_succ, List.map_append]
    rfl
/-- a column being filled from its end: those from k on are told -/
def plV (g : MC → V) (F : Nat → Nat → MC) (e k : Nat) : List V := (List.range (e + 1)).map fun a => if k ≤ a then g (F a e) else g mOne
theorem plV_len (g : MC → V) (F : Nat → Nat → MC) (e k : Nat) : (plV g F e k).length = e + 1 := by unfold plV; rw [List.length_map, List.length_range]
theorem plV_at {g : MC → V} {F : Nat → Nat → MC} {e k a : Nat} (h : a ≤ e) (hk : k ≤ a) : (plV g F e k)[a]? = some (g (F a e)) := by
  unfold plV
  rw [List.getElem?_map, List.getElem?_range (by omega)]
  show some (if k ≤ a then _ else _) = _
  rw [if_pos hk]
theorem plV_set {g : MC → V} {F : Nat → Nat → MC} {e k : Nat} (h : k ≤ e) : (plV g F e (k + 1)).set k (g (F k e)) = plV g F e k := by
  refine List.ext_getElem? fun a => ?_
  by_cases ha : a < e + 1
  · by_cases hk : a = k
    · subst hk
      rw [List.getElem?_set_self (by rw [plV_len]; exact ha), plV_at (by omega) (Nat.le_refl _)]
    · rw [List.getElem?_set_ne (Ne.symm hk)]
      unfold plV
      rw [List.getElem?_map, List.getElem?_map, List.getElem?_range ha]
      show some (if k + 1 ≤ a then _ else _) = some (if k ≤ a then _ else _)
      by_cases h2 : k ≤ a
      · rw [if_pos h2, if_pos (by omega)]
      · rw [if_neg h2, if_neg (by omega)]
  · rw [List.getElem?_eq_none (by rw [List.length_set, plV_len]; omega), List.getElem?_eq_none (by rw [plV_len]; omega)]
theorem plV_start {g : MC → V} {F : Nat → Nat → MC} {e : Nat} (hF : F e e = mOne) : (List.range (e + 1)).map (fun _ => g mOne) = plV g F e e := by
  unfold plV
  refine List.map_congr_left fun a ha => ?_
  have ha' := List.mem_range.mp ha
  by_cases h : e ≤ a
  · rw [if_pos h, show a = e by omega, hF]
  · rw [if_neg h]
theorem plV_zero (g : MC → V) (F : Nat → Nat → MC) (e : Nat) : plV g F e 0 = colV g F e (e + 1) := by
  unfold plV colV
  exact List.map_congr_left fun a _ => by rw [if_pos (Nat.zero_le _)]
theorem ins_notin {H : Hp} {p d C dx : Addr} {fs : List (Str × V)} {rs : List Addr} {f : Nat → List V} (h : H p = some (.ins C dx fs)) (T : Tab H d rs f) : p ≠ d ∧ p ∉ rs := by
  refine ⟨fun e => ?_, fun e => ?_⟩
  · have := T.hd
    rw [← e, h] at this
    cases this
  · obtain ⟨k, hk⟩ := List.getElem?_of_mem e
    have := T.r k p hk
    rw [h] at this
    cases this
theorem snoc_text (l : List Nat) (c : Nat) {W : Wd} {a b : Nat} (h : b ≤ l.length) : mcN (l ++ [c]) W a b = mcN l W a b := mcN_text fun k hk => List.getElem?_append_left (by omega)
/-! Ways.grow -/
def sp_Ways_grow (K : PySem.W.Frag) : Sp := fun vs H Q _ => ∃ (p : Addr) (c : Nat) (l : List Nat) (W : Wd) (cd kd : Addr) (crs krs : List Addr), vs = [.ref p, Tx [c]] ∧ WaysAt K H p l W cd kd crs krs ∧ l.length < 1000 ∧ (W.pt = true → ∀ a b, a ≤ b → b ≤ l.length + 1 → mcN (l ++ [c]) W a b ≠ none) ∧ ∀ (r1 r2 : Addr) (H' : Hp), Bt3 p cd kd H H' → H r1 = none → H r2 = none → WaysAt K H' p (l ++ [c]) W cd kd (crs ++ [r1]) (krs ++ [r2]) → Q .non H'
theorem ok_Ways_grow (T : Facts K mg) : C8.Met P w K mg base 5 (He.ga K "Ways") "grow" (sp_Ways_grow K) [] := by
  refine metD T.m_Ways_grow sc_Ways_grow (fun vs H Q E h => ?_) (fun f cdv A outer s H vs Q E hr h => ?_)
  · obtain ⟨p, c, l, W, cd, kd, crs, krs, rfl, hA, hl, hN, q⟩ := h; rfl
  · obtain ⟨p, c, l, W, cd, kd, crs, krs, rfl, hA, hl, hN, q⟩ := h
    refine ⟨_, (pss_cons (ps_fld (pv 0) (pe_op op_addT (pe_fld (pv 0) rfl) (pv 1)) rfl)
       (pss_cons (ps_set (i := 2) sc_Ways_grow.nd rfl (Or.inl rfl) (pe_callB call_lenT rfl T.b_len PySem.boot_len (pa_cons (pe_fld (pv 0) rfl) pa_nil)))
       (pss_cons (ps_expr (pe_bm PySem.F.plainAttrs_list PySem.F.slot_list_append PySem.F.type_list_append mt_append (pe_fld (pv 0) rfl) (pa_cons (pe_op op_rep (pe_lst (pa_cons pe_int pa_nil)) (pe_op op_add (pv 2) pe_int)) pa_nil)))
       (pss_cons (ps_expr (pe_bm PySem.F.plainAttrs_list PySem.F.slot_list_append PySem.F.type_list_append mt_append (pe_fld (pv 0) rfl) (pa_cons (pe_op op_rep (pe_lst (pa_cons pe_int pa_nil)) (pe_op op_add (pv 2) pe_int)) pa_nil)))
       (pss_one (ps_for PassesOwn.never rfl (pi_range3 rfl T.b_range (pa_cons (pe_op op_sub (pv 2) pe_int) (pa_cons (pe_un un_neg pe_int) (pa_cons (pe_un un_neg pe_int) pa_nil)))) (pg_name (i := 3) sc_Ways_grow.nd rfl (Or.inl rfl))
       (pss_cons (ps_set (i := 4) sc_Ways_grow.nd rfl (Or.inl rfl) (pe_met (ok_Ways_reckoned T) hr (by omega) (pv 0) (pa_cons (pv 3) (pa_cons (pv 2) pa_nil))))
       (pss_one (ps_asg (pv 4) (pg_tup rfl (pgs_cons (pg_sub (pe_ix ix_list (pe_fld (pv 0) rfl) (pv 2) (fun _ _ => rfl)) (pv 3) set_list) (pgs_cons (pg_sub (pe_ix ix_list (pe_fld (pv 0) rfl) (pv 2) (fun _ _ => rfl)) (pv 3) set_list) pgs_nil)))))))))))), ?_⟩
    rw [st_Ways_grow]
    have hG := hA.g
    have hcl := hA.cl
    have hkl := hA.kl
    obtain ⟨dx, wd, hob, hwd⟩ := hG.ob
    obtain ⟨np1, np2⟩ := ins_notin hob hG.c
    obtain ⟨np3, np4⟩ := ins_notin hob hG.k
    wtm_at "unf"
    wtm_at "gx"
    refine g_wsig T hG ?_
    wtm_at "gx"
    refine g_sfld hob T.cl_Ways T.n_Ways_signs (by show 4 < 1000; decide) fun H1 b1 e1 => ?_
    rw [wfl_put] at e1
    have G1 : WaysG K H1 p (l ++ [c]) W cd kd crs krs (fun j => colV cV (mcN l W) j (j + 1)) (fun j => colV nV (mcN l W) j (j + 1)) := ⟨⟨dx, wd, e1, hwd.butI b1 hob⟩, hG.c.but b1 np1 np2, hG.k.but b1 np3 np4, hG.sep⟩
    wtm_at "unf"
    wtm_at "gx"
    refine g_wsig T G1 ?_
    wtm_at "gx"
    refine g_wcost T G1 ?_
    refine g_tyL3 G1.c.hd ?_
    wtm_at "gx"
    refine g_lst (by show 1 ≤ 100000; decide) fun la H2 nla s2 ela => ?_
    wtm_at "gx"
    have hE : (l ++ [c]).length = l.length + 1 := by simp
    generalize hEE : l.length + 1 = E at hE hcl hkl
    rw [hE, show ((E : Nat) : Int) + 1 = ((E + 1 : Nat) : Int) by omega]
    refine g_rep ela (by show 1 * _ ≤ _; omega) (by omega) fun r1 H3 nr1 s3 er1 => ?_
    rw [rep_flat] at er1
    have G3 := G1.same (s2.trans s3)
    refine g_append1 G3.c.hd (by rw [List.length_map]; omega) fun H4 b4 e4 => ?_
    have fr1 := (G1.same s2).fresh nr1
    have nr10 : H r1 = none := But.fr (s2.free nr1) b1 (fun e => by rw [e] at nr1; rw [(s2 _ _ e1)] at nr1; cases nr1)
    have er14 := b4 _ _ (fun e => fr1.1 (by rw [e]; exact List.mem_cons_self ..)) er1
    have hcdk : cd ∉ kd :: krs := hG.sep cd (List.mem_cons_self ..)
    rw [List.mem_cons, not_or] at hcdk
    have k4 : Tab H4 kd krs (fun j => colV nV (mcN l W) j (j + 1)) := G3.k.but b4 hcdk.1 hcdk.2
    have c4 : Tab H4 cd (crs ++ [r1]) (fun i => if i = crs.length then (List.range (E + 1)).map (fun _ => V.int 0) else colV cV (mcN l W) i (i + 1)) :=
      Tab.snoc G3.c er14 (by rw [e4, List.map_append]; rfl) (fun h => fr1.1 (List.mem_cons_of_mem _ h)) (fun e => fr1.1 (by rw [e]; exact List.mem_cons_self ..)) (fun q hq o ho => b4 _ _ (fun e => G3.c.nin (by rw [← e]; exact hq)) ho)
    obtain ⟨dx3, wd3, hob3, hwd3⟩ := G3.ob
    have hob4 := b4 _ _ (ins_notin hob3 G3.c).1 hob3
    have hwd4 := hwd3.but b4 G3.c.hd
    wtm_at "gx"
    refine g_fld hob4 T.cl_Ways T.n_Ways_counts (wfl_counts ..) ?_
    refine g_tyL3 k4.hd ?_
    refine g_lst (by show 1 ≤ 100000; decide) fun lb H5 nlb s5 elb => ?_
    wtm_at "gx"
    rw [show ((E : Nat) : Int) + 1 = ((E + 1 : Nat) : Int) by omega]
    refine g_rep elb (by show 1 * _ ≤ _; omega) (by omega) fun r2 H6 nr2 s6 er2 => ?_
    rw [rep_flat] at er2
    have k6 := k4.same (s5.trans s6)
    have c6 := c4.same (s5.trans s6)
    refine g_append1 k6.hd (by rw [List.length_map]; omega) fun H7 b7 e7 => ?_
    have fr2k := (k4.same s5).fresh nr2
    have fr2c := (c4.same s5).fresh nr2
    have er27 := b7 _ _ fr2k.1 er2
    have hne1 : ∀ x ∈ cd :: (crs ++ [r1]), x ≠ kd ∧ x ∉ krs := by
      intro x hx
      rw [List.mem_cons, List.mem_append, List.mem_singleton] at hx
      rcases hx with rfl | hx | rfl
      · exact hcdk
      · have := hG.sep x (List.mem_cons_of_mem _ hx)
        rw [List.mem_cons, not_or] at this
        exact this
      · have := fr1.2
        rw [List.mem_cons, not_or] at this
        exact this
    have c7 : Tab H7 cd (crs ++ [r1]) _ := c6.but b7 (Ne.symm (hne1 cd (List.mem_cons_self ..)).1) (fun h => (hne1 kd (List.mem_cons_of_mem _ h)).1 rfl)
    have k7 : Tab H7 kd (krs ++ [r2]) (fun i => if i = krs.length then (List.range (E + 1)).map (fun _ => V.int 1) else colV nV (mcN l W) i (i + 1)) :=
      Tab.snoc k6 er27 (by rw [e7, List.map_append]; rfl) fr2k.2 (Ne.symm fr2k.1) (fun q hq o ho => b7 _ _ (fun e => k6.nin (by rw [← e]; exact hq)) ho)
    have hob6 := s6 _ _ (s5 _ _ hob4)
    have hob7 := b7 _ _ (ins_notin hob6 k6).1 hob6
    have hwd7 := ((hwd4.same s5).same s6).but b7 k6.hd
    have nr20 : H r2 = none := by
      have h4 : H4 r2 = none := s5.free nr2
      have h3 : H3 r2 = none := But.fr h4 b4 fr2c.1
      have h1 : H1 r2 = none := s2.free (s3.free h3)
      exact But.fr h1 b1 fun e => by rw [e, e1] at h1; cases h1
    have hsep7 : ∀ x ∈ cd :: (crs ++ [r1]), x ∉ kd :: (krs ++ [r2]) := by
      intro x hx hy
      rw [List.mem_cons, List.mem_append, List.mem_singleton] at hy
      rcases hy with hy | hy | hy
      · exact (hne1 x hx).1 hy
      · exact (hne1 x hx).2 hy
      · subst hy
        rcases List.mem_cons.mp hx with hx | hx
        · exact fr2c.1 hx
        · exact fr2c.2 hx
    have hF : ∀ j, j ≤ l.length → ∀ g : MC → V, colV g (mcN l W) j (j + 1) = colV g (mcN (l ++ [c]) W) j (j + 1) := fun j hj g => colV_congr fun i hi => (snoc_text l c hj).symm
    have bt7 : Bt3 p cd kd H H7 := fun x o h1 h2 h3 hx => b7 _ _ h3 (s6 _ _ (s5 _ _ (b4 _ _ h2 (s3 _ _ (s2 _ _ (b1 _ _ h1 hx))))))
    have G7 : WaysG K H7 p (l ++ [c]) W cd kd (crs ++ [r1]) (krs ++ [r2]) (fun j => if j = E then plV cV (mcN (l ++ [c]) W) E E else colV cV (mcN (l ++ [c]) W) j (j + 1)) (fun j => if j = E then plV nV (mcN (l ++ [c]) W) E E else colV nV (mcN (l ++ [c]) W) j (j + 1)) := by
      refine ⟨⟨dx3, wd3, hob7, hwd7⟩, c7.congr fun j hj => ?_, k7.congr fun j hj => ?_, hsep7⟩
      · rw [List.length_append, List.length_singleton] at hj
        by_cases e : j = E
        · rw [if_pos (by omega), if_pos e]
          exact plV_start (g := cV) (mcN_self _ _ _)
        · rw [if_neg (by omega), if_neg e]
          exact hF j (by omega) cV
      · rw [List.length_append, List.length_singleton] at hj
        by_cases e : j = E
        · rw [if_pos (by omega), if_pos e]
          exact plV_start (g := nV) (mcN_self _ _ _)
        · rw [if_neg (by omega), if_neg e]
          exact hF j (by omega) nV
    wtm_at "gx"
    refine ⟨_, _, _, E, rfl, rgc_dn (by omega), for_dn (fun k σ H' => ∃ y3 y4, σ = [some (V.ref p), some (Tx [c]), some (V.int E), y3, y4] ∧ Bt3 p cd kd H H' ∧ WaysG K H' p (l ++ [c]) W cd kd (crs ++ [r1]) (krs ++ [r2]) (fun j => if j = E then plV cV (mcN (l ++ [c]) W) E k else colV cV (mcN (l ++ [c]) W) j (j + 1)) (fun j => if j = E then plV nV (mcN (l ++ [c]) W) E k else colV nV (mcN (l ++ [c]) W) j (j + 1))) ⟨_, _, rfl, bt7, G7⟩ (fun k σ H' hk hv => ?_) (fun σ H' hv => ?_)⟩
    · obtain ⟨y3, y4, rfl, bt, G⟩ := hv
      wtm_at "unf"
      wtm_at "gx"
      refine g_wmet G (fun _ _ _ _ => rfl) ?_
      wtm_at "gx"
      refine ⟨p, k, E, l ++ [c], W, cd, kd, _, _, _, _, rfl, G, hk, by omega, by omega, by simp; omega, by simp; omega, fun a b h1 h2 h3 h4 => ?_, fun hpt a b h1 h2 => hN hpt a b h1 (by omega), fun t H8 nt s8 et => ?_⟩
      · by_cases e : b = E
        · subst e
          refine ⟨?_, ?_⟩
          · show (if b = b then _ else _)[a]? = _
            rw [if_pos rfl]
            exact plV_at (by omega) (by omega)
          · show (if b = b then _ else _)[a]? = _
            rw [if_pos rfl]
            exact plV_at (by omega) (by omega)
        · refine ⟨?_, ?_⟩
          · show (if b = E then _ else _)[a]? = _
            rw [if_neg e]
            exact colV_at (by omega)
          · show (if b = E then _ else _)[a]? = _
            rw [if_neg e]
            exact colV_at (by omega)
      have G8 := G.same s8
      wtm_at "gx"
      refine ⟨t, _, rfl, st_of et, rfl, _, _, rfl, ?_⟩
      obtain ⟨ra, ha1, ha2, ha3⟩ := G8.c.row (k := E) (by rw [List.length_append, List.length_singleton]; omega)
      obtain ⟨rb, hb1, hb2, hb3⟩ := G8.k.row (k := E) (by rw [List.length_append, List.length_singleton]; omega)
      have era : ra = r1 := by
        rw [List.getElem?_append_right (by omega), hcl, Nat.sub_self] at ha1
        exact (Option.some.inj ha1).symm
      have erb : rb = r2 := by
        rw [List.getElem?_append_right (by omega), hkl, Nat.sub_self] at hb1
        exact (Option.some.inj hb1).symm
      subst era erb
      rw [if_pos rfl] at ha3 hb3
      wtm_at "gx"
      refine g_wcost T G8 ?_
      wtm_at "gx"
      refine g_ixLn E (sq_of G8.c.hd) rfl ha2 ?_
      wtm_at "gx"
      refine g_setLn k ha3 rfl (by rw [plV_len]; omega) fun H9 b9 e9 => ?_
      rw [plV_set (by omega)] at e9
      obtain ⟨dx8, wd8, hob8, hwd8⟩ := G8.ob
      have hsepa := G8.sep ra (List.mem_cons_of_mem _ (List.mem_of_getElem? ha1))
      rw [List.mem_cons, not_or] at hsepa
      have c9 := G8.c.set ha1 b9 e9
      have k9 := G8.k.but b9 hsepa.1 hsepa.2
      have hpa : p ≠ ra := fun e => by rw [← e, hob8] at ha3; cases ha3
      have hob9 := b9 _ _ hpa hob8
      have hwd9 := hwd8.but b9 ha3
      refine ⟨_, _, rfl, ?_⟩
      wtm_at "gx"
      refine g_fld hob9 T.cl_Ways T.n_Ways_counts (wfl_counts ..) ?_
      wtm_at "gx"
      refine g_ixLn E (sq_of k9.hd) rfl hb2 ?_
      wtm_at "gx"
      have hrab : rb ≠ ra := fun e => hsepa.2 (by rw [← e]; exact List.mem_of_getElem? hb1)
      have hb9 := b9 _ _ hrab hb3
      refine g_setLn k hb9 rfl (by rw [plV_len]; omega) fun H10 b10 e10 => ?_
      rw [plV_set (by omega)] at e10
      have hsepb : ∀ x ∈ cd :: (crs ++ [ra]), x ≠ rb := fun x hx e => G8.sep x hx (by rw [e]; exact List.mem_cons_of_mem _ (List.mem_of_getElem? hb1))
      have c10 := c9.but b10 (fun e => hsepb cd (List.mem_cons_self ..) e.symm) (fun h => hsepb rb (List.mem_cons_of_mem _ h) rfl)
      have k10 := k9.set hb1 b10 e10
      have hpb : p ≠ rb := fun e => by rw [← e, hob8] at hb3; cases hb3
      refine ⟨rfl, _, _, rfl, fun x o h1 h2 h3 hx => ?_, ⟨dx8, wd8, b10 _ _ hpb hob9, hwd9.but b10 hb9⟩, c10.congr fun j hj => ?_, k10.congr fun j hj => ?_, G8.sep⟩
      · exact b10 _ _ (fun e => by rw [e, nr20] at hx; cases hx) (b9 _ _ (fun e => by rw [e, nr10] at hx; cases hx) (s8 _ _ (bt x o h1 h2 h3 hx)))
      · by_cases e : j = E
        · rw [if_pos e, if_pos e]
        · rw [if_neg e, if_neg e, if_neg e]
      · by_cases e : j = E
        · rw [if_pos e, if_pos e]
        · rw [if_neg e, if_neg e, if_neg e]
    · obtain ⟨y3, y4, rfl, bt, G⟩ := hv
      refine q r1 r2 H' bt nr10 nr20 ⟨?_, by simp; omega, by simp; omega⟩
      obtain ⟨ob, c, k, sep⟩ := G
      refine ⟨ob, c.congr fun j hj => ?_, k.congr fun j hj => ?_, sep⟩
      · by_cases e : j = E
        · rw [if_pos e, plV_zero, e]
        · rw [if_neg e]
      · by_cases e : j = E
        · rw [if_pos e, plV_zero, e]
        · rw [if_neg e]
/-! Ways.__init__ -/
def sp_Ways_init (K : PySem.W.Frag) : Sp := fun vs H Q _ => ∃ (p dx : Addr) (l : List Nat) (wd : V) (W : Wd), vs = [.ref p, Tx l, wd] ∧ H p = some (.ins (He.ga K "Ways") dx []) ∧ WdIs K H wd W ∧ l.length ≤ 1000 ∧ (∀ l' : List Nat, W.pt = true → ∀ a b, a ≤ b → b ≤ l'.length → mcN l' W a b ≠ none) ∧ ∀ (cd kd : Addr) (crs krs : List Addr) (H' : Hp), But p H H' → H cd = none → H kd = none → WaysAt K H' p l W cd kd crs krs → Q .non H'
theorem ok_Ways_init (T : Facts K mg) : C8.Mak P w K mg base 6 "Ways" (He.ga K "Ways") (sp_Ways_init K) [] := by
  refine makD T.k_Ways_init sc_Ways_init (fun vs H Q E h => ?_) (fun f cdv A outer s H vs Q E hr h => ?_)
  · obtain ⟨p, dx, l, wd, W, rfl, hp, hw, hl, hN, q⟩ := h; rfl
  · obtain ⟨p, dx, l, wd, W, rfl, hp, hw, hl, hN, q⟩ := h
    refine ⟨_, (pss_cons (ps_fld (pv 0) (pe_strS (l := []) (by decide +kernel)) rfl)
       (pss_cons (ps_fld (pv 0) (pv 2) rfl)
       (pss_cons (ps_fld (pv 0) (pe_lst (pa_cons (pe_lst (pa_cons pe_int pa_nil)) pa_nil)) rfl)
       (pss_cons (ps_fld (pv 0) (pe_lst (pa_cons (pe_lst (pa_cons pe_int pa_nil)) pa_nil)) rfl)
       (pss_one (ps_for PassesOwn.never rfl (pi_str (pv 1)) (pg_name (i := 3) sc_Ways_init.nd rfl (Or.inl rfl))
       (pss_one (ps_expr (pe_met (ok_Ways_grow T) hr (by omega) (pv 0) (pa_cons (pv 3) pa_nil)))))))))), ?_⟩
    rw [st_Ways_init]
    wtm_at "unf"
    wtm_at "gx"
    refine g_sfld hp T.cl_Ways T.n_Ways_signs (by decide) fun H1 b1 e1 => ?_
    wtm_at "unf"
    wtm_at "gx"
    refine g_sfld e1 T.cl_Ways T.n_Ways_words (by decide) fun H2 b2 e2 => ?_
    wtm_at "unf"
    wtm_at "gx"
    refine g_lst (by show 1 ≤ 100000; decide) fun r1 H3 nr1 s3 er1 => ?_
    refine g_lst (by show 1 ≤ 100000; decide) fun cd H4 ncd s4 ecd => ?_
    wtm_at "gx"
    refine g_sfld (s4 _ _ (s3 _ _ e2)) T.cl_Ways T.n_Ways_costs (by show 2 < 1000; decide) fun H5 b5 e5 => ?_
    wtm_at "unf"
    wtm_at "gx"
    refine g_lst (by show 1 ≤ 100000; decide) fun r2 H6 nr2 s6 er2 => ?_
    refine g_lst (by show 1 ≤ 100000; decide) fun kd H7 nkd s7 ekd => ?_
    wtm_at "gx"
    refine g_sfld (s7 _ _ (s6 _ _ e5)) T.cl_Ways T.n_Ways_counts (by show 3 < 1000; decide) fun H8 b8 e8 => ?_
    have e8' : H8 p = some (.ins (He.ga K "Ways") dx (wfl [] wd cd kd)) := e8
    have hnp : ∀ {x : Addr} {G : Hp}, G x = none → ∀ o, G p = some o → x ≠ p := fun h o h' e => by rw [e, h'] at h; cases h
    have p1 : r1 ≠ p := hnp nr1 _ e2
    have p2 : cd ≠ p := hnp ncd _ (s3 _ _ e2)
    have p3 : r2 ≠ p := hnp nr2 _ e5
    have p4 : kd ≠ p := hnp nkd _ (s6 _ _ e5)
    have d1 : r1 ≠ cd := ne_new ncd er1
    have er1' : H5 r1 = some (.lst [V.int 0]) := b5 _ _ p1 (s4 _ _ er1)
    have ecd' : H5 cd = some (.lst [V.ref r1]) := b5 _ _ p2 ecd
    have d2 : r1 ≠ r2 := ne_new nr2 er1'
    have d3 : cd ≠ r2 := ne_new nr2 ecd'
    have d4 : r1 ≠ kd := ne_new nkd (s6 _ _ er1')
    have d5 : cd ≠ kd := ne_new nkd (s6 _ _ ecd')
    have d6 : r2 ≠ kd := ne_new nkd er2
    have b2' : But p H H2 := But.tr b2 b1
    have b5' : But p H H5 := But.tr b5 (But.sa s4 (But.sa s3 b2'))
    have b8' : But p H H8 := But.tr b8 (But.sa s7 (But.sa s6 b5'))
    have ncd0 : H cd = none := But.fr (s3.free ncd) b2' p2
    have nkd0 : H kd = none := But.fr (s6.free nkd) b5' p4
    have hwd8 : WdIs K H8 wd W := ((((((hw.butI b1 hp).butI b2 e1).same s3).same s4).butI b5 (s4 _ _ (s3 _ _ e2))).same (s6.trans s7)).butI b8 (s7 _ _ (s6 _ _ e5))
    have A0 : WaysAt K H8 p [] W cd kd [r1] [r2] := by
      refine ⟨⟨⟨dx, wd, e8', hwd8⟩, ⟨b8 _ _ p2 (s7 _ _ (s6 _ _ ecd')), fun k r h => ?_, by simp, by simpa using Ne.symm d1⟩, ⟨b8 _ _ p4 ekd, fun k r h => ?_, by simp, by simpa using Ne.symm d6⟩, fun x hx hy => ?_⟩, rfl, rfl⟩
      · cases k with
        | zero =>
          have : r1 = r := Option.some.inj h
          subst this
          rw [b8 _ _ p1 (s7 _ _ (s6 _ _ er1'))]
          rfl
        | succ k => simp at h
      · cases k with
        | zero =>
          have : r2 = r := Option.some.inj h
          subst this
          rw [b8 _ _ p3 (s7 _ _ er2)]
          rfl
        | succ k => simp at h
      · simp only [List.mem_cons, List.not_mem_nil, or_false] at hx hy
        rcases hx with rfl | rfl <;> rcases hy with h | h
        · exact d5 h
        · exact d3 h
        · exact d4 h
        · exact d2 h
    wtm_at "unf"
    wtm_at "gx"
    refine ⟨_, rfl, for_txt (fun pre σ H' => ∃ (crs krs : List Addr) (y : Option V), σ = [some (V.ref p), some (Tx l), some wd, y] ∧ But p H H' ∧ WaysAt K H' p pre W cd kd crs krs) ⟨[r1], [r2], _, rfl, b8', A0⟩ (fun pre c post σ H' e hv => ?_) (fun σ H' hv => ?_)⟩
    · obtain ⟨crs, krs, y, rfl, bH, hA⟩ := hv
      have hpl : pre.length < 1000 := by rw [e] at hl; simp at hl; omega
      wtm_at "unf"
      wtm_at "gx"
      refine g_wmet hA.g (fun _ _ _ _ => rfl) ?_
      wtm_at "gx"
      refine ⟨p, c, pre, W, cd, kd, crs, krs, rfl, hA, hpl, fun hpt a b h1 h2 => hN (pre ++ [c]) hpt a b h1 (by simpa using h2), fun s1 s2 H9 bt n1 n2 hA9 => ?_⟩
      exact ⟨_, _, _, rfl, fun x o hx ho => bt x o hx (fun e => by rw [e, ncd0] at ho; cases ho) (fun e => by rw [e, nkd0] at ho; cases ho) (bH x o hx ho), hA9⟩
    · obtain ⟨crs, krs, y, rfl, bH, hA⟩ := hv
      wtm_at "unf"
      exact q cd kd crs krs H' bH ncd0 nkd0 hA
end
end K33

set_option maxHeartbeats 4000000
namespace K33
open PySem PySem.Spec PyProof.Rows L2 SX Ly
local macro_rules | `(tactic| wtm_at "unf") => `(tactic| (try simp only [tMetX, tOwnX, tChain, tSeq, tNext, tBreak, tCont, tDrop, tRet, tRetN, tIfS, tAsg, tAug, tC, tOp, tUn, tNil, tCons, tOwn, tCB, tTest, tB, tAnd, tOr, tNot, tAndV, tOrV, tNotV, tIf, gName, gSub, tBM, tBM0, tM0, tM1, tSl, tPart_eq, tNoPart, tLst_eq, tTup_eq, tRevL_eq, tReplT, tRevS, tDGet_eq, sDPut_eq, tDNewT_eq, tMet, tMak, tFld_eq, sFld_eq, C8.tCut, wipe, tYes, gTup, gCons, gNil, List.set_cons_zero, List.set_cons_succ, if_true, if_false, Bool.false_eq_true, Bool.not_true, Bool.not_false, true_and, reduceIte, cx_K, tFor_eq, tLc_eq, iStr, iList, iTup, iRng1, iRng2, iRng3, iEnum, iZip, tLstRg, tRg1, gLst, RZ.iZipA, iEnumS, iZipS, tDNewK_eq, tDGet2, tDIn, tDNotIn, iKd]))
local macro_rules | `(tactic| wtm_at "unfA") => `(tactic| (try simp only [tMetX, tOwnX, tChain, tSeq, tNext, tBreak, tCont, tDrop, tRet, tRetN, tIfS, tAsg, tAug, tC, tOp, tUn, tNil, tCons, tOwn, tCB, tTest, tB, tAnd, tOr, tNot, tIf, gName, gSub, tBM, tBM0, tM0, tM1, tSl, tPart_eq, tNoPart, tLst_eq, tTup_eq, tRevL_eq, tReplT, tRevS, tDGet_eq, sDPut_eq, tDNewT_eq, tMet, tMak, tFld_eq, sFld_eq, C8.tCut, wipe, tYes, gTup, gCons, gNil, List.set_cons_zero, List.set_cons_succ, if_true, if_false, Bool.false_eq_true, Bool.not_true, Bool.not_false, true_and, reduceIte, cx_K, tFor_eq, tLc_eq, iStr, iList, iTup, iRng1, iRng2, iRng3, iEnum, iZip, tLstRg, tRg1, gLst, RZ.iZipA, iEnumS, iZipS, tDNewK_eq, tDGet2, tDIn, tDNotIn, iKd]))
local macro_rules | `(tactic| wtm_at "ne") => `(tactic| first | assumption | (apply Ne.symm; assumption) | (apply ne_new; (· assumption); (· wtm_at "lk")) | (apply Ne.symm; apply ne_new; (· assumption); (· wtm_at "lk")))
local macro_rules | `(tactic| wtm_at "lk") => `(tactic| first | assumption | exact upd_same | (apply Same.get; (· assumption); (· wtm_at "lk")) | (apply But.get; (· assumption); (· wtm_at "ne"); (· wtm_at "lk")))
local macro_rules | `(tactic| wtm_at "sq") => `(tactic| first | assumption | (apply sq_of; wtm_at "lk") | (apply Same.seq; (· assumption); (· wtm_at "sq")) | (apply But.sq; (· assumption); (· wtm_at "ne"); (· wtm_at "sq")))
local macro_rules | `(tactic| wtm_at "fr") => `(tactic| first | assumption | (apply Same.fr; (· assumption); (· wtm_at "sm")) | (apply But.fr; (· assumption); (· wtm_at "sm"); (· wtm_at "ne")))
local macro_rules | `(tactic| wtm_at "sm") => `(tactic| first | exact Same.refl _ | exact But.refl | assumption | (apply Same.tr; (· assumption); (· wtm_at "sm")) | (apply Same.b0; (· assumption); (· wtm_at "sm"); (· wtm_at "fr")) | (apply But.sa; (· assumption); (· wtm_at "sm")) | (apply But.tr; (· assumption); (· wtm_at "sm")) | (apply But.b0; (· assumption); (· wtm_at "sm"); (· wtm_at "fr")) | (apply Same.toBut; wtm_at "sm"))
local macro_rules | `(tactic| wtm_at "sc") => `(tactic| first | exact Int.zero_lt_one | (show (0 : Int) < _; omega) | (show (0 : Int) < _; decide) | exact ⟨by omega, by omega⟩ | exact .inl ⟨by omega, by omega⟩ | exact .inr ⟨by omega, by omega⟩)
local macro_rules | `(tactic| wtm_at "go1") => `(tactic| first | ((with_reducible apply g_var); (· exact rfl)) | with_reducible apply g_I0 | ((with_reducible apply g_I); (· wtm_at "sc")) | with_reducible apply g_U | with_reducible apply g_ipI | ((with_reducible apply g_addT); (· first | omega | (simp; done) | (simp; omega))) | with_reducible apply g_inT | with_reducible apply g_ninT | ((with_reducible apply g_lenT); (· omega)) | with_reducible apply g_findT1 | with_reducible apply g_str | with_reducible apply g_part | with_reducible apply g_intB | ((with_reducible apply g_ixL); (· wtm_at "sq"); (· exact rfl)) | ((with_reducible apply g_setL); (· wtm_at "lk"); (· exact rfl)) | ((with_reducible apply g_eq); (· rfl)) | ((with_reducible apply g_ne); (· rfl)))
local macro_rules | `(tactic| wtm_at "go") => `(tactic| repeat wtm_at "go1")
local macro_rules | `(tactic| wtm_at "lp") => `(tactic| skip)
local macro_rules | `(tactic| wtm_at "om") => `(tactic| first | omega | (simp; done) | (simp; omega) | (simp at *; omega))
local macro_rules | `(tactic| wtm_at "ty") => `(tactic| first | exact ty_str | exact ty_int | exact ty_bl | exact ty_non | (apply ty_lst; wtm_at "lk") | (apply ty_tup; wtm_at "lk"))
local macro_rules | `(tactic| wtm_at "kb") => `(tactic| first | exact kb_str_str | exact kb_str_int | exact kb_str_bool | exact kb_str_list | exact kb_str_tuple | exact kb_int_str | exact kb_int_int | exact kb_int_bool | exact kb_int_list | exact kb_int_tuple | exact kb_bool_str | exact kb_bool_int | exact kb_bool_bool | exact kb_bool_list | exact kb_bool_tuple | exact kb_list_str | exact kb_list_int | exact kb_list_bool | exact kb_list_list | exact kb_list_tuple | exact kb_tuple_str | exact kb_tuple_int | exact kb_tuple_bool | exact kb_tuple_list | exact kb_tuple_tuple | exact kb_NoneType_str | exact kb_NoneType_int | exact kb_NoneType_bool | exact kb_NoneType_list | exact kb_NoneType_tuple | exact kb_dict_str | exact kb_dict_int | exact kb_dict_bool | exact kb_dict_list | exact kb_dict_tuple)
local macro_rules | `(tactic| wtm_at "gx1") => `(tactic| first | ((with_reducible apply g_eqS); (· exact rfl)) | ((with_reducible apply g_neS); (· exact rfl)) | wtm_at "go1" | with_reducible apply g_min2 | with_reducible apply g_max2 | with_reducible apply g_T | with_reducible apply g_F | with_reducible apply g_NT | with_reducible apply g_NF | with_reducible apply g_nT | with_reducible apply g_nF | with_reducible apply g_RT | with_reducible apply g_RF | ((with_reducible apply g_isi); (· wtm_at "ty"); (· wtm_at "kb")) | ((with_reducible apply g_ixAU3); (· wtm_at "lk"); (· exact rfl)) | ((with_reducible apply g_ixAL3); (· wtm_at "lk"); (· exact rfl)) | ((with_reducible apply g_ixU3); (· wtm_at "lk"); (· exact rfl)) | ((with_reducible apply g_lenL3); (· wtm_at "lk")) | ((with_reducible apply g_lenU3); (· wtm_at "lk")) | ((with_reducible apply g_tyL3); (· wtm_at "lk")) | ((with_reducible apply g_lenT); (· wtm_at "pv")) | wtm_at "tr" | with_reducible apply g_ET | with_reducible apply g_EF | with_reducible apply g_EnT | with_reducible apply g_EnF)
local macro_rules | `(tactic| wtm_at "pv") => `(tactic| first | exact rfl | assumption | omega | (simp; done) | (simp; omega))
local macro_rules | `(tactic| wtm_at "tr") => `(tactic| first | ((with_reducible apply g_Td); (· wtm_at "pv")) | ((with_reducible apply g_Fd); (· wtm_at "pv")) | ((with_reducible apply g_NTd); (· wtm_at "pv")) | ((with_reducible apply g_NFd); (· wtm_at "pv")) | ((with_reducible apply g_nTd); (· wtm_at "pv")) | ((with_reducible apply g_nFd); (· wtm_at "pv")) | ((with_reducible apply g_RTd); (· wtm_at "pv")) | ((with_reducible apply g_RFd); (· wtm_at "pv")))
local macro_rules | `(tactic| wtm_at "gx") => `(tactic| repeat wtm_at "gx1")
local macro_rules | `(tactic| wtm_at "unfS") => `(tactic| (try simp only [tSeq, tNext, tAsg, tFor_eq, C8.tCut, wipe, gName, tDrop, List.set_cons_zero, List.set_cons_succ, cx_K]))
local macro_rules | `(tactic| wtm_at "rd1") => `(tactic| first | exact rd_int | exact rd_str | exact rd_bl | exact rd_non | exact rda_nil | apply rda_cons | (with_reducible apply rd_tup; (· assumption)) | (with_reducible apply rd_lst; (· assumption)) | exact rd_dic (by assumption) | exact rd_var rfl (.int _) | exact rd_var rfl (.str _) | exact rd_var rfl (.bl _) | exact rd_var rfl (by assumption) | (with_reducible apply rd_cat; (· assumption)) | (with_reducible apply rd_rep2; (· assumption)) | (with_reducible apply rd_rev; (· assumption)) | (with_reducible apply rd_to; (· assumption)) | (with_reducible apply rd_from; (· assumption)) | (with_reducible apply rd_tupOf; (· assumption)) | (with_reducible apply rd_lstOf; (· assumption)) | with_reducible apply rd_lenL | with_reducible apply rd_lenT | with_reducible apply rd_I0 | with_reducible apply rd_I | with_reducible apply rd_U | with_reducible apply rd_eqI | with_reducible apply rd_ixL | with_reducible apply rd_ixT | exact atI_hd _ _ | exact ‹atI _ _ = some _›)
local macro_rules | `(tactic| wtm_at "rdl") => `(tactic| first | decide | omega | wtm_at "sc" | (simp only [List.length_append, List.length_cons, List.length_nil, List.length_map, List.length_take, List.length_drop, List.length_reverse, cutTo]; omega))
local macro_rules | `(tactic| wtm_at "rd") => `(tactic| ((repeat' wtm_at "rd1"); (all_goals wtm_at "rdl")))
local macro_rules | `(tactic| wtm_at "nc") => `(tactic| repeat' (first | assumption | exact nca_nil | exact nc_non | exact nc_bl | exact nc_dic | exact nc_tup0 | exact nc_lst0 | (refine nc_strS (by decide) (by decide)) | (refine nc_int (by omega)) | (refine nc_big (by decide +kernel)) | refine nca_app ?_ ?_ | refine nca_cons ?_ ?_ | refine nca_take ?_ | refine nca_drop ?_ | refine nca_cutTo ?_ | refine nca_rev ?_ | refine nc_tup (by decide) ?_ | refine nc_lst (by decide) ?_ | refine nc_lst (Nat.le_trans (show _ ≤ 45 by wtm_at "rdl") (by decide)) ?_ | refine nc_tup (Nat.le_trans (show _ ≤ 45 by wtm_at "rdl") (by decide)) ?_))

section
variable {P : Program} {w : World} {K : PySem.W.Frag} {mg : Str → Option Value} {base : Heap}
/-! Ways.cost -/
def sp_Ways_cost (K : PySem.W.Frag) : Sp := fun vs H Q _ => ∃ (p : Addr) (i j : Nat) (l : List Nat) (W : Wd) (cd kd : Addr) (crs krs : List Addr) (fc fk : Nat → List V) (v : V), vs = [.ref p, .int i, .int j] ∧ WaysG K H p l W cd kd crs krs fc fk ∧ j < crs.length ∧ (fc j)[i]? = some v ∧ Q v H
theorem ok_Ways_cost (T : Facts K mg) : C8.Met P w K mg base 1 (He.ga K "Ways") "cost" (sp_Ways_cost K) [] := by
  refine metD T.m_Ways_cost sc_Ways_cost (fun vs H Q E h => ?_) (fun f cdv A outer s H vs Q E hr h => ?_)
  · obtain ⟨p, i, j, l, W, cd, kd, crs, krs, fc, fk, v, rfl, hG, hj, hv, q⟩ := h; rfl
  · obtain ⟨p, i, j, l, W, cd, kd, crs, krs, fc, fk, v, rfl, hG, hj, hv, q⟩ := h
    refine ⟨_, (pss_one (ps_ret (pe_ix ix_list (pe_ix ix_list (pe_fld (pv 0) rfl) (pv 2) (fun _ _ => rfl)) (pv 1) (fun _ _ => rfl)))), ?_⟩
    rw [st_Ways_cost]
    obtain ⟨r, h1, h2, h3⟩ := hG.c.row hj
    wtm_at "unf"
    wtm_at "gx"
    refine g_wcost T hG ?_
    wtm_at "gx"
    refine g_ixL (sq_of hG.c.hd) (atI_of h2) ?_
    wtm_at "gx"
    exact g_ixL (sq_of h3) (atI_of hv) q
end
end K33

set_option maxHeartbeats 4000000
namespace K33
open PySem PySem.Spec PyProof.Rows L2 SX Ly
local macro_rules | `(tactic| wtm_at "unf") => `(tactic| (try simp only [tMetX, tOwnX, tChain, tSeq, tNext, tBreak, tCont, tDrop, tRet, tRetN, tIfS, tAsg, tAug, tC, tOp, tUn, tNil, tCons, tOwn, tCB, tTest, tB, tAnd, tOr, tNot, tAndV, tOrV, tNotV, tIf, gName, gSub, tBM, tBM0, tM0, tM1, tSl, tPart_eq, tNoPart, tLst_eq, tTup_eq, tRevL_eq, tReplT, tRevS, tDGet_eq, sDPut_eq, tDNewT_eq, tMet, tMak, tFld_eq, sFld_eq, C8.tCut, wipe, tYes, gTup, gCons, gNil, List.set_cons_zero, List.set_cons_succ, if_true, if_false, Bool.false_eq_true, Bool.not_true, Bool.not_false, true_and, reduceIte, cx_K, tFor_eq, tLc_eq, iStr, iList, iTup, iRng1, iRng2, iRng3, iEnum, iZip, tLstRg, tRg1, gLst, RZ.iZipA, iEnumS, iZipS, tDNewK_eq, tDGet2, tDIn, tDNotIn, iKd]))
local macro_rules | `(tactic| wtm_at "unfA") => `(tactic| (try simp only [tMetX, tOwnX, tChain, tSeq, tNext, tBreak, tCont, tDrop, tRet, tRetN, tIfS, tAsg, tAug, tC, tOp, tUn, tNil, tCons, tOwn, tCB, tTest, tB, tAnd, tOr, tNot, tIf, gName, gSub, tBM, tBM0, tM0, tM1, tSl, tPart_eq, tNoPart, tLst_eq, tTup_eq, tRevL_eq, tReplT, tRevS, tDGet_eq, sDPut_eq, tDNewT_eq, tMet, tMak, tFld_eq, sFld_eq, C8.tCut, wipe, tYes, gTup, gCons, gNil, List.set_cons_zero, List.set_cons_succ, if_true, if_false, Bool.false_eq_true, Bool.not_true, Bool.not_false, true_and, reduceIte, cx_K, tFor_eq, tLc_eq, iStr, iList, iTup, iRng1, iRng2, iRng3, iEnum, iZip, tLstRg, tRg1, gLst, RZ.iZipA, iEnumS, iZipS, tDNewK_eq, tDGet2, tDIn, tDNotIn, iKd]))
local macro_rules | `(tactic| wtm_at "ne") => `(tactic| first | assumption | (apply Ne.symm; assumption) | (apply ne_new; (· assumption); (· wtm_at "lk")) | (apply Ne.symm; apply ne_new; (· assumption); (· wtm_at "lk")))
local macro_rules | `(tactic| wtm_at "lk") => `(tactic| first | assumption | exact upd_same | (apply Same.get; (· assumption); (· wtm_at "lk")) | (apply But.get; (· assumption); (· wtm_at "ne"); (· wtm_at "lk")))
local macro_rules | `(tactic| wtm_at "sq") => `(tactic| first | assumption | (apply sq_of; wtm_at "lk") | (apply Same.seq; (· assumption); (· wtm_at "sq")) | (apply But.sq; (· assumption); (· wtm_at "ne"); (· wtm_at "sq")))
local macro_rules | `(tactic| wtm_at "fr") => `(tactic| first | assumption | (apply Same.fr; (· assumption); (· wtm_at "sm")) | (apply But.fr; (· assumption); (· wtm_at "sm"); (· wtm_at "ne")))
local macro_rules | `(tactic| wtm_at "sm") => `(tactic| first | exact Same.refl _ | exact But.refl | assumption | (apply Same.tr; (· assumption); (· wtm_at "sm")) | (apply Same.b0; (· assumption); (· wtm_at "sm"); (· wtm_at "fr")) | (apply But.sa; (· assumption); (· wtm_at "sm")) | (apply But.tr; (· assumption); (· wtm_at "sm")) | (apply But.b0; (· assumption); (· wtm_at "sm"); (· wtm_at "fr")) | (apply Same.toBut; wtm_at "sm"))
local macro_rules | `(tactic| wtm_at "sc") => `(tactic| first | exact Int.zero_lt_one | (show (0 : Int) < _; omega) | (show (0 : Int) < _; decide) | exact ⟨by omega, by omega⟩ | exact .inl ⟨by omega, by omega⟩ | exact .inr ⟨by omega, by omega⟩)
local macro_rules | `(tactic| wtm_at "go1") => `(tactic| first | ((with_reducible apply g_var); (· exact rfl)) | with_reducible apply g_I0 | ((with_reducible apply g_I); (· wtm_at "sc")) | with_reducible apply g_U | with_reducible apply g_ipI | ((with_reducible apply g_addT); (· first | omega | (simp; done) | (simp; omega))) | with_reducible apply g_inT | with_reducible apply g_ninT | ((with_reducible apply g_lenT); (· omega)) | with_reducible apply g_findT1 | with_reducible apply g_str | with_reducible apply g_part | with_reducible apply g_intB | ((with_reducible apply g_ixL); (· wtm_at "sq"); (· exact rfl)) | ((with_reducible apply g_setL); (· wtm_at "lk"); (· exact rfl)) | ((with_reducible apply g_eq); (· rfl)) | ((with_reducible apply g_ne); (· rfl)))
local macro_rules | `(tactic| wtm_at "go") => `(tactic| repeat wtm_at "go1")
local macro_rules | `(tactic| wtm_at "lp") => `(tactic| skip)
local macro_rules | `(tactic| wtm_at "om") => `(tactic| first | omega | (simp; done) | (simp; omega) | (simp at *; omega))
local macro_rules | `(tactic| wtm_at "ty") => `(tactic| first | exact ty_str | exact ty_int | exact ty_bl | exact ty_non | (apply ty_lst; wtm_at "lk") | (apply ty_tup; wtm_at "lk"))
local macro_rules | `(tactic| wtm_at "kb") => `(tactic| first | exact kb_str_str | exact kb_str_int | exact kb_str_bool | exact kb_str_list | exact kb_str_tuple | exact kb_int_str | exact kb_int_int | exact kb_int_bool | exact kb_int_list | exact kb_int_tuple | exact kb_bool_str | exact kb_bool_int | exact kb_bool_bool | exact kb_bool_list | exact kb_bool_tuple | exact kb_list_str | exact kb_list_int | exact kb_list_bool | exact kb_list_list | exact kb_list_tuple | exact kb_tuple_str | exact kb_tuple_int | exact kb_tuple_bool | exact kb_tuple_list | exact kb_tuple_tuple | exact kb_NoneType_str | exact kb_NoneType_int | exact kb_NoneType_bool | exact kb_NoneType_list | exact kb_NoneType_tuple | exact kb_dict_str | exact kb_dict_int | exact kb_dict_bool | exact kb_dict_list | exact kb_dict_tuple)
local macro_rules | `(tactic| wtm_at "gx1") => `(tactic| first | ((with_reducible apply g_eqS); (· exact rfl)) | ((with_reducible apply g_neS); (· exact rfl)) | wtm_at "go1" | with_reducible apply g_min2 | with_reducible apply g_max2 | with_reducible apply g_T | with_reducible apply g_F | with_reducible apply g_NT | with_reducible apply g_NF | with_reducible apply g_nT | with_reducible apply g_nF | with_reducible apply g_RT | with_reducible apply g_RF | ((with_reducible apply g_isi); (· wtm_at "ty"); (· wtm_at "kb")) | ((with_reducible apply g_ixAU3); (· wtm_at "lk"); (· exact rfl)) | ((with_reducible apply g_ixAL3); (· wtm_at "lk"); (· exact rfl)) | ((with_reducible apply g_ixU3); (· wtm_at "lk"); (· exact rfl)) | ((with_reducible apply g_lenL3); (· wtm_at "lk")) | ((with_reducible apply g_lenU3); (· wtm_at "lk")) | ((with_reducible apply g_tyL3); (· wtm_at "lk")) | ((with_reducible apply g_lenT); (· wtm_at "pv")) | wtm_at "tr" | with_reducible apply g_ET | with_reducible apply g_EF | with_reducible apply g_EnT | with_reducible apply g_EnF)
local macro_rules | `(tactic| wtm_at "pv") => `(tactic| first | exact rfl | assumption | omega | (simp; done) | (simp; omega))
local macro_rules | `(tactic| wtm_at "tr") => `(tactic| first | ((with_reducible apply g_Td); (· wtm_at "pv")) | ((with_reducible apply g_Fd); (· wtm_at "pv")) | ((with_reducible apply g_NTd); (· wtm_at "pv")) | ((with_reducible apply g_NFd); (· wtm_at "pv")) | ((with_reducible apply g_nTd); (· wtm_at "pv")) | ((with_reducible apply g_nFd); (· wtm_at "pv")) | ((with_reducible apply g_RTd); (· wtm_at "pv")) | ((with_reducible apply g_RFd); (· wtm_at "pv")))
local macro_rules | `(tactic| wtm_at "gx") => `(tactic| repeat wtm_at "gx1")
local macro_rules | `(tactic| wtm_at "unfS") => `(tactic| (try simp only [tSeq, tNext, tAsg, tFor_eq, C8.tCut, wipe, gName, tDrop, List.set_cons_zero, List.set_cons_succ, cx_K]))
local macro_rules | `(tactic| wtm_at "rd1") => `(tactic| first | exact rd_int | exact rd_str | exact rd_bl | exact rd_non | exact rda_nil | apply rda_cons | (with_reducible apply rd_tup; (· assumption)) | (with_reducible apply rd_lst; (· assumption)) | exact rd_dic (by assumption) | exact rd_var rfl (.int _) | exact rd_var rfl (.str _) | exact rd_var rfl (.bl _) | exact rd_var rfl (by assumption) | (with_reducible apply rd_cat; (· assumption)) | (with_reducible apply rd_rep2; (· assumption)) | (with_reducible apply rd_rev; (· assumption)) | (with_reducible apply rd_to; (· assumption)) | (with_reducible apply rd_from; (· assumption)) | (with_reducible apply rd_tupOf; (· assumption)) | (with_reducible apply rd_lstOf; (· assumption)) | with_reducible apply rd_lenL | with_reducible apply rd_lenT | with_reducible apply rd_I0 | with_reducible apply rd_I | with_reducible apply rd_U | with_reducible apply rd_eqI | with_reducible apply rd_ixL | with_reducible apply rd_ixT | exact atI_hd _ _ | exact ‹atI _ _ = some _›)
local macro_rules | `(tactic| wtm_at "rdl") => `(tactic| first | decide | omega | wtm_at "sc" | (simp only [List.length_append, List.length_cons, List.length_nil, List.length_map, List.length_take, List.length_drop, List.length_reverse, cutTo]; omega))
local macro_rules | `(tactic| wtm_at "rd") => `(tactic| ((repeat' wtm_at "rd1"); (all_goals wtm_at "rdl")))
local macro_rules | `(tactic| wtm_at "nc") => `(tactic| repeat' (first | assumption | exact nca_nil | exact nc_non | exact nc_bl | exact nc_dic | exact nc_tup0 | exact nc_lst0 | (refine nc_strS (by decide) (by decide)) | (refine nc_int (by omega)) | (refine nc_big (by decide +kernel)) | refine nca_app ?_ ?_ | refine nca_cons ?_ ?_ | refine nca_take ?_ | refine nca_drop ?_ | refine nca_cutTo ?_ | refine nca_rev ?_ | refine nc_tup (by decide) ?_ | refine nc_lst (by decide) ?_ | refine nc_lst (Nat.le_trans (show _ ≤ 45 by wtm_at "rdl") (by decide)) ?_ | refine nc_tup (Nat.le_trans (show _ ≤ 45 by wtm_at "rdl") (by decide)) ?_))

section
variable {P : Program} {w : World} {K : PySem.W.Frag} {mg : Str → Option Value} {base : Heap}
/-! turned -/
def sp_turned : Sp := fun vs H Q _ => ∃ (p c o : Nat), vs = [.int p, Tx [c], Tx [o]] ∧ ∀ (a : Addr) (rs : List Addr) (H' : Hp), H a = none → Same H H' → Dds H' a rs (ddS p [asS c o]) → Q (.ref a) H'
theorem ok_turned (T : Facts K mg) : C8.Cal P w K mg base 1 "turned" sp_turned [] := by
  refine calD T.f_turned sc_turned (fun vs H Q E h => ?_) (fun f cdv A outer s H vs Q E hr h => ?_)
  · obtain ⟨p, c, o, rfl, q⟩ := h; rfl
  · obtain ⟨p, c, o, rfl, q⟩ := h
    refine ⟨_, (pss_cons (ps_if (pt_cmpR op_eq (pv 1) (pv 2) (nomark _))
       (pss_one (ps_ret (pe_lst pa_nil)))
       pss_nil)
       (pss_one (ps_ret (pe_lst (pa_cons (pe_tup (pa_cons (pv 0) (pa_cons (pe_strS (l := [116, 117, 114, 110]) (by decide +kernel)) (pa_cons (pv 2) pa_nil)))) pa_nil))))), ?_⟩
    rw [st_turned]
    wtm_at "unf"
    wtm_at "gx"
    refine g_test (fun h => ?_) (fun h => ?_)
    · have e : c = o := (List.cons.inj (Tx_inj.mp h)).1
      subst e
      refine g_lst (by show 0 ≤ 100000; decide) fun a H1 na s1 ea => q a [] H1 na s1 ?_
      rw [show asS c c = .kp c from if_pos rfl]
      exact dds_nil ea
    · have hne : o ≠ c := fun e => h (by rw [e])
      wtm_at "gx"
      refine g_tup (by show 3 ≤ 100000; decide) fun t H1 nt s1 et => ?_
      refine g_lst (by show 1 ≤ 100000; decide) fun a H2 na s2 ea => q a [t] H2 (s1.free na) (s1.trans s2) ?_
      rw [show asS c o = .tn c o from if_neg hne]
      exact dds_one ea (s2 _ _ et)
/-! Ways.as_pair -/
def sp_Ways_as_pair (K : PySem.W.Frag) : Sp := fun vs H Q _ => ∃ (p : Addr) (i m : Nat) (l : List Nat) (cd kd : Addr) (crs krs : List Addr) (fc fk : Nat → List V) (c d : Nat), vs = [.ref p, .int i, .int m] ∧ WaysG K H p l wAll cd kd crs krs fc fk ∧ l[i]? = some c ∧ l[m]? = some d ∧ c ∈ BRK ∧ d ∈ BRK ∧ l.length ≤ 1000 ∧
  ∀ (fa : Addr) (ts : List V) (H' : Hp), H fa = none → Same H H' → H' fa = some (.lst ts) → Paired (DlH H H' fun o => ddS i [asS c o] ++ ddS m [asS d (oth o)]) ts (wys c d) → Q (.ref fa) H'
theorem ok_Ways_as_pair (T : Facts K mg) : C8.Met P w K mg base 2 (He.ga K "Ways") "as_pair" (sp_Ways_as_pair K) [] := by
  refine metD T.m_Ways_as_pair sc_Ways_as_pair (fun vs H Q E h => ?_) (fun f cdv A outer s H vs Q E hr h => ?_)
  · obtain ⟨p, i, m, l, cd, kd, crs, krs, fc, fk, c, d, rfl, hG, hc, hd, hcb, hdb, hll, q⟩ := h; rfl
  · obtain ⟨p, i, m, l, cd, kd, crs, krs, fc, fk, c, d, rfl, hG, hc, hd, hcb, hdb, hll, q⟩ := h
    refine ⟨_, (pss_cons (ps_set (i := 3) sc_Ways_as_pair.nd rfl (Or.inl rfl) (pe_lst pa_nil))
       (pss_cons (ps_for PassesOwn.never rfl (pi_range1 rfl T.b_range (pa_cons (pe_callB call_lenT rfl T.b_len PySem.boot_len (pa_cons (C8.pe_gc rfl T.c_OPENING) pa_nil)) pa_nil)) (pg_name (i := 4) sc_Ways_as_pair.nd rfl (Or.inl rfl))
       (pss_one (ps_expr (pe_bm PySem.F.plainAttrs_list PySem.F.slot_list_append PySem.F.type_list_append mt_append (pv 3) (pa_cons (pe_op op_cat (pe_own (ok_turned T) hr (by omega) rfl (pa_cons (pv 1) (pa_cons (pe_ix ix_txt (pe_fld (pv 0) rfl) (pv 1) (fun _ _ => rfl)) (pa_cons (pe_ix ix_txt (C8.pe_gc rfl T.c_OPENING) (pv 4) (fun _ _ => rfl)) pa_nil)))) (pe_own (ok_turned T) hr (by omega) rfl (pa_cons (pv 2) (pa_cons (pe_ix ix_txt (pe_fld (pv 0) rfl) (pv 2) (fun _ _ => rfl)) (pa_cons (pe_ix ix_txt (C8.pe_gc rfl T.c_CLOSING) (pv 4) (fun _ _ => rfl)) pa_nil))))) pa_nil)))))
       (pss_cons (ps_set (i := 5) sc_Ways_as_pair.nd rfl (Or.inr rfl) (pe_callB (cr_min rfl) rfl T.b_min (by decide +kernel) (pa_cons (pe_lc (own := [("deeds", 6)]) (by rfl) sc_Ways_as_pair.nd (pi_list (pv 3)) (blkOk_by (own := [("deeds", 6)]) (N := N_Ways_as_pair) (sc := defScope s_Ways_as_pair) (by decide +kernel)) (fun _ _ _ _ _ => (pg_name (i := 6) sc_Ways_as_pair.nd rfl (Or.inl rfl))) (fun _ _ _ _ _ => pts_nil) (fun _ _ _ _ _ => (pe_callB (r := rLenL K) call_lenL rfl T.b_len PySem.boot_len (pa_cons (pv 6) pa_nil)))) pa_nil)))
       (pss_cons (ps_ifC (PW.pt (pw_and (pt_cmpR op_gt (pv 5) pe_int (nomark _)) (pw_and1 (pt_cmpR op_notIn_seq (pe_strS (l := [116, 117, 114, 110]) (by decide +kernel)) (pe_fld (pv 0) rfl) (by rfl)))))
       (pss_one (ps_ret (pe_lst pa_nil)))
       pss_nil)
       (pss_one (ps_ret (pe_lc (own := [("deeds", 6)]) (by rfl) sc_Ways_as_pair.nd (pi_list (pv 3)) (blkOk_by (own := [("deeds", 6)]) (N := N_Ways_as_pair) (sc := defScope s_Ways_as_pair) (by decide +kernel)) (fun _ _ _ _ _ => (pg_name (i := 6) sc_Ways_as_pair.nd rfl (Or.inl rfl))) (fun _ _ _ _ _ => (pts_one (pt_cmpR op_eq (pe_callB (r := rLenL K) call_lenL rfl T.b_len PySem.boot_len (pa_cons (pv 6) pa_nil)) (pv 5) (nomark _)))) (fun _ _ _ _ _ => (pv 6))))))))), ?_⟩
    rw [st_Ways_as_pair]
    wtm_at "unf"
    wtm_at "gx"
    refine g_lst (by show 0 ≤ 100000; decide) fun sa H1 nsa s1 esa => ?_
    wtm_at "gx"
    refine g_lenT (by decide) ?_
    refine ⟨4, rfl, by decide, by decide, for_rng (fun k σ H2 => ∃ (ts : List V) (y4 : Option V), σ = [some (V.ref p), some (V.int i), some (V.int m), some (V.ref sa), y4, none, none] ∧ But sa H1 H2 ∧ H2 sa = some (.lst ts) ∧ Paired (DlH H1 H2 fun o => ddS i [asS c o] ++ ddS m [asS d (oth o)]) ts (OPN.take k)) ⟨[], none, rfl, But.refl, esa, .nil⟩ (fun k σ H2 hk hv => ?_) (fun σ H2 hv => ?_)⟩
    · obtain ⟨ts, y4, rfl, b2, e2, hp⟩ := hv
      have hk4 : k < 4 := hk
      have hG2 := (hG.same s1).butL b2 esa (hG.fresh nsa).1 (hG.fresh nsa).2
      obtain ⟨ho, hcl⟩ := opn_get k hk4
      have hl2 := pd_len hp
      rw [List.length_take] at hl2
      wtm_at "unf"
      wtm_at "gx"
      refine g_wsig T hG2 ?_
      wtm_at "gx"
      refine g_ixTn i (by omega) rfl hc ?_
      wtm_at "gx"
      refine g_ixTn k (by decide) (by omega) ho ?_
      refine ⟨i, c, OPN.getD k 0, rfl, fun a rs H3 na s3 ha => ?_⟩
      wtm_at "gx"
      refine g_wsig T (hG2.same s3) ?_
      wtm_at "gx"
      refine g_ixTn m (by omega) rfl hd ?_
      wtm_at "gx"
      refine g_ixTn k (by decide) (by omega) hcl ?_
      refine ⟨m, d, oth (OPN.getD k 0), rfl, fun b qs H4 nb s4 hb => ?_⟩
      have la : rs.length ≤ 1 := by
        rw [ha.len]
        unfold asS
        split <;> simp [ddS]
      have lb : qs.length ≤ 1 := by
        rw [hb.len]
        unfold asS
        split <;> simp [ddS]
      refine g_cat (ha.same s4).hd hb.hd (by simp; omega) fun n H5 nn s5 en => ?_
      refine g_append1 (s5 _ _ (s4 _ _ (s3 _ _ e2))) (by omega) fun H6 b6 e6 => ?_
      have hn1 : H1 n = none := b2.free (fun e => by rw [e, s4 _ _ (s3 _ _ e2)] at nn; cases nn) (s3.free (s4.free nn))
      have hcat := dds_cat ((ha.same s4).same s5) (hb.same s5) en
      refine ⟨_, _, rfl, But.tr b6 (But.sa (s3.trans (s4.trans s5)) b2), e6, ?_⟩
      rw [opn_take hk4]
      refine pd_app (pd_imp (fun v o h => (h.same (s3.trans (s4.trans s5))).but b6 (s5 _ _ (s4 _ _ (s3 _ _ e2))) esa) hp) (pd_one ?_)
      exact ⟨n, rs ++ qs, rfl, hcat.but b6 (s5 _ _ (s4 _ _ (s3 _ _ e2))) (fun e => by rw [e, esa] at hn1; cases hn1), hn1⟩
    · obtain ⟨ts, y4, rfl, b2, e2, hp⟩ := hv
      rw [show OPN.take (4 : Int).toNat = OPN from rfl] at hp
      have hG2 := (hG.same s1).butL b2 esa (hG.fresh nsa).1 (hG.fresh nsa).2
      have S2 : Same H H2 := Same.b0 b2 s1 nsa
      obtain ⟨hmin, o0, ho0, hmin0⟩ := few_min c hcb d hdb
      wtm_at "unf"
      wtm_at "gx"
      refine ⟨_, rfl, ⟨_, sq_of e2⟩, lc_lst ts fun na H3 nn s3 en => ⟨fun pre G => G na = some (.lst (((OPN.take pre.length).map fun o => ((asC c o + asC d (oth o) : Nat) : Int)).map V.int)) ∧ Same H2 G, ⟨en, s3⟩, fun pre post G e hv => sq_of (hv.2 _ _ e2), fun pre x post G e hv => ?_, fun G hv => ?_⟩⟩
      · obtain ⟨eG, sG⟩ := hv
        obtain ⟨o, ⟨a, rs, rfl, hD, _⟩, _, e5⟩ := pd_turn hp e
        wtm_at "unf"
        refine ⟨rfl, ?_⟩
        wtm_at "gx"
        refine g_lenL (sq_of (hD.same sG).hd) ?_
        refine lc_put eG (by rw [List.length_map, List.length_map, List.length_take]; exact Nat.lt_of_le_of_lt (Nat.min_le_right _ _) (by decide)) fun G2 b2 e2' => ⟨?_, Same.b0 b2 sG nn⟩
        rw [e5, List.map_append, List.map_append, e2', List.length_map, hD.len, as_len]
        rfl
      · obtain ⟨eG, sG⟩ := hv
        rw [pd_len hp, show OPN.take OPN.length = OPN from rfl] at eG
        refine g_minL (sq_of eG) (fun h => by cases h) fun mn h1 h2 => ?_
        have emn : mn = ((few c d).1 : Nat) := by
          obtain ⟨o1, ho1, e1⟩ := List.mem_map.mp h1
          have := hmin o1 ho1
          have := h2 _ (List.mem_map.mpr ⟨o0, ho0, rfl⟩)
          omega
        subst emn
        wtm_at "unf"
        have hG3 := hG2.same sG
        refine g_ifC (b := false) (fun Q q => ?_) (fun h => by cases h) (fun _ => ?_)
        · wtm_at "unf"
          wtm_at "gx"
          by_cases h0 : (0 : Int) < ((few c d).1 : Nat)
          · refine ⟨_, rfl, ?_⟩
            rw [if_pos (decide_eq_true h0)]
            wtm_at "gx"
            refine g_wword T hG3 fun wd hw => ?_
            obtain ⟨a, xs, w1, w2, w3, w4, w5, w6⟩ := hw
            refine ⟨a, xs, w1, .inr w2, rfl, w3, ?_⟩
            rw [if_pos rfl, w6]
            exact ⟨false, rfl, q⟩
          · refine ⟨_, rfl, ?_⟩
            rw [if_neg (by rw [decide_eq_false h0]; exact Bool.false_ne_true)]
            exact q
        · wtm_at "unf"
          wtm_at "gx"
          refine ⟨_, rfl, ⟨_, sq_of (sG _ _ e2)⟩, lc_lst ts fun ra H4 nr s4 er => ⟨fun pre G' => ∃ zs, G' ra = some (.lst zs) ∧ Same G G' ∧ zs.length ≤ pre.length ∧ Paired (DlH H G fun o => ddS i [asS c o] ++ ddS m [asS d (oth o)]) zs ((OPN.take pre.length).filter fun o => decide (asC c o + asC d (oth o) = (few c d).1)), ⟨[], er, s4, Nat.le_refl _, .nil⟩, fun pre post G' e hv => ?_, fun pre x post G' e hv => ?_, fun G' hv => ?_⟩⟩
          · obtain ⟨zs, _, sz, _, _⟩ := hv
            exact sq_of (sz _ _ (sG _ _ e2))
          · obtain ⟨zs, ez, sz, lz, pz⟩ := hv
            obtain ⟨o, hDl, _, e5⟩ := pd_turn hp e
            have hDl' := (hDl.same sG).old s1
            obtain ⟨a, rs, rfl, hD0, hna⟩ := hDl'
            have hD := hD0.same sz
            have hpl : pre.length ≤ 4 := by
              have h4 : ts.length = 4 := pd_len hp
              rw [e, List.length_append] at h4
              omega
            wtm_at "unf"
            refine ⟨rfl, ?_⟩
            wtm_at "gx"
            refine g_lenL (sq_of hD.hd) ?_
            wtm_at "gx"
            rw [List.length_map, hD.len, as_len]
            refine ⟨_, rfl, ?_⟩
            rw [e5, List.filter_append]
            by_cases hq : asC c o + asC d (oth o) = (few c d).1
            · rw [if_pos (by rw [decide_eq_true (by rw [hq])]), List.filter_cons_of_pos (by simp [hq])]
              wtm_at "gx"
              refine lc_put ez (by omega) fun G2 b2 e2' => ⟨_, e2', Same.b0 b2 sz nr, by simp; omega, ?_⟩
              exact pd_app pz (pd_one ⟨a, rs, rfl, hD0, hna⟩)
            · rw [if_neg (by rw [decide_eq_false (fun e => hq (by have := V.int.inj e; omega))]; exact Bool.false_ne_true), List.filter_cons_of_neg (by simp [hq])]
              rw [show ([] : List Nat).filter (fun o => decide (asC c o + asC d (oth o) = (few c d).1)) = [] from rfl, List.append_nil]
              exact ⟨zs, ez, sz, by simp; omega, pz⟩
          · obtain ⟨zs, ez, sz, lz, pz⟩ := hv
            rw [pd_len hp, show OPN.take OPN.length = OPN from rfl] at pz
            exact q ra zs G' (S2.free (sG.free nr)) (S2.trans (sG.trans sz)) ez (pd_imp (fun v o h => h.same sz) pz)
/-! Ways.pairs -/
def sp_Ways_pairs (K : PySem.W.Frag) : Sp := fun vs H Q _ => ∃ (p : Addr) (i j : Nat) (l : List Nat) (cd kd : Addr) (crs krs : List Addr) (fc fk : Nat → List V) (c : Nat), vs = [.ref p, .int i, .int j] ∧ WaysG K H p l wAll cd kd crs krs fc fk ∧ l[i]? = some c ∧ c ∈ BRK ∧ i < j ∧ j ≤ l.length ∧ l.length ≤ 1000 ∧
  ∀ (fa : Addr) (ts : List V) (H' : Hp), H fa = none → Same H H' → H' fa = some (.lst ts) → ts.length ≤ 4 * (j - i) → Paired (FsH H H' j i) ts ((List.range (j - i - 1)).flatMap fun k => prL l i c (i + 1 + k)) → Q (.ref fa) H'
theorem ok_Ways_pairs (T : Facts K mg) : C8.Met P w K mg base 3 (He.ga K "Ways") "pairs" (sp_Ways_pairs K) [] := by
  refine metD T.m_Ways_pairs sc_Ways_pairs (fun vs H Q E h => ?_) (fun f cdv A outer s H vs Q E hr h => ?_)
  · obtain ⟨p, i, j, l, cd, kd, crs, krs, fc, fk, c, rfl, hG, hc, hcb, hij, hj, hll, q⟩ := h; rfl
  · obtain ⟨p, i, j, l, cd, kd, crs, krs, fc, fk, c, rfl, hG, hc, hcb, hij, hj, hll, q⟩ := h
    refine ⟨_, (pss_cons (ps_set (i := 3) sc_Ways_pairs.nd rfl (Or.inl rfl) (pe_lst pa_nil))
       (pss_cons (ps_for PassesOwn.never rfl (pi_range2 rfl T.b_range (pa_cons (pe_op op_add (pv 1) pe_int) (pa_cons (pv 2) pa_nil))) (pg_name (i := 4) sc_Ways_pairs.nd rfl (Or.inl rfl))
       (pss_one (ps_ifC (PW.pt (pw_or (pt_cmpR op_inT (pe_ix ix_txt (pe_fld (pv 0) rfl) (pv 4) (fun _ _ => rfl)) (C8.pe_gc rfl T.c_OPENING) (by rfl)) (pw_or1 (pt_cmpR op_inT (pe_ix ix_txt (pe_fld (pv 0) rfl) (pv 4) (fun _ _ => rfl)) (C8.pe_gc rfl T.c_CLOSING) (by rfl)))))
       (pss_one (ps_for PassesOwn.never rfl (pi_list (pe_met (ok_Ways_as_pair T) hr (by omega) (pv 0) (pa_cons (pv 1) (pa_cons (pv 4) pa_nil)))) (pg_name (i := 5) sc_Ways_pairs.nd rfl (Or.inl rfl))
       (pss_one (ps_expr (pe_bm PySem.F.plainAttrs_list PySem.F.slot_list_append PySem.F.type_list_append mt_append (pv 3) (pa_cons (pe_tup (pa_cons (pv 5) (pa_cons (pe_lst (pa_cons (pe_tup (pa_cons (pe_op op_add (pv 1) pe_int) (pa_cons (pv 4) pa_nil))) (pa_cons (pe_tup (pa_cons (pe_op op_add (pv 4) pe_int) (pa_cons (pv 2) pa_nil))) pa_nil))) pa_nil))) pa_nil))))))
       pss_nil)))
       (pss_one (ps_ret (pv 3))))), ?_⟩
    rw [st_Ways_pairs]
    wtm_at "unf"
    wtm_at "gx"
    refine g_lst (by show 0 ≤ 100000; decide) fun fa H1 nfa s1 efa => ?_
    wtm_at "gx"
    have erg : ((j : Int) - ((i : Int) + 1)).toNat = j - i - 1 := by omega
    refine ⟨_, _, rfl, ⟨by omega, by omega, by omega, by omega⟩, for_rng (fun k σ H2 => ∃ (ts : List V) (y4 y5 : Option V), σ = [some (V.ref p), some (V.int i), some (V.int j), some (V.ref fa), y4, y5] ∧ But fa H1 H2 ∧ H2 fa = some (.lst ts) ∧ ts.length ≤ 4 * k ∧ Paired (FsH H1 H2 j i) ts ((List.range k).flatMap fun k => prL l i c (i + 1 + k))) ⟨[], none, none, rfl, But.refl, efa, Nat.le_refl _, .nil⟩ (fun k σ H2 hk hv => ?_) (fun σ H2 hv => ?_)⟩
    · obtain ⟨ts, y4, y5, rfl, b2, e2, lts, hp⟩ := hv
      rw [erg] at hk
      have hG2 := (hG.same s1).butL b2 efa (hG.fresh nfa).1 (hG.fresh nfa).2
      have hd : l[i + 1 + k]? = some l[i + 1 + k] := List.getElem?_eq_getElem (by omega)
      generalize l[i + 1 + k] = d at hd
      have epr : prL l i c (i + 1 + k) = if d ∈ BRK then (wys c d).map fun o => Fs.two (asS c o) (i + 1) (i + 1 + k) (asS d (oth o)) (i + 1 + k + 1) else [] := by unfold prL; rw [hd]
      have eint : (i : Int) + 1 + k = ((i + 1 + k : Nat) : Int) := by omega
      rw [eint]
      wtm_at "unf"
      refine g_ifC (b := decide (d ∈ BRK)) (fun Q q => ?_) (fun h => ?_) (fun h => ?_)
      · wtm_at "unf"
        wtm_at "gx"
        refine g_wsig T hG2 ?_
        wtm_at "gx"
        refine g_ixTn (i + 1 + k) (by omega) rfl hd ?_
        wtm_at "gx"
        by_cases ho : d ∈ OPN
        · refine ⟨_, rfl, ?_⟩
          rw [if_pos (decide_eq_true ho)]
          rw [decide_eq_true (brk_or.mpr (.inl ho))] at q
          exact q
        · refine ⟨_, rfl, ?_⟩
          rw [if_neg (by rw [decide_eq_false ho]; exact Bool.false_ne_true)]
          wtm_at "gx"
          refine g_wsig T hG2 ?_
          wtm_at "gx"
          refine g_ixTn (i + 1 + k) (by omega) rfl hd ?_
          wtm_at "gx"
          refine ⟨_, rfl, ?_⟩
          rw [show decide (d ∈ BRK) = decide (d ∈ CLO) from decide_eq_decide.mpr ⟨fun h => (brk_or.mp h).resolve_left ho, fun h => brk_or.mpr (.inr h)⟩] at q
          exact q
      · have hdb := of_decide_eq_true h
        wtm_at "unf"
        wtm_at "gx"
        refine g_wmet hG2 (fun _ _ _ _ => rfl) ?_
        wtm_at "gx"
        refine ⟨p, i, i + 1 + k, l, cd, kd, crs, krs, fc, fk, c, d, rfl, hG2, hc, hd, hcb, hdb, hll, fun la us H3 nla s3 ela hpu => ?_⟩
        refine ⟨_, rfl, ⟨_, sq_of ela⟩, ?_⟩
        have hu4 : us.length ≤ 4 := by rw [pd_len hpu]; exact wys_le c d
        have hne : la ≠ fa := fun e => by rw [e, e2] at nla; cases nla
        have hn1 : H1 la = none := b2.free hne nla
        refine for_lst us (fun pre σ H4 => ∃ (ts' : List V) (y5 : Option V), σ = [some (V.ref p), some (V.int i), some (V.int j), some (V.ref fa), some (V.int (i + 1 + k : Nat)), y5] ∧ But fa H3 H4 ∧ H4 fa = some (.lst ts') ∧ ts'.length = ts.length + pre.length ∧ Paired (FsH H1 H4 j i) ts' (((List.range k).flatMap fun k => prL l i c (i + 1 + k)) ++ (prL l i c (i + 1 + k)).take pre.length)) ⟨ts, y5, rfl, But.refl, s3 _ _ e2, rfl, by rw [show ([] : List V).length = 0 from rfl, List.take_zero, List.append_nil]; exact pd_imp (fun v s h => h.same s3) hp⟩ (fun pre post σ H4 e hv => ?_) (fun pre x post σ H4 e hv => ?_) (fun σ H4 hv => ?_)
        · obtain ⟨ts', y5, rfl, b4, _⟩ := hv
          exact sq_of (b4 _ _ hne ela)
        · obtain ⟨ts', y5, rfl, b4, e4, l4, hp4⟩ := hv
          obtain ⟨o, ⟨a, rs, rfl, hD, hna⟩, _, e5⟩ := pd_turn hpu e
          have hna1 : H1 a = none := b2.free (fun e => by rw [e, e2] at hna; cases hna) hna
          have hD4 := hD.but b4 (s3 _ _ e2) (fun e => by rw [e, efa] at hna1; cases hna1)
          have hpl : pre.length < 4 := by rw [e, List.length_append, List.length_cons] at hu4; omega
          wtm_at "unf"
          wtm_at "gx"
          refine g_tup (by show 2 ≤ 100000; decide) fun t1 H5 n1 s5 et1 => ?_
          wtm_at "gx"
          refine g_tup (by show 2 ≤ 100000; decide) fun t2 H6 n2 s6 et2 => ?_
          refine g_lst (by show 2 ≤ 100000; decide) fun pa H7 n7 s7 epa => ?_
          refine g_tup (by show 2 ≤ 100000; decide) fun t H8 n8 s8 et => ?_
          have s58 : Same H4 H8 := s5.trans (s6.trans (s7.trans s8))
          refine g_append1 (s58 _ _ e4) (by omega) fun H9 b9 e9 => ?_
          have hnpa : H1 pa = none := b2.free (fun e => by rw [e, s6 _ _ (s5 _ _ e4)] at n7; cases n7) (s3.free (b4.free (fun e => by rw [e, s6 _ _ (s5 _ _ e4)] at n7; cases n7) (s5.free (s6.free n7))))
          refine ⟨ts' ++ [V.ref t], _, rfl, But.tr b9 (But.sa s58 b4), e9, by rw [List.length_append, List.length_append, l4]; simp; omega, ?_⟩
          have e6 : (prL l i c (i + 1 + k)).take (pre ++ [V.ref a]).length = (prL l i c (i + 1 + k)).take pre.length ++ [Fs.two (asS c o) (i + 1) (i + 1 + k) (asS d (oth o)) (i + 1 + k + 1)] := by
            rw [epr, if_pos hdb, ← List.map_take, ← List.map_take, e5, List.map_append]
            rfl
          rw [e6, ← List.append_assoc]
          refine pd_app (pd_imp (fun v s h => (h.same s58).but b9 (s58 _ _ e4) efa) hp4) (pd_one ?_)
          have hF : FsH H1 H8 j i (.ref t) (Fs.two (asS c o) (i + 1) (i + 1 + k) (asS d (oth o)) (i + 1 + k + 1)) := by
            refine ⟨t, a, pa, rs, rfl, et, hD4.same s58, prs2 (x := (i + 1, i + 1 + k)) (y := (i + 1 + k + 1, j)) (s8 _ _ epa) (s8 _ _ (s7 _ _ (s6 _ _ et1))) ?_, hna1, hnpa⟩
            exact s8 _ _ (s7 _ _ et2)
          exact hF.but b9 (s58 _ _ e4) efa
        · obtain ⟨ts', y5, rfl, b4, e4, l4, hp4⟩ := hv
          refine ⟨ts', _, _, rfl, But.tr b4 (But.sa s3 b2), e4, by omega, ?_⟩
          have e7 : (prL l i c (i + 1 + k)).take us.length = prL l i c (i + 1 + k) := List.take_of_length_le (by rw [epr, if_pos hdb, List.length_map, pd_len hpu]; exact Nat.le_refl _)
          rw [e7] at hp4
          rw [List.range_succ, List.flatMap_append, show ([k].flatMap fun k => prL l i c (i + 1 + k)) = prL l i c (i + 1 + k) from by simp]
          exact hp4
      · have hdb := of_decide_eq_false h
        wtm_at "unf"
        refine ⟨ts, _, _, rfl, b2, e2, by omega, ?_⟩
        rw [List.range_succ, List.flatMap_append, show ([k].flatMap fun k => prL l i c (i + 1 + k)) = [] from by simp [epr, hdb], List.append_nil]
        exact hp
    · obtain ⟨ts, y4, y5, rfl, b2, e2, lts, hp⟩ := hv
      rw [erg] at hp lts
      wtm_at "unf"
      wtm_at "gx"
      exact q fa ts H2 nfa (Same.b0 b2 s1 nfa) e2 (by omega) (pd_imp (fun v s h => h.old s1) hp)
/-! Ways.put_partners -/
def sp_Ways_put_partners (K : PySem.W.Frag) : Sp := fun vs H Q _ => ∃ (p : Addr) (i j : Nat) (l : List Nat) (cd kd : Addr) (crs krs : List Addr) (fc fk : Nat → List V) (c : Nat), vs = [.ref p, .int i, .int j] ∧ WaysG K H p l wAll cd kd crs krs fc fk ∧ l[i]? = some c ∧ i < j ∧ j ≤ l.length ∧ l.length ≤ 1000 ∧
  ∀ (fa : Addr) (ts : List V) (H' : Hp), H fa = none → Same H H' → H' fa = some (.lst ts) → ts.length ≤ 2 * (j - i) → Paired (FsH H H' j i) ts ((if c ∈ OPN then (List.range (j - i)).map fun k => opL i c (i + 1 + k) else []) ++ (List.range (j - i)).flatMap fun k => clL l i (i + k)) → Q (.ref fa) H'
theorem ok_Ways_put_partners (T : Facts K mg) : C8.Met P w K mg base 2 (He.ga K "Ways") "put_partners" (sp_Ways_put_partners K) [] := by
  refine metD T.m_Ways_put_partners sc_Ways_put_partners (fun vs H Q E h => ?_) (fun f cdv A outer s H vs Q E hr h => ?_)
  · obtain ⟨p, i, j, l, cd, kd, crs, krs, fc, fk, c, rfl, hG, hc, hij, hj, hll, q⟩ := h; rfl
  · obtain ⟨p, i, j, l, cd, kd, crs, krs, fc, fk, c, rfl, hG, hc, hij, hj, hll, q⟩ := h
    refine ⟨_, (pss_cons (ps_set (i := 3) sc_Ways_put_partners.nd rfl (Or.inl rfl) (pe_lst pa_nil))
       (C8.pss_cut (ps_if (pt_cmpR op_inT (pe_ix ix_txt (pe_fld (pv 0) rfl) (pv 1) (fun _ _ => rfl)) (C8.pe_gc rfl T.c_OPENING) (by rfl))
       (pss_cons (ps_set (i := 4) sc_Ways_put_partners.nd rfl (Or.inl rfl) (pe_ix ix_txt (C8.pe_gc rfl T.c_CLOSING) (pe_own (ok_kind_of T) hr (by omega) rfl (pa_cons (pe_ix ix_txt (pe_fld (pv 0) rfl) (pv 1) (fun _ _ => rfl)) pa_nil)) (fun _ _ => rfl)))
       (pss_one (ps_for PassesOwn.never rfl (pi_range2 rfl T.b_range (pa_cons (pe_op op_add (pv 1) pe_int) (pa_cons (pe_op op_add (pv 2) pe_int) pa_nil))) (pg_name (i := 5) sc_Ways_put_partners.nd rfl (Or.inl rfl))
       (pss_one (ps_expr (pe_bm PySem.F.plainAttrs_list PySem.F.slot_list_append PySem.F.type_list_append mt_append (pv 3) (pa_cons (pe_tup (pa_cons (pe_lst (pa_cons (pe_tup (pa_cons (pv 5) (pa_cons (pe_strS (l := [112, 117, 116]) (by decide +kernel)) (pa_cons (pv 4) pa_nil)))) pa_nil)) (pa_cons (pe_lst (pa_cons (pe_tup (pa_cons (pe_op op_add (pv 1) pe_int) (pa_cons (pv 5) pa_nil))) (pa_cons (pe_tup (pa_cons (pv 5) (pa_cons (pv 2) pa_nil))) pa_nil))) pa_nil))) pa_nil)))))))
       pss_nil)
       (pss_cons (ps_for PassesOwn.never rfl (pi_range2 rfl T.b_range (pa_cons (pv 1) (pa_cons (pv 2) pa_nil))) (pg_name (i := 5) sc_Ways_put_partners.nd rfl (Or.inl rfl))
       (pss_one (ps_if (pt_cmpR op_inT (pe_ix ix_txt (pe_fld (pv 0) rfl) (pv 5) (fun _ _ => rfl)) (C8.pe_gc rfl T.c_CLOSING) (by rfl))
       (pss_cons (ps_set (i := 6) sc_Ways_put_partners.nd rfl (Or.inl rfl) (pe_ix ix_txt (C8.pe_gc rfl T.c_OPENING) (pe_own (ok_kind_of T) hr (by omega) rfl (pa_cons (pe_ix ix_txt (pe_fld (pv 0) rfl) (pv 5) (fun _ _ => rfl)) pa_nil)) (fun _ _ => rfl)))
       (pss_one (ps_expr (pe_bm PySem.F.plainAttrs_list PySem.F.slot_list_append PySem.F.type_list_append mt_append (pv 3) (pa_cons (pe_tup (pa_cons (pe_lst (pa_cons (pe_tup (pa_cons (pv 1) (pa_cons (pe_strS (l := [112, 117, 116]) (by decide +kernel)) (pa_cons (pv 6) pa_nil)))) pa_nil)) (pa_cons (pe_lst (pa_cons (pe_tup (pa_cons (pv 1) (pa_cons (pv 5) pa_nil))) (pa_cons (pe_tup (pa_cons (pe_op op_add (pv 5) pe_int) (pa_cons (pv 2) pa_nil))) pa_nil))) pa_nil))) pa_nil)))))
       pss_nil)))
       (pss_one (ps_ret (pv 3)))))), ?_⟩
    rw [st_Ways_put_partners]
    wtm_at "unf"
    wtm_at "gx"
    refine g_lst (by show 0 ≤ 100000; decide) fun fa H1 nfa s1 efa => ?_
    have hG1 := hG.same s1
    refine ⟨fun σ H2 => ∃ (ts : List V) (y4 y5 y6 : Option V), σ = [some (V.ref p), some (V.int i), some (V.int j), some (V.ref fa), y4, y5, y6] ∧ But fa H1 H2 ∧ H2 fa = some (.lst ts) ∧ ts.length ≤ j - i ∧ Paired (FsH H1 H2 j i) ts (if c ∈ OPN then (List.range (j - i)).map fun k => opL i c (i + 1 + k) else []), ?_, ?_⟩
    · wtm_at "gx"
      refine g_wsig T hG1 ?_
      wtm_at "gx"
      refine g_ixTn i (by omega) rfl hc ?_
      wtm_at "gx"
      refine g_test (fun ho => ?_) (fun ho => ?_)
      · rw [if_pos ho]
        wtm_at "gx"
        refine g_wsig T hG1 ?_
        wtm_at "gx"
        refine g_ixTn i (by omega) rfl hc ?_
        refine ⟨c, rfl, brk_or.mpr (.inl ho), ?_⟩
        refine g_ixT (by decide) (atI_of (at_clo c ho)) ?_
        wtm_at "gx"
        have erg : ((j : Int) + 1 - ((i : Int) + 1)).toNat = j - i := by omega
        refine ⟨_, _, rfl, ⟨by omega, by omega, by omega, by omega⟩, for_rng (fun k σ H2 => ∃ (ts : List V) (y5 : Option V), σ = [some (V.ref p), some (V.int i), some (V.int j), some (V.ref fa), some (Tx [oth c]), y5, none] ∧ But fa H1 H2 ∧ H2 fa = some (.lst ts) ∧ ts.length = k ∧ Paired (FsH H1 H2 j i) ts ((List.range k).map fun k => opL i c (i + 1 + k))) ⟨[], none, rfl, But.refl, efa, rfl, .nil⟩ (fun k σ H2 hk hv => ?_) (fun σ H2 hv => ?_)⟩
        · obtain ⟨ts, y5, rfl, b2, e2, lts, hp⟩ := hv
          rw [erg] at hk
          have eint : (i : Int) + 1 + k = ((i + 1 + k : Nat) : Int) := by omega
          rw [eint]
          wtm_at "unf"
          wtm_at "gx"
          refine g_tup (by show 3 ≤ 100000; decide) fun t0 H3 n3 s3 et0 => ?_
          refine g_lst (by show 1 ≤ 100000; decide) fun da H4 n4 s4 eda => ?_
          wtm_at "gx"
          refine g_tup (by show 2 ≤ 100000; decide) fun t1 H5 n5 s5 et1 => ?_
          wtm_at "gx"
          refine g_tup (by show 2 ≤ 100000; decide) fun t2 H6 n6 s6 et2 => ?_
          refine g_lst (by show 2 ≤ 100000; decide) fun pa H7 n7 s7 epa => ?_
          refine g_tup (by show 2 ≤ 100000; decide) fun t H8 n8 s8 et => ?_
          have s38 : Same H2 H8 := s3.trans (s4.trans (s5.trans (s6.trans (s7.trans s8))))
          refine g_append1 (s38 _ _ e2) (by omega) fun H9 b9 e9 => ?_
          have nd1 : H1 da = none := b2.free (fun e => by rw [e, s3 _ _ e2] at n4; cases n4) (s3.free n4)
          have np1 : H1 pa = none := b2.free (fun e => by rw [e, s6 _ _ (s5 _ _ (s4 _ _ (s3 _ _ e2)))] at n7; cases n7) (s3.free (s4.free (s5.free (s6.free n7))))
          refine ⟨ts ++ [V.ref t], _, rfl, But.tr b9 (But.sa s38 b2), e9, by rw [List.length_append, lts]; rfl, ?_⟩
          rw [List.range_succ, List.map_append]
          refine pd_app (pd_imp (fun v s h => (h.same s38).but b9 (s38 _ _ e2) efa) hp) (pd_one ?_)
          have hF : FsH H1 H8 j i (.ref t) (opL i c (i + 1 + k)) := by
            refine ⟨t, da, pa, [t0], rfl, et, dds_one (d := (i + 1 + k, Dw.put (oth c))) (s8 _ _ (s7 _ _ (s6 _ _ (s5 _ _ eda)))) (s8 _ _ (s7 _ _ (s6 _ _ (s5 _ _ (s4 _ _ et0))))), prs2 (x := (i + 1, i + 1 + k)) (y := (i + 1 + k, j)) (s8 _ _ epa) (s8 _ _ (s7 _ _ (s6 _ _ et1))) (s8 _ _ (s7 _ _ et2)), nd1, np1⟩
          exact hF.but b9 (s38 _ _ e2) efa
        · obtain ⟨ts, y5, rfl, b2, e2, lts, hp⟩ := hv
          rw [erg] at hp lts
          exact ⟨ts, _, _, _, rfl, b2, e2, by omega, hp⟩
      · rw [if_neg ho]
        exact ⟨[], _, _, _, rfl, But.refl, efa, Nat.zero_le _, .nil⟩
    · rintro σ H2 ⟨ts, y4, y5, y6, rfl, b2, e2, lts, hp⟩
      have erg : ((j : Int) - (i : Int)).toNat = j - i := by omega
      wtm_at "unf"
      wtm_at "gx"
      refine ⟨_, _, rfl, ⟨by omega, by omega, by omega, by omega⟩, for_rng (fun k σ H3 => ∃ (ts' : List V) (y5 y6 : Option V), σ = [some (V.ref p), some (V.int i), some (V.int j), some (V.ref fa), y4, y5, y6] ∧ But fa H1 H3 ∧ H3 fa = some (.lst ts') ∧ ts'.length ≤ ts.length + k ∧ Paired (FsH H1 H3 j i) ts' ((if c ∈ OPN then (List.range (j - i)).map fun k => opL i c (i + 1 + k) else []) ++ (List.range k).flatMap fun k => clL l i (i + k))) ⟨ts, y5, y6, rfl, b2, e2, Nat.le_refl _, by rw [show (List.range 0).flatMap (fun k => clL l i (i + k)) = [] from rfl, List.append_nil]; exact hp⟩ (fun k σ H3 hk hv => ?_) (fun σ H3 hv => ?_)⟩
      · obtain ⟨ts', y5, y6, rfl, b3, e3, l3, hp3⟩ := hv
        rw [erg] at hk
        have hG3 := hG1.butL b3 efa (hG.fresh nfa).1 (hG.fresh nfa).2
        have hd : l[i + k]? = some l[i + k] := List.getElem?_eq_getElem (by omega)
        generalize l[i + k] = d at hd
        have ecl : clL l i (i + k) = if d ∈ CLO then [Fs.two (.pt (oth d)) i (i + k) (.kp d) (i + k + 1)] else [] := by unfold clL; rw [hd]
        have efl : (List.range (k + 1)).flatMap (fun k => clL l i (i + k)) = (List.range k).flatMap (fun k => clL l i (i + k)) ++ clL l i (i + k) := by rw [List.range_succ, List.flatMap_append]; simp
        rw [efl, ecl]
        have eint : (i : Int) + k = ((i + k : Nat) : Int) := by omega
        rw [eint]
        wtm_at "unf"
        wtm_at "gx"
        refine g_wsig T hG3 ?_
        wtm_at "gx"
        refine g_ixTn (i + k) (by omega) rfl hd ?_
        wtm_at "gx"
        refine g_test (fun ho => ?_) (fun ho => ?_)
        · rw [if_pos ho]
          wtm_at "gx"
          refine g_wsig T hG3 ?_
          wtm_at "gx"
          refine g_ixTn (i + k) (by omega) rfl hd ?_
          refine ⟨d, rfl, brk_or.mpr (.inr ho), ?_⟩
          refine g_ixT (by decide) (atI_of (at_opn d ho)) ?_
          wtm_at "gx"
          refine g_tup (by show 3 ≤ 100000; decide) fun t0 G3 n3 s3 et0 => ?_
          refine g_lst (by show 1 ≤ 100000; decide) fun da H4 n4 s4 eda => ?_
          wtm_at "gx"
          refine g_tup (by show 2 ≤ 100000; decide) fun t1 H5 n5 s5 et1 => ?_
          wtm_at "gx"
          refine g_tup (by show 2 ≤ 100000; decide) fun t2 H6 n6 s6 et2 => ?_
          refine g_lst (by show 2 ≤ 100000; decide) fun pa H7 n7 s7 epa => ?_
          refine g_tup (by show 2 ≤ 100000; decide) fun t H8 n8 s8 et => ?_
          have s38 : Same H3 H8 := s3.trans (s4.trans (s5.trans (s6.trans (s7.trans s8))))
          refine g_append1 (s38 _ _ e3) (by omega) fun H9 b9 e9 => ?_
          have nd1 : H1 da = none := b3.free (fun e => by rw [e, s3 _ _ e3] at n4; cases n4) (s3.free n4)
          have np1 : H1 pa = none := b3.free (fun e => by rw [e, s6 _ _ (s5 _ _ (s4 _ _ (s3 _ _ e3)))] at n7; cases n7) (s3.free (s4.free (s5.free (s6.free n7))))
          refine ⟨ts' ++ [V.ref t], _, _, rfl, But.tr b9 (But.sa s38 b3), e9, by rw [List.length_append]; simp; omega, ?_⟩
          rw [← List.append_assoc]
          refine pd_app (pd_imp (fun v s h => (h.same s38).but b9 (s38 _ _ e3) efa) hp3) (pd_one ?_)
          have hF : FsH H1 H8 j i (.ref t) (Fs.two (.pt (oth d)) i (i + k) (.kp d) (i + k + 1)) := by
            refine ⟨t, da, pa, [t0], rfl, et, dds_one (d := (i, Dw.put (oth d))) (s8 _ _ (s7 _ _ (s6 _ _ (s5 _ _ eda)))) (s8 _ _ (s7 _ _ (s6 _ _ (s5 _ _ (s4 _ _ et0))))), prs2 (x := (i, i + k)) (y := (i + k + 1, j)) (s8 _ _ epa) (s8 _ _ (s7 _ _ (s6 _ _ et1))) (s8 _ _ (s7 _ _ et2)), nd1, np1⟩
          exact hF.but b9 (s38 _ _ e3) efa
        · rw [if_neg ho, List.append_nil]
          exact ⟨ts', _, _, rfl, b3, e3, by omega, hp3⟩
      · obtain ⟨ts', y5, y6, rfl, b3, e3, l3, hp3⟩ := hv
        rw [erg] at hp3 l3
        wtm_at "unf"
        wtm_at "gx"
        exact q fa ts' H3 nfa (Same.b0 b3 s1 nfa) e3 (by omega) (pd_imp (fun v s h => h.old s1) hp3)
/-! Ways.first_steps -/
def sp_Ways_first_steps (K : PySem.W.Frag) : Sp := fun vs H Q _ => ∃ (p : Addr) (i j : Nat) (l : List Nat) (cd kd : Addr) (crs krs : List Addr) (fc fk : Nat → List V), vs = [.ref p, .int i, .int j] ∧ WaysG K H p l wAll cd kd crs krs fc fk ∧ i < j ∧ j ≤ l.length ∧ l.length ≤ 1000 ∧
  ∀ (fa : Addr) (ts : List V) (H' : Hp), H fa = none → Same H H' → H' fa = some (.lst ts) → ts.length ≤ 10 * (j - i) → Paired (FsH H H' j i) ts (fsL l i j) → Q (.ref fa) H'
theorem ok_Ways_first_steps (T : Facts K mg) : C8.Met P w K mg base 4 (He.ga K "Ways") "first_steps" (sp_Ways_first_steps K) [] := by
  refine metD T.m_Ways_first_steps sc_Ways_first_steps (fun vs H Q E h => ?_) (fun f cdv A outer s H vs Q E hr h => ?_)
  · obtain ⟨p, i, j, l, cd, kd, crs, krs, fc, fk, rfl, hG, hij, hj, hll, q⟩ := h; rfl
  · obtain ⟨p, i, j, l, cd, kd, crs, krs, fc, fk, rfl, hG, hij, hj, hll, q⟩ := h
    refine ⟨_, (pss_cons (ps_set (i := 3) sc_Ways_first_steps.nd rfl (Or.inl rfl) (pe_lst pa_nil))
       (C8.pss_cut (ps_ifC (PW.pt (pw_and (pt_cmpR op_notInT (pe_ix ix_txt (pe_fld (pv 0) rfl) (pv 1) (fun _ _ => rfl)) (C8.pe_gc rfl T.c_OPENING) (by rfl)) (pw_and1 (pt_cmpR op_notInT (pe_ix ix_txt (pe_fld (pv 0) rfl) (pv 1) (fun _ _ => rfl)) (C8.pe_gc rfl T.c_CLOSING) (by rfl)))))
       (pss_one (ps_expr (pe_bm PySem.F.plainAttrs_list PySem.F.slot_list_append PySem.F.type_list_append mt_append (pv 3) (pa_cons (pe_tup (pa_cons (pe_lst pa_nil) (pa_cons (pe_lst (pa_cons (pe_tup (pa_cons (pe_op op_add (pv 1) pe_int) (pa_cons (pv 2) pa_nil))) pa_nil)) pa_nil))) pa_nil))))
       (C8.pss_cut (ps_if (pt_cmpR op_in_seq (pe_strS (l := [115, 116, 114, 105, 107, 101]) (by decide +kernel)) (pe_fld (pv 0) rfl) (by rfl))
       (pss_one (ps_expr (pe_bm PySem.F.plainAttrs_list PySem.F.slot_list_append PySem.F.type_list_append mt_append (pv 3) (pa_cons (pe_tup (pa_cons (pe_lst (pa_cons (pe_tup (pa_cons (pv 1) (pa_cons (pe_strS (l := [115, 116, 114, 105, 107, 101]) (by decide +kernel)) (pa_cons (pe_strS (l := []) (by decide +kernel)) pa_nil)))) pa_nil)) (pa_cons (pe_lst (pa_cons (pe_tup (pa_cons (pe_op op_add (pv 1) pe_int) (pa_cons (pv 2) pa_nil))) pa_nil)) pa_nil))) pa_nil))))
       pss_nil)
       (pss_one (ps_expr (pe_bm PySem.F.plainAttrs_list PySem.F.slot_list_extend PySem.F.type_list_extend mt_extend (pv 3) (pa_cons (pe_met (ok_Ways_pairs T) hr (by omega) (pv 0) (pa_cons (pv 1) (pa_cons (pv 2) pa_nil))) pa_nil))))))
       (C8.pss_cut (ps_if (pt_cmpR op_in_seq (pe_strS (l := [112, 117, 116]) (by decide +kernel)) (pe_fld (pv 0) rfl) (by rfl))
       (pss_one (ps_expr (pe_bm PySem.F.plainAttrs_list PySem.F.slot_list_extend PySem.F.type_list_extend mt_extend (pv 3) (pa_cons (pe_met (ok_Ways_put_partners T) hr (by omega) (pv 0) (pa_cons (pv 1) (pa_cons (pv 2) pa_nil))) pa_nil))))
       pss_nil)
       (pss_one (ps_ret (pv 3)))))), ?_⟩
    rw [st_Ways_first_steps]
    have hc : l[i]? = some l[i] := List.getElem?_eq_getElem (by omega)
    generalize l[i] = c at hc
    wtm_at "unf"
    wtm_at "gx"
    refine g_lst (by show 0 ≤ 100000; decide) fun fa H1 nfa s1 efa => ?_
    have hG1 := hG.same s1
    refine ⟨fun σ H2 => ∃ (ts : List V), σ = [some (V.ref p), some (V.int i), some (V.int j), some (V.ref fa)] ∧ But fa H1 H2 ∧ H2 fa = some (.lst ts) ∧ ts.length ≤ 1 + 4 * (j - i) ∧ Paired (FsH H1 H2 j i) ts (if c ∈ BRK then Fs.one (.st c) (i + 1) :: (List.range (j - i - 1)).flatMap fun k => prL l i c (i + 1 + k) else [Fs.one (.kp c) (i + 1)]), ?_, ?_⟩
    · refine g_ifC (b := decide (c ∉ BRK)) (fun Q q => ?_) (fun h => ?_) (fun h => ?_)
      · wtm_at "unf"
        wtm_at "gx"
        refine g_wsig T hG1 ?_
        wtm_at "gx"
        refine g_ixTn i (by omega) rfl hc ?_
        wtm_at "gx"
        by_cases ho : c ∈ OPN
        · refine ⟨_, rfl, ?_⟩
          rw [if_neg (by rw [decide_eq_true ho]; exact Bool.false_ne_true)]
          rw [decide_eq_false (fun z => z (brk_or.mpr (.inl ho)))] at q
          exact q
        · refine ⟨_, rfl, ?_⟩
          rw [if_pos (by rw [decide_eq_false ho]; rfl)]
          wtm_at "gx"
          refine g_wsig T hG1 ?_
          wtm_at "gx"
          refine g_ixTn i (by omega) rfl hc ?_
          wtm_at "gx"
          refine ⟨_, rfl, ?_⟩
          have e : decide (¬ c ∈ BRK) = !decide (c ∈ CLO) := by
            by_cases h2 : c ∈ CLO
            · rw [decide_eq_true h2, decide_eq_false (show ¬ ¬ c ∈ BRK from fun hq => hq (brk_or.mpr (.inr h2)))]; rfl
            · rw [decide_eq_false h2, decide_eq_true (show ¬ c ∈ BRK from fun hb => (brk_or.mp hb).elim ho h2)]; rfl
          rw [e] at q
          exact q
      · have hb := of_decide_eq_true h
        rw [if_neg hb]
        wtm_at "unf"
        wtm_at "gx"
        refine g_lst (by show 0 ≤ 100000; decide) fun da H2 n2 s2 eda => ?_
        wtm_at "gx"
        refine g_tup (by show 2 ≤ 100000; decide) fun t1 H3 n3 s3 et1 => ?_
        refine g_lst (by show 1 ≤ 100000; decide) fun pa H4 n4 s4 epa => ?_
        refine g_tup (by show 2 ≤ 100000; decide) fun t H5 n5 s5 et => ?_
        have s15 : Same H1 H5 := s2.trans (s3.trans (s4.trans s5))
        refine g_append1 (s15 _ _ efa) (by decide) fun H6 b6 e6 => ?_
        have nd1 : H1 da = none := n2
        have np1 : H1 pa = none := s2.free (s3.free n4)
        refine ⟨[V.ref t], But.sa s15 But.refl |>.trans b6, e6, by simp, ?_⟩
        have hF : FsH H1 H5 j i (.ref t) (Fs.one (.kp c) (i + 1)) := ⟨t, da, pa, [], rfl, et, dds_nil (s5 _ _ (s4 _ _ (s3 _ _ eda))), prs1 (x := (i + 1, j)) (s5 _ _ epa) (s5 _ _ (s4 _ _ et1)), nd1, np1⟩
        exact pd_one (hF.but b6 (s15 _ _ efa) efa)
      · have hb : c ∈ BRK := Classical.byContradiction fun z => by rw [decide_eq_true z] at h; cases h
        rw [if_pos hb]
        wtm_at "unf"
        refine ⟨fun σ H2 => ∃ (ts : List V), σ = [some (V.ref p), some (V.int i), some (V.int j), some (V.ref fa)] ∧ But fa H1 H2 ∧ H2 fa = some (.lst ts) ∧ ts.length ≤ 1 ∧ Paired (FsH H1 H2 j i) ts [Fs.one (.st c) (i + 1)], ?_, ?_⟩
        · wtm_at "gx"
          refine g_wword T hG1 fun wd hw => ?_
          refine g_inStrike hw ?_
          refine ⟨true, rfl, ?_⟩
          rw [if_pos rfl]
          wtm_at "gx"
          refine g_tup (by show 3 ≤ 100000; decide) fun t0 H2 n2 s2 et0 => ?_
          refine g_lst (by show 1 ≤ 100000; decide) fun da H2b n2b s2b eda => ?_
          wtm_at "gx"
          refine g_tup (by show 2 ≤ 100000; decide) fun t1 H3 n3 s3 et1 => ?_
          refine g_lst (by show 1 ≤ 100000; decide) fun pa H4 n4 s4 epa => ?_
          refine g_tup (by show 2 ≤ 100000; decide) fun t H5 n5 s5 et => ?_
          have s15 : Same H1 H5 := s2.trans (s2b.trans (s3.trans (s4.trans s5)))
          refine g_append1 (s15 _ _ efa) (by decide) fun H6 b6 e6 => ?_
          have nd1 : H1 da = none := s2.free n2b
          have np1 : H1 pa = none := s2.free (s2b.free (s3.free n4))
          refine ⟨[V.ref t], rfl, But.sa s15 But.refl |>.trans b6, e6, by simp, ?_⟩
          have hF : FsH H1 H5 j i (.ref t) (Fs.one (.st c) (i + 1)) := ⟨t, da, pa, [t0], rfl, et, dds_one (d := (i, Dw.str)) (s5 _ _ (s4 _ _ (s3 _ _ eda))) (s5 _ _ (s4 _ _ (s3 _ _ (s2b _ _ et0)))), prs1 (x := (i + 1, j)) (s5 _ _ epa) (s5 _ _ (s4 _ _ et1)), nd1, np1⟩
          exact pd_one (hF.but b6 (s15 _ _ efa) efa)
        · rintro σ H2 ⟨ts, rfl, b2, e2, lts, hp⟩
          have hG2 := hG1.butL b2 efa (hG.fresh nfa).1 (hG.fresh nfa).2
          wtm_at "unf"
          wtm_at "gx"
          refine g_wmet hG2 (fun _ _ _ _ => rfl) ?_
          wtm_at "gx"
          refine ⟨p, i, j, l, cd, kd, crs, krs, fc, fk, c, rfl, hG2, hc, hb, hij, hj, hll, fun la us H3 nla s3 ela llu hpu => ?_⟩
          refine g_ext (s3 _ _ e2) ela (by omega) fun H4 b4 e4 => ?_
          refine ⟨ts ++ us, But.tr b4 (But.sa s3 b2), e4, by rw [List.length_append]; omega, ?_⟩
          refine pd_app (xs := ts) (ys := [Fs.one (.st c) (i + 1)]) (pd_imp (fun v s h => (h.same s3).but b4 (s3 _ _ e2) efa) hp) (pd_imp (fun v s h => ?_) hpu)
          obtain ⟨t, da, pa, rs, e, h1, h2, h3, h4, h5⟩ := h
          have z1 : da ≠ fa := fun e => by rw [e, e2] at h4; cases h4
          have z2 : pa ≠ fa := fun e => by rw [e, e2] at h5; cases h5
          exact FsH.but ⟨t, da, pa, rs, e, h1, h2, h3, b2.free z1 h4, b2.free z2 h5⟩ b4 (s3 _ _ e2) efa
    · rintro σ H2 ⟨ts, rfl, b2, e2, lts, hp⟩
      have hG2 := hG1.butL b2 efa (hG.fresh nfa).1 (hG.fresh nfa).2
      wtm_at "unf"
      refine ⟨fun σ H3 => ∃ (ts' : List V), σ = [some (V.ref p), some (V.int i), some (V.int j), some (V.ref fa)] ∧ But fa H1 H3 ∧ H3 fa = some (.lst ts') ∧ ts'.length ≤ 10 * (j - i) ∧ Paired (FsH H1 H3 j i) ts' (fsL l i j), ?_, ?_⟩
      · wtm_at "gx"
        refine g_wword T hG2 fun wd hw => ?_
        refine g_inPut hw ?_
        refine ⟨true, rfl, ?_⟩
        rw [if_pos rfl]
        wtm_at "gx"
        refine g_wmet hG2 (fun _ _ _ _ => rfl) ?_
        wtm_at "gx"
        refine ⟨p, i, j, l, cd, kd, crs, krs, fc, fk, c, rfl, hG2, hc, hij, hj, hll, fun la us H3 nla s3 ela llu hpu => ?_⟩
        refine g_ext (s3 _ _ e2) ela (by omega) fun H4 b4 e4 => ?_
        refine ⟨ts ++ us, rfl, But.tr b4 (But.sa s3 b2), e4, by rw [List.length_append]; omega, ?_⟩
        have z := pd_app (pd_imp (fun v s h => (h.same s3).but b4 (s3 _ _ e2) efa) hp) (pd_imp (S := FsH H1 H4 j i) (fun v s h => by
          obtain ⟨t, da, pa, rs, e, h1, h2, h3, h4, h5⟩ := h
          have z1 : da ≠ fa := fun e => by rw [e, e2] at h4; cases h4
          have z2 : pa ≠ fa := fun e => by rw [e, e2] at h5; cases h5
          exact FsH.but ⟨t, da, pa, rs, e, h1, h2, h3, b2.free z1 h4, b2.free z2 h5⟩ b4 (s3 _ _ e2) efa) hpu)
        have ef : fsL l i j = (if c ∈ BRK then Fs.one (.st c) (i + 1) :: (List.range (j - i - 1)).flatMap fun k => prL l i c (i + 1 + k) else [Fs.one (.kp c) (i + 1)]) ++ ((if c ∈ OPN then (List.range (j - i)).map fun k => opL i c (i + 1 + k) else []) ++ (List.range (j - i)).flatMap fun k => clL l i (i + k)) := by
          unfold fsL
          rw [hc]
          dsimp only
          by_cases hb : c ∈ BRK
          · rw [if_pos hb, if_pos hb, List.append_assoc]
          · rw [if_neg hb, if_neg hb, if_neg (fun ho => hb (brk_or.mpr (.inl ho)))]
            rfl
        rw [ef]
        exact z
      · rintro σ H3 ⟨ts', rfl, b3, e3, l3, hp3⟩
        wtm_at "unf"
        wtm_at "gx"
        exact q fa ts' H3 nfa (Same.b0 b3 s1 nfa) e3 l3 (pd_imp (fun v s h => h.old s1) hp3)
theorem cV_ck {l : List Nat} {i j : Nat} (h : i ≤ j) (hj : j ≤ l.length) : cV (mcN l wAll i j) = .int (cN l i j : Nat) ∧ nV (mcN l wAll i j) = .int (kN l i j : Nat) := by
  rw [mc_ck h hj]
  exact ⟨rfl, rfl⟩
theorem fs_parts {l : List Nat} {i j : Nat} {s : Fs} (h : FsOk l i j s) (hij : i < j) (hj : j ≤ l.length) : ∀ p ∈ s.parts j, i ≤ p.1 ∧ p.1 ≤ p.2 ∧ p.2 ≤ j := by
  cases h with
  | one h0 hk ho hn hi => intro p hp; rw [List.mem_singleton.mp hp]; exact ⟨by show i ≤ i + 1; omega, by show i + 1 ≤ j; omega, Nat.le_refl _⟩
  | two h0 a m t b o hh ht oo ho to hi ti ea eb h1 h2 hz =>
    intro p hp
    rcases List.mem_cons.mp hp with e | hp
    · rw [e]; exact ⟨by show i ≤ a; omega, h1, by show m ≤ j; omega⟩
    · rw [List.mem_singleton.mp hp]; exact ⟨by show i ≤ b; omega, h2, Nat.le_refl _⟩
theorem man_prod (l : List Nat) (j : Nat) (s : Fs) : s.man l j = ((s.parts j).map fun p => kN l p.1 p.2).foldl (· * ·) 1 := by
  cases s with
  | one h a => show _ = 1 * kN l a j; rw [Nat.one_mul]; rfl
  | two h a m t b => show _ = 1 * kN l a m * kN l b j; rw [Nat.one_mul]; rfl
theorem parts_len (j : Nat) (s : Fs) : (s.parts j).length ≤ 2 := by cases s <;> simp [Fs.parts]
/-! Ways.together -/
def sp_Ways_together (K : PySem.W.Frag) : Sp := fun vs H Q _ => ∃ (p : Addr) (i j : Nat) (l : List Nat) (cd kd : Addr) (crs krs : List Addr) (s : Fs) (da pa : Addr) (rs : List Addr), vs = [.ref p, .ref da, .ref pa] ∧ WaysAt K H p l wAll cd kd crs krs ∧ FsOk l i j s ∧ i < j ∧ j ≤ l.length ∧ l.length ≤ 100 ∧ Dds H da rs (s.ds i) ∧ Prs H pa (s.parts j) ∧
  ∀ (t : Addr) (H' : Hp), H t = none → Same H H' → H' t = some (.tup [.int (s.num l i j : Nat), .int (s.man l j : Nat)]) → Q (.ref t) H'
theorem ok_Ways_together (T : Facts K mg) : C8.Met P w K mg base 2 (He.ga K "Ways") "together" (sp_Ways_together K) [] := by
  refine metD T.m_Ways_together sc_Ways_together (fun vs H Q E h => ?_) (fun f cdv A outer s H vs Q E hr h => ?_)
  · obtain ⟨p, i, j, l, cd, kd, crs, krs, s0, da, pa, rs, rfl, hA, hs, hij, hj, hll, hD, hP, q⟩ := h; rfl
  · obtain ⟨p, i, j, l, cd, kd, crs, krs, s0, da, pa, rs, rfl, hA, hs, hij, hj, hll, hD, hP, q⟩ := h
    refine ⟨_, (pss_cons (ps_set (i := 3) sc_Ways_together.nd rfl (Or.inl rfl) (pe_callB call_lenL rfl T.b_len PySem.boot_len (pa_cons (pv 1) pa_nil)))
       (pss_cons (ps_set (i := 4) sc_Ways_together.nd rfl (Or.inl rfl) pe_int)
       (pss_cons (ps_for PassesOwn.never rfl (pi_list (pv 2)) (pg_tup rfl (pgs_cons (pg_name (i := 5) sc_Ways_together.nd rfl (Or.inl rfl)) (pgs_cons (pg_name (i := 6) sc_Ways_together.nd rfl (Or.inl rfl)) pgs_nil)))
       (pss_cons (ps_if (pt_cmpR op_isN (pe_met (ok_Ways_cost T) hr (by omega) (pv 0) (pa_cons (pv 5) (pa_cons (pv 6) pa_nil))) pe_non (nomark _))
       (pss_one (ps_ret (pe_tup (pa_cons pe_non (pa_cons pe_int pa_nil)))))
       pss_nil)
       (pss_cons (ps_aug (i := 3) sc_Ways_together.nd rfl (Or.inl rfl) (pe_met (ok_Ways_cost T) hr (by omega) (pv 0) (pa_cons (pv 5) (pa_cons (pv 6) pa_nil))) ip_add)
       (pss_one (ps_aug (i := 4) sc_Ways_together.nd rfl (Or.inl rfl) (pe_met (ok_Ways_count T) hr (by omega) (pv 0) (pa_cons (pv 5) (pa_cons (pv 6) pa_nil))) ip_mulW)))))
       (pss_one (ps_ret (pe_tup (pa_cons (pv 3) (pa_cons (pv 4) pa_nil)))))))), ?_⟩
    rw [st_Ways_together]
    have hpt := fs_parts hs hij hj
    have hpl := parts_len j s0
    wtm_at "unf"
    wtm_at "gx"
    refine g_lenL (sq_of hD.hd) ?_
    obtain ⟨ps, hP1, hP2, hP3⟩ := id hP
    rw [List.length_map, hD.len]
    wtm_at "gx"
    refine ⟨_, rfl, ⟨_, sq_of hP1⟩, for_lst (ps.map V.ref) (fun pre σ H1 => ∃ (y5 y6 : Option V) (n m : Nat), σ = [some (V.ref p), some (V.ref da), some (V.ref pa), some (V.int n), some (V.int m), y5, y6] ∧ H1 = H ∧ n = (s0.ds i).length + (((s0.parts j).take pre.length).map fun p => cN l p.1 p.2).sum ∧ m = (((s0.parts j).take pre.length).map fun p => kN l p.1 p.2).foldl (· * ·) 1 ∧ m < 2 ^ (1601 * pre.length + 1)) ⟨none, none, _, 1, rfl, rfl, by simp, rfl, by decide⟩ (fun pre post σ H1 e hv => ?_) (fun pre x post σ H1 e hv => ?_) (fun σ H1 hv => ?_)⟩
    · obtain ⟨y5, y6, n, m, rfl, rfl, _⟩ := hv
      exact sq_of hP1
    · obtain ⟨y5, y6, n, m, rfl, rfl, hn, hm, hml⟩ := hv
      have hlt : pre.length < ps.length := by
        have := congrArg List.length e
        simp at this
        omega
      have hx : (ps.map V.ref)[pre.length]? = some x := mid_at e
      have hr : ps[pre.length]? = some ps[pre.length] := List.getElem?_eq_getElem hlt
      have hxx : (s0.parts j)[pre.length]? = some (s0.parts j)[pre.length] := List.getElem?_eq_getElem (by omega)
      have hx2 : x = V.ref ps[pre.length] := by
        rw [List.getElem?_map, hr] at hx
        exact (Option.some.inj hx).symm
      subst hx2
      have ht := hP3 _ _ _ hr hxx
      have etk : (s0.parts j).take (pre ++ [V.ref ps[pre.length]]).length = (s0.parts j).take pre.length ++ [(s0.parts j)[pre.length]] := by
        rw [List.length_append, List.length_singleton]
        exact List.take_succ_eq_append_getElem (by omega)
      have hmem : (s0.parts j)[pre.length] ∈ s0.parts j := List.getElem_mem _
      rw [etk]
      rw [List.length_append, List.length_singleton]
      have hp2 : pre.length < 2 := by omega
      generalize (s0.parts j)[pre.length] = bm at ht etk hmem
      generalize ps[pre.length] = r at ht etk
      obtain ⟨u, v⟩ := bm
      obtain ⟨q1, q2, q3⟩ := hpt _ hmem
      dsimp only at q1 q2 q3 ht
      have hck := cV_ck (l := l) q2 (by omega)
      have hkb := kN_lt (l := l) q2 (by omega) hll
      generalize pre.length = k at hn hm hml hp2
      have hv1 : (colV cV (mcN l wAll) v (v + 1))[u]? = some (.int (cN l u v : Nat)) := by rw [colV_at (by omega), hck.1]
      have hv2 : (colV nV (mcN l wAll) v (v + 1))[u]? = some (.int (kN l u v : Nat)) := by rw [colV_at (by omega), hck.2]
      have hcl := hA.cl
      have hkl := hA.kl
      wtm_at "unf"
      refine ⟨_, _, rfl, st_of ht, rfl, _, _, rfl, _, _, rfl, rfl, ?_⟩
      wtm_at "unf"
      wtm_at "gx"
      refine g_wmet hA.g (fun _ _ _ _ => rfl) ?_
      wtm_at "gx"
      refine ⟨p, u, v, l, wAll, cd, kd, crs, krs, _, _, _, rfl, hA.g, by omega, hv1, ?_⟩
      wtm_at "gx"
      refine ⟨_, rfl, ?_⟩
      wtm_at "gx"
      refine g_wmet hA.g (fun _ _ _ _ => rfl) ?_
      wtm_at "gx"
      refine ⟨p, u, v, l, wAll, cd, kd, crs, krs, _, _, _, rfl, hA.g, by omega, hv1, ?_⟩
      wtm_at "gx"
      refine ⟨_, rfl, ?_⟩
      wtm_at "gx"
      refine g_wmet hA.g (fun _ _ _ _ => rfl) ?_
      wtm_at "gx"
      refine ⟨p, u, v, l, wAll, cd, kd, crs, krs, _, _, _, rfl, hA.g, by omega, hv2, ?_⟩
      refine g_I (wide_mul (a := 1601 * k + 1) (b := 1601) (by rw [Int.natAbs_natCast]; exact hml) (by rw [Int.natAbs_natCast]; exact hkb) (by omega) (by decide) (by omega)) ?_
      refine ⟨some (V.int u), some (V.int v), n + cN l u v, m * kN l u v, by simp, rfl, ?_, ?_, ?_⟩
      · rw [List.map_append, List.sum_append_nat, hn]
        show _ = _ + (_ + (cN l u v + 0))
        omega
      · rw [List.map_append, List.foldl_append, ← hm]
        rfl
      · rw [show 1601 * (k + 1) + 1 = (1601 * k + 1) + 1601 by omega, Nat.pow_add]
        exact Nat.mul_lt_mul'' hml hkb
    · obtain ⟨y5, y6, n, m, rfl, rfl, hn, hm, hml⟩ := hv
      rw [List.length_map, hP2, List.take_length] at hn hm
      wtm_at "unf"
      wtm_at "gx"
      refine g_tup (by show 2 ≤ 100000; decide) fun t H1 nt s1 et => q t H1 nt s1 ?_
      rw [et, hn, hm, ← man_prod]
      rfl
/-! least_steps -/
def sp_least_steps (K : PySem.W.Frag) : Sp := fun vs H Q _ => ∃ (p : Addr) (i j : Nat) (l : List Nat) (cd kd : Addr) (crs krs : List Addr), vs = [.ref p, .int i, .int j] ∧ WaysAt K H p l wAll cd kd crs krs ∧ i < j ∧ j ≤ l.length ∧ l.length ≤ 100 ∧
  ∀ (fa : Addr) (ts : List V) (H' : Hp), H fa = none → Same H H' → H' fa = some (.lst ts) → ts.length ≤ 10 * (j - i) → Paired (FlH H H' l j i) ts (lsF l i j) → Q (.ref fa) H'
theorem ok_least_steps (T : Facts K mg) : C8.Cal P w K mg base 5 "least_steps" (sp_least_steps K) [] := by
  refine calD T.f_least_steps sc_least_steps (fun vs H Q E h => ?_) (fun f cdv A outer s H vs Q E hr h => ?_)
  · obtain ⟨p, i, j, l, cd, kd, crs, krs, rfl, hA, hij, hj, hll, q⟩ := h; rfl
  · obtain ⟨p, i, j, l, cd, kd, crs, krs, rfl, hA, hij, hj, hll, q⟩ := h
    refine ⟨_, (pss_cons (ps_set (i := 3) sc_least_steps.nd rfl (Or.inl rfl) (pe_lst pa_nil))
       (pss_cons (ps_for PassesOwn.never rfl (pi_list (pe_met (ok_Ways_first_steps T) hr (by omega) (pv 0) (pa_cons (pv 1) (pa_cons (pv 2) pa_nil)))) (pg_tup rfl (pgs_cons (pg_name (i := 4) sc_least_steps.nd rfl (Or.inl rfl)) (pgs_cons (pg_name (i := 5) sc_least_steps.nd rfl (Or.inl rfl)) pgs_nil)))
       (pss_cons (ps_asg (pe_met (ok_Ways_together T) hr (by omega) (pv 0) (pa_cons (pv 4) (pa_cons (pv 5) pa_nil))) (pg_tup rfl (pgs_cons (pg_name (i := 6) sc_least_steps.nd rfl (Or.inl rfl)) (pgs_cons (pg_name (i := 7) sc_least_steps.nd rfl (Or.inl rfl)) pgs_nil))))
       (pss_one (ps_if (pt_cmpR op_eq (pv 6) (pe_met (ok_Ways_cost T) hr (by omega) (pv 0) (pa_cons (pv 1) (pa_cons (pv 2) pa_nil))) (nomark _))
       (pss_one (ps_expr (pe_bm PySem.F.plainAttrs_list PySem.F.slot_list_append PySem.F.type_list_append mt_append (pv 3) (pa_cons (pe_tup (pa_cons (pv 4) (pa_cons (pv 5) (pa_cons (pv 7) pa_nil)))) pa_nil))))
       pss_nil))))
       (pss_one (ps_ret (pv 3))))), ?_⟩
    rw [st_least_steps]
    have hcl := hA.cl
    have hkl := hA.kl
    have hv0 : (colV cV (mcN l wAll) j (j + 1))[i]? = some (.int (cN l i j : Nat)) := by rw [colV_at (by omega), (cV_ck (Nat.le_of_lt hij) hj).1]
    wtm_at "unf"
    wtm_at "gx"
    refine g_lst (by show 0 ≤ 100000; decide) fun fa H1 nfa s1 efa => ?_
    wtm_at "gx"
    have hG1 := hA.g.same s1
    refine g_wmet hG1 (fun _ _ _ _ => rfl) ?_
    wtm_at "gx"
    refine ⟨p, i, j, l, cd, kd, crs, krs, _, _, rfl, hG1, hij, hj, by omega, fun la us H2 nla s2 ela llu hpu => ?_⟩
    have hne : la ≠ fa := fun e => by rw [e, efa] at nla; cases nla
    refine ⟨_, rfl, ⟨_, sq_of ela⟩, for_lst us (fun pre σ H3 => ∃ (ts : List V) (y4 y5 y6 y7 : Option V), σ = [some (V.ref p), some (V.int i), some (V.int j), some (V.ref fa), y4, y5, y6, y7] ∧ But fa H2 H3 ∧ H3 fa = some (.lst ts) ∧ ts.length ≤ pre.length ∧ Paired (FlH H1 H3 l j i) ts (((fsL l i j).take pre.length).filter fun s => decide (s.num l i j = cN l i j))) ⟨[], none, none, none, none, rfl, But.refl, s2 _ _ efa, Nat.le_refl _, .nil⟩ (fun pre post σ H3 e hv => ?_) (fun pre x post σ H3 e hv => ?_) (fun σ H3 hv => ?_)⟩
    · obtain ⟨ts, y4, y5, y6, y7, rfl, b3, _⟩ := hv
      exact sq_of (b3 _ _ hne ela)
    · obtain ⟨ts, y4, y5, y6, y7, rfl, b3, e3, l3, hp3⟩ := hv
      obtain ⟨s0, hF0, hmem, e5⟩ := pd_turn hpu e
      have hok := fs_ok hij hj hmem
      rw [e5, List.filter_append]
      have hF1 := hF0.but b3 (s2 _ _ efa) efa
      have hA3 : WaysAt K H3 p l wAll cd kd crs krs := ⟨((hA.g.same s1).same s2).butL b3 (s2 _ _ efa) (hA.g.fresh nfa).1 (hA.g.fresh nfa).2, hcl, hkl⟩
      obtain ⟨t, da, pa, rs, rfl, et, hD, hP, nd, np⟩ := hF1
      wtm_at "unf"
      refine ⟨_, _, rfl, st_of et, rfl, _, _, rfl, _, _, rfl, rfl, ?_⟩
      wtm_at "unf"
      wtm_at "gx"
      refine g_wmet hA3.g (fun _ _ _ _ => rfl) ?_
      wtm_at "gx"
      refine ⟨p, i, j, l, cd, kd, crs, krs, s0, da, pa, rs, rfl, hA3, hok, hij, hj, hll, hD, hP, fun t2 H4 n4 s4 et2 => ?_⟩
      refine ⟨_, _, rfl, st_of et2, rfl, _, _, rfl, _, _, rfl, rfl, ?_⟩
      wtm_at "unf"
      wtm_at "gx"
      have hG4 := hA3.g.same s4
      refine g_wmet hG4 (fun _ _ _ _ => rfl) ?_
      wtm_at "gx"
      refine ⟨p, i, j, l, wAll, cd, kd, crs, krs, _, _, _, rfl, hG4, by omega, hv0, ?_⟩
      wtm_at "gx"
      refine ⟨_, rfl, ?_⟩
      by_cases hq : s0.num l i j = cN l i j
      · rw [if_pos (by rw [decide_eq_true (by rw [hq])]), List.filter_cons_of_pos (by simp [hq])]
        wtm_at "gx"
        refine g_tup (by show 3 ≤ 100000; decide) fun t3 H5 n5 s5 et3 => ?_
        have hlt : pre.length ≤ 1000 := by rw [e, List.length_append, List.length_cons] at llu; omega
        refine g_append1 (s5 _ _ (s4 _ _ e3)) (by omega) fun H6 b6 e6 => ?_
        refine ⟨ts ++ [V.ref t3], _, _, _, _, rfl, But.tr b6 (But.sa (s4.trans s5) b3), e6, by simp; omega, ?_⟩
        refine pd_app (pd_imp (fun v s h => (h.same (s4.trans s5)).but b6 (s5 _ _ (s4 _ _ e3)) efa) hp3) (pd_one ?_)
        have hL : FlH H1 H5 l j i (.ref t3) s0 := ⟨t3, da, pa, rs, rfl, et3, hD.same (s4.trans s5), hP.same (s4.trans s5), nd, np⟩
        exact hL.but b6 (s5 _ _ (s4 _ _ e3)) efa
      · rw [if_neg (by rw [decide_eq_false (fun e => hq (by have := V.int.inj e; omega))]; exact Bool.false_ne_true), List.filter_cons_of_neg (by simp [hq])]
        rw [show ([] : List Fs).filter (fun s => decide (s.num l i j = cN l i j)) = [] from rfl, List.append_nil]
        exact ⟨ts, _, _, _, _, rfl, But.sa s4 b3, s4 _ _ e3, by simp; omega, pd_imp (fun v s h => h.same s4) hp3⟩
    · obtain ⟨ts, y4, y5, y6, y7, rfl, b3, e3, l3, hp3⟩ := hv
      rw [pd_len hpu, List.take_length] at hp3
      wtm_at "unf"
      wtm_at "gx"
      exact q fa ts H3 nfa (Same.b0 (But.sa s2 But.refl |>.trans b3) s1 nfa) e3 (by omega) (pd_imp (fun v s h => h.old s1) hp3)
end
end K33

set_option maxHeartbeats 4000000
namespace K33
open PySem PySem.Spec PyProof.Rows L2 SX Ly
local macro_rules | `(tactic| wtm_at "unf") => `(tactic| (try simp only [tMetX, tOwnX, tChain, tSeq, tNext, tBreak, tCont, tDrop, tRet, tRetN, tIfS, tAsg, tAug, tC, tOp, tUn, tNil, tCons, tOwn, tCB, tTest, tB, tAnd, tOr, tNot, tAndV, tOrV, tNotV, tIf, gName, gSub, tBM, tBM0, tM0, tM1, tSl, tPart_eq, tNoPart, tLst_eq, tTup_eq, tRevL_eq, tReplT, tRevS, tDGet_eq, sDPut_eq, tDNewT_eq, tMet, tMak, tFld_eq, sFld_eq, C8.tCut, wipe, tYes, gTup, gCons, gNil, List.set_cons_zero, List.set_cons_succ, if_true, if_false, Bool.false_eq_true, Bool.not_true, Bool.not_false, true_and, reduceIte, cx_K, tFor_eq, tLc_eq, iStr, iList, iTup, iRng1, iRng2, iRng3, iEnum, iZip, tLstRg, tRg1, gLst, RZ.iZipA, iEnumS, iZipS, tDNewK_eq, tDGet2, tDIn, tDNotIn, iKd]))
local macro_rules | `(tactic| wtm_at "unfA") => `(tactic| (try simp only [tMetX, tOwnX, tChain, tSeq, tNext, tBreak, tCont, tDrop, tRet, tRetN, tIfS, tAsg, tAug, tC, tOp, tUn, tNil, tCons, tOwn, tCB, tTest, tB, tAnd, tOr, tNot, tIf, gName, gSub, tBM, tBM0, tM0, tM1, tSl, tPart_eq, tNoPart, tLst_eq, tTup_eq, tRevL_eq, tReplT, tRevS, tDGet_eq, sDPut_eq, tDNewT_eq, tMet, tMak, tFld_eq, sFld_eq, C8.tCut, wipe, tYes, gTup, gCons, gNil, List.set_cons_zero, List.set_cons_succ, if_true, if_false, Bool.false_eq_true, Bool.not_true, Bool.not_false, true_and, reduceIte, cx_K, tFor_eq, tLc_eq, iStr, iList, iTup, iRng1, iRng2, iRng3, iEnum, iZip, tLstRg, tRg1, gLst, RZ.iZipA, iEnumS, iZipS, tDNewK_eq, tDGet2, tDIn, tDNotIn, iKd]))
local macro_rules | `(tactic| wtm_at "ne") => `(tactic| first | assumption | (apply Ne.symm; assumption) | (apply ne_new; (· assumption); (· wtm_at "lk")) | (apply Ne.symm; apply ne_new; (· assumption); (· wtm_at "lk")))
local macro_rules | `(tactic| wtm_at "lk") => `(tactic| first | assumption | exact upd_same | (apply Same.get; (· assumption); (· wtm_at "lk")) | (apply But.get; (· assumption); (· wtm_at "ne"); (· wtm_at "lk")))
local macro_rules | `(tactic| wtm_at "sq") => `(tactic| first | assumption | (apply sq_of; wtm_at "lk") | (apply Same.seq; (· assumption); (· wtm_at "sq")) | (apply But.sq; (· assumption); (· wtm_at "ne"); (· wtm_at "sq")))
local macro_rules | `(tactic| wtm_at "fr") => `(tactic| first | assumption | (apply Same.fr; (· assumption); (· wtm_at "sm")) | (apply But.fr; (· assumption); (· wtm_at "sm"); (· wtm_at "ne")))
local macro_rules | `(tactic| wtm_at "sm") => `(tactic| first | exact Same.refl _ | exact But.refl | assumption | (apply Same.tr; (· assumption); (· wtm_at "sm")) | (apply Same.b0; (· assumption); (· wtm_at "sm"); (· wtm_at "fr")) | (apply But.sa; (· assumption); (· wtm_at "sm")) | (apply But.tr; (· assumption); (· wtm_at "sm")) | (apply But.b0; (· assumption); (· wtm_at "sm"); (· wtm_at "fr")) | (apply Same.toBut; wtm_at "sm"))
local macro_rules | `(tactic| wtm_at "sc") => `(tactic| first | exact Int.zero_lt_one | (show (0 : Int) < _; omega) | (show (0 : Int) < _; decide) | exact ⟨by omega, by omega⟩ | exact .inl ⟨by omega, by omega⟩ | exact .inr ⟨by omega, by omega⟩)
local macro_rules | `(tactic| wtm_at "go1") => `(tactic| first | ((with_reducible apply g_var); (· exact rfl)) | with_reducible apply g_I0 | ((with_reducible apply g_I); (· wtm_at "sc")) | with_reducible apply g_U | with_reducible apply g_ipI | ((with_reducible apply g_addT); (· first | omega | (simp; done) | (simp; omega))) | with_reducible apply g_inT | with_reducible apply g_ninT | ((with_reducible apply g_lenT); (· omega)) | with_reducible apply g_findT1 | with_reducible apply g_str | with_reducible apply g_part | with_reducible apply g_intB | ((with_reducible apply g_ixL); (· wtm_at "sq"); (· exact rfl)) | ((with_reducible apply g_setL); (· wtm_at "lk"); (· exact rfl)) | ((with_reducible apply g_eq); (· rfl)) | ((with_reducible apply g_ne); (· rfl)))
local macro_rules | `(tactic| wtm_at "go") => `(tactic| repeat wtm_at "go1")
local macro_rules | `(tactic| wtm_at "lp") => `(tactic| skip)
local macro_rules | `(tactic| wtm_at "om") => `(tactic| first | omega | (simp; done) | (simp; omega) | (simp at *; omega))
local macro_rules | `(tactic| wtm_at "ty") => `(tactic| first | exact ty_str | exact ty_int | exact ty_bl | exact ty_non | (apply ty_lst; wtm_at "lk") | (apply ty_tup; wtm_at "lk"))
local macro_rules | `(tactic| wtm_at "kb") => `(tactic| first | exact kb_str_str | exact kb_str_int | exact kb_str_bool | exact kb_str_list | exact kb_str_tuple | exact kb_int_str | exact kb_int_int | exact kb_int_bool | exact kb_int_list | exact kb_int_tuple | exact kb_bool_str | exact kb_bool_int | exact kb_bool_bool | exact kb_bool_list | exact kb_bool_tuple | exact kb_list_str | exact kb_list_int | exact kb_list_bool | exact kb_list_list | exact kb_list_tuple | exact kb_tuple_str | exact kb_tuple_int | exact kb_tuple_bool | exact kb_tuple_list | exact kb_tuple_tuple | exact kb_NoneType_str | exact kb_NoneType_int | exact kb_NoneType_bool | exact kb_NoneType_list | exact kb_NoneType_tuple | exact kb_dict_str | exact kb_dict_int | exact kb_dict_bool | exact kb_dict_list | exact kb_dict_tuple)
local macro_rules | `(tactic| wtm_at "gx1") => `(tactic| first | ((with_reducible apply g_eqS); (· exact rfl)) | ((with_reducible apply g_neS); (· exact rfl)) | wtm_at "go1" | with_reducible apply g_min2 | with_reducible apply g_max2 | with_reducible apply g_T | with_reducible apply g_F | with_reducible apply g_NT | with_reducible apply g_NF | with_reducible apply g_nT | with_reducible apply g_nF | with_reducible apply g_RT | with_reducible apply g_RF | ((with_reducible apply g_isi); (· wtm_at "ty"); (· wtm_at "kb")) | ((with_reducible apply g_ixAU3); (· wtm_at "lk"); (· exact rfl)) | ((with_reducible apply g_ixAL3); (· wtm_at "lk"); (· exact rfl)) | ((with_reducible apply g_ixU3); (· wtm_at "lk"); (· exact rfl)) | ((with_reducible apply g_lenL3); (· wtm_at "lk")) | ((with_reducible apply g_lenU3); (· wtm_at "lk")) | ((with_reducible apply g_tyL3); (· wtm_at "lk")) | ((with_reducible apply g_lenT); (· wtm_at "pv")) | wtm_at "tr" | with_reducible apply g_ET | with_reducible apply g_EF | with_reducible apply g_EnT | with_reducible apply g_EnF)
local macro_rules | `(tactic| wtm_at "pv") => `(tactic| first | exact rfl | assumption | omega | (simp; done) | (simp; omega))
local macro_rules | `(tactic| wtm_at "tr") => `(tactic| first | ((with_reducible apply g_Td); (· wtm_at "pv")) | ((with_reducible apply g_Fd); (· wtm_at "pv")) | ((with_reducible apply g_NTd); (· wtm_at "pv")) | ((with_reducible apply g_NFd); (· wtm_at "pv")) | ((with_reducible apply g_nTd); (· wtm_at "pv")) | ((with_reducible apply g_nFd); (· wtm_at "pv")) | ((with_reducible apply g_RTd); (· wtm_at "pv")) | ((with_reducible apply g_RFd); (· wtm_at "pv")))
local macro_rules | `(tactic| wtm_at "gx") => `(tactic| repeat wtm_at "gx1")
local macro_rules | `(tactic| wtm_at "unfS") => `(tactic| (try simp only [tSeq, tNext, tAsg, tFor_eq, C8.tCut, wipe, gName, tDrop, List.set_cons_zero, List.set_cons_succ, cx_K]))
local macro_rules | `(tactic| wtm_at "rd1") => `(tactic| first | exact rd_int | exact rd_str | exact rd_bl | exact rd_non | exact rda_nil | apply rda_cons | (with_reducible apply rd_tup; (· assumption)) | (with_reducible apply rd_lst; (· assumption)) | exact rd_dic (by assumption) | exact rd_var rfl (.int _) | exact rd_var rfl (.str _) | exact rd_var rfl (.bl _) | exact rd_var rfl (by assumption) | (with_reducible apply rd_cat; (· assumption)) | (with_reducible apply rd_rep2; (· assumption)) | (with_reducible apply rd_rev; (· assumption)) | (with_reducible apply rd_to; (· assumption)) | (with_reducible apply rd_from; (· assumption)) | (with_reducible apply rd_tupOf; (· assumption)) | (with_reducible apply rd_lstOf; (· assumption)) | with_reducible apply rd_lenL | with_reducible apply rd_lenT | with_reducible apply rd_I0 | with_reducible apply rd_I | with_reducible apply rd_U | with_reducible apply rd_eqI | with_reducible apply rd_ixL | with_reducible apply rd_ixT | exact atI_hd _ _ | exact ‹atI _ _ = some _›)
local macro_rules | `(tactic| wtm_at "rdl") => `(tactic| first | decide | omega | wtm_at "sc" | (simp only [List.length_append, List.length_cons, List.length_nil, List.length_map, List.length_take, List.length_drop, List.length_reverse, cutTo]; omega))
local macro_rules | `(tactic| wtm_at "rd") => `(tactic| ((repeat' wtm_at "rd1"); (all_goals wtm_at "rdl")))
local macro_rules | `(tactic| wtm_at "nc") => `(tactic| repeat' (first | assumption | exact nca_nil | exact nc_non | exact nc_bl | exact nc_dic | exact nc_tup0 | exact nc_lst0 | (refine nc_strS (by decide) (by decide)) | (refine nc_int (by omega)) | (refine nc_big (by decide +kernel)) | refine nca_app ?_ ?_ | refine nca_cons ?_ ?_ | refine nca_take ?_ | refine nca_drop ?_ | refine nca_cutTo ?_ | refine nca_rev ?_ | refine nc_tup (by decide) ?_ | refine nc_lst (by decide) ?_ | refine nc_lst (Nat.le_trans (show _ ≤ 45 by wtm_at "rdl") (by decide)) ?_ | refine nc_tup (Nat.le_trans (show _ ≤ 45 by wtm_at "rdl") (by decide)) ?_))

section
variable {P : Program} {w : World} {K : PySem.W.Frag} {mg : Str → Option Value} {base : Heap}
/-- the dicts of the shares of some stretches -/
def KnS (H : Hp) (ka : Addr) (l : List Nat) (D : Nat → Nat → Prop) : Prop := ∃ (f : Int → Int → Option V) (N : Nat), DTab H ka f N ∧ ∀ a b, D a b → ∃ d, f a b = some (.ref d) ∧ SD H d (evD l) (shN l a b)
theorem KnS.same {H H1 : Hp} {ka : Addr} {l : List Nat} {D : Nat → Nat → Prop} (h : KnS H ka l D) (s : Same H H1) : KnS H1 ka l D := by
  obtain ⟨f, N, h1, h2⟩ := h
  refine ⟨f, N, h1.same s, fun a b hd => ?_⟩
  obtain ⟨d, e, h3⟩ := h2 a b hd
  exact ⟨d, e, h3.same s⟩
/-- an own dict of deeds changes: the others stay, for they stood before it -/
theorem KnS.but {H H1 H2 : Hp} {ka p : Addr} {l : List Nat} {D : Nat → Nat → Prop} (h : KnS H ka l D) (hp : H p = none) (s : Same H H1) (b : But p H1 H2) : KnS H2 ka l D := by
  obtain ⟨f, N, h1, h2⟩ := h
  refine ⟨f, N, (h1.same s).but b (fun e => by rw [e] at h1; obtain ⟨_, h1, _⟩ := h1; rw [hp] at h1; cases h1), fun a b' hd => ?_⟩
  obtain ⟨d, e, h3⟩ := h2 a b' hd
  exact ⟨d, e, (h3.same s).but b (h3.ne hp)⟩
theorem parts_lt {l : List Nat} {i j : Nat} {s : Fs} (h : FsOk l i j s) (hij : i < j) (hj : j ≤ l.length) : ∀ p ∈ s.parts j, p.2 - p.1 < j - i := by
  cases h with
  | one h0 hk ho hn hi => intro p hp; rw [List.mem_singleton.mp hp]; show j - (i + 1) < j - i; omega
  | two h0 a m t b o hh ht oo ho to hi ti ea eb h1 h2 hz =>
    intro p hp
    rcases List.mem_cons.mp hp with e | hp
    · rw [e]; show m - a < j - i; omega
    · rw [List.mem_singleton.mp hp]; show j - b < j - i; omega
theorem WaysG.butD {K : PySem.W.Frag} {H H' : Hp} {p q : Addr} {l : List Nat} {W : Wd} {cd kd : Addr} {crs krs : List Addr} {fc fk : Nat → List V} {E : List Deed} {f : Deed → Nat} (G : WaysG K H p l W cd kd crs krs fc fk) (s : But q H H') (hq : SD H q E f) (h1 : q ∉ cd :: crs) (h2 : q ∉ kd :: krs) : WaysG K H' p l W cd kd crs krs fc fk := by
  obtain ⟨dx, wd, g1, g2⟩ := G.ob
  rw [List.mem_cons, not_or] at h1 h2
  have g3 : WdIs K H' wd W := by
    obtain ⟨kvs, hq⟩ := hq
    obtain ⟨a, xs, w1, w2, w3⟩ := g2
    exact ⟨a, xs, w1, SqT.but s w2 hq.ob ⟨(fun ys h => by cases h), fun o ys h => by cases h⟩, w3⟩
  exact ⟨⟨dx, wd, s _ _ (fun e => hq.nek g1 (fun _ q => by cases q) e.symm) g1, g3⟩, G.c.but s h1.1 h1.2, G.k.but s h2.1 h2.2, G.sep⟩
theorem WaysG.butDT {K : PySem.W.Frag} {H H' : Hp} {p q : Addr} {l : List Nat} {W : Wd} {cd kd : Addr} {crs krs : List Addr} {fc fk : Nat → List V} {f : Int → Int → Option V} {N : Nat} (G : WaysG K H p l W cd kd crs krs fc fk) (s : But q H H') (hq : DTab H q f N) (h1 : q ∉ cd :: crs) (h2 : q ∉ kd :: krs) : WaysG K H' p l W cd kd crs krs fc fk := by
  obtain ⟨dx, wd, g1, g2⟩ := G.ob
  obtain ⟨kvs, hq, _⟩ := hq
  rw [List.mem_cons, not_or] at h1 h2
  have g3 : WdIs K H' wd W := by
    obtain ⟨a, xs, w1, w2, w3⟩ := g2
    exact ⟨a, xs, w1, SqT.but s w2 hq ⟨(fun ys h => by cases h), fun o ys h => by cases h⟩, w3⟩
  exact ⟨⟨dx, wd, s _ _ (fun e => by rw [e, hq] at g1; cases g1) g1, g3⟩, G.c.but s h1.1 h1.2, G.k.but s h2.1 h2.2, G.sep⟩
/-! shares_in -/
def sp_shares_in (K : PySem.W.Frag) : Sp := fun vs H Q _ => ∃ (p ka : Addr) (i j : Nat) (l : List Nat) (cd kd : Addr) (crs krs : List Addr), vs = [.ref p, .ref ka, .int i, .int j] ∧ WaysAt K H p l wAll cd kd crs krs ∧ KnS H ka l (fun a b => i ≤ a ∧ a ≤ b ∧ b ≤ j ∧ b - a < j - i) ∧ i < j ∧ j ≤ l.length ∧ l.length ≤ 100 ∧
  ∀ (d : Addr) (H' : Hp), H d = none → Same H H' → SD H' d (evD l) (shN l i j) → Q (.ref d) H'
theorem ok_shares_in (T : Facts K mg) : C8.Cal P w K mg base 6 "shares_in" (sp_shares_in K) [] := by
  refine calD T.f_shares_in sc_shares_in (fun vs H Q E h => ?_) (fun f cdv A outer s H vs Q E hr h => ?_)
  · obtain ⟨p, ka, i, j, l, cd, kd, crs, krs, rfl, hA, hK, hij, hj, hll, q⟩ := h; rfl
  · obtain ⟨p, ka, i, j, l, cd, kd, crs, krs, rfl, hA, hK, hij, hj, hll, q⟩ := h
    refine ⟨_, (pss_cons (ps_set (i := 4) sc_shares_in.nd rfl (Or.inl rfl) pe_dnewT)
       (pss_cons (ps_for PassesOwn.never rfl (pi_list (pe_own (ok_least_steps T) hr (by omega) rfl (pa_cons (pv 0) (pa_cons (pv 2) (pa_cons (pv 3) pa_nil))))) (pg_tup rfl (pgs_cons (pg_name (i := 5) sc_shares_in.nd rfl (Or.inl rfl)) (pgs_cons (pg_name (i := 6) sc_shares_in.nd rfl (Or.inl rfl)) (pgs_cons (pg_name (i := 7) sc_shares_in.nd rfl (Or.inl rfl)) pgs_nil))))
       (pss_cons (ps_for PassesOwn.never rfl (pi_list (pv 5)) (pg_name (i := 8) sc_shares_in.nd rfl (Or.inl rfl))
       (pss_one (ps_dput (hu_of hr) (pv 4) (pv 8) (pe_op op_add (pe_dget2 (hu_of hr) (pv 4) (pv 8) pe_int ⟨rfl, rfl, rfl, rfl⟩) (pv 7)) rfl)))
       (pss_one (ps_for PassesOwn.never rfl (pi_list (pv 6)) (pg_name (i := 9) sc_shares_in.nd rfl (Or.inl rfl))
       (pss_cons (ps_set (i := 10) sc_shares_in.nd rfl (Or.inl rfl) (pe_op op_fdivW (pv 7) (pe_met (ok_Ways_count T) hr (by omega) (pv 0) (pa_cons (pe_ix ix_tup (pv 9) pe_int (fun _ _ => rfl)) (pa_cons (pe_ix ix_tup (pv 9) pe_int (fun _ _ => rfl)) pa_nil)))))
       (pss_cons (ps_set (i := 11) sc_shares_in.nd rfl (Or.inl rfl) (pe_dget (hu_of hr) (pv 1) (pv 9) (fun _ _ => rfl)))
       (pss_one (ps_lock (ps_for PassesOwn.never rfl (pi_keys (pv 11)) (pg_name (i := 8) sc_shares_in.nd rfl (Or.inl rfl))
       (pss_one (ps_dput (hu_of hr) (pv 4) (pv 8) (pe_op op_add (pe_dget2 (hu_of hr) (pv 4) (pv 8) pe_int ⟨rfl, rfl, rfl, rfl⟩) (pe_op op_mulW (pv 10) (pe_dget (hu_of hr) (pv 11) (pv 8) (fun _ _ => rfl)))) rfl)))))))))))
       (pss_one (ps_ret (pv 4))))), ?_⟩
    rw [st_shares_in]
    wtm_at "unf"
    wtm_at "gx"
    refine g_dnewD (E := evD l) fun fa H1 nfa s1 hS1 => ?_
    have hE : (evD l).length < 100000 := by have := evD_len l; omega
    wtm_at "gx"
    have hA1 : WaysAt K H1 p l wAll cd kd crs krs := ⟨hA.g.same s1, hA.cl, hA.kl⟩
    refine ⟨p, i, j, l, cd, kd, crs, krs, rfl, hA1, hij, hj, hll, fun la us H2 nla s2 ela llu hpu => ?_⟩
    have hnl : la ≠ fa := fun e => hS1.ne nla e.symm
    have hS2 := hS1.same s2
    have S2 := s1.trans s2
    have hA2 : WaysAt K H2 p l wAll cd kd crs krs := ⟨hA.g.same S2, hA.cl, hA.kl⟩
    have hcl := hA.cl
    have hkl := hA.kl
    have hft : fa ∉ cd :: crs ∧ fa ∉ kd :: krs := hA.g.fresh nfa
    refine ⟨_, rfl, ⟨_, sq_of ela⟩, for_lst us (fun pre σ H3 => ∃ (y5 y6 y7 y8 y9 y10 y11 : Option V), σ = [some (V.ref p), some (V.ref ka), some (V.int i), some (V.int j), some (V.ref fa), y5, y6, y7, y8, y9, y10, y11] ∧ But fa H2 H3 ∧ SD H3 fa (evD l) (fun d => (((lsF l i j).take pre.length).map fun s => s.shr l i j d).sum)) ⟨none, none, none, none, none, none, none, rfl, But.refl, hS2.congr fun d => rfl⟩ (fun pre post σ H3 e hv => ?_) (fun pre x post σ H3 e hv => ?_) (fun σ H3 hv => ?_)⟩
    · obtain ⟨y5, y6, y7, y8, y9, y10, y11, rfl, b3, _⟩ := hv
      exact sq_of (b3 _ _ hnl ela)
    · obtain ⟨y5, y6, y7, y8, y9, y10, y11, rfl, b3, hS3⟩ := hv
      obtain ⟨s0, hF0, hmem, e5⟩ := pd_turn hpu e
      have hok := fs_ok hij hj (List.mem_filter.mp hmem).1
      have hman := man_ne hok hij hj
      have hds := fs_ev hok hij hj
      obtain ⟨t, da, pa, rs, rfl, et, hD, hP, nd, np⟩ := hF0
      have hda : da ≠ fa := fun e => hS1.ne nd e.symm
      have hpa : pa ≠ fa := fun e => hS1.ne np e.symm
      have et3 := b3 _ _ (fun e => hS2.nek et (fun _ q => by cases q) e.symm) et
      have hD3 := hD.butD b3 hS2 hda
      have hP3 := hP.butD b3 hS2 hpa
      wtm_at "unf"
      refine ⟨_, _, rfl, st_of et3, rfl, _, _, rfl, _, _, rfl, _, _, rfl, rfl, ?_⟩
      wtm_at "unf"
      wtm_at "gx"
      refine ⟨_, rfl, ⟨_, sq_of hD3.hd⟩, for_lst (rs.map V.ref) (fun pre1 σ H4 => ∃ (y8 : Option V), σ = [some (V.ref p), some (V.ref ka), some (V.int i), some (V.int j), some (V.ref fa), some (V.ref da), some (V.ref pa), some (V.int (s0.man l j : Nat)), y8, y9, y10, y11] ∧ But fa H3 H4 ∧ SD H4 fa (evD l) (fun d => (((lsF l i j).take pre.length).map fun s => s.shr l i j d).sum + ((s0.ds i).take pre1.length).count d * s0.man l j)) ⟨y8, rfl, But.refl, hS3.congr fun d => by simp⟩ (fun pre1 post1 σ H4 e1 hv => ?_) (fun pre1 x post1 σ H4 e1 hv => ?_) (fun σ H4 hv => ?_)⟩
      · obtain ⟨y8, rfl, b4, _⟩ := hv
        exact sq_of (b4 _ _ hda hD3.hd)
      · obtain ⟨y8, rfl, b4, hS4⟩ := hv
        have hD4 := hD3.butD b4 hS3 hda
        have hx := mid_at e1
        have hkl : pre1.length < (s0.ds i).length := by have := (List.getElem?_eq_some_iff.mp hx).1; rw [List.length_map, hD3.len] at this; exact this
        obtain ⟨r, d, k1, k2, k3, k4⟩ := hD4.row hkl
        rw [k3] at hx
        have hx' := (Option.some.inj hx).symm
        subst hx'
        have hde := hds d (List.mem_of_getElem? k2)
        wtm_at "unf"
        wtm_at "gx"
        refine ⟨fa, rfl, hS4.isD, ?_⟩
        wtm_at "gx"
        obtain ⟨g, hSg, hg⟩ := hS4.ex
        refine ⟨_, hSg.get k4, ?_⟩
        rw [sd_getD]
        wtm_at "gx"
        refine g_dputDv (d := d) (n := g d + s0.man l j) hSg k4 hde hE (by rw [Int.natCast_add]) (by omega) fun H5 b5 hS5 => ?_
        refine ⟨_, rfl, But.tr b5 b4, hS5.congr fun x => ?_⟩
        rw [hg, hg]
        rw [show (pre1 ++ [V.ref r]).length = pre1.length + 1 by simp, (cut_at k2).1, List.count_append, List.count_singleton]
        by_cases hxd : x = d
        · subst hxd
          rw [if_pos rfl, if_pos (by simp), Nat.add_mul]
          omega
        · rw [if_neg hxd, if_neg (by simpa using fun h => hxd h.symm)]
          rfl
      · obtain ⟨y8, rfl, b4, hS4⟩ := hv
        rw [List.length_map, hD3.len, List.take_length] at hS4
        have hP4 := hP3.butD b4 hS3 hpa
        obtain ⟨ps, q1, q2, q3⟩ := id hP4
        wtm_at "unf"
        wtm_at "gx"
        refine ⟨_, rfl, ⟨_, sq_of q1⟩, for_lst (ps.map V.ref) (fun pre2 σ H5 => ∃ (y8 y9 y10 y11 : Option V), σ = [some (V.ref p), some (V.ref ka), some (V.int i), some (V.int j), some (V.ref fa), some (V.ref da), some (V.ref pa), some (V.int (s0.man l j : Nat)), y8, y9, y10, y11] ∧ But fa H4 H5 ∧ SD H5 fa (evD l) (fun d => ((((lsF l i j).take pre.length).map fun s => s.shr l i j d).sum + (s0.ds i).count d * s0.man l j) + (((s0.parts j).take pre2.length).map fun pt => s0.tms l j pt * shN l pt.1 pt.2 d).sum)) ⟨y8, y9, y10, y11, rfl, But.refl, hS4.congr fun d => by simp⟩ (fun pre2 post2 σ H5 e2 hv => ?_) (fun pre2 x post2 σ H5 e2 hv => ?_) (fun σ H5 hv => ?_)⟩
        · obtain ⟨y8, y9, y10, y11, rfl, b5, _⟩ := hv
          exact sq_of (b5 _ _ hpa q1)
        · obtain ⟨y8, y9, y10, y11, rfl, b5, hS5⟩ := hv
          have hP5 := hP4.butD b5 hS4 hpa
          have hlt : pre2.length < ps.length := by
            have := congrArg List.length e2
            simp at this
            omega
          have hx : (ps.map V.ref)[pre2.length]? = some x := mid_at e2
          have hr : ps[pre2.length]? = some ps[pre2.length] := List.getElem?_eq_getElem hlt
          have hxx : (s0.parts j)[pre2.length]? = some (s0.parts j)[pre2.length] := List.getElem?_eq_getElem (by omega)
          have hx2 : x = V.ref ps[pre2.length] := by
            rw [List.getElem?_map, hr] at hx
            exact (Option.some.inj hx).symm
          subst hx2
          have ht0 := q3 _ _ _ hr hxx
          have ht := b5 _ _ (fun e => hS4.nek ht0 (fun _ q => by cases q) e.symm) ht0
          have etk := (cut_at hxx).1
          have hmemp : (s0.parts j)[pre2.length] ∈ s0.parts j := List.getElem_mem _
          have hlen1 : (pre2 ++ [V.ref ps[pre2.length]]).length = pre2.length + 1 := by simp
          rw [hlen1]
          generalize (s0.parts j)[pre2.length] = bm at ht etk hmemp
          generalize ps[pre2.length] = r at ht
          have htn := tms_ne hok hij hj bm hmemp
          obtain ⟨g1, g2, g3⟩ := fs_parts hok hij hj bm hmemp
          have gd := parts_lt hok hij hj bm hmemp
          obtain ⟨u, v⟩ := bm
          dsimp only at g1 g2 g3 gd ht
          have hkb := kN_lt (l := l) g2 (by omega) hll
          have hk0 := (RR_len (l := l) g2 (by omega)).2
          have hv2 : (colV nV (mcN l wAll) v (v + 1))[u]? = some (.int (kN l u v : Nat)) := by rw [colV_at (by omega), (cV_ck (l := l) g2 (by omega)).2]
          have b25 : But fa H2 H5 := But.tr b5 (But.tr b4 b3)
          obtain ⟨f, N, hDT, hKv⟩ := id hK
          obtain ⟨dd, ef, hSd⟩ := hKv u v ⟨g1, g2, g3, gd⟩
          have hdf : dd ≠ fa := hSd.ne nfa
          have hDT5 := (hDT.same S2).but b25 (fun e => by rw [e] at hDT; obtain ⟨_, hz, _⟩ := hDT; rw [nfa] at hz; cases hz)
          have hSd5 := (hSd.same S2).but b25 hdf
          have hCb := hA2.g.k
          have hG5 : WaysG K H5 p l wAll cd kd crs krs _ _ := WaysG.butD hA2.g b25 hS2 hft.1 hft.2
          wtm_at "unf"
          wtm_at "gx"
          refine g_wmet hG5 (fun _ _ _ _ => rfl) ?_
          wtm_at "gx"
          refine ⟨p, u, v, l, wAll, cd, kd, crs, krs, _, _, _, rfl, hG5, by omega, hv2, ?_⟩
          refine g_I (wide_div (b := 1601) (by omega) (by rw [Int.natAbs_natCast]; exact hkb) (by decide) (by decide)) ?_
          rw [show ((s0.man l j : Nat) : Int) / ((kN l u v : Nat) : Int) = ((s0.tms l j (u, v) : Nat) : Int) from (Int.natCast_ediv _ _).symm]
          wtm_at "gx"
          refine g_dgetT hDT5 ht ef ?_
          wtm_at "unf"
          refine g_forD hSd5 (fun H1 Q q => ⟨_, rfl, q⟩) fun ds HL hnd hmm hin bHL hget => ⟨fun pre3 σ H6 => ∃ (y8 : Option V), σ = [some (V.ref p), some (V.ref ka), some (V.int i), some (V.int j), some (V.ref fa), some (V.ref da), some (V.ref pa), some (V.int (s0.man l j : Nat)), y8, some (V.ref r), some (V.int (s0.tms l j (u, v) : Nat)), some (V.ref dd)] ∧ But fa HL H6 ∧ SD H6 fa (evD l) (fun d => (((((lsF l i j).take pre.length).map fun s => s.shr l i j d).sum + (s0.ds i).count d * s0.man l j) + (((s0.parts j).take pre2.length).map fun pt => s0.tms l j pt * shN l pt.1 pt.2 d).sum) + if d ∈ pre3 then s0.tms l j (u, v) * shN l u v d else 0), ⟨y8, rfl, But.refl, (hS5.but bHL (Ne.symm hdf)).congr fun d => by simp⟩, fun pre3 d post3 σ H6 t6 e3 hv et6 D' hD' => ?_, fun pre3 σ H6 hv o ho => ?_, fun σ H6 hv H7 b7 k7 => ?_⟩
          · obtain ⟨y8, rfl, b6, hS6⟩ := hv
            have hd0 : shN l u v d ≠ 0 := (hmm d).mp (by rw [e3]; simp)
            have hsb := shN_lt (l := l) g2 (by omega) hll d
            have htb : s0.tms l j (u, v) < 2 ^ 3202 := Nat.lt_of_le_of_lt (Nat.div_le_self _ _) (man_lt hok hij hj hll)
            have hdp : d ∉ pre3 := fun hm => by
              rw [e3] at hnd
              exact (List.nodup_append.mp hnd).2.2 d hm d (by simp) rfl
            wtm_at "unf"
            wtm_at "gx"
            refine ⟨fa, rfl, hS6.isD, ?_⟩
            wtm_at "gx"
            obtain ⟨g, hSg, hg⟩ := hS6.ex
            refine ⟨_, hSg.get et6, ?_⟩
            rw [sd_getD]
            wtm_at "gx"
            refine ⟨dd, _, rfl, hget H6 d t6 (fun o ho => b6 _ _ hdf ho) hd0 et6, ?_⟩
            refine g_I (wide_mul (a := 3202) (b := 1608) (by rw [Int.natAbs_natCast]; exact htb) (by rw [Int.natAbs_natCast]; exact hsb) (by decide) (by decide) (by decide)) ?_
            wtm_at "gx"
            have hpos := Nat.mul_ne_zero htn hd0
            refine g_dputDv (d := d) (n := g d + s0.tms l j (u, v) * shN l u v d) hSg et6 (hin d (by rw [e3]; simp)) hE (by rw [Int.natCast_add, Int.natCast_mul]) (by omega) fun H7 b7 hS7 => ?_
            rw [hD']
            refine ⟨_, rfl, But.tr b7 b6, hS7.congr fun x => ?_⟩
            rw [hg, hg]
            by_cases hxd : x = d
            · subst hxd
              rw [if_pos rfl, if_neg hdp, if_pos (by simp)]
              omega
            · rw [if_neg hxd]
              congr 1
              by_cases hxp : x ∈ pre3
              · rw [if_pos hxp, if_pos (by simp [hxp])]
              · rw [if_neg hxp, if_neg (by simp [hxp, hxd])]
          · obtain ⟨y8, rfl, b6, hS6⟩ := hv
            exact b6 _ _ hdf ho
          · obtain ⟨y8, rfl, b6, hS6⟩ := hv
            refine ⟨_, _, _, _, rfl, ?_, (hS6.but b7 (Ne.symm hdf)).congr fun d => ?_⟩
            · refine But.trans b5 fun b o hb ho => ?_
              by_cases hbd : b = dd
              · subst hbd; exact k7 o ho
              · exact b7 _ _ hbd (b6 _ _ hb (bHL _ _ hbd ho))
            · rw [etk, List.map_append, List.sum_append_nat]
              by_cases hdm : d ∈ ds
              · rw [if_pos hdm]
                simp
                omega
              · rw [if_neg hdm]
                have : shN l u v d = 0 := Classical.byContradiction fun h => hdm ((hmm d).mpr h)
                simp [this]
        · obtain ⟨y8, y9, y10, y11, rfl, b5, hS5⟩ := hv
          rw [List.length_map, q2, List.take_length] at hS5
          refine ⟨_, _, _, _, _, _, _, rfl, But.tr b5 (But.tr b4 b3), hS5.congr fun d => ?_⟩
          rw [e5, List.map_append, List.sum_append_nat]
          show _ = _ + (s0.shr l i j d + 0)
          unfold Fs.shr
          omega
    · obtain ⟨y5, y6, y7, y8, y9, y10, y11, rfl, b3, hS3⟩ := hv
      rw [pd_len hpu, List.take_length] at hS3
      wtm_at "unf"
      wtm_at "gx"
      exact q fa H3 nfa (Same.b0 (But.sa s2 But.refl |>.trans b3) s1 nfa) (hS3.congr fun d => (shN_step hij hj d).symm)
/-! all_shares -/
def sp_all_shares (K : PySem.W.Frag) : Sp := fun vs H Q _ => ∃ (p : Addr) (l : List Nat) (cd kd : Addr) (crs krs : List Addr), vs = [.ref p] ∧ WaysAt K H p l wAll cd kd crs krs ∧ l.length ≤ 100 ∧
  ∀ (d : Addr) (H' : Hp), H d = none → Same H H' → SD H' d (evD l) (shN l 0 l.length) → Q (.ref d) H'
theorem ok_all_shares (T : Facts K mg) : C8.Cal P w K mg base 7 "all_shares" (sp_all_shares K) [] := by
  refine calD T.f_all_shares sc_all_shares (fun vs H Q E h => ?_) (fun f cdv A outer s H vs Q E hr h => ?_)
  · obtain ⟨p, l, cd, kd, crs, krs, rfl, hA, hll, q⟩ := h; rfl
  · obtain ⟨p, l, cd, kd, crs, krs, rfl, hA, hll, q⟩ := h
    refine ⟨_, (pss_cons (ps_set (i := 1) sc_all_shares.nd rfl (Or.inl rfl) (pe_callB call_lenT rfl T.b_len PySem.boot_len (pa_cons (pe_fld (pv 0) rfl) pa_nil)))
       (pss_cons (ps_set (i := 2) sc_all_shares.nd rfl (Or.inl rfl) pe_dnewT)
       (pss_cons (ps_for PassesOwn.never rfl (pi_range3 rfl T.b_range (pa_cons (pv 1) (pa_cons (pe_un un_neg pe_int) (pa_cons (pe_un un_neg pe_int) pa_nil)))) (pg_name (i := 3) sc_all_shares.nd rfl (Or.inl rfl))
       (pss_cons (ps_dput (hu_of hr) (pv 2) (pe_tup (pa_cons (pv 3) (pa_cons (pv 3) pa_nil))) pe_dnewT rfl)
       (pss_one (ps_for PassesOwn.never rfl (pi_range2 rfl T.b_range (pa_cons (pe_op op_add (pv 3) pe_int) (pa_cons (pe_op op_add (pv 1) pe_int) pa_nil))) (pg_name (i := 4) sc_all_shares.nd rfl (Or.inl rfl))
       (pss_one (ps_dput (hu_of hr) (pv 2) (pe_tup (pa_cons (pv 3) (pa_cons (pv 4) pa_nil))) (pe_own (ok_shares_in T) hr (by omega) rfl (pa_cons (pv 0) (pa_cons (pv 2) (pa_cons (pv 3) (pa_cons (pv 4) pa_nil))))) rfl))))))
       (pss_one (ps_ret (pe_dget (hu_of hr) (pv 2) (pe_tup (pa_cons pe_int (pa_cons (pv 1) pa_nil))) (fun _ _ => rfl))))))), ?_⟩
    rw [st_all_shares]
    wtm_at "unf"
    wtm_at "gx"
    refine g_wsig T hA.g ?_
    refine g_lenT (by omega) ?_
    refine g_dnewT fun ka H1 nka s1 hD1 => ?_
    wtm_at "gx"
    have hA1 : WaysAt K H1 p l wAll cd kd crs krs := ⟨hA.g.same s1, hA.cl, hA.kl⟩
    have hka : ka ∉ cd :: crs ∧ ka ∉ kd :: krs := hA.g.fresh nka
    -- from behind: n places are left
    refine ⟨((l.length + 1 : Nat) : Int) - 1, _, _, l.length + 1, by rw [show ((l.length + 1 : Nat) : Int) - 1 = l.length by omega], rgc_dn (by omega), for_dn (fun n σ H2 => ∃ (y3 y4 : Option V) (f : Int → Int → Option V) (N : Nat), σ = [some (V.ref p), some (V.int l.length), some (V.ref ka), y3, y4] ∧ But ka H1 H2 ∧ DTab H2 ka f N ∧ N ≤ (l.length + 1 - n) * (l.length + 1) ∧ ∀ a b, n ≤ a → a ≤ b → b ≤ l.length → ∃ d, f a b = some (.ref d) ∧ SD H2 d (evD l) (shN l a b) ∧ H1 d = none) ⟨none, none, _, 0, rfl, But.refl, hD1, by omega, fun a b h1 h2 h3 => by omega⟩ (fun n σ H2 hn hv => ?_) (fun σ H2 hv => ?_)⟩
    · obtain ⟨y3, y4, f, N, rfl, b2, hD2, hN, hK⟩ := hv
      wtm_at "unf"
      refine g_dnewD (E := evD l) fun nd H3 nnd s3 hS3 => ?_
      wtm_at "gx"
      refine g_tup (by show 2 ≤ 100000; decide) fun kt H4 nkt s4 ekt => ?_
      have hD4 := (hD2.same s3).same s4
      have hNb : N < 100000 := by
        have : (l.length + 1 - (n + 1)) * (l.length + 1) ≤ 101 * 101 := Nat.mul_le_mul (by omega) (by omega)
        omega
      refine g_dputT hD4 ekt hNb fun H5 b5 hD5 => ?_
      have hkn : nd ≠ ka := fun e => by rw [e] at nnd; exact hD2.ne nnd rfl
      have hnn : H1 nd = none := b2.free hkn nnd
      have hA5 : WaysAt K H5 p l wAll cd kd crs krs := ⟨WaysG.butDT (hA1.g) (But.tr b5 (But.sa (s3.trans s4) b2)) hD1 hka.1 hka.2, hA.cl, hA.kl⟩
      have hS5 : SD H5 nd (evD l) (shN l n n) := ((hS3.same s4).but b5 hkn).congr fun d => (shN_self l n d).symm
      have key : ∀ a b : Nat, (n < a ∨ (a = n ∧ b ≤ n)) → a ≤ b → b ≤ l.length → ∃ d, (fun x y : Int => if x = (n : Int) ∧ y = (n : Int) then some (V.ref nd) else f x y) a b = some (.ref d) ∧ SD H5 d (evD l) (shN l a b) ∧ H1 d = none := fun a b h1 h2 h3 => by
        by_cases e : a = n ∧ b = n
        · obtain ⟨rfl, rfl⟩ := e
          exact ⟨nd, if_pos ⟨rfl, rfl⟩, hS5, hnn⟩
        · obtain ⟨d, e1, e2, e3⟩ := hK a b (by omega) h2 h3
          refine ⟨d, ?_, ((e2.same s3).same s4).but b5 (fun e => hD1.ne e3 e.symm), e3⟩
          show (if (a : Int) = n ∧ (b : Int) = n then _ else f a b) = _
          rw [if_neg (by omega)]
          exact e1
      have b25 : But ka H1 H5 := But.tr b5 (But.sa (s3.trans s4) b2)
      wtm_at "unf"
      wtm_at "gx"
      have hn2 : n ≤ l.length := by omega
      have erg : ((l.length : Int) + 1 - ((n : Int) + 1)).toNat = l.length - n := by omega
      refine ⟨_, _, rfl, ⟨by omega, by omega, by omega, by omega⟩, for_rng (fun k σ H6 => ∃ (y4 : Option V) (f : Int → Int → Option V) (M : Nat), σ = [some (V.ref p), some (V.int l.length), some (V.ref ka), some (V.int n), y4] ∧ But ka H1 H6 ∧ DTab H6 ka f M ∧ M ≤ N + 1 + k ∧ ∀ a b, (n < a ∨ (a = n ∧ b ≤ n + k)) → a ≤ b → b ≤ l.length → ∃ d, f a b = some (.ref d) ∧ SD H6 d (evD l) (shN l a b) ∧ H1 d = none) ⟨y4, _, _, rfl, b25, hD5, Nat.le_refl _, key⟩ (fun k σ H6 hk hv => ?_) (fun σ H6 hv => ?_)⟩
      · obtain ⟨y4, f, M, rfl, b6, hD6, hM, hK6⟩ := hv
        rw [erg] at hk
        rw [show (n : Int) + 1 + k = ((n + 1 + k : Nat) : Int) by omega]
        have hA6 : WaysAt K H6 p l wAll cd kd crs krs := ⟨WaysG.butDT hA1.g b6 hD1 hka.1 hka.2, hA.cl, hA.kl⟩
        have hKn : KnS H6 ka l (fun a b => n ≤ a ∧ a ≤ b ∧ b ≤ n + 1 + k ∧ b - a < n + 1 + k - n) := ⟨f, M, hD6, fun a b ⟨g1, g2, g3, g4⟩ => by
          obtain ⟨d, e1, e2, _⟩ := hK6 a b (by omega) g2 (by omega)
          exact ⟨d, e1, e2⟩⟩
        wtm_at "unf"
        wtm_at "gx"
        refine ⟨p, ka, n, n + 1 + k, l, cd, kd, crs, krs, rfl, hA6, hKn, by omega, by omega, hll, fun d H7 nd7 s7 hS7 => ?_⟩
        wtm_at "gx"
        refine g_tup (by show 2 ≤ 100000; decide) fun kt2 H8 nkt2 s8 ekt2 => ?_
        have hD8 := (hD6.same s7).same s8
        have hMb : M < 100000 := by
          have : (l.length + 1 - (n + 1)) * (l.length + 1) ≤ 101 * 101 := Nat.mul_le_mul (by omega) (by omega)
          omega
        refine g_dputT hD8 ekt2 hMb fun H9 b9 hD9 => ?_
        have hdk : d ≠ ka := fun e => by rw [e] at nd7; exact hD6.ne nd7 rfl
        refine ⟨_, _, M + 1, rfl, But.tr b9 (But.sa (s7.trans s8) b6), hD9, by omega, fun a b h1 h2 h3 => ?_⟩
        by_cases e : a = n ∧ b = n + 1 + k
        · obtain ⟨rfl, rfl⟩ := e
          exact ⟨d, if_pos ⟨rfl, rfl⟩, (hS7.same s8).but b9 hdk, b6.free hdk nd7⟩
        · obtain ⟨d', e1, e2, e3⟩ := hK6 a b (by omega) h2 h3
          refine ⟨d', ?_, ((e2.same s7).same s8).but b9 (fun e => hD1.ne e3 e.symm), e3⟩
          show (if (a : Int) = n ∧ (b : Int) = ((n + 1 + k : Nat) : Int) then _ else f a b) = _
          rw [if_neg (by omega)]
          exact e1
      · obtain ⟨y4, f, M, rfl, b6, hD6, hM, hK6⟩ := hv
        rw [erg] at hM hK6
        refine ⟨_, _, f, M, rfl, b6, hD6, ?_, fun a b h1 h2 h3 => hK6 a b (by omega) h2 h3⟩
        rw [show l.length + 1 - n = (l.length + 1 - (n + 1)) + 1 by omega, Nat.add_mul]
        omega
    · obtain ⟨y3, y4, f, N, rfl, b2, hD2, hN, hK⟩ := hv
      obtain ⟨d, e1, e2, e3⟩ := hK 0 l.length (Nat.le_refl _) (Nat.zero_le _) (Nat.le_refl _)
      wtm_at "unf"
      wtm_at "gx"
      refine g_tup (by show 2 ≤ 100000; decide) fun kt H3 nkt s3 ekt => ?_
      refine g_dgetT (hD2.same s3) ekt e1 ?_
      exact q d H3 (s1.free e3) (Same.b0 (But.sa s3 b2) s1 nka) (e2.same s3)
/-- a pair of a deed and a number -/
def ShV (H : Hp) (f : Deed → Nat) (v : V) (d : Deed) : Prop := ∃ t r, v = .ref t ∧ H t = some (.tup [.ref r, .int (f d : Nat)]) ∧ H r = some (.tup (ddV d))
theorem ShV.same {H H1 : Hp} {f : Deed → Nat} {v : V} {d : Deed} (h : ShV H f v d) (s : Same H H1) : ShV H1 f v d := by
  obtain ⟨t, r, e, h1, h2⟩ := h
  exact ⟨t, r, e, s _ _ h1, s _ _ h2⟩
theorem ShV.but {H H1 : Hp} {f : Deed → Nat} {v : V} {d : Deed} {p : Addr} {ys : List V} (h : ShV H f v d) (s : But p H H1) (hp : H p = some (.lst ys)) : ShV H1 f v d := by
  obtain ⟨t, r, e, h1, h2⟩ := h
  exact ⟨t, r, e, s _ _ (fun e => by rw [e, hp] at h1; cases h1) h1, s _ _ (fun e => by rw [e, hp] at h2; cases h2) h2⟩
/-! shares_of -/
def sp_shares_of : Sp := fun vs H Q _ => ∃ (l : List Nat), vs = [Tx l] ∧ l.length ≤ 100 ∧
  ∀ (fa : Addr) (ts : List V) (ds : List Deed) (H' : Hp), H fa = none → Same H H' → ds.Nodup → (∀ d, d ∈ ds ↔ shN l 0 l.length d ≠ 0) → (∀ d ∈ ds, d ∈ evD l) → H' fa = some (.lst ts) → Paired (ShV H' (shN l 0 l.length)) ts (srtD ds) → Q (.ref fa) H'
theorem ok_shares_of (T : Facts K mg) : C8.Cal P w K mg base 8 "shares_of" sp_shares_of [] := by
  refine calD T.f_shares_of sc_shares_of (fun vs H Q E h => ?_) (fun f cdv A outer s H vs Q E hr h => ?_)
  · obtain ⟨l, rfl, hl, q⟩ := h; rfl
  · obtain ⟨l, rfl, hl, q⟩ := h
    refine ⟨_, (pss_cons (ps_set (i := 1) sc_shares_of.nd rfl (Or.inr rfl) (pe_own (ok_all_shares T) hr (by omega) rfl (pa_cons (pe_mak (ok_Ways_init T) hr (by omega) rfl (pa_cons (pv 0) (pa_cons (C8.pe_gc rfl T.c_ALL_WORDS) pa_nil))) pa_nil)))
       (pss_one (ps_ret (pe_lc (own := [("deed", 2)]) (by rfl) sc_shares_of.nd (pi_list (pe_callB (call_sortDd rfl hr.units) rfl T.b_sorted (by decide +kernel) (pa_cons (pv 1) pa_nil))) (blkOk_by (own := [("deed", 2)]) (N := N_shares_of) (sc := defScope s_shares_of) (by decide +kernel)) (fun _ _ _ _ _ => (pg_name (i := 2) sc_shares_of.nd rfl (Or.inl rfl))) (fun _ _ _ _ _ => pts_nil) (fun _ _ _ _ _ => (pe_tup (pa_cons (pv 2) (pa_cons (pe_dget (hu_of hr) (pv 1) (pv 2) (fun _ _ => rfl)) pa_nil)))))))), ?_⟩
    rw [st_shares_of]
    wtm_at "unf"
    wtm_at "gx"
    refine g_mak fun x dx H1 nx s1 ex => ?_
    refine ⟨x, dx, l, _, wAll, rfl, ex, ⟨_, _, rfl, T.q_ALL_WORDS H1, by decide +kernel, by decide +kernel, by decide +kernel, by decide +kernel⟩, by omega, fun l' _ a b h1 h2 => ?_, fun cd kd crs krs H2 b2 n1 n2 hA => ?_⟩
    · have := mcN_some (l := l') (W := wAll) rfl (b - a) a (by omega)
      rw [show a + (b - a) = b by omega] at this
      exact this
    refine ⟨rfl, ?_⟩
    have S2 : Same H H2 := Same.b0 b2 s1 nx
    refine ⟨x, l, cd, kd, crs, krs, rfl, hA, hl, fun d H3 nd s3 hS => ?_⟩
    wtm_at "gx"
    refine ⟨d, evD l, shN l 0 l.length, rfl, hS, fun ds la rs H4 hn hm hin nla s4 hD => ?_⟩
    have hS4 := hS.same s4
    refine ⟨_, rfl, ⟨_, sq_of hD.hd⟩, lc_lst (rs.map V.ref) fun fa H5 nfa s5 efa => ⟨fun pre G => ∃ ts, G fa = some (.lst ts) ∧ Same H4 G ∧ ts.length = pre.length ∧ Paired (ShV G (shN l 0 l.length)) ts ((srtD ds).take pre.length), ⟨[], efa, s5, rfl, .nil⟩, fun pre post G e hv => ?_, fun pre x post G e hv => ?_, fun G hv => ?_⟩⟩
    · obtain ⟨ts, _, sG, _⟩ := hv
      exact sq_of (sG _ _ hD.hd)
    · obtain ⟨ts, eG, sG, lts, hp⟩ := hv
      have hx := mid_at e
      have hkl : pre.length < (srtD ds).length := by have := (List.getElem?_eq_some_iff.mp hx).1; rw [List.length_map, hD.len] at this; exact this
      obtain ⟨r, dd, k1, k2, k3, k4⟩ := (hD.same sG).row hkl
      rw [k3] at hx
      have hx' := (Option.some.inj hx).symm
      subst hx'
      have hlen := nodup_len ds (evD l) hn hin
      have hel := evD_len l
      rw [srt_len] at hkl
      wtm_at "unf"
      refine ⟨rfl, ?_⟩
      wtm_at "gx"
      have hd0 : shN l 0 l.length dd ≠ 0 := (hm dd).mp (mem_srt.mp (List.mem_of_getElem? k2))
      refine g_dgetD (hS4.same sG) k4 hd0 ?_
      refine g_tup (by show 2 ≤ 100000; decide) fun t G1 nt g1 et => ?_
      refine lc_put (g1 _ _ eG) (by omega) fun G2 g2 e2 => ⟨_, e2, Same.b0 g2 (sG.trans g1) nfa, by simp [lts], ?_⟩
      rw [show (pre ++ [V.ref r]).length = pre.length + 1 by simp, (cut_at k2).1]
      exact pd_app (pd_imp (fun v s h => (h.same g1).but g2 (g1 _ _ eG)) hp) (pd_one (ShV.but ⟨t, r, rfl, et, g1 _ _ k4⟩ g2 (g1 _ _ eG)))
    · obtain ⟨ts, eG, sG, lts, hp⟩ := hv
      rw [List.length_map, hD.len, List.take_length] at hp
      exact q fa ts ds G (S2.free (s3.free (s4.free nfa))) (S2.trans (s3.trans (s4.trans sG))) hn hm hin eG hp
end
end K33

set_option maxHeartbeats 4000000
namespace K33
open PySem PySem.Spec PyProof.Rows L2 SX Ly
local macro_rules | `(tactic| wtm_at "unf") => `(tactic| (try simp only [tMetX, tOwnX, tChain, tSeq, tNext, tBreak, tCont, tDrop, tRet, tRetN, tIfS, tAsg, tAug, tC, tOp, tUn, tNil, tCons, tOwn, tCB, tTest, tB, tAnd, tOr, tNot, tAndV, tOrV, tNotV, tIf, gName, gSub, tBM, tBM0, tM0, tM1, tSl, tPart_eq, tNoPart, tLst_eq, tTup_eq, tRevL_eq, tReplT, tRevS, tDGet_eq, sDPut_eq, tDNewT_eq, tMet, tMak, tFld_eq, sFld_eq, C8.tCut, wipe, tYes, gTup, gCons, gNil, List.set_cons_zero, List.set_cons_succ, if_true, if_false, Bool.false_eq_true, Bool.not_true, Bool.not_false, true_and, reduceIte, cx_K, tFor_eq, tLc_eq, iStr, iList, iTup, iRng1, iRng2, iRng3, iEnum, iZip, tLstRg, tRg1, gLst, RZ.iZipA, iEnumS, iZipS, tDNewK_eq, tDGet2, tDIn, tDNotIn, iKd]))
local macro_rules | `(tactic| wtm_at "unfA") => `(tactic| (try simp only [tMetX, tOwnX, tChain, tSeq, tNext, tBreak, tCont, tDrop, tRet, tRetN, tIfS, tAsg, tAug, tC, tOp, tUn, tNil, tCons, tOwn, tCB, tTest, tB, tAnd, tOr, tNot, tIf, gName, gSub, tBM, tBM0, tM0, tM1, tSl, tPart_eq, tNoPart, tLst_eq, tTup_eq, tRevL_eq, tReplT, tRevS, tDGet_eq, sDPut_eq, tDNewT_eq, tMet, tMak, tFld_eq, sFld_eq, C8.tCut, wipe, tYes, gTup, gCons, gNil, List.set_cons_zero, List.set_cons_succ, if_true, if_false, Bool.false_eq_true, Bool.not_true, Bool.not_false, true_and, reduceIte, cx_K, tFor_eq, tLc_eq, iStr, iList, iTup, iRng1, iRng2, iRng3, iEnum, iZip, tLstRg, tRg1, gLst, RZ.iZipA, iEnumS, iZipS, tDNewK_eq, tDGet2, tDIn, tDNotIn, iKd]))
local macro_rules | `(tactic| wtm_at "ne") => `(tactic| first | assumption | (apply Ne.symm; assumption) | (apply ne_new; (· assumption); (· wtm_at "lk")) | (apply Ne.symm; apply ne_new; (· assumption); (· wtm_at "lk")))
local macro_rules | `(tactic| wtm_at "lk") => `(tactic| first | assumption | exact upd_same | (apply Same.get; (· assumption); (· wtm_at "lk")) | (apply But.get; (· assumption); (· wtm_at "ne"); (· wtm_at "lk")))
local macro_rules | `(tactic| wtm_at "sq") => `(tactic| first | assumption | (apply sq_of; wtm_at "lk") | (apply Same.seq; (· assumption); (· wtm_at "sq")) | (apply But.sq; (· assumption); (· wtm_at "ne"); (· wtm_at "sq")))
local macro_rules | `(tactic| wtm_at "fr") => `(tactic| first | assumption | (apply Same.fr; (· assumption); (· wtm_at "sm")) | (apply But.fr; (· assumption); (· wtm_at "sm"); (· wtm_at "ne")))
local macro_rules | `(tactic| wtm_at "sm") => `(tactic| first | exact Same.refl _ | exact But.refl | assumption | (apply Same.tr; (· assumption); (· wtm_at "sm")) | (apply Same.b0; (· assumption); (· wtm_at "sm"); (· wtm_at "fr")) | (apply But.sa; (· assumption); (· wtm_at "sm")) | (apply But.tr; (· assumption); (· wtm_at "sm")) | (apply But.b0; (· assumption); (· wtm_at "sm"); (· wtm_at "fr")) | (apply Same.toBut; wtm_at "sm"))
local macro_rules | `(tactic| wtm_at "sc") => `(tactic| first | exact Int.zero_lt_one | (show (0 : Int) < _; omega) | (show (0 : Int) < _; decide) | exact ⟨by omega, by omega⟩ | exact .inl ⟨by omega, by omega⟩ | exact .inr ⟨by omega, by omega⟩)
local macro_rules | `(tactic| wtm_at "go1") => `(tactic| first | ((with_reducible apply g_var); (· exact rfl)) | with_reducible apply g_I0 | ((with_reducible apply g_I); (· wtm_at "sc")) | with_reducible apply g_U | with_reducible apply g_ipI | ((with_reducible apply g_addT); (· first | omega | (simp; done) | (simp; omega))) | with_reducible apply g_inT | with_reducible apply g_ninT | ((with_reducible apply g_lenT); (· omega)) | with_reducible apply g_findT1 | with_reducible apply g_str | with_reducible apply g_part | with_reducible apply g_intB | ((with_reducible apply g_ixL); (· wtm_at "sq"); (· exact rfl)) | ((with_reducible apply g_setL); (· wtm_at "lk"); (· exact rfl)) | ((with_reducible apply g_eq); (· rfl)) | ((with_reducible apply g_ne); (· rfl)))
local macro_rules | `(tactic| wtm_at "go") => `(tactic| repeat wtm_at "go1")
local macro_rules | `(tactic| wtm_at "lp") => `(tactic| skip)
local macro_rules | `(tactic| wtm_at "om") => `(tactic| first | omega | (simp; done) | (simp; omega) | (simp at *; omega))
local macro_rules | `(tactic| wtm_at "ty") => `(tactic| first | exact ty_str | exact ty_int | exact ty_bl | exact ty_non | (apply ty_lst; wtm_at "lk") | (apply ty_tup; wtm_at "lk"))
local macro_rules | `(tactic| wtm_at "kb") => `(tactic| first | exact kb_str_str | exact kb_str_int | exact kb_str_bool | exact kb_str_list | exact kb_str_tuple | exact kb_int_str | exact kb_int_int | exact kb_int_bool | exact kb_int_list | exact kb_int_tuple | exact kb_bool_str | exact kb_bool_int | exact kb_bool_bool | exact kb_bool_list | exact kb_bool_tuple | exact kb_list_str | exact kb_list_int | exact kb_list_bool | exact kb_list_list | exact kb_list_tuple | exact kb_tuple_str | exact kb_tuple_int | exact kb_tuple_bool | exact kb_tuple_list | exact kb_tuple_tuple | exact kb_NoneType_str | exact kb_NoneType_int | exact kb_NoneType_bool | exact kb_NoneType_list | exact kb_NoneType_tuple | exact kb_dict_str | exact kb_dict_int | exact kb_dict_bool | exact kb_dict_list | exact kb_dict_tuple)
local macro_rules | `(tactic| wtm_at "gx1") => `(tactic| first | ((with_reducible apply g_eqS); (· exact rfl)) | ((with_reducible apply g_neS); (· exact rfl)) | wtm_at "go1" | with_reducible apply g_min2 | with_reducible apply g_max2 | with_reducible apply g_T | with_reducible apply g_F | with_reducible apply g_NT | with_reducible apply g_NF | with_reducible apply g_nT | with_reducible apply g_nF | with_reducible apply g_RT | with_reducible apply g_RF | ((with_reducible apply g_isi); (· wtm_at "ty"); (· wtm_at "kb")) | ((with_reducible apply g_ixAU3); (· wtm_at "lk"); (· exact rfl)) | ((with_reducible apply g_ixAL3); (· wtm_at "lk"); (· exact rfl)) | ((with_reducible apply g_ixU3); (· wtm_at "lk"); (· exact rfl)) | ((with_reducible apply g_lenL3); (· wtm_at "lk")) | ((with_reducible apply g_lenU3); (· wtm_at "lk")) | ((with_reducible apply g_tyL3); (· wtm_at "lk")) | ((with_reducible apply g_lenT); (· wtm_at "pv")) | wtm_at "tr" | with_reducible apply g_ET | with_reducible apply g_EF | with_reducible apply g_EnT | with_reducible apply g_EnF)
local macro_rules | `(tactic| wtm_at "pv") => `(tactic| first | exact rfl | assumption | omega | (simp; done) | (simp; omega))
local macro_rules | `(tactic| wtm_at "tr") => `(tactic| first | ((with_reducible apply g_Td); (· wtm_at "pv")) | ((with_reducible apply g_Fd); (· wtm_at "pv")) | ((with_reducible apply g_NTd); (· wtm_at "pv")) | ((with_reducible apply g_NFd); (· wtm_at "pv")) | ((with_reducible apply g_nTd); (· wtm_at "pv")) | ((with_reducible apply g_nFd); (· wtm_at "pv")) | ((with_reducible apply g_RTd); (· wtm_at "pv")) | ((with_reducible apply g_RFd); (· wtm_at "pv")))
local macro_rules | `(tactic| wtm_at "gx") => `(tactic| repeat wtm_at "gx1")
local macro_rules | `(tactic| wtm_at "unfS") => `(tactic| (try simp only [tSeq, tNext, tAsg, tFor_eq, C8.tCut, wipe, gName, tDrop, List.set_cons_zero, List.set_cons_succ, cx_K]))
local macro_rules | `(tactic| wtm_at "rd1") => `(tactic| first | exact rd_int | exact rd_str | exact rd_bl | exact rd_non | exact rda_nil | apply rda_cons | (with_reducible apply rd_tup; (· assumption)) | (with_reducible apply rd_lst; (· assumption)) | exact rd_dic (by assumption) | exact rd_var rfl (.int _) | exact rd_var rfl (.str _) | exact rd_var rfl (.bl _) | exact rd_var rfl (by assumption) | (with_reducible apply rd_cat; (· assumption)) | (with_reducible apply rd_rep2; (· assumption)) | (with_reducible apply rd_rev; (· assumption)) | (with_reducible apply rd_to; (· assumption)) | (with_reducible apply rd_from; (· assumption)) | (with_reducible apply rd_tupOf; (· assumption)) | (with_reducible apply rd_lstOf; (· assumption)) | with_reducible apply rd_lenL | with_reducible apply rd_lenT | with_reducible apply rd_I0 | with_reducible apply rd_I | with_reducible apply rd_U | with_reducible apply rd_eqI | with_reducible apply rd_ixL | with_reducible apply rd_ixT | exact atI_hd _ _ | exact ‹atI _ _ = some _›)
local macro_rules | `(tactic| wtm_at "rdl") => `(tactic| first | decide | omega | wtm_at "sc" | (simp only [List.length_append, List.length_cons, List.length_nil, List.length_map, List.length_take, List.length_drop, List.length_reverse, cutTo]; omega))
local macro_rules | `(tactic| wtm_at "rd") => `(tactic| ((repeat' wtm_at "rd1"); (all_goals wtm_at "rdl")))
local macro_rules | `(tactic| wtm_at "nc") => `(tactic| repeat' (first | assumption | exact nca_nil | exact nc_non | exact nc_bl | exact nc_dic | exact nc_tup0 | exact nc_lst0 | (refine nc_strS (by decide) (by decide)) | (refine nc_int (by omega)) | (refine nc_big (by decide +kernel)) | refine nca_app ?_ ?_ | refine nca_cons ?_ ?_ | refine nca_take ?_ | refine nca_drop ?_ | refine nca_cutTo ?_ | refine nca_rev ?_ | refine nc_tup (by decide) ?_ | refine nc_lst (by decide) ?_ | refine nc_lst (Nat.le_trans (show _ ≤ 45 by wtm_at "rdl") (by decide)) ?_ | refine nc_tup (Nat.le_trans (show _ ≤ 45 by wtm_at "rdl") (by decide)) ?_))

section
variable {P : Program} {w : World} {K : PySem.W.Frag} {mg : Str → Option Value} {base : Heap}
def oV : Option (List Nat) → V
  | none => .non
  | some s => Tx s.reverse
theorem g_slInit2 {H : Hp} {Q : VK} {l : List Nat} {c : Nat} (h : l.length < 100000) (q : Q (Tx l) H) : rSlTx (Tx (l ++ [c])) none (some (-1)) H Q := by
  refine ⟨l ++ [c], rfl, by simp; omega, ?_⟩
  have hl : ((S (l ++ [c])).length : Int) = (l.length : Int) + 1 := by rw [S_len]; simp
  rw [PyProof.Rows.slice_to_neg (by decide), hl, show max 0 ((l.length : Int) + 1 + -1) = (l.length : Int) by omega, slice_to (by omega), Int.toNat_natCast, List.take_left]
  exact q
theorem bhd_clo {st b s : List Nat} (hc : ∀ c ∈ st, c ∈ CLO) (h : bhd st b = some s) : (∀ c ∈ s, c ∈ CLO) ∧ s.length ≤ st.length + 1 := by
  unfold bhd at h
  split at h
  · rename_i c
    by_cases h1 : c ∈ OPN
    · rw [stp_opn h1] at h
      injection h with h
      subst h
      refine ⟨fun x hx => ?_, Nat.le_refl _⟩
      rcases List.mem_cons.mp hx with rfl | hx
      · exact (by decide : ∀ c ∈ OPN, oth c ∈ CLO) c h1
      · exact hc x hx
    · by_cases h2 : c ∈ CLO
      · cases st with
        | nil => unfold stp at h; simp [h1, h2] at h
        | cons d r =>
          unfold stp at h
          simp only [h1, h2, if_false, if_true] at h
          split at h
          · injection h with h
            subst h
            exact ⟨fun x hx => hc x (List.mem_cons_of_mem _ hx), by rw [List.length_cons]; omega⟩
          · cases h
      · rw [stp_let h1 h2] at h
        injection h with h
        subst h
        exact ⟨hc, by omega⟩
  · injection h with h
    subst h
    exact ⟨hc, by omega⟩
def DvS (H : Hp) (i : Nat) (s : Stp) (dv : V) : Prop := if s.c = 1 then ∃ t, dv = .ref t ∧ H t = some (.tup (ddV (i, dwS s))) else dv = .non
/-- a step as it stands in the heap -/
def StS (H : Hp) (i : Nat) (v : V) (s : Stp) : Prop := ∃ (r : Addr) (dv : V), v = .ref r ∧ H r = some (.tup [dv, Tx s.o, .int (i + s.i.length : Nat)]) ∧ DvS H i s dv
theorem DvS.keep {H H' : Hp} {i : Nat} {s : Stp} {dv : V} (h : DvS H i s dv) (k : ∀ a xs, H a = some (.tup xs) → H' a = some (.tup xs)) : DvS H' i s dv := by
  unfold DvS at *
  split
  · rename_i hc
    rw [if_pos hc] at h
    obtain ⟨t, e, ht⟩ := h
    exact ⟨t, e, k _ _ ht⟩
  · rename_i hc
    rw [if_neg hc] at h
    exact h
theorem StS.same {H H' : Hp} {i : Nat} {v : V} {s : Stp} (h : StS H i v s) (sm : Same H H') : StS H' i v s := by
  obtain ⟨r, dv, h1, h2, h3⟩ := h
  exact ⟨r, dv, h1, sm _ _ h2, h3.keep fun a xs e => sm _ _ e⟩
theorem StS.but {H H' : Hp} {i : Nat} {v : V} {s : Stp} {p : Addr} {o : HO} (h : StS H i v s) (b : But p H H') (hp : H p = some o) (ho : ∀ xs, o ≠ .tup xs) : StS H' i v s := by
  obtain ⟨r, dv, h1, h2, h3⟩ := h
  have k : ∀ a xs, H a = some (.tup xs) → H' a = some (.tup xs) := fun a xs e => b _ _ (fun q => by rw [q, hp] at e; exact ho _ (Option.some.inj e)) e
  exact ⟨r, dv, h1, k _ _ h2, h3.keep k⟩
/-! _law_open -/
def sp_law_open : Sp := fun vs H Q _ => ∃ (st : List Nat) (c : Nat), vs = [Tx st.reverse, Tx [c]] ∧ c ∈ BRK ∧ st.length ≤ 1000 ∧ Q (oV (stp (some st) c)) H
theorem ok_law_open (T : Facts K mg) : C8.Cal P w K mg base 1 "_law_open" sp_law_open [] := by
  refine calD T.f_law_open sc_law_open (fun vs H Q E h => ?_) (fun f cdv A outer s H vs Q E hr h => ?_)
  · obtain ⟨st, c, rfl, hc, hl, q⟩ := h; rfl
  · obtain ⟨st, c, rfl, hc, hl, q⟩ := h
    refine ⟨_, (pss_cons (ps_if (pt_cmpR op_inT (pv 1) (pe_strS (l := OPN) (by decide +kernel)) (by rfl))
       (pss_one (ps_ret (pe_op op_addT (pv 0) (pe_ix ix_txt (pe_strS (l := CLO) (by decide +kernel)) (pe_m1 PySem.F.slot_str_index PySem.F.type_str_index mt_idxT (pe_strS (l := OPN) (by decide +kernel)) (pv 1)) (fun _ _ => rfl)))))
       pss_nil)
       (pss_cons (ps_ifC (PW.pt (pw_or (pt_cmpR op_eq (pv 0) (pe_strS (l := []) (by decide +kernel)) (nomark _)) (pw_or1 (pt_cmpR op_ne (pe_ix ix_txt (pv 0) (pe_un un_neg pe_int) (fun _ _ => rfl)) (pv 1) (nomark _)))))
       (pss_one (ps_ret pe_non))
       pss_nil)
       (pss_one (ps_ret (pe_slice sl_tx (pv 0) po_none (po_some (pe_un un_neg pe_int))))))), ?_⟩
    rw [st_law_open]
    wtm_at "unf"
    wtm_at "gx"
    have hrl : st.reverse.length ≤ 1000 := by rw [List.length_reverse]; exact hl
    refine g_test (fun h => ?_) (fun h => ?_)
    · wtm_at "gx"
      refine g_idxT1 (find_opn c h) ?_
      have hk : CLO[knd c]? = some (oth c) := (by decide : ∀ c ∈ OPN, CLO[knd c]? = some (oth c)) c h
      refine g_ixT (c := oth c) (by decide) (atI_of hk) ?_
      refine g_addT (by rw [List.length_singleton]; omega) ?_
      rw [stp_opn h] at q
      have e : oV (some (oth c :: st)) = Tx (st.reverse ++ [oth c]) := by show Tx (oth c :: st).reverse = _; rw [List.reverse_cons]
      rw [e] at q
      exact q
    · have hcl : c ∈ CLO := (brk_or.mp hc).resolve_left h
      have hno := h
      cases st with
      | nil =>
        rw [show ([] : List Nat).reverse = [] from rfl]
        refine g_ifC (b := true) (fun Q q => ?_) (fun h => ?_) (fun h => by cases h)
        · wtm_at "unf"
          wtm_at "gx"
          exact q
        · wtm_at "unf"
          wtm_at "gx"
          have e : stp (some []) c = none := by unfold stp; simp only [hno, hcl, if_false, if_true]
          rw [e] at q
          exact q
      | cons d r =>
        rw [List.reverse_cons] at hrl ⊢
        have hne : r.reverse ++ [d] ≠ [] := by simp
        refine g_ifC (b := !decide (d = c)) (fun Q q => ?_) (fun h => ?_) (fun h => ?_)
        · wtm_at "unf"
          wtm_at "gx"
          refine g_ixT (c := d) (by omega) (L2.atI_last _ _) ?_
          wtm_at "gx"
          refine ⟨_, rfl, ?_⟩
          rw [show decide (Tx [d] = Tx [c]) = decide (d = c) from decide_eq_decide.mpr ⟨fun h => (List.cons.inj (Tx_inj.mp h)).1, fun h => by rw [h]⟩]
          exact q
        · have hd : d ≠ c := by simpa using h
          wtm_at "unf"
          wtm_at "gx"
          have e : stp (some (d :: r)) c = none := by unfold stp; simp only [hno, hcl, hd, if_false, if_true]
          rw [e] at q
          exact q
        · have hd : d = c := by simpa using h
          subst hd
          wtm_at "unf"
          wtm_at "gx"
          refine g_slInit2 (by rw [List.length_append] at hrl; omega) ?_
          rw [stp_clo hcl] at q
          exact q
def stA (i n : Nat) : List Stp := if 0 < n then BRK.map Stp.pt else []
def stB (l : List Nat) (i : Nat) : List Stp := match l[i]? with
  | none => []
  | some x => [Stp.kp x]
def stC (l : List Nat) (i n : Nat) : List Stp := match l[i]? with
  | none => []
  | some x => if 0 < n ∧ x ∈ BRK then [Stp.st x] ++ (BRK.filter (· ≠ x)).map (Stp.tn x) else []
theorem stps_eq (l : List Nat) (i n : Nat) : stpsS l i n = stA i n ++ stB l i ++ stC l i n := by
  unfold stpsS stA stB stC
  cases l[i]? with
  | none => simp
  | some x => simp
theorem stA_len (i n : Nat) : (stA i n).length ≤ 8 := by
  unfold stA
  split
  · rw [List.length_map]; decide
  · exact Nat.zero_le _
/-! _law_steps -/
def sp_law_steps (K : PySem.W.Frag) : Sp := fun vs H Q _ => ∃ (l : List Nat) (wd : V) (i n : Nat), vs = [Tx l, wd, .int i, .int n] ∧ l.length ≤ 100 ∧ i ≤ l.length ∧ WdT H wd wAll ∧ ∀ (fa : Addr) (ts : List V) (H' : Hp), H fa = none → Same H H' → H' fa = some (.lst ts) → Paired (StS H' i) ts (stpsS l i n) → Q (.ref fa) H'
theorem ok_law_steps (T : Facts K mg) : C8.Cal P w K mg base 1 "_law_steps" (sp_law_steps K) [] := by
  refine calD T.f_law_steps sc_law_steps (fun vs H Q E h => ?_) (fun f cdv A outer s H vs Q E hr h => ?_)
  · obtain ⟨l, wd, i, n, rfl, hl, hi, hw, q⟩ := h; rfl
  · obtain ⟨l, wd, i, n, rfl, hl, hi, hw, q⟩ := h
    refine ⟨_, (pss_cons (ps_set (i := 4) sc_law_steps.nd rfl (Or.inl rfl) (pe_lst pa_nil))
       (C8.pss_cut (ps_ifC (PW.pt (pw_and (pt_cmpR op_gt (pv 3) pe_int (nomark _)) (pw_and1 (pt_cmpR op_in_seq (pe_strS (l := [112, 117, 116]) (by decide +kernel)) (pv 1) (by rfl)))))
       (pss_one (ps_setLc (i := 4) (own := [("bracket", 6)]) (by rfl) sc_law_steps.nd rfl rfl (sw_true rfl rfl rfl (by decide +kernel)) (pi_str (pe_strS (l := BRK) (by decide +kernel))) (blkOk_by (own := [("bracket", 6)]) (N := N_law_steps) (sc := defScope s_law_steps) (by decide +kernel)) (fun _ _ _ _ _ => (pg_name (i := 6) sc_law_steps.nd rfl (Or.inl rfl))) (fun _ _ _ _ _ => pts_nil) (fun _ _ _ _ _ => (pe_tup (pa_cons (pe_tup (pa_cons (pv 2) (pa_cons (pe_strS (l := [112, 117, 116]) (by decide +kernel)) (pa_cons (pv 6) pa_nil)))) (pa_cons (pv 6) (pa_cons (pv 2) pa_nil)))))))
       pss_nil)
       (C8.pss_cut (ps_if (pt_cmpR op_lt (pv 2) (pe_callB call_lenT rfl T.b_len PySem.boot_len (pa_cons (pv 0) pa_nil)) (nomark _))
       (pss_one (ps_expr (pe_bm PySem.F.plainAttrs_list PySem.F.slot_list_append PySem.F.type_list_append mt_append (pv 4) (pa_cons (pe_tup (pa_cons pe_non (pa_cons (pe_ix ix_txt (pv 0) (pv 2) (fun _ _ => rfl)) (pa_cons (pe_op op_add (pv 2) pe_int) pa_nil)))) pa_nil))))
       pss_nil)
       (C8.pss_cut (ps_ifC (PW.pt (pw_and (pt_cmpR op_lt (pv 2) (pe_callB call_lenT rfl T.b_len PySem.boot_len (pa_cons (pv 0) pa_nil)) (nomark _)) (pw_and (pt_cmpR op_gt (pv 3) pe_int (nomark _)) (pw_and1 (pt_cmpR op_inT (pe_ix ix_txt (pv 0) (pv 2) (fun _ _ => rfl)) (pe_strS (l := BRK) (by decide +kernel)) (by rfl))))))
       (C8.pss_cut (ps_if (pt_cmpR op_in_seq (pe_strS (l := [115, 116, 114, 105, 107, 101]) (by decide +kernel)) (pv 1) (by rfl))
       (pss_one (ps_expr (pe_bm PySem.F.plainAttrs_list PySem.F.slot_list_append PySem.F.type_list_append mt_append (pv 4) (pa_cons (pe_tup (pa_cons (pe_tup (pa_cons (pv 2) (pa_cons (pe_strS (l := [115, 116, 114, 105, 107, 101]) (by decide +kernel)) (pa_cons (pe_strS (l := []) (by decide +kernel)) pa_nil)))) (pa_cons (pe_strS (l := []) (by decide +kernel)) (pa_cons (pe_op op_add (pv 2) pe_int) pa_nil)))) pa_nil))))
       pss_nil)
       (pss_one (ps_if (pt_cmpR op_in_seq (pe_strS (l := [116, 117, 114, 110]) (by decide +kernel)) (pv 1) (by rfl))
       (pss_cons (ps_setLc (i := 5) (own := [("bracket", 6)]) (by rfl) sc_law_steps.nd rfl rfl (sw_true rfl rfl rfl (by decide +kernel)) (pi_str (pe_strS (l := BRK) (by decide +kernel))) (blkOk_by (own := [("bracket", 6)]) (N := N_law_steps) (sc := defScope s_law_steps) (by decide +kernel)) (fun _ _ _ _ _ => (pg_name (i := 6) sc_law_steps.nd rfl (Or.inl rfl))) (fun _ _ _ _ _ => (pts_one (pt_cmpR op_ne (pv 6) (pe_ix ix_txt (pv 0) (pv 2) (fun _ _ => rfl)) (nomark _)))) (fun _ _ _ _ _ => (pv 6)))
       (pss_one (ps_expr (pe_bm PySem.F.plainAttrs_list PySem.F.slot_list_extend PySem.F.type_list_extend mt_extend (pv 4) (pa_cons (pe_lc (own := [("bracket", 6)]) (by rfl) sc_law_steps.nd (pi_list (pv 5)) (blkOk_by (own := [("bracket", 6)]) (N := N_law_steps) (sc := defScope s_law_steps) (by decide +kernel)) (fun _ _ _ _ _ => (pg_name (i := 6) sc_law_steps.nd rfl (Or.inl rfl))) (fun _ _ _ _ _ => pts_nil) (fun _ _ _ _ _ => (pe_tup (pa_cons (pe_tup (pa_cons (pv 2) (pa_cons (pe_strS (l := [116, 117, 114, 110]) (by decide +kernel)) (pa_cons (pv 6) pa_nil)))) (pa_cons (pv 6) (pa_cons (pe_op op_add (pv 2) pe_int) pa_nil)))))) pa_nil)))))
       pss_nil)))
       pss_nil)
       (pss_one (ps_ret (pv 4))))))), ?_⟩
    rw [st_law_steps]
    wtm_at "unf"
    wtm_at "gx"
    refine g_lst (by show 0 ≤ 100000; decide) fun f0 H1 nf0 s1 ef0 => ?_
    refine ⟨fun σ' H2 => ∃ (fa : Addr) (ys : List V) (y6 : Option V), σ' = [some (Tx l), some wd, some (V.int i), some (V.int n), some (V.ref fa), none, y6] ∧ H fa = none ∧ Same H H2 ∧ H2 fa = some (.lst ys) ∧ Paired (StS H2 i) ys (stA i n), ?_, ?_⟩
    · refine g_ifC (b := decide (0 < n)) (fun Q q => ?_) (fun h => ?_) (fun h => ?_)
      · wtm_at "unf"
        wtm_at "gx"
        refine g_test (fun h => ?_) (fun h => ?_)
        · wtm_at "gx"
          refine g_inPut (hw.same s1).is ?_
          refine ⟨_, rfl, ?_⟩
          rw [show wAll.pt = decide (0 < n) by rw [decide_eq_true (show 0 < n by omega)]; rfl]
          exact q
        · rw [show decide (0 < n) = false by simp; omega] at q
          exact q
      · have hx := of_decide_eq_true h
        wtm_at "unf"
        wtm_at "gx"
        refine ⟨_, rfl, lc_txt fun d H2 nd s2 ed => ⟨fun pre H' => ∃ ys, H' d = some (.lst ys) ∧ Paired (StS H' i) ys (pre.map Stp.pt) ∧ Same H1 H', ⟨[], ed, .nil, s2⟩, fun pre c post H' e hv => ?_, fun H' hv => ?_⟩⟩
        · obtain ⟨ys, e1, e2, e3⟩ := hv
          have hpre : pre.length ≤ 8 := by have := congrArg List.length e; simp [BRK] at this; omega
          wtm_at "unf"
          refine ⟨rfl, ?_⟩
          wtm_at "gx"
          refine g_tup (by show 3 ≤ 100000; decide) fun td H3 ntd s3 etd => ?_
          wtm_at "gx"
          refine g_tup (by show 3 ≤ 100000; decide) fun t H4 nt s4 et => ?_
          have eys := s4 _ _ (s3 _ _ e1)
          have hyl : ys.length ≤ 8 := by rw [pd_len e2, List.length_map]; omega
          refine lc_put eys (by omega) fun H5 b5 e5 => ⟨_, e5, ?_, Same.b0 b5 (e3.trans (s3.trans s4)) nd⟩
          rw [List.map_append]
          refine pd_app (pd_imp (fun _ _ h => (h.same (s3.trans s4)).but b5 eys (fun _ e => (nomatch e))) e2) (pd_one ?_)
          exact StS.but ⟨t, V.ref td, rfl, et, td, rfl, s4 _ _ etd⟩ b5 eys (fun _ e => (nomatch e))
        · obtain ⟨ys, e1, e2, e3⟩ := hv
          refine ⟨d, ys, _, rfl, s1.free nd, s1.trans e3, e1, ?_⟩
          unfold stA
          rw [if_pos hx]
          exact e2
      · have hx := of_decide_eq_false h
        wtm_at "unf"
        refine ⟨f0, [], _, rfl, nf0, s1, ef0, ?_⟩
        unfold stA
        rw [if_neg hx]
        exact .nil
    rintro σ' H2 ⟨fa, ys, y6, rfl, nfa, s2, efa, hP⟩
    have hyl : ys.length ≤ 8 := by rw [pd_len hP]; exact stA_len i n
    refine ⟨fun σ' H3 => ∃ (ys : List V), σ' = [some (Tx l), some wd, some (V.int i), some (V.int n), some (V.ref fa), none, y6] ∧ Same H H3 ∧ H3 fa = some (.lst ys) ∧ ys.length ≤ 9 ∧ Paired (StS H3 i) ys (stA i n ++ stB l i), ?_, ?_⟩
    · wtm_at "gx"
      refine g_test (fun h => ?_) (fun h => ?_)
      · have hlt : i < l.length := by omega
        have ex : l[i]? = some l[i] := List.getElem?_eq_getElem hlt
        have eB : stB l i = [Stp.kp l[i]] := by unfold stB; rw [ex]
        generalize l[i] = x at ex eB
        wtm_at "gx"
        refine g_ixTn i (by omega) rfl ex ?_
        wtm_at "gx"
        refine g_tup (by show 3 ≤ 100000; decide) fun t H4 nt s4 et => ?_
        refine g_append1 (s4 _ _ efa) (by omega) fun H5 b5 e5 => ?_
        refine ⟨_, rfl, Same.b0 b5 (s2.trans s4) nfa, e5, by rw [List.length_append, List.length_singleton]; omega, ?_⟩
        rw [eB]
        refine pd_app (pd_imp (fun _ _ h => (h.same s4).but b5 (s4 _ _ efa) (fun _ e => (nomatch e))) hP) (pd_one ?_)
        exact StS.but ⟨t, V.non, rfl, et, rfl⟩ b5 (s4 _ _ efa) (fun _ e => (nomatch e))
      · have eB : stB l i = [] := by unfold stB; rw [List.getElem?_eq_none (by omega)]
        refine ⟨ys, rfl, s2, efa, by omega, ?_⟩
        rw [eB, List.append_nil]
        exact hP
    rintro σ' H3 ⟨ys3, rfl, s3, efa3, hyl3, hP3⟩
    rw [stps_eq] at q
    generalize stA i n ++ stB l i = A0 at hP3 q
    refine ⟨fun σ' H4 => ∃ (ys : List V) (y5 y6 : Option V), σ' = [some (Tx l), some wd, some (V.int i), some (V.int n), some (V.ref fa), y5, y6] ∧ Same H H4 ∧ H4 fa = some (.lst ys) ∧ Paired (StS H4 i) ys (A0 ++ stC l i n), ?_, ?_⟩
    · by_cases hlt : i < l.length
      · have ex : l[i]? = some l[i] := List.getElem?_eq_getElem hlt
        have eC : stC l i n = if 0 < n ∧ l[i] ∈ BRK then [Stp.st l[i]] ++ (BRK.filter (· ≠ l[i])).map (Stp.tn l[i]) else [] := by unfold stC; rw [ex]
        generalize l[i] = x at ex eC
        refine g_ifC (b := decide (0 < n ∧ x ∈ BRK)) (fun Q q => ?_) (fun h => ?_) (fun h => ?_)
        · wtm_at "unf"
          wtm_at "gx"
          refine g_test (fun h => ?_) (fun h => ?_)
          · wtm_at "gx"
            refine g_ixTn i (by omega) rfl ex ?_
            wtm_at "gx"
            refine ⟨_, rfl, ?_⟩
            rw [show decide (x ∈ BRK) = decide (0 < n ∧ x ∈ BRK) by simp; omega]
            exact q
          · rw [show decide (0 < n ∧ x ∈ BRK) = false by simp; omega] at q
            exact q
        · have hx := of_decide_eq_true h
          rw [if_pos hx] at eC
          rw [eC, ← List.append_assoc]
          wtm_at "unf"
          refine ⟨fun σ' H4 => ∃ (ys : List V), σ' = [some (Tx l), some wd, some (V.int i), some (V.int n), some (V.ref fa), none, y6] ∧ Same H H4 ∧ H4 fa = some (.lst ys) ∧ ys.length ≤ 10 ∧ Paired (StS H4 i) ys (A0 ++ [Stp.st x]), ?_, ?_⟩
          · wtm_at "gx"
            refine g_inStrike (hw.same s3).is ?_
            refine g_testB (fun h => ?_) (fun h => ?_)
            · wtm_at "gx"
              refine g_tup (by show 3 ≤ 100000; decide) fun td H4 ntd s4 etd => ?_
              wtm_at "gx"
              refine g_tup (by show 3 ≤ 100000; decide) fun t H5 nt s5 et => ?_
              have eys := (s4.trans s5) _ _ efa3
              refine g_append1 eys (by omega) fun H6 b6 e6 => ?_
              refine ⟨_, rfl, Same.b0 b6 (s3.trans (s4.trans s5)) nfa, e6, by rw [List.length_append, List.length_singleton]; omega, ?_⟩
              refine pd_app (pd_imp (fun _ _ h => (h.same (s4.trans s5)).but b6 eys (fun _ e => (nomatch e))) hP3) (pd_one ?_)
              exact StS.but ⟨t, V.ref td, rfl, et, td, rfl, s5 _ _ etd⟩ b6 eys (fun _ e => (nomatch e))
            · cases h
          rintro σ' H4 ⟨ys4, rfl, s4, efa4, hyl4, hP4⟩
          generalize A0 ++ [Stp.st x] = A1 at hP4
          wtm_at "gx"
          refine g_inTurn (hw.same s4).is ?_
          refine g_testB (fun h => ?_) (fun h => ?_)
          · wtm_at "gx"
            refine ⟨_, rfl, lc_txt fun d H5 nd s5 ed => ⟨fun pre H' => H' d = some (.lst ((pre.filter (· ≠ x)).map fun c => Tx [c])) ∧ Same H4 H', ⟨ed, s5⟩, fun pre c post H' e hv => ?_, fun H' hv => ?_⟩⟩
            · obtain ⟨e1, e3⟩ := hv
              have hpre : (pre.filter (· ≠ x)).length ≤ 8 := Nat.le_trans (List.length_filter_le _ _) (by have := congrArg List.length e; simp [BRK] at this; omega)
              wtm_at "unf"
              refine ⟨rfl, ?_⟩
              wtm_at "gx"
              refine g_ixTn i (by omega) rfl ex ?_
              wtm_at "gx"
              by_cases hc : c = x
              · refine ⟨false, by rw [hc, decide_eq_true rfl]; rfl, ?_⟩
                rw [if_neg Bool.false_ne_true]
                refine ⟨?_, e3⟩
                rw [List.filter_append, List.filter_cons_of_neg (by simpa using hc)]
                simpa using e1
              · refine ⟨true, by rw [decide_eq_false (fun q => hc (List.cons.inj (Tx_inj.mp q)).1)]; rfl, ?_⟩
                rw [if_pos rfl]
                wtm_at "gx"
                refine lc_put e1 (by rw [List.length_map]; omega) fun H5 b5 e5 => ⟨?_, Same.b0 b5 e3 nd⟩
                rw [List.filter_append, List.filter_cons_of_pos (by simpa using hc), List.map_append]
                exact e5
            obtain ⟨ed5, s5⟩ := hv
            have efa5 := s5 _ _ efa4
            generalize hF : BRK.filter (· ≠ x) = F at ed5
            have hFl : F.length ≤ 8 := by rw [← hF]; exact List.length_filter_le _ _
            wtm_at "unf"
            wtm_at "gx"
            refine ⟨d, rfl, ⟨_, sq_of ed5⟩, lc_lst (F.map fun c => Tx [c]) fun d2 H6 nd2 s6 ed2 => ⟨fun pre G => ∃ ys, G d2 = some (.lst ys) ∧ Paired (StS G i) ys ((F.take pre.length).map (Stp.tn x)) ∧ Same H' G, ⟨[], ed2, .nil, s6⟩, fun pre post G e hv => ?_, fun pre v post G e hv => ?_, fun G hv => ?_⟩⟩
            · obtain ⟨ys, e1, e2, e3⟩ := hv
              exact sq_of (e3 _ _ ed5)
            · obtain ⟨ys, e1, e2, e3⟩ := hv
              have hk : pre.length < F.length := by have := congrArg List.length e; simp at this; omega
              have ec : F[pre.length]? = some F[pre.length] := List.getElem?_eq_getElem hk
              have hv : v = Tx [F[pre.length]] := by
                have h1 : (F.map fun c => Tx [c])[pre.length]? = some v := mid_at e
                rw [List.getElem?_map, ec] at h1
                exact (Option.some.inj h1).symm
              have etk : F.take (pre ++ [v]).length = F.take pre.length ++ [F[pre.length]] := by
                rw [List.length_append, List.length_singleton]
                exact List.take_succ_eq_append_getElem hk
              generalize F[pre.length] = c at hv etk
              subst hv
              wtm_at "unf"
              refine ⟨rfl, ?_⟩
              wtm_at "gx"
              refine g_tup (by show 3 ≤ 100000; decide) fun td G3 ntd g3 etd => ?_
              wtm_at "gx"
              refine g_tup (by show 3 ≤ 100000; decide) fun t G4 nt g4 et => ?_
              have eys := g4 _ _ (g3 _ _ e1)
              have hyl : ys.length ≤ 8 := by rw [pd_len e2, List.length_map, List.length_take]; omega
              refine lc_put eys (by omega) fun G5 b5 e5 => ⟨_, e5, ?_, Same.b0 b5 (e3.trans (g3.trans g4)) nd2⟩
              rw [etk, List.map_append]
              refine pd_app (pd_imp (fun _ _ h => (h.same (g3.trans g4)).but b5 eys (fun _ e => (nomatch e))) e2) (pd_one ?_)
              exact StS.but ⟨t, V.ref td, rfl, et, td, rfl, g4 _ _ etd⟩ b5 eys (fun _ e => (nomatch e))
            · obtain ⟨ys, e1, e2, e3⟩ := hv
              rw [List.length_map, List.take_length] at e2
              have hyl : ys.length ≤ 8 := by rw [pd_len e2, List.length_map]; omega
              have efa6 := e3 _ _ efa5
              refine g_ext efa6 e1 (by omega) fun G5 b5 e5 => ?_
              refine ⟨_, _, _, rfl, Same.b0 b5 (s4.trans (s5.trans e3)) nfa, e5, ?_⟩
              exact pd_app (pd_imp (fun _ _ h => (h.same (s5.trans e3)).but b5 efa6 (fun _ e => (nomatch e))) hP4) (pd_imp (fun _ _ h => h.but b5 efa6 (fun _ e => (nomatch e))) e2)
          · cases h
        · have hx := of_decide_eq_false h
          rw [if_neg hx] at eC
          rw [eC, List.append_nil]
          wtm_at "unf"
          exact ⟨ys3, _, _, rfl, s3, efa3, hP3⟩
      · have eC : stC l i n = [] := by unfold stC; rw [List.getElem?_eq_none (by omega)]
        rw [eC, List.append_nil]
        refine g_ifC (b := false) (fun Q q => ?_) (fun h => by cases h) (fun h => ?_)
        · wtm_at "unf"
          wtm_at "gx"
          exact q
        · wtm_at "unf"
          exact ⟨ys3, _, _, rfl, s3, efa3, hP3⟩
    rintro σ' H4 ⟨ys4, y5, y6', rfl, s4, efa4, hP4⟩
    wtm_at "unf"
    wtm_at "gx"
    exact q fa ys4 H4 nfa s4 efa4 hP4
/-! _law_behind -/
def sp_law_behind : Sp := fun vs H Q _ => ∃ (st b : List Nat), vs = [Tx st.reverse, Tx b] ∧ (b = [] ∨ ∃ c, b = [c]) ∧ st.length ≤ 1000 ∧ Q (oV (bhd st b)) H
theorem ok_law_behind (T : Facts K mg) : C8.Cal P w K mg base 2 "_law_behind" sp_law_behind [] := by
  refine calD T.f_law_behind sc_law_behind (fun vs H Q E h => ?_) (fun f cdv A outer s H vs Q E hr h => ?_)
  · obtain ⟨st, b, rfl, hb, hl, q⟩ := h; rfl
  · obtain ⟨st, b, rfl, hb, hl, q⟩ := h
    refine ⟨_, (pss_cons (ps_ifC (PW.pt (pw_and (pt_cmpR op_ne (pv 1) (pe_strS (l := []) (by decide +kernel)) (nomark _)) (pw_and1 (pt_cmpR op_inT (pv 1) (pe_strS (l := BRK) (by decide +kernel)) (by rfl)))))
       (pss_one (ps_ret (pe_own (ok_law_open T) hr (by omega) rfl (pa_cons (pv 0) (pa_cons (pv 1) pa_nil)))))
       pss_nil)
       (pss_one (ps_ret (pv 0)))), ?_⟩
    rw [st_law_behind]
    rcases hb with rfl | ⟨c, rfl⟩
    · refine g_ifC (b := false) (fun Q q => ?_) (fun h => by cases h) (fun h => ?_)
      · wtm_at "unf"
        wtm_at "gx"
        exact q
      · wtm_at "unf"
        wtm_at "gx"
        exact q
    · by_cases hc : c ∈ BRK
      · refine g_ifC (b := true) (fun Q q => ?_) (fun h => ?_) (fun h => by cases h)
        · wtm_at "unf"
          wtm_at "gx"
          exact q
        · wtm_at "unf"
          wtm_at "gx"
          exact ⟨st, c, rfl, hc, hl, q⟩
      · refine g_ifC (b := false) (fun Q q => ?_) (fun h => by cases h) (fun h => ?_)
        · wtm_at "unf"
          wtm_at "gx"
          exact q
        · wtm_at "unf"
          wtm_at "gx"
          have e : stp (some st) c = some st := stp_let (fun q => hc (brk_or.mpr (.inl q))) (fun q => hc (brk_or.mpr (.inr q)))
          have q' : Q (oV (stp (some st) c)) H := q
          rw [e] at q'
          exact q'
end
end K33

set_option maxHeartbeats 4000000
namespace K33
open PySem PySem.Spec PyProof.Rows L2 SX Ly
local macro_rules | `(tactic| wtm_at "unf") => `(tactic| (try simp only [tMetX, tOwnX, tChain, tSeq, tNext, tBreak, tCont, tDrop, tRet, tRetN, tIfS, tAsg, tAug, tC, tOp, tUn, tNil, tCons, tOwn, tCB, tTest, tB, tAnd, tOr, tNot, tAndV, tOrV, tNotV, tIf, gName, gSub, tBM, tBM0, tM0, tM1, tSl, tPart_eq, tNoPart, tLst_eq, tTup_eq, tRevL_eq, tReplT, tRevS, tDGet_eq, sDPut_eq, tDNewT_eq, tMet, tMak, tFld_eq, sFld_eq, C8.tCut, wipe, tYes, gTup, gCons, gNil, List.set_cons_zero, List.set_cons_succ, if_true, if_false, Bool.false_eq_true, Bool.not_true, Bool.not_false, true_and, reduceIte, cx_K, tFor_eq, tLc_eq, iStr, iList, iTup, iRng1, iRng2, iRng3, iEnum, iZip, tLstRg, tRg1, gLst, RZ.iZipA, iEnumS, iZipS, tDNewK_eq, tDGet2, tDIn, tDNotIn, iKd]))
local macro_rules | `(tactic| wtm_at "unfA") => `(tactic| (try simp only [tMetX, tOwnX, tChain, tSeq, tNext, tBreak, tCont, tDrop, tRet, tRetN, tIfS, tAsg, tAug, tC, tOp, tUn, tNil, tCons, tOwn, tCB, tTest, tB, tAnd, tOr, tNot, tIf, gName, gSub, tBM, tBM0, tM0, tM1, tSl, tPart_eq, tNoPart, tLst_eq, tTup_eq, tRevL_eq, tReplT, tRevS, tDGet_eq, sDPut_eq, tDNewT_eq, tMet, tMak, tFld_eq, sFld_eq, C8.tCut, wipe, tYes, gTup, gCons, gNil, List.set_cons_zero, List.set_cons_succ, if_true, if_false, Bool.false_eq_true, Bool.not_true, Bool.not_false, true_and, reduceIte, cx_K, tFor_eq, tLc_eq, iStr, iList, iTup, iRng1, iRng2, iRng3, iEnum, iZip, tLstRg, tRg1, gLst, RZ.iZipA, iEnumS, iZipS, tDNewK_eq, tDGet2, tDIn, tDNotIn, iKd]))
local macro_rules | `(tactic| wtm_at "ne") => `(tactic| first | assumption | (apply Ne.symm; assumption) | (apply ne_new; (· assumption); (· wtm_at "lk")) | (apply Ne.symm; apply ne_new; (· assumption); (· wtm_at "lk")))
local macro_rules | `(tactic| wtm_at "lk") => `(tactic| first | assumption | exact upd_same | (apply Same.get; (· assumption); (· wtm_at "lk")) | (apply But.get; (· assumption); (· wtm_at "ne"); (· wtm_at "lk")))
local macro_rules | `(tactic| wtm_at "sq") => `(tactic| first | assumption | (apply sq_of; wtm_at "lk") | (apply Same.seq; (· assumption); (· wtm_at "sq")) | (apply But.sq; (· assumption); (· wtm_at "ne"); (· wtm_at "sq")))
local macro_rules | `(tactic| wtm_at "fr") => `(tactic| first | assumption | (apply Same.fr; (· assumption); (· wtm_at "sm")) | (apply But.fr; (· assumption); (· wtm_at "sm"); (· wtm_at "ne")))
local macro_rules | `(tactic| wtm_at "sm") => `(tactic| first | exact Same.refl _ | exact But.refl | assumption | (apply Same.tr; (· assumption); (· wtm_at "sm")) | (apply Same.b0; (· assumption); (· wtm_at "sm"); (· wtm_at "fr")) | (apply But.sa; (· assumption); (· wtm_at "sm")) | (apply But.tr; (· assumption); (· wtm_at "sm")) | (apply But.b0; (· assumption); (· wtm_at "sm"); (· wtm_at "fr")) | (apply Same.toBut; wtm_at "sm"))
local macro_rules | `(tactic| wtm_at "sc") => `(tactic| first | exact Int.zero_lt_one | (show (0 : Int) < _; omega) | (show (0 : Int) < _; decide) | exact ⟨by omega, by omega⟩ | exact .inl ⟨by omega, by omega⟩ | exact .inr ⟨by omega, by omega⟩)
local macro_rules | `(tactic| wtm_at "go1") => `(tactic| first | ((with_reducible apply g_var); (· exact rfl)) | with_reducible apply g_I0 | ((with_reducible apply g_I); (· wtm_at "sc")) | with_reducible apply g_U | with_reducible apply g_ipI | ((with_reducible apply g_addT); (· first | omega | (simp; done) | (simp; omega))) | with_reducible apply g_inT | with_reducible apply g_ninT | ((with_reducible apply g_lenT); (· omega)) | with_reducible apply g_findT1 | with_reducible apply g_str | with_reducible apply g_part | with_reducible apply g_intB | ((with_reducible apply g_ixL); (· wtm_at "sq"); (· exact rfl)) | ((with_reducible apply g_setL); (· wtm_at "lk"); (· exact rfl)) | ((with_reducible apply g_eq); (· rfl)) | ((with_reducible apply g_ne); (· rfl)))
local macro_rules | `(tactic| wtm_at "go") => `(tactic| repeat wtm_at "go1")
local macro_rules | `(tactic| wtm_at "lp") => `(tactic| skip)
local macro_rules | `(tactic| wtm_at "om") => `(tactic| first | omega | (simp; done) | (simp; omega) | (simp at *; omega))
local macro_rules | `(tactic| wtm_at "ty") => `(tactic| first | exact ty_str | exact ty_int | exact ty_bl | exact ty_non | (apply ty_lst; wtm_at "lk") | (apply ty_tup; wtm_at "lk"))
local macro_rules | `(tactic| wtm_at "kb") => `(tactic| first | exact kb_str_str | exact kb_str_int | exact kb_str_bool | exact kb_str_list | exact kb_str_tuple | exact kb_int_str | exact kb_int_int | exact kb_int_bool | exact kb_int_list | exact kb_int_tuple | exact kb_bool_str | exact kb_bool_int | exact kb_bool_bool | exact kb_bool_list | exact kb_bool_tuple | exact kb_list_str | exact kb_list_int | exact kb_list_bool | exact kb_list_list | exact kb_list_tuple | exact kb_tuple_str | exact kb_tuple_int | exact kb_tuple_bool | exact kb_tuple_list | exact kb_tuple_tuple | exact kb_NoneType_str | exact kb_NoneType_int | exact kb_NoneType_bool | exact kb_NoneType_list | exact kb_NoneType_tuple | exact kb_dict_str | exact kb_dict_int | exact kb_dict_bool | exact kb_dict_list | exact kb_dict_tuple)
local macro_rules | `(tactic| wtm_at "gx1") => `(tactic| first | ((with_reducible apply g_eqS); (· exact rfl)) | ((with_reducible apply g_neS); (· exact rfl)) | wtm_at "go1" | with_reducible apply g_min2 | with_reducible apply g_max2 | with_reducible apply g_T | with_reducible apply g_F | with_reducible apply g_NT | with_reducible apply g_NF | with_reducible apply g_nT | with_reducible apply g_nF | with_reducible apply g_RT | with_reducible apply g_RF | ((with_reducible apply g_isi); (· wtm_at "ty"); (· wtm_at "kb")) | ((with_reducible apply g_ixAU3); (· wtm_at "lk"); (· exact rfl)) | ((with_reducible apply g_ixAL3); (· wtm_at "lk"); (· exact rfl)) | ((with_reducible apply g_ixU3); (· wtm_at "lk"); (· exact rfl)) | ((with_reducible apply g_lenL3); (· wtm_at "lk")) | ((with_reducible apply g_lenU3); (· wtm_at "lk")) | ((with_reducible apply g_tyL3); (· wtm_at "lk")) | ((with_reducible apply g_lenT); (· wtm_at "pv")) | wtm_at "tr" | with_reducible apply g_ET | with_reducible apply g_EF | with_reducible apply g_EnT | with_reducible apply g_EnF)
local macro_rules | `(tactic| wtm_at "pv") => `(tactic| first | exact rfl | assumption | omega | (simp; done) | (simp; omega))
local macro_rules | `(tactic| wtm_at "tr") => `(tactic| first | ((with_reducible apply g_Td); (· wtm_at "pv")) | ((with_reducible apply g_Fd); (· wtm_at "pv")) | ((with_reducible apply g_NTd); (· wtm_at "pv")) | ((with_reducible apply g_NFd); (· wtm_at "pv")) | ((with_reducible apply g_nTd); (· wtm_at "pv")) | ((with_reducible apply g_nFd); (· wtm_at "pv")) | ((with_reducible apply g_RTd); (· wtm_at "pv")) | ((with_reducible apply g_RFd); (· wtm_at "pv")))
local macro_rules | `(tactic| wtm_at "gx") => `(tactic| repeat wtm_at "gx1")
local macro_rules | `(tactic| wtm_at "unfS") => `(tactic| (try simp only [tSeq, tNext, tAsg, tFor_eq, C8.tCut, wipe, gName, tDrop, List.set_cons_zero, List.set_cons_succ, cx_K]))
local macro_rules | `(tactic| wtm_at "rd1") => `(tactic| first | exact rd_int | exact rd_str | exact rd_bl | exact rd_non | exact rda_nil | apply rda_cons | (with_reducible apply rd_tup; (· assumption)) | (with_reducible apply rd_lst; (· assumption)) | exact rd_dic (by assumption) | exact rd_var rfl (.int _) | exact rd_var rfl (.str _) | exact rd_var rfl (.bl _) | exact rd_var rfl (by assumption) | (with_reducible apply rd_cat; (· assumption)) | (with_reducible apply rd_rep2; (· assumption)) | (with_reducible apply rd_rev; (· assumption)) | (with_reducible apply rd_to; (· assumption)) | (with_reducible apply rd_from; (· assumption)) | (with_reducible apply rd_tupOf; (· assumption)) | (with_reducible apply rd_lstOf; (· assumption)) | with_reducible apply rd_lenL | with_reducible apply rd_lenT | with_reducible apply rd_I0 | with_reducible apply rd_I | with_reducible apply rd_U | with_reducible apply rd_eqI | with_reducible apply rd_ixL | with_reducible apply rd_ixT | exact atI_hd _ _ | exact ‹atI _ _ = some _›)
local macro_rules | `(tactic| wtm_at "rdl") => `(tactic| first | decide | omega | wtm_at "sc" | (simp only [List.length_append, List.length_cons, List.length_nil, List.length_map, List.length_take, List.length_drop, List.length_reverse, cutTo]; omega))
local macro_rules | `(tactic| wtm_at "rd") => `(tactic| ((repeat' wtm_at "rd1"); (all_goals wtm_at "rdl")))
local macro_rules | `(tactic| wtm_at "nc") => `(tactic| repeat' (first | assumption | exact nca_nil | exact nc_non | exact nc_bl | exact nc_dic | exact nc_tup0 | exact nc_lst0 | (refine nc_strS (by decide) (by decide)) | (refine nc_int (by omega)) | (refine nc_big (by decide +kernel)) | refine nca_app ?_ ?_ | refine nca_cons ?_ ?_ | refine nca_take ?_ | refine nca_drop ?_ | refine nca_cutTo ?_ | refine nca_rev ?_ | refine nc_tup (by decide) ?_ | refine nc_lst (by decide) ?_ | refine nc_lst (Nat.le_trans (show _ ≤ 45 by wtm_at "rdl") (by decide)) ?_ | refine nc_tup (Nat.le_trans (show _ ≤ 45 by wtm_at "rdl") (by decide)) ?_))

section
variable {P : Program} {w : World} {K : PySem.W.Frag} {mg : Str → Option Value} {base : Heap}
/-- a row of deeds as it stands in the heap, not there in G -/
def RwH (G H : Hp) (i : Nat) (v : V) (α : List Stp) : Prop := ∃ a rs, v = .ref a ∧ Dds H a rs (ddS i α) ∧ G a = none
section
variable {G G0 H H1 : Hp} {i fa : Nat} {v : V} {α : List Stp} {ys : List V} {u : HO}
theorem RwH.same (h : RwH G H i v α) (z : Same H H1) : RwH G H1 i v α := by
  obtain ⟨a, rs, e, h1, h2⟩ := h
  exact ⟨a, rs, e, h1.same z, h2⟩
theorem RwH.old (h : RwH G H i v α) (z : Same G0 G) : RwH G0 H i v α := by
  obtain ⟨a, rs, e, h1, h2⟩ := h
  exact ⟨a, rs, e, h1, z.free h2⟩
theorem RwH.but {fa : Addr} (h : RwH G H i v α) (z : But fa H H1) (hf : H fa = some (.lst ys)) (hg : G fa = some u) : RwH G H1 i v α := by
  obtain ⟨a, rs, e, h1, h2⟩ := h
  exact ⟨a, rs, e, h1.but z hf (fun q => by rw [q, hg] at h2; cases h2), h2⟩
end
/-- .. and another one than fa -/
def RwF (G : Hp) (fa : Addr) (H : Hp) (i : Nat) (v : V) (α : List Stp) : Prop := ∃ a rs, v = .ref a ∧ Dds H a rs (ddS i α) ∧ G a = none ∧ a ≠ fa
theorem RwF.same {G H H1 : Hp} {fa : Addr} {i : Nat} {v : V} {α : List Stp} (h : RwF G fa H i v α) (z : Same H H1) : RwF G fa H1 i v α := by
  obtain ⟨a, rs, e, h1, h2⟩ := h
  exact ⟨a, rs, e, h1.same z, h2⟩
theorem RwF.but {G H H1 : Hp} {fa : Addr} {i : Nat} {v : V} {α : List Stp} {ys : List V} (h : RwF G fa H i v α) (z : But fa H H1) (hf : H fa = some (.lst ys)) : RwF G fa H1 i v α := by
  obtain ⟨a, rs, e, h1, h2, h3⟩ := h
  exact ⟨a, rs, e, h1.but z hf h3, h2, h3⟩
theorem bhd_nx (st : List Nat) (s : Stp) : bhd st s.o = nxS st s := by cases s <;> rfl
theorem cut_c (dv : V) (s : Stp) : cutV [dv] none (some (s.c : Int)) = if s.c = 1 then [dv] else [] := by cases s <;> rfl
theorem aft_none {l st : List Nat} {i m : Nat} {s : Stp} (h : nxS st s = none) : aftS wAll st l i m s = [] := by
  unfold aftS
  rw [h]
  split <;> rfl
theorem aft_some {l st s' : List Nat} {i m : Nat} {s : Stp} (h : nxS st s = some s') (hc : s.c ≤ m) : aftS wAll st l i m s = rowsL wAll s' (l.drop (i + s.i.length)) (m - s.c) := by
  unfold aftS
  rw [h, if_pos hc]
/-! _law_all -/
def sp_law_all (K : PySem.W.Frag) : Nat → Sp
  | 0 => fun _ _ _ _ => False
  | n + 1 => fun vs H Q _ => ∃ (l : List Nat) (i : Nat) (st : List Nat) (m : Nat), vs = [Tx l, .int i, Tx st.reverse, .int m] ∧ l.length ≤ 4 ∧ (∀ c ∈ l, isSg c) ∧ i ≤ l.length ∧ m ≤ 4 ∧ (∀ c ∈ st, c ∈ CLO) ∧ st.length ≤ 9 ∧ An wAll st (l.drop i) m ≤ 2000 ∧ m + (l.length - i) ≤ n ∧
    ∀ (fa : Addr) (ts : List V) (A : List (List Stp)) (H' : Hp), H fa = none → Same H H' → H' fa = some (.lst ts) → A.Perm (rowsL wAll st (l.drop i) m) → Paired (RwH H H' i) ts A → Q (.ref fa) H'
theorem ok_law_all (T : Facts K mg) (n : Nat) : C8.Cal P w K mg base (n + 3) "_law_all" (sp_law_all K n) [] := by
  induction n with
  | zero => exact cal_false T.f_law_all sc_law_all (fun _ _ _ _ h => h)
  | succ n ih =>
  rw [show n + 1 + 3 = (n + 3) + 1 by omega]
  refine calD T.f_law_all sc_law_all (fun vs H Q E h => ?_) (fun f cdv A outer s H vs Q E hr h => ?_)
  · obtain ⟨l, i, st, m, rfl, hl, hs, hi, hm, hc, hst, hA, hn, q⟩ := h; rfl
  · obtain ⟨l, i, st, m, rfl, hl, hs, hi, hm, hc, hst, hA, hn, q⟩ := h
    refine ⟨_, (pss_cons (ps_if (pt_cmpR op_gt (pe_callB call_lenT rfl T.b_len PySem.boot_len (pa_cons (pv 2) pa_nil)) (pe_op op_sub (pe_op op_add (pv 3) (pe_callB call_lenT rfl T.b_len PySem.boot_len (pa_cons (pv 0) pa_nil))) (pv 1)) (nomark _))
       (pss_one (ps_ret (pe_lst pa_nil)))
       pss_nil)
       (pss_cons (ps_set (i := 4) sc_law_all.nd rfl (Or.inl rfl) (pe_lst pa_nil))
       (C8.pss_cut (ps_ifC (PW.pt (pw_and (pt_cmpR op_eq (pv 1) (pe_callB call_lenT rfl T.b_len PySem.boot_len (pa_cons (pv 0) pa_nil)) (nomark _)) (pw_and (pt_cmpR op_eq (pv 2) (pe_strS (l := []) (by decide +kernel)) (nomark _)) (pw_and1 (pt_cmpR op_eq (pv 3) pe_int (nomark _))))))
       (pss_one (ps_set (i := 4) sc_law_all.nd rfl (Or.inl rfl) (pe_lst (pa_cons (pe_lst pa_nil) pa_nil))))
       pss_nil)
       (pss_cons (ps_for PassesOwn.never rfl (pi_list (pe_own (ok_law_steps T) hr (by omega) rfl (pa_cons (pv 0) (pa_cons (pe_tup (pa_cons (pe_strS (l := [112, 117, 116]) (by decide +kernel)) (pa_cons (pe_strS (l := [115, 116, 114, 105, 107, 101]) (by decide +kernel)) (pa_cons (pe_strS (l := [116, 117, 114, 110]) (by decide +kernel)) pa_nil)))) (pa_cons (pv 1) (pa_cons (pv 3) pa_nil)))))) (pg_tup rfl (pgs_cons (pg_name (i := 5) sc_law_all.nd rfl (Or.inr rfl)) (pgs_cons (pg_name (i := 6) sc_law_all.nd rfl (Or.inl rfl)) (pgs_cons (pg_name (i := 7) sc_law_all.nd rfl (Or.inl rfl)) pgs_nil))))
       (pss_cons (ps_set (i := 8) sc_law_all.nd rfl (Or.inl rfl) (pe_own (ok_law_behind T) hr (by omega) rfl (pa_cons (pv 2) (pa_cons (pv 6) pa_nil))))
       (pss_one (ps_if (pt_cmpR op_notN (pv 8) pe_non (nomark _))
       (pss_cons (ps_set (i := 9) sc_law_all.nd rfl (Or.inl rfl) (pe_own ih hr (Nat.le_refl _) rfl (pa_cons (pv 0) (pa_cons (pv 7) (pa_cons (pv 8) (pa_cons (pe_op op_sub (pv 3) (pe_callTy call_intB rfl T.b_int (by decide +kernel) (pa_cons (pe_cmpR op_notN (pv 5) pe_non (nomark _)) pa_nil))) pa_nil))))))
       (pss_one (ps_expr (pe_bm PySem.F.plainAttrs_list PySem.F.slot_list_extend PySem.F.type_list_extend mt_extend (pv 4) (pa_cons (pe_lc (own := [("one", 10)]) (by rfl) sc_law_all.nd (pi_list (pv 9)) (blkOk_by (own := [("one", 10)]) (N := N_law_all) (sc := defScope s_law_all) (by decide +kernel)) (fun _ _ _ _ _ => (pg_name (i := 10) sc_law_all.nd rfl (Or.inl rfl))) (fun _ _ _ _ _ => pts_nil) (fun _ _ _ _ _ => (pe_op op_cat (pe_slice (r := rSlL K) sl_list (pe_lst (pa_cons (pv 5) pa_nil)) po_none (po_some (pe_callTy call_intB rfl T.b_int (by decide +kernel) (pa_cons (pe_cmpR op_notN (pv 5) pe_non (nomark _)) pa_nil)))) (pv 10)))) pa_nil)))))
       pss_nil))))
       (pss_one (ps_ret (pv 4))))))), ?_⟩
    rw [st_law_all]
    have hdl : (l.drop i).length = l.length - i := List.length_drop
    wtm_at "unfA"
    wtm_at "gx"
    refine g_test (fun h => ?_) (fun h => ?_)
    · have e : An wAll st (l.drop i) m = 0 := An_prune (by rw [hdl]; rw [List.length_reverse] at h; omega)
      refine g_lst (by show 0 ≤ 100000; decide) fun fa H1 nfa s1 efa => q fa [] [] H1 nfa s1 efa ?_ .nil
      rw [List.eq_nil_of_length_eq_zero (show (rowsL wAll st (l.drop i) m).length = 0 from e)]
    have hst8 : st.length ≤ 8 := by rw [List.length_reverse] at h; omega
    wtm_at "gx"
    refine g_lst (by show 0 ≤ 100000; decide) fun f0 H1 nf0 s1 ef0 => ?_
    refine ⟨fun σ' H2 => ∃ (fa : Addr) (us : List V), σ' = [some (Tx l), some (V.int i), some (Tx st.reverse), some (V.int m), some (V.ref fa), none, none, none, none, none, none] ∧ H fa = none ∧ Same H H2 ∧ H2 fa = some (.lst us) ∧ Paired (RwF H fa H2 i) us (if i = l.length ∧ st = [] ∧ m = 0 then [[]] else []), ?_, ?_⟩
    · refine g_ifC (b := decide (i = l.length ∧ st = [] ∧ m = 0)) (fun Q q => ?_) (fun h => ?_) (fun h => ?_)
      · have i1 : (V.int (i : Int) = V.int (l.length : Int)) ↔ i = l.length := ⟨fun h => by have := V.int.inj h; omega, fun h => by rw [h]⟩
        have i2 : (Tx st.reverse = Tx []) ↔ st = [] := ⟨fun h => by have := Tx_inj.mp h; simpa using this, fun h => by rw [h]; rfl⟩
        have i3 : (V.int (m : Int) = V.int 0) ↔ m = 0 := ⟨fun h => by have := V.int.inj h; omega, fun h => by rw [h]; rfl⟩
        wtm_at "unf"
        wtm_at "gx"
        refine g_test (fun h1 => ?_) (fun h1 => ?_)
        · have h1' := i1.mp h1
          wtm_at "gx"
          refine g_test (fun h2 => ?_) (fun h2 => ?_)
          · have h2' := i2.mp h2
            wtm_at "gx"
            refine ⟨_, rfl, ?_⟩
            rw [show decide (V.int (m : Int) = V.int 0) = decide (i = l.length ∧ st = [] ∧ m = 0) from decide_eq_decide.mpr ⟨fun h => ⟨h1', h2', i3.mp h⟩, fun h => i3.mpr h.2.2⟩]
            exact q
          · rw [decide_eq_false (fun h => h2 (i2.mpr h.2.1))] at q
            exact q
        · rw [decide_eq_false (fun h => h1 (i1.mpr h.1))] at q
          exact q
      · have h' := of_decide_eq_true h
        rw [if_pos h']
        wtm_at "unf"
        refine g_lst (by show 0 ≤ 100000; decide) fun e0 H2 n0 s2 ee0 => ?_
        refine g_lst (by show 1 ≤ 100000; decide) fun fb H3 nfb s3 efb => ?_
        refine ⟨fb, [V.ref e0], rfl, s1.free (s2.free nfb), s1.trans (s2.trans s3), efb, pd_one ⟨e0, [], rfl, dds_nil (s3 _ _ ee0), s1.free n0, ne_new nfb ee0⟩⟩
      · have h' := of_decide_eq_false h
        rw [if_neg h']
        wtm_at "unf"
        exact ⟨f0, [], rfl, nf0, s1, ef0, .nil⟩
    rintro σ' H2 ⟨fa, us, rfl, nfa, s2, efa, hP0⟩
    generalize hA0 : (if i = l.length ∧ st = [] ∧ m = 0 then [[]] else [] : List (List Stp)) = A0 at hP0
    wtm_at "gx"
    refine g_tup (by show 3 ≤ 100000; decide) fun wd H3 nwd s3 ewd => ?_
    wtm_at "gx"
    refine ⟨l, V.ref wd, i, m, rfl, by omega, hi, ⟨wd, rfl, ewd⟩, fun sa ss H4 nsa s4 esa hSt => ?_⟩
    have S4 : Same H H4 := s2.trans (s3.trans s4)
    have efa4 := s4 _ _ (s3 _ _ efa)
    have hsf : sa ≠ fa := fun e => by rw [e, s3 _ _ efa] at nsa; cases nsa
    refine ⟨sa, rfl, ⟨_, sq_of esa⟩, for_lst ss (fun pre σ H5 => ∃ (ts : List V) (A : List (List Stp)) (y5 y6 y7 y8 y9 y10 : Option V), σ = [some (Tx l), some (V.int i), some (Tx st.reverse), some (V.int m), some (V.ref fa), y5, y6, y7, y8, y9, y10] ∧ But fa H4 H5 ∧ H5 fa = some (.lst ts) ∧ A.Perm (A0 ++ ((stpsS l i m).take pre.length).flatMap fun s => (aftS wAll st l i m s).map (s :: ·)) ∧ Paired (RwF H fa H5 i) ts A) ⟨us, A0, none, none, none, none, none, none, rfl, But.refl, efa4, by rw [show ([] : List V).length = 0 from rfl, List.take_zero, List.flatMap_nil, List.append_nil], pd_imp (fun v α h => h.same (s3.trans s4)) hP0⟩ (fun pre post σ H5 e hv => ?_) (fun pre x post σ H5 e hv => ?_) (fun σ H5 hv => ?_)⟩
    · obtain ⟨ts, A, y5, y6, y7, y8, y9, y10, rfl, b5, _⟩ := hv
      exact sq_of (b5 _ _ hsf esa)
    · obtain ⟨ts, A, y5, y6, y7, y8, y9, y10, rfl, b5, e5, hpm, hP5⟩ := hv
      obtain ⟨s, hx, hsm, etk⟩ := pd_turn hSt e
      have hx5 := hx.but b5 efa4 (fun xs h => by cases h)
      obtain ⟨r, dv, rfl, er, hdv⟩ := hx5
      obtain ⟨m1, m2, m3, m4, m5⟩ := stps_mem hi hs hsm
      have hbig := take_le (st := st) (k := pre.length) (n := m) hi
      have htl := hpm.length_eq
      rw [← hA0] at htl
      rw [etk, List.flatMap_append, ← List.append_assoc, show ([s].flatMap fun s => (aftS wAll st l i m s).map (s :: ·)) = (aftS wAll st l i m s).map (s :: ·) by simp]
      obtain ⟨n', rfl⟩ : ∃ n', n = n' + 1 := ⟨n - 1, by omega⟩
      wtm_at "unf"
      refine ⟨r, _, rfl, st_of er, rfl, _, _, rfl, _, _, rfl, _, _, rfl, rfl, ?_⟩
      wtm_at "unf"
      wtm_at "gx"
      refine ⟨st, s.o, rfl, m1, by omega, ?_⟩
      rw [bhd_nx]
      cases hb : nxS st s with
      | none =>
        rw [show oV none = V.non from rfl, aft_none hb]
        wtm_at "gx"
        refine ⟨ts, A, _, _, _, _, _, _, rfl, b5, e5, ?_, hP5⟩
        rw [List.map_nil, List.append_nil]
        exact hpm
      | some s' =>
        have hb' : bhd st s.o = some s' := by rw [bhd_nx]; exact hb
        obtain ⟨c1, c2⟩ := bhd_clo hc hb'
        have hale := aft_le (st := st) hi hsm
        rw [aft_some hb m3] at hale ⊢
        rw [show oV (some s') = Tx s'.reverse from rfl]
        wtm_at "gx"
        have hdc : (if (!decide (dv = V.non)) = true then 1 else 0 : Int) = (s.c : Int) := by
          unfold DvS at hdv
          by_cases hc1 : s.c = 1
          · rw [if_pos hc1] at hdv
            obtain ⟨t, rfl, _⟩ := hdv
            rw [hc1]
            rfl
          · rw [if_neg hc1] at hdv
            have : s.c = 0 := by cases s <;> first | rfl | exact absurd rfl hc1
            rw [hdv, this]
            rfl
        rw [hdc, show (m : Int) - (s.c : Int) = ((m - s.c : Nat) : Int) by omega]
        refine ⟨l, i + s.i.length, s', m - s.c, rfl, hl, hs, m2, by omega, c1, by omega, by show An wAll s' (l.drop (i + s.i.length)) (m - s.c) ≤ 2000; exact Nat.le_trans hale hA, by omega, fun ra ts2 A2 H6 nra s6 era hpm2 hP6 => ?_⟩
        wtm_at "gx"
        refine ⟨ra, rfl, ⟨_, sq_of era⟩, lc_lst ts2 fun cl H7 ncl s7 ecl => ⟨fun pre2 G => ∃ zs, G cl = some (.lst zs) ∧ Same H6 G ∧ zs.length = pre2.length ∧ Paired (fun v α => ∃ a rs, v = V.ref a ∧ Dds G a rs (ddS i α) ∧ H5 a = none ∧ a ≠ cl) zs ((A2.take pre2.length).map (s :: ·)), ⟨[], ecl, s7, rfl, .nil⟩, fun pre2 post2 G e2 hv => ?_, fun pre2 x post2 G e2 hv => ?_, fun G hv => ?_⟩⟩
        · obtain ⟨zs, _, sG, _⟩ := hv
          exact sq_of (sG _ _ era)
        · obtain ⟨zs, eG, sG, lzs, hz⟩ := hv
          obtain ⟨β, ⟨a, rs, rfl, hD, hna⟩, hβ, e7⟩ := pd_turn hP6 e2
          have hDG := hD.same sG
          have hdvG : DvS G i s dv := hdv.keep fun a xs e => sG _ _ (s6 _ _ e)
          have hrs : rs.length ≤ 1000 := by
            rw [hD.len, dd_cst]
            have := (mem_rows.mp (hpm2.mem_iff.mp hβ)).ct
            omega
          have hA2l : A2.length ≤ 2000 := by
            have := hpm2.length_eq
            have h2 : (rowsL wAll s' (l.drop (i + s.i.length)) (m - s.c)).length ≤ An wAll st (l.drop i) m := hale
            omega
          have hpl2 : pre2.length ≤ A2.length := by
            rw [← pd_len hP6, e2, List.length_append]
            omega
          wtm_at "unf"
          refine ⟨rfl, ?_⟩
          wtm_at "gx"
          refine g_lst (by show 1 ≤ 100000; decide) fun la G2 n2 g2 ela => ?_
          wtm_at "gx"
          rw [hdc]
          wtm_at "gx"
          refine g_slL (sq_of ela) fun lb G3 n3 g3 elb => ?_
          rw [cut_c] at elb
          wtm_at "gx"
          have hlb : ∃ qs, Dds G3 lb qs (if s.c = 1 then [(i, dwS s)] else []) := by
            unfold DvS at hdvG
            by_cases hc1 : s.c = 1
            · rw [if_pos hc1] at hdvG elb
              obtain ⟨t, rfl, et⟩ := hdvG
              rw [if_pos hc1]
              exact ⟨[t], dds_one elb (g3 _ _ (g2 _ _ et))⟩
            · rw [if_neg hc1] at elb
              rw [if_neg hc1]
              exact ⟨[], dds_nil elb⟩
          obtain ⟨qs, hlb⟩ := hlb
          have hql : qs.length ≤ 1 := by rw [hlb.len]; split <;> simp
          have hD3 := (hDG.same g2).same g3
          refine g_cat hlb.hd hD3.hd (by rw [List.length_map, List.length_map]; omega) fun n G4 n4 g4 en => ?_
          have hcat := dds_cat (hlb.same g4) (hD3.same g4) en
          rw [← ddS_step] at hcat
          have S4 : Same G G4 := g2.trans (g3.trans g4)
          have eG4 := S4 _ _ eG
          refine lc_put eG4 (by omega) fun G5 g5 e5' => ⟨_, e5', Same.b0 g5 (sG.trans S4) ncl, by simp [lzs], ?_⟩
          have hnc : n ≠ cl := fun e => by rw [e, g3 _ _ (g2 _ _ eG)] at n4; cases n4
          have hn5 : H5 n = none := s6.free (sG.free (g2.free (g3.free n4)))
          rw [e7, List.map_append]
          refine pd_app (pd_imp (fun v α h => ?_) hz) (pd_one ⟨n, qs ++ rs, rfl, hcat.but g5 eG4 hnc, hn5, hnc⟩)
          obtain ⟨a', rs', rfl, h1, h2, h3⟩ := h
          exact ⟨a', rs', rfl, (h1.same S4).but g5 eG4 h3, h2, h3⟩
        · obtain ⟨zs, eG, sG, lzs, hz⟩ := hv
          rw [pd_len hP6, List.take_length] at hz
          have hA2l : A2.length ≤ 2000 := by
            have := hpm2.length_eq
            have h2 : (rowsL wAll s' (l.drop (i + s.i.length)) (m - s.c)).length ≤ An wAll st (l.drop i) m := hale
            omega
          have htsl : ts.length ≤ 2000 := by
            have := pd_len hP5
            rw [htl] at this
            omega
          have hzl : zs.length ≤ 2000 := by rw [pd_len hz, List.length_map]; exact hA2l
          have e5G := sG _ _ (s6 _ _ e5)
          refine g_ext e5G eG (by omega) fun G2 g2 eG2 => ?_
          refine ⟨ts ++ zs, A ++ A2.map (s :: ·), _, _, _, _, _, _, rfl, But.tr g2 (But.sa (s6.trans sG) b5), eG2, List.Perm.append hpm (hpm2.map _), ?_⟩
          refine pd_app (pd_imp (fun v α h => (h.same (s6.trans sG)).but g2 e5G) hP5) (pd_imp (fun v α h => ?_) hz)
          obtain ⟨a', rs', rfl, h1, h2, h3⟩ := h
          have haf : a' ≠ fa := fun e => by rw [e, e5] at h2; cases h2
          exact ⟨a', rs', rfl, h1.but g2 e5G haf, S4.free (b5.free haf h2), haf⟩
    · obtain ⟨ts, A, y5, y6, y7, y8, y9, y10, rfl, b5, e5, hpm, hP5⟩ := hv
      rw [pd_len hSt, List.take_length, ← hA0] at hpm
      wtm_at "unf"
      wtm_at "gx"
      exact q fa ts A H5 nfa (Same.b0 b5 S4 nfa) e5 (hpm.trans (law_rows hi)) (pd_imp (fun v α h => by obtain ⟨a, rs, e, h1, h2, _⟩ := h; exact ⟨a, rs, e, h1, h2⟩) hP5)
/-! _law_least_rows -/
def sp_law_least_rows (K : PySem.W.Frag) : Sp := fun vs H Q _ => ∃ (l : List Nat), vs = [Tx l] ∧ l.length ≤ 4 ∧ (∀ c ∈ l, isSg c) ∧
    ∀ (fa : Addr) (ts : List V) (A : List (List Stp)) (H' : Hp), H fa = none → Same H H' → H' fa = some (.lst ts) → A.Perm (rowsL wAll [] l (lsN l)) → Paired (RwH H H' 0) ts A → Q (.ref fa) H'
theorem ok_law_least_rows (T : Facts K mg) : C8.Cal P w K mg base 13 "_law_least_rows" (sp_law_least_rows K) [] := by
  refine calD T.f_law_least_rows sc_law_least_rows (fun vs H Q E h => ?_) (fun f cdv A outer s H vs Q E hr h => ?_)
  · obtain ⟨l, rfl, hl, hs, q⟩ := h; rfl
  · obtain ⟨l, rfl, hl, hs, q⟩ := h
    refine ⟨_, (pss_cons (ps_set (i := 1) sc_law_least_rows.nd rfl (Or.inl rfl) pe_int)
       (pss_cons (ps_set (i := 2) sc_law_least_rows.nd rfl (Or.inl rfl) (pe_own (ok_law_all T 9) hr (by omega) rfl (pa_cons (pv 0) (pa_cons pe_int (pa_cons (pe_strS (l := []) (by decide +kernel)) (pa_cons pe_int pa_nil))))))
       (pss_cons (ps_while PassesOwn.never (pt_cmpR (op_eqE hr.units) (pv 2) (pe_lst pa_nil) (nomark _))
       (pss_cons (ps_set (i := 1) sc_law_least_rows.nd rfl (Or.inl rfl) (pe_op op_add (pv 1) pe_int))
       (pss_one (ps_set (i := 2) sc_law_least_rows.nd rfl (Or.inl rfl) (pe_own (ok_law_all T 9) hr (by omega) rfl (pa_cons (pv 0) (pa_cons pe_int (pa_cons (pe_strS (l := []) (by decide +kernel)) (pa_cons (pv 1) pa_nil)))))))))
       (pss_one (ps_ret (pv 2)))))), ?_⟩
    rw [st_law_least_rows]
    have hfew := least_few hl
    have hAn : ∀ n, n ≤ lsN l → An wAll [] (l.drop 0) n ≤ 2000 := fun n hn => by
      rw [List.drop_zero]
      by_cases e : n = lsN l
      · rw [e]; exact Nat.le_trans hfew.1 (by decide)
      · rw [hfew.2 n (by omega)]; decide
    have hlen := lsN_len l
    obtain ⟨z1, z2⟩ := lsN_An (W := wAll) rfl rfl l
    wtm_at "unf"
    wtm_at "gx"
    show sp_law_all K 9 [Tx l, V.int ((0 : Nat) : Int), Tx ([] : List Nat).reverse, V.int ((0 : Nat) : Int)] H _ _
    refine ⟨l, 0, [], 0, rfl, hl, hs, Nat.zero_le _, by omega, fun c hc => (by cases hc), Nat.zero_le _, hAn 0 (Nat.zero_le _), (by show _ ≤ 8; omega), fun ra ts A H1 nra s1 era hpm hP => ?_⟩
    rw [List.drop_zero] at hpm
    refine g_while (fun k σ H2 => ∃ (n : Nat) (ra : Addr) (ts : List V) (A : List (List Stp)), σ = [some (Tx l), some (V.int n), some (V.ref ra)] ∧ n ≤ lsN l ∧ k = lsN l - n ∧ Same H H2 ∧ H ra = none ∧ H2 ra = some (.lst ts) ∧ A.Perm (rowsL wAll [] l n) ∧ Paired (RwH H H2 0) ts A) (lsN l) ⟨0, ra, ts, A, rfl, Nat.zero_le _, rfl, s1, nra, era, hpm, hP⟩ fun k σ H2 hv => ?_
    obtain ⟨n, ra, ts, A, rfl, hn, rfl, s2, nra, era, hpm, hP⟩ := hv
    wtm_at "unf"
    wtm_at "gx"
    refine g_lst (by show 0 ≤ 100000; decide) fun l0 H3 nl0 s3 el0 => ?_
    refine g_eqE (sq_of (s3 _ _ era)) el0 ?_
    refine ⟨_, rfl, ?_⟩
    have hlenA : ts.length = An wAll [] l n := by rw [pd_len hP, hpm.length_eq]; rfl
    by_cases h0 : ts = []
    · rw [if_pos (by rw [decide_eq_true h0])]
      have hz : An wAll [] l n = 0 := by rw [← hlenA, h0]; rfl
      have hlt : n < lsN l := by
        by_cases e : n = lsN l
        · rw [e] at hz; exact absurd hz z1
        · omega
      refine g_whb ?_
      wtm_at "unf"
      wtm_at "gx"
      show sp_law_all K 9 [Tx l, V.int ((0 : Nat) : Int), Tx ([] : List Nat).reverse, V.int ((n + 1 : Nat) : Int)] H3 _ _
      refine ⟨l, 0, [], n + 1, rfl, hl, hs, Nat.zero_le _, by omega, fun c hc => (by cases hc), Nat.zero_le _, hAn (n + 1) hlt, (by show _ ≤ 8; omega), fun rb us B H4 nrb s4 erb hpmB hPB => ?_⟩
      rw [List.drop_zero] at hpmB
      refine ⟨lsN l - (n + 1), by omega, n + 1, rb, us, B, rfl, hlt, rfl, s2.trans (s3.trans s4), s2.free (s3.free nrb), erb, hpmB, pd_imp (fun v α h => h.old (s2.trans s3)) hPB⟩
    · rw [if_neg (by rw [decide_eq_false h0]; exact Bool.false_ne_true)]
      have hnz : An wAll [] l n ≠ 0 := by
        rw [← hlenA]
        exact fun e => h0 (List.eq_nil_of_length_eq_zero e)
      have e : n = lsN l := Nat.le_antisymm hn (z2 n hnz)
      subst e
      wtm_at "unf"
      wtm_at "gx"
      exact q ra ts A H3 nra (s2.trans s3) (s3 _ _ era) hpm (pd_imp (fun v α h => h.same s3) hP)
/-! _law_shares -/
def sp_law_shares : Sp := fun vs H Q _ => ∃ (a : Addr) (ts : List V) (l : List Nat) (A : List (List Stp)), vs = [.ref a] ∧ H a = some (.lst ts) ∧ Paired (RwH (fun _ => none) H 0) ts A ∧ l.length ≤ 4 ∧ (∀ α ∈ A, ∀ d ∈ ddS 0 α, d ∈ evD l) ∧ A.length ≤ 2000 ∧
    ∀ (fa : Addr) (ts : List V) (ds : List Deed) (H' : Hp), H fa = none → Same H H' → ds.Nodup → (∀ d, d ∈ ds ↔ shR 0 A d ≠ 0) → H' fa = some (.lst ts) → Paired (ShV H' (shR 0 A)) ts (srtD ds) → Q (.ref fa) H'
theorem ok_law_shares (T : Facts K mg) : C8.Cal P w K mg base 1 "_law_shares" sp_law_shares [] := by
  refine calD T.f_law_shares sc_law_shares (fun vs H Q E h => ?_) (fun f cdv A outer s H vs Q E hr h => ?_)
  · obtain ⟨a, ts, l, A, rfl, ha, hp, hl, hA, hz, q⟩ := h; rfl
  · obtain ⟨a, ts, l, A, rfl, ha, hp, hl, hA, hz, q⟩ := h
    refine ⟨_, (pss_cons (ps_set (i := 1) sc_law_shares.nd rfl (Or.inr rfl) pe_dnewT)
       (pss_cons (ps_for PassesOwn.never rfl (pi_list (pv 0)) (pg_name (i := 2) sc_law_shares.nd rfl (Or.inl rfl))
       (pss_one (ps_for PassesOwn.never rfl (pi_list (pv 2)) (pg_name (i := 3) sc_law_shares.nd rfl (Or.inl rfl))
       (pss_one (ps_dput (hu_of hr) (pv 1) (pv 3) (pe_op op_add (pe_dget2 (hu_of hr) (pv 1) (pv 3) pe_int ⟨rfl, rfl, rfl, rfl⟩) pe_int) rfl)))))
       (pss_one (ps_ret (pe_lc (own := [("deed", 3)]) (by rfl) sc_law_shares.nd (pi_list (pe_callB (call_sortDd rfl hr.units) rfl T.b_sorted (by decide +kernel) (pa_cons (pv 1) pa_nil))) (blkOk_by (own := [("deed", 3)]) (N := N_law_shares) (sc := defScope s_law_shares) (by decide +kernel)) (fun _ _ _ _ _ => (pg_name (i := 3) sc_law_shares.nd rfl (Or.inl rfl))) (fun _ _ _ _ _ => pts_nil) (fun _ _ _ _ _ => (pe_tup (pa_cons (pv 3) (pa_cons (pe_dget (hu_of hr) (pv 1) (pv 3) (fun _ _ => rfl)) pa_nil))))))))), ?_⟩
    rw [st_law_shares]
    have hE : (evD l).length < 100000 := by have := evD_len l; omega
    wtm_at "unf"
    wtm_at "gx"
    refine g_dnewD (E := evD l) fun fa H1 nfa s1 hS1 => ?_
    wtm_at "gx"
    have haf : a ≠ fa := fun e => by rw [e, nfa] at ha; cases ha
    have ha1 := s1 _ _ ha
    refine ⟨_, rfl, ⟨_, sq_of ha1⟩, for_lst ts (fun pre σ H2 => ∃ (y2 y3 : Option V), σ = [some (V.ref a), some (V.ref fa), y2, y3] ∧ But fa H1 H2 ∧ SD H2 fa (evD l) (shR 0 (A.take pre.length))) ⟨none, none, rfl, But.refl, hS1.congr fun d => by rw [show ([] : List V).length = 0 from rfl, List.take_zero]; rfl⟩ (fun pre post σ H2 e hv => ?_) (fun pre x post σ H2 e hv => ?_) (fun σ H2 hv => ?_)⟩
    · obtain ⟨y2, y3, rfl, b2, _⟩ := hv
      exact sq_of (b2 _ _ haf ha1)
    · obtain ⟨y2, y3, rfl, b2, hS2⟩ := hv
      obtain ⟨α, ⟨b, rs, rfl, hD, _⟩, hmem, etk⟩ := pd_turn hp e
      have hbf : b ≠ fa := fun e => by have := hD.hd; rw [e, nfa] at this; cases this
      have hD2 := (hD.same s1).butD b2 hS1 hbf
      wtm_at "unf"
      wtm_at "gx"
      refine ⟨_, rfl, ⟨_, sq_of hD2.hd⟩, for_lst (rs.map V.ref) (fun pre1 σ H3 => ∃ (y3 : Option V), σ = [some (V.ref a), some (V.ref fa), some (V.ref b), y3] ∧ But fa H2 H3 ∧ SD H3 fa (evD l) (fun d => shR 0 (A.take pre.length) d + ((ddS 0 α).take pre1.length).count d)) ⟨y3, rfl, But.refl, hS2.congr fun d => by simp⟩ (fun pre1 post1 σ H3 e1 hv => ?_) (fun pre1 x post1 σ H3 e1 hv => ?_) (fun σ H3 hv => ?_)⟩
      · obtain ⟨y3, rfl, b3, _⟩ := hv
        exact sq_of (b3 _ _ hbf hD2.hd)
      · obtain ⟨y3, rfl, b3, hS3⟩ := hv
        have hD3 := hD2.butD b3 hS2 hbf
        have hx := mid_at e1
        have hkl : pre1.length < (ddS 0 α).length := by have := (List.getElem?_eq_some_iff.mp hx).1; rw [List.length_map, hD2.len] at this; exact this
        obtain ⟨r, d, k1, k2, k3, k4⟩ := hD3.row hkl
        rw [k3] at hx
        have hx' := (Option.some.inj hx).symm
        subst hx'
        have hde := hA α hmem d (List.mem_of_getElem? k2)
        wtm_at "unf"
        wtm_at "gx"
        refine ⟨fa, rfl, hS3.isD, ?_⟩
        wtm_at "gx"
        obtain ⟨g, hSg, hg⟩ := hS3.ex
        refine ⟨_, hSg.get k4, ?_⟩
        rw [sd_getD]
        wtm_at "gx"
        refine g_dputDv (d := d) (n := g d + 1) hSg k4 hde hE (by rw [Int.natCast_add]; rfl) (by omega) fun H5 b5 hS5 => ?_
        refine ⟨_, rfl, But.tr b5 b3, hS5.congr fun x => ?_⟩
        rw [hg, hg, show (pre1 ++ [V.ref r]).length = pre1.length + 1 by simp, (cut_at k2).1, List.count_append, List.count_singleton]
        by_cases hxd : x = d
        · subst hxd
          rw [if_pos rfl, if_pos (by simp)]
          omega
        · rw [if_neg hxd, if_neg (by simpa using fun h => hxd h.symm)]
          rfl
      · obtain ⟨y3, rfl, b3, hS3⟩ := hv
        rw [List.length_map, hD2.len, List.take_length] at hS3
        refine ⟨_, _, rfl, But.tr b3 b2, hS3.congr fun d => ?_⟩
        rw [etk]
        unfold shR
        rw [List.map_append, List.sum_append_nat]
        simp
    · obtain ⟨y2, y3, rfl, b2, hS2⟩ := hv
      rw [pd_len hp, List.take_length] at hS2
      have S2 : Same H H2 := Same.b0 b2 s1 nfa
      wtm_at "unf"
      wtm_at "gx"
      refine ⟨fa, evD l, shR 0 A, rfl, hS2, fun ds la rs H4 hn hm hin nla s4 hD => ?_⟩
      have hS4 := hS2.same s4
      refine ⟨_, rfl, ⟨_, sq_of hD.hd⟩, lc_lst (rs.map V.ref) fun ra H5 nra s5 era => ⟨fun pre G => ∃ ts, G ra = some (.lst ts) ∧ Same H4 G ∧ ts.length = pre.length ∧ Paired (ShV G (shR 0 A)) ts ((srtD ds).take pre.length), ⟨[], era, s5, rfl, .nil⟩, fun pre post G e hv => ?_, fun pre x post G e hv => ?_, fun G hv => ?_⟩⟩
      · obtain ⟨ts, _, sG, _⟩ := hv
        exact sq_of (sG _ _ hD.hd)
      · obtain ⟨ts, eG, sG, lts, hp⟩ := hv
        have hx := mid_at e
        have hkl : pre.length < (srtD ds).length := by have := (List.getElem?_eq_some_iff.mp hx).1; rw [List.length_map, hD.len] at this; exact this
        obtain ⟨r, dd, k1, k2, k3, k4⟩ := (hD.same sG).row hkl
        rw [k3] at hx
        have hx' := (Option.some.inj hx).symm
        subst hx'
        have hlen := nodup_len ds (evD l) hn hin
        rw [srt_len] at hkl
        wtm_at "unf"
        refine ⟨rfl, ?_⟩
        wtm_at "gx"
        have hd0 : shR 0 A dd ≠ 0 := (hm dd).mp (mem_srt.mp (List.mem_of_getElem? k2))
        refine g_dgetD (hS4.same sG) k4 hd0 ?_
        refine g_tup (by show 2 ≤ 100000; decide) fun t G1 nt g1 et => ?_
        refine lc_put (g1 _ _ eG) (by omega) fun G2 g2 e2 => ⟨_, e2, Same.b0 g2 (sG.trans g1) nra, by simp [lts], ?_⟩
        rw [show (pre ++ [V.ref r]).length = pre.length + 1 by simp, (cut_at k2).1]
        exact pd_app (pd_imp (fun v s h => (h.same g1).but g2 (g1 _ _ eG)) hp) (pd_one (ShV.but ⟨t, r, rfl, et, g1 _ _ k4⟩ g2 (g1 _ _ eG)))
      · obtain ⟨ts, eG, sG, lts, hp⟩ := hv
        rw [List.length_map, hD.len, List.take_length] at hp
        exact q ra ts ds G (S2.free (s4.free nra)) (S2.trans (s4.trans sG)) hn hm eG hp
def shD (f : Deed → Nat) (d : Deed) : PyData := .tuple [ddD d, .int (f d : Nat)]
def shsD (f : Deed → Nat) (ds : List Deed) : PyData := .list (ds.map (shD f))
theorem shv_dps {K : PySem.W.Frag} {H : Hp} {f : Deed → Nat} : ∀ {ts : List V} {ds : List Deed}, Paired (ShV H f) ts ds → DpAll K H ts (ds.map (shD f))
  | _, _, .nil => .nil
  | _, _, .cons ⟨t, r, e, h1, h2⟩ q => by
    subst e
    exact .cons (.tup (st_of h1) (.cons (.tup (st_of h2) (.cons (.int _) (.cons (.str _) (.cons (.str _) .nil)))) (.cons (.int _) .nil))) (shv_dps q)
theorem shv_dp {K : PySem.W.Frag} {H : Hp} {f : Deed → Nat} {a : Addr} {ts : List V} {ds : List Deed} (ha : H a = some (.lst ts)) (h : Paired (ShV H f) ts ds) : Dp K H (.ref a) (shsD f ds) := .lst (sq_of ha) (shv_dps h)
theorem shs_shaped {f : Deed → Nat} {ds : List Deed} (h : sgD ds) : SeqAt.shaped (shsD f ds) = true := by
  have h1 : ∀ ds : List Deed, sgD ds → PyData.canLayAll0 (ds.map (shD f)) = true ∧ PyData.depthAll (ds.map (shD f)) ≤ 2 := by
    intro ds
    induction ds with
    | nil => intro _; exact ⟨rfl, Nat.zero_le _⟩
    | cons d ds ih =>
      intro h
      obtain ⟨i1, i2⟩ := ih fun x hx => h x (List.mem_cons_of_mem _ hx)
      constructor
      · show (PyData.canLay0 (shD f d) && PyData.canLayAll0 (ds.map (shD f))) = true
        have h3 : PyData.canLay0 (ddD d) = true := by
          show (true && (PyData.canLay0 (txD d.2.w) && (PyData.canLay0 (txD d.2.s) && true))) = true
          rw [can_tx (dw_lt d.2), can_tx (h d (List.mem_cons_self ..))]
          rfl
        have : PyData.canLay0 (shD f d) = true := by
          show (PyData.canLay0 (ddD d) && (true && true)) = true
          rw [h3]
          rfl
        rw [this, i1]
        rfl
      · show max (PyData.depth (shD f d)) (PyData.depthAll (ds.map (shD f))) ≤ 2
        have : PyData.depth (shD f d) = 2 := rfl
        omega
  obtain ⟨i1, i2⟩ := h1 ds h
  unfold SeqAt.shaped
  have e1 : PyData.canLay0 (shsD f ds) = true := i1
  have e2 : PyData.depth (shsD f ds) = PyData.depthAll (ds.map (shD f)) + 1 := rfl
  rw [e1, e2, Bool.true_and]
  exact decide_eq_true (by omega)
theorem ev_sg {l : List Nat} {d : Deed} (h : d ∈ evD l) : ∀ c ∈ d.2.s, c < 1114112 := by
  have h := mem_evD.mp h
  obtain ⟨p, w⟩ := d
  have hb : ∀ c ∈ BRK, c < 1114112 := by decide
  cases w with
  | put c =>
    intro x hx
    rw [List.mem_singleton.mp hx]
    unfold okB at h
    exact hb c (of_decide_eq_true (Bool.and_eq_true_iff.mp h).2)
  | str => intro x hx; cases hx
  | trn c =>
    intro x hx
    rw [List.mem_singleton.mp hx]
    unfold okB at h
    dsimp only at h
    cases e : l[p]? with
    | none => rw [e] at h; cases h
    | some y =>
      rw [e] at h
      exact hb c (of_decide_eq_true (Bool.and_eq_true_iff.mp (Bool.and_eq_true_iff.mp h).2).1)
theorem lt_le {a b : Deed} (h : PySem.W.dataLt (ddD a) (ddD b) = true) : PySem.W.dataLe false ddD a b = true := (le_total.total a b).elim id fun h2 => by rw [le_def, h] at h2; cases h2
def X1 : List Deed := [(0, Dw.str), (1, Dw.put 41)]
theorem sh_one (d : Deed) : shN [40] 0 1 d = X1.count d := by
  have e : lsF [40] 0 1 = [Fs.one (.st 40) 1, Fs.two (.kp 40) 1 1 (.pt 41) 1] := by decide +kernel
  rw [shN_step (by decide) (by decide), e]
  have k : kN [40] 1 1 = 1 := by decide +kernel
  have z : shN [40] 1 1 d = 0 := shN_self _ _ _
  show ([(0, Dw.str)] : List Deed).count d * kN [40] 1 1 + (kN [40] 1 1 / kN [40] 1 1 * shN [40] 1 1 d + 0) + (([(1, Dw.put 41)] : List Deed).count d * (kN [40] 1 1 * kN [40] 1 1) + (kN [40] 1 1 * kN [40] 1 1 / kN [40] 1 1 * shN [40] 1 1 d + (kN [40] 1 1 * kN [40] 1 1 / kN [40] 1 1 * shN [40] 1 1 d + 0)) + 0) = _
  rw [k, z]
  show _ = ([(0, Dw.str)] ++ [(1, Dw.put 41)] : List Deed).count d
  rw [List.count_append]
  omega
theorem srt_X1 {ds : List Deed} (hn : ds.Nodup) (hm : ∀ d, d ∈ ds ↔ shN [40] 0 1 d ≠ 0) : srtD ds = X1 := by
  have h1 : srtD ds = srtD X1 := srt_set hn (by decide) fun d => by rw [hm, sh_one, Ne, List.count_eq_zero, Classical.not_not]
  rw [h1]
  refine srt_uniq (srt_le _) ?_ (srt_perm _)
  refine List.pairwise_cons.mpr ⟨fun b hb => ?_, List.pairwise_singleton _ _⟩
  rw [List.mem_singleton.mp hb]
  exact lt_le (lt_place (by decide))
/-! _law_same -/
def sp_law_same : Sp := fun vs H Q _ => ∃ (a b : Addr) (ts us : List V) (f : Deed → Nat) (ds : List Deed), vs = [.ref a, .ref b] ∧ H a = some (.lst ts) ∧ H b = some (.lst us) ∧ Paired (ShV H f) ts ds ∧ Paired (ShV H f) us ds ∧ sgD ds ∧ ∀ H', Same H H' → Q (.bl true) H'
theorem ok_law_same (T : Facts K mg) : C8.Cal P w K mg base 1 "_law_same" sp_law_same [] := by
  refine calD T.f_law_same sc_law_same (fun vs H Q E h => ?_) (fun f cdv A outer s H vs Q E hr h => ?_)
  · obtain ⟨a, b, ts, us, f, ds, rfl, ha, hb, hp, hq, hs, q⟩ := h; rfl
  · obtain ⟨a, b, ts, us, f, ds, rfl, ha, hb, hp, hq, hs, q⟩ := h
    refine ⟨_, (pss_cons (ps_ifC (PW.pt (pw_or (pt_not (pt_val (pe_callB call_isi rfl T.b_isinstance (by decide +kernel) (pa_cons (pv 0) (pa_cons (pe_bltn (v := .ty "list") rfl T.b_list (by decide +kernel) rfl) pa_nil))))) (pw_or1 (pt_cmpR (op_neD hr.units) (pv 0) (pv 1) (nomark _)))))
       (pss_one (ps_ret pe_bl))
       pss_nil)
       (pss_cons (ps_for PassesOwn.never rfl (pi_list (pv 0)) (pg_name (i := 2) sc_law_same.nd rfl (Or.inl rfl))
       (pss_one (ps_ifC (PW.pt (pw_or (pt_not (pt_val (pe_callB call_isi rfl T.b_isinstance (by decide +kernel) (pa_cons (pv 2) (pa_cons (pe_bltn (v := .ty "tuple") rfl T.b_tuple (by decide +kernel) rfl) pa_nil))))) (pw_or (pt_not (pt_val (pe_callB call_isi rfl T.b_isinstance (by decide +kernel) (pa_cons (pe_ix ix_tup (pv 2) pe_int (fun _ _ => rfl)) (pa_cons (pe_bltn (v := .ty "tuple") rfl T.b_tuple (by decide +kernel) rfl) pa_nil))))) (pw_or1 (pt_val (pe_callB call_isi rfl T.b_isinstance (by decide +kernel) (pa_cons (pe_ix ix_tup (pv 2) pe_int (fun _ _ => rfl)) (pa_cons (pe_bltn (v := .ty "bool") rfl T.b_bool (by decide +kernel) rfl) pa_nil))))))))
       (pss_one (ps_ret pe_bl))
       pss_nil)))
       (pss_one (ps_ret pe_bl)))), ?_⟩
    rw [st_law_same]
    refine g_ifC (b := false) (fun Q q => ?_) (fun h => by cases h) (fun h => ?_)
    · wtm_at "unf"
      wtm_at "gx"
      refine g_neDp (shv_dp ha hp) (shv_dp hb hq) (shs_shaped hs) ?_
      exact ⟨false, rfl, q⟩
    wtm_at "unf"
    wtm_at "gx"
    refine ⟨_, rfl, ⟨_, sq_of ha⟩, for_lst ts (fun pre σ H1 => ∃ y, σ = [some (V.ref a), some (V.ref b), y] ∧ H1 = H) ⟨none, rfl, rfl⟩ (fun pre post σ H1 e hv => ?_) (fun pre x post σ H1 e hv => ?_) (fun σ H1 hv => ?_)⟩
    · obtain ⟨y, rfl, rfl⟩ := hv
      exact sq_of ha
    · obtain ⟨y, rfl, rfl⟩ := hv
      obtain ⟨d, ⟨t, r, rfl, h1, h2⟩, _, _⟩ := pd_turn hp e
      refine g_ifC (b := false) (fun Q q => ?_) (fun h => by cases h) (fun h => ?_)
      · wtm_at "unf"
        wtm_at "gx"
        exact q
      · wtm_at "unf"
        exact ⟨_, rfl, trivial⟩
    · obtain ⟨y, rfl, rfl⟩ := hv
      wtm_at "unf"
      wtm_at "gx"
      exact q H1 (Same.refl _)
/-! law -/
def spLaw (K : PySem.W.Frag) : Sp := fun vs H Q _ => ∃ (a : Addr) (ns : List Int), vs = [.ref a] ∧ SqL K H a (ns.map V.int) ∧ ns.length ≤ 63 ∧ ∀ H', Q (.bl true) H'
theorem ok_law {f : Addr} {fd : FuncData} (T : Facts K mg) (F : FunD K "law" "law" (defArgs s_law) (defBody s_law) (defScope s_law) [] [] f fd) : FnOk P w K mg base C8.CX0 14 f fd ["script"] (spLaw K) := by
  refine fnD F sc_law (fun vs H Q E h => ?_) (fun cdv A outer s H vs Q E hr h => ?_)
  · obtain ⟨a, ns, rfl, hS, hlen, q⟩ := h; rfl
  · obtain ⟨a, ns, rfl, hS, hlen, q⟩ := h
    refine ⟨_, (pss_cons (ps_for PassesOwn.never rfl (pi_list (pe_op op_cat (pe_lst (pa_cons pe_int pa_nil)) (pe_slice sl_list (pv 0) po_none (po_some pe_int)))) (pg_name (i := 1) sc_law.nd rfl (Or.inl rfl))
       (pss_cons (ps_set (i := 2) sc_law.nd rfl (Or.inl rfl) (pe_own (ok_law_text T) hr (by omega) rfl (pa_cons (pe_own (ok_law_stream T) hr (by omega) rfl (pa_cons (pv 1) pa_nil)) (pa_cons pe_int pa_nil))))
       (pss_cons (ps_set (i := 3) sc_law.nd rfl (Or.inl rfl) (pe_own (ok_law_shares T) hr (by omega) rfl (pa_cons (pe_own (ok_law_least_rows T) hr (by omega) rfl (pa_cons (pv 2) pa_nil)) pa_nil)))
       (pss_cons (ps_set (i := 4) sc_law.nd rfl (Or.inl rfl) (pe_own (ok_shares_of T) hr (by omega) rfl (pa_cons (pv 2) pa_nil)))
       (pss_cons (ps_if (pt_not (pt_val (pe_own (ok_law_same T) hr (by omega) rfl (pa_cons (pv 4) (pa_cons (pv 3) pa_nil)))))
       (pss_one (ps_ret pe_bl))
       pss_nil)
       (pss_cons (ps_expr (pe_bm PySem.F.plainAttrs_list PySem.F.slot_list_append PySem.F.type_list_append mt_append (pv 4) (pa_cons (pe_tup (pa_cons (pe_tup (pa_cons pe_int (pa_cons (pe_strS (l := [112, 117, 116]) (by decide +kernel)) (pa_cons (pe_strS (l := [40]) (by decide +kernel)) pa_nil)))) (pa_cons pe_int pa_nil))) pa_nil)))
       (pss_one (ps_if (pt_cmpR (op_neD hr.units) (pe_own (ok_shares_of T) hr (by omega) rfl (pa_cons (pv 2) pa_nil)) (pv 3) (nomark _))
       (pss_one (ps_ret pe_bl))
       pss_nil))))))))
       (pss_one (ps_ret (pe_and (pe_cmpR (op_eqD hr.units) (pe_own (ok_shares_of T) hr (by omega) rfl (pa_cons (pe_strS (l := [40]) (by decide +kernel)) pa_nil)) (pe_lst (pa_cons (pe_tup (pa_cons (pe_tup (pa_cons pe_int (pa_cons (pe_strS (l := [115, 116, 114, 105, 107, 101]) (by decide +kernel)) (pa_cons (pe_strS (l := []) (by decide +kernel)) pa_nil)))) (pa_cons pe_int pa_nil))) (pa_cons (pe_tup (pa_cons (pe_tup (pa_cons pe_int (pa_cons (pe_strS (l := [112, 117, 116]) (by decide +kernel)) (pa_cons (pe_strS (l := [41]) (by decide +kernel)) pa_nil)))) (pa_cons pe_int pa_nil))) pa_nil))) (nomark _)) (pe_one (pe_cmpR (op_eqE hr.units) (pe_own (ok_shares_of T) hr (by omega) rfl (pa_cons (pe_strS (l := []) (by decide +kernel)) pa_nil)) (pe_lst pa_nil) (nomark _))))))), ?_⟩
    rw [st_law]
    wtm_at "unf"
    wtm_at "gx"
    refine g_lst (by show 1 ≤ 100000; decide) fun c1 H1 n1 s1 e1 => ?_
    wtm_at "gx"
    refine g_slL (Same.seq s1 hS) fun c2 H2 n2 s2 e2 => ?_
    obtain ⟨ms, ems, hms⟩ := cut_ints ns none (some 4)
    rw [ems] at e2
    refine g_cat (s2 _ _ e1) e2 (by simp; omega) fun c3 H3 n3 s3 e3 => ?_
    obtain ⟨zs, ezs⟩ : ∃ zs : List Int, [V.int 0] ++ ms.map V.int = zs.map V.int := ⟨0 :: ms, rfl⟩
    rw [ezs] at e3
    refine ⟨c3, rfl, ⟨_, sq_of e3⟩, for_lst (zs.map V.int) (fun pre σ H' => ∃ y1 y2 y3 y4, σ = [some (V.ref a), y1, y2, y3, y4] ∧ Same H3 H') ⟨_, _, _, _, rfl, Same.refl _⟩ (fun pre post σ H' e hv => ?_) (fun pre x post σ H' e hv => ?_) (fun σ H' hv => ?_)⟩
    · obtain ⟨y1, y2, y3, y4, rfl, sH⟩ := hv
      exact sq_of (sH _ _ e3)
    · obtain ⟨y1, y2, y3, y4, rfl, sH⟩ := hv
      obtain ⟨z, rfl⟩ : ∃ z, x = V.int z := by
        have hm : x ∈ zs.map V.int := by rw [e]; simp
        obtain ⟨z, _, hz⟩ := List.mem_map.mp hm
        exact ⟨z, hz.symm⟩
      wtm_at "unf"
      wtm_at "gx"
      refine ⟨z, rfl, fun p P1 H5 np s5 e5 => ?_⟩
      have np3 : H3 p = none := sH.free np
      wtm_at "gx"
      refine ⟨p, P1, 4, rfl, e5, by decide, fun l P3 H8 hll hls b8 e8 => ?_⟩
      have s38 : Same H3 H8 := Same.b0 b8 (sH.trans s5) np3
      wtm_at "gx"
      refine ⟨l, rfl, hll, hls, fun ra ts A H9 nra s9 era hpm hP => ?_⟩
      have hrow : ∀ α ∈ A, Row wAll [] l (lsN l) α := fun α ha => mem_rows.mp (hpm.mem_iff.mp ha)
      have hAl : A.length ≤ 2000 := by
        have h1 : A.length = An wAll [] l (lsN l) := hpm.length_eq
        have h2 := (least_few hll).1
        omega
      refine ⟨ra, ts, l, A, rfl, era, pd_imp (fun v α h => by obtain ⟨a, rs, e, h1, _⟩ := h; exact ⟨a, rs, e, h1, rfl⟩) hP, hll, fun α ha d hd => mem_evD.mpr ?_, hAl, fun fa us ds H10 nfa s10 hn hm efa hPs => ?_⟩
      · have := (row_ds (hrow α ha)).1
        unfold okDs at this
        exact List.all_eq_true.mp (Bool.and_eq_true_iff.mp this).1 d hd
      wtm_at "gx"
      refine ⟨l, rfl, by omega, fun fb vs ds2 H11 nfb s11 hn2 hm2 hin2 efb hP2 => ?_⟩
      have hfe : shR 0 A = shN l 0 l.length := funext fun d => by
        unfold shN
        rw [RR_whole, shR_perm hpm]
      rw [hfe] at hm hPs
      have hse : srtD ds = srtD ds2 := srt_set hn hn2 fun d => by rw [hm, hm2]
      rw [hse] at hPs
      have hsg : sgD (srtD ds2) := fun d hd => ev_sg (hin2 d (mem_srt.mp hd))
      have hPs11 := pd_imp (fun v d h => h.same s11) hPs
      have efa11 := s11 _ _ efa
      wtm_at "gx"
      refine ⟨fb, fa, vs, us, _, _, rfl, efb, efa11, hP2, hPs11, hsg, fun H12 s12 => ?_⟩
      wtm_at "gx"
      refine g_tup (by show 3 ≤ 100000; decide) fun t1 H13 m1 s13 et1 => ?_
      refine g_tup (by show 2 ≤ 100000; decide) fun t2 H14 m2 s14 et2 => ?_
      have hvl : vs.length < 100000 := by
        have h1 := nodup_len ds2 (evD l) hn2 hin2
        have h2 := evD_len l
        rw [pd_len hP2, srt_len]
        omega
      have s1114 := s12.trans (s13.trans s14)
      refine g_append1 (s1114 _ _ efb) hvl fun H15 b15 e15 => ?_
      have hfne : fa ≠ fb := fun e => by rw [e, nfb] at efa; cases efa
      have hPs15 := pd_imp (fun v d h => (h.same s1114).but b15 (s1114 _ _ efb)) hPs11
      have efa15 := b15 _ _ hfne (s1114 _ _ efa11)
      wtm_at "gx"
      refine ⟨l, rfl, by omega, fun fc ws ds3 H16 nfc s16 hn3 hm3 hin3 efc hP3 => ?_⟩
      have hse3 : srtD ds3 = srtD ds2 := srt_set hn3 hn2 fun d => by rw [hm3, hm2]
      rw [hse3] at hP3
      wtm_at "gx"
      refine g_neDp (shv_dp efc hP3) (shv_dp (s16 _ _ efa15) (pd_imp (fun v d h => h.same s16) hPs15)) (shs_shaped hsg) ?_
      refine ⟨false, rfl, ?_⟩
      rw [if_neg Bool.false_ne_true]
      refine ⟨_, _, _, _, rfl, ?_⟩
      have sA : Same H3 H11 := s38.trans (s9.trans (s10.trans s11))
      exact (Same.b0 b15 (sA.trans s1114) ((s38.trans (s9.trans s10)).free nfb)).trans s16
    · obtain ⟨y1, y2, y3, y4, rfl, sH⟩ := hv
      wtm_at "unf"
      wtm_at "gx"
      refine ⟨[40], rfl, by decide, fun fa ts ds G1 nfa g1 hn hm hin efa hP => ?_⟩
      rw [srt_X1 hn hm] at hP
      wtm_at "gx"
      refine g_tup (by show 3 ≤ 100000; decide) fun t1 G2 n2 g2 et1 => ?_
      refine g_tup (by show 2 ≤ 100000; decide) fun t2 G3 n3 g3 et2 => ?_
      refine g_tup (by show 3 ≤ 100000; decide) fun t3 G4 n4 g4 et3 => ?_
      refine g_tup (by show 2 ≤ 100000; decide) fun t4 G5 n5 g5 et4 => ?_
      refine g_lst (by show 2 ≤ 100000; decide) fun lb G6 n6 g6 elb => ?_
      have g16 : Same G1 G6 := g2.trans (g3.trans (g4.trans (g5.trans g6)))
      have s0 : shN [40] 0 1 (0, Dw.str) = 1 := by rw [sh_one]; decide
      have s1 : shN [40] 0 1 (1, Dw.put 41) = 1 := by rw [sh_one]; decide
      have hB : Paired (ShV G6 (shN [40] 0 1)) [V.ref t2, V.ref t4] X1 := by
        refine .cons ⟨t2, t1, rfl, ?_, ?_⟩ (.cons ⟨t4, t3, rfl, ?_, ?_⟩ .nil)
        · rw [s0]; exact g6 _ _ (g5 _ _ (g4 _ _ et2))
        · exact g6 _ _ (g5 _ _ (g4 _ _ (g3 _ _ et1)))
        · rw [s1]; exact g6 _ _ et4
        · exact g6 _ _ (g5 _ _ et3)
      have hsg : sgD X1 := by
        intro d hd
        exact (by decide : ∀ d ∈ X1, ∀ c ∈ d.2.s, c < 1114112) d hd
      refine g_eqDp (shv_dp (g16 _ _ efa) (pd_imp (fun v d h => h.same g16) hP)) (shv_dp elb hB) (shs_shaped hsg) ?_
      refine ⟨true, rfl, ?_⟩
      rw [if_pos rfl]
      refine ⟨[], rfl, by decide, fun fb us ds2 G7 nfb g7 hn2 hm2 hin2 efb hP2 => ?_⟩
      have hds : ds2 = [] := List.eq_nil_iff_forall_not_mem.mpr fun d hd => (hm2 d).mp hd (shN_self [] 0 d)
      subst hds
      have hus : us = [] := List.eq_nil_of_length_eq_zero (by rw [pd_len hP2, srt_len]; rfl)
      refine g_lst (by show 0 ≤ 100000; decide) fun l0 G8 n8 g8 el0 => ?_
      refine g_eqE (sq_of (g8 _ _ efb)) el0 ?_
      rw [decide_eq_true hus]
      exact q G8
end
end K33

set_option maxHeartbeats 0
namespace K33
open PySem PySem.Spec PyProof.Rows L2 SX Ly
open Top
theorem facts {K : PySem.W.Frag} {h : Heap} {mg : Str → Option Value} (X : K.In h) (G : h.Ns mainGlobals mg) (c : He.SaysD fa fn K) (cx : ex K = true) : Facts K mg where
  f_wall := by
    obtain ⟨fd, F⟩ := c.def_ 0 (d := d_wall) rfl
    exact ⟨_, fd, F, He.glo_ok X G (c.fact 0 (f := .glo "_wall") rfl), FunD.bindsN F fun _ _ _ _ _ _ us hl => match us, hl with | [_], _ => rfl⟩
  f_kind_of := by
    obtain ⟨fd, F⟩ := c.def_ 1 (d := d_kind_of) rfl
    exact ⟨_, fd, F, He.glo_ok X G (c.fact 1 (f := .glo "kind_of") rfl), FunD.bindsN F fun _ _ _ _ _ _ us hl => match us, hl with | [_], _ => rfl⟩
  f_turned := by
    obtain ⟨fd, F⟩ := c.def_ 2 (d := d_turned) rfl
    exact ⟨_, fd, F, He.glo_ok X G (c.fact 2 (f := .glo "turned") rfl), FunD.bindsN F fun _ _ _ _ _ _ us hl => match us, hl with | [_, _, _], _ => rfl⟩
  f_is_letter := by
    obtain ⟨fd, F⟩ := c.def_ 3 (d := d_is_letter) rfl
    exact ⟨_, fd, F, He.glo_ok X G (c.fact 3 (f := .glo "is_letter") rfl), FunD.bindsN F fun _ _ _ _ _ _ us hl => match us, hl with | [_], _ => rfl⟩
  f_fewest_turns := by
    obtain ⟨fd, F⟩ := c.def_ 4 (d := d_fewest_turns) rfl
    exact ⟨_, fd, F, He.glo_ok X G (c.fact 4 (f := .glo "fewest_turns") rfl), FunD.bindsN F fun _ _ _ _ _ _ us hl => match us, hl with | [_, _], _ => rfl⟩
  f_least_steps := by
    obtain ⟨fd, F⟩ := c.def_ 5 (d := d_least_steps) rfl
    exact ⟨_, fd, F, He.glo_ok X G (c.fact 5 (f := .glo "least_steps") rfl), FunD.bindsN F fun _ _ _ _ _ _ us hl => match us, hl with | [_, _, _], _ => rfl⟩
  f_shares_in := by
    obtain ⟨fd, F⟩ := c.def_ 6 (d := d_shares_in) rfl
    exact ⟨_, fd, F, He.glo_ok X G (c.fact 6 (f := .glo "shares_in") rfl), FunD.bindsN F fun _ _ _ _ _ _ us hl => match us, hl with | [_, _, _, _], _ => rfl⟩
  f_all_shares := by
    obtain ⟨fd, F⟩ := c.def_ 7 (d := d_all_shares) rfl
    exact ⟨_, fd, F, He.glo_ok X G (c.fact 7 (f := .glo "all_shares") rfl), FunD.bindsN F fun _ _ _ _ _ _ us hl => match us, hl with | [_], _ => rfl⟩
  f_shares_of := by
    obtain ⟨fd, F⟩ := c.def_ 8 (d := d_shares_of) rfl
    exact ⟨_, fd, F, He.glo_ok X G (c.fact 8 (f := .glo "shares_of") rfl), FunD.bindsN F fun _ _ _ _ _ _ us hl => match us, hl with | [_], _ => rfl⟩
  f_law_stream := by
    obtain ⟨fd, F⟩ := c.def_ 9 (d := d_law_stream) rfl
    exact ⟨_, fd, F, He.glo_ok X G (c.fact 9 (f := .glo "_law_stream") rfl), FunD.bindsN F fun _ _ _ _ _ _ us hl => match us, hl with | [_], _ => rfl⟩
  f_law_take := by
    obtain ⟨fd, F⟩ := c.def_ 10 (d := d_law_take) rfl
    exact ⟨_, fd, F, He.glo_ok X G (c.fact 10 (f := .glo "_law_take") rfl), FunD.bindsN F fun _ _ _ _ _ _ us hl => match us, hl with | [_, _], _ => rfl⟩
  f_law_bracket := by
    obtain ⟨fd, F⟩ := c.def_ 11 (d := d_law_bracket) rfl
    exact ⟨_, fd, F, He.glo_ok X G (c.fact 11 (f := .glo "_law_bracket") rfl), FunD.bindsN F fun _ _ _ _ _ _ us hl => match us, hl with | [_, _], _ => rfl⟩
  f_law_clean := by
    obtain ⟨fd, F⟩ := c.def_ 12 (d := d_law_clean) rfl
    exact ⟨_, fd, F, He.glo_ok X G (c.fact 12 (f := .glo "_law_clean") rfl), FunD.bindsN F fun _ _ _ _ _ _ us hl => match us, hl with | [_, _, _], _ => rfl⟩
  f_law_text := by
    obtain ⟨fd, F⟩ := c.def_ 13 (d := d_law_text) rfl
    exact ⟨_, fd, F, He.glo_ok X G (c.fact 13 (f := .glo "_law_text") rfl), FunD.bindsN F fun _ _ _ _ _ _ us hl => match us, hl with | [_, _], _ => rfl⟩
  f_law_open := by
    obtain ⟨fd, F⟩ := c.def_ 14 (d := d_law_open) rfl
    exact ⟨_, fd, F, He.glo_ok X G (c.fact 14 (f := .glo "_law_open") rfl), FunD.bindsN F fun _ _ _ _ _ _ us hl => match us, hl with | [_, _], _ => rfl⟩
  f_law_steps := by
    obtain ⟨fd, F⟩ := c.def_ 15 (d := d_law_steps) rfl
    exact ⟨_, fd, F, He.glo_ok X G (c.fact 15 (f := .glo "_law_steps") rfl), FunD.bindsN F fun _ _ _ _ _ _ us hl => match us, hl with | [_, _, _, _], _ => rfl⟩
  f_law_behind := by
    obtain ⟨fd, F⟩ := c.def_ 16 (d := d_law_behind) rfl
    exact ⟨_, fd, F, He.glo_ok X G (c.fact 16 (f := .glo "_law_behind") rfl), FunD.bindsN F fun _ _ _ _ _ _ us hl => match us, hl with | [_, _], _ => rfl⟩
  f_law_all := by
    obtain ⟨fd, F⟩ := c.def_ 17 (d := d_law_all) rfl
    exact ⟨_, fd, F, He.glo_ok X G (c.fact 17 (f := .glo "_law_all") rfl), FunD.bindsN F fun _ _ _ _ _ _ us hl => match us, hl with | [_, _, _, _], _ => rfl⟩
  f_law_least_rows := by
    obtain ⟨fd, F⟩ := c.def_ 18 (d := d_law_least_rows) rfl
    exact ⟨_, fd, F, He.glo_ok X G (c.fact 18 (f := .glo "_law_least_rows") rfl), FunD.bindsN F fun _ _ _ _ _ _ us hl => match us, hl with | [_], _ => rfl⟩
  f_law_shares := by
    obtain ⟨fd, F⟩ := c.def_ 19 (d := d_law_shares) rfl
    exact ⟨_, fd, F, He.glo_ok X G (c.fact 19 (f := .glo "_law_shares") rfl), FunD.bindsN F fun _ _ _ _ _ _ us hl => match us, hl with | [_], _ => rfl⟩
  f_law_same := by
    obtain ⟨fd, F⟩ := c.def_ 20 (d := d_law_same) rfl
    exact ⟨_, fd, F, He.glo_ok X G (c.fact 20 (f := .glo "_law_same") rfl), FunD.bindsN F fun _ _ _ _ _ _ us hl => match us, hl with | [_, _], _ => rfl⟩
  c_OPENING := by
    obtain ⟨t, e⟩ := He.str_ok X G (c.fact 22 (f := .str "OPENING" (S OPN)) rfl)
    exact ⟨_, e, ⟨t, rfl⟩⟩
  c_CLOSING := by
    obtain ⟨t, e⟩ := He.str_ok X G (c.fact 23 (f := .str "CLOSING" (S CLO)) rfl)
    exact ⟨_, e, ⟨t, rfl⟩⟩
  b_len := He.free_ok X G (c.fact 24 (f := .free "len") rfl)
  b_int := He.free_ok X G (c.fact 25 (f := .free "int") rfl)
  b_range := He.free_ok X G (c.fact 26 (f := .free "range") rfl)
  b_isinstance := He.free_ok X G (c.fact 27 (f := .free "isinstance") rfl)
  b_list := He.free_ok X G (c.fact 28 (f := .free "list") rfl)
  b_tuple := He.free_ok X G (c.fact 29 (f := .free "tuple") rfl)
  b_bool := He.free_ok X G (c.fact 30 (f := .free "bool") rfl)
  b_min := He.free_ok X G (c.fact 31 (f := .free "min") rfl)
  b_sorted := He.free_ok X G (c.fact 32 (f := .free "sorted") rfl)
  c_ALL_WORDS := ⟨_, He.glo_ok X G (c.fact 33 (f := .glo "ALL_WORDS") rfl), rfl⟩
  q_ALL_WORDS := fun H => He.tupB_ok (vs := [.str (S [112, 117, 116]), .str (S [115, 116, 114, 105, 107, 101]), .str (S [116, 117, 114, 110])]) (all_at cx (i := 0) rfl) H
  cl_Ways := He.cls_ok (c.fact 35 (f := .cls "Ways") rfl)
  n_Ways_signs := He.noat_ok (c.fact 36 (f := .noat "Ways" "signs") rfl)
  n_Ways_words := He.noat_ok (c.fact 37 (f := .noat "Ways" "words") rfl)
  n_Ways_costs := He.noat_ok (c.fact 38 (f := .noat "Ways" "costs") rfl)
  n_Ways_counts := He.noat_ok (c.fact 39 (f := .noat "Ways" "counts") rfl)
  k_Ways_init := by
    obtain ⟨fd, F⟩ := c.def_ 22 (d := d_Ways_init) rfl
    exact ⟨fd, F, He.mkr_ok (c.fact 40 (f := .mkr "Ways") rfl), He.glo_ok X G (c.fact 34 (f := .glo "Ways") rfl), FunD.bindsN F fun _ _ _ _ _ _ us hl => match us, hl with | [_, _, _], _ => rfl⟩
  m_Ways_cost := by
    obtain ⟨fd, F⟩ := c.def_ 23 (d := d_Ways_cost) rfl
    exact ⟨fd, F, He.cls_ok (c.fact 35 (f := .cls "Ways") rfl), He.meth_ok (c.fact 41 (f := .meth "Ways" "cost") rfl), FunD.bindsN F fun _ _ _ _ _ _ us hl => match us, hl with | [_, _, _], _ => rfl⟩
  m_Ways_count := by
    obtain ⟨fd, F⟩ := c.def_ 24 (d := d_Ways_count) rfl
    exact ⟨fd, F, He.cls_ok (c.fact 35 (f := .cls "Ways") rfl), He.meth_ok (c.fact 42 (f := .meth "Ways" "count") rfl), FunD.bindsN F fun _ _ _ _ _ _ us hl => match us, hl with | [_, _, _], _ => rfl⟩
  m_Ways_grow := by
    obtain ⟨fd, F⟩ := c.def_ 25 (d := d_Ways_grow) rfl
    exact ⟨fd, F, He.cls_ok (c.fact 35 (f := .cls "Ways") rfl), He.meth_ok (c.fact 43 (f := .meth "Ways" "grow") rfl), FunD.bindsN F fun _ _ _ _ _ _ us hl => match us, hl with | [_, _], _ => rfl⟩
  m_Ways_reckoned := by
    obtain ⟨fd, F⟩ := c.def_ 26 (d := d_Ways_reckoned) rfl
    exact ⟨fd, F, He.cls_ok (c.fact 35 (f := .cls "Ways") rfl), He.meth_ok (c.fact 44 (f := .meth "Ways" "reckoned") rfl), FunD.bindsN F fun _ _ _ _ _ _ us hl => match us, hl with | [_, _, _], _ => rfl⟩
  m_Ways_numbers := by
    obtain ⟨fd, F⟩ := c.def_ 27 (d := d_Ways_numbers) rfl
    exact ⟨fd, F, He.cls_ok (c.fact 35 (f := .cls "Ways") rfl), He.meth_ok (c.fact 45 (f := .meth "Ways" "numbers") rfl), FunD.bindsN F fun _ _ _ _ _ _ us hl => match us, hl with | [_, _, _], _ => rfl⟩
  m_Ways_note := by
    obtain ⟨fd, F⟩ := c.def_ 28 (d := d_Ways_note) rfl
    exact ⟨fd, F, He.cls_ok (c.fact 35 (f := .cls "Ways") rfl), He.meth_ok (c.fact 46 (f := .meth "Ways" "note") rfl), FunD.bindsN F fun _ _ _ _ _ _ us hl => match us, hl with | [_, _, _, _, _, _, _], _ => rfl⟩
  m_Ways_note_puts := by
    obtain ⟨fd, F⟩ := c.def_ 29 (d := d_Ways_note_puts) rfl
    exact ⟨fd, F, He.cls_ok (c.fact 35 (f := .cls "Ways") rfl), He.meth_ok (c.fact 47 (f := .meth "Ways" "note_puts") rfl), FunD.bindsN F fun _ _ _ _ _ _ us hl => match us, hl with | [_, _, _, _], _ => rfl⟩
  m_Ways_together := by
    obtain ⟨fd, F⟩ := c.def_ 30 (d := d_Ways_together) rfl
    exact ⟨fd, F, He.cls_ok (c.fact 35 (f := .cls "Ways") rfl), He.meth_ok (c.fact 48 (f := .meth "Ways" "together") rfl), FunD.bindsN F fun _ _ _ _ _ _ us hl => match us, hl with | [_, _, _], _ => rfl⟩
  m_Ways_first_steps := by
    obtain ⟨fd, F⟩ := c.def_ 31 (d := d_Ways_first_steps) rfl
    exact ⟨fd, F, He.cls_ok (c.fact 35 (f := .cls "Ways") rfl), He.meth_ok (c.fact 49 (f := .meth "Ways" "first_steps") rfl), FunD.bindsN F fun _ _ _ _ _ _ us hl => match us, hl with | [_, _, _], _ => rfl⟩
  m_Ways_pairs := by
    obtain ⟨fd, F⟩ := c.def_ 32 (d := d_Ways_pairs) rfl
    exact ⟨fd, F, He.cls_ok (c.fact 35 (f := .cls "Ways") rfl), He.meth_ok (c.fact 50 (f := .meth "Ways" "pairs") rfl), FunD.bindsN F fun _ _ _ _ _ _ us hl => match us, hl with | [_, _, _], _ => rfl⟩
  m_Ways_as_pair := by
    obtain ⟨fd, F⟩ := c.def_ 33 (d := d_Ways_as_pair) rfl
    exact ⟨fd, F, He.cls_ok (c.fact 35 (f := .cls "Ways") rfl), He.meth_ok (c.fact 51 (f := .meth "Ways" "as_pair") rfl), FunD.bindsN F fun _ _ _ _ _ _ us hl => match us, hl with | [_, _, _], _ => rfl⟩
  m_Ways_put_partners := by
    obtain ⟨fd, F⟩ := c.def_ 34 (d := d_Ways_put_partners) rfl
    exact ⟨fd, F, He.cls_ok (c.fact 35 (f := .cls "Ways") rfl), He.meth_ok (c.fact 52 (f := .meth "Ways" "put_partners") rfl), FunD.bindsN F fun _ _ _ _ _ _ us hl => match us, hl with | [_, _, _], _ => rfl⟩
theorem law_at {K : PySem.W.Frag} {h : Heap} {mg : Str → Option Value} {f : Addr} (X : K.In h) (G : h.Ns mainGlobals mg) (hfa : mg ("law" : Str) = some (.ref f)) (c : He.SaysD fa fn K) :
    ∃ fd : FuncData, (∀ (s : Shared) (v : Value), BindsTo s fd ⟨[v], []⟩ [("script", v)]) ∧ FunD K "law" "law" (defArgs s_law) (defBody s_law) (defScope s_law) [] [] f fd := by
  obtain ⟨fd, F⟩ := c.def_ 21 (d := d_law) rfl
  have e := hfa.symm.trans (He.glo_ok X G (c.fact 21 (f := .glo "law") rfl))
  cases e
  have b := FunD.bindsA (ps := ["script"]) F fun _ _ _ _ _ _ us hl => match us, hl with | [_], _ => rfl
  exact ⟨fd, fun s v => b s [v] rfl, F⟩

end K33
open PySem PySem.W PySem.Calls PyProof.Rows
theorem PySem.Challenge.cw_nestmend_k33_shares_told_holds : PySem.Challenge.rw_nestmend_k33_shares_told.Holds := by
  w_on; o_law
  refine HandSHeadRun.head_any (r := OpenLaw.row PySem.Challenge.rw_nestmend_k33_shares_told) (q := view (OpenLaw.row PySem.Challenge.rw_nestmend_k33_shares_told).prog [29]) (H := K33.Top.hk) (ob := K33.Top.ob) (M := 6000) (loose := K33.Top.loose) (d := HandSHeadRun.topDef (OpenLaw.row PySem.Challenge.rw_nestmend_k33_shares_told).prog 29) (kwd := []) K33.Top.ob_eq
    (by kernel_rfl) (fun s => by kernel_rfl) K33.Top.run (by kernel_rfl) (by kernel_rfl) (by kernel_rfl) (by rfl) (by first | assumption | decide +kernel) (by decide +kernel) ⟨rfl, rfl, rfl, rfl, rfl, by decide +kernel⟩ ?hw ?hc
  case hw => w_witness2
  case hc =>
    refine L2.walk_ofE (l := PySem.Challenge.rw_nestmend_k33_shares_told) (n := 63) (k := 14) (x := "script") (CX := C8.CX0) rfl (by decide) (by kernel_rfl) ⟨rfl, by decide, by decide⟩ ?F (fun _ _ _ _ z => z)
    intro w mg fa h Y G hmg0
    obtain ⟨K, KX, c, cx⟩ := Y
    have hmg : mg ("law" : PySem.Str) = some (.ref fa) := by
      have e : (HandSHeadRun.topDef (OpenLaw.row PySem.Challenge.rw_nestmend_k33_shares_told).prog 29).name = ("law" : PySem.Str) := by kernel_rfl
      rw [← e]
      exact hmg0
    obtain ⟨fd, hb, F⟩ := K33.law_at KX G hmg c
    exact ⟨K, fd, K33.spLaw K, KX, hb, fun H a ns hl _ hS => ⟨a, ns, rfl, hS, hl, fun _ => rfl⟩, fun base _ _ => K33.ok_law (K33.facts KX G c cx) F⟩
