import PyProof.Rows.All
import Wide.All
import OpenK.AllK
import Wide.FinOn
import HandS.ForMost
import HandS.Codes
import HandS.Style
import HandS.Walk
import HandS.IsInst
import HandS.Wide
import HandS.Defaults
import HandS.Flow
import HandS.Replace
import KE.GoesMore
import KE.GoesZip
import KE.GoesEnum
import PyProof.ListStr
import PyProof.StrBlock2
import HandS.Conv
import HandS.ReplaceLit
import HandS.ReplaceList
import HandS.SortInts
import PyProof.Rows.SortShellAny
import PyProof.Rows.StrRev
import PyProof.Rows.SeqMore
import HandS.HeadHook1
import HandS.HeadHook2
import HandS.More
import HandS.ExcOwn
import HandS.ExcIs
import HandS.TryOnly
import HandS.WordsExc
import HandS.HeadEnd
import HandS.TupSets
import HandS.Deep
import KE.LtData
import HandS.Zip
import KE.KDictPairs
import HandS.SetFor
import HandS.Strs
import PyProof.Rows.StrFirst
import HandS.Dict
import HandS.List
import PyProof.ReprRoads
import PyProof.StrLawsRepr
import PyProof.ReprLen
import HandS.DeepEq
import HandS.StrMore
import KE.KIntText
import KE.IntTextLaws
import PySem.Challenge.RW_nestmend_k19_low_tables
import HandS.Head0
import HandS.Head1
import HandS.Head2
set_option Elab.async false
set_option linter.all false
set_option maxRecDepth 100000
set_option maxHeartbeats 4000000
namespace Ly
open PySem PySem.Spec PyProof.Rows L2 SX

/-- a text by its codes -/
abbrev Tx (l : List Nat) : V := V.str (S l)
theorem Tx_inj {a b : List Nat} : Tx a = Tx b ↔ a = b := ⟨fun h => S_inj (V.str.inj h), fun h => by rw [h]⟩
def OPN : List Nat := [40, 60, 91, 123]
def CLO : List Nat := [41, 62, 93, 125]
def BRK : List Nat := [40, 41, 60, 62, 91, 93, 123, 125]
def LET : List Nat := [97, 98, 99, 100, 101, 102, 103, 104, 105, 106, 107, 108, 109, 110, 111, 112, 113, 114, 115, 116, 117, 118, 119, 120, 121, 122]

/-! ### rules -/
section
variable {X : Cx} {k j : Nat} {x : Str} {sp : Sp} {p pos : Pos} {e : Expr} {es : List Expr} {t : TA} {ta tb : TE}
def tOwn (sp : Sp) (t : TA) : TE := fun σ H Q => t σ H fun vs H1 => sp vs H1 Q C8.E0
theorem pe_own (c : C8.Cal X.prog X.w X.K X.mg X.base k x sp []) (hr : Room j X.A) (hk : k ≤ j) (hg : Gl X x) (ha : PA X (e :: es) t)
    (hdb : (x == ("__debug__" : Str)) = false := by decide) (he : starEach (e :: es) X.env = (false, eval e X.env) :: starEach es X.env := by rfl) (hpl : (backTo pos (starEach es X.env)).any (·.1) = false := by rfl) :
    PE X (.Call (.Name x p) (e :: es) [] pos) (tOwn sp t) := by
  have h := C8.pe_c (p := p) c hr hk hg ha hdb he hpl
  have e : tCall sp [] C8.E0 t = tOwn sp t := by
    funext σ H Q
    show (t σ H fun vs H1 => sp (vs ++ []) H1 Q C8.E0) = _
    simp only [List.append_nil]
    rfl
  rw [← e]
  exact h
theorem pe_strS {z : Str} {jj : Nat} {l : List Nat} (h : z = S l) : PE X (.Constant (.str z) jj pos) (tC (Tx l)) := by
  subst h
  exact pe_str
/-- operators by names -/
def rAddT : R2 := fun x y H Q => ∃ a b : List Nat, x = Tx a ∧ y = Tx b ∧ a.length + b.length ≤ 100000 ∧ Q (Tx (a ++ b)) H
theorem op_addT : OpR X (binaryOp .Add) rAddT := fun pins s σ H x y v u Q I rx ry h => by
  obtain ⟨a, b, rfl, rfl, hl, q⟩ := h
  refine op_add_str pins s σ H _ _ v u Q I rx ry ⟨_, _, rfl, rfl, ?_, ?_⟩
  · rw [S_len, S_len]
    exact Nat.le_trans hl (by decide)
  · rw [S_cat]
    exact q
def rInT (neg : Bool) : R2 := fun x y H Q => ∃ (c : Nat) (l : List Nat), x = Tx [c] ∧ y = Tx l ∧ Q (.bl (if neg then !decide (c ∈ l) else decide (c ∈ l))) H
theorem op_inT : OpR X (compareOp .In) (rInT false) := fun pins s σ H x y v u Q I rx ry h => by
  obtain ⟨c, l, rfl, rfl, q⟩ := h
  exact op_in_sign pins s σ H _ _ v u Q I rx ry ⟨c, S l, rfl, rfl, q⟩
theorem op_notInT : OpR X (compareOp .NotIn) (rInT true) := fun pins s σ H x y v u Q I rx ry h => by
  obtain ⟨c, l, rfl, rfl, q⟩ := h
  exact op_notIn_sign pins s σ H _ _ v u Q I rx ry ⟨c, S l, rfl, rfl, q⟩
def rIxT1 : R2 := fun x y H Q => ∃ (l : List Nat) (i : Int) (c : Nat), x = Tx l ∧ y = .int i ∧ l.length ≤ 100000 ∧ atI l i = some c ∧ Q (Tx [c]) H
theorem ix_txt : IxR X rIxT1 := fun value slice pins s σ H x y v u Q I rx ry h hs => by
  obtain ⟨l, i, c, rfl, rfl, hl, h1, q⟩ := h
  refine ix_str value slice pins s σ H _ _ v u Q I rx ry ⟨S l, i, c, rfl, rfl, ?_, h1, q⟩ hs
  rw [S_len]
  exact Nat.le_trans hl (by decide)
def rLenT : List V → Hp → VK → Prop := fun xs H Q => ∃ l : List Nat, xs = [Tx l] ∧ l.length ≤ 100000 ∧ Q (.int l.length) H
theorem call_lenT : CallR X (.builtin "len") rLenT := fun pins s σ H xs us Q I r h => by
  obtain ⟨l, rfl, hl, q⟩ := h
  refine call_len_str pins s σ H _ us Q I r ⟨S l, rfl, ?_, ?_⟩
  · rw [S_len]
    exact Nat.le_trans hl (by decide)
  · rw [S_len]
    exact q
def rIntB : List V → Hp → VK → Prop := fun xs H Q => ∃ b : Bool, xs = [.bl b] ∧ Q (.int (if b then 1 else 0)) H
theorem call_intB : CallR X (.type "int") rIntB := fun pins s σ H xs us Q I r h => by
  obtain ⟨b, rfl, q⟩ := h
  exact call_int1 pins s σ H _ us Q I r (.inr ⟨b, rfl, q⟩)
def rLenL (K : PySem.W.Frag) : List V → Hp → VK → Prop := fun xs H Q => ∃ p ys, xs = [.ref p] ∧ (SqL K H p ys ∨ SqT K H p ys) ∧ Q (.int ys.length) H
theorem call_lenL : CallR X (.builtin "len") (rLenL X.K) := call_len_seq
def rFindT : V → List V → Hp → VK → Prop := fun x xs H Q => ∃ a b : List Nat, x = Tx a ∧ xs = [Tx b] ∧ Q (.int (Txt.find (S a) (S b))) H
def rIdxT : V → List V → Hp → VK → Prop := fun x xs H Q => ∃ (a b : List Nat) (i : Nat), x = Tx a ∧ xs = [Tx b] ∧ Txt.find (S a) (S b) = (i : Int) ∧ Q (.int i) H
theorem mt_idxT : MtR X "str.index" rIdxT := fun pins s σ H x xs v us Q I rx rs h => by
  obtain ⟨a, b, i, h1, h2, h3, q⟩ := h
  unfold Txt.find at h3
  cases ho : Builtin.Str.occurrences (S a) (S b) 0 (S a).length 1 with
  | nil =>
    rw [ho] at h3
    exact absurd h3 (by show ¬ ((-1 : Int) = (i : Int)); omega)
  | cons j r =>
    rw [ho] at h3
    have e : (j : Int) = (i : Int) := h3
    have e2 : j = i := by omega
    subst e2
    exact mt_sindex pins s σ H x xs v us Q I rx rs ⟨S a, S b, j, r, h1, h2, ho, q⟩
def rSlTx : V → Option Int → Option Int → Hp → VK → Prop := fun x lo hi H Q => ∃ l : List Nat, x = Tx l ∧ l.length ≤ 100000 ∧ Q (.str (Txt.slice (S l) lo hi)) H
theorem sl_tx : SlR X rSlTx := by
  intro pins s σ H x v vl vu lo hi sl Q I rx hs pl pu h
  obtain ⟨l, hx, hz, q⟩ := h
  refine C8.sl_txt pins s σ H x v vl vu lo hi sl Q I rx hs pl pu ⟨S l, hx, ?_, q⟩
  rw [S_len]
  exact Nat.le_trans hz (by decide)
end

/-! ### heaps -/
def But (p : Addr) (H H' : Hp) : Prop := ∀ b o, b ≠ p → H b = some o → H' b = some o
section
variable {H H' H1 H2 : Hp} {a b p : Addr} {o u : HO}
theorem Same.new (h : H p = none) : Same H (upd H p u) := fun b x e => by
  rw [upd_ne (ne_of_none e h)]
  exact e
theorem But.refl : But p H H := fun _ _ _ h => h
theorem But.set : But p H (upd H p u) := fun b x n e => by
  rw [upd_ne n]
  exact e
theorem But.trans (x : But p H H1) (y : But p H1 H2) : But p H H2 := fun b o n h => y b o n (x b o n h)
theorem But.same (x : But p H H1) (y : Same H1 H2) : But p H H2 := fun b o n h => y b o (x b o n h)
theorem Same.but (x : Same H H1) (y : But p H1 H2) : But p H H2 := fun b o n h => y b o n (x b o h)
theorem Same.toBut (x : Same H H1) : But p H H1 := fun b o _ h => x b o h
/-- p is new since H -/
theorem Same.but0 (x : Same H H1) (y : But p H1 H2) (n : H p = none) : Same H H2 := fun b o h => y b o (ne_of_none h n) (x b o h)
theorem But.free (x : But p H H1) (n : a ≠ p) (h : H1 a = none) : H a = none := by
  cases q : H a with
  | none => rfl
  | some o =>
    rw [x a o n q] at h
    cases h
theorem But.but0 {q : Addr} (x : But p H H1) (y : But q H1 H2) (n : H q = none) : But p H H2 := fun b o m h => y b o (ne_of_none h n) (x b o m h)
theorem Same.get (s : Same H H1) (h : H a = some o) : H1 a = some o := s a o h
theorem But.get (s : But p H H1) (n : a ≠ p) (h : H a = some o) : H1 a = some o := s a o n h
theorem ne_new (n : H b = none) (h : H a = some o) : a ≠ b := ne_of_none h n
theorem Same.fr (n : H1 a = none) (x : Same H H1) : H a = none := x.free n
theorem But.fr (n : H1 a = none) (x : But p H H1) (m : a ≠ p) : H a = none := x.free m n
theorem Same.tr (y : Same H1 H2) (x : Same H H1) : Same H H2 := x.trans y
theorem Same.b0 (y : But p H1 H2) (x : Same H H1) (n : H p = none) : Same H H2 := Same.but0 x y n
theorem But.sa (y : Same H1 H2) (x : But p H H1) : But p H H2 := But.same x y
theorem But.tr (y : But p H1 H2) (x : But p H H1) : But p H H2 := x.trans y
theorem But.b0 {q : Addr} (y : But q H1 H2) (x : But p H H1) (n : H q = none) : But p H H2 := But.but0 x y n
theorem sq_of {K : PySem.W.Frag} {xs : List V} (h : H a = some (.lst xs)) : SqL K H a xs := .inl (.inl h)
theorem st_of {K : PySem.W.Frag} {xs : List V} (h : H a = some (.tup xs)) : SqT K H a xs := .inl (.inl h)
theorem But.sq {K : PySem.W.Frag} {xs : List V} (x : But p H H1) (n : a ≠ p) (h : SqL K H a xs) : SqL K H1 a xs := by
  rcases h with (h | ⟨o, h⟩) | h
  · exact .inl (.inl (x _ _ n h))
  · exact .inl (.inr ⟨o, x _ _ n h⟩)
  · exact .inr h
end

/-! ### readings, step by step -/
theorem cx_K {CX : CXT} {P : Program} {w : World} {K : PySem.W.Frag} {mg : Str → Option Value} {base : Heap} {N : List Str} {q : Str} {sc : Scope} {f : Addr} {cd : Value} {A : Around} {outer : List Env} {s : Shared} {H : Hp} {E : XK} : (cxOf CX P w K mg base N q sc f cd A outer s H E).K = K := rfl
section
variable {K : PySem.W.Frag} {σ : L2.St} {H : Hp} {Q : VK} {R : Hp → Prop} {i j : Int} {n : Nat} {v : V} {a p : Addr} {l m : List Nat} {xs ys : List V}
theorem g_var (h : σ[n]? = some (some v)) (q : Q v H) : tVar n σ H Q := ⟨v, h, q⟩
theorem g_I0 {g : Int → Int → V} (q : Q (g i j) H) : rI0 g (.int i) (.int j) H Q := ⟨i, j, rfl, rfl, q⟩
theorem g_I {C : Int → Int → Prop} {g : Int → Int → V} (c : C i j) (q : Q (g i j) H) : rI C g (.int i) (.int j) H Q := ⟨i, j, rfl, rfl, c, q⟩
theorem g_U {g : Int → V} (q : Q (g i) H) : rU g (.int i) H Q := ⟨i, rfl, q⟩
theorem g_ipI {g : Int → Int → Int} (q : Q (.int (g i j)) H) : ipI g (.int i) (.int j) H Q := ⟨i, j, rfl, rfl, q⟩
theorem g_addT (h : l.length + m.length ≤ 100000) (q : Q (Tx (l ++ m)) H) : rAddT (Tx l) (Tx m) H Q := ⟨l, m, rfl, rfl, h, q⟩
theorem g_inT {c : Nat} (q : Q (.bl (decide (c ∈ l))) H) : rInT false (Tx [c]) (Tx l) H Q := ⟨c, l, rfl, rfl, q⟩
theorem g_ninT {c : Nat} (q : Q (.bl (!decide (c ∈ l))) H) : rInT true (Tx [c]) (Tx l) H Q := ⟨c, l, rfl, rfl, q⟩
theorem g_ixT {c : Nat} (h : l.length ≤ 100000) (h1 : atI l i = some c) (q : Q (Tx [c]) H) : rIxT1 (Tx l) (.int i) H Q := ⟨l, i, c, rfl, rfl, h, h1, q⟩
theorem g_ixL (h : SqL K H p xs) (h1 : atI xs i = some v) (q : Q v H) : rIxL K (.ref p) (.int i) H Q := ⟨p, xs, i, v, rfl, rfl, h, h1, q⟩
theorem g_ixU (h : SqT K H p xs) (h1 : atI xs i = some v) (q : Q v H) : rIxT K (.ref p) (.int i) H Q := ⟨p, xs, i, v, rfl, rfl, h, h1, q⟩
theorem g_lenT (h : l.length ≤ 100000) (q : Q (.int l.length) H) : rLenT [Tx l] H Q := ⟨l, rfl, h, q⟩
theorem g_lenL (h : SqL K H p xs) (q : Q (.int xs.length) H) : rLenL K [.ref p] H Q := ⟨p, xs, rfl, .inl h, q⟩
theorem g_lenU (h : SqT K H p xs) (q : Q (.int xs.length) H) : rLenL K [.ref p] H Q := ⟨p, xs, rfl, .inr h, q⟩
theorem g_findT1 (q : Q (.int (Txt.find (S l) (S m))) H) : rFindT (Tx l) [Tx m] H Q := ⟨l, m, rfl, rfl, q⟩
theorem g_idxT1 {k : Nat} (h : Txt.find (S l) (S m) = (k : Int)) (q : Q (.int k) H) : rIdxT (Tx l) [Tx m] H Q := ⟨l, m, k, rfl, rfl, h, q⟩
theorem g_str {A : Prop} (q : A) : (∃ z, Tx l = .str z) ∧ A := ⟨⟨_, rfl⟩, q⟩
theorem g_intB {b : Bool} (q : Q (.int (if b then 1 else 0)) H) : rIntB [.bl b] H Q := ⟨b, rfl, q⟩
theorem g_eq {x y : V} (h : scal x y = true) (q : Q (.bl (decide (x = y))) H) : rEq x y H Q := ⟨h, q⟩
theorem g_ne {x y : V} (h : scal x y = true) (q : Q (.bl (!decide (x = y))) H) : rNe x y H Q := ⟨h, q⟩
theorem g_tyL (h : SqL K H p xs) : tyV K "list" (.ref p) H := .inl ⟨rfl, _, h⟩
/-! new objects, changed ones -/
def rLstN (xs : List V) (H : Hp) (Q : VK) : Prop := xs.length ≤ sizeLine ∧ ∀ p, H p = none → Q (.ref p) (upd H p (.lst xs))
def rTupN (xs : List V) (H : Hp) (Q : VK) : Prop := xs.length ≤ sizeLine ∧ ∀ p, H p = none → Q (.ref p) (upd H p (.tup xs))
def rRevN (K : PySem.W.Frag) (x : V) (H : Hp) (Q : VK) : Prop := ∃ a xs, x = .ref a ∧ SqL K H a xs ∧ ∀ p, H p = none → Q (.ref p) (upd H p (.lst xs.reverse))
theorem tLst_eq {t : TA} : tLst t σ H Q = t σ H fun xs H1 => rLstN xs H1 Q := rfl
theorem tTup_eq {t : TA} : tTup t σ H Q = t σ H fun xs H1 => rTupN xs H1 Q := rfl
theorem tRevL_eq {t : TE} : tRevL K t σ H Q = t σ H fun x H1 => rRevN K x H1 Q := rfl
def rPart (x : V) (H : Hp) (Q : Option Int → Hp → Prop) : Prop := ∃ i, x = .int i ∧ Q (some i) H
theorem tPart_eq {t : TE} {Q : Option Int → Hp → Prop} : tPart t σ H Q = t σ H fun x H1 => rPart x H1 Q := rfl
theorem g_part {Q : Option Int → Hp → Prop} (q : Q (some i) H) : rPart (.int i) H Q := ⟨i, rfl, q⟩
theorem g_lst (h : xs.length ≤ 100000) (q : ∀ p H1, H p = none → Same H H1 → H1 p = some (.lst xs) → Q (.ref p) H1) : rLstN xs H Q :=
  ⟨Nat.le_trans h (by decide), fun p np => q p _ np (Same.new np) upd_same⟩
theorem g_tup (h : xs.length ≤ 100000) (q : ∀ p H1, H p = none → Same H H1 → H1 p = some (.tup xs) → Q (.ref p) H1) : rTupN xs H Q :=
  ⟨Nat.le_trans h (by decide), fun p np => q p _ np (Same.new np) upd_same⟩
theorem g_new {o : HO} (q : ∀ p H1, H p = none → Same H H1 → H1 p = some o → Q (.ref p) H1) : ∀ p, H p = none → Q (.ref p) (upd H p o) := fun p np => q p _ np (Same.new np) upd_same
theorem g_setL (h : H p = some (.lst xs)) (h1 : ixN xs.length i = some n) (q : ∀ H1, But p H H1 → H1 p = some (.lst (xs.set n v)) → R H1) : rSetL (.ref p) (.int i) v H R := ⟨p, xs, i, n, rfl, rfl, h, h1, q _ But.set upd_same⟩
theorem g_append1 (h : H p = some (.lst xs)) (hl : xs.length < 100000) (q : ∀ H1, But p H H1 → H1 p = some (.lst (xs ++ [v])) → Q .non H1) : rAppend (.ref p) [v] H Q :=
  ⟨p, xs, v, rfl, rfl, h, Nat.lt_of_lt_of_le hl (by decide), q _ But.set upd_same⟩
theorem g_slL {lo hi : Option Int} (h : SqL K H p xs) (q : ∀ p H1, H p = none → Same H H1 → H1 p = some (.lst (cutV xs lo hi)) → Q (.ref p) H1) : rSlL K (.ref p) lo hi H Q := ⟨p, xs, rfl, h, g_new q⟩
theorem g_revL (h : SqL K H p xs) (q : ∀ p H1, H p = none → Same H H1 → H1 p = some (.lst xs.reverse) → Q (.ref p) H1) : rRevN K (.ref p) H Q := ⟨p, xs, rfl, h, g_new q⟩
theorem g_cat (h : H a = some (.lst xs)) (h2 : H p = some (.lst ys)) (hl : xs.length + ys.length ≤ 100000) (q : ∀ p H1, H p = none → Same H H1 → H1 p = some (.lst (xs ++ ys)) → Q (.ref p) H1) : rCat (.ref a) (.ref p) H Q := ⟨a, p, xs, ys, rfl, rfl, h, h2, Nat.le_trans hl (by decide), g_new q⟩
theorem g_slTo (h : l.length ≤ 100000) (hi : 0 ≤ i) (q : Q (Tx (l.take i.toNat)) H) : rSlTx (Tx l) none (some i) H Q := ⟨l, rfl, h, by rw [slice_to hi]; exact q⟩
theorem g_slFrom (h : l.length ≤ 100000) (hi : 0 ≤ i) (q : Q (Tx (l.drop i.toNat)) H) : rSlTx (Tx l) (some i) none H Q := ⟨l, rfl, h, by rw [slice_from hi]; exact q⟩
/-! tests -/
theorem g_test {c : Prop} [Decidable c] {A B : Prop} (h1 : c → A) (h2 : ¬ c → B) : ∃ k, V.bl (decide c) = V.bl k ∧ if k = true then A else B := by
  refine ⟨_, rfl, ?_⟩
  by_cases h : c
  · rw [decide_eq_true h, if_pos rfl]
    exact h1 h
  · rw [decide_eq_false h, if_neg Bool.false_ne_true]
    exact h2 h
theorem g_testN {c : Prop} [Decidable c] {A B : Prop} (h1 : ¬ c → A) (h2 : c → B) : ∃ k, V.bl (!decide c) = V.bl k ∧ if k = true then A else B := by
  refine ⟨_, rfl, ?_⟩
  by_cases h : c
  · rw [decide_eq_true h]
    exact h2 h
  · rw [decide_eq_false h]
    exact h1 h
end

/-! ### loops -/
def ForR (J : It) (g : TG) (tb : TS) (D : Ends) (σ : L2.St) (H : Hp) : Prop := ∃ W : Nat → Nat → L2.St → Hp → Prop, (∃ m, W 0 m σ H) ∧ ∀ i m σ H, W i m σ H →
  (J.stop i H ∧ D.nx σ H) ∨ (J.go i H ∧ ∃ N : L2.St → Hp → Prop, (∀ σ' H', N σ' H' → ∃ m', m' < m ∧ W (i + 1) m' σ' H') ∧ ∀ x H', J.yld i H x H' → g x σ H' fun σ2 H2 => tb { D with nx := N, ct := N, bk := D.nx } σ2 H2)
theorem tFor_eq {wi : TI} {g : TG} {tb : TS} {D : Ends} {σ : L2.St} {H : Hp} : tFor wi g tb D σ H = wi σ H fun J H1 => ForR J g tb D σ H1 := rfl
def LcR (J : It) (g : TG) (tt : TT) (te : TE) (vs : List Nat) (σ : L2.St) (H1 : Hp) (Q : VK) : Prop := ∀ D, H1 D = none → ∃ W : Nat → Nat → Hp → Prop, (∃ m, W 0 m (upd H1 D (.lst []))) ∧ ∀ i m H, W i m H →
  (J.stop i H ∧ Q (.ref D) H) ∨ (J.go i H ∧ ∃ Nx : Hp → Prop, (∀ H', Nx H' → ∃ m', m' < m ∧ W (i + 1) m' H') ∧ ∀ x H', J.yld i H x H' → g x (wipe σ vs) H' fun σ2 H2 => wipe σ2 vs = wipe σ vs ∧ tt σ2 H2 fun b H3 =>
    if b = true then te σ2 H3 fun y H4 => ∃ acc, H4 D = some (.lst acc) ∧ acc.length < sizeLine ∧ Nx (upd H4 D (.lst (acc ++ [y]))) else Nx H3)
theorem tLc_eq {wi : TI} {g : TG} {tt : TT} {te : TE} {vs : List Nat} {σ : L2.St} {H : Hp} {Q : VK} : tLc wi g tt te vs σ H Q = wi σ H fun J H1 => LcR J g tt te vs σ H1 Q := rfl
section
variable {K : PySem.W.Frag} {σ : L2.St} {H : Hp} {g : TG} {tb : TS} {D : Ends} {l : List Nat} {xs : List V} {a : Addr} {tt : TT} {te : TE} {vs : List Nat} {Q : VK} {n : Nat} {lo : Int}
theorem cut_at {α : Type} {xs : List α} {i : Nat} {x : α} (hx : xs[i]? = some x) : xs.take (i + 1) = xs.take i ++ [x] ∧ xs = xs.take i ++ x :: xs.drop (i + 1) := by
  obtain ⟨hlt, ex⟩ := List.getElem?_eq_some_iff.mp hx
  subst ex
  exact ⟨by rw [List.take_succ_eq_append_getElem hlt], by rw [← List.drop_eq_getElem_cons hlt, List.take_append_drop]⟩
/-- for x in list, by what is gone through; the list stays -/
theorem for_lst (xs : List V) (Pv : List V → L2.St → Hp → Prop) (h0 : Pv [] σ H) (hl : ∀ pre post σ H, xs = pre ++ post → Pv pre σ H → SqL K H a xs)
    (hs : ∀ pre x post σ H, xs = pre ++ x :: post → Pv pre σ H → g x σ H fun σ2 H2 => tb { D with nx := Pv (pre ++ [x]), ct := Pv (pre ++ [x]), bk := D.nx } σ2 H2) (hd : ∀ σ H, Pv xs σ H → D.nx σ H) : ForR (Itl K a) g tb D σ H := by
  refine for_list (xs := xs) (fun i σ H => Pv (xs.take i) σ H) (by simpa using h0) (fun i σ H _ p => hl _ (xs.drop i) σ H (List.take_append_drop i xs).symm p) (fun i x σ H hx p => ?_) (fun σ H p => hd σ H (by simpa using p))
  obtain ⟨e, e2⟩ := cut_at hx
  have z := hs (xs.take i) x (xs.drop (i + 1)) σ H e2 p
  rw [← e] at z
  exact z
/-- for i, x in enumerate(list), by what is gone through -/
theorem for_enum (xs : List V) (Pv : List V → L2.St → Hp → Prop) (h0 : Pv [] σ H) (hl : ∀ pre post σ H, xs = pre ++ post → Pv pre σ H → SqL K H a xs)
    (hs : ∀ pre x post σ H t H1, xs = pre ++ x :: post → Pv pre σ H → H t = none → Same H H1 → H1 t = some (.tup [.int pre.length, x]) → g (.ref t) σ H1 fun σ2 H2 => tb { D with nx := Pv (pre ++ [x]), ct := Pv (pre ++ [x]), bk := D.nx } σ2 H2) (hd : ∀ σ H, Pv xs σ H → D.nx σ H) : ForR (Ite K a) g tb D σ H := by
  refine for_it (walk_enum (xs := xs)) (fun i σ H => Pv (xs.take i) σ H) (by simpa using h0) (fun i σ H _ p => hl _ (xs.drop i) σ H (List.take_append_drop i xs).symm p) (fun i v σ H H' hi p y => ?_) (fun σ H p => hd σ H (by simpa using p))
  obtain ⟨t, x1, x2, rfl, nt, rfl, e1, e2⟩ := y
  cases e1
  obtain ⟨e, e3⟩ := cut_at e2
  have z := hs (xs.take i) x2 (xs.drop (i + 1)) σ H t _ e3 p nt (Same.new nt) (by
    rw [upd_same, List.length_take, Nat.min_eq_left (Nat.le_of_lt hi)])
  rw [← e] at z
  exact z
/-- for i in range -/
theorem for_rng (Pv : Nat → L2.St → Hp → Prop) (h0 : Pv 0 σ H)
    (hs : ∀ i σ H, i < n → Pv i σ H → g (.int (lo + i)) σ H fun σ2 H2 => tb { D with nx := Pv (i + 1), ct := Pv (i + 1), bk := D.nx } σ2 H2) (hd : ∀ σ H, Pv n σ H → D.nx σ H) : ForR (Itr lo n) g tb D σ H := for_range Pv h0 hs hd
/-- what a comprehension's turn is to reach: y put behind the new list at d -/
def LcPut (d : Addr) (R : Hp → Prop) (y : V) (H : Hp) : Prop := ∃ acc, H d = some (.lst acc) ∧ acc.length < sizeLine ∧ R (upd H d (.lst (acc ++ [y])))
theorem lc_put {d : Addr} {R : Hp → Prop} {y : V} {acc : List V} (h : H d = some (.lst acc)) (hl : acc.length < 100000) (q : ∀ H5, But d H H5 → H5 d = some (.lst (acc ++ [y])) → R H5) : LcPut d R y H := ⟨acc, h, Nat.lt_of_lt_of_le hl (by decide), q _ But.set upd_same⟩
theorem lc_w {J : It} {G : Hp → Prop} {Y : Nat → Hp → V → Hp → Prop} (w : Walk J n G Y)
    (h : ∀ d H1, H d = none → Same H H1 → H1 d = some (.lst []) → ∃ Pv : Nat → Hp → Prop, Pv 0 H1 ∧ (∀ i H, i ≤ n → Pv i H → G H) ∧
      (∀ i x H H', i < n → Pv i H → Y i H x H' → g x (wipe σ vs) H' fun σ2 H2 => wipe σ2 vs = wipe σ vs ∧ tt σ2 H2 fun b H3 => if b = true then te σ2 H3 fun y H4 => LcPut d (Pv (i + 1)) y H4 else Pv (i + 1) H3) ∧ ∀ H, Pv n H → Q (.ref d) H) : LcR J g tt te vs σ H Q := by
  intro d nd
  obtain ⟨Pv, h0, hG, hs, hd⟩ := h d _ nd (Same.new nd) upd_same
  exact lc_it w Pv h0 hG hs hd
theorem lc_rng (h : ∀ d H1, H d = none → Same H H1 → H1 d = some (.lst []) → ∃ Pv : Nat → Hp → Prop, Pv 0 H1 ∧
      (∀ (i : Nat) H, i < n → Pv i H → g (.int (lo + i)) (wipe σ vs) H fun σ2 H2 => wipe σ2 vs = wipe σ vs ∧ tt σ2 H2 fun b H3 => if b = true then te σ2 H3 fun y H4 => LcPut d (Pv (i + 1)) y H4 else Pv (i + 1) H3) ∧ ∀ H, Pv n H → Q (.ref d) H) : LcR (Itr lo n) g tt te vs σ H Q := by
  refine lc_w walk_range fun d H1 nd s e => ?_
  obtain ⟨Pv, h0, hs, hd⟩ := h d H1 nd s e
  refine ⟨Pv, h0, fun _ _ _ _ => trivial, fun i x H H' hi p y => ?_, hd⟩
  obtain ⟨rfl, rfl⟩ := y
  exact hs i _ hi p
theorem lc_lst (xs : List V) (h : ∀ d H1, H d = none → Same H H1 → H1 d = some (.lst []) → ∃ Pv : List V → Hp → Prop, Pv [] H1 ∧ (∀ pre post H, xs = pre ++ post → Pv pre H → SqL K H a xs) ∧
      (∀ pre x post H, xs = pre ++ x :: post → Pv pre H → g x (wipe σ vs) H fun σ2 H2 => wipe σ2 vs = wipe σ vs ∧ tt σ2 H2 fun b H3 => if b = true then te σ2 H3 fun y H4 => LcPut d (Pv (pre ++ [x])) y H4 else Pv (pre ++ [x]) H3) ∧ ∀ H, Pv xs H → Q (.ref d) H) : LcR (Itl K a) g tt te vs σ H Q := by
  refine lc_w (walk_list (xs := xs)) fun d H1 nd s e => ?_
  obtain ⟨Pv, h0, hl, hs, hd⟩ := h d H1 nd s e
  refine ⟨fun i => Pv (xs.take i), by simpa using h0, fun i H _ p => hl _ (xs.drop i) H (List.take_append_drop i xs).symm p, fun i x H H' hi p y => ?_, fun H p => hd H (by simpa using p)⟩
  obtain ⟨rfl, hc⟩ := y
  obtain ⟨e1, e2⟩ := cut_at hc
  have z := hs (xs.take i) x (xs.drop (i + 1)) _ e2 p
  rw [← e1] at z
  exact z
end

/-! ### a def of the text -/
def DefAt (K : PySem.W.Frag) (mg : Str → Option Value) (x : Str) (st : Stmt) (ps : List Str) : Prop := ∃ (f : Addr) (fd : FuncData), FunD K x x (defArgs st) (defBody st) (defScope st) [] [] f fd ∧ mg x = some (.ref f) ∧ Binds K fd ps []
section
variable {P : Program} {w : World} {K : PySem.W.Frag} {mg : Str → Option Value} {base : Heap}
theorem fnD {x : Str} {st : Stmt} {f : Addr} {fd : FuncData} {N ps : List Str} {k : Nat} {sp : Sp} (F : FunD K x x (defArgs st) (defBody st) (defScope st) [] [] f fd) (S : FnScope N ps (defScope st)) (len : ∀ vs H Q E, sp vs H Q E → vs.length = ps.length)
    (hbody : ∀ (cdv : Value) (A : Around) (outer : List Env) (s : Shared) (H : Hp) (vs : List V) (Q : VK) (E : XK), Room k (A.deeper (envOfC x (defScope st) s.heap.objs.size f cdv)) → sp vs H Q E →
      ∃ t, PSs (cxOf C8.CX0 P w K mg base N x (defScope st) f cdv A outer s H E).nox (defBody st) t ∧ t { nx := fun _ H' => Q .non H', rt := Q } (start N vs) H) : FnOk P w K mg base C8.CX0 (k + 1) f fd ps sp := by
  refine F.ok S len fun cdv A outer s H vs Q E hr hsp => ?_
  obtain ⟨t, h, q⟩ := hbody cdv A outer s H vs Q E hr hsp
  exact ⟨t, h.nox, q⟩
theorem calD {x : Str} {st : Stmt} {N ps : List Str} {k : Nat} {sp : Sp} (D : DefAt K mg x st ps) (S : FnScope N ps (defScope st)) (len : ∀ vs H Q E, sp vs H Q E → vs.length = ps.length)
    (hbody : ∀ (f : Addr) (cdv : Value) (A : Around) (outer : List Env) (s : Shared) (H : Hp) (vs : List V) (Q : VK) (E : XK), Room k (A.deeper (envOfC x (defScope st) s.heap.objs.size f cdv)) → sp vs H Q E →
      ∃ t, PSs (cxOf C8.CX0 P w K mg base N x (defScope st) f cdv A outer s H E).nox (defBody st) t ∧ t { nx := fun _ H' => Q .non H', rt := Q } (start N vs) H) : C8.Cal P w K mg base (k + 1) x sp [] := by
  obtain ⟨f, fd, F, hm, b⟩ := D
  exact ⟨f, fd, ps, [], fnD F S len (hbody f), hm, F.kp, b, .nil⟩
end
end Ly

set_option maxHeartbeats 4000000
namespace Ly
open PySem SX
/-! ### signs -/
def isSg (c : Nat) : Prop := c ∈ LET ∨ c ∈ BRK
/-- the number of a bracket's kind -/
def knd (c : Nat) : Nat := if c ∈ OPN then OPN.idxOf c else CLO.idxOf c
/-- the other bracket of a bracket's kind -/
def oth (c : Nat) : Nat := if c ∈ OPN then CLO.getD (OPN.idxOf c) 0 else OPN.getD (CLO.idxOf c) 0
theorem find_opn : ∀ c ∈ OPN, Txt.find (S OPN) (S [c]) = (knd c : Int) := by decide +kernel
theorem find_clo : ∀ c ∈ CLO, Txt.find (S CLO) (S [c]) = (knd c : Int) := by decide +kernel
theorem brk_or {c : Nat} : c ∈ BRK ↔ c ∈ OPN ∨ c ∈ CLO := by
  unfold BRK OPN CLO
  simp
  omega
theorem oth_clo : ∀ c ∈ OPN, oth c ∈ CLO := by decide
theorem oth_opn : ∀ c ∈ CLO, oth c ∈ OPN := by decide
theorem oth_brk : ∀ c ∈ BRK, oth c ∈ BRK := by decide
theorem oth_oth : ∀ c ∈ BRK, oth (oth c) = c := by decide
theorem opn_clo : ∀ c ∈ OPN, c ∉ CLO := by decide
theorem atI_of {α : Type} {l : List α} {k : Nat} {c : α} (h : l[k]? = some c) : L2.atI l (k : Int) = some c := L2.atI_nat h

/-! ### clean texts, by a pile of awaited closing brackets -/
def stp (s : Option (List Nat)) (c : Nat) : Option (List Nat) := match s with
  | none => none
  | some st => if c ∈ OPN then some (oth c :: st) else if c ∈ CLO then (match st with
    | d :: r => if d = c then some r else none
    | [] => none) else some st
def run (l : List Nat) : Option (List Nat) := l.foldl stp (some [])
def clean (l : List Nat) : Prop := run l = some []
instance (l : List Nat) : Decidable (clean l) := inferInstanceAs (Decidable (run l = some []))
theorem run_app (a b : List Nat) : run (a ++ b) = b.foldl stp (run a) := by
  unfold run
  rw [List.foldl_append]
theorem stp_let {s : Option (List Nat)} {c : Nat} (h1 : c ∉ OPN) (h2 : c ∉ CLO) : stp s c = s := by
  cases s with
  | none => rfl
  | some st => unfold stp; simp only [h1, h2, if_false]
theorem stp_opn {st : List Nat} {c : Nat} (h1 : c ∈ OPN) : stp (some st) c = some (oth c :: st) := by
  unfold stp
  simp only [h1, if_true]
theorem stp_clo {st : List Nat} {c : Nat} (h2 : c ∈ CLO) : stp (some (c :: st)) c = some st := by
  have h1 : c ∉ OPN := fun h => opn_clo c h h2
  unfold stp
  simp only [h1, h2, if_true, if_false]
theorem let_opn : ∀ c ∈ LET, c ∉ OPN := by decide
theorem let_clo : ∀ c ∈ LET, c ∉ CLO := by decide
theorem brk_at {z : Nat} (h : z < 8) : ∃ c, BRK[z]? = some c ∧ c ∈ BRK := ⟨BRK[z]'h, List.getElem?_eq_getElem h, List.getElem_mem h⟩
theorem let_at {z : Nat} (h : z < 26) : ∃ c, LET[z]? = some c ∧ c ∈ LET := ⟨LET[z]'h, List.getElem?_eq_getElem h, List.getElem_mem h⟩
theorem ixN_nat {n j : Nat} (h : j < n) : L2.ixN n (j : Int) = some j := by
  unfold L2.ixN
  rw [if_pos (by omega), if_pos (by omega), Int.toNat_natCast]
end Ly

set_option maxHeartbeats 4000000
namespace Ly
open PySem PySem.Spec PyProof.Rows L2 SX

/-! ### list(text) -/
def sgV (l : List Nat) : List V := l.map fun c => Tx [c]
section
variable {X : Cx}
theorem vals_signs {l : List Nat} {acc : Array Value} (h : ItemsOf (SignAt (S l)) acc (S l).cps.size) : Vals (sgV l) acc.toList := by
  have hsz : acc.size = l.length := by rw [h.1]; simp
  have key : ∀ (l2 : List Nat) (us : List Value), us.length = l2.length → (∀ j, j < l2.length → ∃ c u, l2[j]? = some c ∧ us[j]? = some (.str ⟨#[c]⟩ u)) → Vals (sgV l2) us := by
    intro l2
    induction l2 with
    | nil =>
      intro us hl _
      cases us with
      | nil => exact .nil
      | cons a b => simp at hl
    | cons c l2 ih =>
      intro us hl hj
      cases us with
      | nil => simp at hl
      | cons a b =>
        obtain ⟨c', u, e1, e2⟩ := hj 0 (by simp)
        simp at e1 e2
        subst e1 e2
        refine .cons ⟨u, rfl⟩ (ih b (by simpa using hl) fun j hlt => ?_)
        obtain ⟨c2, u2, e3, e4⟩ := hj (j + 1) (by simp; omega)
        exact ⟨c2, u2, by simpa using e3, by simpa using e4⟩
  refine key l acc.toList (by simpa using hsz) fun j hj => ?_
  have hj2 : j < acc.size := by omega
  obtain ⟨c, u, e1, e2⟩ := h.2 j acc[j] (by simp [hj2])
  refine ⟨c, u, by simpa using e1, ?_⟩
  rw [← e2]
  simp [hj2]
/-! ### joins of texts -/
def rJoinT (K : PySem.W.Frag) : V → List V → Hp → VK → Prop := fun x xs H Q => ∃ (a : List Nat) (p : Addr) (ps : List (List Nat)), x = Tx a ∧ xs = [.ref p] ∧ SqL K H p (ps.map Tx) ∧ (ps.map (·.length)).sum + ps.length * a.length ≤ 100000 ∧ Q (Tx (TL.joinL a ps)) H
theorem mt_joinT : MtR X "str.join" (rJoinT X.K) := fun pins s σ H x xs v us Q I rx rs h => by
  obtain ⟨a, p, ps, h1, h2, h3, h4, q⟩ := h
  refine mt_join pins s σ H x xs v us Q I rx rs ⟨S a, p, ps.map S, h1, h2, .inl ?_, ?_, ?_⟩
  · rw [List.map_map]
    exact h3
  · rw [lens, List.length_map, S_len]
    exact Nat.le_trans h4 (by decide)
  · rw [join_S]
    exact q

/-! ### text * n -/
end

/-! ### enumerate(text) -/
def IteS (x : Str) : It := ⟨fun i _ => i < x.cps.size, fun i H v H' => ∃ T c, v = .ref T ∧ H T = none ∧ H' = upd H T (.tup [.int (i : Nat), .str ⟨#[c]⟩]) ∧ x.cps[i]? = some c, fun i _ => i = x.cps.size⟩
def iEnumS (ta : TA) : TI := fun σ H R => ta σ H fun vs H1 => ∃ l : List Nat, vs = [Tx l] ∧ R (IteS (S l)) H1
section
variable {K : PySem.W.Frag} {σ : L2.St} {H : Hp} {g : TG} {tb : TS} {D : Ends} {l : List Nat} {xs : List V} {a : Addr}
/-! readings -/
variable {Q : VK} {p : Addr} {m : List Nat} {n : Nat}
theorem g_joinT {ps : List (List Nat)} (h : SqL K H p (ps.map Tx)) (hl : (ps.map (·.length)).sum + ps.length * m.length ≤ 100000) (q : Q (Tx (TL.joinL m ps)) H) : rJoinT K (Tx m) [.ref p] H Q := ⟨m, p, ps, rfl, rfl, h, hl, q⟩
theorem joinL_nil : ∀ ps : List (List Nat), TL.joinL [] ps = ps.flatten
  | [] => rfl
  | [p] => by simp [TL.joinL]
  | p :: q :: r => by
    show p ++ ([] ++ TL.joinL [] (q :: r)) = _
    rw [joinL_nil (q :: r)]
    simp
/-- ''.join of signs -/
theorem g_join0 (h : SqL K H p (sgV l)) (hl : l.length ≤ 100000) (q : Q (Tx l) H) : rJoinT K (Tx []) [.ref p] H Q := by
  refine g_joinT (ps := l.map fun c => [c]) ?_ ?_ ?_
  · rw [List.map_map]
    exact h
  · rw [List.map_map]
    have : ((fun x : List Nat => x.length) ∘ fun c : Nat => [c]) = fun _ => 1 := rfl
    rw [this]
    have e : ∀ l : List Nat, (l.map fun _ => 1).sum = l.length := by
      intro l
      induction l with
      | nil => rfl
      | cons c l ih => simp [ih]; omega
    rw [e]
    simpa using hl
  · rw [joinL_nil]
    have : ∀ l : List Nat, (l.map fun c => [c]).flatten = l := by
      intro l
      induction l with
      | nil => rfl
      | cons c l ih => simp [ih]
    rw [this]
    exact q
end

/-! ### an if whose test is told once -/
def tIfC (c : TT) (t u : TS) : TS := tIfS c t u
theorem ps_ifC {X : Cx} {pos : Pos} {c : Expr} {a b : List Stmt} {tc : TT} {t u : TS} (hc : PT X c tc) (ha : PSs X a t) (hb : PSs X b u) : PS X (.If c a b pos) (tIfC tc t u) := ps_if hc ha hb
/-- the test c comes out as b and leaves the heap -/
def Tst (c : TT) (σ : L2.St) (H : Hp) (b : Bool) : Prop := ∀ Q : Bool → Hp → Prop, Q b H → c σ H Q
theorem g_ifC {c : TT} {t u : TS} {D : Ends} {σ : L2.St} {H : Hp} {b : Bool} (hA : Tst c σ H b) (h1 : b = true → t D σ H) (h2 : b = false → u D σ H) : tIfC c t u D σ H := by
  refine hA _ ?_
  cases b with
  | true => exact h1 rfl
  | false => exact h2 rfl
/-- the test changes the heap as G says -/
def TstH (c : TT) (σ : L2.St) (H : Hp) (b : Bool) (G : Hp → Prop) : Prop := ∀ Q : Bool → Hp → Prop, (∀ H1, G H1 → Q b H1) → c σ H Q
theorem g_ifH {c : TT} {t u : TS} {D : Ends} {σ : L2.St} {H : Hp} {b : Bool} {G : Hp → Prop} (hA : TstH c σ H b G) (h1 : ∀ H1, G H1 → b = true → t D σ H1) (h2 : ∀ H1, G H1 → b = false → u D σ H1) : tIfC c t u D σ H := by
  refine hA _ fun H1 g => ?_
  cases b with
  | true => exact h1 H1 g rfl
  | false => exact h2 H1 g rfl
/-! ### while -/
section
variable {c : TT} {tb : TS} {D : Ends} {σ : L2.St} {H : Hp}
def WhB (tb : TS) (D : Ends) (W : Nat → L2.St → Hp → Prop) (m : Nat) (σ : L2.St) (H : Hp) : Prop := ∃ N : L2.St → Hp → Prop, (∀ σ' H', N σ' H' → ∃ m', m' < m ∧ W m' σ' H') ∧ tb { D with nx := N, ct := N, bk := D.nx } σ H
theorem g_while (W : Nat → L2.St → Hp → Prop) (m : Nat) (h0 : W m σ H) (hs : ∀ m σ H, W m σ H → c σ H fun b H1 => if b = true then WhB tb D W m σ H1 else D.nx σ H1) : tWhile c tb D σ H := ⟨W, ⟨m, h0⟩, hs⟩
theorem g_whb {W : Nat → L2.St → Hp → Prop} {m : Nat} (q : tb { D with nx := fun σ' H' => ∃ m', m' < m ∧ W m' σ' H', ct := fun σ' H' => ∃ m', m' < m ∧ W m' σ' H', bk := D.nx } σ H) : WhB tb D W m σ H := ⟨_, fun _ _ h => h, q⟩
end
/-! ### data: == and != -/
section
variable {K : PySem.W.Frag} {H : Hp} {Q : VK} {p a : Addr} {X : Cx}
end
theorem sgV_snoc (l : List Nat) (c : Nat) : sgV (l ++ [c]) = sgV l ++ [Tx [c]] := by
  unfold sgV
  rw [List.map_append]
  rfl
theorem sgV_len (l : List Nat) : (sgV l).length = l.length := by
  unfold sgV
  rw [List.length_map]

section
variable {K : PySem.W.Frag} {H : Hp} {Q : VK} {p a : Addr} {xs : List V} {v : V} {i : Nat}
theorem g_isi {x : V} {t u : String} {b : Bool} (ty : TyX K H x (.type t)) (h : kitB t u = some b) (q : Q (.bl b) H) : rIsi K [x, .ty u] H Q := ⟨x, .ty u, .type t, .type u, b, rfl, .ty u, ty, kit_ty h, q⟩
theorem ty_str {x : Str} : TyX K H (.str x) (.type "str") := .base (.str x)
theorem ty_int {n : Int} : TyX K H (.int n) (.type "int") := .base (.int n)
theorem ty_bl {b : Bool} : TyX K H (.bl b) (.type "bool") := .base (.bl b)
theorem ty_lst (h : H p = some (.lst xs)) : TyX K H (.ref p) (.type "list") := .base (.lst h)
theorem ty_tup (h : H p = some (.tup xs)) : TyX K H (.ref p) (.type "tuple") := .base (.tup h)
theorem cut_ints (ns : List Int) (lo hi : Option Int) : ∃ ms : List Int, cutV (ns.map V.int) lo hi = ms.map V.int ∧ ms.length ≤ ns.length := by
  unfold cutV
  refine ⟨(ns.drop (HT.sIx (ns.map V.int).length 0 lo)).take (HT.sIx (ns.map V.int).length (ns.map V.int).length hi - HT.sIx (ns.map V.int).length 0 lo), ?_, ?_⟩
  · rw [List.map_take, List.map_drop]
  · rw [List.length_take, List.length_drop]
    omega
theorem mid_at {α : Type} {xs pre post : List α} {x : α} (e : xs = pre ++ x :: post) : xs[pre.length]? = some x := by
  rw [e]
  simp
end
end Ly

set_option maxHeartbeats 4000000
namespace Ly
open PySem PySem.Spec PyProof.Rows L2 SX
/-! ### zip(text, list) -/
def ItzS (K : PySem.W.Frag) (x : Str) (b : Addr) : It :=
  ⟨fun i H => ∃ (ys : List V) (y : V), i < x.cps.size ∧ SqL K H b ys ∧ ys[i]? = some y,
    fun i H v H' => ∃ T c y, v = .ref T ∧ H T = none ∧ H' = upd H T (.tup [.str ⟨#[c]⟩, y]) ∧ x.cps[i]? = some c ∧ ∀ ys, SqL K H b ys → ys[i]? = some y,
    fun i H => ∃ ys : List V, SqL K H b ys ∧ (i = x.cps.size ∨ i = ys.length) ∧ i ≤ x.cps.size ∧ i ≤ ys.length⟩
def iZipS (K : PySem.W.Frag) (ta : TA) : TI := fun σ H R => ta σ H fun vs H1 => ∃ (l : List Nat) (b : Addr) (ys : List V), vs = [Tx l, .ref b] ∧ SqL K H1 b ys ∧ R (ItzS K (S l) b) H1
/-! ### flat data -/
section
variable {K : PySem.W.Frag} {H : Hp} {Q : VK} {p a : Addr} {xs : List V}
theorem g_rep {n : Nat} (h : H p = some (.lst xs)) (hl : xs.length * n ≤ 100000) (hn : n ≤ 100000) (q : ∀ p H1, H p = none → Same H H1 → H1 p = some (.lst (List.replicate n xs).flatten) → Q (.ref p) H1) : rRep (.ref p) (.int (n : Int)) H Q := by
  refine ⟨p, n, xs, rfl, rfl, h, by omega, by omega, Nat.le_trans (by rw [Int.toNat_natCast]; exact hl) (by decide), ?_⟩
  rw [Int.toNat_natCast]
  exact g_new q
end

/-! ### downward ranges -/
theorem rgc_dn {n : Nat} (h : n ≤ 100000) : RgC ((n : Int) - 1) (-1) (-1) n := by
  have e := RgC.neg (i := (n : Int) - 1) (j := -1) (by omega) (by omega) (by omega) (by omega)
  rw [show ((n : Int) - 1 - -1).toNat = n by omega] at e
  exact e
section
variable {σ : L2.St} {H : Hp} {g : TG} {tb : TS} {D : Ends} {n : Nat}
/-- for k in range(n - 1, -1, -1): Pv k: those from k on are gone through -/
theorem for_dn (Pv : Nat → L2.St → Hp → Prop) (h0 : Pv n σ H)
    (hs : ∀ (k : Nat) σ H, k < n → Pv (k + 1) σ H → g (.int (k : Int)) σ H fun σ2 H2 => tb { D with nx := Pv k, ct := Pv k, bk := D.nx } σ2 H2) (hd : ∀ σ H, Pv 0 σ H → D.nx σ H) : ForR (Itc ((n : Int) - 1) (-1) n) g tb D σ H := by
  refine for_it walk_rangeC (fun i σ H => Pv (n - i) σ H) h0 (fun _ _ _ _ _ => trivial) (fun i x σ H H' hi p y => ?_) (fun σ H p => hd σ H (by rw [Nat.sub_self] at p; exact p))
  obtain ⟨rfl, rfl⟩ := y
  have e : ((n : Int) - 1 + (i : Nat) * -1) = ((n - (i + 1) : Nat) : Int) := by omega
  show g (V.int ((n : Int) - 1 + (i : Nat) * -1)) σ H' fun σ2 H2 => tb { D with nx := Pv (n - (i + 1)), ct := Pv (n - (i + 1)), bk := D.nx } σ2 H2
  rw [e]
  refine hs (n - (i + 1)) σ _ (by omega) ?_
  rw [show n - (i + 1) + 1 = n - i by omega]
  exact p
end
/-! ### a promise that nobody asks -/
end Ly

set_option maxHeartbeats 4000000
namespace Ly
/-! ### stretches, partners -/
/-- the signs from a on and below b -/
def seg (l : List Nat) (a b : Nat) : List Nat := (l.take b).drop a
theorem seg_snoc {l : List Nat} {a n : Nat} (h : a ≤ n) (hn : n < l.length) : seg l a (n + 1) = seg l a n ++ [l[n]] := by
  unfold seg
  rw [List.take_succ_eq_append_getElem hn, List.drop_append_of_le_length (by rw [List.length_take]; omega)]
theorem seg_self {l : List Nat} {a : Nat} : seg l a a = [] := by
  unfold seg
  exact List.drop_eq_nil_of_le (by rw [List.length_take]; omega)
theorem seg_app {l : List Nat} {a b c : Nat} (h1 : a ≤ b) (h2 : b ≤ c) (h3 : b ≤ l.length) : seg l a c = seg l a b ++ seg l b c := by
  unfold seg
  have e : (l.take c).drop a = ((l.take c).take b ++ (l.take c).drop b).drop a := by rw [List.take_append_drop]
  rw [e, List.take_take, Nat.min_eq_left h2, List.drop_append_of_le_length (by rw [List.length_take]; omega)]
theorem seg_len {l : List Nat} {a b : Nat} (h : b ≤ l.length) : (seg l a b).length = b - a := by
  unfold seg
  rw [List.length_drop, List.length_take]
  omega
theorem seg_all {l : List Nat} : seg l 0 l.length = l := by
  unfold seg
  rw [List.take_length, List.drop_zero]
/-- i an opening bracket, j its partner -/
def ptn (l : List Nat) (i j : Nat) : Prop := i < j ∧ ∃ c, l[i]? = some c ∧ c ∈ OPN ∧ l[j]? = some (oth c) ∧ clean (seg l (i + 1) j)
/-! the pile from any begin -/
theorem fold_none : ∀ l : List Nat, l.foldl stp none = none
  | [] => rfl
  | c :: l => by
    rw [List.foldl_cons]
    exact fold_none l
/-- what lies deeper in the pile stays -/
theorem fold_deep : ∀ (l : List Nat) (st r : List Nat) (t : List Nat), l.foldl stp (some st) = some r → l.foldl stp (some (st ++ t)) = some (r ++ t)
  | [], st, r, t, h => by
    cases h
    rfl
  | c :: l, st, r, t, h => by
    rw [List.foldl_cons] at h ⊢
    by_cases h1 : c ∈ OPN
    · rw [stp_opn h1] at h ⊢
      exact fold_deep l (oth c :: st) r t h
    · by_cases h2 : c ∈ CLO
      · cases st with
        | nil =>
          have e : stp (some []) c = none := by unfold stp; simp only [h1, h2, if_true, if_false]
          rw [e, fold_none] at h
          cases h
        | cons d st =>
          by_cases hd : d = c
          · subst hd
            rw [stp_clo h2] at h
            rw [List.cons_append, stp_clo h2]
            exact fold_deep l st r t h
          · have e : stp (some (d :: st)) c = none := by unfold stp; simp only [h1, h2, hd, if_true, if_false]
            rw [e, fold_none] at h
            cases h
      · rw [stp_let h1 h2] at h ⊢
        exact fold_deep l st r t h
theorem run_clean_app {a b : List Nat} (h : clean a) : run (a ++ b) = run b := by
  rw [run_app, h]
  rfl
theorem fold_run {l : List Nat} {st r : List Nat} (h : run l = some r) : l.foldl stp (some st) = some (r ++ st) := by
  have := fold_deep l [] r st h
  simpa using this
/-- a clean text leaves each pile -/
theorem fold_clean {l : List Nat} (h : clean l) (st : Option (List Nat)) : l.foldl stp st = st := by
  cases st with
  | none => exact fold_none l
  | some st => simpa using fold_run (st := st) h
theorem clean_app {a b : List Nat} (h1 : clean a) (h2 : clean b) : clean (a ++ b) := by
  unfold clean
  rw [run_clean_app h1]
  exact h2
theorem clean_nil : clean [] := rfl
theorem clean_pair {c : Nat} {a : List Nat} (hc : c ∈ OPN) (h : clean a) : clean (c :: (a ++ [oth c])) := by
  show (c :: (a ++ [oth c])).foldl stp (some []) = some []
  rw [List.foldl_cons, stp_opn hc, List.foldl_append, fold_clean h]
  exact stp_clo (oth_clo c hc)
/-! ### the program's way -/
/-- what holds of both lists when the signs below n are gone over -/
structure PInv (l : List Nat) (n : Nat) (f : List (Option Nat)) (ws : List Nat) : Prop where
  len : f.length = l.length
  fnd : ∀ i j, f[i]? = some (some j) ↔ (ptn l i j ∧ j < n) ∨ (ptn l j i ∧ i < n)
  opn : ∀ j ∈ ws, j < n ∧ ∃ c, l[j]? = some c ∧ c ∈ OPN
  pile : ∀ k j, ws[k]? = some j → run (seg l (j + 1) n) = some ((ws.take k).map fun j => oth (l.getD j 0))
  all : ∀ i c, i < n → l[i]? = some c → c ∈ OPN → (run (seg l (i + 1) n)).isSome = true → i ∈ ws
  good : ∀ st, run (l.take n) = some st → ws.map (fun j => oth (l.getD j 0)) = st ∧ ∀ i c, i < n → l[i]? = some c → c ∈ BRK → f[i]? = some none → i ∈ ws
  bad : run (l.take n) = none → ∃ i c, i < n ∧ l[i]? = some c ∧ c ∈ CLO ∧ ∀ j, ¬ ptn l j i
/-- one closing bracket closes at most the last that waits -/
theorem PInv.top {l : List Nat} {n c : Nat} {f : List (Option Nat)} {ws : List Nat} (I : PInv l n f ws) (hc : l[n]? = some c) (h2 : c ∈ CLO) {i : Nat} (h : ptn l i n) : ∃ w, ws = i :: w ∧ l[i]? = some (oth c) := by
  obtain ⟨hlt, d, hd, hdo, hnd, hcl⟩ := h
  rw [hnd] at hc
  have ed : oth d = c := Option.some.inj hc
  have hi : i ∈ ws := I.all i d hlt hd hdo (by rw [hcl]; rfl)
  obtain ⟨k, hk⟩ := List.mem_iff_getElem?.mp hi
  have hp := I.pile k i hk
  rw [hcl] at hp
  have hk0 : ws.take k = [] := by
    have := Option.some.inj hp
    exact List.map_eq_nil_iff.mp this.symm
  have hk00 : k = 0 := by
    rcases Nat.eq_zero_or_pos k with h | h
    · exact h
    · exfalso
      have hlen : k < ws.length := (List.getElem?_eq_some_iff.mp hk).1
      have := congrArg List.length hk0
      rw [List.length_take, List.length_nil] at this
      omega
  subst hk00
  cases ws with
  | nil => cases hk
  | cons a w =>
    have : a = i := Option.some.inj hk
    subst this
    refine ⟨w, rfl, ?_⟩
    rw [hd, ← ed, oth_oth d (brk_or.mpr (.inl hdo))]
end Ly

set_option maxHeartbeats 4000000
namespace Ly
/-- the first place at which the pile is as it was below d -/
theorem fold_split : ∀ (n : Nat) (r d st t), r.length ≤ n → d ∈ CLO → r.foldl stp (some (d :: st)) = some t → t.length ≤ st.length → ∃ a b, r = a ++ d :: b ∧ clean a ∧ b.foldl stp (some st) = some t
  | n, [], d, st, t, _, _, h, hl => by
    cases h
    simp at hl
    omega
  | 0, e :: r, d, st, t, hn, _, _, _ => by simp at hn
  | n + 1, e :: r, d, st, t, hn, hd, h, hl => by
    have hn' : r.length ≤ n := by simpa using hn
    rw [List.foldl_cons] at h
    by_cases h1 : e ∈ OPN
    · rw [stp_opn h1] at h
      obtain ⟨a1, b1, e1, c1, f1⟩ := fold_split n r (oth e) (d :: st) t hn' (oth_clo e h1) h (by simp; omega)
      have hb1 : b1.length ≤ n := by
        rw [e1] at hn'
        simp at hn'
        omega
      obtain ⟨a2, b2, e2, c2, f2⟩ := fold_split n b1 d st t hb1 hd f1 hl
      refine ⟨e :: (a1 ++ [oth e]) ++ a2, b2, by rw [e1, e2]; simp, clean_app (clean_pair h1 c1) c2, f2⟩
    · by_cases h2 : e ∈ CLO
      · by_cases hde : d = e
        · subst hde
          rw [stp_clo h2] at h
          exact ⟨[], r, rfl, clean_nil, h⟩
        · exfalso
          have : stp (some (d :: st)) e = none := by unfold stp; simp only [h1, h2, hde, if_true, if_false]
          rw [this, fold_none] at h
          cases h
      · rw [stp_let h1 h2] at h
        obtain ⟨a, b, e1, c1, f1⟩ := fold_split n r d st t hn' hd h hl
        refine ⟨e :: a, b, by rw [e1]; rfl, ?_, f1⟩
        show (e :: a).foldl stp (some []) = some []
        rw [List.foldl_cons, stp_let h1 h2]
        exact c1
/-- a clean text that begins with an opening bracket -/
theorem clean_opn {c : Nat} {r : List Nat} (hc : c ∈ OPN) (h : clean (c :: r)) : ∃ a b, r = a ++ oth c :: b ∧ clean a ∧ clean b := by
  have h' : (c :: r).foldl stp (some []) = some [] := h
  rw [List.foldl_cons, stp_opn hc] at h'
  obtain ⟨a, b, e, c1, f1⟩ := fold_split r.length r (oth c) [] [] (Nat.le_refl _) (oth_clo c hc) h' (Nat.le_refl _)
  exact ⟨a, b, e, c1, f1⟩
theorem clean_let {c : Nat} {r : List Nat} (h1 : c ∉ OPN) (h2 : c ∉ CLO) : clean (c :: r) ↔ clean r := by
  show (c :: r).foldl stp (some []) = some [] ↔ _
  rw [List.foldl_cons, stp_let h1 h2]
  rfl
theorem clean_clo {c : Nat} {r : List Nat} (h2 : c ∈ CLO) : ¬ clean (c :: r) := by
  intro h
  have h' : (c :: r).foldl stp (some []) = some [] := h
  have h1 : c ∉ OPN := fun h => opn_clo c h h2
  have : stp (some []) c = none := by unfold stp; simp only [h1, h2, if_true, if_false]
  rw [List.foldl_cons, this, fold_none] at h'
  cases h'
theorem clean_cancel {a b : List Nat} (h : clean a) : clean (a ++ b) ↔ clean b := by
  unfold clean
  rw [run_clean_app h]
/-! ### by places -/
theorem seg_cons {l : List Nat} {a b c : Nat} (h : l[a]? = some c) (hb : a < b) (hl : b ≤ l.length) : seg l a b = c :: seg l (a + 1) b := by
  obtain ⟨ha, e⟩ := List.getElem?_eq_some_iff.mp h
  rw [seg_app (b := a + 1) (by omega) (by omega) (by omega), seg_snoc (Nat.le_refl a) ha, seg_self, e]
  rfl
end Ly

set_option maxHeartbeats 4000000
namespace Ly
/-! ### partners found from behind -/
def over (l : List Nat) (m : List (Option Nat)) (s : Nat) : Bool := match l[s]? with
  | none => false
  | some c => if c ∈ CLO then false else if c ∈ OPN then (match m[s]? with | some (some _) => true | _ => false) else true
end Ly

set_option maxHeartbeats 4000000
namespace Ly
/-! ### clean texts put together -/
theorem run_mid {a m b : List Nat} (h : clean m) : run (a ++ m ++ b) = run (a ++ b) := by
  rw [run_app, run_app, fold_clean h, ← run_app]
theorem clean_mid {a m b : List Nat} (h : clean m) : clean (a ++ m ++ b) ↔ clean (a ++ b) := by
  unfold clean
  rw [run_mid h]
end Ly

set_option maxHeartbeats 4000000
namespace Ly
open PySem PySem.Spec PyProof.Rows L2 SX
/-! ### text[i:j] -/
section
variable {K : PySem.W.Frag} {H : Hp} {Q : VK} {p a : Addr} {xs : List V}
end
end Ly

set_option maxHeartbeats 4000000
namespace Ly
/-! ### kinds renamed -/
/-! ### turned about -/
/-- the sign turned -/
def tn (c : Nat) : Nat := if c ∈ BRK then oth c else c
end Ly

set_option maxHeartbeats 4000000
namespace Ly
/-! ### clean stretches counted -/
/-- how many begins of l that are not empty are clean -/
def cp (l : List Nat) : Nat := (List.range l.length).countP fun k => decide (clean (l.take (k + 1)))
def many : List Nat → Nat
  | [] => 0
  | c :: r => cp (c :: r) + many r
theorem range_add (a b : Nat) : List.range (a + b) = List.range a ++ (List.range b).map (a + ·) := List.range_add
/-- in general -/
theorem cp_two (s b : List Nat) : cp (s ++ b) = cp s + (List.range b.length).countP fun k => decide (clean (s ++ b.take (k + 1))) := by
  unfold cp
  rw [List.length_append, range_add, List.countP_append, List.countP_map]
  congr 1
  · apply List.countP_congr
    intro k hk
    have hk' : k < s.length := List.mem_range.mp hk
    rw [List.take_append_of_le_length (by omega)]
  · apply List.countP_congr
    intro k hk
    show (decide (clean ((s ++ b).take (s.length + k + 1))) = true ↔ _)
    rw [show s.length + k + 1 = s.length + (k + 1) by omega, List.take_append, List.take_of_length_le (by omega), show s.length + (k + 1) - s.length = k + 1 by omega]
theorem cp_app {a b : List Nat} (h : clean a) : cp (a ++ b) = cp a + cp b := by
  rw [cp_two]
  congr 1
  unfold cp
  apply List.countP_congr
  intro k hk
  rw [decide_eq_true_iff, decide_eq_true_iff, clean_cancel h]
theorem cp_let {c : Nat} {r : List Nat} (h1 : c ∉ OPN) (h2 : c ∉ CLO) : cp (c :: r) = 1 + cp r := by
  have h : clean [c] := (clean_let h1 h2).mpr clean_nil
  have e : c :: r = [c] ++ r := rfl
  rw [e, cp_app h]
  congr 1
  unfold cp
  simp only [List.length_singleton, List.range_one, List.countP_cons, List.countP_nil, List.take_succ_cons, List.take_zero]
  simp [h]
/-! sums -/
/-! ### by places -/
def cps (l : List Nat) : List Nat := (List.range (l.length + 1)).map fun i => cp (l.drop i)
/-! ### texts of one kind -/
theorem unit_let {c : Nat} (h1 : c ∉ OPN) (h2 : c ∉ CLO) : clean [c] ∧ cp [c] = 1 ∧ many [c] = 1 := by
  have e : cp [c] = 1 := by rw [cp_let h1 h2]; rfl
  exact ⟨(clean_let h1 h2).mpr clean_nil, e, by show cp [c] + 0 = 1; rw [e]⟩
/-! ### units -/
end Ly

set_option maxHeartbeats 4000000
namespace Ly
open PySem PySem.Spec PyProof.Rows L2 SX
/-! ### texts with their tokens: for y in [texts]: x = x.replace(y, z) -/
/-- what a local name holds, as it is -/
def Raw (X : Cx) (s : Shared) (x : Str) (u : Value) : Prop := ∃ m, s.heap.Ns X.env.locals m ∧ m x = some u
section
variable {X : Cx} {pins : List (Addr × Obj)} {σ : L2.St} {H : Hp} {s : Shared}
/-- a local name is stored: its value is known, a token is out -/
theorem store_raw {M : Model} {A : Around} {E : Value → Shared → Prop} {i : Nat} {x : Str} {v : V} {u : Value} {Q : Unit → Shared → Prop} (I : Inv X pins σ H s) (hN : X.N.Nodup) (hi : X.N[i]? = some x) (hk : X.env.scope.names.lookup x = some .local) (r : RelV v u)
    (h : ∀ s', Inv X pins (σ.set i (some v)) H s' → Raw X s' x u → s'.toks = s.toks + 1 → (∃ a, Heap.SameBut a s.heap s'.heap ∧ a = X.env.locals) → Q () s') : wpAny M A (storeName X.env x u) Q E s := by
  obtain ⟨m, hn, hl⟩ := id I.loc
  have hcls : (X.env.scope.kind == .class || (X.env.scope.kind == .module && X.env.locals != X.env.globals)) = false := by rw [I.ok.kind]; rfl
  have hiσ : i < σ.length := by rw [I.len]; exact (List.getElem?_eq_some_iff.mp hi).1
  have cne := I.cne
  refine wpAny_storeName_local hk hn (fun h' hn' hs => ?_) hcls
  obtain ⟨oL, _, _, hoL, _⟩ := id hn
  have old : ∀ b o, X.s_0.heap.get? b = some o → h'.get? b = s.heap.get? b := fun b o e => hs.2 b (Nat.ne_of_lt (Nat.lt_of_lt_of_le (Heap.lt_size e) I.ok.above))
  refine h _ ⟨I.ok, I.os, I.bare, ⟨fun b o e n hb hx => (old b o e).trans (I.base.keep b o e n hb hx), fun b o e n hb hx => ?_, I.base.free, fun b o e hx => ?_, I.base.tups, I.base.frzs, I.base.tbls⟩, ⟨_, hn', fun j y v' e1 e2 e3 => ?_⟩, fun y c e => ?_, I.free, I.freeC, fun p hp => ?_, fun b ob e => ?_, by simpa using I.len⟩ ⟨_, hn', by simp⟩ rfl ⟨_, hs, rfl⟩
  · obtain ⟨sl, e1⟩ := I.base.slot b o e n hb hx
    exact ⟨sl, (old b o e).trans e1⟩
  · obtain ⟨o', e1⟩ := I.base.there b o e hx
    exact ⟨o', (old b o e).trans e1⟩
  · by_cases hj : j = i
    · subst hj
      rw [hi] at e1; cases e1
      rw [List.getElem?_set_self hiσ] at e2
      cases e2
      exact ⟨u, r, .inl ⟨hk, by simp⟩⟩
    · rw [List.getElem?_set_ne (Ne.symm hj)] at e2
      obtain ⟨u', r', q⟩ := hl j y v' e1 e2 e3
      refine ⟨u', r', ?_⟩
      rcases q with ⟨k, e⟩ | ⟨k, c, e, z⟩
      · have : y ≠ x := fun e => hj (nodup_ix hN e1 (e ▸ hi))
        exact .inl ⟨k, by simp [this, e]⟩
      · exact .inr ⟨k, c, e, z.sameBut hs (cne y c e)⟩
  · obtain ⟨w', z⟩ := I.cell y c e
    exact ⟨w', z.sameBut hs (cne y c e)⟩
  · obtain ⟨e, n, ne, nf, d⟩ := I.pin p hp
    exact ⟨(hs.2 p.1 ne).trans e, n, ne, nf, d⟩
  · refine (I.hok b ob e).stay (fun c w' hc q => (hs.2 c ?_).trans q) (fun _ q => q) fun _ _ q => q
    rintro rfl
    rcases hc with rfl | hc
    · rw [I.free] at e; cases e
    · rw [I.free] at hc; cases hc
/-- behind a store a token is out -/
theorem pss_asgT {i : Nat} {x : Str} {e : Expr} {te : TE} {rest : List Stmt} {u : TS} {pos' pos : Pos} (hN : X.N.Nodup) (hi : X.N[i]? = some x) (hk : X.env.scope.names.lookup x = some .local) (he : PE X e te) (h2 : PSsT X rest u)
    (hs : swapsWith e (some (.Name x pos')) pos.line X.env = pure false := by rfl) : PSs X (.Assign [.Name x pos'] e pos :: rest) (tSeq (tAsg te (gName i)) u) := by
  refine ⟨fun pins s σ H D I h => ?_⟩
  refine wpAny_execs_cons (wpAny_Assign_Name (thn (he.run pins s σ H _ I h) fun v s1 ⟨y, H1, I1, r1, q1⟩ => ?_) hs)
  exact store_raw I1 hN hi hk r1 fun s2 I2 _ ht _ => h2 pins s2 _ H1 D (by omega) I2 q1
end
section
variable {X : Cx} {ik ip : Nat} {kx px z : Str} {y1 y2 y3 y4 : Str}
end
end Ly

set_option maxHeartbeats 4000000
namespace Ly
open PySem PySem.Spec PyProof.Rows L2 SX PySem.StrLaws
/-! ### pairs struck out -/
/-! the program's texts -/
end Ly

set_option maxHeartbeats 4000000
namespace Ly
open PySem PySem.Spec PyProof.Rows L2 SX
section
variable {X : Cx} {ik ip : Nat} {kx px z : Str} {y1 y2 y3 y4 : Str}
end
end Ly

set_option maxHeartbeats 4000000
namespace Ly
/-! ### from piece to piece -/
/-! ### sums -/
end Ly

set_option maxHeartbeats 4000000
namespace Ly
open PySem PySem.Spec PyProof.Rows L2 SX
/-! ### nests in the heap: each inner list is one of its own -/
inductive Nd where
  | let_ (c : Nat)
  | num (i : Int)
  | br (o : Nat) (ds : List Nd)
mutual
inductive TrI (H : Hp) : V → Nd → List Addr → Prop
  | let_ (c : Nat) : TrI H (Tx [c]) (.let_ c) []
  | num (i : Int) : TrI H (.int i) (.num i) []
  | br {t b : Addr} {o : Nat} {xs : List V} {ds : List Nd} {A : List Addr} : H t = some (.tup [Tx [o], .ref b]) → H b = some (.lst xs) → TrIs H xs ds A → TrI H (.ref t) (.br o ds) (b :: A)
inductive TrIs (H : Hp) : List V → List Nd → List Addr → Prop
  | nil : TrIs H [] [] []
  | cons {v : V} {vs : List V} {d : Nd} {ds : List Nd} {A B : List Addr} : TrI H v d A → TrIs H vs ds B → TrIs H (v :: vs) (d :: ds) (A ++ B)
end
/-- all but the lists in C stay -/
def ButS (C : List Addr) (H H' : Hp) : Prop := (∀ x ∈ C, ∃ ys, H x = some (.lst ys)) ∧ ∀ x o, H x = some o → x ∉ C → H' x = some o
theorem ButS.refl (H : Hp) : ButS [] H H := ⟨by simp, fun _ _ h _ => h⟩
theorem ButS.of_same {H H' : Hp} (s : Same H H') : ButS [] H H' := ⟨by simp, fun x o h _ => s x o h⟩
mutual
theorem TrI.frame {H H' : Hp} {C : List Addr} (s : ButS C H H') : ∀ {v : V} {d : Nd} {A : List Addr}, TrI H v d A → (∀ x ∈ A, x ∉ C) → TrI H' v d A
  | _, _, _, .let_ c, _ => .let_ c
  | _, _, _, .num i, _ => .num i
  | _, _, _, @TrI.br _ t b o xs ds A ht hb hs, h => .br (s.2 _ _ ht fun hc => by obtain ⟨ys, e⟩ := s.1 _ hc; rw [ht] at e; cases e) (s.2 _ _ hb (h b (List.mem_cons_self ..))) (TrIs.frame s hs fun x hx => h x (List.mem_cons_of_mem _ hx))
theorem TrIs.frame {H H' : Hp} {C : List Addr} (s : ButS C H H') : ∀ {vs : List V} {ds : List Nd} {A : List Addr}, TrIs H vs ds A → (∀ x ∈ A, x ∉ C) → TrIs H' vs ds A
  | _, _, _, .nil, _ => .nil
  | _, _, _, .cons hi hs, h => .cons (TrI.frame s hi fun x hx => h x (List.mem_append_left _ hx)) (TrIs.frame s hs fun x hx => h x (List.mem_append_right _ hx))
end
theorem TrIs.len {H : Hp} : ∀ {vs : List V} {ds : List Nd} {A : List Addr}, TrIs H vs ds A → vs.length = ds.length
  | _, _, _, .nil => rfl
  | _, _, _, .cons _ hs => by simp [TrIs.len hs]
theorem TrIs.app {H : Hp} : ∀ {vs ws : List V} {ds es : List Nd} {A B : List Addr}, TrIs H vs ds A → TrIs H ws es B → TrIs H (vs ++ ws) (ds ++ es) (A ++ B)
  | _, _, _, _, _, _, .nil, h => h
  | _, _, _, _, _, _, .cons hi hs, h => by
    rw [List.append_assoc]
    exact .cons hi (TrIs.app hs h)
theorem TrIs.snoc {H : Hp} {vs : List V} {v : V} {ds : List Nd} {d : Nd} {A B : List Addr} (h : TrIs H vs ds A) (h1 : TrI H v d B) : TrIs H (vs ++ [v]) (ds ++ [d]) (A ++ B) := by
  have := TrIs.app h (.cons h1 .nil)
  simpa using this
theorem TrIs.split {H : Hp} : ∀ {vs ws : List V} {ds : List Nd} {A : List Addr}, TrIs H (vs ++ ws) ds A → ∃ ds1 ds2 A1 A2, ds = ds1 ++ ds2 ∧ A = A1 ++ A2 ∧ TrIs H vs ds1 A1 ∧ TrIs H ws ds2 A2
  | [], ws, ds, A, h => ⟨[], ds, [], A, rfl, rfl, .nil, h⟩
  | v :: vs, ws, _, _, .cons hi hs => by
    obtain ⟨ds1, ds2, A1, A2, rfl, rfl, h1, h2⟩ := TrIs.split hs
    exact ⟨_ :: ds1, ds2, _ ++ A1, A2, rfl, by rw [List.append_assoc], .cons hi h1, h2⟩
/-! depth, size -/
mutual
def Nd.deep : Nd → Nat
  | .br _ ds => Nd.deeps ds + 1
  | _ => 0
def Nd.deeps : List Nd → Nat
  | [] => 0
  | d :: ds => max (Nd.deep d) (Nd.deeps ds)
end
/-! ### numbered -/
end Ly
namespace Ly
open PySem PySem.Spec PyProof.Rows L2 SX
mutual
def Nd.wide : Nd → Nat
  | .br _ ds => Nd.wides ds
  | _ => 0
def Nd.wides : List Nd → Nat
  | [] => 0
  | d :: ds => max (Nd.wide d) (max (ds.length + 1) (Nd.wides ds))
end
theorem ButS.trans {C D : List Addr} {H H1 H2 : Hp} (x : ButS C H H1) (y : ButS D H1 H2) (hD : ∀ a ∈ D, ∃ ys, H a = some (.lst ys)) : ButS (C ++ D) H H2 := by
  refine ⟨fun a ha => ?_, fun a o h hn => ?_⟩
  · rcases List.mem_append.mp ha with ha | ha
    · exact x.1 a ha
    · exact hD a ha
  · rw [List.mem_append, not_or] at hn
    exact y.2 a o (x.2 a o h hn.1) hn.2
theorem ButS.but {b : Addr} {xs : List V} {H H1 : Hp} (h : H b = some (.lst xs)) (y : But b H H1) : ButS [b] H H1 := by
  refine ⟨fun a ha => ?_, fun a o h hn => y a o (fun e => hn (by rw [e]; simp)) h⟩
  rw [List.mem_singleton] at ha
  rw [ha]
  exact ⟨_, h⟩
theorem TrI.same {H H' : Hp} (s : Same H H') {v : V} {d : Nd} {A : List Addr} (h : TrI H v d A) : TrI H' v d A := TrI.frame (ButS.of_same s) h (by simp)
theorem TrIs.same {H H' : Hp} (s : Same H H') {v : List V} {d : List Nd} {A : List Addr} (h : TrIs H v d A) : TrIs H' v d A := TrIs.frame (ButS.of_same s) h (by simp)
end Ly

set_option maxHeartbeats 4000000
namespace Ly
open PySem PySem.Spec PyProof.Rows L2 SX
/-! ### a nest being made: the list b hangs in open frames -/
inductive Ctx (H : Hp) : Addr → List Addr → List (List Nd × Nat) → List Addr → Prop
  | nil (b : Addr) : Ctx H b [] [] []
  | cons {b b0 t : Addr} {bs : List Addr} {fs : List (List Nd × Nat)} {A A0 : List Addr} {xs0 : List V} {ds0 : List Nd} {o : Nat} : H b0 = some (.lst (xs0 ++ [.ref t])) → TrIs H xs0 ds0 A0 → H t = some (.tup [Tx [o], .ref b]) → Ctx H b0 bs fs A → Ctx H b (b0 :: bs) ((ds0, o) :: fs) (b0 :: (A0 ++ A))
theorem Ctx.frame {H H' : Hp} {C : List Addr} (s : ButS C H H') : ∀ {b : Addr} {bs : List Addr} {fs : List (List Nd × Nat)} {A : List Addr}, Ctx H b bs fs A → (∀ x ∈ A, x ∉ C) → Ctx H' b bs fs A
  | _, _, _, _, .nil b, _ => .nil b
  | _, _, _, _, .cons h1 h2 h3 h4, h => .cons (s.2 _ _ h1 (h _ (List.mem_cons_self ..))) (TrIs.frame s h2 fun x hx => h x (List.mem_cons_of_mem _ (List.mem_append_left _ hx))) (s.2 _ _ h3 fun hc => by obtain ⟨ys, e⟩ := s.1 _ hc; rw [h3] at e; cases e) (Ctx.frame s h4 fun x hx => h x (List.mem_cons_of_mem _ (List.mem_append_right _ hx)))
theorem Ctx.len {H : Hp} : ∀ {b : Addr} {bs : List Addr} {fs : List (List Nd × Nat)} {A : List Addr}, Ctx H b bs fs A → bs.length = fs.length
  | _, _, _, _, .nil b => rfl
  | _, _, _, _, .cons _ _ _ h4 => by simp [Ctx.len h4]
/-- the whole state: the open list, its frames, all lists unlike and new since H0 -/
structure Bld (N : Addr → Prop) (H : Hp) (b : Addr) (bs : List Addr) (fs : List (List Nd × Nat)) (cur : List Nd) : Prop where
  ex : ∃ xs A1 A, H b = some (.lst xs) ∧ TrIs H xs cur A1 ∧ Ctx H b bs fs A ∧ (b :: (A1 ++ A)).Nodup ∧ ∀ x ∈ b :: (A1 ++ A), N x
theorem Bld.start {N : Addr → Prop} {H : Hp} {b : Addr} (h : H b = some (.lst [])) (n : N b) : Bld N H b [] [] [] := ⟨[], [], [], h, .nil, .nil b, by simp, by simpa using n⟩
/-- nothing of it is touched -/
theorem Bld.same {N : Addr → Prop} {H H' : Hp} {b : Addr} {bs : List Addr} {fs : List (List Nd × Nat)} {cur : List Nd} (B : Bld N H b bs fs cur) (s : Same H H') : Bld N H' b bs fs cur := by
  obtain ⟨xs, A1, A, h1, h2, h3, h4, h5⟩ := B.ex
  exact ⟨xs, A1, A, s _ _ h1, TrIs.same s h2, Ctx.frame (ButS.of_same s) h3 (by simp), h4, h5⟩
theorem Bld.but {N : Addr → Prop} {H H' : Hp} {b p : Addr} {bs : List Addr} {fs : List (List Nd × Nat)} {cur : List Nd} {ys : List V} (B : Bld N H b bs fs cur) (s : But p H H') (hp : H p = some (.lst ys)) (hn : ¬ N p) : Bld N H' b bs fs cur := by
  obtain ⟨xs, A1, A, h1, h2, h3, h4, h5⟩ := B.ex
  have bs := ButS.but hp s
  have hno : ∀ x ∈ b :: (A1 ++ A), x ∉ [p] := fun x hx hc => by
    rw [List.mem_singleton] at hc
    rw [hc] at hx
    exact hn (h5 p hx)
  exact ⟨xs, A1, A, bs.2 _ _ h1 (hno b (List.mem_cons_self ..)), TrIs.frame bs h2 fun x hx => hno x (List.mem_cons_of_mem _ (List.mem_append_left _ hx)), Ctx.frame bs h3 fun x hx => hno x (List.mem_cons_of_mem _ (List.mem_append_right _ hx)), h4, h5⟩
theorem Bld.cur {N : Addr → Prop} {H : Hp} {b : Addr} {bs : List Addr} {fs : List (List Nd × Nat)} {cur : List Nd} (B : Bld N H b bs fs cur) : ∃ xs, H b = some (.lst xs) ∧ xs.length = cur.length ∧ N b ∧ bs.length = fs.length := by
  obtain ⟨xs, A1, A, h1, h2, h3, h4, h5⟩ := B.ex
  exact ⟨xs, h1, TrIs.len h2, h5 b (List.mem_cons_self ..), Ctx.len h3⟩
/-- a letter behind -/
theorem Bld.letter {N : Addr → Prop} {H H' : Hp} {b : Addr} {bs : List Addr} {fs : List (List Nd × Nat)} {cur : List Nd} {xs : List V} {c : Nat} (B : Bld N H b bs fs cur) (hb : H b = some (.lst xs)) (s : But b H H') (e : H' b = some (.lst (xs ++ [Tx [c]]))) : Bld N H' b bs fs (cur ++ [.let_ c]) := by
  obtain ⟨xs', A1, A, h1, h2, h3, h4, h5⟩ := B.ex
  rw [hb] at h1
  cases h1
  have bs := ButS.but hb s
  have hn := List.nodup_cons.mp h4
  have hno : ∀ x ∈ A1 ++ A, x ∉ [b] := fun x hx hc => by
    rw [List.mem_singleton] at hc
    rw [hc] at hx
    exact hn.1 hx
  have h2' := TrIs.snoc (TrIs.frame bs h2 fun x hx => hno x (List.mem_append_left _ hx)) (TrI.let_ (H := H') c)
  rw [List.append_nil] at h2'
  exact ⟨_, A1, A, e, h2', Ctx.frame bs h3 fun x hx => hno x (List.mem_append_right _ hx), h4, h5⟩
/-- a bracket closed -/
theorem Bld.close {N : Addr → Prop} {H : Hp} {b : Addr} {bs : List Addr} {fs : List (List Nd × Nat)} {cur ds0 : List Nd} {o : Nat} (B : Bld N H b bs ((ds0, o) :: fs) cur) : ∃ b0 bs0, bs = b0 :: bs0 ∧ Bld N H b0 bs0 fs (ds0 ++ [.br o cur]) := by
  obtain ⟨xs, A1, A, h1, h2, h3, h4, h5⟩ := B.ex
  cases h3 with
  | @cons _ b0 t bs0 _ A' A0 xs0 _ _ k1 k2 k3 k4 =>
    refine ⟨b0, bs0, rfl, ⟨xs0 ++ [.ref t], A0 ++ (b :: A1), A', k1, TrIs.snoc k2 (.br k3 h1 h2), k4, ?_, ?_⟩⟩
    · refine List.Perm.nodup (List.perm_iff_count.mpr fun a => ?_) h4
      simp only [List.count_cons, List.count_append]
      omega
    · intro x hx
      refine h5 x ?_
      simp only [List.mem_cons, List.mem_append] at hx ⊢
      rcases hx with rfl | ((hx | rfl | hx) | hx)
      · exact .inr (.inr (.inl rfl))
      · exact .inr (.inr (.inr (.inl hx)))
      · exact .inl rfl
      · exact .inr (.inl hx)
      · exact .inr (.inr (.inr (.inr hx)))
/-! ### what the text tells -/
def nstep (s : List (List Nd × Nat) × List Nd) (c : Nat) : List (List Nd × Nat) × List Nd :=
  if c ∈ CLO then (match s.1 with | (ds, o) :: fs => (fs, ds ++ [.br o s.2]) | [] => s) else if c ∈ OPN then ((s.2, c) :: s.1, []) else (s.1, s.2 ++ [.let_ c])
def nst (l : List Nat) : List (List Nd × Nat) × List Nd := l.foldl nstep ([], [])
theorem nst_snoc (l : List Nat) (c : Nat) : nst (l ++ [c]) = nstep (nst l) c := by
  unfold nst
  rw [List.foldl_append]
  rfl
/-- the frames are the pile -/
theorem fold_nst : ∀ (l st : List Nat) (fs : List (List Nd × Nat)) (cur : List Nd) (r : List Nat), st = fs.map (fun p => oth p.2) → l.foldl stp (some st) = some r → r = (l.foldl nstep (fs, cur)).1.map fun p => oth p.2
  | [], st, fs, cur, r, h, e => by
    cases e
    exact h
  | c :: l, st, fs, cur, r, h, e => by
    rw [List.foldl_cons] at e ⊢
    by_cases h1 : c ∈ OPN
    · have h2 : c ∉ CLO := opn_clo c h1
      rw [stp_opn h1] at e
      have en : nstep (fs, cur) c = ((cur, c) :: fs, []) := by unfold nstep; rw [if_neg h2, if_pos h1]
      rw [en]
      exact fold_nst l _ _ _ r (by rw [h]; rfl) e
    · by_cases h2 : c ∈ CLO
      · cases fs with
        | nil =>
          subst h
          have e0 : stp (some (List.map (fun p : List Nd × Nat => oth p.2) [])) c = none := by
            show stp (some []) c = none
            unfold stp
            simp only [h1, h2, if_true, if_false]
          rw [e0, fold_none] at e
          cases e
        | cons f fs =>
          obtain ⟨ds, o⟩ := f
          subst h
          by_cases hd : oth o = c
          · have e0 : stp (some (List.map (fun p : List Nd × Nat => oth p.2) ((ds, o) :: fs))) c = some (fs.map fun p => oth p.2) := by
              show stp (some (oth o :: fs.map fun p => oth p.2)) c = _
              rw [hd, stp_clo h2]
            rw [e0] at e
            have en : nstep ((ds, o) :: fs, cur) c = (fs, ds ++ [.br o cur]) := by unfold nstep; rw [if_pos h2]
            rw [en]
            exact fold_nst l _ _ _ r rfl e
          · have e0 : stp (some (List.map (fun p : List Nd × Nat => oth p.2) ((ds, o) :: fs))) c = none := by
              show stp (some (oth o :: fs.map fun p => oth p.2)) c = none
              unfold stp
              simp only [h1, h2, hd, if_true, if_false]
            rw [e0, fold_none] at e
            cases e
      · rw [stp_let h1 h2] at e
        have en : nstep (fs, cur) c = (fs, cur ++ [.let_ c]) := by unfold nstep; rw [if_neg h2, if_neg h1]
        rw [en]
        exact fold_nst l _ _ _ r h e
theorem nst_run {l st : List Nat} (h : run l = some st) : st = (nst l).1.map fun p => oth p.2 := fold_nst l [] [] [] st rfl h
/-- a closing bracket in a clean text closes one -/
theorem nst_clo {l pre post : List Nat} {c : Nat} (h : clean l) (e : l = pre ++ c :: post) (hc : c ∈ CLO) : ∃ ds o fs, (nst pre).1 = (ds, o) :: fs ∧ oth o = c := by
  have h1 : c ∉ OPN := fun h1 => opn_clo c h1 hc
  have h' : run (pre ++ c :: post) = some [] := by rw [← e]; exact h
  rw [run_app, List.foldl_cons] at h'
  cases hr : run pre with
  | none =>
    rw [hr] at h'
    have : stp none c = none := rfl
    rw [this, fold_none] at h'
    cases h'
  | some st =>
    have hst := nst_run hr
    rw [hr] at h'
    cases hf : (nst pre).1 with
    | nil =>
      rw [hf] at hst
      subst hst
      have e0 : stp (some (List.map (fun p : List Nd × Nat => oth p.2) [])) c = none := by
        show stp (some []) c = none
        unfold stp
        simp only [h1, hc, if_true, if_false]
      rw [e0, fold_none] at h'
      cases h'
    | cons f fs =>
      obtain ⟨ds, o⟩ := f
      rw [hf] at hst
      refine ⟨ds, o, fs, rfl, ?_⟩
      by_cases hd : oth o = c
      · exact hd
      · exfalso
        subst hst
        have e0 : stp (some (List.map (fun p : List Nd × Nat => oth p.2) ((ds, o) :: fs))) c = none := by
          show stp (some (oth o :: fs.map fun p => oth p.2)) c = none
          unfold stp
          simp only [h1, hc, hd, if_true, if_false]
        rw [e0, fold_none] at h'
        cases h'
end Ly
namespace Ly
end Ly
namespace Ly
end Ly

set_option maxHeartbeats 4000000
namespace Ly
open PySem PySem.Spec PyProof.Rows L2 SX
/-! ### == and != of deep data -/
theorem Room.wide {k : Nat} {A : Around} (r : Room k A) : A.units + 190 < cLine := by have := r.un; omega
section
variable {X : Cx}
end
/-! nests as data -/
end Ly
namespace Ly
open PySem PySem.Spec PyProof.Rows L2 SX
end Ly
namespace Ly
open PySem PySem.Spec PyProof.Rows L2 SX
end Ly
namespace Ly
end Ly

set_option maxHeartbeats 4000000
namespace Ly
open PySem PySem.Spec PyProof.Rows L2 SX
/-! ### more steps -/
theorem kb_str_str : kitB "str" "str" = some true := by decide +kernel
theorem kb_str_int : kitB "str" "int" = some false := by decide +kernel
theorem kb_str_bool : kitB "str" "bool" = some false := by decide +kernel
theorem kb_str_list : kitB "str" "list" = some false := by decide +kernel
theorem kb_str_tuple : kitB "str" "tuple" = some false := by decide +kernel
theorem kb_int_str : kitB "int" "str" = some false := by decide +kernel
theorem kb_int_int : kitB "int" "int" = some true := by decide +kernel
theorem kb_int_bool : kitB "int" "bool" = some false := by decide +kernel
theorem kb_int_list : kitB "int" "list" = some false := by decide +kernel
theorem kb_int_tuple : kitB "int" "tuple" = some false := by decide +kernel
theorem kb_bool_str : kitB "bool" "str" = some false := by decide +kernel
theorem kb_bool_int : kitB "bool" "int" = some true := by decide +kernel
theorem kb_bool_bool : kitB "bool" "bool" = some true := by decide +kernel
theorem kb_bool_list : kitB "bool" "list" = some false := by decide +kernel
theorem kb_bool_tuple : kitB "bool" "tuple" = some false := by decide +kernel
theorem kb_list_str : kitB "list" "str" = some false := by decide +kernel
theorem kb_list_int : kitB "list" "int" = some false := by decide +kernel
theorem kb_list_bool : kitB "list" "bool" = some false := by decide +kernel
theorem kb_list_list : kitB "list" "list" = some true := by decide +kernel
theorem kb_list_tuple : kitB "list" "tuple" = some false := by decide +kernel
theorem kb_tuple_str : kitB "tuple" "str" = some false := by decide +kernel
theorem kb_tuple_int : kitB "tuple" "int" = some false := by decide +kernel
theorem kb_tuple_bool : kitB "tuple" "bool" = some false := by decide +kernel
theorem kb_tuple_list : kitB "tuple" "list" = some false := by decide +kernel
theorem kb_tuple_tuple : kitB "tuple" "tuple" = some true := by decide +kernel
theorem kb_NoneType_str : kitB "NoneType" "str" = some false := by decide +kernel
theorem kb_NoneType_int : kitB "NoneType" "int" = some false := by decide +kernel
theorem kb_NoneType_bool : kitB "NoneType" "bool" = some false := by decide +kernel
theorem kb_NoneType_list : kitB "NoneType" "list" = some false := by decide +kernel
theorem kb_NoneType_tuple : kitB "NoneType" "tuple" = some false := by decide +kernel
theorem kb_dict_str : kitB "dict" "str" = some false := by decide +kernel
theorem kb_dict_int : kitB "dict" "int" = some false := by decide +kernel
theorem kb_dict_bool : kitB "dict" "bool" = some false := by decide +kernel
theorem kb_dict_list : kitB "dict" "list" = some false := by decide +kernel
theorem kb_dict_tuple : kitB "dict" "tuple" = some false := by decide +kernel
section
variable {K : PySem.W.Frag} {σ : L2.St} {H : Hp} {Q : VK} {A B : Prop} {p a : Addr} {xs : List V} {v : V} {i : Int}
theorem g_T (q : A) : ∃ k, V.bl true = V.bl k ∧ if k = true then A else B := ⟨true, rfl, by rw [if_pos rfl]; exact q⟩
theorem g_F (q : B) : ∃ k, V.bl false = V.bl k ∧ if k = true then A else B := ⟨false, rfl, by rw [if_neg Bool.false_ne_true]; exact q⟩
theorem g_NT (q : B) : ∃ k, V.bl true = V.bl k ∧ if (!k) = true then A else B := ⟨true, rfl, q⟩
theorem g_NF (q : A) : ∃ k, V.bl false = V.bl k ∧ if (!k) = true then A else B := ⟨false, rfl, q⟩
theorem g_nT (q : A) : ∃ k, V.bl (!true) = V.bl k ∧ if k = true then B else A := ⟨false, rfl, q⟩
theorem g_nF (q : B) : ∃ k, V.bl (!false) = V.bl k ∧ if k = true then B else A := ⟨true, rfl, q⟩
theorem g_Td {c : Prop} [Decidable c] (h : c) (q : A) : ∃ k, V.bl (decide c) = V.bl k ∧ if k = true then A else B := by rw [decide_eq_true h]; exact g_T q
theorem g_Fd {c : Prop} [Decidable c] (h : ¬ c) (q : B) : ∃ k, V.bl (decide c) = V.bl k ∧ if k = true then A else B := by rw [decide_eq_false h]; exact g_F q
theorem g_NTd {c : Prop} [Decidable c] (h : c) (q : B) : ∃ k, V.bl (decide c) = V.bl k ∧ if (!k) = true then A else B := by rw [decide_eq_true h]; exact g_NT q
theorem g_NFd {c : Prop} [Decidable c] (h : ¬ c) (q : A) : ∃ k, V.bl (decide c) = V.bl k ∧ if (!k) = true then A else B := by rw [decide_eq_false h]; exact g_NF q
theorem g_nTd {c : Prop} [Decidable c] (h : c) (q : B) : ∃ k, V.bl (!decide c) = V.bl k ∧ if k = true then A else B := by rw [decide_eq_true h]; exact g_F q
theorem g_nFd {c : Prop} [Decidable c] (h : ¬ c) (q : A) : ∃ k, V.bl (!decide c) = V.bl k ∧ if k = true then A else B := by rw [decide_eq_false h]; exact g_T q
/-- a test that is told as a truth R of its answer -/
theorem g_RT {R : Bool → Hp → Prop} (q : R true H) : ∃ k, V.bl true = V.bl k ∧ R k H := ⟨_, rfl, q⟩
theorem g_RF {R : Bool → Hp → Prop} (q : R false H) : ∃ k, V.bl false = V.bl k ∧ R k H := ⟨_, rfl, q⟩
theorem g_RTd {c : Prop} [Decidable c] {R : Bool → Hp → Prop} (h : c) (q : R true H) : ∃ k, V.bl (decide c) = V.bl k ∧ R k H := ⟨_, rfl, by rw [decide_eq_true h]; exact q⟩
theorem g_RFd {c : Prop} [Decidable c] {R : Bool → Hp → Prop} (h : ¬ c) (q : R false H) : ∃ k, V.bl (decide c) = V.bl k ∧ R k H := ⟨_, rfl, by rw [decide_eq_false h]; exact q⟩
theorem g_eqS {x : V} (h : scal x x = true) (q : Q (.bl true) H) : rEq x x H Q := ⟨h, by rw [decide_eq_true rfl]; exact q⟩
theorem g_neS {x : V} (h : scal x x = true) (q : Q (.bl false) H) : rNe x x H Q := ⟨h, by rw [decide_eq_true rfl]; exact q⟩
theorem g_ixAU3 (h : H p = some (.tup xs)) (h1 : atI xs i = some v) (q : Q v H) : rIx K (.ref p) (.int i) H Q := .inr (.inl (g_ixU (st_of h) h1 q))
theorem g_ixAL3 (h : H p = some (.lst xs)) (h1 : atI xs i = some v) (q : Q v H) : rIx K (.ref p) (.int i) H Q := .inl (g_ixL (sq_of h) h1 q)
theorem g_ixU3 (h : H p = some (.tup xs)) (h1 : atI xs i = some v) (q : Q v H) : rIxT K (.ref p) (.int i) H Q := g_ixU (st_of h) h1 q
theorem g_lenL3 (h : H p = some (.lst xs)) (q : Q (.int xs.length) H) : rLenL K [.ref p] H Q := g_lenL (sq_of h) q
theorem g_lenU3 (h : H p = some (.tup xs)) (q : Q (.int xs.length) H) : rLenL K [.ref p] H Q := g_lenU (st_of h) q
theorem ty_non : TyX K H .non (.type "NoneType") := .base .non
theorem g_tyL3 (h : H p = some (.lst xs)) (q : A) : tyV K "list" (.ref p) H ∧ A := ⟨g_tyL (sq_of h), q⟩
end
end Ly

set_option maxHeartbeats 4000000
namespace Ly
open PySem PySem.Spec PyProof.Rows L2 SX
/-! ### outlines -/
theorem Bld.closes {N : Addr → Prop} {H : Hp} {l : List Nat} (hc : clean l) : ∀ (cl pre post : List Nat) (b : Addr) (bs : List Addr), l = pre ++ (cl ++ post) → (∀ d ∈ cl, d ∈ CLO) → Bld N H b bs (nst pre).1 (nst pre).2 →
    ∃ b' bs', (b :: bs).drop cl.length = b' :: bs' ∧ Bld N H b' bs' (nst (pre ++ cl)).1 (nst (pre ++ cl)).2
  | [], pre, post, b, bs, e, h, B => ⟨b, bs, rfl, by rw [List.append_nil]; exact B⟩
  | c :: cl, pre, post, b, bs, e, h, B => by
    have hk := h c (List.mem_cons_self ..)
    obtain ⟨ds, o, fs, hf, _⟩ := nst_clo (post := cl ++ post) hc e hk
    rw [hf] at B
    obtain ⟨b0, bs0, rfl, B0⟩ := B.close
    have en : nst (pre ++ [c]) = (fs, ds ++ [.br o (nst pre).2]) := by
      rw [nst_snoc]
      unfold nstep
      rw [if_pos hk, hf]
    obtain ⟨b', bs', h1, h2⟩ := Bld.closes hc cl (pre ++ [c]) post b0 bs0 (by rw [e]; simp) (fun d hd => h d (List.mem_cons_of_mem _ hd)) (by rw [en]; exact B0)
    refine ⟨b', bs', by simpa using h1, ?_⟩
    rw [show pre ++ c :: cl = pre ++ [c] ++ cl by simp]
    exact h2
/-! ### text.split(sign) -/
section
variable {X : Cx}
end
theorem cut_to {xs : List V} {n : Nat} : cutV xs none (some (n : Int)) = xs.take n := by
  unfold cutV
  rw [HT.sIx_none, HT.sIx_nat, List.drop_zero, Nat.sub_zero]
  rcases Nat.le_total n xs.length with h | h
  · rw [Nat.min_eq_left h]
  · rw [Nat.min_eq_right h, List.take_length, List.take_of_length_le h]
theorem cut_from {xs : List V} {n : Nat} : cutV xs (some (n : Int)) none = xs.drop n := by
  unfold cutV
  rw [HT.sIx_none, HT.sIx_nat]
  rcases Nat.le_total n xs.length with h | h
  · rw [Nat.min_eq_left h]
    exact List.take_of_length_le (by rw [List.length_drop]; omega)
  · rw [Nat.min_eq_right h, List.drop_length, List.drop_of_length_le h]
    simp
end Ly

set_option maxHeartbeats 4000000
namespace Ly
open PySem PySem.Spec PyProof.Rows L2 SX
/-! ### sorted(text) -/
section
variable {prog : Program} {w : World} {A : Around} {E : Value → Shared → Prop} {s : Shared}
theorem collect_signs {Q : List Value → Shared → Prop} (hh : A.handled = none) (x : Str) (t : Tok) (hn : x.cps.size ≤ sizeLine)
    (hQ : ∀ (h' : Heap) (tk : Nat) (acc : Array Value), (∀ b o, s.heap.get? b = some o → h'.get? b = some o) → s.heap.objs.size ≤ h'.objs.size → ItemsOf (SignAt x) acc x.cps.size → Q acc.toList { s with heap := h', toks := tk }) :
    wpAny (model prog w) A (collect (.str x t)) Q E s := by
  unfold collect
  refine wpAny_bind (wpAny_runValue (codeAny_builtin F.entry_proto_collect ?_))
  rw [Around.under_plainId F.plain_proto_collect _]
  show wpAny _ A.in1 (newList [] >>= fun l => again (.builtin "list.__iadd__" ⟨[l, .str x t], []⟩)) _ _ s
  refine wpAny_bind (wpAny_newObj_type ?_)
  refine wpAny_pure ⟨plainId_quiet F.plain_list_iadd _, codeAny_builtin F.entry_list_iadd ?_⟩
  rw [Around.under_plainId F.plain_list_iadd _]
  show wpAny _ A.in1 (Builtin.List.listExtendWith (.ref s.heap.objs.size) (.str x t) (.ref s.heap.objs.size)) _ _ _
  have hS : (s.heap.push { cls := .type "list", data := .seq ([] : List Value).toArray }).get? s.heap.objs.size = some { cls := .type "list", data := .seq #[] 0 } := Heap.get?_push_size _ rfl
  refine wpAny_mono (wpAny_extend_str (A := A) (R := fun rr s' => rr = .ok (.ret (.ref s.heap.objs.size)) ∧ ∃ (h' : Heap) (tk : Nat) (acc : Array Value) (c' : Nat), s' = { s with heap := h', toks := tk } ∧
      (∀ b o, s.heap.get? b = some o → h'.get? b = some o) ∧ h'.get? s.heap.objs.size = some { cls := .type "list", dict := none, data := .seq acc c', slots := #[] } ∧ ItemsOf (SignAt x) acc x.cps.size)
    (s := { s with heap := s.heap.push { cls := .type "list", data := .seq ([] : List Value).toArray } }) hh x t _ _ 0 hS
    (fun h' tk acc c' hk e hi => ⟨rfl, h', tk, acc, c', rfl, fun b o q => hk b o (Nat.ne_of_lt (Heap.lt_size q)) (Heap.get?_push_of_some _ q), e, hi⟩) hn) (fun fin s' h => ?_) (fun e s' h => ?_)
  · cases fin with
    | done f =>
      obtain ⟨e, h', tk, acc, c', rfl, hk, hS', hi⟩ := h
      cases e
      show wpAny _ A (load s.heap.objs.size >>= _) _ _ _
      exact wpAny_bind (wpAny_load hS' (wpAny_pure (hQ h' tk acc hk (Nat.le_of_lt (Heap.lt_size hS')) hi)))
    | again c' =>
      refine ⟨h.1, codeAny_mono h.2 fun rr s'' hr' => ?_⟩
      obtain ⟨rfl, h', tk, acc, c', rfl, hk, hS', hi⟩ := hr'
      show wpAny _ A (load s.heap.objs.size >>= _) _ _ _
      exact wpAny_bind (wpAny_load hS' (wpAny_pure (hQ h' tk acc hk (Nat.le_of_lt (Heap.lt_size hS')) hi)))
  · exact absurd h.1 (by simp)
theorem sorted_signs {Q : Value → Shared → Prop} (hh : A.handled = none) (x : Str) (t : Tok) (hn : x.cps.size ≤ sizeLine)
    (h : ∀ (h' : Heap) (tk : Nat) (a : Addr) (acc out : Array Value) (e : Nat), (∀ b o, s.heap.get? b = some o → h'.get? b = some o) → s.heap.objs.size ≤ a → ItemsOf (SignAt x) acc x.cps.size → (∃ ss ss', StrsAre acc.toList ss ∧ StrsAre out.toList ss' ∧ ss'.Perm ss) → h'.get? a = some (seqObj "list" out e) → Q (.ref a) { s with heap := h', toks := tk }) :
    wpAny (model prog w) A (call (.builtin "sorted") [.str x t]) Q E s := by
  refine Calls.call_function_entry kind_sorted plain_sorted entry_sorted (args_sorted1 _) ?_
  unfold Builtin.«sorted»
  refine wpAny_bind (m := checkCount "sorted" 1 1 _) (wpAny_pure ?_)
  refine wpAny_bind (collect_signs (by exact hh) x t hn fun h1 tk acc hk hlt hi => ?_)
  have hL : acc.toList.length ≤ sizeLine := by rw [Array.length_toList, hi.1]; exact hn
  refine wpAny_bind (wpAny_newList ?_ hL)
  have hoL : (h1.push (seqObj "list" acc.toList.toArray 0)).get? h1.objs.size = some (seqObj "list" acc.toList.toArray 0) := Heap.get?_push_size _ rfl
  have hall : ∀ v, v ∈ acc.toList → ∃ x t, v = .str x t := by
    intro v hv
    obtain ⟨j, hj⟩ := List.getElem?_of_mem hv
    obtain ⟨c, u, e1, e2⟩ := hi.2 j v (by simpa using hj)
    exact ⟨_, _, e2⟩
  have hS := strsAre_map acc.toList hall
  refine wpAny_bind (wpAny_holding (wpAny_call_entry slot_list_sort ⟨_, hoL, rfl⟩ entry_list_sort (list_sort_treeKAny strKind_oneLt hoL hS.keysOf (fun v₁ v₂ rest e => keyKind_strs (by rw [← e]; exact hS)) hL fun st' hp hs => ⟨_, rfl, ?_⟩) (args_list_sort _)))
  obtain ⟨ss', h1', h2', h3'⟩ := sorted_out_str hS hp hs
  obtain ⟨e, he⟩ := sortedHeap_at (vs := acc.toList) (out := (arrOf st').map (·.2)) hoL
  refine wpAny_pure ⟨_, rfl, h _ tk h1.objs.size acc _ e (fun b o q => ?_) hlt hi ⟨_, ss', hS, h1', h2'⟩ he⟩
  rw [sortedHeap_old (Nat.ne_of_lt (Heap.lt_size (hk b o q))) (by rw [size_push']; exact Nat.lt_succ_of_lt (Heap.lt_size (hk b o q))), Heap.get?_push_of_some _ (hk b o q)]
end
section
variable {X : Cx}
def rSortedT : List V → Hp → VK → Prop := fun xs H Q => ∃ l : List Nat, xs = [Tx l] ∧ l.length ≤ 100000 ∧ ∀ (l' : List Nat) (p : Addr) (H1 : Hp), l'.Perm l → H p = none → Same H H1 → H1 p = some (.lst (sgV l')) → Q (.ref p) H1
theorem sgV_str (l : List Nat) : sgV l = (l.map fun c => S [c]).map V.str := by
  unfold sgV
  rw [List.map_map]
  rfl
theorem call_sortedT (hc : X.calm = true) : CallR X (.builtin "sorted") rSortedT := by
  intro pins s σ H xs us Q I r h
  obtain ⟨l, rfl, hl, q⟩ := h
  obtain ⟨u, rfl, t, rfl⟩ := vals1 r
  have hs : (S l).cps.size ≤ sizeLine := by
    have e : (S l).cps.size = l.length := by simp
    rw [e]
    exact Nat.le_trans hl (by decide)
  refine sorted_signs (I.ok.hd hc) (S l) t hs fun h' tk a acc out e hk hle hi hss he => ?_
  obtain ⟨ss, ss', h1, h2, h3⟩ := hss
  have hv := vals_signs hi
  rw [sgV_str] at hv
  have e1 : ss = l.map fun c => S [c] := by
    rw [← StrsAre.strs h1, ← StrsAre.strs hv.strs]
  subst e1
  have e2 : ss' = (ss'.map fun z => z.cps.toList.headD 0).map fun c => S [c] := by
    rw [List.map_map]
    refine (List.map_id' ss').symm.trans (List.map_congr_left fun z hz => ?_)
    obtain ⟨c, _, rfl⟩ := List.mem_map.mp (h3.mem_iff.mp hz)
    rfl
  have h4 : (ss'.map fun z => z.cps.toList.headD 0).Perm l := by
    have := h3.map fun z => z.cps.toList.headD 0
    rw [List.map_map] at this
    refine this.trans (List.Perm.of_eq ?_)
    refine (List.map_congr_left (g := id) fun c hc => rfl).trans (List.map_id l)
  have hvo := vals_of_strs h2
  rw [e2, ← sgV_str] at hvo
  refine ⟨.ref a, upd H a (.lst (sgV (ss'.map fun z => z.cps.toList.headD 0))), I.laid (t' := tk) hk hle (show ObjOk X.prog X.w _ h' _ (.lst (sgV _)) from ⟨?_, out.toList, e, hvo, by simpa using he⟩), rfl, q _ a _ h4 (I.hok.fresh hle) (Same.new (I.hok.fresh hle)) upd_same⟩
  unfold sgV
  rw [List.length_map, h4.length_eq]
  exact Nat.le_trans hl (by decide)
theorem g_sortedT {l : List Nat} {H : Hp} {Q : VK} (h : l.length ≤ 100000) (q : ∀ (l' : List Nat) (p : Addr) (H1 : Hp), l'.Perm l → H p = none → Same H H1 → H1 p = some (.lst (sgV l')) → Q (.ref p) H1) : rSortedT [Tx l] H Q := ⟨l, rfl, h, q⟩
end
end Ly

set_option maxHeartbeats 4000000
namespace Ly
open PySem PySem.Spec PyProof.Rows L2 SX
/-! ### text[::-1] -/
section
variable {X : Cx}
def rRevT (x : V) (H : Hp) (Q : VK) : Prop := ∃ l : List Nat, x = Tx l ∧ l.length ≤ 100000 ∧ Q (Tx l.reverse) H
def tRevS (te : TE) : TE := fun σ H Q => te σ H fun x H1 => rRevT x H1 Q
theorem g_revT {l : List Nat} {H : Hp} {Q : VK} (h : l.length ≤ 100000) (q : Q (Tx l.reverse) H) : rRevT (Tx l) H Q := ⟨l, rfl, h, q⟩
theorem rev_pick (l : List Nat) : (⟨((Builtin.Str.strSliceIndices none none (-1) (S l).length).filterMap ((S l).cps[·]?)).toArray⟩ : Str) = S l.reverse := by
  rw [S_len, picked_rev]
  have h1 : (List.range l.length).map (fun k => l.length - 1 - k) = (List.range l.length).reverse := by
    refine List.ext_getElem? fun i => ?_
    by_cases hi : i < l.length
    · rw [List.getElem?_map, List.getElem?_range hi, List.getElem?_reverse (by simpa using hi), List.length_range, List.getElem?_range (by omega)]
      rfl
    · rw [List.getElem?_eq_none (by simpa using hi), List.getElem?_eq_none (by simpa using hi)]
  have h2 : (List.range l.length).filterMap (fun i => (S l).cps[i]?) = l := by
    have : ∀ n, n ≤ l.length → (List.range n).filterMap (fun i => (S l).cps[i]?) = l.take n := by
      intro n
      induction n with
      | zero => intro _; rfl
      | succ n ih =>
        intro hn
        rw [List.range_succ, List.filterMap_append, ih (by omega), List.take_succ_eq_append_getElem (by omega)]
        have e : (S l).cps[n]? = some l[n] := by simp [show n < l.length by omega]
        rw [List.filterMap_cons, e]
        rfl
    rw [this l.length (Nat.le_refl _), List.take_length]
  rw [h1, List.filterMap_reverse, h2]
theorem pe_revS {e : Expr} {te : TE} {k : Nat} {p1 p2 p3 pos : Pos} (he : PE X e te) : PE X (.Subscript e (.Slice none none (some (.UnaryOp .USub (.Constant (.int 1) k p1) p2)) p3) pos) (tRevS te) := by
  refine ⟨fun pins s σ H Q I h => ?_⟩
  refine Subscript_ (thn (he.run pins s σ H _ I h) fun v s1 ⟨x, H1, I1, r1, q1⟩ => ?_)
  obtain ⟨l, ex, hx, q⟩ := q1
  subst ex
  obtain ⟨t, rfl⟩ := r1
  have hst : PO X (some (.UnaryOp .USub (.Constant (.int 1) k p1) p2)) (tPart (tUn (rU fun i => .int (-i)) (tC (.int 1)))) := po_some (pe_un un_neg pe_int)
  refine wpAny_Slice (thn (po_none.run pins s1 σ H1 (fun o H2 => o = none ∧ H2 = H1) I1 ⟨rfl, rfl⟩) fun vl s2 ⟨l1, H2, I2, pl, el, e2⟩ => ?_)
  subst el e2
  refine thn (po_none.run pins s2 σ H2 (fun o H3 => o = none ∧ H3 = H2) I2 ⟨rfl, rfl⟩) fun vu s3 ⟨u, H3, I3, pu, eu, e3⟩ => ?_
  subst eu e3
  refine thn (hst.run pins s3 σ H3 (fun o H4 => o = some (-1) ∧ H4 = H3) I3 ⟨1, rfl, -1, rfl, rfl, rfl⟩) fun vs s4 ⟨o, H4, I4, ps, eo, e4⟩ => ?_
  subst eo e4
  have I5 : Inv X pins σ H4 { s4 with heap := s4.heap.push { cls := .type "slice", data := .fields #[vl, vu, vs] } } := I4.kept (t' := s4.toks) fun b ob q => Heap.get?_push_of_some _ q
  obtain ⟨a1, rfl, ea1⟩ := IsPart.raw pl
  obtain ⟨a2, rfl, ea2⟩ := IsPart.raw pu
  obtain ⟨a3, rfl, ea3⟩ := IsPart.raw ps
  show wpAny (model X.prog X.w) X.A (subscriptTail e (.Slice none none (some (.UnaryOp .USub (.Constant (.int 1) k p1) p2)) p3) (.str (S l) t) (.ref s4.heap.objs.size)) (EP X pins σ Q) X.xe { s4 with heap := s4.heap.push { cls := .type "slice", data := .fields #[partValue a1, partValue a2, partValue a3] } }
  refine tail_any (ops := [.str (S l) t, .ref s4.heap.objs.size]) (typeIs_str _ _ _) (F.slot_str_getitem.lookup) ?_ (by with_unfolding_all rfl)
  refine wpAny_getItem_str_slice (l := a1) (u := a2) (st := a3) ⟨_, Heap.get?_push_size _ rfl, rfl, rfl⟩ ?_ ?_
  · rw [ea3]; rfl
  unfold sliceMade slicePicked
  rw [ea1, ea2, ea3]
  have e1 : ((some (-1) : Option Int).getD 1 == 1) = false := rfl
  rw [e1, Bool.false_and, if_neg Bool.false_ne_true]
  show Made.post (Made.str ⟨((Builtin.Str.strSliceIndices none none (-1) (S l).length).filterMap ((S l).cps[·]?)).toArray⟩) (EP X pins σ Q) _
  rw [rev_pick]
  refine ⟨?_, Tx l.reverse, H4, I5.tok _, ⟨_, rfl⟩, q⟩
  show (S l.reverse).length ≤ sizeLine
  rw [S_len, List.length_reverse]
  exact Nat.le_trans hx (by decide)
/-- a[b] where a wants a token -/
theorem pet_ix {a b : Expr} {ta tb : TE} {pos : Pos} {r : R2} (hr : IxR X r) (ha : PET X a ta) (hb : PE X b tb) (hs : PlainIx b) : PET X (.Subscript a b pos) (tOp r ta tb) := by
  intro pins s σ H Q h0 I h
  exact Subscript_ (thn (ha pins s σ H _ h0 I h) fun v s1 ⟨x, H1, I1, r1, q1⟩ => thn (hb.run pins s1 σ H1 _ I1 q1) fun u s2 ⟨y, H2, I2, r2, q2⟩ => hr a b pins s2 σ H2 x y v u Q I2 r1 r2 q2 (hs _ _))
def rReplT (y z : List Nat) (x : V) (H : Hp) (Q : VK) : Prop := ∃ l : List Nat, x = Tx l ∧ l.length ≤ 1000 ∧ z.length ≤ 10 ∧ Q (.str (Txt.replace (S l) (S y) (S z))) H
def tReplT (to : TE) (y z : List Nat) : TE := fun σ H Q => to σ H fun v H1 => rReplT y z v H1 Q
theorem pet_replL {o : Expr} {to : TE} {j k : Nat} {c0 c1 apos pos : Pos} {y z : Str} {ly lz : List Nat} (ey : y = S ly) (ez : z = S lz) (ho : PE X o to) (hyz : (y == z) = false)
    (hst : starEach [.Constant (.str y) j c0, .Constant (.str z) k c1] X.env = [(false, eval (.Constant (.str y) j c0) X.env), (false, eval (.Constant (.str z) k c1) X.env)] := by rfl)
    (hbase : attributeBase o "replace" X.env (eval o X.env) = eval o X.env := by rfl) (hline : (apos.endLine == pos.line) = true := by rfl) :
    PET X (.Call (.Attribute o "replace" apos) [.Constant (.str y) j c0, .Constant (.str z) k c1] [] pos) (tReplT to ly lz) := by
  subst ey ez
  intro pins s σ H Q h0 I h
  refine PySem.Call_method2 hbase hst hline (wpAny_mono (PySem.wpAny_toks (ho.run pins s σ H _ I h)) (fun v s1 q => ?_) fun _ _ z => z.2)
  obtain ⟨hk, v', H1, I1, r1, l, e1, hb1, hb2, q⟩ := q
  subst e1
  obtain ⟨tx, e2⟩ := r1
  subst e2
  refine ⟨"str", _, PySem.F.plainAttrs_str, PySem.F.slot_str_replace, PySem.F.type_str_replace, typeIs_str _ _ _, (fun _ e => nomatch e), Calls.callWith_builtin rfl (Calls.evalArgs_plain (Calls.spliced_cons ?_))⟩
  refine Calls.Constant_str (Calls.spliced_cons (Calls.Constant_str (Calls.spliced_nil ?_)))
  have hb : (S l).length + ((S l).length + 1) * (S lz).length ≤ 16777216 := by
    rw [S_len, S_len]
    have : (l.length + 1) * lz.length ≤ 1001 * 10 := Nat.mul_le_mul (by omega) hb2
    omega
  exact PySem.SC.replace (by show s1.toks ≠ 0; omega) (by show s1.toks + 1 ≠ 0; omega) (by show s1.toks ≠ s1.toks + 1; omega) hyz hb fun t' k => ⟨.str (Txt.replace (S l) (S ly) (S lz)), H1, I1.tok k, ⟨t', rfl⟩, q⟩
end
end Ly
namespace Ly
open PySem PySem.Spec PyProof.Rows L2 SX PySem.StrLaws
theorem replL_one {a b : Nat} : ∀ l : List Nat, replL [a] [b] l = l.map fun c => if c = a then b else c
  | [] => replL_nil
  | c :: r => by
    by_cases h : c = a
    · rw [replL_hit (by simp) (by simp [h]), List.map_cons, if_pos h]
      show [b] ++ replL [a] [b] r = _
      rw [replL_one r]
      rfl
    · rw [replL_miss (by simpa using h), replL_one r, List.map_cons, if_neg h]
theorem replace_one {a b : Nat} {l : List Nat} : Txt.replace (S l) (S [a]) (S [b]) = S (l.map fun c => if c = a then b else c) := by
  refine TL.ext_tl ?_
  have e := replace_list (x := S l) (y := S [a]) (z := S [b]) (by rw [S_len]; exact Nat.le_refl 1)
  exact e.trans (replL_one l)
end Ly

set_option maxHeartbeats 4000000
namespace Ly
/-! ### least numbers of deeds: strikes and turns -/
/-- how many of two brackets are to be turned -/
def tns (c d : Nat) : Nat := if c ∈ CLO ∨ d ∈ OPN then (if c ∈ CLO then 1 else 0) + (if d ∈ OPN then 1 else 0) else if knd c = knd d then 0 else 1
inductive Mn (l : List Nat) : Nat → Nat → Nat → Prop
  | nil (i : Nat) : Mn l i i 0
  | let_ {i j n c : Nat} : l[i]? = some c → c ∉ BRK → Mn l (i + 1) j n → Mn l i j n
  | str {i j n c : Nat} : l[i]? = some c → c ∈ BRK → Mn l (i + 1) j n → Mn l i j (n + 1)
  | pair {i m j a b c d : Nat} : l[i]? = some c → c ∈ BRK → l[m]? = some d → d ∈ BRK → Mn l (i + 1) m a → Mn l (m + 1) j b → Mn l i j (tns c d + a + b)
theorem Mn.le {l : List Nat} {i j n : Nat} (h : Mn l i j n) : i ≤ j := by
  induction h with
  | nil i => exact Nat.le_refl _
  | let_ _ _ _ ih => omega
  | str _ _ _ ih => omega
  | pair _ _ _ _ _ _ ih1 ih2 => omega
theorem Mn.self {l : List Nat} {i n : Nat} (h : Mn l i i n) : n = 0 := by
  cases h with
  | nil => rfl
  | let_ _ _ h => have := h.le; omega
  | str _ _ h => have := h.le; omega
  | pair _ _ _ _ h1 h2 => have := h1.le; have := h2.le; omega
theorem Mn.app {l : List Nat} {i m j a b : Nat} (h : Mn l i m a) (h2 : Mn l m j b) : Mn l i j (a + b) := by
  induction h with
  | nil i => rw [Nat.zero_add]; exact h2
  | let_ e1 e2 _ ih => exact .let_ e1 e2 (ih h2)
  | @str i j n c e1 e2 _ ih =>
    rw [show n + 1 + b = n + b + 1 by omega]
    exact .str e1 e2 (ih h2)
  | @pair i m j a b' c d e1 e2 e3 e4 h3 _ _ ih =>
    rw [Nat.add_assoc]
    exact .pair e1 e2 e3 e4 h3 (ih h2)
theorem Mn.one_let {l : List Nat} {i c : Nat} (e : l[i]? = some c) (h : c ∉ BRK) : Mn l i (i + 1) 0 := .let_ e h (.nil _)
theorem Mn.one_str {l : List Nat} {i c : Nat} (e : l[i]? = some c) (h : c ∈ BRK) : Mn l i (i + 1) 1 := .str e h (.nil _)
theorem Mn.last {l : List Nat} {i j n : Nat} (h : Mn l i j n) : i < j → ∃ c, l[j - 1]? = some c ∧ ((c ∉ BRK ∧ Mn l i (j - 1) n) ∨ (c ∈ BRK ∧ ((∃ n', n = n' + 1 ∧ Mn l i (j - 1) n') ∨ ∃ m d a b, i ≤ m ∧ m < j - 1 ∧ l[m]? = some d ∧ d ∈ BRK ∧ Mn l i m a ∧ Mn l (m + 1) (j - 1) b ∧ n = tns d c + a + b))) := by
  induction h with
  | nil i => intro h; omega
  | @let_ i j n c e1 e2 h ih =>
    intro hij
    by_cases hj : i + 1 = j
    · subst hj
      have := h.self
      subst this
      exact ⟨c, by simpa using e1, .inl ⟨e2, .nil _⟩⟩
    · obtain ⟨c', h1, h2⟩ := ih (by have := h.le; omega)
      refine ⟨c', h1, ?_⟩
      rcases h2 with ⟨h2, h3⟩ | ⟨h2, ⟨n', rfl, h3⟩ | ⟨m, d, a, b, g1, g2, g3, g4, g5, g6, rfl⟩⟩
      · exact .inl ⟨h2, .let_ e1 e2 h3⟩
      · exact .inr ⟨h2, .inl ⟨n', rfl, .let_ e1 e2 h3⟩⟩
      · exact .inr ⟨h2, .inr ⟨m, d, a, b, by omega, g2, g3, g4, .let_ e1 e2 g5, g6, rfl⟩⟩
  | @str i j n c e1 e2 h ih =>
    intro hij
    by_cases hj : i + 1 = j
    · subst hj
      have := h.self
      subst this
      exact ⟨c, by simpa using e1, .inr ⟨e2, .inl ⟨0, rfl, .nil _⟩⟩⟩
    · obtain ⟨c', h1, h2⟩ := ih (by have := h.le; omega)
      refine ⟨c', h1, ?_⟩
      rcases h2 with ⟨h2, h3⟩ | ⟨h2, ⟨n', rfl, h3⟩ | ⟨m, d, a, b, g1, g2, g3, g4, g5, g6, rfl⟩⟩
      · exact .inl ⟨h2, .str e1 e2 h3⟩
      · exact .inr ⟨h2, .inl ⟨n' + 1, rfl, .str e1 e2 h3⟩⟩
      · exact .inr ⟨h2, .inr ⟨m, d, a + 1, b, by omega, g2, g3, g4, .str e1 e2 g5, g6, by omega⟩⟩
  | @pair i m j a b c d e1 e2 e3 e4 h1 h2 ih1 ih2 =>
    intro hij
    by_cases hj : m + 1 = j
    · subst hj
      have := h2.self
      subst this
      have hm := h1.le
      exact ⟨d, by simpa using e3, .inr ⟨e4, .inr ⟨i, c, 0, a, Nat.le_refl _, by omega, e1, e2, .nil _, by simpa using h1, by omega⟩⟩⟩
    · have hm := h1.le
      obtain ⟨c', g1, g2⟩ := ih2 (by have := h2.le; omega)
      refine ⟨c', g1, ?_⟩
      rcases g2 with ⟨g2, g3⟩ | ⟨g2, ⟨n', rfl, g3⟩ | ⟨m', d', a', b', k1, k2, k3, k4, k5, k6, rfl⟩⟩
      · exact .inl ⟨g2, .pair e1 e2 e3 e4 h1 g3⟩
      · exact .inr ⟨g2, .inl ⟨tns c d + a + n', by omega, .pair e1 e2 e3 e4 h1 g3⟩⟩
      · exact .inr ⟨g2, .inr ⟨m', d', tns c d + a + a', b', by omega, k2, k3, k4, .pair e1 e2 e3 e4 h1 k5, k6, by omega⟩⟩
/-- the least that is so -/
def Lst (P : Nat → Prop) (n : Nat) : Prop := P n ∧ ∀ m, P m → n ≤ m
theorem Lst.ex {P : Nat → Prop} : ∀ n, P n → ∃ n, Lst P n := by
  intro n
  induction n using Nat.strongRecOn with
  | ind n ih =>
    intro h
    by_cases hm : ∃ m, m < n ∧ P m
    · obtain ⟨m, h1, h2⟩ := hm
      exact ih m h1 h2
    · exact ⟨n, h, fun m hp => Nat.le_of_not_lt fun hlt => hm ⟨m, hlt, hp⟩⟩
theorem Lst.uniq {P : Nat → Prop} {n m : Nat} (h1 : Lst P n) (h2 : Lst P m) : n = m := Nat.le_antisymm (h1.2 m h2.1) (h2.2 n h1.1)
open Classical in
noncomputable def lstN (l : List Nat) (i j : Nat) : Nat := if h : ∃ n, Lst (Mn l i j) n then Classical.choose h else 0
theorem Mn.ex (l : List Nat) : ∀ (k i : Nat), i + k ≤ l.length → ∃ n, Mn l i (i + k) n
  | 0, i, _ => ⟨0, .nil _⟩
  | k + 1, i, h => by
    obtain ⟨n, hn⟩ := Mn.ex l k (i + 1) (by omega)
    rw [show i + 1 + k = i + (k + 1) by omega] at hn
    have e : l[i]? = some l[i] := List.getElem?_eq_getElem (by omega)
    by_cases hb : l[i] ∈ BRK
    · exact ⟨n + 1, .str e hb hn⟩
    · exact ⟨n, .let_ e hb hn⟩
theorem lstN_spec {l : List Nat} {i j : Nat} (h1 : i ≤ j) (h2 : j ≤ l.length) : Lst (Mn l i j) (lstN l i j) := by
  have hx : ∃ n, Lst (Mn l i j) n := by
    obtain ⟨n, hn⟩ := Mn.ex l (j - i) i (by omega)
    rw [show i + (j - i) = j by omega] at hn
    exact Lst.ex n hn
  unfold lstN
  rw [dif_pos hx]
  exact Classical.choose_spec hx
theorem lstN_of {l : List Nat} {i j n : Nat} (h1 : i ≤ j) (h2 : j ≤ l.length) (h : Lst (Mn l i j) n) : lstN l i j = n := (lstN_spec h1 h2).uniq h
theorem lstN_self {l : List Nat} {i : Nat} (h : i ≤ l.length) : lstN l i i = 0 := (lstN_spec (Nat.le_refl _) h).1.self
/-! by the first sign -/
/-- what the first sign makes of the entries e -/
def stepL (l : List Nat) (e : Nat → Nat → Int) (i j : Nat) : List Int :=
  match l[i]? with
  | none => []
  | some c => if c ∈ BRK then (1 + e (i + 1) j) :: (List.range (j - i - 1)).filterMap (fun t => match l[i + 1 + t]? with
      | none => none
      | some d => if d ∈ BRK then some (tns c d + e (i + 1) (i + 1 + t) + e (i + 1 + t + 1) j) else none)
    else [e (i + 1) j]
theorem lst_first {l : List Nat} {i j : Nat} (hi : i < j) (hj : j ≤ l.length) : (lstN l i j : Int) ∈ stepL l (fun a b => lstN l a b) i j ∧ ∀ x ∈ stepL l (fun a b => lstN l a b) i j, (lstN l i j : Int) ≤ x := by
  have e : l[i]? = some l[i] := List.getElem?_eq_getElem (by omega)
  have sp := lstN_spec (l := l) (show i ≤ j by omega) hj
  have sp1 := lstN_spec (l := l) (show i + 1 ≤ j by omega) hj
  unfold stepL
  rw [e]
  dsimp only
  by_cases hb : l[i] ∈ BRK
  · rw [if_pos hb]
    generalize hN : lstN l i j = N at sp ⊢
    constructor
    · cases sp.1 with
      | nil => omega
      | let_ e1 e2 _ => rw [e] at e1; exact absurd (Option.some.inj e1 ▸ hb) e2
      | @str _ _ n c e1 e2 h =>
        have h1 := sp1.2 _ h
        have h2 := sp.2 _ (.str e1 e2 sp1.1)
        have : n = lstN l (i + 1) j := by omega
        rw [List.mem_cons]
        left
        omega
      | @pair _ m _ a b c d e1 e2 e3 e4 h1 h2 =>
        have l1 := h1.le
        have l2 := h2.le
        have s1 := lstN_spec (l := l) (show i + 1 ≤ m by omega) (by omega)
        have s2 := lstN_spec (l := l) (show m + 1 ≤ j by omega) hj
        have m1 := s1.2 _ h1
        have m2 := s2.2 _ h2
        have m3 := sp.2 _ (.pair e1 e2 e3 e4 s1.1 s2.1)
        rw [e] at e1
        have ec : l[i] = c := Option.some.inj e1
        rw [List.mem_cons]
        right
        rw [List.mem_filterMap]
        refine ⟨m - (i + 1), List.mem_range.mpr (by omega), ?_⟩
        rw [show i + 1 + (m - (i + 1)) = m by omega, e3]
        dsimp only
        rw [if_pos e4, ec]
        congr 1
        omega
    · intro x hx
      rw [List.mem_cons] at hx
      rcases hx with rfl | hx
      · have := sp.2 _ (.str e hb sp1.1)
        omega
      · rw [List.mem_filterMap] at hx
        obtain ⟨t, ht, hx⟩ := hx
        rw [List.mem_range] at ht
        have e3 : l[i + 1 + t]? = some l[i + 1 + t] := List.getElem?_eq_getElem (by omega)
        rw [e3] at hx
        dsimp only at hx
        by_cases hd : l[i + 1 + t] ∈ BRK
        · rw [if_pos hd] at hx
          have hx' := Option.some.inj hx
          have s1 := lstN_spec (l := l) (show i + 1 ≤ i + 1 + t by omega) (by omega)
          have s2 := lstN_spec (l := l) (show i + 1 + t + 1 ≤ j by omega) hj
          have := sp.2 _ (.pair e hb e3 hd s1.1 s2.1)
          omega
        · rw [if_neg hd] at hx
          cases hx
  · rw [if_neg hb]
    have : lstN l i j = lstN l (i + 1) j := by
      refine lstN_of (by omega) hj ⟨.let_ e hb sp1.1, fun m hm => ?_⟩
      cases hm with
      | nil => omega
      | let_ _ _ h => exact sp1.2 _ h
      | str e1 e2 _ => rw [e] at e1; exact absurd (Option.some.inj e1 ▸ e2) hb
      | pair e1 e2 _ _ _ _ => rw [e] at e1; exact absurd (Option.some.inj e1 ▸ e2) hb
    rw [this]
    exact ⟨List.mem_singleton.mpr rfl, fun x hx => by rw [List.mem_singleton] at hx; omega⟩
/-! by the last sign -/
theorem lst_lastL {l : List Nat} {i j c : Nat} (hi : i ≤ j) (hj : j < l.length) (e : l[j]? = some c) (hb : c ∉ BRK) : lstN l i (j + 1) = lstN l i j := by
  have sp := lstN_spec (l := l) hi (by omega)
  refine lstN_of (by omega) (by omega) ⟨sp.1.app (.one_let e hb), fun m hm => ?_⟩
  obtain ⟨c', h1, h2⟩ := hm.last (by omega)
  rw [Nat.add_sub_cancel, e] at h1
  have := Option.some.inj h1
  subst this
  rcases h2 with ⟨_, h3⟩ | ⟨h2, _⟩
  · exact sp.2 _ h3
  · exact absurd h2 hb
/-- the numbers that are looked at for a last bracket: the least one so far -/
def LwB (l : List Nat) (i j c k n : Nat) : Prop := Mn l i (j + 1) n ∧ n ≤ lstN l i j + 1 ∧ ∀ m d, i ≤ m → m < i + k → m < j → l[m]? = some d → d ∈ BRK → n ≤ lstN l i m + lstN l (m + 1) j + tns d c
theorem LwB.start {l : List Nat} {i j c : Nat} (hi : i ≤ j) (hj : j < l.length) (e : l[j]? = some c) (hb : c ∈ BRK) : LwB l i j c 0 (lstN l i j + 1) :=
  ⟨(lstN_spec hi (by omega)).1.app (.one_str e hb), Nat.le_refl _, fun m d h1 h2 => by omega⟩
theorem LwB.skip {l : List Nat} {i j c k n d : Nat} (h : LwB l i j c k n) (e : l[i + k]? = some d) (hd : d ∉ BRK) : LwB l i j c (k + 1) n := by
  refine ⟨h.1, h.2.1, fun m d' h1 h2 h3 h4 h5 => ?_⟩
  by_cases hm : m < i + k
  · exact h.2.2 m d' h1 hm h3 h4 h5
  · have : m = i + k := by omega
    subst this
    rw [e] at h4
    exact absurd (Option.some.inj h4 ▸ h5) hd
theorem LwB.step {l : List Nat} {i j c k n d : Nat} (h : LwB l i j c k n) (hj : j < l.length) (ec : l[j]? = some c) (hc : c ∈ BRK) (hk : i + k < j) (e : l[i + k]? = some d) (hd : d ∈ BRK) : LwB l i j c (k + 1) (min n (lstN l i (i + k) + lstN l (i + k + 1) j + tns d c)) := by
  have s1 := lstN_spec (l := l) (show i ≤ i + k by omega) (by omega)
  have s2 := lstN_spec (l := l) (show i + k + 1 ≤ j by omega) (by omega)
  refine ⟨?_, by have := h.2.1; omega, fun m d' h1 h2 h3 h4 h5 => ?_⟩
  · rcases Nat.le_total n (lstN l i (i + k) + lstN l (i + k + 1) j + tns d c) with hq | hq
    · rw [Nat.min_eq_left hq]
      exact h.1
    · rw [Nat.min_eq_right hq]
      have := s1.1.app (Mn.pair e hd ec hc s2.1 (.nil _))
      rw [show lstN l i (i + k) + lstN l (i + k + 1) j + tns d c = lstN l i (i + k) + (tns d c + lstN l (i + k + 1) j + 0) by omega]
      exact this
  · by_cases hm : m < i + k
    · have := h.2.2 m d' h1 hm h3 h4 h5
      omega
    · have : m = i + k := by omega
      subst this
      rw [e] at h4
      have := Option.some.inj h4
      subst this
      exact Nat.min_le_right _ _
theorem LwB.fin {l : List Nat} {i j c n : Nat} (hi : i ≤ j) (hj : j < l.length) (ec : l[j]? = some c) (hc : c ∈ BRK) (h : LwB l i j c (j - i) n) : lstN l i (j + 1) = n := by
  refine lstN_of (by omega) (by omega) ⟨h.1, fun x hx => ?_⟩
  obtain ⟨c', h1, h2⟩ := hx.last (by omega)
  rw [Nat.add_sub_cancel] at h1 h2
  rw [ec] at h1
  have := Option.some.inj h1
  subst this
  rcases h2 with ⟨h2, _⟩ | ⟨_, ⟨n', rfl, h3⟩ | ⟨m, d, a, b, g1, g2, g3, g4, g5, g6, rfl⟩⟩
  · exact absurd hc h2
  · have := (lstN_spec (l := l) hi (by omega)).2 _ h3
    have := h.2.1
    omega
  · have k1 := (lstN_spec (l := l) g1 (by omega)).2 _ g5
    have k2 := (lstN_spec (l := l) (show m + 1 ≤ j by omega) (by omega)).2 _ g6
    have := h.2.2 m d g1 (by omega) g2 g3 g4
    omega
theorem lstN_le {l : List Nat} : ∀ (k i : Nat), i + k ≤ l.length → lstN l i (i + k) ≤ k
  | 0, i, h => by rw [Nat.add_zero, lstN_self (l := l) (by omega)]; exact Nat.le_refl _
  | k + 1, i, h => by
    have ih := lstN_le (l := l) k (i + 1) (by omega)
    rw [show i + 1 + k = i + (k + 1) by omega] at ih
    have sp := lstN_spec (l := l) (show i ≤ i + (k + 1) by omega) h
    have sp1 := lstN_spec (l := l) (show i + 1 ≤ i + (k + 1) by omega) h
    have e : l[i]? = some l[i] := List.getElem?_eq_getElem (by omega)
    by_cases hb : l[i] ∈ BRK
    · have := sp.2 _ (.str e hb sp1.1)
      omega
    · have := sp.2 _ (.let_ e hb sp1.1)
      omega
/-! reckoned -/
def minL : List Int → Int
  | [] => 0
  | [x] => x
  | x :: y :: r => min x (minL (y :: r))
theorem minL_spec : ∀ {xs : List Int}, xs ≠ [] → minL xs ∈ xs ∧ ∀ y ∈ xs, minL xs ≤ y
  | [], h => absurd rfl h
  | [x], _ => ⟨List.mem_singleton.mpr rfl, fun y hy => by rw [List.mem_singleton] at hy; rw [hy]; exact Int.le_refl _⟩
  | x :: y :: r, _ => by
    obtain ⟨h1, h2⟩ := minL_spec (xs := y :: r) (by simp)
    have e : minL (x :: y :: r) = min x (minL (y :: r)) := rfl
    rw [e]
    constructor
    · rcases Int.le_total x (minL (y :: r)) with h | h
      · rw [show min x (minL (y :: r)) = x by omega]
        exact List.mem_cons_self ..
      · rw [show min x (minL (y :: r)) = minL (y :: r) by omega]
        exact List.mem_cons_of_mem _ h1
    · intro z hz
      rcases List.mem_cons.mp hz with rfl | hz
      · omega
      · have := h2 z hz
        omega
theorem stepL_congr {l : List Nat} {e e' : Nat → Nat → Int} {i j : Nat} (hi : i < j) (h : ∀ a b, i < a → a ≤ b → b ≤ j → e a b = e' a b) : stepL l e i j = stepL l e' i j := by
  unfold stepL
  cases l[i]? with
  | none => rfl
  | some c =>
    dsimp only
    rw [h (i + 1) j (by omega) (by omega) (Nat.le_refl _)]
    have hF : ∀ t, t < j - i - 1 → (match l[i + 1 + t]? with
      | none => none
      | some d => if d ∈ BRK then some (tns c d + e (i + 1) (i + 1 + t) + e (i + 1 + t + 1) j) else none : Option Int) = (match l[i + 1 + t]? with
      | none => none
      | some d => if d ∈ BRK then some (tns c d + e' (i + 1) (i + 1 + t) + e' (i + 1 + t + 1) j) else none) := fun t ht => by
      cases l[i + 1 + t]? with
      | none => rfl
      | some d =>
        dsimp only
        rw [h (i + 1) (i + 1 + t) (by omega) (by omega) (by omega), h (i + 1 + t + 1) j (by omega) (by omega) (Nat.le_refl _)]
    have hL : ∀ (xs : List Nat) (f g : Nat → Option Int), (∀ t ∈ xs, f t = g t) → xs.filterMap f = xs.filterMap g := by
      intro xs f g
      induction xs with
      | nil => intro _; rfl
      | cons x xs ih =>
        intro hx
        rw [List.filterMap_cons, List.filterMap_cons, hx x (List.mem_cons_self ..), ih fun t ht => hx t (List.mem_cons_of_mem _ ht)]
    rw [hL (List.range (j - i - 1)) _ _ fun t ht => hF t (List.mem_range.mp ht)]
end Ly

set_option maxHeartbeats 4000000
namespace Ly
open PySem PySem.Spec PyProof.Rows L2 SX
/-! ### dicts whose keys are pairs of whole numbers -/
section
variable {K : PySem.W.Frag} {σ : L2.St} {H H1 : Hp} {Q : VK} {R : Hp → Prop} {a b p : Addr} {i j : Int} {v : V} {n : Nat} {td ty tv : TE} {D : Ends} {xs : List V}
def rDGet (x y : V) (H : Hp) (Q : VK) : Prop := ∃ a v, x = .ref a ∧ DGet H a y (some v) ∧ Q v H
def rDPut (x y v : V) (H : Hp) (R : Hp → Prop) : Prop := ∃ a H4, x = .ref a ∧ DPut H a y v H4 ∧ R H4
def rDNewT (H : Hp) (Q : VK) : Prop := ∀ p, H p = none → Q (.ref p) (upd H p (.dT []))
theorem tDGet_eq : tDGet td ty σ H Q = td σ H fun x H1 => ty σ H1 fun y H2 => rDGet x y H2 Q := rfl
theorem sDPut_eq : sDPut td ty tv D σ H = tv σ H fun v H1 => td σ H1 fun x H2 => ty σ H2 fun y H3 => rDPut x y v H3 (D.nx σ) := rfl
theorem tDNewT_eq : tDNewT σ H Q = rDNewT H Q := rfl
/-- at a stands a dict of pairs, f tells what it holds, at most n entries -/
def DTab (H : Hp) (a : Addr) (f : Int → Int → Option V) (n : Nat) : Prop := ∃ kvs : List (List Key × V), H a = some (.dT kvs) ∧ kvs.length ≤ n ∧ ∀ i j, valV kvs [.inl i, .inl j] = f i j
theorem DTab.same {f : Int → Int → Option V} (h : DTab H a f n) (s : Same H H1) : DTab H1 a f n := by
  obtain ⟨kvs, h1, h2⟩ := h
  exact ⟨kvs, s _ _ h1, h2⟩
theorem DTab.but {f : Int → Int → Option V} (h : DTab H a f n) (s : But p H H1) (hn : a ≠ p) : DTab H1 a f n := by
  obtain ⟨kvs, h1, h2⟩ := h
  exact ⟨kvs, s _ _ hn h1, h2⟩
theorem DTab.ne {f : Int → Int → Option V} (h : DTab H a f n) (hb : H b = none) : a ≠ b := by
  obtain ⟨kvs, h1, h2⟩ := h
  exact ne_new hb h1
theorem g_dnewT (q : ∀ p H1, H p = none → Same H H1 → DTab H1 p (fun _ _ => none) 0 → Q (.ref p) H1) : rDNewT H Q := fun p np => q p _ np (Same.new np) ⟨[], upd_same, Nat.le_refl _, fun _ _ => rfl⟩
theorem g_dgetT {f : Int → Int → Option V} (h : DTab H a f n) (hb : H b = some (.tup [.int i, .int j])) (hv : f i j = some v) (q : Q v H) : rDGet (.ref a) (.ref b) H Q := by
  obtain ⟨kvs, h1, h2, h3⟩ := h
  refine ⟨a, v, rfl, ?_, q⟩
  have e := DGet.t (k := [.inl i, .inl j]) h1 hb
  rw [h3, hv] at e
  exact e
theorem g_dputT {f : Int → Int → Option V} (h : DTab H a f n) (hb : H b = some (.tup [.int i, .int j])) (hn : n < 100000) (q : ∀ H1, But a H H1 → DTab H1 a (fun x y => if x = i ∧ y = j then some v else f x y) (n + 1) → R H1) : rDPut (.ref a) (.ref b) v H R := by
  obtain ⟨kvs, h1, h2, h3⟩ := h
  refine ⟨a, _, rfl, DPut.t (k := [.inl i, .inl j]) h1 hb (Nat.lt_of_lt_of_le (Nat.lt_of_le_of_lt h2 hn) (by decide)), q _ But.set ⟨_, upd_same, ?_, fun x y => ?_⟩⟩
  · unfold putK
    split
    · rw [List.length_map]; omega
    · rw [List.length_append, List.length_singleton]; omega
  · rw [valV_put, h3]
    show _ = if x = i ∧ y = j then some v else f x y
    by_cases e : x = i ∧ y = j
    · obtain ⟨rfl, rfl⟩ := e
      rw [if_pos rfl, if_pos ⟨rfl, rfl⟩]
    · rw [if_neg e, if_neg fun q => e ?_]
      injection q with q1 q2
      injection q2 with q2 _
      exact ⟨Sum.inl.inj q1, Sum.inl.inj q2⟩
/-! ### places told as natural numbers -/
theorem g_ixLn {x : Int} (k : Nat) (h : SqL K H p xs) (hk : x = (k : Int)) (h1 : xs[k]? = some v) (q : Q v H) : rIxL K (.ref p) (.int x) H Q := by
  subst hk
  exact g_ixL h (atI_of h1) q
theorem g_ixTn {l : List Nat} {x : Int} {c : Nat} (k : Nat) (h : l.length ≤ 100000) (hk : x = (k : Int)) (h1 : l[k]? = some c) (q : Q (Tx [c]) H) : rIxT1 (Tx l) (.int x) H Q := by
  subst hk
  exact g_ixT h (atI_of h1) q
theorem g_setLn {x : Int} (k : Nat) (h : H p = some (.lst xs)) (hk : x = (k : Int)) (h1 : k < xs.length) (q : ∀ H1, But p H H1 → H1 p = some (.lst (xs.set k v)) → R H1) : rSetL (.ref p) (.int x) v H R := by
  subst hk
  exact g_setL h (ixN_nat h1) q
/-! ### min, max -/
theorem g_minL {ns : List Int} (h : SqL K H p (ns.map V.int)) (hn : ns ≠ []) (q : ∀ m, m ∈ ns → (∀ y, y ∈ ns → m ≤ y) → Q (.int m) H) : rMin K [.ref p] H Q := ⟨p, ns, rfl, h, List.length_pos_iff.mpr hn, q⟩
end
section
variable {X : Cx}
def rMin2 : List V → Hp → VK → Prop := fun xs H Q => ∃ i j : Int, xs = [.int i, .int j] ∧ Q (.int (min i j)) H
def rMax2 : List V → Hp → VK → Prop := fun xs H Q => ∃ i j : Int, xs = [.int i, .int j] ∧ Q (.int (max i j)) H
theorem call_min2' (hc : X.calm = true) : CallR X (.builtin "min") rMin2 := fun pins s σ H xs us Q I r h => by
  obtain ⟨i, j, rfl, q⟩ := h
  refine call_min2 hc pins s σ H _ us Q I r ⟨i, j, rfl, ?_⟩
  have e : (if j < i then j else i) = min i j := by split <;> omega
  rw [e]
  exact q
theorem g_min2 {H : Hp} {Q : VK} {i j : Int} (q : Q (.int (min i j)) H) : rMin2 [.int i, .int j] H Q := ⟨i, j, rfl, q⟩
theorem g_max2 {H : Hp} {Q : VK} {i j : Int} (q : Q (.int (max i j)) H) : rMax2 [.int i, .int j] H Q := ⟨i, j, rfl, q⟩
end
/-! ### a list of lists, each its own -/
/-- at d the list of the lists rs; the k-th holds f k -/
structure Tab (H : Hp) (d : Addr) (rs : List Addr) (f : Nat → List V) : Prop where
  hd : H d = some (.lst (rs.map V.ref))
  r : ∀ k r, rs[k]? = some r → H r = some (.lst (f k))
  nd : rs.Nodup
  nin : d ∉ rs
theorem Tab.same {H H' : Hp} {d : Addr} {rs : List Addr} {f : Nat → List V} (T : Tab H d rs f) (s : Same H H') : Tab H' d rs f := ⟨s _ _ T.hd, fun k r h => s _ _ (T.r k r h), T.nd, T.nin⟩
theorem Tab.but {H H' : Hp} {d p : Addr} {rs : List Addr} {f : Nat → List V} (T : Tab H d rs f) (s : But p H H') (h1 : p ≠ d) (h2 : p ∉ rs) : Tab H' d rs f :=
  ⟨s _ _ (Ne.symm h1) T.hd, fun k r h => s _ _ (fun e => h2 (by rw [← e]; exact List.mem_of_getElem? h)) (T.r k r h), T.nd, T.nin⟩
theorem Tab.fresh {H : Hp} {d p : Addr} {rs : List Addr} {f : Nat → List V} (T : Tab H d rs f) (h : H p = none) : p ≠ d ∧ p ∉ rs := by
  refine ⟨fun e => ?_, fun e => ?_⟩
  · have := T.hd
    rw [← e, h] at this
    cases this
  · obtain ⟨k, hk⟩ := List.getElem?_of_mem e
    have := T.r k p hk
    rw [h] at this
    cases this
/-- one row set -/
theorem Tab.set {H H' : Hp} {d r : Addr} {rs : List Addr} {f : Nat → List V} {k : Nat} {xs : List V} (T : Tab H d rs f) (hk : rs[k]? = some r) (s : But r H H') (h : H' r = some (.lst xs)) : Tab H' d rs (fun i => if i = k then xs else f i) := by
  have hr : r ∈ rs := List.mem_of_getElem? hk
  refine ⟨s _ _ (fun e => T.nin (by rw [e]; exact hr)) T.hd, fun i q hi => ?_, T.nd, T.nin⟩
  by_cases e : i = k
  · subst e
    rw [hk] at hi
    have := Option.some.inj hi
    subst this
    rw [if_pos rfl]
    exact h
  · rw [if_neg e]
    refine s _ _ (fun e2 => e ?_) (T.r i q hi)
    subst e2
    obtain ⟨h1, e1⟩ := List.getElem?_eq_some_iff.mp hi
    obtain ⟨h2, e2⟩ := List.getElem?_eq_some_iff.mp hk
    exact (List.getElem_inj T.nd).mp (e1.trans e2.symm)
theorem Tab.congr {H : Hp} {d : Addr} {rs : List Addr} {f g : Nat → List V} (T : Tab H d rs f) (h : ∀ k, k < rs.length → f k = g k) : Tab H d rs g :=
  ⟨T.hd, fun k r hk => by rw [← h k (List.getElem?_eq_some_iff.mp hk).1]; exact T.r k r hk, T.nd, T.nin⟩
theorem Tab.row {H : Hp} {d : Addr} {rs : List Addr} {f : Nat → List V} (T : Tab H d rs f) {k : Nat} (hk : k < rs.length) : ∃ r, rs[k]? = some r ∧ (rs.map V.ref)[k]? = some (V.ref r) ∧ H r = some (.lst (f k)) := by
  refine ⟨rs[k], List.getElem?_eq_getElem hk, by simp [hk], T.r k _ (List.getElem?_eq_getElem hk)⟩
theorem Tab.snoc {H H' : Hp} {d r : Addr} {rs : List Addr} {f : Nat → List V} {xs : List V} (T : Tab H d rs f) (hr : H' r = some (.lst xs)) (hd : H' d = some (.lst ((rs ++ [r]).map V.ref))) (h1 : r ∉ rs) (h2 : d ≠ r) (hk : ∀ q ∈ rs, ∀ o, H q = some o → H' q = some o) : Tab H' d (rs ++ [r]) (fun i => if i = rs.length then xs else f i) := by
  refine ⟨hd, fun i q hi => ?_, ?_, ?_⟩
  · by_cases e : i < rs.length
    · rw [List.getElem?_append_left e] at hi
      rw [if_neg (by omega)]
      exact hk q (List.mem_of_getElem? hi) _ (T.r i q hi)
    · rw [List.getElem?_append_right (by omega)] at hi
      have e2 : i = rs.length := by
        have := (List.getElem?_eq_some_iff.mp hi).1
        simp at this
        omega
      subst e2
      rw [Nat.sub_self] at hi
      have := Option.some.inj hi
      subst this
      rw [if_pos rfl]
      exact hr
  · rw [List.nodup_append]
    refine ⟨T.nd, by simp, fun a ha b hb => ?_⟩
    rw [List.mem_singleton] at hb
    subst hb
    exact fun e => h1 (by rw [← e]; exact ha)
  · rw [List.mem_append, List.mem_singleton]
    rintro (h | h)
    · exact T.nin h
    · exact h2 h
end Ly

set_option maxHeartbeats 4000000
namespace Ly
open PySem PySem.Spec PyProof.Rows L2 SX
theorem g_ET {R : Bool → Prop} (q : R true) : ∃ k, V.bl true = V.bl k ∧ R k := ⟨_, rfl, q⟩
theorem g_EF {R : Bool → Prop} (q : R false) : ∃ k, V.bl false = V.bl k ∧ R k := ⟨_, rfl, q⟩
theorem g_EnT {R : Bool → Prop} (q : R false) : ∃ k, V.bl (!true) = V.bl k ∧ R k := ⟨_, rfl, q⟩
theorem g_EnF {R : Bool → Prop} (q : R true) : ∃ k, V.bl (!false) = V.bl k ∧ R k := ⟨_, rfl, q⟩
/-- the scope of a statement's comprehension -/
def lcScS : Stmt → Scope
  | .Assign _ (.ListComp _ _ sc _) _ => sc
  | .Return (some (.ListComp _ _ sc _)) _ => sc
  | _ => default
/-- as it is met within a function of the scope sc -/
def rlSc (scope sc : Scope) : Scope := relabel scope { scope := sc, locals := 0, globals := 0, cells := [], qual := "", func := none, code := .none, frame := none, builtins := 0 }
/-! ### list + list, where one may be the script -/
section
variable {X : Cx}
def rCatQ (K : PySem.W.Frag) : R2 := fun x y H Q => ∃ l b xs zs, x = .ref l ∧ y = .ref b ∧ SqL K H l xs ∧ SqL K H b zs ∧ xs.length + zs.length ≤ 100000 ∧ ∀ p H1, H p = none → Same H H1 → H1 p = some (.lst (xs ++ zs)) → Q (.ref p) H1
theorem op_catQ : OpR X (binaryOp .Add) (rCatQ X.K) := by
  intro pins s σ H x y v u Q I rx ry h
  obtain ⟨l, b, xs, zs, rfl, rfl, hH, hB, hz, q⟩ := h
  cases rx
  cases ry
  obtain ⟨its, r, hl, _⟩ := I.list hH
  obtain ⟨its2, r2, hl2, _⟩ := I.list hB
  have e1 := r.length
  have e2 := r2.length
  obtain ⟨⟨cls, dd, data, sl⟩, ho, hc, n, hd⟩ := id hl.isList
  obtain ⟨⟨cls2, dd2, data2, sl2⟩, ho2, hc2, n2, hd2⟩ := id hl2.isList
  simp only at hc hd hc2 hd2
  subst hc hd hc2 hd2
  have e : its.toArray ++ its2.toArray = (its ++ its2).toArray := by simp
  have hs : its.length + its2.length ≤ sizeLine := by
    rw [← e1, ← e2]
    exact Nat.le_trans hz (by decide)
  refine concat_meets ⟨_, ho, rfl⟩ ⟨_, ho2, rfl⟩ noFill_list_add seq_list_add PySem.F.slot_list_add PySem.F.entry_list_add (PySem.F.args_list_add_2 _ _) (list_addW l b its.toArray its2.toArray n n2 dd dd2 sl sl2 (by simpa using hs)) ⟨ho, ho2, ?_⟩
  rw [e]
  exact ⟨.ref _, _, I.lnew (t' := s.toks) (r.append r2) (by rw [List.length_append, e1, e2]; exact hs), rfl, q _ _ I.fresh (Same.new I.fresh) upd_same⟩
theorem g_catQ {K : PySem.W.Frag} {H : Hp} {Q : VK} {l b : Addr} {xs zs : List V} (h1 : SqL K H l xs) (h2 : SqL K H b zs) (hl : xs.length + zs.length ≤ 100000) (q : ∀ p H1, H p = none → Same H H1 → H1 p = some (.lst (xs ++ zs)) → Q (.ref p) H1) : rCatQ K (.ref l) (.ref b) H Q := ⟨l, b, xs, zs, rfl, rfl, h1, h2, hl, q⟩
end
section
variable {K : PySem.W.Frag} {σ : L2.St} {H : Hp} {g : TG} {tb : TS} {D : Ends} {a b : Addr} {xs ys : List V}
end
end Ly

namespace Ly
/-! ### least numbers with how often they are met -/
/-- a number of deeds and in how many ways; none: in no way -/
abbrev MC := Option (Nat × Nat)
def mAdd : MC → MC → MC
  | none, y => y
  | some p, none => some p
  | some p, some q => if p.1 < q.1 then some p else if q.1 < p.1 then some q else some (p.1, p.2 + q.2)
def mMul : MC → MC → MC
  | some p, some q => some (p.1 + q.1, p.2 * q.2)
  | _, _ => none
def mOne : MC := some (0, 1)
theorem mAdd_none (x : MC) : mAdd x none = x := by cases x <;> rfl
theorem none_mAdd (x : MC) : mAdd none x = x := rfl
theorem mAdd_assoc (x y z : MC) : mAdd (mAdd x y) z = mAdd x (mAdd y z) := by
  cases x with
  | none => rfl
  | some p =>
    cases y with
    | none => rfl
    | some q =>
      cases z with
      | none => rw [mAdd_none, mAdd_none]
      | some r =>
        obtain ⟨a, m⟩ := p
        obtain ⟨b, n⟩ := q
        obtain ⟨c, k⟩ := r
        unfold mAdd
        dsimp only
        by_cases h1 : a < b <;> by_cases h2 : b < a <;> by_cases h3 : b < c <;> by_cases h4 : c < b <;> by_cases h5 : a < c <;> by_cases h6 : c < a <;>
          first | (exfalso; omega) | (simp only [h1, h2, h3, h4, h5, h6, if_true, if_false]; try (first | rfl | (rw [Nat.add_assoc]) | (congr 1 <;> omega)))
theorem mMul_comm (x y : MC) : mMul x y = mMul y x := by
  cases x with
  | none => cases y <;> rfl
  | some p =>
    cases y with
    | none => rfl
    | some q =>
      unfold mMul
      dsimp only
      rw [Nat.add_comm, Nat.mul_comm]
theorem mMul_none (x : MC) : mMul x none = none := by cases x <;> rfl
theorem mMul_assoc (x y z : MC) : mMul (mMul x y) z = mMul x (mMul y z) := by
  cases x with
  | none => rfl
  | some p =>
    cases y with
    | none => rfl
    | some q =>
      cases z with
      | none => rfl
      | some r =>
        unfold mMul
        dsimp only
        rw [Nat.add_assoc, Nat.mul_assoc]
theorem mOne_mul (x : MC) : mMul mOne x = x := by
  cases x with
  | none => rfl
  | some p =>
    unfold mMul mOne
    dsimp only
    rw [Nat.zero_add, Nat.one_mul]
/-! sums -/
def sm (f : Nat → MC) : Nat → MC
  | 0 => none
  | n + 1 => mAdd (sm f n) (f n)
theorem sm_congr {f g : Nat → MC} : ∀ {n : Nat}, (∀ k, k < n → f k = g k) → sm f n = sm g n
  | 0, _ => rfl
  | n + 1, h => by
    rw [sm, sm, sm_congr (fun k hk => h k (by omega)), h n (by omega)]
theorem sm_head (f : Nat → MC) : ∀ n : Nat, sm f (n + 1) = mAdd (f 0) (sm (fun k => f (k + 1)) n)
  | 0 => by rw [sm, sm, sm, none_mAdd, mAdd_none]
  | n + 1 => by rw [sm, sm_head f n, sm, mAdd_assoc]
theorem sm_none : ∀ n : Nat, sm (fun _ => none) n = none
  | 0 => rfl
  | n + 1 => by rw [sm, sm_none n]; rfl
/-! ### tilings: by the first item, by the last one -/
end Ly

set_option maxHeartbeats 4000000
namespace Ly
open PySem PySem.Spec PyProof.Rows L2 SX
/-! ### classes: their methods, their making -/
section
variable {P : Program} {w : World} {K : PySem.W.Frag} {mg : Str → Option Value} {base : Heap}
end
def rMetO (C : Addr) (m : Str) (x : V) (H : Hp) (A : Prop) : Prop := (∃ a dx fs, x = .ref a ∧ H a = some (.ins C dx fs) ∧ fs.lookup m = none) ∧ A
def tMet (C : Addr) (m : Str) (sp : Sp) (ta : TE) (t : TA) : TE := fun σ H Q => ta σ H fun x H1 => rMetO C m x H1 (t σ H1 fun vs H2 => sp (x :: vs) H2 Q C8.E0)
def rMak (C : Addr) (sp : Sp) (vs : List V) (H : Hp) (Q : VK) : Prop := ∀ x dx, H x = none → H dx = none → dx ≠ x → sp (.ref x :: vs) (upd (upd H dx (.own x)) x (.ins C dx [])) (fun v H2 => v = .non ∧ Q (.ref x) H2) C8.E0
def tMak (C : Addr) (sp : Sp) (t : TA) : TE := fun σ H Q => t σ H fun vs H1 => rMak C sp vs H1 Q
section
variable {X : Cx} {k j : Nat} {C : Addr} {x m : Str} {sp : Sp} {p pos apos : Pos} {e o : Expr} {es : List Expr} {ta : TE} {t : TA}
end
section
variable {K : PySem.W.Frag} {σ : L2.St} {H : Hp} {Q : VK} {A : Prop} {a dx C : Addr} {fs : List (Str × V)} {m f : Str} {v y : V} {ta tv : TE} {D : Ends} {R : Hp → Prop} {sp : Sp} {vs : List V}
def rFld (K : PySem.W.Frag) (f : Str) (x : V) (H : Hp) (Q : VK) : Prop := ∃ a C dx fs v, x = .ref a ∧ H a = some (.ins C dx fs) ∧ Cls K C ∧ NoAttr K C f ∧ fs.lookup f = some v ∧ Q v H
def rSFld (K : PySem.W.Frag) (f : Str) (y x : V) (H : Hp) (R : Hp → Prop) : Prop := ∃ a C dx fs, x = .ref a ∧ H a = some (.ins C dx fs) ∧ Cls K C ∧ NoAttr K C f ∧ fs.length < 1000 ∧ R (upd H a (.ins C dx (putF f y fs)))
theorem tFld_eq : tFld K ta f σ H Q = ta σ H fun x H1 => rFld K f x H1 Q := rfl
theorem sFld_eq : sFld K ta tv f D σ H = tv σ H fun y H1 => ta σ H1 fun x H2 => rSFld K f y x H2 (D.nx σ) := rfl
end
end Ly

namespace Ly
open PySem
/-! ### the head's facts with one truth more -/
abbrev AlE : Type := He.AlD × Bool
def obsEG (n : Nat) (fa : List He.Fa) (fn : List He.DefD) (ex : PySem.W.Frag → Bool) (g : Addr → Option Obj) : AlE := (He.obsDG n fa fn g, ex (He.frG g (He.asD g n)))
def hookE (n : Nat) (fa : List He.Fa) (fn : List He.DefD) (ex : PySem.W.Frag → Bool) : PySem.W.Hook where
  α := AlE
  obs := fun s => obsEG n fa fn ex s.heap.get?
  val := fun _ => (He.valD fn, true)
  says := fun _ h => ∃ K : PySem.W.Frag, K.In h ∧ He.SaysD fa fn K ∧ ex K = true
  of := fun _ _ e => ⟨_, He.frG_in, congrArg Prod.fst e, congrArg Prod.snd e⟩
  keeps := fun _ _ _ ⟨K, hK, c, cx⟩ k => ⟨K, PySem.W.Frag.In.keeps hK k, c, cx⟩
theorem obsEG_eq {n : Nat} {fa : List He.Fa} {fn : List He.DefD} {ex : PySem.W.Frag → Bool} {g : Addr → Option Obj} {s : Shared} (h : ∀ a, g a = s.heap.get? a) : obsEG n fa fn ex g = (hookE n fa fn ex).obs s := by
  have e : g = s.heap.get? := funext h
  rw [e] <;> rfl
end Ly

set_option maxHeartbeats 4000000
namespace Ly
/-! ### least numbers with how many, by words -/
structure Wd where
  pt : Bool
  st : Bool
  tn : Bool
def few (c d : Nat) : Nat × Nat := if c ∈ OPN ∧ d ∈ CLO then (if knd c = knd d then (0, 1) else (1, 2)) else if c ∈ CLO ∧ d ∈ OPN then (2, 4) else (1, 1)
def w1 : MC := some (1, 1)
/-- a pair of the text's signs at i and m -/
def prM (l : List Nat) (W : Wd) (i m : Nat) : MC := match l[i]?, l[m]? with
  | some c, some d => if c ∈ BRK ∧ d ∈ BRK ∧ ((few c d).1 = 0 ∨ W.tn = true) then some (few c d) else none
  | _, _ => none
def opM (l : List Nat) (W : Wd) (i : Nat) : MC := match l[i]? with
  | some c => if c ∈ OPN ∧ W.pt = true then w1 else none
  | none => none
def clM (l : List Nat) (W : Wd) (m : Nat) : MC := match l[m]? with
  | some c => if c ∈ CLO ∧ W.pt = true then w1 else none
  | none => none
/-- the sign alone: a letter, or a struck bracket -/
def sgM (l : List Nat) (W : Wd) (i : Nat) : MC := match l[i]? with
  | some c => if c ∈ BRK then (if W.st = true then w1 else none) else mOne
  | none => none
def m3 (x y z : MC) : MC := mMul (mMul x y) z
/-- by the first sign -/
def stM (l : List Nat) (W : Wd) (F : Nat → Nat → MC) (i j : Nat) : MC :=
  mAdd (mMul (sgM l W i) (F (i + 1) j)) (mAdd (sm (fun t => m3 (prM l W i (i + 1 + t)) (F (i + 1) (i + 1 + t)) (F (i + 1 + t + 1) j)) (j - i - 1))
    (mAdd (sm (fun t => m3 (opM l W i) (F (i + 1) (i + 1 + t)) (F (i + 1 + t) j)) (j - i)) (sm (fun t => m3 (clM l W (i + t)) (F i (i + t)) (F (i + t + 1) j)) (j - i))))
theorem stM_congr {l l' : List Nat} {W : Wd} {F F' : Nat → Nat → MC} {i j : Nat} (hi : i < j) (hl : ∀ k, k < j → l[k]? = l'[k]?) (h : ∀ a b, a ≤ b → b ≤ j → b - a < j - i → i ≤ a → F a b = F' a b) : stM l W F i j = stM l' W F' i j := by
  unfold stM
  have e1 : sgM l W i = sgM l' W i := by unfold sgM; rw [hl i hi]
  have e2 : ∀ m, m < j → prM l W i m = prM l' W i m := fun m hm => by unfold prM; rw [hl i hi, hl m hm]
  have e3 : opM l W i = opM l' W i := by unfold opM; rw [hl i hi]
  have e4 : ∀ m, m < j → clM l W m = clM l' W m := fun m hm => by unfold clM; rw [hl m hm]
  rw [e1, h (i + 1) j (by omega) (by omega) (by omega) (by omega), e3]
  congr 1
  congr 1
  · refine sm_congr fun t ht => ?_
    rw [e2 _ (by omega), h (i + 1) (i + 1 + t) (by omega) (by omega) (by omega) (by omega), h (i + 1 + t + 1) j (by omega) (by omega) (by omega) (by omega)]
  · congr 1
    · refine sm_congr fun t ht => ?_
      rw [h (i + 1) (i + 1 + t) (by omega) (by omega) (by omega) (by omega), h (i + 1 + t) j (by omega) (by omega) (by omega) (by omega)]
    · refine sm_congr fun t ht => ?_
      rw [e4 _ (by omega), h i (i + t) (by omega) (by omega) (by omega) (by omega), h (i + t + 1) j (by omega) (by omega) (by omega) (by omega)]
def mcF (l : List Nat) (W : Wd) : Nat → Nat → Nat → MC
  | 0, _, _ => mOne
  | n + 1, i, j => if j ≤ i then mOne else stM l W (mcF l W n) i j
theorem mcF_eq (l l' : List Nat) (W : Wd) : ∀ (n m i j : Nat), j - i ≤ n → j - i ≤ m → (∀ k, k < j → l[k]? = l'[k]?) → mcF l W n i j = mcF l' W m i j
  | 0, 0, i, j, _, _, _ => rfl
  | 0, m + 1, i, j, h1, h2, _ => by rw [mcF, mcF, if_pos (by omega)]
  | n + 1, 0, i, j, h1, h2, _ => by rw [mcF, mcF, if_pos (by omega)]
  | n + 1, m + 1, i, j, h1, h2, hl => by
    rw [mcF, mcF]
    by_cases h : j ≤ i
    · rw [if_pos h, if_pos h]
    · rw [if_neg h, if_neg h]
      exact stM_congr (by omega) hl fun a b g1 g2 g3 g4 => mcF_eq l l' W n m a b (by omega) (by omega) fun k hk => hl k (by omega)
def mcN (l : List Nat) (W : Wd) (i j : Nat) : MC := mcF l W (j - i) i j
theorem mcN_self (l : List Nat) (W : Wd) (i : Nat) : mcN l W i i = mOne := by unfold mcN; rw [Nat.sub_self]; rfl
theorem mcN_step {l : List Nat} {W : Wd} {i j : Nat} (h : i < j) : mcN l W i j = stM l W (mcN l W) i j := by
  have e : mcN l W i j = mcF l W (j - i - 1 + 1) i j := mcF_eq l l W _ _ i j (Nat.le_refl _) (by omega) fun _ _ => rfl
  rw [e, mcF, if_neg (by omega)]
  exact stM_congr h (fun _ _ => rfl) fun a b g1 g2 g3 g4 => mcF_eq l l W _ _ a b (by omega) (Nat.le_refl _) fun _ _ => rfl
/-! by the last sign -/
/-! there is always one, where striking is a word -/
/-! sums of lists -/
end Ly

set_option maxHeartbeats 4000000
namespace Ly
open PySem PySem.Spec PyProof.Rows L2 SX
/-! ### how great the counts can be -/
/-! ### values -/
/-! ### lists of pairs of whole numbers -/
def Prs (H : Hp) (a : Addr) (xs : List (Nat × Nat)) : Prop := ∃ rs : List Addr, H a = some (.lst (rs.map V.ref)) ∧ rs.length = xs.length ∧ ∀ (k : Nat) (r : Addr) (x : Nat × Nat), rs[k]? = some r → xs[k]? = some x → H r = some (.tup [.int x.1, .int x.2])
theorem Prs.same {H H' : Hp} {a : Addr} {xs : List (Nat × Nat)} (h : Prs H a xs) (s : Same H H') : Prs H' a xs := by
  obtain ⟨rs, h1, h2, h3⟩ := h
  exact ⟨rs, s _ _ h1, h2, fun k r x q1 q2 => s _ _ (h3 k r x q1 q2)⟩
theorem Prs.lst {H : Hp} {a : Addr} {xs : List (Nat × Nat)} (h : Prs H a xs) : ∃ ys, H a = some (.lst ys) ∧ ys.length = xs.length := by
  obtain ⟨rs, h1, h2, h3⟩ := h
  exact ⟨_, h1, by rw [List.length_map]; exact h2⟩
theorem Prs.but {H H' : Hp} {a p : Addr} {xs : List (Nat × Nat)} {ys : List V} (h : Prs H a xs) (s : But p H H') (hp : H p = some (.lst ys)) (hn : a ≠ p) : Prs H' a xs := by
  obtain ⟨rs, h1, h2, h3⟩ := h
  refine ⟨rs, s _ _ hn h1, h2, fun k r x q1 q2 => s _ _ (fun e => ?_) (h3 k r x q1 q2)⟩
  have := h3 k r x q1 q2
  rw [e, hp] at this
  cases this
theorem Prs.snoc {H H' : Hp} {a t : Addr} {xs : List (Nat × Nat)} {x : Nat × Nat} (h : Prs H a xs) (ht : H t = some (.tup [.int x.1, .int x.2])) (s : But a H H') (h2 : ∀ rs : List Addr, H a = some (.lst (rs.map V.ref)) → H' a = some (.lst (rs.map V.ref ++ [.ref t]))) : Prs H' a (xs ++ [x]) := by
  obtain ⟨rs, h1, hl, h3⟩ := h
  have ne : ∀ r ys, H r = some (.tup ys) → r ≠ a := fun r ys e q => by rw [q, h1] at e; cases e
  refine ⟨rs ++ [t], by rw [h2 rs h1, List.map_append]; rfl, by simp [hl], fun k r y q1 q2 => ?_⟩
  by_cases e : k < rs.length
  · rw [List.getElem?_append_left e] at q1
    rw [List.getElem?_append_left (by omega)] at q2
    have := h3 k r y q1 q2
    exact s _ _ (ne _ _ this) this
  · have hk : k = rs.length := by
      have := (List.getElem?_eq_some_iff.mp q1).1
      simp at this
      omega
    rw [List.getElem?_append_right (by omega), hk, Nat.sub_self] at q1
    rw [List.getElem?_append_right (by omega), hk, hl, Nat.sub_self] at q2
    have e1 : t = r := Option.some.inj q1
    have e2 : x = y := Option.some.inj q2
    subst e1 e2
    exact s _ _ (ne _ _ ht) ht
/-! ### tuples that stay -/
theorem SqT.same {K : PySem.W.Frag} {H H' : Hp} {a : Addr} {xs : List V} (s : Same H H') (h : SqT K H a xs) : SqT K H' a xs := by
  rcases h with (h | ⟨o, h⟩) | h
  · exact .inl (.inl (s _ _ h))
  · exact .inl (.inr ⟨o, s _ _ h⟩)
  · exact .inr h
theorem SqT.but {K : PySem.W.Frag} {H H' : Hp} {a p : Addr} {xs : List V} {u : HO} (s : But p H H') (h : SqT K H a xs) (hp : H p = some u) (hu : (∀ ys, u ≠ .tup ys) ∧ ∀ o ys, u ≠ .frz o (.tup ys)) : SqT K H' a xs := by
  rcases h with (h | ⟨o, h⟩) | h
  · exact .inl (.inl (s _ _ (fun e => by rw [e, hp] at h; exact hu.1 _ (Option.some.inj h)) h))
  · exact .inl (.inr ⟨o, s _ _ (fun e => by rw [e, hp] at h; exact hu.2 _ _ (Option.some.inj h)) h⟩)
  · exact .inr h
/-- the words: a tuple of texts -/
def WdIs (K : PySem.W.Frag) (H : Hp) (v : V) (W : Wd) : Prop := ∃ a xs, v = .ref a ∧ SqT K H a xs ∧ xs.all flatV = true ∧ inV (Tx [112, 117, 116]) xs = W.pt ∧ inV (Tx [115, 116, 114, 105, 107, 101]) xs = W.st ∧ inV (Tx [116, 117, 114, 110]) xs = W.tn
theorem WdIs.same {K : PySem.W.Frag} {H H' : Hp} {v : V} {W : Wd} (h : WdIs K H v W) (s : Same H H') : WdIs K H' v W := by
  obtain ⟨a, xs, h1, h2, h3⟩ := h
  exact ⟨a, xs, h1, SqT.same s h2, h3⟩
theorem WdIs.but {K : PySem.W.Frag} {H H' : Hp} {v : V} {W : Wd} {p : Addr} {ys : List V} (h : WdIs K H v W) (s : But p H H') (hp : H p = some (.lst ys)) : WdIs K H' v W := by
  obtain ⟨a, xs, h1, h2, h3⟩ := h
  exact ⟨a, xs, h1, SqT.but s h2 hp ⟨(fun _ e => nomatch e), (fun _ _ e => nomatch e)⟩, h3⟩
/-! ### the object -/
end Ly

set_option maxHeartbeats 4000000
namespace Ly
/-! ### alike opening brackets: Catalan's numbers -/
section
variable {m c : Nat} (hc : c ∈ OPN)
include hc
end
end Ly

set_option maxHeartbeats 4000000
namespace Ly
open PySem PySem.Spec PyProof.Rows L2 SX
section
variable {X : Cx} {k j : Nat} {C : Addr} {x m : Str} {sp : Sp} {p pos : Pos}
end
end Ly

set_option maxHeartbeats 4000000
namespace Ly
/-! ### the least number with how many is the least number -/
def lo (x : MC) (n : Nat) : Prop := ∀ y, x = some y → n ≤ y.1
def hi (x : MC) (n : Nat) : Prop := ∃ y, x = some y ∧ y.1 ≤ n
theorem few_tns : ∀ c ∈ BRK, ∀ d ∈ BRK, (few c d).1 = tns c d := by decide
end Ly

set_option maxHeartbeats 4000000
namespace Ly
open PySem PySem.Spec PyProof.Rows L2 SX
/-! ### data in heaps -/
section
variable {K : PySem.W.Frag} {H : Hp} {Q : VK} {x y : V} {d e : PyData}
end
end Ly

set_option maxHeartbeats 4000000
namespace Ly
open PySem PySem.Spec PyProof.Rows L2 SX
/-! ### deeds -/
inductive Dw where
  | put (c : Nat)
  | str
  | trn (c : Nat)
  deriving DecidableEq
abbrev Deed := Nat × Dw
def Dw.w : Dw → List Nat
  | .put _ => [112, 117, 116]
  | .str => [115, 116, 114, 105, 107, 101]
  | .trn _ => [116, 117, 114, 110]
def Dw.s : Dw → List Nat
  | .put c => [c]
  | .str => []
  | .trn c => [c]
def Dw.isPut : Dw → Bool
  | .put _ => true
  | _ => false
def ddV (d : Deed) : List V := [.int (d.1 : Nat), Tx d.2.w, Tx d.2.s]
def putc (p : Nat) (d : Deed) : List Nat := if d.1 = p then (match d.2 with | .put c => [c] | _ => []) else []
def puts (ds : List Deed) (p : Nat) : List Nat := (ds.map (putc p)).flatten
def othD : List Deed → Nat → Option Dw
  | [], _ => none
  | d :: r, p => match othD r p with
    | some w => some w
    | none => if d.1 = p ∧ d.2.isPut = false then some d.2 else none
def mid (o : Option Dw) (x : List Nat) : List Nat := match o with
  | none => x
  | some w => w.s
def piece (l : List Nat) (ds : List Deed) (p : Nat) : List Nat := puts ds p ++ mid (othD ds p) ((l.drop p).take 1)
def app (d : Deed) (s : List Nat) : List Nat := match d.2 with
  | .put c => s.take d.1 ++ [c] ++ s.drop d.1
  | .str => s.eraseIdx d.1
  | .trn c => s.set d.1 c
def behind (l : List Nat) (ds : List Deed) : List Nat := ds.foldr app l
/-! ### lists of deeds in heaps -/
def ddD (d : Deed) : PyData := .tuple [.int (d.1 : Nat), .str (S d.2.w), .str (S d.2.s)]
def ddsD (ds : List Deed) : PyData := .list (ds.map ddD)
structure Dds (H : Hp) (a : Addr) (rs : List Addr) (ds : List Deed) : Prop where
  hd : H a = some (.lst (rs.map V.ref))
  len : rs.length = ds.length
  it : ∀ (k : Nat) (r : Addr) (d : Deed), rs[k]? = some r → ds[k]? = some d → H r = some (.tup (ddV d))
theorem Dds.same {H H' : Hp} {a : Addr} {rs : List Addr} {ds : List Deed} (h : Dds H a rs ds) (s : Same H H') : Dds H' a rs ds := ⟨s _ _ h.hd, h.len, fun k r d h1 h2 => s _ _ (h.it k r d h1 h2)⟩
theorem Dds.but {H H' : Hp} {a p : Addr} {rs : List Addr} {ds : List Deed} {ys : List V} (h : Dds H a rs ds) (s : But p H H') (hp : H p = some (.lst ys)) (hn : a ≠ p) : Dds H' a rs ds := by
  refine ⟨s _ _ hn h.hd, h.len, fun k r d h1 h2 => ?_⟩
  have := h.it k r d h1 h2
  exact s _ _ (fun e => by rw [e, hp] at this; cases this) this
theorem Dds.row {H : Hp} {a : Addr} {rs : List Addr} {ds : List Deed} (h : Dds H a rs ds) {k : Nat} (hk : k < ds.length) : ∃ r d, rs[k]? = some r ∧ ds[k]? = some d ∧ (rs.map V.ref)[k]? = some (V.ref r) ∧ H r = some (.tup (ddV d)) := by
  have e1 : rs[k]? = some (rs[k]'(by rw [h.len]; exact hk)) := List.getElem?_eq_getElem (by rw [h.len]; exact hk)
  have e2 : ds[k]? = some ds[k] := List.getElem?_eq_getElem hk
  exact ⟨_, _, e1, e2, by rw [List.getElem?_map, e1]; rfl, h.it k _ _ e1 e2⟩
theorem Dds.snoc {H H' : Hp} {a t : Addr} {rs : List Addr} {ds : List Deed} {d : Deed} (h : Dds H a rs ds) (ht : H t = some (.tup (ddV d))) (s : But a H H') (e : H' a = some (.lst (rs.map V.ref ++ [.ref t]))) : Dds H' a (rs ++ [t]) (ds ++ [d]) := by
  have ne : ∀ r ys, H r = some (.tup ys) → r ≠ a := fun r ys e q => by rw [q, h.hd] at e; cases e
  refine ⟨by rw [e, List.map_append]; rfl, by simp [h.len], fun k r y q1 q2 => ?_⟩
  by_cases hk : k < rs.length
  · rw [List.getElem?_append_left hk] at q1
    rw [List.getElem?_append_left (by rw [← h.len]; exact hk)] at q2
    have := h.it k r y q1 q2
    exact s _ _ (ne _ _ this) this
  · have hk : k = rs.length := by
      have := (List.getElem?_eq_some_iff.mp q1).1
      simp at this
      omega
    rw [List.getElem?_append_right (by omega), hk, Nat.sub_self] at q1
    rw [List.getElem?_append_right (by rw [← h.len]; omega), hk, h.len, Nat.sub_self] at q2
    have e1 : t = r := Option.some.inj q1
    have e2 : d = y := Option.some.inj q2
    subst e1 e2
    exact s _ _ (ne _ _ ht) ht
/-! ### one sign of a text by a slice -/
section
variable {K : PySem.W.Frag} {σ : L2.St} {H : Hp} {g : TG} {tb : TS} {D : Ends} {a b : Addr} {xs ys : List V}
end
end Ly

set_option maxHeartbeats 4000000
namespace Ly
/-! ### deeds as rows of steps -/
inductive Stp where
  | kp (c : Nat)
  | st (c : Nat)
  | tn (c d : Nat)
  | pt (d : Nat)
  deriving DecidableEq
def Stp.i : Stp → List Nat
  | .kp c => [c]
  | .st c => [c]
  | .tn c _ => [c]
  | .pt _ => []
def Stp.o : Stp → List Nat
  | .kp c => [c]
  | .st _ => []
  | .tn _ d => [d]
  | .pt d => [d]
def Stp.ok : Stp → Prop
  | .kp _ => True
  | .st c => c ∈ BRK
  | .tn c d => c ∈ BRK ∧ d ∈ BRK ∧ d ≠ c
  | .pt d => d ∈ BRK
def inS (α : List Stp) : List Nat := (α.map Stp.i).flatten
def outS (α : List Stp) : List Nat := (α.map Stp.o).flatten
def okS (α : List Stp) : Prop := ∀ s ∈ α, s.ok
theorem inS_cons (s : Stp) (α : List Stp) : inS (s :: α) = s.i ++ inS α := rfl
theorem outS_cons (s : Stp) (α : List Stp) : outS (s :: α) = s.o ++ outS α := rfl
/-! the row of steps of deeds -/
/-! ### deeds that lead back -/
/-! ### rows of old and new signs -/
section
open PySem PySem.Spec PyProof.Rows L2 SX
variable {X : Cx} {tg : Expr}
end
end Ly

set_option maxHeartbeats 4000000
namespace Ly
open PySem PySem.Spec PyProof.Rows L2 SX
/-! ### exceptions that are caught and kept -/
section
variable {X : Cx} {pins : List (Addr × Obj)} {σ : L2.St} {H : Hp} {s : Shared}
end
section
variable {X : Cx} {x n : Str} {c : Value} {i : Nat} {body suite : List Stmt} {b₀ : Stmt} {np pos pos' : Pos} {tb : WX → TS} {ts : Addr → Value → Option Addr → TS} {Wout : WX}
end
/-! isinstance of a kept exception -/
section
variable {X : Cx}
end
/-! defs that raise -/
section
variable {P : Program} {w : World} {K : PySem.W.Frag} {mg : Str → Option Value} {base : Heap}
end
def tOwnX (sp : Sp) (W : WX) (t : TA) : TE := fun σ H Q => t σ H fun vs H1 => sp vs H1 Q (fun cls d H2 => W cls d σ H2)
def tMetX (C : Addr) (m : Str) (sp : Sp) (W : WX) (ta : TE) (t : TA) : TE := fun σ H Q => ta σ H fun x H1 => rMetO C m x H1 (t σ H1 fun vs H2 => sp (x :: vs) H2 Q (fun cls d H2 => W cls d σ H2))
section
variable {X : Cx} {k j : Nat} {C : Addr} {x m : Str} {sp : Sp} {p pos apos : Pos} {e o : Expr} {es : List Expr} {ta : TE} {t : TA} {W : WX}
end
/-! what is known of an error's class -/
/-! readings -/
section
variable {K : PySem.W.Frag} {H : Hp} {Q : VK} {a D : Addr}
end
end Ly

set_option maxHeartbeats 4000000
namespace Ly
open PySem PySem.Spec PyProof.Rows L2 SX
/-! ### promises that stand where nothing is being shown: repr -/
structure FnG (P : Program) (w : World) (K : PySem.W.Frag) (mg : Str → Option Value) (base : Heap) (CX : CXT) (k : Nat) (f : Addr) (fd : FuncData) (ps : List Str) (sp : Sp) : Prop where
  len : ∀ vs H Q E, sp vs H Q E → vs.length = ps.length
  run : ∀ (A : Around) (outer : List Env) (s : Shared) (H : Hp) (args : Args) (us : List Value) (vs : List V) (Q : VK) (E : XK), Room k A → A.guards = some [] → Env0 P w K mg base A outer s H → BindsTo s fd args (ps.zip us) → Vals vs us → sp vs H Q E →
    codeAny (model P w) A (.call (.ref f) args) (CR CX outer P w H s Q E) s
section
variable {P : Program} {w : World} {K : PySem.W.Frag} {mg : Str → Option Value} {base : Heap}
theorem fnG_of {CX : CXT} {x q : Str} {st : Stmt} {f : Addr} {fd : FuncData} {N ps : List Str} {k : Nat} {sp : Sp} (F : FunD K x q (defArgs st) (defBody st) (defScope st) [] [] f fd) (S : FnScope N ps (defScope st)) (len : ∀ vs H Q E, sp vs H Q E → vs.length = ps.length)
    (hbody : ∀ (cdv : Value) (A : Around) (outer : List Env) (s : Shared) (H : Hp) (vs : List V) (Q : VK) (E : XK), Room k (A.deeper (envOfC q (defScope st) s.heap.objs.size f cdv)) → A.guards = some [] → sp vs H Q E →
      ∃ t, PSs (cxOf CX P w K mg base N q (defScope st) f cdv A outer s H E) (defBody st) t ∧ t { nx := fun _ H' => Q .non H', rt := Q } (start N vs) H) : FnG P w K mg base CX (k + 1) f fd ps sp := by
  obtain ⟨oc, od, dV, kV, doc, pm, an, cdv, ct, osl, rfl, lk, hcd, _, _⟩ := F.ex
  refine ⟨len, fun A outer s H args us vs Q E hr hg e0 hb r hsp => ?_⟩
  have stay : ∀ b o, base.get? b = some o → s.heap.get? b = some o := fun b o e => (e0.bs b o e).1
  have inK : K.In s.heap := e0.mod.kin.keeps stay
  have nl : s.heap.NoLimit := e0.mod.nolimit.keeps stay
  obtain ⟨t, ht, hq⟩ := hbody cdv A outer s H vs Q E (hr.deeper _) hg hsp
  refine codeAny_call_function hr.depth (inK _ _ lk) rfl S.co S.gen rfl (PySem.W.codeRec_of inK hcd) (hb _ _ _ _ (wpAny_newFunctionEnv_cells S.kind (fun y hy => (S.par y.1 (List.of_mem_zip hy).1).imp_right fun z => ⟨z, PySem.W.cellsFrom_some _ _ _ (.inl z)⟩) fun env he s1 new => ?_))
  subst he
  refine ⟨nl.keeps new.toInCall.keep, codeAny_func (wpAny_mono (ht.run [] s1 (start N vs) H _ (inv_start S hr.hd e0 (len _ _ _ _ hsp) r new) hq) (fun fl s' hs => ?_) fun e s' hs => hs)⟩
  match fl, hs with
  | .ret u, ⟨v, _, H', J, rv, z⟩ => exact ⟨v, H', J.os, J.bare, J.base, J.hok, rv, z⟩
  | .next, ⟨_, H', J, z⟩ => exact ⟨V.non, H', J.os, J.bare, J.base, J.hok, rfl, z⟩
  | .brk, ⟨_, _, _, z⟩ => exact False.elim z
  | .cont, ⟨_, _, _, z⟩ => exact False.elim z
theorem fnDG {x : Str} {st : Stmt} {f : Addr} {fd : FuncData} {N ps : List Str} {k : Nat} {sp : Sp} (F : FunD K x x (defArgs st) (defBody st) (defScope st) [] [] f fd) (S : FnScope N ps (defScope st)) (len : ∀ vs H Q E, sp vs H Q E → vs.length = ps.length)
    (hbody : ∀ (cdv : Value) (A : Around) (outer : List Env) (s : Shared) (H : Hp) (vs : List V) (Q : VK) (E : XK), Room k (A.deeper (envOfC x (defScope st) s.heap.objs.size f cdv)) → A.guards = some [] → sp vs H Q E →
      ∃ t, PSs (cxOf C8.CX0 P w K mg base N x (defScope st) f cdv A outer s H E).nox (defBody st) t ∧ t { nx := fun _ H' => Q .non H', rt := Q } (start N vs) H) : FnG P w K mg base C8.CX0 (k + 1) f fd ps sp := by
  refine fnG_of F S len fun cdv A outer s H vs Q E hr hg hsp => ?_
  obtain ⟨t, h, q⟩ := hbody cdv A outer s H vs Q E hr hg hsp
  exact ⟨t, h.nox, q⟩
/-- a def that may be called where nothing is being shown -/
structure CalG (P : Program) (w : World) (K : PySem.W.Frag) (mg : Str → Option Value) (base : Heap) (k : Nat) (x : Str) (sp : Sp) : Prop where
  ex : ∃ (f : Addr) (fd : FuncData) (ps : List Str), FnG P w K mg base C8.CX0 k f fd ps sp ∧ mg x = some (.ref f) ∧ PySem.W.keepIn K (.ref f) = true ∧ Binds K fd ps []
theorem calDG {x : Str} {st : Stmt} {N ps : List Str} {k : Nat} {sp : Sp} (D : DefAt K mg x st ps) (S : FnScope N ps (defScope st)) (len : ∀ vs H Q E, sp vs H Q E → vs.length = ps.length)
    (hbody : ∀ (f : Addr) (cdv : Value) (A : Around) (outer : List Env) (s : Shared) (H : Hp) (vs : List V) (Q : VK) (E : XK), Room k (A.deeper (envOfC x (defScope st) s.heap.objs.size f cdv)) → A.guards = some [] → sp vs H Q E →
      ∃ t, PSs (cxOf C8.CX0 P w K mg base N x (defScope st) f cdv A outer s H E).nox (defBody st) t ∧ t { nx := fun _ H' => Q .non H', rt := Q } (start N vs) H) : CalG P w K mg base (k + 1) x sp := by
  obtain ⟨f, fd, F, hm, b⟩ := D
  exact ⟨f, fd, ps, fnDG F S len (hbody f), hm, F.kp, b⟩
end
/-! ### the law's call -/
section
variable {P : Program} {w : World} {K : PySem.W.Frag} {mg mb : Str → Option Value} {k : Nat} {fa a : Addr} {fd : FuncData} {x : Str} {sp : Sp} {s₁ : Shared} {vs : List Value} {ns : List Int}
theorem callG {H : Hp} (KX : K.In s₁.heap) (hns : s₁.heap.Ns mainGlobals mg) (hb : s₁.heap.Ns builtinsNs mb) (hbb : ∀ x : Str, x ≠ "__name__" → mb x = bootBuiltins x) (hlim : s₁.heap.NoLimit) (hg : s₁.gens = #[]) (hr : Room k callerA)
    (F : ∀ base : Heap, K.In base → base.Ns mainGlobals mg → FnG P w K mg base C8.CX0 k fa fd [x] sp) (hbind : ∀ (s : Shared) (u : Value), BindsTo s fd ⟨[u], []⟩ [(x, u)])
    (hO : Only H) (hok : HOk P w H s₁.heap) (noD : ∀ (b : Addr) (o : Obj) (es : Array DictEntry) (ep : Nat), s₁.heap.get? b = some o → o.data = .dict es ep → H b = none) (noK : ∀ b o, K.lookup b = some o → H b = none)
    (hsp : sp [.ref a] H (fun v _ => v = .bl true) fun _ _ _ => False) :
    codeAny (model P w) callerA (.call (.ref fa) ⟨[.ref a], []⟩) (fun r s' => r = .ok (.ret (.bool true)) ∧ OldK s₁.heap s'.heap ∧ s'.os = s₁.os ∧ AllBare s'.gens) s₁ := by
  have ns2 : ∀ {b : Addr} {m : Str → Option Value}, s₁.heap.Ns b m → (hidT s₁.heap H).Ns b m := fun ⟨o, es, ep, e, d, r⟩ => ⟨o, es, ep, hidT_get e (noD _ _ _ _ e d), d, r⟩
  have inK : K.In (hidT s₁.heap H) := fun b o e => hidT_get (KX b o e) (noK b o e)
  have env : Env0 P w K mg (hidT s₁.heap H) callerA [] s₁ H := ⟨rfl, ⟨inK, ns2 hns, ⟨mb, ns2 hb, hbb⟩, hlim.imp fun mc z => ⟨ns2 z.1, z.2⟩⟩, fun b o e => of_hidT e, Nat.le_of_eq (hidT_size _ _), trivial, (fun b hb => nomatch hb), hok, .of_eq hg⟩
  refine codeAny_mono ((F _ inK (ns2 hns)).run callerA [] s₁ H ⟨[.ref a], []⟩ [.ref a] [.ref a] _ _ hr rfl env (hbind s₁ (.ref a)) (.cons rfl .nil) hsp) fun r s' h => ?_
  match r, h with
  | .error e, h => exact h.elim
  | .ok .next, h => exact h.elim
  | .ok .brk, h => exact h.elim
  | .ok .cont, h => exact h.elim
  | .ok (.ret u), ⟨v, H', os, bare, un, hok', r', q⟩ =>
    obtain rfl : v = .bl true := q
    obtain rfl : u = Value.bool true := r'
    refine ⟨rfl, OldK.of_keep fun b o e => ?_, os, bare⟩
    rcases hO b with z | ⟨ob, xs, z⟩
    · exact un.keep b o e z (fun hb => nomatch hb) (by simp)
    · have e1 := (hok b _ z).1
      rw [e] at e1
      cases e1
      exact (hok' b _ (un.frzs b _ _ z)).1
theorem law_callG (KX : K.In s₁.heap) (hns : s₁.heap.Ns mainGlobals mg) (hb : s₁.heap.Ns builtinsNs mb) (hbb : ∀ x : Str, x ≠ "__name__" → mb x = bootBuiltins x) (hlim : s₁.heap.NoLimit) (hg : s₁.gens = #[])
    (ha : s₁.heap.get? a = some { cls := .type "list", data := .seq vs.toArray }) (hi : IntsAre vs ns) (hl : ns.length ≤ sizeLine) (hr : Room k callerA)
    (F : ∀ base : Heap, K.In base → base.Ns mainGlobals mg → FnG P w K mg base C8.CX0 k fa fd [x] sp) (hbind : ∀ (s : Shared) (u : Value), BindsTo s fd ⟨[u], []⟩ [(x, u)])
    (hsp : ∀ H : Hp, Only H → SqL K H a (ns.map V.int) → sp [.ref a] H (fun v _ => v = .bl true) fun _ _ _ => False) :
    codeAny (model P w) callerA (.call (.ref fa) ⟨[.ref a], []⟩) (fun r s' => r = .ok (.ret (.bool true)) ∧ OldK s₁.heap s'.heap ∧ s'.os = s₁.os ∧ AllBare s'.gens) s₁ := by
  have go : ∀ {H : Hp}, Only H → HOk P w H s₁.heap → (∀ b, H b ≠ none → b = a) → (∀ b o, K.lookup b = some o → H b = none) → SqL K H a (ns.map V.int) → codeAny (model P w) callerA (.call (.ref fa) ⟨[.ref a], []⟩) (fun r s' => r = .ok (.ret (.bool true)) ∧ OldK s₁.heap s'.heap ∧ s'.os = s₁.os ∧ AllBare s'.gens) s₁ := by
    intro H hO hok hA noK sq
    refine callG KX hns hb hbb hlim hg hr F hbind hO hok (fun b o es ep e d => Classical.byContradiction fun z => ?_) noK (hsp H hO sq)
    cases hA b z
    rw [ha] at e
    cases e
    cases d
  cases hk : K.lookup a with
  | some o =>
    have e := KX a o hk
    rw [ha] at e
    cases e
    exact go (H := fun _ => none) (fun _ => .inl rfl) (fun b u z => nomatch z) (fun b z => absurd rfl z) (fun _ _ _ => rfl) (.inr ⟨_, vs.toArray, _, hk, rfl, rfl, rfl, by rw [List.size_toArray, hi.length]; exact hl, by simpa using vals_ints hi⟩)
  | none =>
    let o : Obj := { cls := .type "list", data := .seq vs.toArray }
    let H : Hp := fun b => if b = a then some (.frz o (.lst (ns.map V.int))) else none
    have at_ : H a = some (.frz o (.lst (ns.map V.int))) := if_pos rfl
    have off : ∀ {b}, b ≠ a → H b = none := fun h => if_neg h
    refine go (H := H) (fun b => (Classical.em (b = a)).elim (fun e => .inr ⟨_, _, e ▸ at_⟩) fun e => .inl (off e)) (fun b u z => ?_) (fun b z => Classical.byContradiction fun e => z (off e)) (fun b u z => off fun e => ?_) (.inl (.inr ⟨o, at_⟩))
    · rcases Classical.em (b = a) with e | e
      · subst e
        rw [at_] at z
        cases z
        exact ⟨ha, by rw [List.length_map]; exact hl, vs, _, vals_ints hi, ha⟩
      · rw [off e] at z
        cases z
    · subst e
      rw [hk] at z
      cases z
end
theorem walkG {l : PySem.W.OpenLaw} {n k : Nat} {q : Program} {loose : List Str} {XP : (Str → Option Value) → Heap → Prop} {YP : World → Heap → Prop} {d : DefRec} {x : Str}
    (hn : l.most = some n) (hn2 : n ≤ sizeLine) (hdf : d.params.defaults = []) (hr : Room k callerA)
    (F : ∀ (w : World) (mg : Str → Option Value) (fa : Addr) (h : Heap), YP w h → h.Ns mainGlobals mg → mg d.name = some (.ref fa) →
      ∃ (K : PySem.W.Frag) (fd : FuncData) (sp : Sp), K.In h ∧ (∀ (s : Shared) (u : Value), BindsTo s fd ⟨[u], []⟩ [(x, u)]) ∧
        (∀ (H : Hp) (a : Addr) (ns : List Int), ns.length ≤ n → Only H → SqL K H a (ns.map V.int) → sp [.ref a] H (fun v _ => v = .bl true) fun _ _ _ => False) ∧
        ∀ base : Heap, K.In base → base.Ns mainGlobals mg → FnG l.prog w K mg base C8.CX0 k fa fd [x] sp) :
    PySem.W.WalkO q loose XP YP l.row.toRowW d [] (fun f vs => PySem.call f vs) := by
  refine Att.attach_call hn hdf fun w s₀ s₁ mg mb fa o pm cd doc a vs ns G Y ho hd hcd hmg hobj hints hlen hg => ?_
  obtain ⟨K, fd, sp, KX, hb, hsp, hF⟩ := F w mg fa _ Y G.T.g hmg
  exact law_callG KX G.T.g G.T.b G.T.builtins G.T.nolimit hg hobj hints (Nat.le_trans hlen hn2) hr hF hb fun H hO hS => hsp H a ns hlen hO hS
/-! ### repr of data -/
section
variable {X : Cx}
end
/-! lists of small numbers -/
end Ly

set_option maxHeartbeats 4000000
namespace Ly
open PySem PySem.Spec PyProof.Rows L2 SX
/-! ### paths, depths, the nests within a nest -/
/-! ways of the maker -/
section
variable {fs : List (List Nd × Nat)} {cur ds : List Nd} {c o : Nat}
end
/-! what a path leads to -/
def Rch : List Nd → List Nat → Nd → Prop
  | _, [], _ => False
  | ds, [k], d => ds[k]? = some d
  | ds, k :: j :: p, d => ∃ o es, ds[k]? = some (.br o es) ∧ Rch es (j :: p) d
theorem Rch.cons {ds es : List Nd} {k o : Nat} {p : List Nat} {d : Nd} (h : ds[k]? = some (.br o es)) (r : Rch es p d) : Rch ds (k :: p) d := by
  cases p with
  | nil => exact r.elim
  | cons j p => exact ⟨o, es, h, r⟩
/-! the text within -/
/-! an opening sign of a nest's text opens the nest that stands there in the row of nests within -/
end Ly

set_option maxHeartbeats 4000000
namespace Ly
open PySem PySem.Spec PyProof.Rows L2 SX
/-! ### len(set) of tuples of ints -/
/-! ### nests side by side -/
/-! paths: all different, each behind the one it goes on from -/
/-! outlines side by side, within -/
end Ly

set_option maxHeartbeats 4000000
namespace Ly
/-! ### all rows of steps with so many deeds, counted -/
def Stp.wd (W : Wd) : Stp → Prop
  | .kp _ => True
  | .st _ => W.st = true
  | .tn _ _ => W.tn = true
  | .pt _ => W.pt = true
def cstS : List Stp → Nat
  | [] => 0
  | .kp _ :: α => cstS α
  | .st _ :: α => cstS α + 1
  | .tn _ _ :: α => cstS α + 1
  | .pt _ :: α => cstS α + 1
/-- all rows of steps by words, from a pile of awaited ones, over a text, with so many deeds, in order -/
def rowsL (W : Wd) (st r : List Nat) (n : Nat) : List (List Stp) :=
  (match n with
   | 0 => []
   | n + 1 => if W.pt = true then BRK.flatMap fun c => (match stp (some st) c with | none => [] | some s => rowsL W s r n).map (Stp.pt c :: ·) else [])
  ++ (match r with
   | [] => if st = [] ∧ n = 0 then [[]] else []
   | x :: r => if x ∈ BRK then
        (match n with
         | 0 => []
         | n + 1 => (if W.st = true then (rowsL W st r n).map (Stp.st x :: ·) else []) ++ (if W.tn = true then (BRK.filter (· ≠ x)).flatMap fun c => (match stp (some st) c with | none => [] | some s => rowsL W s r n).map (Stp.tn x c :: ·) else []))
        ++ (match stp (some st) x with | none => [] | some s => rowsL W s r n).map (Stp.kp x :: ·)
      else (rowsL W st r n).map (Stp.kp x :: ·))
termination_by n + r.length
/-! series -/
abbrev Ser := Nat → Nat
def sh (f : Ser) : Ser := fun n => match n with | 0 => 0 | n + 1 => f n
def gat (b : Bool) (f : Ser) : Ser := fun n => if b = true then f n else 0
def oA (f : List Nat → Ser) (o : Option (List Nat)) : Ser := fun n => match o with | none => 0 | some s => f s n
def bS (cs : List Nat) (f : Nat → Ser) : Ser := fun n => (cs.map fun c => f c n).sum
def An (W : Wd) (st r : List Nat) : Ser := fun n => (rowsL W st r n).length
def pA (W : Wd) (st r : List Nat) : Ser := sh (gat W.pt (bS BRK fun c => oA (fun s => An W s r) (stp (some st) c)))
theorem len_oA {W : Wd} {r : List Nat} {n : Nat} (o : Option (List Nat)) (f : List Stp → List Stp) : ((match o with | none => [] | some s => rowsL W s r n).map f).length = oA (fun s => An W s r) o n := by
  cases o with
  | none => rfl
  | some s => rw [List.length_map]; rfl
theorem len_bS {W : Wd} {r st : List Nat} {n : Nat} (cs : List Nat) (f : Nat → List Stp → List Stp) : (cs.flatMap fun c => (match stp (some st) c with | none => [] | some s => rowsL W s r n).map (f c)).length = bS cs (fun c => oA (fun s => An W s r) (stp (some st) c)) n := by
  rw [List.length_flatMap]
  unfold bS
  congr 1
  exact List.map_congr_left fun c _ => len_oA _ _
theorem pA_len {W : Wd} {r st : List Nat} {n : Nat} : (match n with
   | 0 => []
   | n + 1 => if W.pt = true then BRK.flatMap fun c => (match stp (some st) c with | none => [] | some s => rowsL W s r n).map (Stp.pt c :: ·) else []).length = pA W st r n := by
  cases n with
  | zero => rfl
  | succ n =>
    unfold pA sh gat
    dsimp only
    by_cases h : W.pt = true
    · rw [if_pos h, if_pos h, len_bS]
    · rw [if_neg h, if_neg h]; rfl
theorem An_nil (W : Wd) (st : List Nat) (n : Nat) : An W st [] n = pA W st [] n + if st = [] ∧ n = 0 then 1 else 0 := by
  show (rowsL W st [] n).length = _
  rw [rowsL.eq_def, List.length_append, pA_len]
  dsimp only
  by_cases h : st = [] ∧ n = 0
  · rw [if_pos h, if_pos h]; rfl
  · rw [if_neg h, if_neg h]; rfl
theorem An_let {W : Wd} {x : Nat} (hx : x ∉ BRK) (st r : List Nat) (n : Nat) : An W st (x :: r) n = pA W st (x :: r) n + An W st r n := by
  show (rowsL W st (x :: r) n).length = _
  rw [rowsL.eq_def, List.length_append, pA_len]
  dsimp only
  rw [if_neg hx, List.length_map]
  rfl
def tA (W : Wd) (st : List Nat) (x : Nat) (r : List Nat) : Ser := sh fun n => gat W.st (An W st r) n + gat W.tn (bS (BRK.filter (· ≠ x)) fun c => oA (fun s => An W s r) (stp (some st) c)) n
theorem An_brk {W : Wd} {x : Nat} (hx : x ∈ BRK) (st r : List Nat) (n : Nat) : An W st (x :: r) n = pA W st (x :: r) n + (tA W st x r n + oA (fun s => An W s r) (stp (some st) x) n) := by
  show (rowsL W st (x :: r) n).length = _
  rw [rowsL.eq_def, List.length_append, pA_len]
  dsimp only
  rw [if_pos hx, List.length_append, len_oA]
  congr 2
  cases n with
  | zero => rfl
  | succ n =>
    dsimp only [tA, sh]
    rw [List.length_append]
    congr 1
    · unfold gat
      by_cases h : W.st = true
      · rw [if_pos h, if_pos h, List.length_map]; rfl
      · rw [if_neg h, if_neg h]; rfl
    · unfold gat
      by_cases h : W.tn = true
      · rw [if_pos h, if_pos h, len_bS]
      · rw [if_neg h, if_neg h]; rfl
/-! products -/
def cv : Ser → Ser → Ser
  | f, g, 0 => f 0 * g 0
  | f, g, n + 1 => f 0 * g (n + 1) + cv (fun a => f (a + 1)) g n
theorem cv_add (f f' g : Ser) : ∀ n, cv (fun a => f a + f' a) g n = cv f g n + cv f' g n := by
  intro n
  induction n generalizing f f' with
  | zero => exact Nat.add_mul _ _ _
  | succ n ih => rw [cv, cv, cv, ih, Nat.add_mul]; omega
theorem cv_addR (f g g' : Ser) : ∀ n, cv f (fun a => g a + g' a) n = cv f g n + cv f g' n := by
  intro n
  induction n generalizing f with
  | zero => exact Nat.mul_add _ _ _
  | succ n ih => rw [cv, cv, cv, ih, Nat.mul_add]; omega
theorem cv_zero (g : Ser) : ∀ n, cv (fun _ => 0) g n = 0 := by
  intro n
  induction n with
  | zero => exact Nat.zero_mul _
  | succ n ih => rw [cv, ih, Nat.zero_mul]
theorem cv_zeroR (f : Ser) : ∀ n, cv f (fun _ => 0) n = 0 := by
  intro n
  induction n generalizing f with
  | zero => exact Nat.mul_zero _
  | succ n ih => rw [cv, ih, Nat.mul_zero]
theorem cv_sh (f g : Ser) (n : Nat) : cv (sh f) g n = sh (cv f g) n := by
  cases n with
  | zero => exact Nat.zero_mul _
  | succ n => show sh f 0 * g (n + 1) + cv (fun a => f a) g n = cv f g n; rw [show sh f 0 = 0 from rfl, Nat.zero_mul, Nat.zero_add]
theorem cv_one (g : Ser) (n : Nat) : cv (fun a => if a = 0 then 1 else 0) g n = g n := by
  cases n with
  | zero => exact Nat.one_mul _
  | succ n =>
    show 1 * g (n + 1) + cv (fun a => if a + 1 = 0 then 1 else 0) g n = g (n + 1)
    rw [show (fun a : Nat => if a + 1 = 0 then 1 else 0) = fun _ => 0 from funext fun a => if_neg (by omega), cv_zero]
    omega
theorem cv_shR (f g : Ser) : ∀ n, cv f (sh g) n = sh (cv f g) n := by
  intro n
  induction n generalizing f with
  | zero => exact Nat.mul_zero _
  | succ n ih =>
    rw [cv, ih]
    cases n with
    | zero => show f 0 * g 0 + 0 = f 0 * g 0; omega
    | succ n => rfl
theorem cv_pos {f g : Ser} : ∀ {n : Nat}, cv f g n ≠ 0 ↔ ∃ a b, a + b = n ∧ f a ≠ 0 ∧ g b ≠ 0 := by
  intro n
  induction n generalizing f with
  | zero =>
    constructor
    · intro h
      exact ⟨0, 0, rfl, fun e => h (by show f 0 * g 0 = 0; rw [e, Nat.zero_mul]), fun e => h (by show f 0 * g 0 = 0; rw [e, Nat.mul_zero])⟩
    · rintro ⟨a, b, e, h1, h2⟩
      have ea : a = 0 := by omega
      have eb : b = 0 := by omega
      subst ea eb
      exact Nat.mul_ne_zero h1 h2
  | succ n ih =>
    rw [cv]
    constructor
    · intro h
      by_cases h0 : f 0 * g (n + 1) = 0
      · have h1 : cv (fun a => f (a + 1)) g n ≠ 0 := by omega
        obtain ⟨a, b, e, ha, hb⟩ := ih.mp h1
        exact ⟨a + 1, b, by omega, ha, hb⟩
      · exact ⟨0, n + 1, by omega, fun e => h0 (by rw [e, Nat.zero_mul]), fun e => h0 (by rw [e, Nat.mul_zero])⟩
    · rintro ⟨a, b, e, ha, hb⟩
      cases a with
      | zero =>
        have eb : b = n + 1 := by omega
        subst eb
        have := Nat.mul_ne_zero ha hb
        omega
      | succ a =>
        have := (ih (f := fun a => f (a + 1))).mpr ⟨a, b, by omega, ha, hb⟩
        omega
/-- over all ways to part a text in two -/
def SP (f g : List Nat → Ser) : List Nat → Ser
  | [] => cv (f []) (g [])
  | x :: r => fun n => cv (f []) (g (x :: r)) n + SP (fun u => f (x :: u)) g r n
theorem SP_congr {f f' g g' : List Nat → Ser} : ∀ {r : List Nat}, (∀ u v, u ++ v = r → f u = f' u) → (∀ u v, u ++ v = r → g v = g' v) → SP f g r = SP f' g' r
  | [], h1, h2 => by rw [SP, SP, h1 [] [] rfl, h2 [] [] rfl]
  | x :: r, h1, h2 => by
    funext n
    rw [SP, SP, h1 [] (x :: r) rfl, h2 [] (x :: r) rfl, SP_congr (f := fun u => f (x :: u)) (f' := fun u => f' (x :: u)) (fun u v e => h1 (x :: u) v (by rw [List.cons_append, e])) (fun u v e => h2 (x :: u) v (by rw [List.cons_append, e]))]
theorem SP_add (f f' g : List Nat → Ser) : ∀ (r : List Nat) (n : Nat), SP (fun u a => f u a + f' u a) g r n = SP f g r n + SP f' g r n
  | [], n => cv_add _ _ _ n
  | x :: r, n => by
    show cv (fun a => f [] a + f' [] a) _ n + SP (fun u a => f (x :: u) a + f' (x :: u) a) g r n = _
    rw [cv_add, SP_add (fun u => f (x :: u)) (fun u => f' (x :: u)) g r n, SP, SP]
    dsimp only
    omega
theorem SP_addR (f g g' : List Nat → Ser) : ∀ (r : List Nat) (n : Nat), SP f (fun v a => g v a + g' v a) r n = SP f g r n + SP f g' r n := by
  intro r
  induction r generalizing f with
  | nil => intro n; exact cv_addR _ _ _ n
  | cons x r ih =>
    intro n
    show cv _ (fun a => g (x :: r) a + g' (x :: r) a) n + SP (fun u => f (x :: u)) (fun v a => g v a + g' v a) r n = _
    rw [cv_addR, ih, SP, SP]
    dsimp only
    omega
theorem SP_zero (g : List Nat → Ser) : ∀ (r : List Nat) (n : Nat), SP (fun _ _ => 0) g r n = 0
  | [], n => cv_zero _ n
  | x :: r, n => by
    show cv (fun _ => 0) _ n + SP (fun _ _ => 0) g r n = 0
    rw [cv_zero, SP_zero g r n]
theorem SP_sh (f g : List Nat → Ser) : ∀ (r : List Nat) (n : Nat), SP (fun u => sh (f u)) g r n = sh (SP f g r) n := by
  intro r
  induction r generalizing f with
  | nil => intro n; exact cv_sh _ _ n
  | cons x r ih =>
    intro n
    show cv (sh (f [])) _ n + SP (fun u => sh (f (x :: u))) g r n = _
    rw [cv_sh, ih (fun u => f (x :: u))]
    cases n <;> rfl
theorem SP_gat (b : Bool) (f g : List Nat → Ser) (r : List Nat) (n : Nat) : SP (fun u => gat b (f u)) g r n = gat b (SP f g r) n := by
  cases b with
  | true => rfl
  | false => exact SP_zero g r n
theorem SP_bS (cs : List Nat) (f : Nat → List Nat → Ser) (g : List Nat → Ser) (r : List Nat) (n : Nat) : SP (fun u => bS cs fun c => f c u) g r n = bS cs (fun c => SP (f c) g r) n := by
  induction cs with
  | nil => exact SP_zero g r n
  | cons c cs ih =>
    have e : (fun u => bS (c :: cs) fun c => f c u) = fun u a => f c u a + bS cs (fun c => f c u) a := rfl
    rw [e, SP_add, ih]
    rfl
theorem SP_oA (f : List Nat → List Nat → Ser) (o : Option (List Nat)) (g : List Nat → Ser) (r : List Nat) (n : Nat) : SP (fun u => oA (fun s => f s u) o) g r n = oA (fun s => SP (f s) g r) o n := by
  cases o with
  | none => exact SP_zero g r n
  | some s => rfl
/-- closing what is awaited last, then the rest -/
def Cl (W : Wd) (k : Nat) (st v : List Nat) : Ser := fun n => sh (gat W.pt (An W st v)) n + match v with
  | [] => 0
  | x :: v => if x ∈ BRK then (if x = k then An W st v n else sh (gat W.tn (An W st v)) n) else 0
theorem stp_under {k : Nat} (hk : k ∈ CLO) (s st : List Nat) (c : Nat) : stp (some (s ++ k :: st)) c = match stp (some s) c with
    | some s' => some (s' ++ k :: st)
    | none => if s = [] ∧ c = k then some st else none := by
  unfold stp
  dsimp only
  by_cases h1 : c ∈ OPN
  · rw [if_pos h1, if_pos h1]; rfl
  · rw [if_neg h1, if_neg h1]
    by_cases h2 : c ∈ CLO
    · rw [if_pos h2, if_pos h2]
      cases s with
      | nil =>
        show (if k = c then some st else none) = if [] = [] ∧ c = k then some st else none
        by_cases e : k = c
        · rw [if_pos e, if_pos ⟨rfl, e.symm⟩]
        · rw [if_neg e, if_neg (fun h => e h.2.symm)]
      | cons d s =>
        show (if d = c then some (s ++ k :: st) else none) = _
        by_cases e : d = c
        · rw [if_pos e]; dsimp only; rw [if_pos e]
        · rw [if_neg e]; dsimp only; rw [if_neg e]; dsimp only; rw [if_neg (fun h => by cases h.1)]
    · rw [if_neg h2, if_neg h2]

/-- all but what is put first -/
def rA (W : Wd) (st : List Nat) : List Nat → Ser
  | [] => fun n => if st = [] ∧ n = 0 then 1 else 0
  | x :: r => fun n => if x ∈ BRK then tA W st x r n + oA (fun s => An W s r) (stp (some st) x) n else An W st r n
theorem An_eq (W : Wd) (st r : List Nat) (n : Nat) : An W st r n = pA W st r n + rA W st r n := by
  cases r with
  | nil => exact An_nil W st n
  | cons x r =>
    show _ = _ + (if x ∈ BRK then tA W st x r n + oA (fun s => An W s r) (stp (some st) x) n else An W st r n)
    by_cases h : x ∈ BRK
    · rw [if_pos h]; exact An_brk h st r n
    · rw [if_neg h]; exact An_let h st r n
theorem SP_pA (W : Wd) (s : List Nat) (g : List Nat → Ser) (r : List Nat) (n : Nat) : SP (pA W s) g r n = sh (gat W.pt (bS BRK fun c => oA (fun s' => SP (An W s') g r) (stp (some s) c))) n := by
  unfold pA
  rw [SP_sh]
  cases n with
  | zero => rfl
  | succ n =>
    show SP (fun u => gat W.pt _) g r n = gat W.pt _ n
    rw [SP_gat]
    unfold gat
    by_cases h : W.pt = true
    · rw [if_pos h, if_pos h, SP_bS BRK (fun c u => oA (fun s' => An W s' u) (stp (some s) c))]
      unfold bS
      congr 1
      exact List.map_congr_left fun c _ => SP_oA (fun s' u => An W s' u) _ g r n
    · rw [if_neg h, if_neg h]
theorem oA_under {W : Wd} {k : Nat} (hk : k ∈ CLO) {s st r : List Nat} {n c : Nat} {g : List Nat → Ser} (ih : ∀ s', An W (s' ++ k :: st) r n = SP (An W s') g r n) :
    oA (fun s => An W s r) (stp (some (s ++ k :: st)) c) n = oA (fun s' => SP (An W s') g r) (stp (some s) c) n + if s = [] ∧ c = k then An W st r n else 0 := by
  rw [stp_under hk]
  by_cases h : s = [] ∧ c = k
  · obtain ⟨rfl, rfl⟩ := h
    have e : stp (some []) c = none := by
      unfold stp
      dsimp only
      rw [if_neg (fun h => opn_clo c h hk), if_pos hk]
    rw [e]
    dsimp only
    rw [if_pos ⟨rfl, rfl⟩, if_pos ⟨rfl, rfl⟩]
    show An W st r n = 0 + An W st r n
    omega
  · rw [if_neg h, if_neg h]
    cases stp (some s) c with
    | none => rfl
    | some s' => exact ih s'
theorem bS_under {W : Wd} {k : Nat} (hk : k ∈ CLO) {s st r : List Nat} {n : Nat} {g : List Nat → Ser} (ih : ∀ s', An W (s' ++ k :: st) r n = SP (An W s') g r n) : ∀ cs : List Nat,
    bS cs (fun c => oA (fun s => An W s r) (stp (some (s ++ k :: st)) c)) n = bS cs (fun c => oA (fun s' => SP (An W s') g r) (stp (some s) c)) n + if s = [] then cs.count k * An W st r n else 0
  | [] => by unfold bS; simp
  | c :: cs => by
    have i := bS_under hk ih (s := s) cs
    have e1 : ∀ f : Nat → Ser, bS (c :: cs) f n = f c n + bS cs f n := fun f => rfl
    rw [e1, e1, i, oA_under hk ih, List.count_cons]
    by_cases h : s = []
    · rw [if_pos h, if_pos h]
      by_cases e : c = k
      · rw [if_pos ⟨h, e⟩, if_pos (by simp [e]), Nat.add_mul]; omega
      · rw [if_neg (fun q => e q.2), if_neg (by simp [e]), show List.count k cs + 0 = List.count k cs from rfl]; omega
    · rw [if_neg h, if_neg h, if_neg (fun q => h q.1)]; omega
theorem cnt_brk : ∀ k ∈ CLO, BRK.count k = 1 := by decide
theorem cnt_brkF : ∀ k ∈ CLO, ∀ x ∈ BRK, (BRK.filter (· ≠ x)).count k = if x = k then 0 else 1 := by decide
theorem first_ret {W : Wd} {k : Nat} (hk : k ∈ CLO) (st : List Nat) : ∀ (N n : Nat) (r s : List Nat), n + r.length ≤ N → An W (s ++ k :: st) r n = SP (An W s) (Cl W k st) r n := by
  intro N
  induction N with
  | zero =>
    intro n r s h
    have h1 : n = 0 := by omega
    have h2 : r = [] := List.length_eq_zero_iff.mp (by omega)
    subst h1 h2
    rw [An_nil]
    show 0 + (if s ++ k :: st = [] ∧ 0 = 0 then 1 else 0) = An W s [] 0 * (0 + 0)
    rw [if_neg (by simp)]; rfl
  | succ N ihN =>
    intro n r s h
    have eS : SP (An W s) (Cl W k st) r n = SP (pA W s) (Cl W k st) r n + SP (rA W s) (Cl W k st) r n := by
      rw [← SP_add]
      exact congrFun (SP_congr (fun u v e => funext fun a => An_eq W s u a) (fun u v e => rfl)) n
    have eP : pA W (s ++ k :: st) r n = SP (pA W s) (Cl W k st) r n + if s = [] then sh (gat W.pt (An W st r)) n else 0 := by
      rw [SP_pA]
      unfold pA
      cases n with
      | zero => show (0 : Nat) = 0 + _; split <;> rfl
      | succ n =>
        show gat W.pt _ n = gat W.pt _ n + if s = [] then gat W.pt (An W st r) n else 0
        unfold gat
        by_cases hp : W.pt = true
        · rw [if_pos hp, if_pos hp, if_pos hp, bS_under hk (g := Cl W k st) (fun s' => ihN n r s' (by omega)), cnt_brk k hk, Nat.one_mul]
        · rw [if_neg hp, if_neg hp, if_neg hp]; split <;> rfl
    have eB : ∀ r', cv (rA W s []) (Cl W k st r') n = if s = [] then Cl W k st r' n else 0 := fun r' => by
      by_cases hs : s = []
      · rw [if_pos hs]
        have : rA W s [] = fun a => if a = 0 then 1 else 0 := by
          funext a
          show (if s = [] ∧ a = 0 then 1 else 0) = _
          by_cases ha : a = 0
          · rw [if_pos ⟨hs, ha⟩, if_pos ha]
          · rw [if_neg (fun q => ha q.2), if_neg ha]
        rw [this, cv_one]
      · rw [if_neg hs]
        have : rA W s [] = fun _ => 0 := by
          funext a
          exact if_neg (fun q => hs q.1)
        rw [this, cv_zero]
    rw [eS, An_eq, eP]
    cases r with
    | nil =>
      have e0 : rA W (s ++ k :: st) [] n = 0 := if_neg (fun q => by simp at q)
      rw [e0]
      show _ = _ + cv (rA W s []) (Cl W k st []) n
      rw [eB]
      by_cases hs : s = []
      · rw [if_pos hs, if_pos hs]
        show _ = _ + (sh (gat W.pt (An W st [])) n + 0)
        omega
      · rw [if_neg hs, if_neg hs]
    | cons x r =>
      have eR : SP (rA W s) (Cl W k st) (x :: r) n = (if s = [] then Cl W k st (x :: r) n else 0) + SP (fun u => rA W s (x :: u)) (Cl W k st) r n := by
        show cv (rA W s []) (Cl W k st (x :: r)) n + _ = _
        rw [eB]
      rw [eR]
      have hl : n + r.length ≤ N := by rw [List.length_cons] at h; omega
      by_cases hx : x ∈ BRK
      · have e1 : rA W (s ++ k :: st) (x :: r) n = tA W (s ++ k :: st) x r n + oA (fun s => An W s r) (stp (some (s ++ k :: st)) x) n := if_pos hx
        have e2 : SP (fun u => rA W s (x :: u)) (Cl W k st) r n = SP (tA W s x) (Cl W k st) r n + oA (fun s' => SP (An W s') (Cl W k st) r) (stp (some s) x) n := by
          rw [← SP_oA (fun s' u => An W s' u), ← SP_add]
          exact congrFun (SP_congr (fun u v e => funext fun a => if_pos hx) (fun u v e => rfl)) n
        have e3 : tA W (s ++ k :: st) x r n = SP (tA W s x) (Cl W k st) r n + if s = [] ∧ x ≠ k then sh (gat W.tn (An W st r)) n else 0 := by
          unfold tA
          rw [SP_sh]
          cases n with
          | zero => show (0 : Nat) = 0 + _; split <;> rfl
          | succ n =>
            show gat W.st _ n + gat W.tn _ n = SP _ _ r n + if s = [] ∧ x ≠ k then gat W.tn (An W st r) n else 0
            rw [SP_add, SP_gat, SP_gat]
            have hi : ∀ s', An W (s' ++ k :: st) r n = SP (An W s') (Cl W k st) r n := fun s' => ihN n r s' (by omega)
            have a1 : gat W.st (An W (s ++ k :: st) r) n = gat W.st (SP (An W s) (Cl W k st) r) n := by unfold gat; rw [hi s]
            rw [a1]
            have a2 : gat W.tn (bS (BRK.filter (· ≠ x)) fun c => oA (fun s => An W s r) (stp (some (s ++ k :: st)) c)) n = gat W.tn (SP (fun u => bS (BRK.filter (· ≠ x)) fun c => oA (fun s => An W s u) (stp (some s) c)) (Cl W k st) r) n + if s = [] ∧ x ≠ k then gat W.tn (An W st r) n else 0 := by
              unfold gat
              by_cases ht : W.tn = true
              · rw [if_pos ht, if_pos ht, if_pos ht, bS_under hk hi, SP_bS _ (fun c u => oA (fun s => An W s u) (stp (some s) c)), cnt_brkF k hk x hx]
                congr 1
                · unfold bS
                  congr 1
                  exact List.map_congr_left fun c _ => (SP_oA (fun s' u => An W s' u) _ _ r n).symm
                · by_cases hs : s = []
                  · rw [if_pos hs]
                    by_cases hxk : x = k
                    · rw [if_pos hxk, if_neg (fun q => q.2 hxk), Nat.zero_mul]
                    · rw [if_neg hxk, if_pos ⟨hs, hxk⟩, Nat.one_mul]
                  · rw [if_neg hs, if_neg (fun q => hs q.1)]
              · rw [if_neg ht, if_neg ht, if_neg ht]; split <;> rfl
            rw [a2]
            omega
        rw [e1, e2, e3, oA_under hk (g := Cl W k st) (fun s' => ihN n r s' hl)]
        by_cases hs : s = []
        · rw [if_pos hs, if_pos hs]
          have e4 : Cl W k st (x :: r) n = sh (gat W.pt (An W st (x :: r))) n + if x = k then An W st r n else sh (gat W.tn (An W st r)) n := by
            unfold Cl
            dsimp only
            rw [if_pos hx]
          rw [e4]
          by_cases hxk : x = k
          · rw [if_neg (fun q => q.2 hxk), if_pos ⟨hs, hxk⟩, if_pos hxk]; omega
          · rw [if_pos ⟨hs, hxk⟩, if_neg (fun q => hxk q.2), if_neg hxk]; omega
        · rw [if_neg hs, if_neg hs, if_neg (fun q => hs q.1), if_neg (fun q => hs q.1)]; omega
      · have e1 : rA W (s ++ k :: st) (x :: r) n = An W (s ++ k :: st) r n := if_neg hx
        have e2 : SP (fun u => rA W s (x :: u)) (Cl W k st) r n = SP (An W s) (Cl W k st) r n := by
          exact congrFun (SP_congr (fun u v e => funext fun a => if_neg hx) (fun u v e => rfl)) n
        have e4 : Cl W k st (x :: r) n = sh (gat W.pt (An W st (x :: r))) n := by
          unfold Cl
          dsimp only
          rw [if_neg hx]
          rfl
        rw [e1, e2, e4, ihN n r s hl]
        by_cases hs : s = []
        · rw [if_pos hs]; omega
        · rw [if_neg hs]; omega
end Ly

set_option maxHeartbeats 4000000
namespace Ly
/-! ### the least number with how many, of a series -/
def Ld (f : Ser) (x : MC) : Prop := match x with
  | none => ∀ n, f n = 0
  | some p => f p.1 = p.2 ∧ p.2 ≠ 0 ∧ ∀ a, a < p.1 → f a = 0
theorem Ld.uniq {f : Ser} {x y : MC} (h1 : Ld f x) (h2 : Ld f y) : x = y := by
  cases x with
  | none =>
    cases y with
    | none => rfl
    | some q => exact absurd ((h1 q.1).symm.trans h2.1).symm h2.2.1
  | some p =>
    cases y with
    | none => exact absurd ((h2 p.1).symm.trans h1.1).symm h1.2.1
    | some q =>
      obtain ⟨a, m⟩ := p
      obtain ⟨b, k⟩ := q
      obtain ⟨u1, u2, u3⟩ := h1
      obtain ⟨v1, v2, v3⟩ := h2
      dsimp only at *
      have e : a = b := by
        rcases Nat.lt_trichotomy a b with h | h | h
        · exact absurd (u1.symm.trans (v3 a h)) u2
        · exact h
        · exact absurd (v1.symm.trans (u3 b h)) v2
      subst e
      rw [← u1, ← v1]
theorem Ld.congr {f g : Ser} {x : MC} (h : Ld f x) (e : ∀ n, f n = g n) : Ld g x := by
  have : f = g := funext e
  rw [← this]
  exact h
theorem Ld_zero : Ld (fun _ => 0) none := fun _ => rfl
theorem Ld_add {f g : Ser} {x y : MC} (h1 : Ld f x) (h2 : Ld g y) : Ld (fun n => f n + g n) (mAdd x y) := by
  cases x with
  | none => exact h2.congr fun n => by rw [h1 n, Nat.zero_add]
  | some p =>
    cases y with
    | none => exact Ld.congr (x := some p) h1 fun n => by rw [h2 n, Nat.add_zero]
    | some q =>
      obtain ⟨a, m⟩ := p
      obtain ⟨b, k⟩ := q
      obtain ⟨u1, u2, u3⟩ := h1
      obtain ⟨v1, v2, v3⟩ := h2
      dsimp only at *
      unfold mAdd
      dsimp only
      by_cases h : a < b
      · rw [if_pos h]
        exact ⟨by show f a + g a = m; rw [u1, v3 a h]; rfl, u2, fun c hc => by show f c + g c = 0; rw [u3 c hc, v3 c (Nat.lt_trans hc h)]⟩
      · rw [if_neg h]
        by_cases h' : b < a
        · rw [if_pos h']
          exact ⟨by show f b + g b = k; rw [v1, u3 b h', Nat.zero_add], v2, fun c hc => by show f c + g c = 0; rw [v3 c hc, u3 c (Nat.lt_trans hc h')]⟩
        · rw [if_neg h']
          have e : a = b := by omega
          subst e
          exact ⟨by show f a + g a = m + k; rw [u1, v1], by show m + k ≠ 0; omega, fun c hc => by show f c + g c = 0; rw [u3 c hc, v3 c hc]⟩
theorem cv_none {f g : Ser} (h : ∀ n, f n = 0) (n : Nat) : cv f g n = 0 := by
  rw [show f = fun _ => 0 from funext h, cv_zero]
theorem cv_noneR {f g : Ser} (h : ∀ n, g n = 0) (n : Nat) : cv f g n = 0 := by
  rw [show g = fun _ => 0 from funext h, cv_zeroR]
theorem cv_lead {g : Ser} {b k : Nat} (v1 : g b = k) (v3 : ∀ c, c < b → g c = 0) : ∀ (a m : Nat) (f : Ser), f a = m → (∀ c, c < a → f c = 0) → cv f g (a + b) = m * k
  | 0, m, f, u1, _ => by
    rw [Nat.zero_add]
    cases b with
    | zero => show f 0 * g 0 = m * k; rw [u1, v1]
    | succ b =>
      show f 0 * g (b + 1) + cv (fun a => f (a + 1)) g b = m * k
      have : cv (fun a => f (a + 1)) g b = 0 := Classical.byContradiction fun h => by
        obtain ⟨x, y, e, _, hy⟩ := cv_pos.mp h
        exact hy (v3 y (by omega))
      rw [this, u1, v1, Nat.add_zero]
  | a + 1, m, f, u1, u3 => by
    rw [show a + 1 + b = (a + b) + 1 by omega]
    show f 0 * g (a + b + 1) + cv (fun a => f (a + 1)) g (a + b) = m * k
    rw [u3 0 (by omega), Nat.zero_mul, Nat.zero_add]
    exact cv_lead v1 v3 a m (fun a => f (a + 1)) u1 fun c hc => u3 (c + 1) (by omega)
theorem Ld_cv {f g : Ser} {x y : MC} (h1 : Ld f x) (h2 : Ld g y) : Ld (cv f g) (mMul x y) := by
  cases x with
  | none => exact fun n => cv_none h1 n
  | some p =>
    cases y with
    | none => exact fun n => cv_noneR h2 n
    | some q =>
      obtain ⟨a, m⟩ := p
      obtain ⟨b, k⟩ := q
      obtain ⟨u1, u2, u3⟩ := h1
      obtain ⟨v1, v2, v3⟩ := h2
      dsimp only at *
      refine ⟨cv_lead v1 v3 a m f u1 u3, Nat.mul_ne_zero u2 v2, fun c hc => Classical.byContradiction fun h => ?_⟩
      obtain ⟨x, y, e, hx, hy⟩ := cv_pos.mp h
      by_cases hxa : x < a
      · exact hx (u3 x hxa)
      · exact hy (v3 y (by show y < b; have : c < a + b := hc; omega))
def mS (p : Nat × Nat) : Ser := fun n => if n = p.1 then p.2 else 0
theorem Ld_mS {p : Nat × Nat} (h : p.2 ≠ 0) : Ld (mS p) (some p) := ⟨if_pos rfl, h, fun a ha => if_neg (by omega)⟩
theorem cv_mS (f : Ser) (k : Nat) : ∀ (e n : Nat), cv (mS (e, k)) f n = if e ≤ n then k * f (n - e) else 0
  | 0, n => by
    rw [if_pos (Nat.zero_le _)]
    cases n with
    | zero => rfl
    | succ n =>
      show k * f (n + 1) + cv (fun a => if a + 1 = 0 then k else 0) f n = _
      rw [show (fun a : Nat => if a + 1 = 0 then k else 0) = fun _ => 0 from funext fun a => if_neg (by omega), cv_zero]
      rfl
  | e + 1, 0 => by
    rw [if_neg (by omega)]
    show (if 0 = e + 1 then k else 0) * f 0 = 0
    rw [if_neg (by omega), Nat.zero_mul]
  | e + 1, n + 1 => by
    show (if 0 = e + 1 then k else 0) * f (n + 1) + cv (fun a => if a + 1 = e + 1 then k else 0) f n = _
    rw [if_neg (by omega), Nat.zero_mul, Nat.zero_add]
    have : (fun a => if a + 1 = e + 1 then k else 0) = mS (e, k) := funext fun a => by
      show (if a + 1 = e + 1 then k else 0) = if a = e then k else 0
      by_cases h : a = e
      · rw [if_pos h, if_pos (by omega)]
      · rw [if_neg h, if_neg (by omega)]
    rw [this, cv_mS f k e n, show n + 1 - (e + 1) = n - e by omega]
    by_cases h : e ≤ n
    · rw [if_pos h, if_pos (by omega)]
    · rw [if_neg h, if_neg (by omega)]
theorem sh_mS (f : Ser) (n : Nat) : sh f n = cv (mS (1, 1)) f n := by
  rw [cv_mS]
  cases n with
  | zero => rfl
  | succ n => rw [if_pos (by omega), Nat.one_mul]; rfl
theorem Ld_sh {f : Ser} {x : MC} (h : Ld f x) : Ld (sh f) (mMul w1 x) := (Ld_cv (Ld_mS (p := (1, 1)) (by decide)) h).congr fun n => (sh_mS f n).symm
theorem Ld_gat {b : Bool} {f : Ser} {x : MC} (h : Ld f x) : Ld (gat b f) (if b = true then x else none) := by
  cases b with
  | true => exact h
  | false => exact Ld_zero
/-- what is more never comes ahead -/
theorem Ld_junk {f g : Ser} {x : MC} (h : Ld g x) (hle : ∀ n, g n ≤ f n) (hj : ∀ n, g n < f n → ∃ m, m < n ∧ f m ≠ 0) : Ld f x := by
  have key : ∀ n, (∀ m, m < n → g m = 0) → ∀ m, m < n → f m = 0 := by
    intro n hg m
    induction m using Nat.strongRecOn with
    | ind m ih =>
      intro hm
      refine Classical.byContradiction fun h0 => ?_
      obtain ⟨k, hk, hf⟩ := hj m (by rw [hg m hm]; omega)
      exact hf (ih k hk (by omega))
  cases x with
  | none => exact fun n => key (n + 1) (fun m _ => h m) n (by omega)
  | some p =>
    obtain ⟨h1, h2, h3⟩ := h
    have hz := key p.1 h3
    refine ⟨?_, h2, hz⟩
    refine Classical.byContradiction fun hne => ?_
    obtain ⟨k, hk, hf⟩ := hj p.1 (by have := hle p.1; omega)
    exact hf (hz k hk)
theorem cv_le {f g g' : Ser} : ∀ {n : Nat}, (∀ b, g b ≤ g' b) → cv f g n ≤ cv f g' n := by
  intro n h
  induction n generalizing f with
  | zero => exact Nat.mul_le_mul_left _ (h 0)
  | succ n ih => exact Nat.add_le_add (Nat.mul_le_mul_left _ (h _)) ih
theorem cv_lt {f g g' : Ser} : ∀ {n : Nat}, (∀ b, g b ≤ g' b) → cv f g n < cv f g' n → ∃ a b, a + b = n ∧ f a ≠ 0 ∧ g b < g' b := by
  intro n h
  induction n generalizing f with
  | zero =>
    intro hl
    refine ⟨0, 0, rfl, fun e => ?_, Classical.byContradiction fun e => ?_⟩
    · rw [cv, cv, e, Nat.zero_mul, Nat.zero_mul] at hl; omega
    · have : g' 0 ≤ g 0 := by omega
      rw [cv, cv] at hl
      exact absurd (Nat.mul_le_mul_left (f 0) this) (by omega)
  | succ n ih =>
    intro hl
    rw [cv, cv] at hl
    by_cases h1 : cv (fun a => f (a + 1)) g n < cv (fun a => f (a + 1)) g' n
    · obtain ⟨a, b, e, ha, hb⟩ := ih h1
      exact ⟨a + 1, b, by omega, ha, hb⟩
    · have h2 : f 0 * g (n + 1) < f 0 * g' (n + 1) := by omega
      refine ⟨0, n + 1, by omega, fun e => ?_, Classical.byContradiction fun e => ?_⟩
      · rw [e, Nat.zero_mul, Nat.zero_mul] at h2; omega
      · have : g' (n + 1) ≤ g (n + 1) := by omega
        exact absurd (Nat.mul_le_mul_left (f 0) this) (by omega)
theorem SP_le {g g' : List Nat → Ser} (h : ∀ v b, g v b ≤ g' v b) : ∀ {r : List Nat} {f : List Nat → Ser} {n : Nat}, SP f g r n ≤ SP f g' r n
  | [], f, n => cv_le (h [])
  | x :: r, f, n => Nat.add_le_add (cv_le (h (x :: r))) (SP_le h)
theorem SP_lt {g g' : List Nat → Ser} (h : ∀ v b, g v b ≤ g' v b) : ∀ {r : List Nat} {f : List Nat → Ser} {n : Nat}, SP f g r n < SP f g' r n → ∃ u v a b, u ++ v = r ∧ a + b = n ∧ f u a ≠ 0 ∧ g v b < g' v b
  | [], f, n, hl => by
    obtain ⟨a, b, e, ha, hb⟩ := cv_lt (h []) hl
    exact ⟨[], [], a, b, rfl, e, ha, hb⟩
  | x :: r, f, n, hl => by
    by_cases h1 : SP (fun u => f (x :: u)) g r n < SP (fun u => f (x :: u)) g' r n
    · obtain ⟨u, v, a, b, e, e2, ha, hb⟩ := SP_lt h h1
      exact ⟨x :: u, v, a, b, by rw [List.cons_append, e], e2, ha, hb⟩
    · have h2 : cv (f []) (g (x :: r)) n < cv (f []) (g' (x :: r)) n := by
        have : cv (f []) (g (x :: r)) n + SP (fun u => f (x :: u)) g r n < cv (f []) (g' (x :: r)) n + SP (fun u => f (x :: u)) g' r n := hl
        omega
      obtain ⟨a, b, e, ha, hb⟩ := cv_lt (h (x :: r)) h2
      exact ⟨[], x :: r, a, b, rfl, e, ha, hb⟩
theorem SP_shR (f g : List Nat → Ser) : ∀ (r : List Nat) (n : Nat), SP f (fun v => sh (g v)) r n = sh (SP f g r) n := by
  intro r
  induction r generalizing f with
  | nil => intro n; exact cv_shR _ _ n
  | cons x r ih =>
    intro n
    show cv _ (sh (g (x :: r))) n + SP (fun u => f (x :: u)) (fun v => sh (g v)) r n = _
    rw [cv_shR, ih]
    cases n <;> rfl
theorem SP_zeroR (f : List Nat → Ser) : ∀ (r : List Nat) (n : Nat), SP f (fun _ _ => 0) r n = 0 := by
  intro r
  induction r generalizing f with
  | nil => intro n; exact cv_zeroR _ n
  | cons x r ih =>
    intro n
    show cv _ (fun _ => 0) n + SP (fun u => f (x :: u)) (fun _ _ => 0) r n = 0
    rw [cv_zeroR, ih]
theorem SP_gatR (b : Bool) (f g : List Nat → Ser) (r : List Nat) (n : Nat) : SP f (fun v => gat b (g v)) r n = gat b (SP f g r) n := by
  cases b with
  | true => rfl
  | false => exact SP_zeroR f r n
theorem SP_bSR (cs : List Nat) (f : List Nat → Ser) (g : Nat → List Nat → Ser) (r : List Nat) (n : Nat) : SP f (fun v => bS cs fun c => g c v) r n = bS cs (fun c => SP f (g c) r) n := by
  induction cs with
  | nil => exact SP_zeroR f r n
  | cons c cs ih =>
    have e : (fun v => bS (c :: cs) fun c => g c v) = fun v a => g c v a + bS cs (fun c => g c v) a := rfl
    rw [e, SP_addR, ih]
    rfl
end Ly

set_option maxHeartbeats 4000000
namespace Ly
/-! ### rows of steps -/
structure Row (W : Wd) (st r : List Nat) (n : Nat) (α : List Stp) : Prop where
  ok : okS α
  wd : ∀ s ∈ α, s.wd W
  tx : inS α = r
  ct : cstS α = n
  fo : (outS α).foldl stp (some st) = some []
section
variable {W : Wd} {st s r : List Nat} {n c x : Nat} {β : List Stp}
theorem okS_cons {y : Stp} : okS (y :: β) ↔ y.ok ∧ okS β := by
  unfold okS
  simp
theorem wd_cons {y : Stp} : (∀ s ∈ y :: β, s.wd W) ↔ y.wd W ∧ ∀ s ∈ β, s.wd W := by simp
theorem Row.pt (hp : W.pt = true) (hc : c ∈ BRK) (hs : stp (some st) c = some s) (h : Row W s r n β) : Row W st r (n + 1) (.pt c :: β) :=
  ⟨okS_cons.mpr ⟨hc, h.ok⟩, wd_cons.mpr ⟨hp, h.wd⟩, h.tx, by show cstS β + 1 = n + 1; rw [h.ct], by show (outS β).foldl stp (stp (some st) c) = some []; rw [hs]; exact h.fo⟩
theorem Row.str (hp : W.st = true) (hx : x ∈ BRK) (h : Row W st r n β) : Row W st (x :: r) (n + 1) (.st x :: β) :=
  ⟨okS_cons.mpr ⟨hx, h.ok⟩, wd_cons.mpr ⟨hp, h.wd⟩, by show x :: inS β = x :: r; rw [h.tx], by show cstS β + 1 = n + 1; rw [h.ct], h.fo⟩
theorem Row.tn (hp : W.tn = true) (hx : x ∈ BRK) (hc : c ∈ BRK) (hn : c ≠ x) (hs : stp (some st) c = some s) (h : Row W s r n β) : Row W st (x :: r) (n + 1) (.tn x c :: β) :=
  ⟨okS_cons.mpr ⟨⟨hx, hc, hn⟩, h.ok⟩, wd_cons.mpr ⟨hp, h.wd⟩, by show x :: inS β = x :: r; rw [h.tx], by show cstS β + 1 = n + 1; rw [h.ct], by show (outS β).foldl stp (stp (some st) c) = some []; rw [hs]; exact h.fo⟩
theorem Row.kp (hs : stp (some st) x = some s) (h : Row W s r n β) : Row W st (x :: r) n (.kp x :: β) :=
  ⟨okS_cons.mpr ⟨trivial, h.ok⟩, wd_cons.mpr ⟨trivial, h.wd⟩, by show x :: inS β = x :: r; rw [h.tx], h.ct, by show (outS β).foldl stp (stp (some st) x) = some []; rw [hs]; exact h.fo⟩
theorem fold_some {o : Option (List Nat)} {l t : List Nat} (h : l.foldl stp o = some t) : ∃ s, o = some s := by
  cases o with
  | none => rw [fold_none] at h; cases h
  | some s => exact ⟨s, rfl⟩
theorem Row.ipt (h : Row W st r n (.pt c :: β)) : W.pt = true ∧ c ∈ BRK ∧ ∃ s m, stp (some st) c = some s ∧ n = m + 1 ∧ Row W s r m β := by
  obtain ⟨h1, h2, h3, h4, h5⟩ := h
  have h5' : (outS β).foldl stp (stp (some st) c) = some [] := h5
  obtain ⟨s, hs⟩ := fold_some h5'
  rw [hs] at h5'
  exact ⟨(wd_cons.mp h2).1, (okS_cons.mp h1).1, s, cstS β, hs, h4.symm, (okS_cons.mp h1).2, (wd_cons.mp h2).2, h3, rfl, h5'⟩
theorem Row.ist (h : Row W st r n (.st x :: β)) : W.st = true ∧ x ∈ BRK ∧ ∃ r' m, r = x :: r' ∧ n = m + 1 ∧ Row W st r' m β := by
  obtain ⟨h1, h2, h3, h4, h5⟩ := h
  exact ⟨(wd_cons.mp h2).1, (okS_cons.mp h1).1, inS β, cstS β, h3.symm, h4.symm, (okS_cons.mp h1).2, (wd_cons.mp h2).2, rfl, rfl, h5⟩
theorem Row.itn (h : Row W st r n (.tn x c :: β)) : W.tn = true ∧ x ∈ BRK ∧ c ∈ BRK ∧ c ≠ x ∧ ∃ s r' m, stp (some st) c = some s ∧ r = x :: r' ∧ n = m + 1 ∧ Row W s r' m β := by
  obtain ⟨h1, h2, h3, h4, h5⟩ := h
  have h5' : (outS β).foldl stp (stp (some st) c) = some [] := h5
  obtain ⟨s, hs⟩ := fold_some h5'
  rw [hs] at h5'
  obtain ⟨⟨a1, a2, a3⟩, a4⟩ := okS_cons.mp h1
  exact ⟨(wd_cons.mp h2).1, a1, a2, a3, s, inS β, cstS β, hs, h3.symm, h4.symm, a4, (wd_cons.mp h2).2, rfl, rfl, h5'⟩
theorem Row.ikp (h : Row W st r n (.kp x :: β)) : ∃ s r', stp (some st) x = some s ∧ r = x :: r' ∧ Row W s r' n β := by
  obtain ⟨h1, h2, h3, h4, h5⟩ := h
  have h5' : (outS β).foldl stp (stp (some st) x) = some [] := h5
  obtain ⟨s, hs⟩ := fold_some h5'
  rw [hs] at h5'
  exact ⟨s, inS β, hs, h3.symm, (okS_cons.mp h1).2, (wd_cons.mp h2).2, rfl, h4, h5'⟩
end
theorem mem_opt {W : Wd} {r : List Nat} {n : Nat} {o : Option (List Nat)} {f : List Stp → List Stp} {α : List Stp} : α ∈ (match o with | none => [] | some s => rowsL W s r n).map f ↔ ∃ s β, o = some s ∧ β ∈ rowsL W s r n ∧ f β = α := by
  cases o with
  | none => simp
  | some s => simp
theorem not_brk {x : Nat} (h : x ∉ BRK) (st : Option (List Nat)) : stp st x = st := stp_let (fun q => h (brk_or.mpr (.inl q))) (fun q => h (brk_or.mpr (.inr q)))
theorem rows_sound {W : Wd} : ∀ (N n : Nat) (r st : List Nat) (α : List Stp), n + r.length ≤ N → α ∈ rowsL W st r n → Row W st r n α := by
  intro N
  induction N with
  | zero =>
    intro n r st α h hm
    have h1 : n = 0 := by omega
    have h2 : r = [] := List.length_eq_zero_iff.mp (by omega)
    subst h1 h2
    rw [rowsL.eq_def] at hm
    dsimp only at hm
    rw [List.nil_append] at hm
    by_cases hs : st = [] ∧ 0 = 0
    · rw [if_pos hs] at hm
      rw [List.mem_singleton.mp hm, hs.1]
      exact ⟨(fun _ h => nomatch h), (fun _ h => nomatch h), rfl, rfl, rfl⟩
    · rw [if_neg hs] at hm; cases hm
  | succ N ih =>
    intro n r st α h hm
    rw [rowsL.eq_def] at hm
    rcases List.mem_append.mp hm with hm | hm
    · cases n with
      | zero => cases hm
      | succ n =>
        dsimp only at hm
        by_cases hp : W.pt = true
        · rw [if_pos hp] at hm
          obtain ⟨c, hc, hm⟩ := List.mem_flatMap.mp hm
          obtain ⟨s, β, hs, hb, rfl⟩ := mem_opt.mp hm
          exact Row.pt hp hc hs (ih n r s β (by omega) hb)
        · rw [if_neg hp] at hm; cases hm
    · cases r with
      | nil =>
        dsimp only at hm
        by_cases hs : st = [] ∧ n = 0
        · rw [if_pos hs] at hm
          rw [List.mem_singleton.mp hm, hs.1, hs.2]
          exact ⟨(fun _ h => nomatch h), (fun _ h => nomatch h), rfl, rfl, rfl⟩
        · rw [if_neg hs] at hm; cases hm
      | cons x r =>
        rw [List.length_cons] at h
        dsimp only at hm
        by_cases hx : x ∈ BRK
        · rw [if_pos hx] at hm
          rcases List.mem_append.mp hm with hm | hm
          · cases n with
            | zero => cases hm
            | succ n =>
              dsimp only at hm
              rcases List.mem_append.mp hm with hm | hm
              · by_cases hp : W.st = true
                · rw [if_pos hp] at hm
                  obtain ⟨β, hb, rfl⟩ := List.mem_map.mp hm
                  exact Row.str hp hx (ih n r st β (by omega) hb)
                · rw [if_neg hp] at hm; cases hm
              · by_cases hp : W.tn = true
                · rw [if_pos hp] at hm
                  obtain ⟨c, hc, hm⟩ := List.mem_flatMap.mp hm
                  obtain ⟨hc1, hc2⟩ := List.mem_filter.mp hc
                  obtain ⟨s, β, hs, hb, rfl⟩ := mem_opt.mp hm
                  exact Row.tn hp hx hc1 (by simpa using hc2) hs (ih n r s β (by omega) hb)
                · rw [if_neg hp] at hm; cases hm
          · obtain ⟨s, β, hs, hb, rfl⟩ := mem_opt.mp hm
            exact Row.kp hs (ih n r s β (by omega) hb)
        · rw [if_neg hx] at hm
          obtain ⟨β, hb, rfl⟩ := List.mem_map.mp hm
          exact Row.kp (not_brk hx _) (ih n r st β (by omega) hb)
theorem rows_all {W : Wd} : ∀ (α : List Stp) (st r : List Nat) (n : Nat), Row W st r n α → α ∈ rowsL W st r n
  | [], st, r, n, h => by
    have h1 : r = [] := h.tx.symm
    have h2 : n = 0 := h.ct.symm
    have h3 : st = [] := Option.some.inj h.fo
    subst h1 h2 h3
    rw [rowsL.eq_def]
    exact List.mem_append_right _ (by dsimp only; rw [if_pos ⟨rfl, rfl⟩]; exact List.mem_singleton.mpr rfl)
  | .pt c :: β, st, r, n, h => by
    obtain ⟨hp, hc, s, m, hs, rfl, hb⟩ := h.ipt
    rw [rowsL.eq_def]
    refine List.mem_append_left _ ?_
    dsimp only
    rw [if_pos hp]
    exact List.mem_flatMap.mpr ⟨c, hc, mem_opt.mpr ⟨s, β, hs, rows_all β s r m hb, rfl⟩⟩
  | .st x :: β, st, r, n, h => by
    obtain ⟨hp, hx, r', m, rfl, rfl, hb⟩ := h.ist
    rw [rowsL.eq_def]
    refine List.mem_append_right _ ?_
    dsimp only
    rw [if_pos hx]
    refine List.mem_append_left _ (List.mem_append_left _ ?_)
    rw [if_pos hp]
    exact List.mem_map.mpr ⟨β, rows_all β st r' m hb, rfl⟩
  | .tn x c :: β, st, r, n, h => by
    obtain ⟨hp, hx, hc, hn, s, r', m, hs, rfl, rfl, hb⟩ := h.itn
    rw [rowsL.eq_def]
    refine List.mem_append_right _ ?_
    dsimp only
    rw [if_pos hx]
    refine List.mem_append_left _ (List.mem_append_right _ ?_)
    rw [if_pos hp]
    exact List.mem_flatMap.mpr ⟨c, List.mem_filter.mpr ⟨hc, by simpa using hn⟩, mem_opt.mpr ⟨s, β, hs, rows_all β s r' m hb, rfl⟩⟩
  | .kp x :: β, st, r, n, h => by
    obtain ⟨s, r', hs, rfl, hb⟩ := h.ikp
    have hm := rows_all β s r' n hb
    rw [rowsL.eq_def]
    refine List.mem_append_right _ ?_
    dsimp only
    by_cases hx : x ∈ BRK
    · rw [if_pos hx]
      exact List.mem_append_right _ (mem_opt.mpr ⟨s, β, hs, hm, rfl⟩)
    · rw [if_neg hx]
      rw [not_brk hx] at hs
      cases hs
      exact List.mem_map.mpr ⟨β, hm, rfl⟩
theorem mem_rows {W : Wd} {st r : List Nat} {n : Nat} {α : List Stp} : α ∈ rowsL W st r n ↔ Row W st r n α := ⟨rows_sound _ n r st α (Nat.le_refl _), rows_all α st r n⟩
theorem An_pos {W : Wd} {st r : List Nat} {n : Nat} : An W st r n ≠ 0 ↔ ∃ α, Row W st r n α := by
  constructor
  · intro h
    have : rowsL W st r n ≠ [] := fun e => h (by show (rowsL W st r n).length = 0; rw [e]; rfl)
    obtain ⟨α, ha⟩ := List.exists_mem_of_ne_nil _ this
    exact ⟨α, mem_rows.mp ha⟩
  · rintro ⟨α, ha⟩ h
    have := List.length_pos_of_mem (mem_rows.mpr ha)
    have h' : (rowsL W st r n).length = 0 := h
    omega
/-! ### rows put together -/
theorem okS_app {α β : List Stp} (h1 : okS α) (h2 : okS β) : okS (α ++ β) := fun s hs => (List.mem_append.mp hs).elim (h1 s) (h2 s)
theorem inS_app (α β : List Stp) : inS (α ++ β) = inS α ++ inS β := by unfold inS; rw [List.map_append, List.flatten_append]
theorem outS_app (α β : List Stp) : outS (α ++ β) = outS α ++ outS β := by unfold outS; rw [List.map_append, List.flatten_append]
theorem cstS_app : ∀ (α β : List Stp), cstS (α ++ β) = cstS α + cstS β
  | [], β => (Nat.zero_add _).symm
  | .kp _ :: α, β => cstS_app α β
  | .st _ :: α, β => by show cstS (α ++ β) + 1 = cstS α + 1 + cstS β; rw [cstS_app α β]; omega
  | .tn _ _ :: α, β => by show cstS (α ++ β) + 1 = cstS α + 1 + cstS β; rw [cstS_app α β]; omega
  | .pt _ :: α, β => by show cstS (α ++ β) + 1 = cstS α + 1 + cstS β; rw [cstS_app α β]; omega
theorem Row.app {W : Wd} {u v : List Nat} {a b : Nat} {α β : List Stp} (h1 : Row W [] u a α) (h2 : Row W [] v b β) : Row W [] (u ++ v) (a + b) (α ++ β) :=
  ⟨okS_app h1.ok h2.ok, fun s hs => (List.mem_append.mp hs).elim (h1.wd s) (h2.wd s), by rw [inS_app, h1.tx, h2.tx], by rw [cstS_app, h1.ct, h2.ct], by rw [outS_app, List.foldl_append, h1.fo]; exact h2.fo⟩
theorem An_app {W : Wd} {u v : List Nat} {a b : Nat} (h1 : An W [] u a ≠ 0) (h2 : An W [] v b ≠ 0) : An W [] (u ++ v) (a + b) ≠ 0 := by
  obtain ⟨α, ha⟩ := An_pos.mp h1
  obtain ⟨β, hb⟩ := An_pos.mp h2
  exact An_pos.mpr ⟨_, ha.app hb⟩
theorem An_one {W : Wd} {x : Nat} (hp : W.pt = true) (hx : x ∈ BRK) : An W [] [x] 1 ≠ 0 := by
  refine An_pos.mpr ?_
  by_cases ho : x ∈ OPN
  · exact ⟨[.kp x, .pt (oth x)], Row.kp (stp_opn ho) (Row.pt hp (oth_brk x hx) (stp_clo (oth_clo x ho)) ⟨(fun _ h => nomatch h), (fun _ h => nomatch h), rfl, rfl, rfl⟩)⟩
  · have hc : x ∈ CLO := (brk_or.mp hx).resolve_left ho
    have e : stp (some []) (oth x) = some [x] := by rw [stp_opn (oth_opn x hc), oth_oth x hx]
    exact ⟨[.pt (oth x), .kp x], Row.pt hp (oth_brk x hx) e (Row.kp (stp_clo hc) ⟨(fun _ h => nomatch h), (fun _ h => nomatch h), rfl, rfl, rfl⟩)⟩
/-- a sign made into another one, or kept -/
def asS (x c : Nat) : Stp := if c = x then .kp x else .tn x c
def asC (x c : Nat) : Nat := if c = x then 0 else 1
theorem Row.as {W : Wd} {st s r : List Nat} {n x c : Nat} {β : List Stp} (hp : c = x ∨ W.tn = true) (hx : x ∈ BRK) (hc : c ∈ BRK) (hs : stp (some st) c = some s) (h : Row W s r n β) : Row W st (x :: r) (asC x c + n) (asS x c :: β) := by
  unfold asS asC
  by_cases e : c = x
  · rw [if_pos e, if_pos e, Nat.zero_add]
    subst e
    exact Row.kp hs h
  · rw [if_neg e, if_neg e, Nat.add_comm]
    exact Row.tn (hp.resolve_left e) hx hc e hs h
/-- what stands on a pile that stays -/
theorem Row.fr {W : Wd} {u : List Nat} {a : Nat} {α : List Stp} (h : Row W [] u a α) {st r : List Nat} {n : Nat} {β : List Stp} (hb : Row W st r n β) : Row W st (u ++ r) (a + n) (α ++ β) :=
  ⟨okS_app h.ok hb.ok, fun s hs => (List.mem_append.mp hs).elim (h.wd s) (hb.wd s), by rw [inS_app, h.tx, hb.tx], by rw [cstS_app, h.ct, hb.ct], by
    rw [outS_app, List.foldl_append, fold_run (r := []) h.fo]
    exact hb.fo⟩
theorem Row.nil {W : Wd} : Row W [] [] 0 [] := ⟨(fun _ h => nomatch h), (fun _ h => nomatch h), rfl, rfl, rfl⟩
theorem few_way : ∀ x ∈ BRK, ∀ d ∈ BRK, ∃ o ∈ OPN, asC x o + asC d (oth o) = (few x d).1 := by decide
theorem An_pair {W : Wd} {x d : Nat} (hx : x ∈ BRK) (hd : d ∈ BRK) (hg : (few x d).1 = 0 ∨ W.tn = true) {u : List Nat} {a : Nat} (h : An W [] u a ≠ 0) : An W [] (x :: (u ++ [d])) (a + (few x d).1) ≠ 0 := by
  obtain ⟨α, ha⟩ := An_pos.mp h
  obtain ⟨o, ho, ec⟩ := few_way x hx d hd
  have hob := brk_or.mpr (.inl ho)
  have hcb := oth_brk o hob
  have p1 : o = x ∨ W.tn = true := by
    by_cases e : o = x
    · exact .inl e
    · refine .inr (hg.resolve_left ?_)
      have : asC x o = 1 := if_neg e
      omega
  have p2 : oth o = d ∨ W.tn = true := by
    by_cases e : oth o = d
    · exact .inl e
    · refine .inr (hg.resolve_left ?_)
      have : asC d (oth o) = 1 := if_neg e
      omega
  have h2 : Row W [oth o] [d] (asC d (oth o) + 0) [asS d (oth o)] := Row.as p2 hd hcb (stp_clo (oth_clo o ho)) Row.nil
  have h3 := Row.as p1 hx hob (stp_opn ho) (ha.fr h2)
  rw [show asC x o + (a + (asC d (oth o) + 0)) = a + (few x d).1 by omega] at h3
  exact An_pos.mpr ⟨_, h3⟩
end Ly

set_option maxHeartbeats 4000000
namespace Ly
/-! ### all that begins so: what is least of it -/
section
variable {W : Wd}
/-- the sign that closes what was opened with k, kept or turned -/
def clo (W : Wd) (k : Nat) (v : List Nat) : Ser := fun n => match v with
  | [] => 0
  | d :: v => if d ∈ BRK then (if d = k then An W [] v n else sh (gat W.tn (An W [] v)) n) else 0
theorem Cl_eq (k : Nat) (v : List Nat) (n : Nat) : Cl W k [] v n = sh (gat W.pt (An W [] v)) n + clo W k v n := by
  cases v <;> rfl
def g1 (W : Wd) (x : Nat) (v : List Nat) : Ser := fun n => (if x ∈ OPN then Cl W (oth x) [] v n else 0) + sh (gat W.tn (bS (OPN.filter (· ≠ x)) fun o => Cl W (oth o) [] v)) n
def g2 (W : Wd) (v : List Nat) : Ser := sh (gat W.pt (bS OPN fun o => Cl W (oth o) [] v))
theorem bS_filter {f : Nat → Ser} {n : Nat} (p : Nat → Bool) : ∀ {cs : List Nat}, (∀ c ∈ cs, p c = false → f c n = 0) → bS cs f n = bS (cs.filter p) f n
  | [], _ => rfl
  | c :: cs, h => by
    have ih := bS_filter p (cs := cs) fun d hd => h d (List.mem_cons_of_mem _ hd)
    have e1 : ∀ ds, bS (c :: ds) f n = f c n + bS ds f n := fun ds => rfl
    cases hc : p c with
    | true => rw [List.filter_cons_of_pos hc, e1, e1, ih]
    | false => rw [List.filter_cons_of_neg (by rw [hc]; exact Bool.false_ne_true), e1, h c List.mem_cons_self hc, Nat.zero_add, ih]
theorem brk_opn : BRK.filter (fun c => decide (c ∈ OPN)) = OPN := by decide
theorem bS_congr {f g : Nat → Ser} {n : Nat} {cs : List Nat} (h : ∀ c ∈ cs, f c n = g c n) : bS cs f n = bS cs g n := by
  unfold bS
  congr 1
  exact List.map_congr_left h
theorem ret_one {o : Nat} (ho : o ∈ OPN) (r : List Nat) (n : Nat) : An W [oth o] r n = SP (An W []) (Cl W (oth o) []) r n := first_ret (oth_clo o ho) [] _ n r [] (Nat.le_refl _)
theorem oA_opn {r : List Nat} {n c : Nat} (hc : c ∈ OPN) : oA (fun s => An W s r) (stp (some []) c) n = SP (An W []) (Cl W (oth c) []) r n := by
  rw [stp_opn hc]
  exact ret_one hc r n
theorem oA_clo {r : List Nat} {n c : Nat} (hc : c ∈ BRK) (h : c ∉ OPN) : oA (fun s => An W s r) (stp (some []) c) n = 0 := by
  have : stp (some []) c = none := by
    unfold stp
    dsimp only
    rw [if_neg h, if_pos ((brk_or.mp hc).resolve_left h)]
  rw [this]
  rfl
theorem pA_g2 (r : List Nat) (n : Nat) : pA W [] r n = SP (An W []) (g2 W) r n := by
  unfold pA g2
  rw [SP_shR]
  cases n with
  | zero => rfl
  | succ n =>
    show gat W.pt _ n = SP _ (fun v => gat W.pt _) r n
    rw [SP_gatR]
    unfold gat
    by_cases h : W.pt = true
    · rw [if_pos h, if_pos h, SP_bSR OPN _ (fun o v => Cl W (oth o) [] v), bS_filter (fun c => decide (c ∈ OPN)) (fun c hc hp => oA_clo hc (by simpa using hp)), brk_opn]
      exact bS_congr fun c hc => oA_opn hc
    · rw [if_neg h, if_neg h]
theorem An_first {x : Nat} (hx : x ∈ BRK) (r : List Nat) (n : Nat) : An W [] (x :: r) n = SP (An W []) (g2 W) (x :: r) n + (sh (gat W.st (An W [] r)) n + SP (An W []) (g1 W x) r n) := by
  rw [An_brk hx, pA_g2]
  congr 1
  have e1 : SP (An W []) (g1 W x) r n = (if x ∈ OPN then SP (An W []) (Cl W (oth x) []) r n else 0) + sh (gat W.tn (bS (OPN.filter (· ≠ x)) fun o => SP (An W []) (Cl W (oth o) []) r)) n := by
    unfold g1
    rw [SP_addR (An W []) (fun v n => if x ∈ OPN then Cl W (oth x) [] v n else 0) (fun v => sh (gat W.tn (bS (OPN.filter (· ≠ x)) fun o => Cl W (oth o) [] v)))]
    congr 1
    · by_cases h : x ∈ OPN
      · simp only [if_pos h]
      · simp only [if_neg h]; exact SP_zeroR _ r n
    · rw [SP_shR]
      cases n with
      | zero => rfl
      | succ n =>
        show SP _ (fun v => gat W.tn _) r n = gat W.tn _ n
        rw [SP_gatR]
        unfold gat
        by_cases h : W.tn = true
        · rw [if_pos h, if_pos h, SP_bSR _ _ (fun o v => Cl W (oth o) [] v)]
        · rw [if_neg h, if_neg h]
  have e2 : oA (fun s => An W s r) (stp (some []) x) n = if x ∈ OPN then SP (An W []) (Cl W (oth x) []) r n else 0 := by
    by_cases h : x ∈ OPN
    · rw [if_pos h, oA_opn h]
    · rw [if_neg h, oA_clo hx h]
  have e3 : tA W [] x r n = sh (gat W.st (An W [] r)) n + sh (gat W.tn (bS (OPN.filter (· ≠ x)) fun o => SP (An W []) (Cl W (oth o) []) r)) n := by
    unfold tA
    cases n with
    | zero => rfl
    | succ n =>
      show _ + _ = gat W.st _ n + gat W.tn _ n
      congr 1
      unfold gat
      by_cases h : W.tn = true
      · rw [if_pos h, if_pos h, bS_filter (fun c => decide (c ∈ OPN)) (fun c hc hp => oA_clo (List.mem_filter.mp hc).1 (by simpa using hp)), List.filter_filter, show (fun a => decide (a ∈ OPN) && decide (a ≠ x)) = fun a => decide (a ≠ x) && decide (a ∈ OPN) from funext fun a => Bool.and_comm _ _, ← List.filter_filter, brk_opn]
        exact bS_congr fun c hc => oA_opn (List.mem_filter.mp hc).1
      · rw [if_neg h, if_neg h]
  rw [e1, e2, e3]
  omega
theorem An_firstL {x : Nat} (hx : x ∉ BRK) (r : List Nat) (n : Nat) : An W [] (x :: r) n = SP (An W []) (g2 W) (x :: r) n + An W [] r n := by
  rw [An_let hx, pA_g2]
/-! the least ones -/
def g2m (W : Wd) (v : List Nat) : Ser := fun n => match v with
  | [] => 0
  | d :: v => if d ∈ CLO then sh (gat W.pt (An W [] v)) n else 0
def g1o (W : Wd) (x : Nat) (v : List Nat) : Ser := fun n => if x ∈ OPN then sh (gat W.pt (An W [] v)) n else 0
def g1p (W : Wd) (x : Nat) (v : List Nat) : Ser := fun n => match v with
  | [] => 0
  | d :: v => if d ∈ BRK ∧ ((few x d).1 = 0 ∨ W.tn = true) then cv (mS (few x d)) (An W [] v) n else 0
theorem sum_if (cs : List Nat) (d A C : Nat) : (cs.map fun o => if d = oth o then A else C).sum = cs.countP (fun o => decide (d = oth o)) * A + (cs.length - cs.countP (fun o => decide (d = oth o))) * C := by
  induction cs with
  | nil => simp
  | cons c cs ih =>
    have hle := List.countP_le_length (p := fun o => decide (d = oth o)) (l := cs)
    rw [List.map_cons, List.sum_cons, ih, List.length_cons, List.countP_cons]
    by_cases h : d = oth c
    · rw [if_pos h, if_pos (by simpa using h), Nat.add_mul, show cs.length + 1 - (cs.countP (fun o => decide (d = oth o)) + 1) = cs.length - cs.countP (fun o => decide (d = oth o)) by omega]
      omega
    · rw [if_neg h, if_neg (by simpa using h), Nat.add_zero, show cs.length + 1 - cs.countP (fun o => decide (d = oth o)) = (cs.length - cs.countP (fun o => decide (d = oth o))) + 1 by omega, Nat.add_mul _ 1 C]
      omega
theorem sum_add (cs : List Nat) (A : Nat) (f : Nat → Nat) : (cs.map fun o => A + f o).sum = cs.length * A + (cs.map f).sum := by
  induction cs with
  | nil => simp
  | cons c cs ih => rw [List.map_cons, List.sum_cons, ih, List.length_cons, List.map_cons, List.sum_cons, Nat.add_mul]; omega
theorem bS_Cl (cs : List Nat) (v : List Nat) (n : Nat) : bS cs (fun o => Cl W (oth o) [] v) n = cs.length * sh (gat W.pt (An W [] v)) n + (cs.map fun o => clo W (oth o) v n).sum := by
  rw [← sum_add]
  exact bS_congr (g := fun o n => sh (gat W.pt (An W [] v)) n + clo W (oth o) v n) fun c _ => Cl_eq _ v n
theorem clo_sum (cs : List Nat) (d : Nat) (hd : d ∈ BRK) (v : List Nat) (n : Nat) : (cs.map fun o => clo W (oth o) (d :: v) n).sum = cs.countP (fun o => decide (d = oth o)) * An W [] v n + (cs.length - cs.countP (fun o => decide (d = oth o))) * sh (gat W.tn (An W [] v)) n := by
  rw [← sum_if]
  congr 1
  refine List.map_congr_left fun o _ => ?_
  show (if d ∈ BRK then (if d = oth o then An W [] v n else sh (gat W.tn (An W [] v)) n) else 0) = _
  rw [if_pos hd]
theorem clo_not (cs : List Nat) (v : List Nat) (n : Nat) (h : ∀ d w, v = d :: w → d ∉ BRK) : (cs.map fun o => clo W (oth o) v n).sum = 0 := by
  have : ∀ o, clo W (oth o) v n = 0 := fun o => by
    cases v with
    | nil => rfl
    | cons d w => exact if_neg (h d w rfl)
  rw [show (fun o => clo W (oth o) v n) = fun _ => 0 from funext this]
  clear this h
  induction cs with
  | nil => rfl
  | cons c cs ih => rw [List.map_cons, List.sum_cons, ih]
theorem sh_succ (f : Ser) (n : Nat) : sh f (n + 1) = f n := rfl
theorem sh_pos {f : Ser} {n : Nat} (h : sh f n ≠ 0) : ∃ m, n = m + 1 ∧ f m ≠ 0 := by
  cases n with
  | zero => exact absurd rfl h
  | succ m => exact ⟨m, rfl, h⟩
theorem gat_pos {b : Bool} {f : Ser} {n : Nat} (h : gat b f n ≠ 0) : b = true ∧ f n ≠ 0 := by
  unfold gat at h
  by_cases hb : b = true
  · rw [if_pos hb] at h; exact ⟨hb, h⟩
  · rw [if_neg hb] at h; exact absurd rfl h
theorem cnt_opn1 : ∀ d ∈ BRK, OPN.countP (fun o => decide (d = oth o)) = if d ∈ CLO then 1 else 0 := by decide
theorem opn_len : OPN.length = 4 := rfl
/-- what is put first, and not with a sign of the text: there is less -/
theorem g2_both (v : List Nat) (n : Nat) : g2m W v n ≤ g2 W v n ∧ (g2m W v n < g2 W v n → W.pt = true ∧ ((∃ m, n = m + 2 ∧ An W [] v m ≠ 0) ∨ ∃ d w m, v = d :: w ∧ d ∈ BRK ∧ n = m + 2 ∧ An W [] w m ≠ 0)) := by
  by_cases hp : W.pt = true
  · cases n with
    | zero =>
      have e : g2m W v 0 = 0 := by
        cases v with
        | nil => rfl
        | cons d w => show (if d ∈ CLO then 0 else 0) = 0; split <;> rfl
      rw [e]
      exact ⟨Nat.zero_le _, fun h => absurd h (by show ¬ 0 < 0; omega)⟩
    | succ n =>
      have e : g2 W v (n + 1) = 4 * sh (gat W.pt (An W [] v)) n + (OPN.map fun o => clo W (oth o) v n).sum := by
        show gat W.pt _ n = _
        unfold gat
        rw [if_pos hp, ← opn_len]
        exact bS_Cl OPN v n
      have key1 : sh (gat W.pt (An W [] v)) n ≠ 0 → ∃ m, n + 1 = m + 2 ∧ An W [] v m ≠ 0 := fun h => by
        obtain ⟨m, rfl, hm⟩ := sh_pos h
        exact ⟨m, rfl, (gat_pos hm).2⟩
      rw [e]
      cases v with
      | nil =>
        rw [clo_not OPN [] n (fun d w h => by cases h)]
        refine ⟨Nat.zero_le _, fun h => ⟨hp, .inl (key1 ?_)⟩⟩
        have : 0 < 4 * sh (gat W.pt (An W [] [])) n + 0 := h
        omega
      | cons d w =>
        by_cases hd : d ∈ BRK
        · rw [clo_sum OPN d hd, cnt_opn1 d hd, opn_len]
          have key2 : sh (gat W.tn (An W [] w)) n ≠ 0 → ∃ d' w' m, d :: w = d' :: w' ∧ d' ∈ BRK ∧ n + 1 = m + 2 ∧ An W [] w' m ≠ 0 := fun h => by
            obtain ⟨m, rfl, hm⟩ := sh_pos h
            exact ⟨d, w, m, rfl, hd, rfl, (gat_pos hm).2⟩
          by_cases hc : d ∈ CLO
          · have em : g2m W (d :: w) (n + 1) = An W [] w n := by
              show (if d ∈ CLO then gat W.pt (An W [] w) n else 0) = _
              unfold gat
              rw [if_pos hc, if_pos hp]
            rw [em, if_pos hc]
            refine ⟨by omega, fun h => ⟨hp, ?_⟩⟩
            by_cases h1 : sh (gat W.pt (An W [] (d :: w))) n = 0
            · exact .inr (key2 (by omega))
            · exact .inl (key1 h1)
          · have em : g2m W (d :: w) (n + 1) = 0 := if_neg hc
            rw [em, if_neg hc]
            refine ⟨Nat.zero_le _, fun h => ⟨hp, ?_⟩⟩
            by_cases h1 : sh (gat W.pt (An W [] (d :: w))) n = 0
            · exact .inr (key2 (by omega))
            · exact .inl (key1 h1)
        · rw [clo_not OPN (d :: w) n (fun d' w' e => by cases e; exact hd)]
          have em : g2m W (d :: w) (n + 1) = 0 := if_neg fun h => hd (brk_or.mpr (.inr h))
          rw [em]
          exact ⟨Nat.zero_le _, fun h => ⟨hp, .inl (key1 (by omega))⟩⟩
  · have e1 : g2 W v n = 0 := by
      cases n with
      | zero => rfl
      | succ n => exact if_neg hp
    have e2 : g2m W v n = 0 := by
      cases v with
      | nil => rfl
      | cons d w =>
        show (if d ∈ CLO then sh (gat W.pt (An W [] w)) n else 0) = 0
        cases n with
        | zero => show (if d ∈ CLO then 0 else 0) = 0; split <;> rfl
        | succ n => show (if d ∈ CLO then gat W.pt (An W [] w) n else 0) = 0; unfold gat; rw [if_neg hp]; split <;> rfl
    rw [e1, e2]
    exact ⟨Nat.le_refl _, fun h => absurd h (by omega)⟩
theorem g2_junk {v : List Nat} {b : Nat} (h : g2m W v b < g2 W v b) {u : List Nat} {a : Nat} (hu : An W [] u a ≠ 0) : ∃ m, m < a + b ∧ An W [] (u ++ v) m ≠ 0 := by
  obtain ⟨hp, ⟨m, rfl, hm⟩ | ⟨d, w, m, rfl, hd, rfl, hm⟩⟩ := (g2_both v b).2 h
  · exact ⟨a + m, by omega, An_app hu hm⟩
  · refine ⟨a + (1 + m), by omega, ?_⟩
    exact An_app hu (An_app (u := [d]) (An_one hp hd) hm)
/-! pairs -/
def n0 (x d : Nat) : Nat := if x ∈ OPN ∧ d = oth x then 1 else 0
def n1 (x d : Nat) : Nat := (if x ∈ OPN ∧ d ≠ oth x then 1 else 0) + (OPN.filter (· ≠ x)).countP (fun o => decide (d = oth o))
def n2 (x d : Nat) : Nat := (OPN.filter (· ≠ x)).length - (OPN.filter (· ≠ x)).countP (fun o => decide (d = oth o))
theorem few_n : ∀ x ∈ BRK, ∀ d ∈ BRK, (few x d = (0, 1) ∧ n0 x d = 1) ∨ (few x d = (1, n1 x d) ∧ n0 x d = 0) ∨ (few x d = (2, n2 x d) ∧ n0 x d = 0 ∧ n1 x d = 0) := by decide
/-- all ways to make two signs a pair -/
theorem pair_all {x d : Nat} (hd : d ∈ BRK) (v : List Nat) (n : Nat) :
    (if x ∈ OPN then clo W (oth x) (d :: v) n else 0) + sh (gat W.tn (fun n => ((OPN.filter (· ≠ x)).map fun o => clo W (oth o) (d :: v) n).sum)) n
      = n0 x d * An W [] v n + (n1 x d * sh (gat W.tn (An W [] v)) n + n2 x d * sh (sh (gat W.tn (An W [] v))) n) := by
  have e1 : (if x ∈ OPN then clo W (oth x) (d :: v) n else 0) = n0 x d * An W [] v n + (if x ∈ OPN ∧ d ≠ oth x then 1 else 0) * sh (gat W.tn (An W [] v)) n := by
    unfold n0
    by_cases hx : x ∈ OPN
    · rw [if_pos hx]
      show (if d ∈ BRK then (if d = oth x then An W [] v n else sh (gat W.tn (An W [] v)) n) else 0) = _
      rw [if_pos hd]
      by_cases e : d = oth x
      · rw [if_pos e, if_pos ⟨hx, e⟩, if_neg (fun h => h.2 e), Nat.one_mul, Nat.zero_mul]; rfl
      · rw [if_neg e, if_neg (fun h => e h.2), if_pos ⟨hx, e⟩, Nat.one_mul, Nat.zero_mul, Nat.zero_add]
    · rw [if_neg hx, if_neg (fun h => hx h.1), if_neg (fun h => hx h.1), Nat.zero_mul, Nat.zero_mul]
  have e2 : sh (gat W.tn (fun n => ((OPN.filter (· ≠ x)).map fun o => clo W (oth o) (d :: v) n).sum)) n = (OPN.filter (· ≠ x)).countP (fun o => decide (d = oth o)) * sh (gat W.tn (An W [] v)) n + n2 x d * sh (sh (gat W.tn (An W [] v))) n := by
    cases n with
    | zero => rfl
    | succ n =>
      rw [sh_succ, sh_succ, sh_succ]
      unfold gat
      by_cases ht : W.tn = true
      · rw [if_pos ht, if_pos ht]
        refine (clo_sum _ d hd v n).trans ?_
        unfold n2 gat
        rfl
      · rw [if_neg ht, if_neg ht]
        cases n with
        | zero => rfl
        | succ n => show 0 = _ * 0 + _ * (if W.tn = true then _ else 0); rw [if_neg ht, Nat.mul_zero, Nat.mul_zero]
  rw [e1, e2]
  unfold n1
  rw [Nat.add_mul]
  omega
theorem pair_both {x d : Nat} (hx : x ∈ BRK) (hd : d ∈ BRK) (v : List Nat) (n : Nat) : g1p W x (d :: v) n ≤ n0 x d * An W [] v n + (n1 x d * sh (gat W.tn (An W [] v)) n + n2 x d * sh (sh (gat W.tn (An W [] v))) n) ∧
    (g1p W x (d :: v) n < n0 x d * An W [] v n + (n1 x d * sh (gat W.tn (An W [] v)) n + n2 x d * sh (sh (gat W.tn (An W [] v))) n) → W.tn = true ∧ ∃ q m, (few x d).1 < q ∧ n = m + q ∧ An W [] v m ≠ 0) := by
  have eg : g1p W x (d :: v) n = if d ∈ BRK ∧ ((few x d).1 = 0 ∨ W.tn = true) then cv (mS (few x d)) (An W [] v) n else 0 := rfl
  rw [eg]
  by_cases ht : W.tn = true
  · rw [if_pos ⟨hd, .inr ht⟩]
    have eG : gat W.tn (An W [] v) = An W [] v := by rw [ht]; rfl
    rw [eG]
    have k1 : ∀ q, 1 < q → True := fun _ _ => trivial
    have s1 : sh (An W [] v) n ≠ 0 → ∃ m, n = m + 1 ∧ An W [] v m ≠ 0 := sh_pos
    have s2 : sh (sh (An W [] v)) n ≠ 0 → ∃ m, n = m + 2 ∧ An W [] v m ≠ 0 := fun h => by
      obtain ⟨m, rfl, hm⟩ := sh_pos h
      obtain ⟨k, rfl, hk⟩ := sh_pos hm
      exact ⟨k, rfl, hk⟩
    rcases few_n x hx d hd with ⟨ef, e0⟩ | ⟨ef, e0⟩ | ⟨ef, e0, e1⟩
    · rw [ef, cv_mS, if_pos (Nat.zero_le _), e0, Nat.sub_zero]
      refine ⟨by omega, fun h => ⟨ht, ?_⟩⟩
      by_cases z1 : sh (An W [] v) n = 0
      · rw [z1] at h
        have : sh (sh (An W [] v)) n ≠ 0 := fun z2 => by rw [z2] at h; omega
        obtain ⟨m, e, hm⟩ := s2 this
        exact ⟨2, m, by decide, e, hm⟩
      · obtain ⟨m, e, hm⟩ := s1 z1
        exact ⟨1, m, by decide, e, hm⟩
    · have em : cv (mS (1, n1 x d)) (An W [] v) n = n1 x d * sh (An W [] v) n := by
        rw [cv_mS]
        cases n with
        | zero => rfl
        | succ n => rw [if_pos (by omega)]; rfl
      rw [ef, em, e0]
      refine ⟨by omega, fun h => ⟨ht, ?_⟩⟩
      have : sh (sh (An W [] v)) n ≠ 0 := fun z2 => by rw [z2] at h; omega
      obtain ⟨m, e, hm⟩ := s2 this
      exact ⟨2, m, by show 1 < 2; decide, e, hm⟩
    · have em : cv (mS (2, n2 x d)) (An W [] v) n = n2 x d * sh (sh (An W [] v)) n := by
        rw [cv_mS]
        cases n with
        | zero => rfl
        | succ n =>
          cases n with
          | zero => rfl
          | succ n => rw [if_pos (by omega)]; rfl
      rw [ef, em, e0, e1]
      exact ⟨by omega, fun h => absurd h (by omega)⟩
  · have z1 : sh (gat W.tn (An W [] v)) n = 0 := by
      cases n with
      | zero => rfl
      | succ n => exact if_neg ht
    have z2 : sh (sh (gat W.tn (An W [] v))) n = 0 := by
      cases n with
      | zero => rfl
      | succ n =>
        cases n with
        | zero => rfl
        | succ n => exact if_neg ht
    rw [z1, z2]
    rcases few_n x hx d hd with ⟨ef, e0⟩ | ⟨ef, e0⟩ | ⟨ef, e0, e1⟩
    · rw [ef, if_pos ⟨hd, .inl rfl⟩, cv_mS, if_pos (Nat.zero_le _), e0, Nat.sub_zero]
      exact ⟨by omega, fun h => absurd h (by omega)⟩
    · rw [ef, if_neg (fun h => h.2.elim (fun q => absurd (show (1 : Nat) = 0 from q) (by decide)) ht)]
      rw [e0]
      exact ⟨Nat.zero_le _, fun h => absurd h (by omega)⟩
    · rw [ef, if_neg (fun h => h.2.elim (fun q => absurd (show (2 : Nat) = 0 from q) (by decide)) ht)]
      rw [e0]
      exact ⟨Nat.zero_le _, fun h => absurd h (by omega)⟩
/-- g1 by its parts -/
theorem g1_parts (x : Nat) (v : List Nat) (n : Nat) : g1 W x v n = g1o W x v n + ((OPN.filter (· ≠ x)).length * sh (gat W.tn (sh (gat W.pt (An W [] v)))) n + ((if x ∈ OPN then clo W (oth x) v n else 0) + sh (gat W.tn (fun n => ((OPN.filter (· ≠ x)).map fun o => clo W (oth o) v n).sum)) n)) := by
  unfold g1 g1o
  have e1 : (if x ∈ OPN then Cl W (oth x) [] v n else 0) = (if x ∈ OPN then sh (gat W.pt (An W [] v)) n else 0) + (if x ∈ OPN then clo W (oth x) v n else 0) := by
    by_cases h : x ∈ OPN
    · rw [if_pos h, if_pos h, if_pos h, Cl_eq]
    · rw [if_neg h, if_neg h, if_neg h]
  have e2 : sh (gat W.tn (bS (OPN.filter (· ≠ x)) fun o => Cl W (oth o) [] v)) n = (OPN.filter (· ≠ x)).length * sh (gat W.tn (sh (gat W.pt (An W [] v)))) n + sh (gat W.tn (fun n => ((OPN.filter (· ≠ x)).map fun o => clo W (oth o) v n).sum)) n := by
    cases n with
    | zero => rfl
    | succ n =>
      rw [sh_succ, sh_succ, sh_succ]
      unfold gat
      by_cases ht : W.tn = true
      · rw [if_pos ht, if_pos ht, if_pos ht]
        exact bS_Cl _ v n
      · rw [if_neg ht, if_neg ht, if_neg ht, Nat.mul_zero]
  rw [e1, e2]
  omega
theorem g1_both {x : Nat} (hx : x ∈ BRK) (v : List Nat) (n : Nat) : g1o W x v n + g1p W x v n ≤ g1 W x v n ∧ (g1o W x v n + g1p W x v n < g1 W x v n → (W.pt = true ∧ ∃ m, n = m + 2 ∧ An W [] v m ≠ 0) ∨ ∃ d w q m, v = d :: w ∧ d ∈ BRK ∧ W.tn = true ∧ (few x d).1 < q ∧ n = m + q ∧ An W [] w m ≠ 0) := by
  rw [g1_parts]
  have key1 : sh (gat W.tn (sh (gat W.pt (An W [] v)))) n ≠ 0 → W.pt = true ∧ ∃ m, n = m + 2 ∧ An W [] v m ≠ 0 := fun h => by
    obtain ⟨m, rfl, hm⟩ := sh_pos h
    obtain ⟨k, rfl, hk⟩ := sh_pos (gat_pos hm).2
    exact ⟨(gat_pos hk).1, k, rfl, (gat_pos hk).2⟩
  have zero : (∀ d w, v = d :: w → d ∉ BRK) → ((if x ∈ OPN then clo W (oth x) v n else 0) + sh (gat W.tn (fun n => ((OPN.filter (· ≠ x)).map fun o => clo W (oth o) v n).sum)) n = 0 ∧ g1p W x v n = 0) := fun h => by
    have a1 : clo W (oth x) v n = 0 := by
      cases v with
      | nil => rfl
      | cons d w => exact if_neg (h d w rfl)
    have a2 : sh (gat W.tn (fun n => ((OPN.filter (· ≠ x)).map fun o => clo W (oth o) v n).sum)) n = 0 := by
      cases n with
      | zero => rfl
      | succ n =>
        rw [sh_succ]
        unfold gat
        dsimp only
        rw [clo_not _ v n h]
        split <;> rfl
    have a3 : g1p W x v n = 0 := by
      cases v with
      | nil => rfl
      | cons d w => exact if_neg fun q => h d w rfl q.1
    rw [a1, a2, a3]
    exact ⟨by split <;> rfl, rfl⟩
  have fin : ∀ {A : Nat}, g1p W x v n ≤ A → (g1p W x v n < A → ∃ d w q m, v = d :: w ∧ d ∈ BRK ∧ W.tn = true ∧ (few x d).1 < q ∧ n = m + q ∧ An W [] w m ≠ 0) → g1o W x v n + g1p W x v n ≤ g1o W x v n + ((OPN.filter (· ≠ x)).length * sh (gat W.tn (sh (gat W.pt (An W [] v)))) n + A) ∧ (g1o W x v n + g1p W x v n < g1o W x v n + ((OPN.filter (· ≠ x)).length * sh (gat W.tn (sh (gat W.pt (An W [] v)))) n + A) → (W.pt = true ∧ ∃ m, n = m + 2 ∧ An W [] v m ≠ 0) ∨ ∃ d w q m, v = d :: w ∧ d ∈ BRK ∧ W.tn = true ∧ (few x d).1 < q ∧ n = m + q ∧ An W [] w m ≠ 0) := fun h1 h2 => by
    refine ⟨by omega, fun h => ?_⟩
    by_cases z : sh (gat W.tn (sh (gat W.pt (An W [] v)))) n = 0
    · rw [z] at h
      exact .inr (h2 (by omega))
    · exact .inl (key1 z)
  by_cases hv : ∃ d w, v = d :: w ∧ d ∈ BRK
  · obtain ⟨d, w, rfl, hd⟩ := hv
    rw [pair_all hd]
    obtain ⟨p1, p2⟩ := pair_both (W := W) hx hd w n
    refine fin p1 fun h => ?_
    obtain ⟨ht, q, m, h1, h2, h3⟩ := p2 h
    exact ⟨d, w, q, m, rfl, hd, ht, h1, h2, h3⟩
  · obtain ⟨z1, z2⟩ := zero fun d w e hd => hv ⟨d, w, e, hd⟩
    rw [z1]
    refine fin (by rw [z2]; exact Nat.le_refl _) fun h => ?_
    rw [z2] at h
    exact absurd h (by omega)
theorem g1_junk {x : Nat} (hx : x ∈ BRK) {v : List Nat} {b : Nat} (h : g1o W x v b + g1p W x v b < g1 W x v b) {u : List Nat} {a : Nat} (hu : An W [] u a ≠ 0) : ∃ m, m < a + b ∧ An W [] (x :: (u ++ v)) m ≠ 0 := by
  rcases (g1_both hx v b).2 h with ⟨hp, m, rfl, hm⟩ | ⟨d, w, q, m, rfl, hd, ht, hq, rfl, hm⟩
  · refine ⟨1 + (a + m), by omega, ?_⟩
    exact An_app (u := [x]) (An_one hp hx) (An_app hu hm)
  · refine ⟨a + (few x d).1 + m, by omega, ?_⟩
    have := An_app (An_pair hx hd (.inr ht) hu) hm
    rw [show x :: (u ++ [d]) ++ w = x :: (u ++ d :: w) by simp] at this
    exact this
end
end Ly

set_option maxHeartbeats 4000000
namespace Ly
/-! ### the table's numbers are the least ones, with how many -/
theorem Ld_SPz : ∀ {r : List Nat} {f g : List Nat → Ser} {Z : Nat → MC}, (∀ t, t ≤ r.length → Ld (cv (f (r.take t)) (g (r.drop t))) (Z t)) → Ld (SP f g r) (sm Z (r.length + 1))
  | [], f, g, Z, h => h 0 (Nat.le_refl _)
  | x :: r, f, g, Z, h => by
    rw [sm_head]
    refine Ld_add (h 0 (Nat.zero_le _)) ?_
    exact Ld_SPz (f := fun u => f (x :: u)) (Z := fun k => Z (k + 1)) (fun t ht => h (t + 1) (by rw [List.length_cons]; omega))
theorem seg_take {l : List Nat} {i j t : Nat} (h : i + t ≤ j) (hj : j ≤ l.length) : (seg l i j).take t = seg l i (i + t) := by
  rw [seg_app (b := i + t) (by omega) h (by omega), List.take_left' (by rw [seg_len (by omega)]; omega)]
theorem seg_dropT {l : List Nat} {i j t : Nat} (h : i + t ≤ j) (hj : j ≤ l.length) : (seg l i j).drop t = seg l (i + t) j := by
  rw [seg_app (b := i + t) (by omega) h (by omega), List.drop_left' (by rw [seg_len (by omega)]; omega)]
theorem Ld_seg {l : List Nat} {i j : Nat} {f g : List Nat → Ser} {Z : Nat → MC} (hij : i ≤ j) (hj : j ≤ l.length) (h : ∀ t, i + t ≤ j → Ld (cv (f (seg l i (i + t))) (g (seg l (i + t) j))) (Z t)) : Ld (SP f g (seg l i j)) (sm Z (j - i + 1)) := by
  have e : (seg l i j).length = j - i := seg_len hj
  rw [← e]
  refine Ld_SPz fun t ht => ?_
  rw [e] at ht
  rw [seg_take (by omega) hj, seg_dropT (by omega) hj]
  exact h t (by omega)
theorem mMul_left (x y z : MC) : mMul x (mMul y z) = m3 y x z := by
  unfold m3
  rw [← mMul_assoc, mMul_comm x y]
theorem few_pos : ∀ x ∈ BRK, ∀ d ∈ BRK, (few x d).2 ≠ 0 := by decide
theorem Ld_mc {l : List Nat} {W : Wd} : ∀ (N i j : Nat), j - i ≤ N → i ≤ j → j ≤ l.length → Ld (An W [] (seg l i j)) (mcN l W i j) := by
  intro N
  induction N with
  | zero =>
    intro i j h1 h2 h3
    have e : i = j := by omega
    subst e
    rw [seg_self, mcN_self]
    have hz : ∀ n, g2m W [] n = 0 := fun n => rfl
    have hn : ∀ n, An W [] [] n = SP (An W []) (g2 W) [] n + (if n = 0 then 1 else 0) := fun n => by
      rw [An_nil, pA_g2]
      congr 1
      simp
    have hm : ∀ n, SP (An W []) (g2m W) [] n = 0 := fun n => cv_noneR hz n
    refine Ld_junk (g := fun n => SP (An W []) (g2m W) [] n + (if n = 0 then 1 else 0)) ?_ (fun n => ?_) (fun n hl => ?_)
    · exact ⟨by show SP (An W []) (g2m W) [] 0 + 1 = 1; rw [hm], by decide, fun a ha => absurd ha (by show ¬ a < 0; omega)⟩
    · rw [hn]
      exact Nat.add_le_add_right (SP_le (fun v b => (g2_both v b).1)) _
    · rw [hn] at hl
      obtain ⟨u, v, a, b, e1, e2, ha, hb⟩ := SP_lt (fun v b => (g2_both (W := W) v b).1) (show SP (An W []) (g2m W) [] n < SP (An W []) (g2 W) [] n by omega)
      obtain ⟨m, hm, hA⟩ := g2_junk hb ha
      rw [e1] at hA
      exact ⟨m, by omega, hA⟩
  | succ N ihN =>
    intro i j h1 h2 h3
    by_cases hij : i = j
    · exact ihN i j (by omega) h2 h3
    have ih : ∀ a b, i ≤ a → a ≤ b → b ≤ j → b - a < j - i → Ld (An W [] (seg l a b)) (mcN l W a b) := fun a b k1 k2 k3 k4 => ihN a b (by omega) k2 (by omega)
    obtain ⟨x, hx⟩ : ∃ x, l[i]? = some x := ⟨_, List.getElem?_eq_getElem (by omega)⟩
    have es : seg l i j = x :: seg l (i + 1) j := seg_cons hx (by omega) h3
    have hat : ∀ t, i + t < j → ∃ d, l[i + t]? = some d ∧ seg l (i + t) j = d :: seg l (i + t + 1) j := fun t ht => by
      have e : l[i + t]? = some l[i + t] := List.getElem?_eq_getElem (by omega)
      exact ⟨_, e, seg_cons e ht h3⟩
    -- put first, closed by the text's own
    have L2 : Ld (SP (An W []) (g2m W) (seg l i j)) (sm (fun t => m3 (clM l W (i + t)) (mcN l W i (i + t)) (mcN l W (i + t + 1) j)) (j - i)) := by
      have := Ld_seg (f := An W []) (g := g2m W) (Z := fun t => if i + t < j then m3 (clM l W (i + t)) (mcN l W i (i + t)) (mcN l W (i + t + 1) j) else none) h2 h3 (fun t ht => by
        by_cases hlt : i + t < j
        · rw [if_pos hlt]
          obtain ⟨d, hd, ed⟩ := hat t hlt
          rw [ed, ← mMul_left]
          refine Ld_cv (ih i (i + t) (Nat.le_refl _) (by omega) ht (by omega)) ?_
          have hL : Ld (g2m W (d :: seg l (i + t + 1) j)) (mMul (clM l W (i + t)) (mcN l W (i + t + 1) j)) := by
            unfold clM
            rw [hd]
            dsimp only
            by_cases hc : d ∈ CLO
            · have e1 : g2m W (d :: seg l (i + t + 1) j) = sh (gat W.pt (An W [] (seg l (i + t + 1) j))) := funext fun n => if_pos hc
              rw [e1]
              have := Ld_sh (Ld_gat (b := W.pt) (ih (i + t + 1) j (by omega) (by omega) (Nat.le_refl _) (by omega)))
              by_cases hp : W.pt = true
              · rw [if_pos hp] at this
                rw [if_pos ⟨hc, hp⟩]
                exact this
              · rw [if_neg hp, mMul_none] at this
                rw [if_neg fun q => hp q.2]
                exact this
            · have e1 : g2m W (d :: seg l (i + t + 1) j) = fun _ => 0 := funext fun n => if_neg hc
              rw [e1, if_neg fun q => hc q.1]
              exact Ld_zero
          exact hL
        · rw [if_neg hlt]
          have e : i + t = j := by omega
          rw [e, seg_self]
          exact fun n => cv_noneR (fun _ => rfl) n)
      rw [sm, if_neg (by omega), mAdd_none] at this
      rw [sm_congr (g := fun t => if i + t < j then m3 (clM l W (i + t)) (mcN l W i (i + t)) (mcN l W (i + t + 1) j) else none) fun t ht => by rw [if_pos (by omega)]]
      exact this
    have junk2 : ∀ n, SP (An W []) (g2m W) (seg l i j) n < SP (An W []) (g2 W) (seg l i j) n → ∃ m, m < n ∧ An W [] (seg l i j) m ≠ 0 := fun n hl => by
      obtain ⟨u, v, a, b, e1, e2, ha, hb⟩ := SP_lt (fun v b => (g2_both (W := W) v b).1) hl
      obtain ⟨m, hm, hA⟩ := g2_junk hb ha
      rw [e1] at hA
      exact ⟨m, by omega, hA⟩
    have le2 : ∀ n, SP (An W []) (g2m W) (seg l i j) n ≤ SP (An W []) (g2 W) (seg l i j) n := fun n => SP_le (fun v b => (g2_both v b).1)
    rw [mcN_step (by omega)]
    unfold stM
    have ihr := ih (i + 1) j (by omega) (by omega) (Nat.le_refl _) (by omega)
    by_cases hb : x ∈ BRK
    · -- a bracket
      have Lsg : Ld (sh (gat W.st (An W [] (seg l (i + 1) j)))) (mMul (sgM l W i) (mcN l W (i + 1) j)) := by
        unfold sgM
        rw [hx]
        dsimp only
        rw [if_pos hb]
        have := Ld_sh (Ld_gat (b := W.st) ihr)
        by_cases hp : W.st = true
        · rw [if_pos hp] at this
          rw [if_pos hp]
          exact this
        · rw [if_neg hp, mMul_none] at this
          rw [if_neg hp]
          exact this
      have Lop : Ld (SP (An W []) (g1o W x) (seg l (i + 1) j)) (sm (fun t => m3 (opM l W i) (mcN l W (i + 1) (i + 1 + t)) (mcN l W (i + 1 + t) j)) (j - i)) := by
        have := Ld_seg (f := An W []) (g := g1o W x) (Z := fun t => m3 (opM l W i) (mcN l W (i + 1) (i + 1 + t)) (mcN l W (i + 1 + t) j)) (show i + 1 ≤ j by omega) h3 (fun t ht => by
          rw [← mMul_left]
          refine Ld_cv (ih (i + 1) (i + 1 + t) (by omega) (by omega) ht (by omega)) ?_
          have hr := ih (i + 1 + t) j (by omega) (by omega) (Nat.le_refl _) (by omega)
          unfold opM
          rw [hx]
          dsimp only
          by_cases ho : x ∈ OPN
          · have e1 : g1o W x (seg l (i + 1 + t) j) = sh (gat W.pt (An W [] (seg l (i + 1 + t) j))) := funext fun n => if_pos ho
            rw [e1]
            have := Ld_sh (Ld_gat (b := W.pt) hr)
            by_cases hp : W.pt = true
            · rw [if_pos hp] at this
              rw [if_pos ⟨ho, hp⟩]
              exact this
            · rw [if_neg hp, mMul_none] at this
              rw [if_neg fun q => hp q.2]
              exact this
          · have e1 : g1o W x (seg l (i + 1 + t) j) = fun _ => 0 := funext fun n => if_neg ho
            rw [e1, if_neg fun q => ho q.1]
            exact Ld_zero)
        rw [show j - (i + 1) + 1 = j - i by omega] at this
        exact this
      have Lpr : Ld (SP (An W []) (g1p W x) (seg l (i + 1) j)) (sm (fun t => m3 (prM l W i (i + 1 + t)) (mcN l W (i + 1) (i + 1 + t)) (mcN l W (i + 1 + t + 1) j)) (j - i - 1)) := by
        have := Ld_seg (f := An W []) (g := g1p W x) (Z := fun t => if i + 1 + t < j then m3 (prM l W i (i + 1 + t)) (mcN l W (i + 1) (i + 1 + t)) (mcN l W (i + 1 + t + 1) j) else none) (show i + 1 ≤ j by omega) h3 (fun t ht => by
          by_cases hlt : i + 1 + t < j
          · rw [if_pos hlt]
            obtain ⟨d, hd, ed⟩ := hat (1 + t) (by omega)
            rw [show i + (1 + t) = i + 1 + t by omega] at hd ed
            rw [ed, ← mMul_left]
            refine Ld_cv (ih (i + 1) (i + 1 + t) (by omega) (by omega) ht (by omega)) ?_
            have hr := ih (i + 1 + t + 1) j (by omega) (by omega) (Nat.le_refl _) (by omega)
            unfold prM
            rw [hx, hd]
            dsimp only
            by_cases hg : d ∈ BRK ∧ ((few x d).1 = 0 ∨ W.tn = true)
            · have e1 : g1p W x (d :: seg l (i + 1 + t + 1) j) = cv (mS (few x d)) (An W [] (seg l (i + 1 + t + 1) j)) := funext fun n => if_pos hg
              rw [e1, if_pos ⟨hb, hg⟩]
              exact Ld_cv (Ld_mS (few_pos x hb d hg.1)) hr
            · have e1 : g1p W x (d :: seg l (i + 1 + t + 1) j) = fun _ => 0 := funext fun n => if_neg hg
              rw [e1, if_neg fun q => hg q.2]
              exact Ld_zero
          · rw [if_neg hlt]
            have e : i + 1 + t = j := by omega
            rw [e, seg_self]
            exact fun n => cv_noneR (fun _ => rfl) n)
        rw [sm, if_neg (by omega), mAdd_none] at this
        rw [show j - i - 1 = j - (i + 1) by omega, sm_congr (g := fun t => if i + 1 + t < j then m3 (prM l W i (i + 1 + t)) (mcN l W (i + 1) (i + 1 + t)) (mcN l W (i + 1 + t + 1) j) else none) fun t ht => by rw [if_pos (by omega)]]
        exact this
      have Lall := Ld_add Lsg (Ld_add Lpr (Ld_add Lop L2))
      refine Ld_junk Lall (fun n => ?_) (fun n hl => ?_)
      · have q1 := le2 n
        have q2 : SP (An W []) (g1o W x) (seg l (i + 1) j) n + SP (An W []) (g1p W x) (seg l (i + 1) j) n ≤ SP (An W []) (g1 W x) (seg l (i + 1) j) n := by
          rw [← SP_addR]
          exact SP_le (fun v b => (g1_both hb v b).1)
        have e : An W [] (seg l i j) n = SP (An W []) (g2 W) (seg l i j) n + (sh (gat W.st (An W [] (seg l (i + 1) j))) n + SP (An W []) (g1 W x) (seg l (i + 1) j) n) := by
          rw [es]; exact An_first hb _ n
        rw [e]
        omega
      · have e : An W [] (seg l i j) n = SP (An W []) (g2 W) (seg l i j) n + (sh (gat W.st (An W [] (seg l (i + 1) j))) n + SP (An W []) (g1 W x) (seg l (i + 1) j) n) := by
          rw [es]; exact An_first hb _ n
        rw [e] at hl
        by_cases hc : SP (An W []) (g2m W) (seg l i j) n < SP (An W []) (g2 W) (seg l i j) n
        · exact junk2 n hc
        · have q1 := le2 n
          have hl2 : SP (An W []) (fun v n => g1o W x v n + g1p W x v n) (seg l (i + 1) j) n < SP (An W []) (g1 W x) (seg l (i + 1) j) n := by
            rw [SP_addR]
            omega
          obtain ⟨u, v, a, b, e1, e2, ha, hbb⟩ := SP_lt (fun v b => (g1_both (W := W) hb v b).1) hl2
          obtain ⟨m, hm, hA⟩ := g1_junk hb hbb ha
          rw [e1, ← es] at hA
          exact ⟨m, by omega, hA⟩
    · -- a letter
      have n1 : ∀ m, prM l W i m = none := fun m => by
        unfold prM
        rw [hx]
        cases l[m]? with
        | none => rfl
        | some d => exact if_neg fun q => hb q.1
      have n2 : opM l W i = none := by
        unfold opM
        rw [hx]
        exact if_neg fun q => hb (brk_or.mpr (.inl q.1))
      have n3 : sgM l W i = mOne := by
        unfold sgM
        rw [hx]
        exact if_neg hb
      have z1 : sm (fun t => m3 (prM l W i (i + 1 + t)) (mcN l W (i + 1) (i + 1 + t)) (mcN l W (i + 1 + t + 1) j)) (j - i - 1) = none := by
        refine (sm_congr (g := fun _ => none) fun t _ => ?_).trans (sm_none _)
        rw [n1]
        rfl
      have z2 : sm (fun t => m3 (opM l W i) (mcN l W (i + 1) (i + 1 + t)) (mcN l W (i + 1 + t) j)) (j - i) = none := by
        refine (sm_congr (g := fun _ => none) fun t _ => ?_).trans (sm_none _)
        rw [n2]
        rfl
      rw [z1, z2, n3, mOne_mul, none_mAdd, none_mAdd]
      have e : ∀ n, An W [] (seg l i j) n = SP (An W []) (g2 W) (seg l i j) n + An W [] (seg l (i + 1) j) n := fun n => by
        rw [es]; exact An_firstL hb _ n
      refine Ld_junk (Ld_add ihr L2) (fun n => ?_) (fun n hl => ?_)
      · rw [e]
        have := le2 n
        omega
      · rw [e] at hl
        exact junk2 n (by omega)
theorem Ld_whole {W : Wd} (l : List Nat) : Ld (An W [] l) (mcN l W 0 l.length) := by
  have := Ld_mc (l := l) (W := W) _ 0 l.length (Nat.le_refl _) (Nat.zero_le _) (Nat.le_refl _)
  rw [seg_all] at this
  exact this
end Ly

set_option maxHeartbeats 4000000
namespace Ly
/-! ### with some brackets open: the least number from each place on -/
def clC (W : Wd) (l : List Nat) (k : Nat) (F : Nat → MC) (m : Nat) : MC := mAdd (if W.pt = true then mMul w1 (F m) else none) (match l[m]? with
  | none => none
  | some x => if x = k then F (m + 1) else if x ∈ BRK ∧ W.tn = true then mMul w1 (F (m + 1)) else none)
def LV (W : Wd) (l : List Nat) : List Nat → Nat → MC
  | [], i => mcN l W i l.length
  | k :: st, i => sm (fun t => mMul (mcN l W i (i + t)) (clC W l k (LV W l st) (i + t))) (l.length - i + 1)
/-! ### what can be done at a place, in order -/
def Stp.c : Stp → Nat
  | .kp _ => 0
  | _ => 1
/-- the pile behind a step -/
def nxS (st : List Nat) (s : Stp) : Option (List Nat) := s.o.foldl stp (some st)
/-- how many go on by a step, with just so many deeds -/
def mb (W : Wd) (l : List Nat) (st : List Nat) (i n : Nat) (s : Stp) : Nat := match nxS st s with
  | none => 0
  | some st' => match LV W l st' (i + s.i.length) with
    | none => 0
    | some p => if p.1 + s.c = n then p.2 else 0
end Ly

set_option maxHeartbeats 4000000
namespace Ly
/-! ### how many at most, how great the least number at most -/
/-! ### the row with a number -/
end Ly

set_option maxHeartbeats 4000000
namespace Ly
open PySem PySem.Spec PyProof.Rows L2 SX
/-! ### things side by side -/
end Ly

set_option maxHeartbeats 4000000
namespace Ly
/-! ### so many deeds are enough: strikes and turned pairs, by lists -/
inductive Mx : List Nat → Nat → Prop
  | nil : Mx [] 0
  | let_ {x n : Nat} {r : List Nat} : x ∉ BRK → Mx r n → Mx (x :: r) n
  | str {x n : Nat} {r : List Nat} : x ∈ BRK → Mx r n → Mx (x :: r) (n + 1)
  | pair {x d a b : Nat} {u v : List Nat} : x ∈ BRK → d ∈ BRK → Mx u a → Mx v b → Mx (x :: (u ++ d :: v)) (tns x d + a + b)
theorem Mx.app {u v : List Nat} {a b : Nat} (h : Mx u a) (h2 : Mx v b) : Mx (u ++ v) (a + b) := by
  induction h with
  | nil => rw [Nat.zero_add]; exact h2
  | let_ e _ ih => exact .let_ e ih
  | @str x n r e _ ih =>
    rw [show n + 1 + b = n + b + 1 by omega]
    exact .str e ih
  | @pair x d a b' u v e1 e2 h3 _ _ ih =>
    rw [List.cons_append, List.append_assoc, List.cons_append, Nat.add_assoc]
    exact .pair e1 e2 h3 ih
theorem Mx.one {x : Nat} (h : x ∈ BRK) : Mx [x] 1 := .str h .nil
theorem app_split {α : Type} {u v a z : List α} {d o : α} (h : u ++ d :: v = a ++ o :: z) : (∃ c, u = a ++ o :: c ∧ z = c ++ d :: v) ∨ (u = a ∧ d = o ∧ v = z) ∨ (∃ c, a = u ++ d :: c ∧ v = c ++ o :: z) := by
  rcases List.append_eq_append_iff.mp h with ⟨as, h1, h2⟩ | ⟨bs, h1, h2⟩
  · cases as with
    | nil =>
      rw [List.append_nil] at h1
      cases h2
      exact .inr (.inl ⟨h1.symm, rfl, rfl⟩)
    | cons x as =>
      cases h2
      exact .inr (.inr ⟨as, h1, rfl⟩)
  · cases bs with
    | nil =>
      rw [List.append_nil] at h1
      cases h2
      exact .inr (.inl ⟨h1, rfl, rfl⟩)
    | cons x bs =>
      cases h2
      exact .inl ⟨bs, h1, rfl⟩
theorem Mx.last {w : List Nat} {n : Nat} (h : Mx w n) : ∀ {u : List Nat} {y : Nat}, w = u ++ [y] → y ∈ BRK → (∃ m, Mx u m ∧ m + 1 ≤ n) ∨ (∃ a1 Y a2 p q, u = a1 ++ Y :: a2 ∧ Y ∈ BRK ∧ Mx a1 p ∧ Mx a2 q ∧ tns Y y + p + q ≤ n) := by
  induction h with
  | nil => intro u y e; cases u <;> cases e
  | @let_ x n r hx hr ih =>
    intro u y e hy
    cases u with
    | nil => cases e; exact absurd hy hx
    | cons z u =>
      cases e
      rcases ih rfl hy with ⟨m, h1, h2⟩ | ⟨a1, Y, a2, p, q, rfl, h2, h3, h4, h5⟩
      · exact .inl ⟨m, .let_ hx h1, h2⟩
      · exact .inr ⟨x :: a1, Y, a2, p, q, rfl, h2, .let_ hx h3, h4, h5⟩
  | @str x n r hx hr ih =>
    intro u y e hy
    cases u with
    | nil => cases e; exact .inl ⟨0, .nil, by omega⟩
    | cons z u =>
      cases e
      rcases ih rfl hy with ⟨m, h1, h2⟩ | ⟨a1, Y, a2, p, q, rfl, h2, h3, h4, h5⟩
      · exact .inl ⟨m + 1, .str hx h1, by omega⟩
      · exact .inr ⟨x :: a1, Y, a2, p + 1, q, rfl, h2, .str hx h3, h4, by omega⟩
  | @pair x d a b s v hx hd hs hv ih1 ih2 =>
    intro u y e hy
    cases u with
    | nil =>
      exfalso
      have := congrArg List.length e
      simp at this
    | cons z u =>
      rw [List.cons_append] at e
      have ex : x = z := (List.cons.inj e).1
      subst ex
      rcases app_split (List.cons.inj e).2 with ⟨c, h1, h2⟩ | ⟨h1, h2, h3⟩ | ⟨c, h1, h2⟩
      · exfalso
        cases c <;> cases h2
      · subst h1 h2 h3
        have : b = 0 := by cases hv; rfl
        subst this
        exact .inr ⟨[], x, s, 0, a, rfl, hx, .nil, hs, by omega⟩
      · subst h1
        rcases ih2 h2 hy with ⟨m, g1, g2⟩ | ⟨a1, Y, a2, p, q, rfl, g2, g3, g4, g5⟩
        · exact .inl ⟨tns x d + a + m, .pair hx hd hs g1, by omega⟩
        · exact .inr ⟨x :: (s ++ d :: a1), Y, a2, tns x d + a + p, q, by simp, g2, .pair hx hd hs g3, g4, by omega⟩
/-- the first bracket struck or made a pair -/
theorem Mx.first {x n : Nat} {r : List Nat} (h : Mx (x :: r) n) (hx : x ∈ BRK) : (∃ m, Mx r m ∧ n = m + 1) ∨ (∃ u d v p q, r = u ++ d :: v ∧ d ∈ BRK ∧ Mx u p ∧ Mx v q ∧ n = tns x d + p + q) := by
  cases h with
  | let_ h _ => exact absurd hx h
  | str _ h => exact .inl ⟨_, h, rfl⟩
  | pair _ hd h1 h2 => exact .inr ⟨_, _, _, _, _, rfl, hd, h1, h2, rfl⟩
/-! ### the least number -/
theorem Mx.An {W : Wd} (hs : W.st = true) (ht : W.tn = true) {l : List Nat} {n : Nat} (h : Mx l n) : An W [] l n ≠ 0 := by
  induction h with
  | nil => exact An_pos.mpr ⟨_, Row.nil⟩
  | let_ hx _ ih =>
    obtain ⟨α, ha⟩ := An_pos.mp ih
    exact An_pos.mpr ⟨_, Row.kp (not_brk hx _) ha⟩
  | str hx _ ih =>
    obtain ⟨α, ha⟩ := An_pos.mp ih
    exact An_pos.mpr ⟨_, Row.str hs hx ha⟩
  | @pair x d a b u v hx hd _ _ ih1 ih2 =>
    have := An_app (An_pair hx hd (.inr ht) ih1) ih2
    rw [few_tns x hx d hd, show x :: (u ++ [d]) ++ v = x :: (u ++ d :: v) by simp, show a + tns x d + b = tns x d + a + b by omega] at this
    exact this
/-! a clean text put in -/
end Ly

set_option maxHeartbeats 4000000
namespace Ly
/-! ### rows cut, changed at one place -/
section
variable {W : Wd} {a b : List Nat} {n : Nat}
end
/-! ### laws of the least number -/
theorem clean_one {x : Nat} (h : x ∉ BRK) : clean [x] := by
  show [x].foldl stp (some []) = some []
  rw [List.foldl_cons, not_brk h]
  rfl
/-! clean texts -/
end Ly

set_option maxHeartbeats 4000000
namespace Ly
open PySem PySem.Spec PyProof.Rows L2 SX
/-! ### lists of deeds as values -/
def DdV (H : Hp) (v : V) (d : Deed) : Prop := ∃ r, v = .ref r ∧ H r = some (.tup (ddV d))
theorem DdV.same {H H' : Hp} {v : V} {d : Deed} (h : DdV H v d) (s : Same H H') : DdV H' v d := by
  obtain ⟨r, h1, h2⟩ := h
  exact ⟨r, h1, s _ _ h2⟩
theorem DdV.but {H H' : Hp} {v : V} {d : Deed} {p : Addr} (h : DdV H v d) (b : But p H H') (hp : ∀ ys, H p ≠ some (.tup ys)) : DdV H' v d := by
  obtain ⟨r, h1, h2⟩ := h
  exact ⟨r, h1, b _ _ (fun e => hp _ (by rw [← e]; exact h2)) h2⟩
/-! ### deeds and rows -/
/-! ### all lists of deeds, one by one -/
end Ly

set_option maxHeartbeats 4000000
namespace Ly
open PySem PySem.Spec PyProof.Rows L2 SX
/-! ### no row stands twice -/
/-! ### the deeds tell the row -/
/-! ### which choice deeds go on by -/
end Ly

set_option maxHeartbeats 4000000
namespace Ly
open PySem PySem.Spec PyProof.Rows L2 SX
/-! ### lists of deeds: which comes first -/
/-! the choices rise -/
/-! list(..), tuple(..) by names -/
def rListOf (K : PySem.W.Frag) : List V → Hp → VK → Prop := fun xs H Q => ∃ p ys, xs = [.ref p] ∧ (SqL K H p ys ∨ SqT K H p ys) ∧ ∀ l, H l = none → Q (.ref l) (upd H l (.lst ys))
theorem call_listOf {X : Cx} : CallR X (.type "list") (rListOf X.K) := call_list_of
def rTupleOf (K : PySem.W.Frag) : List V → Hp → VK → Prop := fun xs H Q => ∃ p ys, xs = [.ref p] ∧ ((SqL K H p ys ∧ ∀ l, H l = none → Q (.ref l) (upd H l (.tup ys))) ∨ (SqT K H p ys ∧ Q (.ref p) H))
theorem call_tupleOf {X : Cx} : CallR X (.type "tuple") (rTupleOf X.K) := call_tuple_of
theorem g_listOfL {K : PySem.W.Frag} {H : Hp} {Q : VK} {p : Addr} {ys : List V} (h : H p = some (.lst ys)) (q : ∀ l H1, H l = none → Same H H1 → H1 l = some (.lst ys) → Q (.ref l) H1) : rListOf K [.ref p] H Q := ⟨p, ys, rfl, .inl (sq_of h), fun l nl => q l _ nl (Same.new nl) upd_same⟩
theorem g_tupleOfL {K : PySem.W.Frag} {H : Hp} {Q : VK} {p : Addr} {ys : List V} (h : H p = some (.lst ys)) (q : ∀ l H1, H l = none → Same H H1 → H1 l = some (.tup ys) → Q (.ref l) H1) : rTupleOf K [.ref p] H Q := ⟨p, ys, rfl, .inl ⟨sq_of h, fun l nl => q l _ nl (Same.new nl) upd_same⟩⟩
/-! dicts of whole numbers, as sets -/
end Ly

set_option maxHeartbeats 4000000
namespace Ly
open PySem PySem.Spec PyProof.Rows L2 SX
section
variable {K : PySem.W.Frag} {σ : L2.St} {H : Hp} {g : TG} {tb : TS} {D : Ends} {a b : Addr} {xs ys : List V}
end
/-! ### the lists of deeds rise, one by one -/
end Ly

set_option maxHeartbeats 4000000
namespace Ly
open PySem PySem.Spec PyProof.Rows L2 SX
/-! ### how many rows: laws by words -/
def wLe (W W' : Wd) : Prop := (W.pt = true → W'.pt = true) ∧ (W.st = true → W'.st = true) ∧ (W.tn = true → W'.tn = true)
theorem wd_mono {W W' : Wd} (h : wLe W W') {s : Stp} (hs : s.wd W) : s.wd W' := by
  cases s with
  | kp c => trivial
  | st c => exact h.2.1 hs
  | tn c d => exact h.2.2 hs
  | pt d => exact h.1 hs
/-! the signs of a row renamed -/
def Stp.mp (f : Nat → Nat) : Stp → Stp
  | .kp c => .kp (f c)
  | .st c => .st (f c)
  | .tn c d => .tn (f c) (f d)
  | .pt d => .pt (f d)
/-! a row from behind -/
end Ly

set_option maxHeartbeats 4000000
namespace Ly
open PySem PySem.Spec PyProof.Rows L2 SX
/-! ### mended by few words -/
theorem row_cutO : ∀ (α : List Stp) (a b : List Nat) (z : Nat), outS α = a ++ z :: b → ∃ α1 y α2, α = α1 ++ y :: α2 ∧ outS α1 = a ∧ y.o = [z] ∧ outS α2 = b
  | [], a, b, z, h => by cases a <;> cases h
  | s :: α, a, b, z, h => by
    have h' : s.o ++ outS α = a ++ z :: b := h
    have hs : s.o = [] ∨ ∃ c, s.o = [c] := by cases s <;> first | exact .inl rfl | exact .inr ⟨_, rfl⟩
    rcases hs with hs | ⟨c, hs⟩
    · rw [hs, List.nil_append] at h'
      obtain ⟨α1, y, α2, rfl, h1, h2, h3⟩ := row_cutO α a b z h'
      exact ⟨s :: α1, y, α2, rfl, by rw [outS_cons, hs, h1]; rfl, h2, h3⟩
    · rw [hs] at h'
      cases a with
      | nil =>
        obtain ⟨h1, h2⟩ := List.cons.inj h'
        exact ⟨[], s, α, rfl, rfl, by rw [hs, h1], h2⟩
      | cons x a =>
        obtain ⟨h1, h2⟩ := List.cons.inj h'
        obtain ⟨α1, y, α2, rfl, h3, h4, h5⟩ := row_cutO α a b z h2
        exact ⟨s :: α1, y, α2, rfl, by rw [outS_cons, hs, h3, h1]; rfl, h4, h5⟩
/-- without puts, by strikes -/
def nPut (W : Wd) : Wd := ⟨false, true, W.tn⟩
structure Lss (W : Wd) (α β : List Stp) : Prop where
  ok : okS β
  wd : ∀ s ∈ β, s.wd (nPut W)
  tx : inS β = inS α
  ct : cstS β ≤ cstS α
  cl : clean (outS β)
theorem wd_ap {W : Wd} {a b : List Stp} (h1 : ∀ s ∈ a, s.wd W) (h2 : ∀ s ∈ b, s.wd W) : ∀ s ∈ a ++ b, s.wd W := fun s hs => by
  rcases List.mem_append.mp hs with hs | hs
  · exact h1 s hs
  · exact h2 s hs
theorem wd_con {W : Wd} {y : Stp} {b : List Stp} (h1 : y.wd W) (h2 : ∀ s ∈ b, s.wd W) : ∀ s ∈ y :: b, s.wd W := fun s hs => by
  rcases List.mem_cons.mp hs with rfl | hs
  · exact h1
  · exact h2 s hs
theorem nPut_wd {W : Wd} {y : Stp} (h : y.wd W) (hy : ∀ d, y ≠ .pt d) : y.wd (nPut W) := by
  cases y with
  | kp c => trivial
  | st c => rfl
  | tn c d => exact h
  | pt d => exact absurd rfl (hy d)
def Stp.ct : Stp → Nat
  | .kp _ => 0
  | _ => 1
theorem cst_cons (s : Stp) (α : List Stp) : cstS (s :: α) = s.ct + cstS α := by
  cases s with
  | kp c => show cstS α = 0 + cstS α; omega
  | st c => show cstS α + 1 = 1 + cstS α; omega
  | tn c d => show cstS α + 1 = 1 + cstS α; omega
  | pt d => show cstS α + 1 = 1 + cstS α; omega
/-- a sign that is put out is struck, or gone -/
theorem gone {W : Wd} {y : Stp} {z : Nat} (hy : y.ok) (hw : y.wd W) (ho : y.o = [z]) (hz : z ∈ BRK) : ∃ γ : List Stp, okS γ ∧ (∀ s ∈ γ, s.wd (nPut W)) ∧ inS γ = y.i ∧ outS γ = [] ∧ ((∃ d, y = .pt d) → cstS γ = 0) ∧ cstS γ ≤ 1 := by
  cases y with
  | kp c =>
    have hc : c = z := by injection ho
    exact ⟨[.st c], okS_cons.mpr ⟨show c ∈ BRK by rw [hc]; exact hz, fun s hs => (by cases hs)⟩, wd_con rfl (fun s hs => (by cases hs)), rfl, rfl, fun ⟨d, h⟩ => (by cases h), Nat.le_refl _⟩
  | st c => cases ho
  | tn c d => exact ⟨[.st c], okS_cons.mpr ⟨hy.1, fun s hs => (by cases hs)⟩, wd_con rfl (fun s hs => (by cases hs)), rfl, rfl, fun ⟨d, h⟩ => (by cases h), Nat.le_refl _⟩
  | pt d => exact ⟨[], fun s hs => (by cases hs), fun s hs => (by cases hs), rfl, rfl, fun _ => rfl, Nat.zero_le _⟩
theorem noPut {W : Wd} : ∀ (N : Nat) (α : List Stp), α.length ≤ N → okS α → (∀ s ∈ α, s.wd W) → clean (outS α) → ∃ β, Lss W α β
  | _, [], _, _, _, _ => ⟨[], ⟨fun s hs => (by cases hs), fun s hs => (by cases hs), rfl, Nat.le_refl _, clean_nil⟩⟩
  | 0, _ :: _, hl, _, _, _ => by cases hl
  | N + 1, s :: α, hl, ho, hw, hc => by
    obtain ⟨o1, o2⟩ := okS_cons.mp ho
    have w1 : s.wd W := hw s (List.mem_cons_self ..)
    have w2 : ∀ t ∈ α, t.wd W := fun t ht => hw t (List.mem_cons_of_mem _ ht)
    have hl' : α.length ≤ N := by simpa using hl
    have hs : s.o = [] ∨ ∃ c, s.o = [c] := by cases s <;> first | exact .inl rfl | exact .inr ⟨_, rfl⟩
    rw [outS_cons] at hc
    rcases hs with hs | ⟨c, hs⟩
    · rw [hs, List.nil_append] at hc
      obtain ⟨β, hβ⟩ := noPut N α hl' o2 w2 hc
      have hnp : ∀ d, s ≠ .pt d := fun d e => by rw [e] at hs; cases hs
      exact ⟨s :: β, ⟨okS_cons.mpr ⟨o1, hβ.ok⟩, wd_con (nPut_wd w1 hnp) hβ.wd, by rw [inS_cons, inS_cons, hβ.tx], by rw [cst_cons, cst_cons]; have := hβ.ct; omega, by rw [outS_cons, hs]; exact hβ.cl⟩⟩
    · rw [hs] at hc
      have hc' : clean (c :: outS α) := hc
      by_cases h1 : c ∈ OPN
      · obtain ⟨a, b, e, ha, hb⟩ := clean_opn h1 hc'
        obtain ⟨α1, y, α2, rfl, e1, e2, e3⟩ := row_cutO α a b (oth c) e
        have hlen : α1.length ≤ N ∧ α2.length ≤ N := by rw [List.length_append, List.length_cons] at hl'; omega
        have oA : okS α1 := fun t ht => o2 t (List.mem_append_left _ ht)
        have oY : y.ok := o2 y (List.mem_append_right _ (List.mem_cons_self ..))
        have oB : okS α2 := fun t ht => o2 t (List.mem_append_right _ (List.mem_cons_of_mem _ ht))
        have wA : ∀ t ∈ α1, t.wd W := fun t ht => w2 t (List.mem_append_left _ ht)
        have wY : y.wd W := w2 y (List.mem_append_right _ (List.mem_cons_self ..))
        have wB : ∀ t ∈ α2, t.wd W := fun t ht => w2 t (List.mem_append_right _ (List.mem_cons_of_mem _ ht))
        obtain ⟨β1, k1⟩ := noPut N α1 hlen.1 oA wA (by rw [e1]; exact ha)
        obtain ⟨β2, k2⟩ := noPut N α2 hlen.2 oB wB (by rw [e3]; exact hb)
        have kc1 := k1.ct
        have kc2 := k2.ct
        by_cases hsp : (∃ d, s = .pt d) ∨ (∃ d, y = .pt d)
        · obtain ⟨γ, g1, g2, g3, g4, g5, g6⟩ := gone o1 w1 hs (brk_or.mpr (.inl h1))
          obtain ⟨δ, d1, d2, d3, d4, d5, d6⟩ := gone oY wY e2 (brk_or.mpr (.inr (oth_clo c h1)))
          refine ⟨γ ++ (β1 ++ (δ ++ β2)), ⟨okS_app g1 (okS_app k1.ok (okS_app d1 k2.ok)), wd_ap g2 (wd_ap k1.wd (wd_ap d2 k2.wd)), ?_, ?_, ?_⟩⟩
          · rw [inS_app, inS_app, inS_app, g3, k1.tx, d3, k2.tx, inS_cons, inS_app, inS_cons]
          · rw [cstS_app, cstS_app, cstS_app, cst_cons, cstS_app, cst_cons]
            have hs1 : (∃ d, s = .pt d) → s.ct = 1 := fun ⟨d, h⟩ => by rw [h]; rfl
            have hy1 : (∃ d, y = .pt d) → y.ct = 1 := fun ⟨d, h⟩ => by rw [h]; rfl
            rcases hsp with hp | hp
            · have := g5 hp
              have := hs1 hp
              omega
            · have := d5 hp
              have := hy1 hp
              omega
          · rw [outS_app, outS_app, outS_app, g4, d4]
            exact clean_app clean_nil (clean_app k1.cl (clean_app clean_nil k2.cl))
        · have n1 : ∀ d, s ≠ .pt d := fun d e => hsp (.inl ⟨d, e⟩)
          have n2 : ∀ d, y ≠ .pt d := fun d e => hsp (.inr ⟨d, e⟩)
          refine ⟨s :: (β1 ++ y :: β2), ⟨okS_cons.mpr ⟨o1, okS_app k1.ok (okS_cons.mpr ⟨oY, k2.ok⟩)⟩, wd_con (nPut_wd w1 n1) (wd_ap k1.wd (wd_con (nPut_wd wY n2) k2.wd)), ?_, ?_, ?_⟩⟩
          · rw [inS_cons, inS_app, inS_cons, k1.tx, k2.tx, inS_cons, inS_app, inS_cons]
          · rw [cst_cons, cstS_app, cst_cons, cst_cons, cstS_app, cst_cons]
            omega
          · rw [outS_cons, outS_app, outS_cons, hs, e2]
            have hh := clean_app (clean_pair h1 k1.cl) k2.cl
            rw [show [c] ++ (outS β1 ++ ([oth c] ++ outS β2)) = c :: (outS β1 ++ [oth c]) ++ outS β2 by simp]
            exact hh
      · have h2 : c ∉ CLO := fun h2 => clean_clo h2 hc'
        have h3 := (clean_let h1 h2).mp hc'
        obtain ⟨β, hβ⟩ := noPut N α hl' o2 w2 h3
        have hnp : ∀ d, s ≠ .pt d := fun d e => by
          rw [e] at hs o1
          have hd : d = c := by injection hs
          rcases brk_or.mp (show d ∈ BRK from o1) with h | h
          · exact h1 (hd ▸ h)
          · exact h2 (hd ▸ h)
        exact ⟨s :: β, ⟨okS_cons.mpr ⟨o1, hβ.ok⟩, wd_con (nPut_wd w1 hnp) hβ.wd, by rw [inS_cons, inS_cons, hβ.tx], by rw [cst_cons, cst_cons]; have := hβ.ct; omega, by rw [outS_cons, hs]; exact (clean_let h1 h2).mpr hβ.cl⟩⟩
/-! puts for strikes -/
def Stp.nst : Stp → List Stp
  | .st c => if c ∈ OPN then [.kp c, .pt (oth c)] else [.pt (oth c), .kp c]
  | s => [s]
theorem nst_in (s : Stp) : inS s.nst = s.i := by
  cases s with
  | st c => show inS (if c ∈ OPN then [.kp c, .pt (oth c)] else [.pt (oth c), .kp c]) = [c]; split <;> rfl
  | kp c => rfl
  | tn c d => rfl
  | pt d => rfl
theorem nst_ct (s : Stp) : cstS s.nst = s.ct := by
  cases s with
  | st c => show cstS (if c ∈ OPN then [.kp c, .pt (oth c)] else [.pt (oth c), .kp c]) = 1; split <;> rfl
  | kp c => rfl
  | tn c d => rfl
  | pt d => rfl
theorem nst_ok {s : Stp} (h : s.ok) : okS s.nst := by
  cases s with
  | st c =>
    show okS (if c ∈ OPN then [.kp c, .pt (oth c)] else [.pt (oth c), .kp c])
    have hb : oth c ∈ BRK := oth_brk c h
    split
    · exact okS_cons.mpr ⟨trivial, okS_cons.mpr ⟨hb, fun s hs => (by cases hs)⟩⟩
    · exact okS_cons.mpr ⟨hb, okS_cons.mpr ⟨trivial, fun s hs => (by cases hs)⟩⟩
  | kp c => exact okS_cons.mpr ⟨h, fun s hs => (by cases hs)⟩
  | tn c d => exact okS_cons.mpr ⟨h, fun s hs => (by cases hs)⟩
  | pt d => exact okS_cons.mpr ⟨h, fun s hs => (by cases hs)⟩
theorem nst_wd {W : Wd} {s : Stp} (h : s.wd W) : ∀ t ∈ s.nst, t.wd ⟨true, false, W.tn⟩ := by
  cases s with
  | st c =>
    show ∀ t ∈ (if c ∈ OPN then [Stp.kp c, Stp.pt (oth c)] else [Stp.pt (oth c), Stp.kp c] : List Stp), Stp.wd ⟨true, false, W.tn⟩ t
    split
    · exact wd_con trivial (wd_con rfl fun s hs => (by cases hs))
    · exact wd_con rfl (wd_con trivial fun s hs => (by cases hs))
  | kp c => exact wd_con trivial fun s hs => (by cases hs)
  | tn c d => exact wd_con h fun s hs => (by cases hs)
  | pt d => exact wd_con rfl fun s hs => (by cases hs)
theorem nst_fo {s : Stp} (h : s.ok) (o : Option (List Nat)) : (outS s.nst).foldl stp o = s.o.foldl stp o := by
  cases s with
  | st c =>
    show (outS (if c ∈ OPN then [.kp c, .pt (oth c)] else [.pt (oth c), .kp c])).foldl stp o = o
    cases o with
    | none => split <;> rfl
    | some st =>
      split
      · rename_i h1
        show stp (stp (some st) c) (oth c) = some st
        rw [stp_opn h1, stp_clo (oth_clo c h1)]
      · rename_i h1
        have h2 : c ∈ CLO := (brk_or.mp (show c ∈ BRK from h)).resolve_left h1
        show stp (stp (some st) (oth c)) c = some st
        rw [stp_opn (oth_opn c h2), oth_oth c h, stp_clo h2]
  | kp c => rfl
  | tn c d => rfl
  | pt d => rfl
/-! struck and put for turned -/
/-! only turned -/
/-! ### the seven sets of words -/
theorem mc_row {W : Wd} {l : List Nat} {p : Nat × Nat} (h : mcN l W 0 l.length = some p) : ∃ α, Row W [] l p.1 α := by
  have h1 := Ld_whole (W := W) l
  rw [h] at h1
  exact An_pos.mp (by rw [h1.1]; exact h1.2.1)
theorem row_mc {W : Wd} {l : List Nat} {n : Nat} {α : List Stp} (h : Row W [] l n α) : ∃ p, mcN l W 0 l.length = some p ∧ p.1 ≤ n ∧ p.2 ≠ 0 := by
  have h1 := Ld_whole (W := W) l
  have h2 : An W [] l n ≠ 0 := An_pos.mpr ⟨α, h⟩
  cases hm : mcN l W 0 l.length with
  | none => rw [hm] at h1; exact absurd (h1 n) h2
  | some p =>
    rw [hm] at h1
    exact ⟨p, rfl, Nat.le_of_not_lt fun hlt => h2 (h1.2.2 n hlt), h1.2.1⟩
end Ly

set_option maxHeartbeats 4000000
namespace Ly
open PySem PySem.Spec PyProof.Rows L2 SX
/-! ### calls without arguments; a method within a comprehension -/
section
variable {X : Cx} {k j : Nat} {x : Str} {sp : Sp} {p pos : Pos}
end
section
variable {X : Cx} {K : PySem.W.Frag} {T id : String} {name : Str} {o e : Expr} {es : List Expr} {to : TE} {t : TA} {apos cpos : Pos} {r : V → List V → Hp → VK → Prop}
end
end Ly

set_option maxHeartbeats 4000000
namespace Ly
open PySem PySem.Spec PyProof.Rows L2 SX
/-! ### least numbers by words -/
inductive Mw (W : Wd) : List Nat → Nat → Prop
  | nil : Mw W [] 0
  | let_ {x n : Nat} {r : List Nat} : x ∉ BRK → Mw W r n → Mw W (x :: r) n
  | str {x n : Nat} {r : List Nat} : x ∈ BRK → W.pt = true ∨ W.st = true → Mw W r n → Mw W (x :: r) (n + 1)
  | pair {x d a b : Nat} {u v : List Nat} : x ∈ BRK → d ∈ BRK → tns x d = 0 ∨ W.tn = true → Mw W u a → Mw W v b → Mw W (x :: (u ++ d :: v)) (tns x d + a + b)
theorem tns_oo : ∀ x ∈ OPN, ∀ d ∈ OPN, tns x d = 1 := by decide
theorem tns_oc : ∀ x ∈ OPN, ∀ d ∈ CLO, tns x d = if d = oth x then 0 else 1 := by decide
theorem tns_cc : ∀ x ∈ CLO, ∀ d ∈ CLO, tns x d = 1 := by decide
theorem tns_co : ∀ x ∈ CLO, ∀ d ∈ OPN, tns x d = 2 := by decide
theorem oth_ne : ∀ x ∈ CLO, ∀ d ∈ CLO, oth d ≠ x := by decide
theorem oth_ne2 : ∀ x ∈ OPN, ∀ d ∈ OPN, oth x ≠ d := by decide
/-- the two steps of a pair -/
theorem pair_steps {W : Wd} {x d : Nat} (hx : x ∈ BRK) (hd : d ∈ BRK) (ht : tns x d = 0 ∨ W.tn = true) : ∃ (o : Nat) (y z : Stp), o ∈ OPN ∧ y.ok ∧ z.ok ∧ y.wd W ∧ z.wd W ∧ y.i = [x] ∧ z.i = [d] ∧ y.o = [o] ∧ z.o = [oth o] ∧ y.ct + z.ct = tns x d := by
  rcases brk_or.mp hx with h1 | h1
  · rcases brk_or.mp hd with h2 | h2
    · have e := tns_oo x h1 d h2
      have t : W.tn = true := by rcases ht with h | h; · omega
                                 · exact h
      exact ⟨x, .kp x, .tn d (oth x), h1, trivial, ⟨hd, oth_brk x hx, oth_ne2 x h1 d h2⟩, trivial, t, rfl, rfl, rfl, rfl, e.symm⟩
    · have e := tns_oc x h1 d h2
      by_cases hdo : d = oth x
      · rw [if_pos hdo] at e
        exact ⟨x, .kp x, .kp d, h1, trivial, trivial, trivial, trivial, rfl, rfl, rfl, by rw [hdo]; rfl, e.symm⟩
      · rw [if_neg hdo] at e
        have t : W.tn = true := by rcases ht with h | h; · omega
                                   · exact h
        exact ⟨x, .kp x, .tn d (oth x), h1, trivial, ⟨hd, oth_brk x hx, fun h => hdo h.symm⟩, trivial, t, rfl, rfl, rfl, rfl, e.symm⟩
  · rcases brk_or.mp hd with h2 | h2
    · have e := tns_co x h1 d h2
      have t : W.tn = true := by rcases ht with h | h; · omega
                                 · exact h
      exact ⟨40, .tn x 40, .tn d 41, by decide, ⟨hx, by decide, fun h => opn_clo 40 (by decide) (h ▸ h1)⟩, ⟨hd, by decide, fun h => opn_clo d h2 (h ▸ (by decide : (41 : Nat) ∈ CLO))⟩, t, t, rfl, rfl, rfl, rfl, e.symm⟩
    · have e := tns_cc x h1 d h2
      have t : W.tn = true := by rcases ht with h | h; · omega
                                 · exact h
      exact ⟨oth d, .tn x (oth d), .kp d, oth_opn d h2, ⟨hx, oth_brk d hd, oth_ne x h1 d h2⟩, trivial, t, trivial, rfl, rfl, rfl, by rw [oth_oth d hd]; rfl, e.symm⟩
theorem Mw.row {W : Wd} {l : List Nat} {n : Nat} (h : Mw W l n) : ∃ α, Row W [] l n α := by
  induction h with
  | nil => exact ⟨[], fun s hs => (by cases hs), fun s hs => (by cases hs), rfl, rfl, rfl⟩
  | @let_ x n r hx _ ih =>
    obtain ⟨α, h⟩ := ih
    exact ⟨.kp x :: α, ⟨okS_cons.mpr ⟨trivial, h.ok⟩, wd_con trivial h.wd, by rw [inS_cons, h.tx]; rfl, h.ct, (clean_let (fun h1 => hx (brk_or.mpr (.inl h1))) (fun h1 => hx (brk_or.mpr (.inr h1)))).mpr h.fo⟩⟩
  | @str x n r hx hW _ ih =>
    obtain ⟨α, h⟩ := ih
    by_cases hs : W.st = true
    · exact ⟨.st x :: α, ⟨okS_cons.mpr ⟨hx, h.ok⟩, wd_con hs h.wd, by rw [inS_cons, h.tx]; rfl, by rw [cst_cons, h.ct]; show 1 + n = n + 1; omega, h.fo⟩⟩
    · have hp : W.pt = true := hW.resolve_right hs
      have hwd : ∀ t ∈ (Stp.st x).nst, t.wd W := fun t ht => wd_mono (W := ⟨true, false, false⟩) ⟨fun _ => hp, fun q => (by cases q), fun q => (by cases q)⟩ (nst_wd (W := ⟨true, true, false⟩) (s := .st x) rfl t ht)
      refine ⟨(Stp.st x).nst ++ α, ⟨okS_app (nst_ok (s := .st x) hx) h.ok, wd_ap hwd h.wd, by rw [inS_app, nst_in, h.tx]; rfl, by rw [cstS_app, nst_ct, h.ct]; show 1 + n = n + 1; omega, ?_⟩⟩
      rw [outS_app, List.foldl_append, nst_fo (s := .st x) hx]
      exact h.fo
  | @pair x d a b u v hx hd ht _ _ ih1 ih2 =>
    obtain ⟨α, h1⟩ := ih1
    obtain ⟨β, h2⟩ := ih2
    obtain ⟨o, y, z, k1, k2, k3, k4, k5, k6, k7, k8, k9, k10⟩ := pair_steps (W := W) hx hd ht
    refine ⟨y :: (α ++ z :: β), ⟨okS_cons.mpr ⟨k2, okS_app h1.ok (okS_cons.mpr ⟨k3, h2.ok⟩)⟩, wd_con k4 (wd_ap h1.wd (wd_con k5 h2.wd)), by rw [inS_cons, inS_app, inS_cons, h1.tx, h2.tx, k6, k7]; simp, by rw [cst_cons, cstS_app, cst_cons, h1.ct, h2.ct]; omega, ?_⟩⟩
    rw [outS_cons, outS_app, outS_cons, k8, k9]
    have hh := clean_app (clean_pair k1 h1.fo) h2.fo
    rw [show [o] ++ (outS α ++ ([oth o] ++ outS β)) = o :: (outS α ++ [oth o]) ++ outS β by simp]
    exact hh
theorem tns_le {o x d : Nat} {y z : Stp} (ho : o ∈ OPN) (hy : y.ok) (hz : z.ok) (y1 : y.i = [x]) (z1 : z.i = [d]) (y2 : y.o = [o]) (z2 : z.o = [oth o]) : x ∈ BRK ∧ d ∈ BRK ∧ tns x d ≤ y.ct + z.ct ∧ ((∃ a b, y = .tn a b) ∨ (∃ a b, z = .tn a b) ∨ tns x d = 0) := by
  have t0 : ∀ o ∈ OPN, tns o (oth o) = 0 := by decide
  have t1 : ∀ o ∈ OPN, ∀ d ∈ BRK, tns o d ≤ 1 := by decide
  have t2 : ∀ o ∈ OPN, ∀ x ∈ BRK, tns x (oth o) ≤ 1 := by decide
  have t3 : ∀ x ∈ BRK, ∀ d ∈ BRK, tns x d ≤ 2 := by decide
  have hob : o ∈ BRK := brk_or.mpr (.inl ho)
  have hoc : oth o ∈ BRK := oth_brk o hob
  cases y with
  | pt c => cases y1
  | st c => cases y2
  | kp c =>
    injection y1 with y1 _
    injection y2 with y2 _
    cases z with
    | pt c => cases z1
    | st c => cases z2
    | kp c' =>
      injection z1 with z1 _
      injection z2 with z2 _
      subst y1 y2 z1
      subst z2
      exact ⟨hob, hoc, by rw [t0 _ ho]; exact Nat.zero_le _, .inr (.inr (t0 _ ho))⟩
    | tn c' e' =>
      injection z1 with z1 _
      subst y1 y2 z1
      exact ⟨hob, hz.1, t1 _ ho _ hz.1, .inr (.inl ⟨_, _, rfl⟩)⟩
  | tn c e =>
    injection y1 with y1 _
    cases z with
    | pt c => cases z1
    | st c => cases z2
    | kp c' =>
      injection z1 with z1 _
      injection z2 with z2 _
      subst y1 z1
      subst z2
      exact ⟨hy.1, hoc, t2 _ ho _ hy.1, .inl ⟨_, _, rfl⟩⟩
    | tn c' e' =>
      injection z1 with z1 _
      subst y1 z1
      exact ⟨hy.1, hz.1, t3 _ hy.1 _ hz.1, .inl ⟨_, _, rfl⟩⟩
theorem row_Mw {W : Wd} : ∀ (N : Nat) (α : List Stp), α.length ≤ N → okS α → (∀ s ∈ α, (∀ d, s ≠ .pt d) ∧ ((∃ c, s = .st c) → W.pt = true ∨ W.st = true) ∧ ((∃ a b, s = .tn a b) → W.tn = true)) → clean (outS α) → ∃ m, m ≤ cstS α ∧ Mw W (inS α) m
  | _, [], _, _, _, _ => ⟨0, Nat.le_refl _, .nil⟩
  | 0, _ :: _, hl, _, _, _ => by cases hl
  | N + 1, s :: α, hl, ho, hw, hc => by
    obtain ⟨o1, o2⟩ := okS_cons.mp ho
    have w1 := hw s (List.mem_cons_self ..)
    have w2 := fun t ht => hw t (List.mem_cons_of_mem _ ht)
    have hl' : α.length ≤ N := by simpa using hl
    rw [outS_cons] at hc
    have hio : (∃ c, s = .st c) ∨ ∃ c x, s.o = [c] ∧ s.i = [x] := by
      cases s with
      | kp c => exact .inr ⟨_, _, rfl, rfl⟩
      | st c => exact .inl ⟨c, rfl⟩
      | tn c d => exact .inr ⟨_, _, rfl, rfl⟩
      | pt d => exact absurd rfl (w1.1 d)
    rcases hio with ⟨c, rfl⟩ | ⟨c, x, hs, hx⟩
    · obtain ⟨m, h1, h2⟩ := row_Mw N α hl' o2 w2 hc
      exact ⟨m + 1, by rw [cst_cons]; show m + 1 ≤ 1 + cstS α; omega, .str o1 (w1.2.1 ⟨c, rfl⟩) h2⟩
    · rw [hs] at hc
      have hc' : clean (c :: outS α) := hc
      by_cases h1 : c ∈ OPN
      · obtain ⟨a, b, e, ha, hb⟩ := clean_opn h1 hc'
        obtain ⟨α1, y, α2, rfl, e1, e2, e3⟩ := row_cutO α a b (oth c) e
        have hlen : α1.length ≤ N ∧ α2.length ≤ N := by rw [List.length_append, List.length_cons] at hl'; omega
        have wY := w2 y (List.mem_append_right _ (List.mem_cons_self ..))
        have oY : y.ok := o2 y (List.mem_append_right _ (List.mem_cons_self ..))
        obtain ⟨m1, k1, k2⟩ := row_Mw N α1 hlen.1 (fun t ht => o2 t (List.mem_append_left _ ht)) (fun t ht => w2 t (List.mem_append_left _ ht)) (by rw [e1]; exact ha)
        obtain ⟨m2, k3, k4⟩ := row_Mw N α2 hlen.2 (fun t ht => o2 t (List.mem_append_right _ (List.mem_cons_of_mem _ ht))) (fun t ht => w2 t (List.mem_append_right _ (List.mem_cons_of_mem _ ht))) (by rw [e3]; exact hb)
        obtain ⟨d, hd⟩ : ∃ d, y.i = [d] := by
          cases y with
          | kp c => exact ⟨_, rfl⟩
          | st c => exact ⟨_, rfl⟩
          | tn c d => exact ⟨_, rfl⟩
          | pt d => exact absurd rfl (wY.1 d)
        obtain ⟨b1, b2, b3, b4⟩ := tns_le h1 o1 oY hx hd hs e2
        have ht : tns x d = 0 ∨ W.tn = true := by
          rcases b4 with h | h | h
          · exact .inr (w1.2.2 h)
          · exact .inr (wY.2.2 h)
          · exact .inl h
        refine ⟨tns x d + m1 + m2, ?_, ?_⟩
        · rw [cst_cons, cstS_app, cst_cons]
          omega
        · have := Mw.pair b1 b2 ht k2 k4
          rw [inS_cons, inS_app, inS_cons, hx, hd]
          simpa using this
      · have h2 : c ∉ CLO := fun h2 => clean_clo h2 hc'
        have h3 := (clean_let h1 h2).mp hc'
        have hcb : c ∉ BRK := fun h => (brk_or.mp h).elim h1 h2
        obtain ⟨m, k1, k2⟩ := row_Mw N α hl' o2 w2 h3
        cases s with
        | kp e =>
          injection hs with hs _
          subst hs
          exact ⟨m, k1, .let_ hcb k2⟩
        | st e => cases hs
        | tn e f =>
          injection hs with hs _
          subst hs
          exact absurd o1.2.1 hcb
        | pt f => exact absurd rfl (w1.1 f)
/-- the cost of mcN is the least of Mw -/
theorem mc_Mw {W : Wd} {l : List Nat} {p : Nat × Nat} (h : mcN l W 0 l.length = some p) : Mw W l p.1 ∧ ∀ n, Mw W l n → p.1 ≤ n := by
  have key : ∀ n, Mw W l n → p.1 ≤ n := fun n hn => by
    obtain ⟨α, hα⟩ := hn.row
    obtain ⟨p', h1, h2, _⟩ := row_mc hα
    rw [h] at h1
    have := Option.some.inj h1
    subst this
    exact h2
  refine ⟨?_, key⟩
  obtain ⟨α, hα⟩ := mc_row h
  have fin : ∃ m, m ≤ p.1 ∧ Mw W l m := by
    by_cases hp : W.pt = true
    · obtain ⟨β, hβ⟩ := noPut (W := W) α.length α (Nat.le_refl _) hα.ok hα.wd hα.fo
      obtain ⟨m, h1, h2⟩ := row_Mw (W := W) β.length β (Nat.le_refl _) hβ.ok (fun s hs => ⟨fun d e => (nomatch (show Stp.wd (nPut W) (.pt d) from e ▸ hβ.wd s hs)), fun _ => .inl hp, fun ⟨a, b, e⟩ => (show Stp.wd (nPut W) (.tn a b) from e ▸ hβ.wd s hs)⟩) hβ.cl
      rw [hβ.tx, hα.tx] at h2
      exact ⟨m, Nat.le_trans h1 (Nat.le_trans hβ.ct (Nat.le_of_eq hα.ct)), h2⟩
    · obtain ⟨m, h1, h2⟩ := row_Mw (W := W) α.length α (Nat.le_refl _) hα.ok (fun s hs => ⟨fun d e => hp (show Stp.wd W (.pt d) from e ▸ hα.wd s hs), fun ⟨c, e⟩ => .inr (show Stp.wd W (.st c) from e ▸ hα.wd s hs), fun ⟨a, b, e⟩ => (show Stp.wd W (.tn a b) from e ▸ hα.wd s hs)⟩) hα.fo
      rw [hα.tx] at h2
      exact ⟨m, Nat.le_trans h1 (Nat.le_of_eq hα.ct), h2⟩
  obtain ⟨m, h1, h2⟩ := fin
  have := key m h2
  have e : m = p.1 := by omega
  rw [← e]
  exact h2
theorem mc_Mw0 {W : Wd} {l : List Nat} (h : mcN l W 0 l.length = none) (n : Nat) : ¬ Mw W l n := fun hn => by
  obtain ⟨α, hα⟩ := hn.row
  obtain ⟨p', h1, _⟩ := row_mc hα
  rw [h] at h1
  cases h1
theorem Mw.le {W : Wd} (hW : W.pt = true ∨ W.st = true) : ∀ l : List Nat, ∃ n, n ≤ l.length ∧ Mw W l n
  | [] => ⟨0, Nat.le_refl _, .nil⟩
  | x :: l => by
    obtain ⟨n, h1, h2⟩ := Mw.le hW l
    by_cases hx : x ∈ BRK
    · exact ⟨n + 1, by rw [List.length_cons]; omega, .str hx hW h2⟩
    · exact ⟨n, by rw [List.length_cons]; omega, .let_ hx h2⟩
end Ly

set_option maxHeartbeats 4000000
namespace Ly
open PySem PySem.Spec PyProof.Rows L2 SX
/-! ### dict(list of pairs) with tuples for keys -/
section
variable {X : Cx}
end
/-! ### dicts of texts -/
def rDNewK (H : Hp) (Q : VK) : Prop := ∀ p, H p = none → Q (.ref p) (upd H p (.dK []))
theorem tDNewK_eq {σ : L2.St} {H : Hp} {Q : VK} : tDNewK σ H Q = rDNewK H Q := rfl
def DKt (H : Hp) (a : Addr) (f : Key → Option V) (n : Nat) : Prop := ∃ kvs : List (Key × V), H a = some (.dK kvs) ∧ kvs.length ≤ n ∧ ∀ k, valV kvs k = f k
section
variable {H H1 : Hp} {a p : Addr} {Q : VK} {v : V} {k : Key} {n : Nat} {R : Hp → Prop}
theorem DKt.same {f : Key → Option V} (h : DKt H a f n) (s : Same H H1) : DKt H1 a f n := by
  obtain ⟨kvs, h1, h2, h3⟩ := h
  exact ⟨kvs, s _ _ h1, h2, h3⟩
theorem DKt.but {f : Key → Option V} (h : DKt H a f n) (s : But p H H1) (hn : a ≠ p) : DKt H1 a f n := by
  obtain ⟨kvs, h1, h2, h3⟩ := h
  exact ⟨kvs, s _ _ hn h1, h2, h3⟩
theorem DKt.ne {f : Key → Option V} (h : DKt H a f n) (hb : H p = none) : a ≠ p := by
  obtain ⟨kvs, h1, h2, h3⟩ := h
  rintro rfl
  rw [h1] at hb
  cases hb
theorem DKt.get {f : Key → Option V} (h : DKt H a f n) (k : Key) : DGet H a (kV k) (f k) := by
  obtain ⟨kvs, h1, h2, h3⟩ := h
  rw [← h3]
  exact DGet.k h1
end
/-! dict([((i, i), x) for i in range(n)]) -/
/-! ### the words, told -/
def wdV (W : Wd) : List V := (if W.pt then [Tx [112, 117, 116]] else []) ++ (if W.st then [Tx [115, 116, 114, 105, 107, 101]] else []) ++ (if W.tn then [Tx [116, 117, 114, 110]] else [])
def WdT (H : Hp) (v : V) (W : Wd) : Prop := ∃ a, v = .ref a ∧ H a = some (.tup (wdV W))
theorem WdT.same {H H' : Hp} {v : V} {W : Wd} (h : WdT H v W) (s : Same H H') : WdT H' v W := by
  obtain ⟨a, h1, h2⟩ := h
  exact ⟨a, h1, s _ _ h2⟩
theorem WdT.but {H H' : Hp} {v : V} {W : Wd} {p : Addr} {ys : List V} (h : WdT H v W) (s : But p H H') (hp : H p = some (.lst ys)) : WdT H' v W := by
  obtain ⟨a, h1, h2⟩ := h
  exact ⟨a, h1, s _ _ (fun e => by rw [e, hp] at h2; cases h2) h2⟩
theorem WdT.is {K : PySem.W.Frag} {H : Hp} {v : V} {W : Wd} (h : WdT H v W) : WdIs K H v W := by
  obtain ⟨a, h1, h2⟩ := h
  refine ⟨a, _, h1, st_of h2, ?_⟩
  obtain ⟨x, y, z⟩ := W
  cases x <;> cases y <;> cases z <;> exact ⟨by decide +kernel, by decide +kernel, by decide +kernel, by decide +kernel⟩
/-! ### the law's own table of least numbers by words -/
def Vl (W : Wd) (t : List Nat) (v : Int) : Prop := 0 ≤ v ∧ (∀ n : Nat, Mw W t n → v ≤ n) ∧ (v < 1000 → ∃ n : Nat, v = n ∧ Mw W t n)
theorem Mw.len {W : Wd} {l : List Nat} {n : Nat} (h : Mw W l n) : n ≤ l.length := by
  have t3 : ∀ x ∈ BRK, ∀ d ∈ BRK, tns x d ≤ 2 := by decide
  induction h with
  | nil => exact Nat.le_refl _
  | let_ _ _ ih => rw [List.length_cons]; omega
  | str _ _ _ ih => rw [List.length_cons]; omega
  | @pair x d a b u v hx hd ht _ _ i1 i2 =>
    have := t3 x hx d hd
    rw [List.length_cons, List.length_append, List.length_cons]
    omega
theorem Vl.nil {W : Wd} : Vl W [] 0 := ⟨Int.le_refl _, fun n _ => Int.natCast_nonneg n, fun _ => ⟨0, rfl, .nil⟩⟩
theorem Vl.mc {W : Wd} {l : List Nat} {v : Int} (h : Vl W l v) (hl : l.length < 1000) : (v ≥ 1000 → mcN l W 0 l.length = none) ∧ (v < 1000 → ∃ p, mcN l W 0 l.length = some p ∧ v = p.1) := by
  obtain ⟨h0, h1, h2⟩ := h
  constructor
  · intro hv
    cases hm : mcN l W 0 l.length with
    | none => rfl
    | some p =>
      have k1 := (mc_Mw hm).1
      have k2 := h1 _ k1
      have k3 := k1.len
      omega
  · intro hv
    obtain ⟨n, e1, e2⟩ := h2 hv
    cases hm : mcN l W 0 l.length with
    | none => exact absurd e2 (mc_Mw0 hm n)
    | some p =>
      obtain ⟨k1, k2⟩ := mc_Mw hm
      have k3 := k2 n e2
      have k4 := h1 _ k1
      exact ⟨p, rfl, by omega⟩
theorem Vl.let_ {W : Wd} {x : Nat} {r : List Nat} {v : Int} (hx : x ∉ BRK) (h : Vl W r v) : Vl W (x :: r) v := by
  obtain ⟨h0, h1, h2⟩ := h
  refine ⟨h0, fun n hn => ?_, fun hv => ?_⟩
  · cases hn with
    | let_ _ hr => exact h1 _ hr
    | str hb _ _ => exact absurd hb hx
    | pair hb _ _ _ _ => exact absurd hb hx
  · obtain ⟨n, e1, e2⟩ := h2 hv
    exact ⟨n, e1, .let_ hx e2⟩
/-- a list of numbers that first steps lead to, looked at below m -/
structure Vs (W : Wd) (x : Nat) (r : List Nat) (m : Nat) (ns : List Int) : Prop where
  ne : ns ≠ []
  sound : ∀ v ∈ ns, 0 ≤ v ∧ (v < 1000 → ∃ n : Nat, v = n ∧ Mw W (x :: r) n)
  str : W.pt = true ∨ W.st = true → ∀ n : Nat, Mw W r n → ∃ v ∈ ns, v ≤ n + 1
  pair : ∀ (d a b : Nat) (u w : List Nat), r = u ++ d :: w → u.length < m → d ∈ BRK → tns x d = 0 ∨ W.tn = true → Mw W u a → Mw W w b → ∃ v ∈ ns, v ≤ ((tns x d + a + b : Nat) : Int)
theorem Vs.skip {W : Wd} {x : Nat} {r : List Nat} {m : Nat} {ns : List Int} {d : Nat} (h : Vs W x r m ns) (hd : r[m]? = some d) (hn : ¬ (d ∈ BRK ∧ (tns x d = 0 ∨ W.tn = true))) : Vs W x r (m + 1) ns := by
  refine ⟨h.ne, h.sound, h.str, fun d' a b u w e hu hd' ht ha hb => ?_⟩
  by_cases hm : u.length < m
  · exact h.pair d' a b u w e hm hd' ht ha hb
  · have : u.length = m := by omega
    have e2 : r[m]? = some d' := by rw [e, ← this]; simp
    rw [hd] at e2
    injection e2 with e2
    subst e2
    exact absurd ⟨hd', ht⟩ hn
theorem Vs.step {W : Wd} {x : Nat} {r : List Nat} {m : Nat} {ns : List Int} {d : Nat} {v1 v2 : Int} (h : Vs W x r m ns) (hx : x ∈ BRK) (hd : r[m]? = some d) (hdb : d ∈ BRK) (ht : tns x d = 0 ∨ W.tn = true) (k1 : Vl W (r.take m) v1) (k2 : Vl W (r.drop (m + 1)) v2) : Vs W x r (m + 1) (ns ++ [(tns x d : Int) + v1 + v2]) := by
  have hlt : m < r.length := (List.getElem?_eq_some_iff.mp hd).1
  have er : r = r.take m ++ d :: r.drop (m + 1) := by
    have hg : r[m] = d := (List.getElem?_eq_some_iff.mp hd).2
    rw [← hg, List.getElem_cons_drop]
    exact (List.take_append_drop m r).symm
  obtain ⟨a0, a1, a2⟩ := k1
  obtain ⟨b0, b1, b2⟩ := k2
  refine ⟨by simp, fun y hy => ?_, fun hW n hn => ?_, fun d' a b u w e hu hd' ht' ha hb => ?_⟩
  · rcases List.mem_append.mp hy with hy | hy
    · exact h.sound y hy
    · simp at hy
      subst hy
      refine ⟨by omega, fun hl => ?_⟩
      obtain ⟨n1, e1, f1⟩ := a2 (by omega)
      obtain ⟨n2, e2, f2⟩ := b2 (by omega)
      refine ⟨tns x d + n1 + n2, by omega, ?_⟩
      rw [er]
      exact .pair hx hdb ht f1 f2
  · obtain ⟨y, y1, y2⟩ := h.str hW n hn
    exact ⟨y, List.mem_append_left _ y1, y2⟩
  · by_cases hm : u.length < m
    · obtain ⟨y, y1, y2⟩ := h.pair d' a b u w e hm hd' ht' ha hb
      exact ⟨y, List.mem_append_left _ y1, y2⟩
    · have hul : u.length = m := by omega
      have e2 : r[m]? = some d' := by rw [e, ← hul]; simp
      rw [hd] at e2
      injection e2 with e2
      subst e2
      have eu : u = r.take m := by rw [e, ← hul]; simp
      have ew : w = r.drop (m + 1) := by rw [e, ← hul]; simp
      refine ⟨_, List.mem_append_right _ (List.mem_singleton.mpr rfl), ?_⟩
      have := a1 a (eu ▸ ha)
      have := b1 b (ew ▸ hb)
      omega
theorem Vs.fin {W : Wd} {x : Nat} {r : List Nat} {ns : List Int} {v : Int} (hx : x ∈ BRK) (h : Vs W x r r.length ns) (h1 : v ∈ ns) (h2 : ∀ y ∈ ns, v ≤ y) : Vl W (x :: r) v := by
  obtain ⟨s1, s2⟩ := h.sound v h1
  refine ⟨s1, fun n hn => ?_, s2⟩
  cases hn with
  | let_ hb _ => exact absurd hx hb
  | str _ hW hr =>
    obtain ⟨y, y1, y2⟩ := h.str hW _ hr
    have := h2 y y1
    omega
  | @pair _ d a b u w hx' hd ht ha hb =>
    obtain ⟨y, y1, y2⟩ := h.pair d a b u w rfl (by simp) hd ht ha hb
    have := h2 y y1
    omega
end Ly

set_option maxHeartbeats 4000000
namespace Ly
open PySem PySem.Spec PyProof.Rows L2 SX
/-! ### rows of deeds, place by place, as the law counts them -/
/-! how many keys there can be -/
theorem nodup_len {α : Type} [DecidableEq α] : ∀ (l m : List α), l.Nodup → (∀ x ∈ l, x ∈ m) → l.length ≤ m.length
  | [], m, _, _ => Nat.zero_le _
  | x :: l, m, hn, hs => by
    obtain ⟨h1, h2⟩ := List.nodup_cons.mp hn
    have hx : x ∈ m := hs x (List.mem_cons_self ..)
    have ih := nodup_len l (m.erase x) h2 fun y hy => by
      have hne : y ≠ x := fun e => h1 (e ▸ hy)
      exact (List.mem_erase_of_ne hne).mpr (hs y (List.mem_cons_of_mem _ hy))
    rw [List.length_erase_of_mem hx] at ih
    have : 0 < m.length := List.length_pos_of_mem hx
    rw [List.length_cons]
    omega
def stks : Nat → List (List Nat)
  | 0 => [[]]
  | n + 1 => [] :: CLO.flatMap fun c => (stks n).map (c :: ·)
theorem stks_len : ∀ n, (stks n).length ≤ 5 ^ n
  | 0 => Nat.le_refl _
  | n + 1 => by
    have ih := stks_len n
    rw [stks, List.length_cons, List.length_flatMap]
    have e : CLO.map (fun c => ((stks n).map (c :: ·)).length) = CLO.map fun _ => (stks n).length := List.map_congr_left fun c _ => List.length_map _
    rw [e]
    show (stks n).length + ((stks n).length + ((stks n).length + ((stks n).length + 0))) + 1 ≤ 5 ^ (n + 1)
    have h1 : 1 ≤ 5 ^ n := Nat.one_le_pow _ _ (by decide)
    rw [Nat.pow_succ]
    omega
theorem stks_mem : ∀ (n : Nat) (s : List Nat), s.length ≤ n → (∀ c ∈ s, c ∈ CLO) → s ∈ stks n
  | 0, s, h, _ => by
    have : s = [] := List.length_eq_zero_iff.mp (by omega)
    rw [this, stks]
    exact List.mem_cons_self ..
  | n + 1, [], _, _ => List.mem_cons_self ..
  | n + 1, c :: s, h, hc => by
    rw [stks]
    refine List.mem_cons_of_mem _ (List.mem_flatMap.mpr ⟨c, hc c (List.mem_cons_self ..), List.mem_map.mpr ⟨s, stks_mem n s (by rw [List.length_cons] at h; omega) (fun x hx => hc x (List.mem_cons_of_mem _ hx)), rfl⟩⟩)
def kyOf (i : Nat) (st : List Nat) (n : Nat) : List Key := [.inl (i : Int), .inr (S st.reverse), .inl (n : Int)]
theorem kyOf_inj {i j n m : Nat} {s t : List Nat} (h : kyOf i s n = kyOf j t m) : i = j ∧ s = t ∧ n = m := by
  unfold kyOf at h
  injection h with h1 h2
  injection h2 with h2 h3
  injection h3 with h3 _
  have e1 := Sum.inl.inj h1
  have e2 := Sum.inr.inj h2
  have e3 := Sum.inl.inj h3
  have e4 : s.reverse = t.reverse := Tx_inj.mp (congrArg V.str e2)
  exact ⟨by omega, by rw [← List.reverse_reverse s, e4, List.reverse_reverse], by omega⟩
def allK : List (List Key) := (List.range 5).flatMap fun i => (stks 8).flatMap fun s => (List.range 5).map fun n => kyOf i s n
theorem flat_len {α β : Type} {f : α → List β} {b : Nat} : ∀ l : List α, (∀ x ∈ l, (f x).length ≤ b) → (l.flatMap f).length ≤ l.length * b
  | [], _ => by simp
  | x :: l, h => by
    have ih := flat_len l fun y hy => h y (List.mem_cons_of_mem _ hy)
    have hx := h x (List.mem_cons_self ..)
    rw [List.flatMap_cons, List.length_append, List.length_cons, Nat.succ_mul]
    omega
theorem allK_len : allK.length ≤ 9765625 := by
  unfold allK
  refine Nat.le_trans (flat_len (b := 5 ^ 8 * 5) _ fun i _ => Nat.le_trans (flat_len (b := 5) _ fun s _ => by rw [List.length_map, List.length_range]; exact Nat.le_refl _) (Nat.mul_le_mul_right _ (stks_len 8))) ?_
  rw [List.length_range]
  decide
theorem allK_mem {i n : Nat} {s : List Nat} (hi : i ≤ 4) (hn : n ≤ 4) (hs : s.length ≤ 8) (hc : ∀ c ∈ s, c ∈ CLO) : kyOf i s n ∈ allK :=
  List.mem_flatMap.mpr ⟨i, List.mem_range.mpr (by omega), List.mem_flatMap.mpr ⟨s, stks_mem 8 s hs hc, List.mem_map.mpr ⟨n, List.mem_range.mpr (by omega), rfl⟩⟩⟩
/-- what is known -/
structure Kn (H : Hp) (a : Addr) (W : Wd) (l : List Nat) (kvs : List (List Key × V)) : Prop where
  ob : H a = some (.dT kvs)
  nd : (kvs.map (·.1)).Nodup
  ok : ∀ p ∈ kvs, ∃ (i : Nat) (st : List Nat) (n : Nat), p.1 = kyOf i st n ∧ i ≤ 4 ∧ n ≤ 4 ∧ st.length ≤ 8 ∧ (∀ c ∈ st, c ∈ CLO) ∧ p.2 = .int (An W st (l.drop i) n)
theorem Kn.len {H : Hp} {a : Addr} {W : Wd} {l : List Nat} {kvs : List (List Key × V)} (h : Kn H a W l kvs) : kvs.length ≤ 9765625 := by
  have h1 := nodup_len _ allK h.nd fun x hx => by
    obtain ⟨p, hp, rfl⟩ := List.mem_map.mp hx
    obtain ⟨i, st, n, e, k1, k2, k3, k4, _⟩ := h.ok p hp
    rw [e]
    exact allK_mem k1 k2 k3 k4
  rw [List.length_map] at h1
  exact Nat.le_trans h1 allK_len
theorem valV_mem {κ : Type} [DecidableEq κ] {k : κ} {v : V} : ∀ {kvs : List (κ × V)}, valV kvs k = some v → (k, v) ∈ kvs
  | [], h => by cases h
  | p :: r, h => by
    by_cases e : p.1 = k
    · rw [valV_pos e] at h
      injection h with h
      rw [← e, ← h]
      exact List.mem_cons_self ..
    · rw [valV_neg e] at h
      exact List.mem_cons_of_mem _ (valV_mem h)
theorem Kn.get {H : Hp} {a : Addr} {W : Wd} {l : List Nat} {kvs : List (List Key × V)} (h : Kn H a W l kvs) {i n : Nat} {st : List Nat} {v : V} (hv : valV kvs (kyOf i st n) = some v) : v = .int (An W st (l.drop i) n) := by
  obtain ⟨i', st', n', e, _, _, _, _, e2⟩ := h.ok _ (valV_mem hv)
  obtain ⟨rfl, rfl, rfl⟩ := kyOf_inj e
  exact e2
theorem putK_fst {κ : Type} [DecidableEq κ] (kvs : List (κ × V)) (k : κ) (v : V) : (putK kvs k v).map (·.1) = if k ∈ kvs.map (·.1) then kvs.map (·.1) else kvs.map (·.1) ++ [k] := by
  unfold putK
  by_cases h : k ∈ kvs.map (·.1)
  · rw [if_pos h, if_pos (by
      obtain ⟨p, hp, e⟩ := List.mem_map.mp h
      exact List.any_eq_true.mpr ⟨p, hp, by simpa using e⟩), List.map_map]
    refine List.map_congr_left fun p _ => ?_
    show (if p.1 = k then (p.1, v) else p).1 = p.1
    split <;> rfl
  · rw [if_neg h, if_neg (fun q => h (by
      obtain ⟨p, hp, e⟩ := List.any_eq_true.mp q
      exact List.mem_map.mpr ⟨p, hp, by simpa using e⟩)), List.map_append]
    rfl
theorem putK_mem {κ : Type} [DecidableEq κ] {kvs : List (κ × V)} {k : κ} {v : V} {p : κ × V} (h : p ∈ putK kvs k v) : p ∈ kvs ∨ p = (k, v) := by
  unfold putK at h
  split at h
  · obtain ⟨q, hq, e⟩ := List.mem_map.mp h
    split at e
    · rename_i e'
      exact .inr (by rw [← e, e'])
    · exact .inl (e ▸ hq)
  · rcases List.mem_append.mp h with h | h
    · exact .inl h
    · exact .inr (List.mem_singleton.mp h)
theorem Kn.put {H H1 : Hp} {a : Addr} {W : Wd} {l : List Nat} {kvs : List (List Key × V)} {i n : Nat} {st : List Nat} (h : Kn H a W l kvs) (hi : i ≤ 4) (hn : n ≤ 4) (hs : st.length ≤ 8) (hc : ∀ c ∈ st, c ∈ CLO) (e : H1 a = some (.dT (putK kvs (kyOf i st n) (.int (An W st (l.drop i) n))))) : Kn H1 a W l (putK kvs (kyOf i st n) (.int (An W st (l.drop i) n))) := by
  refine ⟨e, ?_, fun p hp => ?_⟩
  · rw [putK_fst]
    by_cases hm : kyOf i st n ∈ kvs.map (·.1)
    · rw [if_pos hm]; exact h.nd
    · rw [if_neg hm, List.nodup_append]
      refine ⟨h.nd, by simp, fun x hx y hy => ?_⟩
      rw [List.mem_singleton.mp hy]
      exact fun q => hm (q ▸ hx)
  · rcases putK_mem hp with hp | rfl
    · exact h.ok p hp
    · exact ⟨i, st, n, rfl, hi, hn, hs, hc, rfl⟩
theorem Kn.same {H H1 : Hp} {a : Addr} {W : Wd} {l : List Nat} {kvs : List (List Key × V)} (h : Kn H a W l kvs) (s : Same H H1) : Kn H1 a W l kvs := ⟨s _ _ h.ob, h.nd, h.ok⟩
/-! the least number, tried one by one -/
end Ly

set_option maxHeartbeats 4000000
namespace Ly
open PySem PySem.Spec PyProof.Rows L2 SX
/-! ### counted by their ends, with a great number where there are none -/
def En (x : MC) (e : Int × Int) : Prop := match x with
  | none => 1000 ≤ e.1 ∧ e.2 = 0
  | some p => e = ((p.1 : Int), (p.2 : Int))
def Bt (x : MC) (e : Int × Int) : Prop := match x with
  | none => e = (1000, 0)
  | some p => e = ((p.1 : Int), (p.2 : Int))
theorem Bt.en {x : MC} {e : Int × Int} (h : Bt x e) : En x e := by
  cases x with
  | none => rw [show e = (1000, 0) from h]; exact ⟨Int.le_refl _, rfl⟩
  | some p => exact h
/-! the least of a list, and how often -/
end Ly

set_option maxHeartbeats 4000000
namespace Ly
open PySem PySem.Spec PyProof.Rows L2 SX
/-! ### set(xs) of a list of ints, and its numbers sorted -/
section
variable {P : Program} {w : World} {A : Around} {E : Value → Shared → Prop} {s : Shared}
end
section
variable {X : Cx}
end
end Ly

set_option maxHeartbeats 4000000
namespace Ly
open PySem PySem.Spec PyProof.Rows L2 SX
/-! ### s.partition(' ') -/
end Ly

set_option maxHeartbeats 4000000
namespace Ly
open PySem PySem.Spec PyProof.Rows L2
/-! ### data of any kind in heaps, empty dicts too -/
mutual
inductive Dx (H : Hp) : V → PyData → Prop
  | non : Dx H .non .none
  | bl (b : Bool) : Dx H (.bl b) (.bool b)
  | int (i : Int) : Dx H (.int i) (.int i)
  | str (x : Str) : Dx H (.str x) (.str x)
  | lst {a : Addr} {xs : List V} {ds : List PyData} : H a = some (.lst xs) → DxAll H xs ds → Dx H (.ref a) (.list ds)
  | tup {a : Addr} {xs : List V} {ds : List PyData} : H a = some (.tup xs) → DxAll H xs ds → Dx H (.ref a) (.tuple ds)
  | dic {a : Addr} : H a = some (.dK []) → Dx H (.ref a) (.dict [])
inductive DxAll (H : Hp) : List V → List PyData → Prop
  | nil : DxAll H [] []
  | cons {v : V} {vs : List V} {d : PyData} {ds : List PyData} : Dx H v d → DxAll H vs ds → DxAll H (v :: vs) (d :: ds)
end
theorem DxAll.length {H : Hp} : ∀ {vs : List V} {ds : List PyData}, DxAll H vs ds → vs.length = ds.length
  | _, _, .nil => rfl
  | _, _, .cons _ h => by rw [List.length_cons, List.length_cons, h.length]
theorem DxAll.get {H : Hp} : ∀ {vs : List V} {ds : List PyData} {i : Nat} {v : V} {d : PyData}, DxAll H vs ds → vs[i]? = some v → ds[i]? = some d → Dx H v d
  | _, _, _, _, _, .nil, h, _ => by simp at h
  | _, _, 0, _, _, .cons h _, h1, h2 => by
    have e1 := Option.some.inj h1
    have e2 := Option.some.inj h2
    rw [← e1, ← e2]
    exact h
  | _, _, i + 1, _, _, .cons _ hs, h1, h2 => hs.get (i := i) h1 h2
theorem DxAll.append {H : Hp} : ∀ {vs ws : List V} {ds es : List PyData}, DxAll H vs ds → DxAll H ws es → DxAll H (vs ++ ws) (ds ++ es)
  | _, _, _, _, .nil, h => h
  | _, _, _, _, .cons h hs, h' => .cons h (hs.append h')
theorem DxAll.of {H : Hp} : ∀ {vs : List V} {ds : List PyData}, vs.length = ds.length → (∀ (i : Nat) (v : V) (d : PyData), vs[i]? = some v → ds[i]? = some d → Dx H v d) → DxAll H vs ds
  | [], [], _, _ => .nil
  | [], _ :: _, h, _ => by simp at h
  | _ :: _, [], h, _ => by simp at h
  | v :: vs, d :: ds, h, g => .cons (g 0 v d rfl rfl) (DxAll.of (by simpa using h) fun i v d h1 h2 => g (i + 1) v d h1 h2)
mutual
theorem dx_same {H H' : Hp} (s : ∀ b o, H b = some o → H' b = some o) : ∀ {v : V} {d : PyData}, Dx H v d → Dx H' v d
  | _, _, .non => .non
  | _, _, .bl b => .bl b
  | _, _, .int i => .int i
  | _, _, .str l => .str l
  | _, _, .lst h hs => .lst (s _ _ h) (dxs_same s hs)
  | _, _, .tup h hs => .tup (s _ _ h) (dxs_same s hs)
  | _, _, .dic h => .dic (s _ _ h)
theorem dxs_same {H H' : Hp} (s : ∀ b o, H b = some o → H' b = some o) : ∀ {vs : List V} {ds : List PyData}, DxAll H vs ds → DxAll H' vs ds
  | _, _, .nil => .nil
  | _, _, .cons h hs => .cons (dx_same s h) (dxs_same s hs)
end
section
variable {X : Cx} {pins : List (Addr × Obj)} {σ : L2.St} {H : Hp} {s : Shared}
mutual
theorem dx_rk (I : Inv X pins σ H s) : ∀ {v : V} {d : PyData} {u : Value}, Dx H v d → RelV v u → d.showable = true → d.shown.length ≤ sizeLine →
    ∃ as bs, Reads s.heap u d as ∧ ReadAtMost s.heap d.depth bs ∧ ReprK X.prog X.w bs s.heap d.depth u d.shown
  | _, _, _, .non, r, _, _ => by
    cases r
    exact ⟨_, [], .none, (fun _ h => nomatch h), by simp only [PyData.shown]; exact .of_is ReprIs.none _ _ _⟩
  | _, _, _, .bl b, r, _, _ => by
    cases r
    exact ⟨_, [], .bool b, (fun _ h => nomatch h), by simp only [PyData.shown]; exact .of_is (ReprIs.bool b) _ _ _⟩
  | _, _, _, .int i, r, hs, _ => by
    obtain ⟨t, rfl⟩ := r
    exact ⟨_, [], .int i t, (fun _ h => nomatch h), by simp only [PyData.shown]; exact .of_is (ReprIs.int t (by simpa [PyData.showable] using hs)) _ _ _⟩
  | _, _, _, .str x, r, _, hz => by
    obtain ⟨t, rfl⟩ := r
    exact ⟨_, [], .str x t, (fun _ h => nomatch h), by simp only [PyData.shown]; exact .of_is (ReprIs.str x t (by simpa only [PyData.shown] using hz)) _ _ _⟩
  | _, _, _, .lst (a := a) (xs := xs) (ds := ds) h ha, r, hs, hz => by
    cases r
    have hz' : (listText (PyData.shownAll ds)).length ≤ sizeLine := by simpa only [PyData.shown] using hz
    obtain ⟨its, rv, ⟨o, n, h1, h2, _, h3⟩, _⟩ := I.list (.inl (.inl h))
    obtain ⟨as, bs, h4, hb, hk⟩ := dxs_rk I ha rv (by simpa [PyData.showable] using hs) (fun t ht => Nat.le_trans (listText_mem_le ht) hz')
    have r : Reads s.heap (.ref a) (.list ds) _ := .list h1 h2 h3 h4
    have hna : a ∉ bs := not_mem_of_deeper r (by simp only [PyData.depth]; omega) hb
    refine ⟨_, a :: bs, r, ReadAtMost.cons r (by simp only [PyData.depth]; omega) hb, ?_⟩
    simp only [PyData.depth, PyData.shown]
    cases its with
    | nil =>
      cases h4
      simp only [PyData.shownAll, listText_nil]
      exact ReprK.listEmpty h1 h2 h3
    | cons x l => exact ReprK.list h1 h2 h3 hna (by simpa using hk.length_eq) (fun i y e => hk.item i y (by simpa using e))
  | _, _, _, .tup (a := a) (xs := xs) (ds := ds) h ha, r, hs, hz => by
    cases r
    have hz' : (tupleText (PyData.shownAll ds)).length ≤ sizeLine := by simpa only [PyData.shown] using hz
    obtain ⟨its, rv, ⟨o, h1, h2, n, h3⟩, _⟩ := I.tuple (.inl (.inl h))
    obtain ⟨as, bs, h4, hb, hk⟩ := dxs_rk I ha rv (by simpa [PyData.showable] using hs) (fun t ht => Nat.le_trans (tupleText_mem_le ht) hz')
    have r : Reads s.heap (.ref a) (.tuple ds) _ := .tuple h1 h2 h3 h4
    have hna : a ∉ bs := not_mem_of_deeper r (by simp only [PyData.depth]; omega) hb
    refine ⟨_, a :: bs, r, ReadAtMost.cons r (by simp only [PyData.depth]; omega) hb, ?_⟩
    simp only [PyData.depth, PyData.shown]
    exact ReprK.tuple h1 h2 h3 hna hk
  | _, _, _, .dic (a := a) h, r, hs, hz => by
    cases r
    obtain ⟨_, hsys, vs, kv, o, es, ep, h1, h2, h3, _, h4, _⟩ := dk_of I.hok h
    cases kv
    have he : es.toList = [] := by
      cases h5 : es.toList with
      | nil => rfl
      | cons x l => rw [h5] at h4; cases h4
    have e : es = #[] := by cases es; simp_all
    subst e
    have r : Reads s.heap (.ref a) (.dict []) _ := .dict h1 h2.1 h3 .nil .nil
    refine ⟨_, [a], r, ReadAtMost.cons r (by simp only [PyData.depth]; omega) (n := 0) (fun _ h => nomatch h), ?_⟩
    simp only [PyData.depth, PyData.shown]
    exact ReprK.dict h1 h2.1 h3 hsys (by simp) .nil
theorem dxs_rk (I : Inv X pins σ H s) : ∀ {vs : List V} {ds : List PyData} {us : List Value}, DxAll H vs ds → Vals vs us → PyData.showableAll ds = true → (∀ t ∈ PyData.shownAll ds, t.length ≤ sizeLine) →
    ∃ as bs, ReadsAll s.heap us ds as ∧ ReadAtMost s.heap (PyData.depthAll ds) bs ∧ ReprAllK X.prog X.w bs s.heap (PyData.depthAll ds) us (PyData.shownAll ds)
  | _, _, _, .nil, r, _, _ => by
    cases r
    exact ⟨_, [], .nil, (fun _ h => nomatch h), by simp only [PyData.shownAll]; exact .nil⟩
  | _, _, _, .cons (d := d) (ds := ds) h ha, r, hs, hz => by
    cases r with
    | cons r1 r2 =>
      have hs' : d.showable = true ∧ PyData.showableAll ds = true := by simpa [PyData.showableAll] using hs
      obtain ⟨a1, b1, q1, hb1, k1⟩ := dx_rk I h r1 hs'.1 (hz _ (by simp only [PyData.shownAll]; exact List.mem_cons_self ..))
      obtain ⟨a2, b2, q2, hb2, k2⟩ := dxs_rk I ha r2 hs'.2 (fun t ht => hz t (by simp only [PyData.shownAll]; exact List.mem_cons_of_mem _ ht))
      refine ⟨_, b1 ++ b2, .cons q1 q2, ?_, ?_⟩
      · intro b hm
        simp only [PyData.depthAll]
        rcases List.mem_append.mp hm with hm | hm
        · obtain ⟨d', as', r', hd'⟩ := hb1 b hm
          exact ⟨d', as', r', Nat.le_trans hd' (Nat.le_max_left _ _)⟩
        · obtain ⟨d', as', r', hd'⟩ := hb2 b hm
          exact ⟨d', as', r', Nat.le_trans hd' (Nat.le_max_right _ _)⟩
      · simp only [PyData.depthAll, PyData.shownAll]
        exact .cons ((k1.more fun b hb => List.mem_append_left _ hb).level_le (Nat.le_max_left _ _)) (k2.more_le (fun b hb => List.mem_append_right _ hb) (Nat.le_max_right _ _))
end
/-- repr of any thing -/
theorem dx_repr {v : V} {d : PyData} {u : Value} {Q E : Value → Shared → Prop} (I : Inv X pins σ H s) (h : Dx H v d) (r : RelV v u) (hs : d.showable = true) (hz : d.shown.length ≤ sizeLine) (hg : X.A.guards = some []) (hu : X.A.units + (d.depth + 1) < cLine)
    (hQ : ∀ h' t tk, (∀ b o, s.heap.get? b = some o → h'.get? b = some o) → Q (.str d.shown t) { s with heap := h', toks := tk }) : wpAny (model X.prog X.w) X.A (call (.builtin "repr") [u]) Q E s := by
  cases h with
  | non =>
    cases r
    simp only [PyData.shown] at hQ
    exact P.repr_of_none (hQ s.heap _ _ fun _ _ e => e)
  | bl b =>
    cases r
    simp only [PyData.shown] at hQ
    exact P.repr_of_bool (hQ s.heap _ _ fun _ _ e => e)
  | int i =>
    obtain ⟨t, rfl⟩ := r
    simp only [PyData.shown] at hQ
    exact P.repr_of_int (by simpa [PyData.showable] using hs) (hQ s.heap _ _ fun _ _ e => e)
  | str x =>
    obtain ⟨t, rfl⟩ := r
    simp only [PyData.shown] at hQ
    exact P.repr_of_str (hQ s.heap _ _ fun _ _ e => e) (by simpa only [PyData.shown] using hz)
  | @lst a xs ds h ha =>
    cases r
    have hz' : (listText (PyData.shownAll ds)).length ≤ sizeLine := by simpa only [PyData.shown] using hz
    obtain ⟨its, rv, ⟨o, n, h1, h2, _, h3⟩, _⟩ := I.list (.inl (.inl h))
    obtain ⟨as, bs, h4, hb, hk⟩ := dxs_rk I ha rv (by simpa [PyData.showable] using hs) (fun t ht => Nat.le_trans (listText_mem_le ht) hz')
    have r : Reads s.heap (.ref a) (.list ds) _ := .list h1 h2 h3 h4
    have hna : a ∉ bs := not_mem_of_deeper r (by simp only [PyData.depth]; omega) hb
    simp only [PyData.shown] at hQ
    simp only [PyData.depth] at hu
    refine call_repr_slot (T := "list") (by omega) ⟨o, h1, h2⟩ F.slot_list_repr.toG ?_
    cases its with
    | nil =>
      cases h4
      simp only [PyData.shownAll, listText_nil] at hQ
      exact call_list_repr_empty ⟨o, h1, h2⟩ h1 h3 ⟨_, _, rfl, hQ s.heap _ _ fun _ _ e => e⟩
    | cons x l =>
      exact call_list_reprK h1 h2 h3 hna (by simpa using hk.length_eq) (fun i y e => hk.item i y (by simpa using e)) hg (fun b _ => Clear.nil b) (by show X.A.units + 1 + _ < cLine; omega) (fun _ _ e => e) (fun h' t tk hk => ⟨_, _, rfl, hQ h' t tk hk⟩) hz'
  | @tup a xs ds h ha =>
    cases r
    have hz' : (tupleText (PyData.shownAll ds)).length ≤ sizeLine := by simpa only [PyData.shown] using hz
    obtain ⟨its, rv, ⟨o, h1, h2, n, h3⟩, _⟩ := I.tuple (.inl (.inl h))
    obtain ⟨as, bs, h4, hb, hk⟩ := dxs_rk I ha rv (by simpa [PyData.showable] using hs) (fun t ht => Nat.le_trans (tupleText_mem_le ht) hz')
    have r : Reads s.heap (.ref a) (.tuple ds) _ := .tuple h1 h2 h3 h4
    have hna : a ∉ bs := not_mem_of_deeper r (by simp only [PyData.depth]; omega) hb
    simp only [PyData.shown] at hQ
    simp only [PyData.depth] at hu
    refine call_repr_slot (T := "tuple") (by omega) ⟨o, h1, h2⟩ F.slot_tuple_repr ?_
    exact call_tuple_reprK h1 h2 h3 hna hk hg (fun b _ => Clear.nil b) (by show X.A.units + 1 + _ < cLine; omega) (fun _ _ e => e) (fun h' t tk hk => ⟨_, _, rfl, hQ h' t tk hk⟩) hz'
  | @dic a h =>
    cases r
    obtain ⟨_, hsys, vs, kv, o, es, ep, h1, h2, h3, _, h4, _⟩ := dk_of I.hok h
    cases kv
    have he : es.toList = [] := by
      cases h5 : es.toList with
      | nil => rfl
      | cons x l => rw [h5] at h4; cases h4
    have e : es = #[] := by cases es; simp_all
    subst e
    simp only [PyData.shown] at hQ
    simp only [PyData.depth] at hu
    refine call_repr_slot (T := "dict") (by omega) ⟨o, h1, h2.1⟩ F.slot_dict_repr ?_
    exact call_dict_reprK h1 h2.1 h3 hsys (as := []) (d := 0) (by simp) .nil hg (fun b _ => Clear.nil b) (by show X.A.units + 1 + _ < cLine; have : PyData.depthKv [] = 0 := rfl; omega) (fun _ _ e => e) (fun h' t tk hk => ⟨_, _, rfl, hQ h' t tk hk⟩) hz
end
end Ly

set_option maxHeartbeats 4000000
namespace Ly
open PySem PySem.Spec PyProof.Rows L2 SX
/-! ### kinds of things -/
def tyN : PyData → String
  | .none => "NoneType"
  | .bool _ => "bool"
  | .int _ => "int"
  | .str _ => "str"
  | .list _ => "list"
  | .tuple _ => "tuple"
  | .dict _ => "dict"
theorem ty_dx {K : PySem.W.Frag} {H : Hp} : ∀ {v : V} {d : PyData}, Dx H v d → TyX K H v (.type (tyN d))
  | _, _, .non => ty_non
  | _, _, .bl _ => ty_bl
  | _, _, .int _ => ty_int
  | _, _, .str _ => ty_str
  | _, _, .lst h _ => ty_lst h
  | _, _, .tup h _ => ty_tup h
  | _, _, .dic h => .base (.dK h)
inductive Ty5 where
  | str
  | int
  | bool
  | list
  | tuple
def Ty5.nm : Ty5 → String
  | .str => "str"
  | .int => "int"
  | .bool => "bool"
  | .list => "list"
  | .tuple => "tuple"
def isT : PyData → Ty5 → Bool
  | .str _, .str => true
  | .int _, .int => true
  | .bool _, .int => true
  | .bool _, .bool => true
  | .list _, .list => true
  | .tuple _, .tuple => true
  | _, _ => false
theorem kit_isT (d : PyData) (T : Ty5) : kitB (tyN d) T.nm = some (isT d T) := by
  have h : ∀ t ∈ ["NoneType", "bool", "int", "str", "list", "tuple", "dict"], ∀ u ∈ ["str", "int", "bool", "list", "tuple"], kitB t u = some (t == u || (t == "bool" && u == "int")) := by decide +kernel
  have h1 := h (tyN d) (by cases d <;> simp [tyN]) T.nm (by cases T <;> simp [Ty5.nm])
  rw [h1]
  congr 1
  cases d <;> cases T <;> (simp only [tyN, Ty5.nm, isT]; decide)
section
variable {K : PySem.W.Frag} {H : Hp} {Q : VK} {v : V} {d : PyData}
theorem g_isI (h : Dx H v d) (q : Q (.bl (isT d .int)) H) : rIsi K [v, .ty "int"] H Q := g_isi (ty_dx h) (kit_isT d .int) q
theorem g_isB (h : Dx H v d) (q : Q (.bl (isT d .bool)) H) : rIsi K [v, .ty "bool"] H Q := g_isi (ty_dx h) (kit_isT d .bool) q
theorem g_isL (h : Dx H v d) (q : Q (.bl (isT d .list)) H) : rIsi K [v, .ty "list"] H Q := g_isi (ty_dx h) (kit_isT d .list) q
end
theorem dx_list {H : Hp} {v : V} {d : PyData} (h : Dx H v d) (ht : isT d .list = true) : ∃ a xs ds, v = .ref a ∧ d = .list ds ∧ H a = some (.lst xs) ∧ DxAll H xs ds := by
  cases h with
  | lst h hs => exact ⟨_, _, _, rfl, rfl, h, hs⟩
  | _ => cases ht
/-! ### the size of things -/
def nbK : Nat → Nat
  | 3 => 200
  | 2 => 45
  | 1 => 4
  | _ => 0
mutual
def nc : Nat → PyData → Bool
  | _, .none => true
  | _, .bool _ => true
  | _, .int i => decide (i.natAbs < 10 ^ 100)
  | _, .str s => decide (s.length ≤ 20) && s.cps.toList.all fun c => decide (c < 1114112)
  | k + 1, .list ds => decide (ds.length ≤ nbK (k + 1)) && ncA k ds
  | k + 1, .tuple ds => decide (ds.length ≤ nbK (k + 1)) && ncA k ds
  | 0, .list ds => ds.isEmpty
  | 0, .tuple ds => ds.isEmpty
  | _, .dict ds => ds.isEmpty
def ncA : Nat → List PyData → Bool
  | _, [] => true
  | k, d :: ds => nc k d && ncA k ds
end
theorem ncA_app {k : Nat} : ∀ {ds es : List PyData}, ncA k (ds ++ es) = (ncA k ds && ncA k es)
  | [], es => by rw [List.nil_append, ncA, Bool.true_and]
  | d :: ds, es => by rw [List.cons_append, ncA, ncA, ncA_app, Bool.and_assoc]
theorem ncA_mem {k : Nat} {ds : List PyData} : ncA k ds = true ↔ ∀ d ∈ ds, nc k d = true := by
  induction ds with
  | nil => exact ⟨fun _ d h => (by cases h), fun _ => rfl⟩
  | cons d ds ih =>
    rw [ncA, Bool.and_eq_true, ih]
    constructor
    · rintro ⟨h1, h2⟩ e he
      rcases List.mem_cons.mp he with rfl | he
      · exact h1
      · exact h2 e he
    · exact fun h => ⟨h d (List.mem_cons_self ..), fun e he => h e (List.mem_cons_of_mem _ he)⟩
/-- how long a thing of a level may be shown -/
def szK : Nat → Nat
  | 0 => 204
  | k + 1 => nbK (k + 1) * (szK k + 2) + 204
theorem szK_mono (k : Nat) : 204 ≤ szK k := by cases k <;> unfold szK <;> omega
theorem leaf_int {i : Int} (h : i.natAbs < 10 ^ 100) : i.natAbs.log2 < 1920 ∧ (PyData.shown (.int i)).length ≤ 204 := by
  constructor
  · by_cases h0 : i.natAbs = 0
    · rw [h0]; decide
    · refine (Nat.log2_lt h0).mpr (Nat.lt_trans h (by decide +kernel))
  · have h1 := int_text_length_le10 (k := 100) (by decide) h
    have e : (PyData.shown (.int i)).length = (toString i).length := by
      simp only [PyData.shown]
      exact PySem.ofString_length _
    omega
theorem leaf_str {z : Str} (h : (decide (z.length ≤ 20) && z.cps.toList.all fun c => decide (c < 1114112)) = true) : (reprText z).length ≤ 204 := by
  rw [Bool.and_eq_true] at h
  have h1 := of_decide_eq_true h.1
  have h2 := PySem.StrLaws.reprText_len z fun c hc => Nat.lt_trans (of_decide_eq_true (List.all_eq_true.mp h.2 c hc)) (by decide)
  omega
mutual
theorem nc_ok : ∀ {k : Nat} {d : PyData}, nc k d = true → d.showable = true ∧ d.shown.length ≤ szK k ∧ d.depth ≤ k + 1
  | k, .none, _ => ⟨rfl, Nat.le_trans (by simp only [PyData.shown]; decide) (szK_mono k), Nat.zero_le _⟩
  | k, .bool b, _ => ⟨rfl, Nat.le_trans (by simp only [PyData.shown]; cases b <;> decide) (szK_mono k), Nat.zero_le _⟩
  | k, .int i, h => by
    have h := leaf_int (of_decide_eq_true (by simpa only [nc] using h))
    exact ⟨by simp only [PyData.showable]; exact decide_eq_true h.1, Nat.le_trans h.2 (szK_mono k), Nat.zero_le _⟩
  | k, .str s, h => ⟨rfl, Nat.le_trans (by simp only [PyData.shown]; exact leaf_str (by simpa only [nc] using h)) (szK_mono k), Nat.zero_le _⟩
  | k + 1, .list ds, h => by
    simp only [nc, Bool.and_eq_true] at h
    obtain ⟨h1, h2⟩ := h
    have h1 := of_decide_eq_true h1
    obtain ⟨a1, a2, a3, a4⟩ := ncA_ok h2
    refine ⟨by simp only [PyData.showable]; exact a1, ?_, by simp only [PyData.depth]; omega⟩
    simp only [PyData.shown]
    have z := listText_len_le (PyData.shownAll ds)
    rw [a4] at z
    have : ds.length * (szK k + 2) ≤ nbK (k + 1) * (szK k + 2) := Nat.mul_le_mul_right _ h1
    rw [Nat.mul_add] at this
    rw [szK]
    omega
  | k + 1, .tuple ds, h => by
    simp only [nc, Bool.and_eq_true] at h
    obtain ⟨h1, h2⟩ := h
    have h1 := of_decide_eq_true h1
    obtain ⟨a1, a2, a3, a4⟩ := ncA_ok h2
    refine ⟨by simp only [PyData.showable]; exact a1, ?_, by simp only [PyData.depth]; omega⟩
    simp only [PyData.shown]
    have z := tupleText_len_le (PyData.shownAll ds)
    rw [a4] at z
    have : ds.length * (szK k + 2) ≤ nbK (k + 1) * (szK k + 2) := Nat.mul_le_mul_right _ h1
    rw [Nat.mul_add] at this
    rw [szK]
    omega
  | 0, .list ds, h => by
    have : ds = [] := by simpa [nc] using h
    subst this
    exact ⟨rfl, by decide, by decide⟩
  | 0, .tuple ds, h => by
    have : ds = [] := by simpa [nc] using h
    subst this
    exact ⟨rfl, by decide, by decide⟩
  | k, .dict ds, h => by
    have : ds = [] := by simpa [nc] using h
    subst this
    exact ⟨rfl, Nat.le_trans (by simp only [PyData.shown, PyData.shownKv]; decide) (szK_mono k), by simp only [PyData.depth, PyData.depthKv]; omega⟩
theorem ncA_ok : ∀ {k : Nat} {ds : List PyData}, ncA k ds = true → PyData.showableAll ds = true ∧ ((PyData.shownAll ds).map (·.length)).sum ≤ ds.length * szK k ∧ PyData.depthAll ds ≤ k + 1 ∧ (PyData.shownAll ds).length = ds.length
  | _, [], _ => ⟨rfl, by simp [PyData.shownAll], by simp only [PyData.depthAll]; omega, by simp [PyData.shownAll]⟩
  | k, d :: ds, h => by
    rw [ncA, Bool.and_eq_true] at h
    obtain ⟨a1, a2, a3⟩ := nc_ok h.1
    obtain ⟨b1, b2, b3, b4⟩ := ncA_ok h.2
    refine ⟨by simp only [PyData.showableAll, a1, b1]; rfl, ?_, by simp only [PyData.depthAll]; omega, ?_⟩
    · simp only [PyData.shownAll, List.map_cons, List.sum_cons, List.length_cons]
      rw [Nat.add_mul, Nat.one_mul]
      omega
    · simp only [PyData.shownAll, List.length_cons, b4]
end
theorem nc3 {d : PyData} (h : nc 3 d = true) : d.showable = true ∧ d.shown.length ≤ sizeLine ∧ d.depth ≤ 4 := by
  obtain ⟨h1, h2, h3⟩ := nc_ok h
  exact ⟨h1, Nat.le_trans h2 (by decide), h3⟩
def rReprX (xs : List V) (H : Hp) (Q : VK) : Prop := ∃ v d, xs = [v] ∧ Dx H v d ∧ nc 3 d = true ∧ Q (.str d.shown) H
section
variable {X : Cx}
theorem call_reprX (hg : X.A.guards = some []) (hu : X.A.units + 190 < cLine) : CallR X (.builtin "repr") rReprX := by
  intro pins s σ H xs us Q I r h
  obtain ⟨v, d, rfl, hd, hn, q⟩ := h
  obtain ⟨u, rfl, ru⟩ := vals1 r
  obtain ⟨h1, h2, h3⟩ := nc3 hn
  exact dx_repr I hd ru h1 h2 hg (by omega) (fun h' t tk hk => ⟨.str _, H, I.kept hk, ⟨_, rfl⟩, q⟩)
end
theorem g_reprX {H : Hp} {Q : VK} {v : V} {d : PyData} (h : Dx H v d) (hn : nc 3 d = true) (q : Q (.str d.shown) H) : rReprX [v] H Q := ⟨v, d, rfl, h, hn, q⟩
/-! ### deeds among things -/
theorem Dds.dx {H : Hp} {a : Addr} {rs : List Addr} {ds : List Deed} (h : Dds H a rs ds) : Dx H (.ref a) (ddsD ds) := by
  refine .lst h.hd (.of (by rw [List.length_map, List.length_map]; exact h.len) fun k v d h1 h2 => ?_)
  rw [List.getElem?_map] at h1 h2
  cases e1 : rs[k]? with
  | none => rw [e1] at h1; cases h1
  | some r =>
    cases e2 : ds[k]? with
    | none => rw [e2] at h2; cases h2
    | some e =>
      rw [e1] at h1
      rw [e2] at h2
      rw [← Option.some.inj h1, ← Option.some.inj h2]
      exact .tup (h.it k r e e1 e2) (.cons (.int _) (.cons (.str _) (.cons (.str _) .nil)))
end Ly

set_option maxHeartbeats 4000000
namespace Ly
open PySem PySem.Spec PyProof.Rows L2 SX
/-! ### readings that tell things -/
/-- the heap without ps -/
def del (ps : List Addr) (H : Hp) : Hp := fun x => if x ∈ ps then none else H x
/-- all of ps stand -/
def Std (ps : List Addr) (H : Hp) : Prop := ∀ p ∈ ps, ∃ o, H p = some o
section
variable {q a b : Addr} {p : List Addr} {o : HO} {H H' H1 : Hp} {v : V} {d : PyData} {vs : List V} {ds : List PyData}
theorem Std.nil : Std [] H := fun _ h => by cases h
theorem Std.cons (h : H a = some o) (hs : Std p H) : Std (a :: p) H := fun x hx => by
  rcases List.mem_cons.mp hx with rfl | hx
  · exact ⟨_, h⟩
  · exact hs x hx
theorem Std.sm (h : Std p H) (s : Same H H') : Std p H' := fun x hx => let ⟨o, e⟩ := h x hx; ⟨o, s _ _ e⟩
theorem Std.new (h : Std p H) (nb : H b = none) : b ∉ p := fun hb => by
  obtain ⟨o, e⟩ := h b hb
  rw [nb] at e
  cases e
theorem del_get (n : a ∉ p) (h : H a = some o) : del p H a = some o := by unfold del; rw [if_neg n]; exact h
theorem del_un (h : del p H a = some o) : H a = some o ∧ a ∉ p := by
  unfold del at h
  by_cases e : a ∈ p
  · rw [if_pos e] at h; cases h
  · rw [if_neg e] at h; exact ⟨h, e⟩
theorem del_but (hq : q ∈ p) (s : But q H H') : ∀ b o, del p H b = some o → del p H' b = some o := fun b o h => del_get (del_un h).2 (s b o (fun e => (del_un h).2 (e ▸ hq)) (del_un h).1)
theorem del_same (s : Same H H') : ∀ b o, del p H b = some o → del p H' b = some o := fun b o h => del_get (del_un h).2 (s b o (del_un h).1)
/-- what stands off p, in a heap where b is none yet, stands off b, too -/
theorem del_new (nb : H b = none) (s : But b H H') : ∀ c o, del p H c = some o → del (b :: p) H' c = some o := fun c o h => by
  have hcb : c ≠ b := fun e => by have := (del_un h).1; rw [e, nb] at this; cases this
  exact del_get (fun hc => by rcases List.mem_cons.mp hc with e | e; exact hcb e; exact (del_un h).2 e) (s c o hcb (del_un h).1)
theorem del_tl : ∀ c o, del (b :: p) H c = some o → del p H c = some o := fun c o h => del_get (fun hc => (del_un h).2 (List.mem_cons_of_mem _ hc)) (del_un h).1
theorem Dx.nw (h : Dx (del p H) v d) (nb : H b = none) (s : But b H H') : Dx (del (b :: p) H') v d := dx_same (del_new nb s) h
theorem DxAll.nw (h : DxAll (del p H) vs ds) (nb : H b = none) (s : But b H H') : DxAll (del (b :: p) H') vs ds := dxs_same (del_new nb s) h
theorem Dx.tl (h : Dx (del (b :: p) H) v d) : Dx (del p H) v d := dx_same del_tl h
theorem DxAll.tl (h : DxAll (del (b :: p) H) vs ds) : DxAll (del p H) vs ds := dxs_same del_tl h
theorem Dx.un (h : Dx (del p H) v d) : Dx H v d := dx_same (fun b o h => (del_un h).1) h
theorem DxAll.un (h : DxAll (del p H) vs ds) : DxAll H vs ds := dxs_same (fun b o h => (del_un h).1) h
theorem Dx.sm (h : Dx (del p H) v d) (s : Same H H') : Dx (del p H') v d := dx_same (del_same s) h
theorem Dx.bt (h : Dx (del p H) v d) (s : But q H H') (hq : q ∈ p := by simp) : Dx (del p H') v d := dx_same (del_but hq s) h
theorem DxAll.sm (h : DxAll (del p H) vs ds) (s : Same H H') : DxAll (del p H') vs ds := dxs_same (del_same s) h
theorem DxAll.bt (h : DxAll (del p H) vs ds) (s : But q H H') (hq : q ∈ p := by simp) : DxAll (del p H') vs ds := dxs_same (del_but hq s) h
theorem dxa_take {n : Nat} : ∀ {vs : List V} {ds : List PyData}, DxAll H vs ds → DxAll H (vs.take n) (ds.take n) := by
  induction n with
  | zero => intro vs ds _; exact .nil
  | succ n ih =>
    intro vs ds h
    cases h with
    | nil => exact .nil
    | cons h hs => exact .cons h (ih hs)
theorem dxa_drop {n : Nat} : ∀ {vs : List V} {ds : List PyData}, DxAll H vs ds → DxAll H (vs.drop n) (ds.drop n) := by
  induction n with
  | zero => intro vs ds h; exact h
  | succ n ih =>
    intro vs ds h
    cases h with
    | nil => exact .nil
    | cons h hs => exact ih hs
theorem dxa_set {d : PyData} {v : V} (hv : Dx H v d) : ∀ {vs : List V} {ds : List PyData} {n : Nat}, DxAll H vs ds → DxAll H (vs.set n v) (ds.set n d)
  | _, _, _, .nil => .nil
  | _, _, 0, .cons h hs => .cons hv hs
  | _, _, n + 1, .cons h hs => .cons h (dxa_set hv hs)
theorem dxa_rev : ∀ {vs : List V} {ds : List PyData}, DxAll H vs ds → DxAll H vs.reverse ds.reverse
  | _, _, .nil => .nil
  | _, _, .cons h hs => by rw [List.reverse_cons, List.reverse_cons]; exact (dxa_rev hs).append (.cons h .nil)
theorem dxa_rep {n : Nat} (h : DxAll H vs ds) : DxAll H (List.replicate n vs).flatten (List.replicate n ds).flatten := by
  induction n with
  | zero => exact .nil
  | succ n ih => rw [List.replicate_succ, List.replicate_succ, List.flatten_cons, List.flatten_cons]; exact h.append ih
end
def cutL {α : Type} (xs : List α) (lo hi : Option Int) : List α := (xs.drop (HT.sIx xs.length 0 lo)).take (HT.sIx xs.length xs.length hi - HT.sIx xs.length 0 lo)
theorem dxa_cut {H : Hp} {vs : List V} {ds : List PyData} {lo hi : Option Int} (h : DxAll H vs ds) : DxAll H (cutV vs lo hi) (cutL ds lo hi) := by
  show DxAll H ((vs.drop (HT.sIx vs.length 0 lo)).take (HT.sIx vs.length vs.length hi - HT.sIx vs.length 0 lo)) _
  unfold cutL
  rw [h.length]
  exact dxa_take (dxa_drop h)
theorem cutL_from {α : Type} {xs : List α} {i : Nat} : cutL xs (some (i : Int)) none = xs.drop i := by
  unfold cutL
  have e1 : HT.sIx xs.length 0 (some (i : Int)) = min i xs.length := by unfold HT.sIx; simp; omega
  have e2 : HT.sIx xs.length xs.length none = xs.length := by unfold HT.sIx; simp
  rw [e1, e2, List.take_of_length_le (by rw [List.length_drop]; exact Nat.le_refl _)]
  by_cases h : i ≤ xs.length
  · rw [Nat.min_eq_left h]
  · rw [Nat.min_eq_right (by omega), List.drop_eq_nil_of_le (Nat.le_refl _), List.drop_eq_nil_of_le (by omega)]
theorem cutL_to {α : Type} {xs : List α} {i : Nat} : cutL xs none (some (i : Int)) = xs.take i := by
  unfold cutL
  have e1 : HT.sIx xs.length xs.length (some (i : Int)) = min i xs.length := by unfold HT.sIx; simp; omega
  have e2 : HT.sIx xs.length 0 none = 0 := by unfold HT.sIx; simp
  rw [e1, e2, List.drop_zero, Nat.sub_zero]
  by_cases h : i ≤ xs.length
  · rw [Nat.min_eq_left h]
  · rw [Nat.min_eq_right (by omega), List.take_of_length_le (Nat.le_refl _), List.take_of_length_le (by omega)]
def Rd (p : List Addr) (t : TE) (σ : L2.St) (H : Hp) (d : PyData) : Prop := ∀ (H1 : Hp) (Q : VK), Same H H1 → (∀ v H2, Same H1 H2 → Dx (del p H2) v d → Q v H2) → t σ H1 Q
def RdA (p : List Addr) (t : TA) (σ : L2.St) (H : Hp) (ds : List PyData) : Prop := ∀ (H1 : Hp) (Q : List V → Hp → Prop), Same H H1 → (∀ vs H2, Same H1 H2 → DxAll (del p H2) vs ds → Q vs H2) → t σ H1 Q
def RdO (p : List Addr) (t : TO) (σ : L2.St) (H : Hp) (o : Option Int) : Prop := ∀ (H1 : Hp) (Q : Option Int → Hp → Prop), Same H H1 → (∀ H2, Same H1 H2 → Q o H2) → t σ H1 Q
section
variable {p : List Addr} {a : Addr} {t ta tb : TE} {ts : TA} {tl th : TO} {σ : L2.St} {H : Hp} {d e : PyData} {ds es : List PyData} {n : Nat} {v : V} {K : PySem.W.Frag} {i j : Int} {lo hi : Option Int}
theorem Rd.go {Q : VK} (h : Rd p t σ H d) (q : ∀ v H2, Same H H2 → Dx (del p H2) v d → Q v H2) : t σ H Q := h H Q (Same.refl _) q
theorem RdA.go {Q : List V → Hp → Prop} (h : RdA p ts σ H ds) (q : ∀ vs H2, Same H H2 → DxAll (del p H2) vs ds → Q vs H2) : ts σ H Q := h H Q (Same.refl _) q
theorem rd_int : Rd p (tC (.int i)) σ H (.int i) := fun H1 Q s q => q _ _ (Same.refl _) (.int i)
theorem rd_str {x : Str} : Rd p (tC (.str x)) σ H (.str x) := fun H1 Q s q => q _ _ (Same.refl _) (.str x)
theorem rd_bl {b : Bool} : Rd p (tC (.bl b)) σ H (.bool b) := fun H1 Q s q => q _ _ (Same.refl _) (.bl b)
theorem rd_non : Rd p (tC .non) σ H .none := fun H1 Q s q => q _ _ (Same.refl _) .non
theorem rd_var (h : σ[n]? = some (some v)) (hd : Dx (del p H) v d) : Rd p (tVar n) σ H d := fun H1 Q s q => ⟨v, h, q _ _ (Same.refl _) (hd.sm s)⟩
theorem rda_nil : RdA p tNil σ H [] := fun H1 Q s q => q _ _ (Same.refl _) .nil
theorem rda_cons (h1 : Rd p ta σ H d) (h2 : RdA p ts σ H ds) : RdA p (tCons ta ts) σ H (d :: ds) := fun H1 Q s q =>
  h1 H1 _ s fun v H2 s2 hv => h2 H2 _ (s.trans s2) fun vs H3 s3 hvs => q _ _ (s2.trans s3) (.cons (hv.sm s3) hvs)
theorem rd_tup (hp : Std p H) (h : RdA p ts σ H ds) (hl : ds.length ≤ 100000) : Rd p (tTup ts) σ H (.tuple ds) := fun H1 Q s q =>
  h H1 _ s fun vs H2 s2 hvs => ⟨by rw [hvs.length]; exact Nat.le_trans hl (by decide), fun b nb => by
    exact q _ _ (s2.trans (Same.new nb)) (.tup (del_get (Std.new (Std.sm (Std.sm hp s) s2) nb) upd_same) (hvs.sm (Same.new nb)))⟩
theorem rd_lst (hp : Std p H) (h : RdA p ts σ H ds) (hl : ds.length ≤ 100000) : Rd p (tLst ts) σ H (.list ds) := fun H1 Q s q =>
  h H1 _ s fun vs H2 s2 hvs => ⟨by rw [hvs.length]; exact Nat.le_trans hl (by decide), fun b nb => by
    exact q _ _ (s2.trans (Same.new nb)) (.lst (del_get (Std.new (Std.sm (Std.sm hp s) s2) nb) upd_same) (hvs.sm (Same.new nb)))⟩
theorem rd_dic (hp : Std p H) : Rd p tDNewK σ H (.dict []) := fun H1 Q s q => fun b nb => by
  exact q _ _ (Same.new nb) (.dic (del_get (Std.new (Std.sm hp s) nb) upd_same))
theorem rd_cat (hp : Std p H) (h1 : Rd p ta σ H (.list ds)) (h2 : Rd p tb σ H (.list es)) (hl : ds.length + es.length ≤ 100000) : Rd p (tOp rCat ta tb) σ H (.list (ds ++ es)) := fun H1 Q s q =>
  h1 H1 _ s fun v H2 s2 hv => h2 H2 _ (s.trans s2) fun w H3 s3 hw => by
    have hv := hv.sm s3
    cases hv with
    | lst k1 k2 =>
      cases hw with
      | lst k3 k4 =>
        refine g_cat (del_un k1).1 (del_un k3).1 (by rw [k2.length, k4.length]; exact hl) fun b H4 nb s4 eb => ?_
        exact q _ _ (s2.trans (s3.trans s4)) (.lst (del_get (Std.new (Std.sm (Std.sm (Std.sm hp s) s2) s3) nb) eb) ((k2.append k4).sm s4))
theorem rd_rep {m : Nat} (hp : Std p H) (h1 : Rd p ta σ H (.list ds)) (h2 : Rd p tb σ H (.int (m : Int))) (hl : ds.length * m ≤ 100000 ∧ m ≤ 100000) : Rd p (tOp rRep ta tb) σ H (.list (List.replicate m ds).flatten) := fun H1 Q s q =>
  h1 H1 _ s fun v H2 s2 hv => h2 H2 _ (s.trans s2) fun w H3 s3 hw => by
    have hv := hv.sm s3
    cases hw with
    | int _ =>
      cases hv with
      | lst k1 k2 =>
        refine g_rep (del_un k1).1 (by rw [k2.length]; exact hl.1) hl.2 fun b H4 nb s4 eb => ?_
        exact q _ _ (s2.trans (s3.trans s4)) (.lst (del_get (Std.new (Std.sm (Std.sm (Std.sm hp s) s2) s3) nb) eb) ((dxa_rep k2).sm s4))
theorem rd_rev (hp : Std p H) (h1 : Rd p ta σ H (.list ds)) : Rd p (tRevL K ta) σ H (.list ds.reverse) := fun H1 Q s q =>
  h1 H1 _ s fun v H2 s2 hv => by
    cases hv with
    | lst k1 k2 =>
      refine g_revL (sq_of (del_un k1).1) fun b H4 nb s4 eb => ?_
      exact q _ _ (s2.trans s4) (.lst (del_get (Std.new (Std.sm (Std.sm hp s) s2) nb) eb) ((dxa_rev k2).sm s4))
theorem rdo_none : RdO p tNoPart σ H none := fun H1 Q s q => q _ (Same.refl _)
theorem rdo_some (h : Rd p ta σ H (.int i)) : RdO p (tPart ta) σ H (some i) := fun H1 Q s q => h H1 _ s fun v H2 s2 hv => by
  cases hv
  exact ⟨i, rfl, q _ s2⟩
theorem rd_cut (hp : Std p H) (h1 : Rd p ta σ H (.list ds)) (hlo : RdO p tl σ H lo) (hhi : RdO p th σ H hi) : Rd p (tSl (rSlL K) ta tl th) σ H (.list (cutL ds lo hi)) := fun H1 Q s q =>
  h1 H1 _ s fun v H2 s2 hv => hlo H2 _ (s.trans s2) fun H3 s3 => hhi H3 _ (s.trans (s2.trans s3)) fun H4 s4 => by
    have hv := hv.sm (s3.trans s4)
    cases hv with
    | lst k1 k2 =>
      refine g_slL (sq_of (del_un k1).1) fun b H5 nb s5 eb => ?_
      exact q _ _ (s2.trans (s3.trans (s4.trans s5))) (.lst (del_get (Std.new (Std.sm (Std.sm (Std.sm (Std.sm hp s) s2) s3) s4) nb) eb) ((dxa_cut k2).sm s5))
theorem rd_tupOf (hp : Std p H) (h1 : RdA p ts σ H [.list ds]) : Rd p (tCB (rTupleOf K) ts) σ H (.tuple ds) := fun H1 Q s q =>
  h1 H1 _ s fun vs H2 s2 hv => by
    cases hv with
    | cons hv h0 =>
      cases h0
      cases hv with
      | lst k1 k2 =>
        refine g_tupleOfL (del_un k1).1 fun b H5 nb s5 eb => ?_
        exact q _ _ (s2.trans s5) (.tup (del_get (Std.new (Std.sm (Std.sm hp s) s2) nb) eb) (k2.sm s5))
theorem rd_lstOf (hp : Std p H) (h1 : RdA p ts σ H [.list ds]) : Rd p (tCB (rListOf K) ts) σ H (.list ds) := fun H1 Q s q =>
  h1 H1 _ s fun vs H2 s2 hv => by
    cases hv with
    | cons hv h0 =>
      cases h0
      cases hv with
      | lst k1 k2 =>
        refine g_listOfL (del_un k1).1 fun b H5 nb s5 eb => ?_
        exact q _ _ (s2.trans s5) (.lst (del_get (Std.new (Std.sm (Std.sm hp s) s2) nb) eb) (k2.sm s5))
theorem rd_I0 {g : Int → Int → Int} (h1 : Rd p ta σ H (.int i)) (h2 : Rd p tb σ H (.int j)) : Rd p (tOp (rI0 fun i j => .int (g i j)) ta tb) σ H (.int (g i j)) := fun H1 Q s q =>
  h1 H1 _ s fun v H2 s2 hv => h2 H2 _ (s.trans s2) fun w H3 s3 hw => by
    cases hv
    cases hw
    exact g_I0 (q _ _ (s2.trans s3) (.int _))
theorem rd_I {C : Int → Int → Prop} {g : Int → Int → Int} (h1 : Rd p ta σ H (.int i)) (h2 : Rd p tb σ H (.int j)) (c : C i j) : Rd p (tOp (rI C fun i j => .int (g i j)) ta tb) σ H (.int (g i j)) := fun H1 Q s q =>
  h1 H1 _ s fun v H2 s2 hv => h2 H2 _ (s.trans s2) fun w H3 s3 hw => by
    cases hv
    cases hw
    exact g_I c (q _ _ (s2.trans s3) (.int _))
theorem rd_U {g : Int → Int} (h1 : Rd p ta σ H (.int i)) : Rd p (tUn (rU fun i => .int (g i)) ta) σ H (.int (g i)) := fun H1 Q s q =>
  h1 H1 _ s fun v H2 s2 hv => by
    cases hv
    exact g_U (q _ _ s2 (.int _))
theorem rd_eqI (h1 : Rd p ta σ H (.int i)) (h2 : Rd p tb σ H (.int j)) : Rd p (tOp rEq ta tb) σ H (.bool (decide (i = j))) := fun H1 Q s q =>
  h1 H1 _ s fun v H2 s2 hv => h2 H2 _ (s.trans s2) fun w H3 s3 hw => by
    cases hv
    cases hw
    refine g_eq rfl ?_
    rw [show decide (V.int i = V.int j) = decide (i = j) by rw [decide_eq_decide]; exact ⟨fun h => V.int.inj h, fun h => by rw [h]⟩]
    exact q _ _ (s2.trans s3) (.bl _)
theorem rd_ixT {l : List Nat} {c : Nat} (h1 : Rd p ta σ H (.str (S l))) (h2 : Rd p tb σ H (.int i)) (hl : l.length ≤ 100000) (hc : atI l i = some c) : Rd p (tOp rIxT1 ta tb) σ H (.str (S [c])) := fun H1 Q s q =>
  h1 H1 _ s fun v H2 s2 hv => h2 H2 _ (s.trans s2) fun w H3 s3 hw => by
    cases hv
    cases hw
    exact g_ixT hl hc (q _ _ (s2.trans s3) (.str _))
theorem rd_ixL (h1 : Rd p ta σ H (.list ds)) (h2 : Rd p tb σ H (.int i)) (hc : atI ds i = some d) : Rd p (tOp (rIxL K) ta tb) σ H d := fun H1 Q s q =>
  h1 H1 _ s fun v H2 s2 hv => h2 H2 _ (s.trans s2) fun w H3 s3 hw => by
    have hv := hv.sm s3
    cases hw
    cases hv with
    | @lst _ xs _ k1 k2 =>
      have hl := k2.length
      unfold atI at hc
      cases hk : ixN ds.length i with
      | none => rw [hk] at hc; cases hc
      | some k =>
        rw [hk] at hc
        have hc' : ds[k]? = some d := hc
        have hkl := (List.getElem?_eq_some_iff.mp hc').1
        obtain ⟨x, hx⟩ : ∃ x, xs[k]? = some x := ⟨_, List.getElem?_eq_getElem (by omega)⟩
        refine g_ixL (sq_of (del_un k1).1) (v := x) ?_ (q _ _ (s2.trans s3) (k2.get hx hc'))
        unfold atI
        rw [hl, hk]
        exact hx
end
section
variable {p : List Addr} {a : Addr} {t ta tb : TE} {ts : TA} {tl th : TO} {σ : L2.St} {H : Hp} {d e : PyData} {ds es : List PyData} {n : Nat} {v : V} {K : PySem.W.Frag} {i j : Int} {lo hi : Option Int}
/-- the first ones to a place, from the end where it is below 0 -/
def cutTo (ds : List PyData) (i : Int) : List PyData := ds.take (if 0 ≤ i then i.toNat else ds.length - (-i).toNat)
theorem cutTo_eq {ds : List PyData} {i : Int} : cutL ds none (some i) = cutTo ds i := by
  unfold cutTo
  by_cases h : 0 ≤ i
  · rw [if_pos h]
    obtain ⟨k, rfl⟩ := Int.eq_ofNat_of_zero_le h
    exact cutL_to
  · rw [if_neg h]
    unfold cutL
    have e2 : HT.sIx ds.length 0 none = 0 := by unfold HT.sIx; simp
    have e1 : HT.sIx ds.length ds.length (some i) = ds.length - (-i).toNat := by
      have hi : i < 0 := by omega
      unfold HT.sIx
      simp [hi]
      omega
    rw [e1, e2, List.drop_zero, Nat.sub_zero]
theorem rd_to (hp : Std p H) (h1 : Rd p ta σ H (.list ds)) (hhi : Rd p tb σ H (.int i)) : Rd p (tSl (rSlL K) ta tNoPart (tPart tb)) σ H (.list (cutTo ds i)) := by
  rw [← cutTo_eq]
  exact rd_cut hp h1 rdo_none (rdo_some hhi)
theorem rd_from (hp : Std p H) (h1 : Rd p ta σ H (.list ds)) (hlo : Rd p tb σ H (.int i)) (h0 : 0 ≤ i) : Rd p (tSl (rSlL K) ta (tPart tb) tNoPart) σ H (.list (ds.drop i.toNat)) := by
  obtain ⟨k, rfl⟩ := Int.eq_ofNat_of_zero_le h0
  rw [show ds.drop ((k : Int)).toNat = cutL ds (some (k : Int)) none from cutL_from.symm]
  exact rd_cut hp h1 (rdo_some hlo) rdo_none
theorem rd_rep2 (hp : Std p H) (h1 : Rd p ta σ H (.list ds)) (hl : ds.length ≤ 1000) : Rd p (tOp rRep ta (tC (.int 2))) σ H (.list (ds ++ ds)) := by
  have := rd_rep (m := 2) hp h1 (rd_int (i := ((2 : Nat) : Int))) ⟨by omega, by decide⟩
  simpa [List.replicate_succ] using this
theorem rd_lenL (h1 : RdA p ts σ H [.list ds]) : Rd p (tCB (rLenL K) ts) σ H (.int ds.length) := fun H1 Q s q =>
  h1 H1 _ s fun vs H2 s2 hv => by
    cases hv with
    | cons hv h0 =>
      cases h0
      cases hv with
      | lst k1 k2 =>
        refine g_lenL (sq_of (del_un k1).1) ?_
        rw [k2.length]
        exact q _ _ s2 (.int _)
theorem rd_lenT {l : List Nat} (h1 : RdA p ts σ H [.str (S l)]) (hl : l.length ≤ 100000) : Rd p (tCB rLenT ts) σ H (.int l.length) := fun H1 Q s q =>
  h1 H1 _ s fun vs H2 s2 hv => by
    cases hv with
    | cons hv h0 =>
      cases h0
      cases hv
      exact g_lenT hl (q _ _ s2 (.int _))
end
section
variable {r : R2} {ta tb : TE} {te : TE} {ts : TA} {σ : L2.St} {H : Hp} {Q : VK} {rr : List V → Hp → VK → Prop}
end
/-! a list that is found, step by step -/
def Fnd (p : List Addr) (f : Addr) (H : Hp) (ds : List PyData) : Prop := ∃ xs, H f = some (.lst xs) ∧ f ∉ p ∧ DxAll (del (f :: p) H) xs ds
section
variable {p : List Addr} {f q : Addr} {t ta tb te : TE} {ts : TA} {σ : L2.St} {H H' : Hp} {d e : PyData} {ds es : List PyData} {n : Nat} {v : V} {K : PySem.W.Frag} {Q : VK}
theorem Fnd.sm (F : Fnd p f H ds) (s : Same H H') : Fnd p f H' ds := by
  obtain ⟨xs, h1, h2, h3⟩ := F
  exact ⟨xs, s _ _ h1, h2, h3.sm s⟩
theorem Fnd.bt (F : Fnd p f H ds) (s : But q H H') (hq : q ∈ p) : Fnd p f H' ds := by
  obtain ⟨xs, h1, h2, h3⟩ := F
  exact ⟨xs, s _ _ (fun e => h2 (e ▸ hq)) h1, h2, h3.bt s (List.mem_cons_of_mem _ hq)⟩
theorem Fnd.dx (F : Fnd p f H ds) : Dx (del p H) (.ref f) (.list ds) := by
  obtain ⟨xs, h1, h2, h3⟩ := F
  exact .lst (del_get h2 h1) h3.tl
end
section
variable {K : PySem.W.Frag} {c : TT} {A B : TS} {D : Ends} {σ : L2.St} {H : Hp} {b : Bool}
theorem g_ifSH {G : Hp → Prop} (hA : TstH c σ H b G) (h1 : ∀ H1, G H1 → b = true → A D σ H1) (h2 : ∀ H1, G H1 → b = false → B D σ H1) : tIfS c A B D σ H := by
  refine hA _ fun H1 g => ?_
  cases b with
  | true => exact h1 H1 g rfl
  | false => exact h2 H1 g rfl
end
theorem atI_hd {α : Type} (x : α) (xs : List α) : atI (x :: xs) 0 = some x := by
  unfold atI ixN
  rw [if_pos (by decide), if_pos (by simp only [List.length_cons]; omega)]
  rfl
theorem atI_m1 {α : Type} {xs : List α} {x : α} (h : xs.getLast? = some x) : atI xs (-1) = some x := by
  rcases List.eq_nil_or_concat xs with rfl | ⟨ys, y, rfl⟩
  · cases h
  · rw [List.concat_eq_append] at *
    rw [List.getLast?_concat] at h
    rw [← Option.some.inj h]
    exact atI_last ys y
section
variable {p : List Addr} {f : Addr} {ts : TA} {σ : L2.St} {H H' : Hp} {d : PyData} {ds : List PyData} {n : Nat} {v : V} {K : PySem.W.Frag} {Q : VK} {R : Hp → Prop}
theorem Fnd.set (F : Fnd p f H ds) (hd : Dx (del (f :: p) H) v d) (hn : n < ds.length) (q : ∀ H', But f H H' → Fnd p f H' (ds.set n d) → R H') : rSetL (.ref f) (.int (n : Int)) v H R := by
  obtain ⟨xs, h1, h2, h3⟩ := F
  refine g_setLn n h1 rfl (by rw [h3.length]; exact hn) fun H3 b3 e3 => ?_
  exact q H3 b3 ⟨_, e3, h2, dxa_set (hd.bt b3 (List.mem_cons_self ..)) (h3.bt b3 (List.mem_cons_self ..))⟩
end
/-! sizes -/
section
variable {k : Nat} {ds es : List PyData} {d : PyData} {i : Int}
theorem nca_nil : ncA k [] = true := by rw [ncA]
theorem nca_cons (h : nc k d = true) (hs : ncA k ds = true) : ncA k (d :: ds) = true := by rw [ncA, h, hs]; rfl
theorem nca_app (h : ncA k ds = true) (hs : ncA k es = true) : ncA k (ds ++ es) = true := by rw [ncA_app, h, hs]; rfl
theorem nca_sub (h : ncA k ds = true) (hs : ∀ d ∈ es, d ∈ ds) : ncA k es = true := ncA_mem.mpr fun d hd => ncA_mem.mp h d (hs d hd)
theorem nca_take {n : Nat} (h : ncA k ds = true) : ncA k (ds.take n) = true := nca_sub h fun d hd => List.mem_of_mem_take hd
theorem nca_drop {n : Nat} (h : ncA k ds = true) : ncA k (ds.drop n) = true := nca_sub h fun d hd => List.mem_of_mem_drop hd
theorem nca_cutTo (h : ncA k ds = true) : ncA k (cutTo ds i) = true := nca_take h
theorem nca_rev (h : ncA k ds = true) : ncA k ds.reverse = true := nca_sub h fun d hd => List.mem_reverse.mp hd
theorem nc_non : nc k .none = true := by cases k <;> rfl
theorem nc_bl {b : Bool} : nc k (.bool b) = true := by cases k <;> rfl
theorem nc_int (h : i.natAbs ≤ 1000000) : nc k (.int i) = true := by
  have : decide (i.natAbs < 10 ^ 100) = true := decide_eq_true (Nat.lt_of_le_of_lt h (by decide))
  cases k <;> exact this
theorem nc_big (h : i.natAbs < 10 ^ 100) : nc k (.int i) = true := by
  have : decide (i.natAbs < 10 ^ 100) = true := decide_eq_true h
  cases k <;> exact this
theorem nc_strS {l : List Nat} (h1 : l.length ≤ 20) (h2 : ∀ c ∈ l, c < 1114112) : nc k (.str (S l)) = true := by
  have : (decide ((S l).length ≤ 20) && (S l).cps.toList.all fun c => decide (c < 1114112)) = true := by
    rw [S_len, decide_eq_true h1, Bool.true_and]
    exact List.all_eq_true.mpr fun c hc => decide_eq_true (h2 c hc)
  cases k <;> exact this
theorem nc_dic : nc k (.dict []) = true := by cases k <;> rfl
theorem nc_tup (hl : ds.length ≤ nbK (k + 1)) (h : ncA k ds = true) : nc (k + 1) (.tuple ds) = true := by
  simp only [nc]
  rw [decide_eq_true hl, h]
  rfl
theorem nc_lst (hl : ds.length ≤ nbK (k + 1)) (h : ncA k ds = true) : nc (k + 1) (.list ds) = true := by
  simp only [nc]
  rw [decide_eq_true hl, h]
  rfl
theorem nc_tup0 : nc k (.tuple []) = true := by cases k <;> rfl
theorem nc_lst0 : nc k (.list []) = true := by cases k <;> rfl
theorem fa_nil {P : PyData → Prop} : ∀ d ∈ ([] : List PyData), P d := fun _ h => by cases h
theorem fa_cons {P : PyData → Prop} {a : PyData} {as : List PyData} (h : P a) (hs : ∀ d ∈ as, P d) : ∀ d ∈ a :: as, P d := fun d hd => by
  rcases List.mem_cons.mp hd with rfl | hd
  · exact h
  · exact hs d hd
end
/-! a list of things, some of them known -/
theorem dx_lst_inv {H : Hp} {v : V} {ds : List PyData} (h : Dx H v (.list ds)) : ∃ a xs, v = .ref a ∧ H a = some (.lst xs) ∧ DxAll H xs ds := by
  cases h with
  | lst k1 k2 => exact ⟨_, _, rfl, k1, k2⟩
end Ly

set_option maxHeartbeats 4000000
namespace Ly
open PySem PySem.Spec PyProof.Rows L2 SX
/-! ### calls of defs that show things -/
section
variable {X : Cx} {k j : Nat} {x : Str} {sp : Sp} {p pos : Pos} {e : Expr} {es : List Expr} {t : TA} {f : Addr} {fd : FuncData} {ps : List Str}
theorem run_fnG {pins : List (Addr × Obj)} {σ : L2.St} {H : Hp} {s : Shared} {Q : VK} {us : List Value} {vs : List V} (F : FnG X.prog X.w X.K X.mg X.base C8.CX0 k f fd ps sp) (hr : Room k X.A) (hgd : X.A.guards = some []) (hb : Binds X.K fd ps [])
    (I : Inv X pins σ H s) (r : Vals vs us) (h : sp vs H Q C8.E0) : wpAny (model X.prog X.w) X.A (call (.ref f) us) (EP X pins σ Q) X.xe s := by
  have hl : us.length = ps.length := by rw [← r.length]; exact F.len _ _ _ _ h
  have b := hb s us I.kIn (by rw [List.append_nil]; exact hl)
  rw [List.append_nil] at b
  refine wpAny_call (codeAny_mono (F.run X.A X.stack s H ⟨us, []⟩ us vs Q C8.E0 hr hgd I.env0 b r h) fun r s' hq => ?_)
  cases r with
  | error e => exact pass0 pins σ H s e s' I hq
  | ok fl =>
    cases fl with
    | ret u => exact I.after hq
    | next => exact False.elim hq
    | brk => exact False.elim hq
    | cont => exact False.elim hq
theorem pe_ownG (c : CalG X.prog X.w X.K X.mg X.base k x sp) (hgd : X.A.guards = some []) (hr : Room j X.A) (hk : k ≤ j) (hg : Gl X x) (ha : PA X (e :: es) t)
    (hdb : (x == ("__debug__" : Str)) = false := by decide) (he : starEach (e :: es) X.env = (false, eval e X.env) :: starEach es X.env := by rfl) (hpl : (backTo pos (starEach es X.env)).any (·.1) = false := by rfl) :
    PE X (.Call (.Name x p) (e :: es) [] pos) (tOwn sp t) := by
  obtain ⟨f, fd, ps, F, hm, hkp, b⟩ := c.ex
  refine ⟨fun pins s σ H Q I h => ?_⟩
  refine wpAny_Call_Name_kw (ld_glob I hg hm ?_ hdb)
  refine PySem.W.callWith_K (h₀ := X.base) I.ok.mod.kin hkp (thn (ha.run pos pins s σ H _ I h) fun us s1 ⟨vs, H1, I1, r, q⟩ => ⟨I1.kIn, ?_⟩) he hpl
  exact run_fnG F (hr.mono hk) hgd b I1 r q
end
end Ly

set_option maxHeartbeats 4000000
namespace Ly
open PySem PySem.Spec PyProof.Rows L2 SX
/-! ### == of any list with the empty one; of a thing with itself or a copy -/
def rNeE (K : PySem.W.Frag) : R2 := fun x y H Q => ∃ a b xs, x = .ref a ∧ y = .ref b ∧ SqL K H a xs ∧ SqL K H b [] ∧ Q (.bl (!decide (xs = []))) H
section
variable {X : Cx} {f : Value → Value → Sem Value} {r1 r2 : R2}
theorem op_neE (hu : X.A.units + 64 < cLine) : OpR X (compareOp .NotEq) (rNeE X.K) := by
  intro pins s σ H x y v u Q I rx ry h
  obtain ⟨a, b, xs, rfl, rfl, ha, hb, q⟩ := h
  cases (show v = Value.ref a from rx)
  cases (show u = Value.ref b from ry)
  obtain ⟨us, v1, p1, _⟩ := I.list ha
  obtain ⟨ws, v2, p2, _⟩ := I.list hb
  cases v2
  cases xs with
  | nil =>
    cases v1
    exact SeqAt.RcNeAt.lists (e := fun _ => true) p1.isList p2.isList rfl (by omega) (fun j h1 => absurd h1 (Nat.not_lt_zero j)) _ _ _ _ ⟨.bl false, H, I, rfl, q⟩
  | cons x xs =>
    cases v1 with
    | cons e1 e2 => exact SeqAt.RcNeAt.lists_lengths p1.isList p2.isList (by simp) (by omega) _ _ _ _ ⟨.bl true, H, I, rfl, q⟩
end
section
variable {K : PySem.W.Frag} {H : Hp} {Q : VK} {a b : Addr} {xs : List V} {v : V} {d : PyData}
theorem g_neE (h1 : SqL K H a xs) (h2 : H b = some (.lst [])) (q : Q (.bl (!decide (xs = []))) H) : rNeE K (.ref a) (.ref b) H Q := ⟨a, b, xs, rfl, rfl, h1, sq_of h2, q⟩
end
/-! sorted(list of ints), any length -/
end Ly

set_option maxHeartbeats 4000000
namespace Ly
open PySem PySem.Spec PyProof.Rows L2 SX
/-! ### brackets that stand alone, and mendings of them -/
inductive Lon : List Nat → List Nat → Prop
  | base {w : List Nat} : clean w → Lon w []
  | snoc {x ps : List Nat} {c : Nat} {w : List Nat} : Lon x ps → c ∈ BRK → clean w → Lon (x ++ c :: w) (ps ++ [x.length])
theorem Lon.app {x ps v : List Nat} (h : Lon x ps) (hv : clean v) : Lon (x ++ v) ps := by
  cases h with
  | base hw => exact .base (clean_app hw hv)
  | snoc h hc hw =>
    rw [List.append_assoc, List.cons_append]
    exact .snoc h hc (clean_app hw hv)
theorem Lon.push {x ps : List Nat} {c : Nat} (h : Lon x ps) (hc : c ∈ BRK) : Lon (x ++ [c]) (ps ++ [x.length]) := .snoc h hc clean_nil
theorem Lon.letter {x ps : List Nat} {c : Nat} (h : Lon x ps) (hc : c ∉ BRK) : Lon (x ++ [c]) ps := h.app (clean_one hc)
theorem Lon.lt {x ps : List Nat} (h : Lon x ps) : ∀ p ∈ ps, p < x.length ∧ ∃ c ∈ BRK, x[p]? = some c := by
  induction h with
  | base _ => intro p hp; cases hp
  | @snoc y ps' c' w h1 h2 h3 ih =>
    intro p hp
    rcases List.mem_append.mp hp with hp | hp
    · obtain ⟨k1, c, k2, k3⟩ := ih p hp
      refine ⟨by rw [List.length_append]; omega, c, k2, ?_⟩
      rw [List.getElem?_append_left k1]
      exact k3
    · rw [List.mem_singleton.mp hp]
      refine ⟨by rw [List.length_append, List.length_cons]; omega, c', h2, ?_⟩
      rw [List.getElem?_append_right (Nat.le_refl _), Nat.sub_self]
      rfl
/-! all alone ones struck -/
/-! each with a partner beside it -/
/-! all brackets struck -/
/-! the alone ones turned into pairs -/
end Ly

set_option maxHeartbeats 4000000
namespace Ly
open PySem PySem.Spec PyProof.Rows L2 SX
theorem lc_enum {K : PySem.W.Frag} {σ : L2.St} {H : Hp} {g : TG} {a : Addr} {tt : TT} {te : TE} {vs : List Nat} {Q : VK} (xs : List V) (h : ∀ d H1, H d = none → Same H H1 → H1 d = some (.lst []) → ∃ Pv : List V → Hp → Prop, Pv [] H1 ∧ (∀ pre post H, xs = pre ++ post → Pv pre H → SqL K H a xs) ∧
      (∀ pre x post H t H1, xs = pre ++ x :: post → Pv pre H → H t = none → Same H H1 → H1 t = some (.tup [.int pre.length, x]) → g (.ref t) (wipe σ vs) H1 fun σ2 H2 => wipe σ2 vs = wipe σ vs ∧ tt σ2 H2 fun b H3 => if b = true then te σ2 H3 fun y H4 => LcPut d (Pv (pre ++ [x])) y H4 else Pv (pre ++ [x]) H3) ∧ ∀ H, Pv xs H → Q (.ref d) H) : LcR (Ite K a) g tt te vs σ H Q := by
  refine lc_w (walk_enum (xs := xs)) fun d H1 nd s e => ?_
  obtain ⟨Pv, h0, hl, hs, hd⟩ := h d H1 nd s e
  refine ⟨fun i => Pv (xs.take i), by simpa using h0, fun i H _ p => hl _ (xs.drop i) H (List.take_append_drop i xs).symm p, fun i x H H' hi p y => ?_, fun H p => hd H (by simpa using p)⟩
  obtain ⟨t, x1, x2, rfl, nt, rfl, e1, e2⟩ := y
  cases e1
  obtain ⟨e3, e4⟩ := cut_at e2
  have z := hs (xs.take i) x2 (xs.drop (i + 1)) H t _ e4 p nt (Same.new nt) (by rw [upd_same, List.length_take, Nat.min_eq_left (Nat.le_of_lt hi)])
  rw [← e3] at z
  exact z
/-! ### the statements within a statement -/
def bodyS : Stmt → List Stmt
  | .For _ _ b _ _ => b
  | .While _ b _ _ => b
  | .If _ b _ _ => b
  | .Try b _ _ _ _ => b
  | _ => []
def elseS : Stmt → List Stmt
  | .If _ _ b _ => b
  | _ => []
theorem pi_enumK {X : Cx} {K : PySem.W.Frag} {e : Expr} {ta : TA} {p pos tpos : Pos} {elts : List Expr} {kk : Nat} (hK : X.K = K) (hg : Gl X "enumerate") (hm : X.mg "enumerate" = none) (ha : PA X [e] ta) (hs : starEach [e] X.env = [(false, eval e X.env)] := by rfl) : PI X (.Tuple elts kk tpos) (.Call (.Name "enumerate" p) [e] [] pos) (iEnum K ta) := by
  subst hK
  exact pi_enum hg hm ha hs
/-! ### a dict of texts by texts at the top of the module -/
/-- an entry, where key and value are texts: both and the hash -/
def entT (e : DictEntry) : Option (Str × Str × Int) := match e.key, e.val with
  | .str x _, .str y _ => some (x, y, e.hash)
  | _, _ => none
def dicT (K : PySem.W.Frag) (a : Addr) : Option (List (Option (Str × Str × Int))) := match K.lookup a with
  | some ⟨.type c, none, .dict es _, sl⟩ => bif decide (c = "dict") && (sl.isEmpty && !(a == sysModules)) then some (es.toList.map entT) else none
  | _ => none
def entsOf (P : Params) (kvs : List (Str × Str)) : List (Option (Str × Str × Int)) := kvs.map fun kv => some (kv.1, kv.2, PyData.keyHash P kv.1)
/-- at a stands a written dict: these texts by these texts -/
def MkD (w : World) (K : PySem.W.Frag) (a : Addr) (kvs : List (Str × Str)) : Prop := dicT K a = some (entsOf w.params kvs)
theorem entT_inv {e : DictEntry} {x y : Str} {h : Int} (q : entT e = some (x, y, h)) : (∃ t, e.key = .str x t) ∧ (∃ t, e.val = .str y t) ∧ e.hash = h := by
  unfold entT at q
  split at q
  · rename_i x' t y' t' e1 e2
    have q' := Option.some.inj q
    obtain ⟨q1, q2⟩ := Prod.mk.inj q'
    obtain ⟨q3, q4⟩ := Prod.mk.inj q2
    subst q1 q3 q4
    exact ⟨⟨_, e1⟩, ⟨_, e2⟩, rfl⟩
  · cases q
theorem MkD.es {w : World} {K : PySem.W.Frag} {a : Addr} {kvs : List (Str × Str)} (D : MkD w K a kvs) : ∃ es n, K.lookup a = some ⟨.type "dict", none, .dict es n, #[]⟩ ∧ es.toList.map entT = entsOf w.params kvs ∧ (a == sysModules) = false := by
  unfold MkD dicT at D
  split at D
  · rename_i c es n sl q
    cases z : (decide (c = "dict") && (sl.isEmpty && !(a == sysModules))) with
    | false => rw [z] at D; cases D
    | true =>
      rw [z] at D
      rw [Bool.and_eq_true, Bool.and_eq_true] at z
      obtain ⟨z1, z2, z3⟩ := z
      have e1 : c = "dict" := of_decide_eq_true z1
      have e2 : sl = #[] := Array.isEmpty_iff.mp z2
      subst e1 e2
      exact ⟨es, n, q, Option.some.inj D, by simpa using z3⟩
  · cases D
/-- what stands by a key -/
def byK (kvs : List (Str × Str)) (x : Str) : Option Str := (kvs.find? fun kv => kv.1 == x).map Prod.snd
theorem find_ents {P : Params} {x : Str} : ∀ {l : List DictEntry} {kvs : List (Str × Str)}, l.map entT = entsOf P kvs → l.any (·.refKey) = false ∧
    match byK kvs x with
    | some y => ∃ e t, l.find? (·.key.isStr x) = some e ∧ e.val = .str y t
    | none => l.find? (·.key.isStr x) = none
  | [], kvs, h => by
    cases kvs with
    | nil => exact ⟨rfl, rfl⟩
    | cons kv kvs => cases h
  | e :: r, [], h => by cases h
  | e :: r, kv :: kvs, h => by
    have h1 : entT e :: r.map entT = some (kv.1, kv.2, PyData.keyHash P kv.1) :: entsOf P kvs := h
    injection h1 with h2 h3
    obtain ⟨⟨t, k1⟩, ⟨t', k2⟩, _⟩ := entT_inv h2
    obtain ⟨i1, i2⟩ := find_ents (x := x) h3
    refine ⟨by rw [List.any_cons, i1, Bool.or_false]; unfold DictEntry.refKey; rw [k1], ?_⟩
    have ek : e.key.isStr x = (kv.1 == x) := by rw [k1]; rfl
    unfold byK at i2 ⊢
    rw [List.find?_cons, List.find?_cons]
    simp only [ek]
    cases hb : (kv.1 == x) with
    | true => exact ⟨e, t', rfl, k2⟩
    | false => exact i2
theorem MkD.nsIn {w : World} {K : PySem.W.Frag} {a : Addr} {kvs : List (Str × Str)} (D : MkD w K a kvs) (x : Str) : ∃ r, PySem.W.nsIn K a x = some r ∧ match byK kvs x with
    | some y => ∃ t, r = some (.str y t)
    | none => r = none := by
  obtain ⟨es, n, h1, h2, h3⟩ := D.es
  obtain ⟨f1, f2⟩ := find_ents (x := x) h2
  unfold PySem.W.nsIn
  rw [h1]
  cases hb : byK kvs x with
  | none =>
    rw [hb] at f2
    dsimp only at f2 ⊢
    rw [f2]
    refine ⟨none, ?_, rfl⟩
    simp only [f1, Bool.false_eq_true, if_false]
  | some y =>
    rw [hb] at f2
    obtain ⟨e, t, k1, k2⟩ := f2
    dsimp only
    rw [k1]
    exact ⟨some e.val, rfl, t, by rw [k2]⟩
theorem MkD.some {w : World} {K : PySem.W.Frag} {a : Addr} {kvs : List (Str × Str)} (D : MkD w K a kvs) (x : Str) : ∃ r, PySem.W.nsIn K a x = some r ∧ r.isSome = (byK kvs x).isSome := by
  obtain ⟨r, h1, h2⟩ := D.nsIn x
  refine ⟨r, h1, ?_⟩
  cases hb : byK kvs x with
  | none => rw [hb] at h2; rw [show r = none from h2]; rfl
  | some y => rw [hb] at h2; obtain ⟨t, rfl⟩ := h2; rfl
/-! the keys, one by one -/
def Itmk (kvs : List (Str × Str)) : It := ⟨fun i _ => i < kvs.length, fun i H x H' => H' = H ∧ ∃ kv, kvs[i]? = some kv ∧ x = .str kv.1, fun i _ => kvs.length ≤ i⟩
def iKd (d : Addr) (kvs : List (Str × Str)) (td : TE) : TI := fun σ H R => td σ H fun x H1 => x = .ref d ∧ R (Itmk kvs) H1
/-! the head's facts with such dicts -/
structure KdD where
  at_ : PySem.W.Frag → Addr
  kvs : List (Str × Str)
def obsM (ds : List KdD) (K : PySem.W.Frag) : List (Option (List (Option (Str × Str × Int)))) := ds.map fun d => dicT K (d.at_ K)
def valM (ds : List KdD) (w : World) : List (Option (List (Option (Str × Str × Int)))) := ds.map fun d => some (entsOf w.params d.kvs)
def SaysM (ds : List KdD) (w : World) (K : PySem.W.Frag) : Prop := obsM ds K = valM ds w
theorem SaysM.at_ {ds : List KdD} {w : World} {K : PySem.W.Frag} (c : SaysM ds w K) (i : Nat) {d : KdD} (h : ds[i]? = some d := by rfl) : MkD w K (d.at_ K) d.kvs := by
  have e : (obsM ds K)[i]? = (valM ds w)[i]? := congrArg (fun l => l[i]?) c
  unfold obsM valM at e
  rw [List.getElem?_map, List.getElem?_map, h] at e
  exact Option.some.inj e
end Ly

set_option maxHeartbeats 4000000
namespace Ly
open PySem PySem.Spec PyProof.Rows L2 SX
/-! ### figures -/
/-! ### s.rstrip(signs) -/
/-! ### a comprehension over a dict's keys -/
/-! ### deeds written -/
def Dw.mk : Dw → Nat
  | .put _ => 43
  | .str => 45
  | .trn _ => 61
theorem Dds.app {H H' : Hp} {a b c : Addr} {r1 r2 : List Addr} {d1 d2 : List Deed} (h1 : Dds H a r1 d1) (h2 : Dds H b r2 d2) (s : Same H H') (e : H' c = some (.lst (r1.map V.ref ++ r2.map V.ref))) : Dds H' c (r1 ++ r2) (d1 ++ d2) := by
  refine ⟨by rw [e, List.map_append], by rw [List.length_append, List.length_append, h1.len, h2.len], fun k r d hr hd => ?_⟩
  have hl := h1.len
  by_cases hk : k < r1.length
  · rw [List.getElem?_append_left hk] at hr
    rw [List.getElem?_append_left (by omega)] at hd
    exact s _ _ (h1.it k r d hr hd)
  · rw [List.getElem?_append_right (by omega)] at hr
    rw [List.getElem?_append_right (by omega), ← hl] at hd
    exact s _ _ (h2.it _ r d hr hd)
theorem Dds.one {H H' : Hp} {t a : Addr} {d : Deed} (h : H t = some (.tup (ddV d))) (s : Same H H') (e : H' a = some (.lst [.ref t])) : Dds H' a [t] [d] := by
  refine ⟨e, rfl, fun k r x hr hx => ?_⟩
  cases k with
  | zero => rw [← Option.some.inj hr, ← Option.some.inj hx]; exact s _ _ h
  | succ k => cases hr
end Ly

set_option maxHeartbeats 4000000
namespace K19
open PySem PySem.Spec PyProof.Rows L2 SX Ly
def topS (i : Nat) : Stmt := PySem.Challenge.pw_nestmend_k19_low_tables.main.body.getD i (.Pass ⟨0, 0, 0, 0⟩)
abbrev s_kind_of : Stmt := topS 3
abbrev N_kind_of : List Str := ["bracket"]
theorem st_kind_of (v0 : V) : L2.start N_kind_of [v0] = [some v0] := rfl
theorem sc_kind_of : FnScope N_kind_of ["bracket"] (defScope s_kind_of) := ⟨rfl, rfl, rfl, by decide +kernel, rfl, by decide +kernel, by decide +kernel⟩
abbrev s_is_bracket : Stmt := topS 5
abbrev N_is_bracket : List Str := ["sign"]
theorem st_is_bracket (v0 : V) : L2.start N_is_bracket [v0] = [some v0] := rfl
theorem sc_is_bracket : FnScope N_is_bracket ["sign"] (defScope s_is_bracket) := ⟨rfl, rfl, rfl, by decide +kernel, rfl, by decide +kernel, by decide +kernel⟩
abbrev s_turns : Stmt := topS 6
abbrev N_turns : List Str := ["one", "other", "wrong"]
theorem st_turns (v0 v1 : V) : L2.start N_turns [v0, v1] = [some v0, some v1, none] := rfl
theorem sc_turns : FnScope N_turns ["one", "other"] (defScope s_turns) := ⟨rfl, rfl, rfl, by decide +kernel, rfl, by decide +kernel, by decide +kernel⟩
abbrev s_steps_from : Stmt := topS 7
abbrev N_steps_from : List Str := ["text", "entries", "i", "j", "found", "m"]
theorem st_steps_from (v0 v1 v2 v3 : V) : L2.start N_steps_from [v0, v1, v2, v3] = [some v0, some v1, some v2, some v3, none, none] := rfl
theorem sc_steps_from : FnScope N_steps_from ["text", "entries", "i", "j"] (defScope s_steps_from) := ⟨rfl, rfl, rfl, by decide +kernel, rfl, by decide +kernel, by decide +kernel⟩
abbrev s_is_whole : Stmt := topS 8
abbrev N_is_whole : List Str := ["thing"]
theorem st_is_whole (v0 : V) : L2.start N_is_whole [v0] = [some v0] := rfl
theorem sc_is_whole : FnScope N_is_whole ["thing"] (defScope s_is_whole) := ⟨rfl, rfl, rfl, by decide +kernel, rfl, by decide +kernel, by decide +kernel⟩
abbrev s_is_shaped : Stmt := topS 9
abbrev N_is_shaped : List Str := ["text", "table", "i", "row", "entry"]
theorem st_is_shaped (v0 v1 : V) : L2.start N_is_shaped [v0, v1] = [some v0, some v1, none, none, none] := rfl
theorem sc_is_shaped : FnScope N_is_shaped ["text", "table"] (defScope s_is_shaped) := ⟨rfl, rfl, rfl, by decide +kernel, rfl, by decide +kernel, by decide +kernel⟩
abbrev s_is_low : Stmt := topS 10
abbrev N_is_low : List Str := ["text", "table", "i", "row", "j"]
theorem st_is_low (v0 v1 : V) : L2.start N_is_low [v0, v1] = [some v0, some v1, none, none, none] := rfl
theorem sc_is_low : FnScope N_is_low ["text", "table"] (defScope s_is_low) := ⟨rfl, rfl, rfl, by decide +kernel, rfl, by decide +kernel, by decide +kernel⟩
abbrev s_law_well : Stmt := topS 12
abbrev N_law_well : List Str := ["cell"]
theorem st_law_well (v0 : V) : L2.start N_law_well [v0] = [some v0] := rfl
theorem sc_law_well : FnScope N_law_well ["cell"] (defScope s_law_well) := ⟨rfl, rfl, rfl, by decide +kernel, rfl, by decide +kernel, by decide +kernel⟩
abbrev s_law_draw : Stmt := topS 13
abbrev N_law_draw : List Str := ["well", "many", "got", "stirred"]
theorem st_law_draw (v0 v1 : V) : L2.start N_law_draw [v0, v1] = [some v0, some v1, none, none] := rfl
theorem sc_law_draw : FnScope N_law_draw ["well", "many"] (defScope s_law_draw) := ⟨rfl, rfl, rfl, by decide +kernel, rfl, by decide +kernel, by decide +kernel⟩
abbrev s_law_clean : Stmt := topS 14
abbrev N_law_clean : List Str := ["well", "many", "found", "way", "at", "pair"]
theorem st_law_clean (v0 v1 : V) : L2.start N_law_clean [v0, v1] = [some v0, some v1, none, none, none, none] := rfl
theorem sc_law_clean : FnScope N_law_clean ["well", "many"] (defScope s_law_clean) := ⟨rfl, rfl, rfl, by decide +kernel, rfl, by decide +kernel, by decide +kernel⟩
abbrev s_law_bent : Stmt := topS 15
abbrev N_law_bent : List Str := ["well", "text", "sign", "at", "way"]
theorem st_law_bent (v0 v1 : V) : L2.start N_law_bent [v0, v1] = [some v0, some v1, none, none, none] := rfl
theorem sc_law_bent : FnScope N_law_bent ["well", "text"] (defScope s_law_bent) := ⟨rfl, rfl, rfl, by decide +kernel, rfl, by decide +kernel, by decide +kernel⟩
abbrev s_law_text : Stmt := topS 16
abbrev N_law_text : List Str := ["well", "most", "many", "way", "text", "k", "signs"]
theorem st_law_text (v0 v1 : V) : L2.start N_law_text [v0, v1] = [some v0, some v1, none, none, none, none, none] := rfl
theorem sc_law_text : FnScope N_law_text ["well", "most"] (defScope s_law_text) := ⟨rfl, rfl, rfl, by decide +kernel, rfl, by decide +kernel, by decide +kernel⟩
abbrev s_law_turns : Stmt := topS 17
abbrev N_law_turns : List Str := ["one", "other", "pair"]
theorem st_law_turns (v0 v1 : V) : L2.start N_law_turns [v0, v1] = [some v0, some v1, none] := rfl
theorem sc_law_turns : FnScope N_law_turns ["one", "other"] (defScope s_law_turns) := ⟨rfl, rfl, rfl, by decide +kernel, rfl, by decide +kernel, by decide +kernel⟩
abbrev s_law_best : Stmt := topS 18
abbrev N_law_best : List Str := ["text", "best", "i", "j", "last", "number", "m"]
theorem st_law_best (v0 : V) : L2.start N_law_best [v0] = [some v0, none, none, none, none, none, none] := rfl
theorem sc_law_best : FnScope N_law_best ["text"] (defScope s_law_best) := ⟨rfl, rfl, rfl, by decide +kernel, rfl, by decide +kernel, by decide +kernel⟩
abbrev s_law_is_number : Stmt := topS 19
abbrev N_law_is_number : List Str := ["thing"]
theorem st_law_is_number (v0 : V) : L2.start N_law_is_number [v0] = [some v0] := rfl
theorem sc_law_is_number : FnScope N_law_is_number ["thing"] (defScope s_law_is_number) := ⟨rfl, rfl, rfl, by decide +kernel, rfl, by decide +kernel, by decide +kernel⟩
abbrev s_law_is_shaped : Stmt := topS 20
abbrev N_law_is_shaped : List Str := ["text", "table", "i", "entry"]
theorem st_law_is_shaped (v0 v1 : V) : L2.start N_law_is_shaped [v0, v1] = [some v0, some v1, none, none] := rfl
theorem sc_law_is_shaped : FnScope N_law_is_shaped ["text", "table"] (defScope s_law_is_shaped) := ⟨rfl, rfl, rfl, by decide +kernel, rfl, by decide +kernel, by decide +kernel⟩
abbrev s_law_bounds : Stmt := topS 21
abbrev N_law_bounds : List Str := ["text", "table", "i", "j", "found", "m", "inner", "rest"]
theorem st_law_bounds (v0 v1 v2 v3 : V) : L2.start N_law_bounds [v0, v1, v2, v3] = [some v0, some v1, some v2, some v3, none, none, none, none] := rfl
theorem sc_law_bounds : FnScope N_law_bounds ["text", "table", "i", "j"] (defScope s_law_bounds) := ⟨rfl, rfl, rfl, by decide +kernel, rfl, by decide +kernel, by decide +kernel⟩
abbrev s_law_due : Stmt := topS 22
abbrev N_law_due : List Str := ["text", "table", "i", "j"]
theorem st_law_due (v0 v1 : V) : L2.start N_law_due [v0, v1] = [some v0, some v1, none, none] := rfl
theorem sc_law_due : FnScope N_law_due ["text", "table"] (defScope s_law_due) := ⟨rfl, rfl, rfl, by decide +kernel, rfl, by decide +kernel, by decide +kernel⟩
abbrev s_law_copy : Stmt := topS 23
abbrev N_law_copy : List Str := ["table", "row"]
theorem st_law_copy (v0 : V) : L2.start N_law_copy [v0] = [some v0, none] := rfl
theorem sc_law_copy : FnScope N_law_copy ["table"] (defScope s_law_copy) := ⟨rfl, rfl, rfl, by decide +kernel, rfl, by decide +kernel, by decide +kernel⟩
abbrev s_law_lower : Stmt := topS 24
abbrev N_law_lower : List Str := ["well", "table", "found", "k", "i", "j"]
theorem st_law_lower (v0 v1 : V) : L2.start N_law_lower [v0, v1] = [some v0, some v1, none, none, none, none] := rfl
theorem sc_law_lower : FnScope N_law_lower ["well", "table"] (defScope s_law_lower) := ⟨rfl, rfl, rfl, by decide +kernel, rfl, by decide +kernel, by decide +kernel⟩
abbrev s_law_forged : Stmt := topS 25
abbrev N_law_forged : List Str := ["well", "table", "found", "i", "j", "way", "things", "row", "some", "k", "entry"]
theorem st_law_forged (v0 v1 : V) : L2.start N_law_forged [v0, v1] = [some v0, some v1, none, none, none, none, none, none, none, none, none] := rfl
theorem sc_law_forged : FnScope N_law_forged ["well", "table"] (defScope s_law_forged) := ⟨rfl, rfl, rfl, by decide +kernel, rfl, by decide +kernel, by decide +kernel⟩
abbrev s_law_right : Stmt := topS 26
abbrev N_law_right : List Str := ["text", "table", "due", "kept", "turn", "found"]
theorem st_law_right (v0 v1 : V) : L2.start N_law_right [v0, v1] = [some v0, some v1, none, none, none, none] := rfl
theorem sc_law_right : FnScope N_law_right ["text", "table"] (defScope s_law_right) := ⟨rfl, rfl, rfl, by decide +kernel, rfl, by decide +kernel, by decide +kernel⟩
abbrev s_law_long : Stmt := topS 27
abbrev N_law_long : List Str := ["well", "most", "pair", "text", "at"]
theorem st_law_long (v0 v1 : V) : L2.start N_law_long [v0, v1] = [some v0, some v1, none, none, none] := rfl
theorem sc_law_long : FnScope N_law_long ["well", "most"] (defScope s_law_long) := ⟨rfl, rfl, rfl, by decide +kernel, rfl, by decide +kernel, by decide +kernel⟩
abbrev s_law_long_right : Stmt := topS 28
abbrev N_law_long_right : List Str := ["well", "text", "best", "table", "way", "begin", "size", "forged", "i", "j"]
theorem st_law_long_right (v0 : V) : L2.start N_law_long_right [v0] = [some v0, none, none, none, none, none, none, none, none, none] := rfl
theorem sc_law_long_right : FnScope N_law_long_right ["well"] (defScope s_law_long_right) := ⟨rfl, rfl, rfl, by decide +kernel, rfl, by decide +kernel, by decide +kernel⟩
abbrev s_law : Stmt := topS 29
abbrev N_law : List Str := ["script", "well", "cell", "text", "best", "table", "some", "one", "thing", "i", "j", "k"]
theorem st_law (v0 : V) : L2.start N_law [v0] = [some v0, none, none, none, none, none, none, none, none, none, none, none] := rfl
theorem sc_law : FnScope N_law ["script"] (defScope s_law) := ⟨rfl, rfl, rfl, by decide +kernel, rfl, by decide +kernel, by decide +kernel⟩
structure Facts (K : PySem.W.Frag) (mg : Str → Option Value) : Prop where
  f_kind_of : DefAt K mg "kind_of" s_kind_of ["bracket"]
  f_is_bracket : DefAt K mg "is_bracket" s_is_bracket ["sign"]
  f_turns : DefAt K mg "turns" s_turns ["one", "other"]
  f_steps_from : DefAt K mg "steps_from" s_steps_from ["text", "entries", "i", "j"]
  f_is_whole : DefAt K mg "is_whole" s_is_whole ["thing"]
  f_is_shaped : DefAt K mg "is_shaped" s_is_shaped ["text", "table"]
  f_is_low : DefAt K mg "is_low" s_is_low ["text", "table"]
  f_law_well : DefAt K mg "_law_well" s_law_well ["cell"]
  f_law_draw : DefAt K mg "_law_draw" s_law_draw ["well", "many"]
  f_law_clean : DefAt K mg "_law_clean" s_law_clean ["well", "many"]
  f_law_bent : DefAt K mg "_law_bent" s_law_bent ["well", "text"]
  f_law_text : DefAt K mg "_law_text" s_law_text ["well", "most"]
  f_law_turns : DefAt K mg "_law_turns" s_law_turns ["one", "other"]
  f_law_best : DefAt K mg "_law_best" s_law_best ["text"]
  f_law_is_number : DefAt K mg "_law_is_number" s_law_is_number ["thing"]
  f_law_is_shaped : DefAt K mg "_law_is_shaped" s_law_is_shaped ["text", "table"]
  f_law_bounds : DefAt K mg "_law_bounds" s_law_bounds ["text", "table", "i", "j"]
  f_law_due : DefAt K mg "_law_due" s_law_due ["text", "table"]
  f_law_copy : DefAt K mg "_law_copy" s_law_copy ["table"]
  f_law_lower : DefAt K mg "_law_lower" s_law_lower ["well", "table"]
  f_law_forged : DefAt K mg "_law_forged" s_law_forged ["well", "table"]
  f_law_right : DefAt K mg "_law_right" s_law_right ["text", "table"]
  f_law_long : DefAt K mg "_law_long" s_law_long ["well", "most"]
  f_law_long_right : DefAt K mg "_law_long_right" s_law_long_right ["well"]
  c_OPENING : ∃ u, mg "OPENING" = some u ∧ RelV (Tx OPN) u
  c_CLOSING : ∃ u, mg "CLOSING" = some u ∧ RelV (Tx CLO) u
  b_len : mg "len" = none
  b_int : mg "int" = none
  b_range : mg "range" = none
  b_enumerate : mg "enumerate" = none
  b_isinstance : mg "isinstance" = none
  b_list : mg "list" = none
  b_tuple : mg "tuple" = none
  b_bool : mg "bool" = none
  b_min : mg "min" = none
  b_all : mg "all" = none
  b_sorted : mg "sorted" = none
  b_repr : mg "repr" = none
end K19

set_option maxHeartbeats 4000000
namespace K19
open PySem PySem.Spec PyProof.Rows L2 SX Ly
local macro_rules | `(tactic| wtm_at "unf") => `(tactic| (try simp only [tMetX, tOwnX, tChain, tSeq, tNext, tBreak, tCont, tDrop, tRet, tRetN, tIfS, tAsg, tAug, tC, tOp, tUn, tNil, tCons, tOwn, tCB, tTest, tB, tAnd, tOr, tNot, tAndV, tOrV, tNotV, tIf, gName, gSub, tBM, tBM0, tM0, tM1, tSl, tPart_eq, tNoPart, tLst_eq, tTup_eq, tRevL_eq, tReplT, tRevS, tDGet_eq, sDPut_eq, tDNewT_eq, tMet, tMak, tFld_eq, sFld_eq, C8.tCut, wipe, tYes, gTup, gCons, gNil, List.set_cons_zero, List.set_cons_succ, if_true, if_false, Bool.false_eq_true, Bool.not_true, Bool.not_false, true_and, reduceIte, cx_K, tFor_eq, tLc_eq, iStr, iList, iTup, iRng1, iRng2, iRng3, iEnum, iZip, tLstRg, tRg1, gLst, RZ.iZipA, iEnumS, iZipS, tDNewK_eq, tDGet2, tDIn, tDNotIn, iKd]))
local macro_rules | `(tactic| wtm_at "unfA") => `(tactic| (try simp only [tMetX, tOwnX, tChain, tSeq, tNext, tBreak, tCont, tDrop, tRet, tRetN, tIfS, tAsg, tAug, tC, tOp, tUn, tNil, tCons, tOwn, tCB, tTest, tB, tAnd, tOr, tNot, tIf, gName, gSub, tBM, tBM0, tM0, tM1, tSl, tPart_eq, tNoPart, tLst_eq, tTup_eq, tRevL_eq, tReplT, tRevS, tDGet_eq, sDPut_eq, tDNewT_eq, tMet, tMak, tFld_eq, sFld_eq, C8.tCut, wipe, tYes, gTup, gCons, gNil, List.set_cons_zero, List.set_cons_succ, if_true, if_false, Bool.false_eq_true, Bool.not_true, Bool.not_false, true_and, reduceIte, cx_K, tFor_eq, tLc_eq, iStr, iList, iTup, iRng1, iRng2, iRng3, iEnum, iZip, tLstRg, tRg1, gLst, RZ.iZipA, iEnumS, iZipS, tDNewK_eq, tDGet2, tDIn, tDNotIn, iKd]))
local macro_rules | `(tactic| wtm_at "ne") => `(tactic| first | assumption | (apply Ne.symm; assumption) | (apply ne_new; (· assumption); (· wtm_at "lk")) | (apply Ne.symm; apply ne_new; (· assumption); (· wtm_at "lk")))
local macro_rules | `(tactic| wtm_at "lk") => `(tactic| first | assumption | exact upd_same | (apply Same.get; (· assumption); (· wtm_at "lk")) | (apply But.get; (· assumption); (· wtm_at "ne"); (· wtm_at "lk")))
local macro_rules | `(tactic| wtm_at "sq") => `(tactic| first | assumption | (apply sq_of; wtm_at "lk") | (apply Same.seq; (· assumption); (· wtm_at "sq")) | (apply But.sq; (· assumption); (· wtm_at "ne"); (· wtm_at "sq")))
local macro_rules | `(tactic| wtm_at "fr") => `(tactic| first | assumption | (apply Same.fr; (· assumption); (· wtm_at "sm")) | (apply But.fr; (· assumption); (· wtm_at "sm"); (· wtm_at "ne")))
local macro_rules | `(tactic| wtm_at "sm") => `(tactic| first | exact Same.refl _ | exact But.refl | assumption | (apply Same.tr; (· assumption); (· wtm_at "sm")) | (apply Same.b0; (· assumption); (· wtm_at "sm"); (· wtm_at "fr")) | (apply But.sa; (· assumption); (· wtm_at "sm")) | (apply But.tr; (· assumption); (· wtm_at "sm")) | (apply But.b0; (· assumption); (· wtm_at "sm"); (· wtm_at "fr")) | (apply Same.toBut; wtm_at "sm"))
local macro_rules | `(tactic| wtm_at "sc") => `(tactic| first | exact Int.zero_lt_one | (show (0 : Int) < _; omega) | (show (0 : Int) < _; decide) | exact ⟨by omega, by omega⟩ | exact .inl ⟨by omega, by omega⟩ | exact .inr ⟨by omega, by omega⟩)
local macro_rules | `(tactic| wtm_at "go1") => `(tactic| first | ((with_reducible apply g_var); (· exact rfl)) | with_reducible apply g_I0 | ((with_reducible apply g_I); (· wtm_at "sc")) | with_reducible apply g_U | with_reducible apply g_ipI | ((with_reducible apply g_addT); (· first | omega | (simp; done) | (simp; omega))) | with_reducible apply g_inT | with_reducible apply g_ninT | ((with_reducible apply g_lenT); (· omega)) | with_reducible apply g_findT1 | with_reducible apply g_str | with_reducible apply g_part | with_reducible apply g_intB | ((with_reducible apply g_ixL); (· wtm_at "sq"); (· exact rfl)) | ((with_reducible apply g_setL); (· wtm_at "lk"); (· exact rfl)) | ((with_reducible apply g_eq); (· rfl)) | ((with_reducible apply g_ne); (· rfl)))
local macro_rules | `(tactic| wtm_at "go") => `(tactic| repeat wtm_at "go1")
local macro_rules | `(tactic| wtm_at "lp") => `(tactic| skip)
local macro_rules | `(tactic| wtm_at "om") => `(tactic| first | omega | (simp; done) | (simp; omega) | (simp at *; omega))
local macro_rules | `(tactic| wtm_at "ty") => `(tactic| first | exact ty_str | exact ty_int | exact ty_bl | exact ty_non | (apply ty_lst; wtm_at "lk") | (apply ty_tup; wtm_at "lk"))
local macro_rules | `(tactic| wtm_at "kb") => `(tactic| first | exact kb_str_str | exact kb_str_int | exact kb_str_bool | exact kb_str_list | exact kb_str_tuple | exact kb_int_str | exact kb_int_int | exact kb_int_bool | exact kb_int_list | exact kb_int_tuple | exact kb_bool_str | exact kb_bool_int | exact kb_bool_bool | exact kb_bool_list | exact kb_bool_tuple | exact kb_list_str | exact kb_list_int | exact kb_list_bool | exact kb_list_list | exact kb_list_tuple | exact kb_tuple_str | exact kb_tuple_int | exact kb_tuple_bool | exact kb_tuple_list | exact kb_tuple_tuple | exact kb_NoneType_str | exact kb_NoneType_int | exact kb_NoneType_bool | exact kb_NoneType_list | exact kb_NoneType_tuple | exact kb_dict_str | exact kb_dict_int | exact kb_dict_bool | exact kb_dict_list | exact kb_dict_tuple)
local macro_rules | `(tactic| wtm_at "gx1") => `(tactic| first | ((with_reducible apply g_eqS); (· exact rfl)) | ((with_reducible apply g_neS); (· exact rfl)) | wtm_at "go1" | with_reducible apply g_min2 | with_reducible apply g_max2 | with_reducible apply g_T | with_reducible apply g_F | with_reducible apply g_NT | with_reducible apply g_NF | with_reducible apply g_nT | with_reducible apply g_nF | with_reducible apply g_RT | with_reducible apply g_RF | ((with_reducible apply g_isi); (· wtm_at "ty"); (· wtm_at "kb")) | ((with_reducible apply g_ixAU3); (· wtm_at "lk"); (· exact rfl)) | ((with_reducible apply g_ixAL3); (· wtm_at "lk"); (· exact rfl)) | ((with_reducible apply g_ixU3); (· wtm_at "lk"); (· exact rfl)) | ((with_reducible apply g_lenL3); (· wtm_at "lk")) | ((with_reducible apply g_lenU3); (· wtm_at "lk")) | ((with_reducible apply g_tyL3); (· wtm_at "lk")) | ((with_reducible apply g_lenT); (· wtm_at "pv")) | wtm_at "tr" | with_reducible apply g_ET | with_reducible apply g_EF | with_reducible apply g_EnT | with_reducible apply g_EnF)
local macro_rules | `(tactic| wtm_at "pv") => `(tactic| first | exact rfl | assumption | omega | (simp; done) | (simp; omega))
local macro_rules | `(tactic| wtm_at "tr") => `(tactic| first | ((with_reducible apply g_Td); (· wtm_at "pv")) | ((with_reducible apply g_Fd); (· wtm_at "pv")) | ((with_reducible apply g_NTd); (· wtm_at "pv")) | ((with_reducible apply g_NFd); (· wtm_at "pv")) | ((with_reducible apply g_nTd); (· wtm_at "pv")) | ((with_reducible apply g_nFd); (· wtm_at "pv")) | ((with_reducible apply g_RTd); (· wtm_at "pv")) | ((with_reducible apply g_RFd); (· wtm_at "pv")))
local macro_rules | `(tactic| wtm_at "gx") => `(tactic| repeat wtm_at "gx1")
local macro_rules | `(tactic| wtm_at "unfS") => `(tactic| (try simp only [tSeq, tNext, tAsg, tFor_eq, C8.tCut, wipe, gName, tDrop, List.set_cons_zero, List.set_cons_succ, cx_K]))
local macro_rules | `(tactic| wtm_at "rd1") => `(tactic| first | exact rd_int | exact rd_str | exact rd_bl | exact rd_non | exact rda_nil | apply rda_cons | (with_reducible apply rd_tup; (· assumption)) | (with_reducible apply rd_lst; (· assumption)) | exact rd_dic (by assumption) | exact rd_var rfl (.int _) | exact rd_var rfl (.str _) | exact rd_var rfl (.bl _) | exact rd_var rfl (by assumption) | (with_reducible apply rd_cat; (· assumption)) | (with_reducible apply rd_rep2; (· assumption)) | (with_reducible apply rd_rev; (· assumption)) | (with_reducible apply rd_to; (· assumption)) | (with_reducible apply rd_from; (· assumption)) | (with_reducible apply rd_tupOf; (· assumption)) | (with_reducible apply rd_lstOf; (· assumption)) | with_reducible apply rd_lenL | with_reducible apply rd_lenT | with_reducible apply rd_I0 | with_reducible apply rd_I | with_reducible apply rd_U | with_reducible apply rd_eqI | with_reducible apply rd_ixL | with_reducible apply rd_ixT | exact atI_hd _ _ | exact ‹atI _ _ = some _›)
local macro_rules | `(tactic| wtm_at "rdl") => `(tactic| first | decide | omega | wtm_at "sc" | (simp only [List.length_append, List.length_cons, List.length_nil, List.length_map, List.length_take, List.length_drop, List.length_reverse, cutTo]; omega))
local macro_rules | `(tactic| wtm_at "rd") => `(tactic| ((repeat' wtm_at "rd1"); (all_goals wtm_at "rdl")))
local macro_rules | `(tactic| wtm_at "nc") => `(tactic| repeat' (first | assumption | exact nca_nil | exact nc_non | exact nc_bl | exact nc_dic | exact nc_tup0 | exact nc_lst0 | (refine nc_strS (by decide) (by decide)) | (refine nc_int (by omega)) | (refine nc_big (by decide +kernel)) | refine nca_app ?_ ?_ | refine nca_cons ?_ ?_ | refine nca_take ?_ | refine nca_drop ?_ | refine nca_cutTo ?_ | refine nca_rev ?_ | refine nc_tup (by decide) ?_ | refine nc_lst (by decide) ?_ | refine nc_lst (Nat.le_trans (show _ ≤ 45 by wtm_at "rdl") (by decide)) ?_ | refine nc_tup (Nat.le_trans (show _ ≤ 45 by wtm_at "rdl") (by decide)) ?_))

section
variable {P : Program} {w : World} {K : PySem.W.Frag} {mg : Str → Option Value} {base : Heap}
/-! kind_of -/
def sp_kind_of : Sp := fun vs H Q _ => ∃ c : Nat, vs = [Tx [c]] ∧ c ∈ BRK ∧ Q (.int (knd c)) H
theorem ok_kind_of (T : Facts K mg) : C8.Cal P w K mg base 1 "kind_of" sp_kind_of [] := by
  refine calD T.f_kind_of sc_kind_of (fun vs H Q E h => ?_) (fun f cdv A outer s H vs Q E hr h => ?_)
  · obtain ⟨c, rfl, hc, q⟩ := h; rfl
  · obtain ⟨c, rfl, hc, q⟩ := h
    refine ⟨_, (pss_cons (ps_if (pt_cmpR op_inT (pv 0) (C8.pe_gc rfl T.c_OPENING) (by rfl))
       (pss_one (ps_ret (pe_m1 PySem.F.slot_str_index PySem.F.type_str_index mt_idxT (C8.pe_gc rfl T.c_OPENING) (pv 0))))
       pss_nil)
       (pss_one (ps_ret (pe_m1 PySem.F.slot_str_index PySem.F.type_str_index mt_idxT (C8.pe_gc rfl T.c_CLOSING) (pv 0))))), ?_⟩
    rw [st_kind_of]
    wtm_at "unf"
    wtm_at "go"
    refine g_test (fun h => ?_) (fun h => ?_)
    · wtm_at "go"
      exact g_idxT1 (find_opn c h) q
    · wtm_at "go"
      exact g_idxT1 (find_clo c ((brk_or.mp hc).resolve_left h)) q
/-- a text's signs from behind, each bracket the other one of its kind -/
def oth1 (c : Nat) : Nat := if c ∈ BRK then oth c else c
def about (l : List Nat) : List Nat := (l.map oth1).reverse
end
end K19

set_option maxHeartbeats 4000000
namespace K19
open PySem PySem.Spec PyProof.Rows L2 SX Ly
local macro_rules | `(tactic| wtm_at "unf") => `(tactic| (try simp only [tMetX, tOwnX, tChain, tSeq, tNext, tBreak, tCont, tDrop, tRet, tRetN, tIfS, tAsg, tAug, tC, tOp, tUn, tNil, tCons, tOwn, tCB, tTest, tB, tAnd, tOr, tNot, tAndV, tOrV, tNotV, tIf, gName, gSub, tBM, tBM0, tM0, tM1, tSl, tPart_eq, tNoPart, tLst_eq, tTup_eq, tRevL_eq, tReplT, tRevS, tDGet_eq, sDPut_eq, tDNewT_eq, tMet, tMak, tFld_eq, sFld_eq, C8.tCut, wipe, tYes, gTup, gCons, gNil, List.set_cons_zero, List.set_cons_succ, if_true, if_false, Bool.false_eq_true, Bool.not_true, Bool.not_false, true_and, reduceIte, cx_K, tFor_eq, tLc_eq, iStr, iList, iTup, iRng1, iRng2, iRng3, iEnum, iZip, tLstRg, tRg1, gLst, RZ.iZipA, iEnumS, iZipS, tDNewK_eq, tDGet2, tDIn, tDNotIn, iKd]))
local macro_rules | `(tactic| wtm_at "unfA") => `(tactic| (try simp only [tMetX, tOwnX, tChain, tSeq, tNext, tBreak, tCont, tDrop, tRet, tRetN, tIfS, tAsg, tAug, tC, tOp, tUn, tNil, tCons, tOwn, tCB, tTest, tB, tAnd, tOr, tNot, tIf, gName, gSub, tBM, tBM0, tM0, tM1, tSl, tPart_eq, tNoPart, tLst_eq, tTup_eq, tRevL_eq, tReplT, tRevS, tDGet_eq, sDPut_eq, tDNewT_eq, tMet, tMak, tFld_eq, sFld_eq, C8.tCut, wipe, tYes, gTup, gCons, gNil, List.set_cons_zero, List.set_cons_succ, if_true, if_false, Bool.false_eq_true, Bool.not_true, Bool.not_false, true_and, reduceIte, cx_K, tFor_eq, tLc_eq, iStr, iList, iTup, iRng1, iRng2, iRng3, iEnum, iZip, tLstRg, tRg1, gLst, RZ.iZipA, iEnumS, iZipS, tDNewK_eq, tDGet2, tDIn, tDNotIn, iKd]))
local macro_rules | `(tactic| wtm_at "ne") => `(tactic| first | assumption | (apply Ne.symm; assumption) | (apply ne_new; (· assumption); (· wtm_at "lk")) | (apply Ne.symm; apply ne_new; (· assumption); (· wtm_at "lk")))
local macro_rules | `(tactic| wtm_at "lk") => `(tactic| first | assumption | exact upd_same | (apply Same.get; (· assumption); (· wtm_at "lk")) | (apply But.get; (· assumption); (· wtm_at "ne"); (· wtm_at "lk")))
local macro_rules | `(tactic| wtm_at "sq") => `(tactic| first | assumption | (apply sq_of; wtm_at "lk") | (apply Same.seq; (· assumption); (· wtm_at "sq")) | (apply But.sq; (· assumption); (· wtm_at "ne"); (· wtm_at "sq")))
local macro_rules | `(tactic| wtm_at "fr") => `(tactic| first | assumption | (apply Same.fr; (· assumption); (· wtm_at "sm")) | (apply But.fr; (· assumption); (· wtm_at "sm"); (· wtm_at "ne")))
local macro_rules | `(tactic| wtm_at "sm") => `(tactic| first | exact Same.refl _ | exact But.refl | assumption | (apply Same.tr; (· assumption); (· wtm_at "sm")) | (apply Same.b0; (· assumption); (· wtm_at "sm"); (· wtm_at "fr")) | (apply But.sa; (· assumption); (· wtm_at "sm")) | (apply But.tr; (· assumption); (· wtm_at "sm")) | (apply But.b0; (· assumption); (· wtm_at "sm"); (· wtm_at "fr")) | (apply Same.toBut; wtm_at "sm"))
local macro_rules | `(tactic| wtm_at "sc") => `(tactic| first | exact Int.zero_lt_one | (show (0 : Int) < _; omega) | (show (0 : Int) < _; decide) | exact ⟨by omega, by omega⟩ | exact .inl ⟨by omega, by omega⟩ | exact .inr ⟨by omega, by omega⟩)
local macro_rules | `(tactic| wtm_at "go1") => `(tactic| first | ((with_reducible apply g_var); (· exact rfl)) | with_reducible apply g_I0 | ((with_reducible apply g_I); (· wtm_at "sc")) | with_reducible apply g_U | with_reducible apply g_ipI | ((with_reducible apply g_addT); (· first | omega | (simp; done) | (simp; omega))) | with_reducible apply g_inT | with_reducible apply g_ninT | ((with_reducible apply g_lenT); (· omega)) | with_reducible apply g_findT1 | with_reducible apply g_str | with_reducible apply g_part | with_reducible apply g_intB | ((with_reducible apply g_ixL); (· wtm_at "sq"); (· exact rfl)) | ((with_reducible apply g_setL); (· wtm_at "lk"); (· exact rfl)) | ((with_reducible apply g_eq); (· rfl)) | ((with_reducible apply g_ne); (· rfl)))
local macro_rules | `(tactic| wtm_at "go") => `(tactic| repeat wtm_at "go1")
local macro_rules | `(tactic| wtm_at "lp") => `(tactic| skip)
local macro_rules | `(tactic| wtm_at "om") => `(tactic| first | omega | (simp; done) | (simp; omega) | (simp at *; omega))
local macro_rules | `(tactic| wtm_at "ty") => `(tactic| first | exact ty_str | exact ty_int | exact ty_bl | exact ty_non | (apply ty_lst; wtm_at "lk") | (apply ty_tup; wtm_at "lk"))
local macro_rules | `(tactic| wtm_at "kb") => `(tactic| first | exact kb_str_str | exact kb_str_int | exact kb_str_bool | exact kb_str_list | exact kb_str_tuple | exact kb_int_str | exact kb_int_int | exact kb_int_bool | exact kb_int_list | exact kb_int_tuple | exact kb_bool_str | exact kb_bool_int | exact kb_bool_bool | exact kb_bool_list | exact kb_bool_tuple | exact kb_list_str | exact kb_list_int | exact kb_list_bool | exact kb_list_list | exact kb_list_tuple | exact kb_tuple_str | exact kb_tuple_int | exact kb_tuple_bool | exact kb_tuple_list | exact kb_tuple_tuple | exact kb_NoneType_str | exact kb_NoneType_int | exact kb_NoneType_bool | exact kb_NoneType_list | exact kb_NoneType_tuple | exact kb_dict_str | exact kb_dict_int | exact kb_dict_bool | exact kb_dict_list | exact kb_dict_tuple)
local macro_rules | `(tactic| wtm_at "gx1") => `(tactic| first | ((with_reducible apply g_eqS); (· exact rfl)) | ((with_reducible apply g_neS); (· exact rfl)) | wtm_at "go1" | with_reducible apply g_min2 | with_reducible apply g_max2 | with_reducible apply g_T | with_reducible apply g_F | with_reducible apply g_NT | with_reducible apply g_NF | with_reducible apply g_nT | with_reducible apply g_nF | with_reducible apply g_RT | with_reducible apply g_RF | ((with_reducible apply g_isi); (· wtm_at "ty"); (· wtm_at "kb")) | ((with_reducible apply g_ixAU3); (· wtm_at "lk"); (· exact rfl)) | ((with_reducible apply g_ixAL3); (· wtm_at "lk"); (· exact rfl)) | ((with_reducible apply g_ixU3); (· wtm_at "lk"); (· exact rfl)) | ((with_reducible apply g_lenL3); (· wtm_at "lk")) | ((with_reducible apply g_lenU3); (· wtm_at "lk")) | ((with_reducible apply g_tyL3); (· wtm_at "lk")) | ((with_reducible apply g_lenT); (· wtm_at "pv")) | wtm_at "tr" | with_reducible apply g_ET | with_reducible apply g_EF | with_reducible apply g_EnT | with_reducible apply g_EnF)
local macro_rules | `(tactic| wtm_at "pv") => `(tactic| first | exact rfl | assumption | omega | (simp; done) | (simp; omega))
local macro_rules | `(tactic| wtm_at "tr") => `(tactic| first | ((with_reducible apply g_Td); (· wtm_at "pv")) | ((with_reducible apply g_Fd); (· wtm_at "pv")) | ((with_reducible apply g_NTd); (· wtm_at "pv")) | ((with_reducible apply g_NFd); (· wtm_at "pv")) | ((with_reducible apply g_nTd); (· wtm_at "pv")) | ((with_reducible apply g_nFd); (· wtm_at "pv")) | ((with_reducible apply g_RTd); (· wtm_at "pv")) | ((with_reducible apply g_RFd); (· wtm_at "pv")))
local macro_rules | `(tactic| wtm_at "gx") => `(tactic| repeat wtm_at "gx1")
local macro_rules | `(tactic| wtm_at "unfS") => `(tactic| (try simp only [tSeq, tNext, tAsg, tFor_eq, C8.tCut, wipe, gName, tDrop, List.set_cons_zero, List.set_cons_succ, cx_K]))
local macro_rules | `(tactic| wtm_at "rd1") => `(tactic| first | exact rd_int | exact rd_str | exact rd_bl | exact rd_non | exact rda_nil | apply rda_cons | (with_reducible apply rd_tup; (· assumption)) | (with_reducible apply rd_lst; (· assumption)) | exact rd_dic (by assumption) | exact rd_var rfl (.int _) | exact rd_var rfl (.str _) | exact rd_var rfl (.bl _) | exact rd_var rfl (by assumption) | (with_reducible apply rd_cat; (· assumption)) | (with_reducible apply rd_rep2; (· assumption)) | (with_reducible apply rd_rev; (· assumption)) | (with_reducible apply rd_to; (· assumption)) | (with_reducible apply rd_from; (· assumption)) | (with_reducible apply rd_tupOf; (· assumption)) | (with_reducible apply rd_lstOf; (· assumption)) | with_reducible apply rd_lenL | with_reducible apply rd_lenT | with_reducible apply rd_I0 | with_reducible apply rd_I | with_reducible apply rd_U | with_reducible apply rd_eqI | with_reducible apply rd_ixL | with_reducible apply rd_ixT | exact atI_hd _ _ | exact ‹atI _ _ = some _›)
local macro_rules | `(tactic| wtm_at "rdl") => `(tactic| first | decide | omega | wtm_at "sc" | (simp only [List.length_append, List.length_cons, List.length_nil, List.length_map, List.length_take, List.length_drop, List.length_reverse, cutTo]; omega))
local macro_rules | `(tactic| wtm_at "rd") => `(tactic| ((repeat' wtm_at "rd1"); (all_goals wtm_at "rdl")))
local macro_rules | `(tactic| wtm_at "nc") => `(tactic| repeat' (first | assumption | exact nca_nil | exact nc_non | exact nc_bl | exact nc_dic | exact nc_tup0 | exact nc_lst0 | (refine nc_strS (by decide) (by decide)) | (refine nc_int (by omega)) | (refine nc_big (by decide +kernel)) | refine nca_app ?_ ?_ | refine nca_cons ?_ ?_ | refine nca_take ?_ | refine nca_drop ?_ | refine nca_cutTo ?_ | refine nca_rev ?_ | refine nc_tup (by decide) ?_ | refine nc_lst (by decide) ?_ | refine nc_lst (Nat.le_trans (show _ ≤ 45 by wtm_at "rdl") (by decide)) ?_ | refine nc_tup (Nat.le_trans (show _ ≤ 45 by wtm_at "rdl") (by decide)) ?_))

section
variable {P : Program} {w : World} {K : PySem.W.Frag} {mg : Str → Option Value} {base : Heap}
/-- a well: two ints -/
structure Wl where
  a : Int
  b : Int
  h0 : 0 ≤ b
  h1 : b < 2147483629
def Wl.o (P : Wl) : HO := .lst [.int P.a, .int P.b]
theorem pair_at4 {z : Nat} (h : z < 4) : ∃ c, ([Tx [40, 41], Tx [60, 62], Tx [91, 93], Tx [123, 125]] : List V)[z]? = some (Tx [c, oth c]) ∧ c ∈ OPN := by
  have hc : z = 0 ∨ z = 1 ∨ z = 2 ∨ z = 3 := by omega
  rcases hc with rfl | rfl | rfl | rfl
  · exact ⟨40, by rw [show oth 40 = 41 by decide]; rfl, by decide⟩
  · exact ⟨60, by rw [show oth 60 = 62 by decide]; rfl, by decide⟩
  · exact ⟨91, by rw [show oth 91 = 93 by decide]; rfl, by decide⟩
  · exact ⟨123, by rw [show oth 123 = 125 by decide]; rfl, by decide⟩
theorem atI_at {l : List Nat} {k : Nat} (h : k < l.length) : atI l (k : Int) = some (l[k]) := atI_of (by simp [h])
/-! _law_well -/
def sp_law_well : Sp := fun vs H Q _ => ∃ c : Int, vs = [.int c] ∧ ∀ (p : Addr) (P1 : Wl) (H' : Hp), H p = none → Same H H' → H' p = some P1.o → Q (.ref p) H'
theorem ok_law_well (T : Facts K mg) : C8.Cal P w K mg base 1 "_law_well" sp_law_well [] := by
  refine calD T.f_law_well sc_law_well (fun vs H Q E h => ?_) (fun f cdv A outer s H vs Q E hr h => ?_)
  · obtain ⟨c, rfl, q⟩ := h; rfl
  · obtain ⟨c, rfl, q⟩ := h
    refine ⟨_, (pss_cons (ps_if (pt_cmpR op_ge (pv 0) (pe_op op_pow pe_int pe_int) (nomark _))
       (pss_one (ps_ret (pe_lst (pa_cons (pv 0) (pa_cons (pe_op op_mod (pv 0) pe_int) pa_nil)))))
       pss_nil)
       (pss_one (ps_ret (pe_lst (pa_cons pe_int (pa_cons (pe_op op_mod (pv 0) pe_int) pa_nil)))))), ?_⟩
    rw [st_law_well]
    wtm_at "unf"
    wtm_at "go"
    refine g_test (fun h => ?_) (fun h => ?_)
    · wtm_at "go"
      refine g_lst (by show 2 ≤ 100000; decide) fun p H1 np s1 e1 => ?_
      exact q p ⟨_, _, Int.emod_nonneg _ (by decide), Int.emod_lt_of_pos _ (by decide)⟩ H1 np s1 e1
    · wtm_at "go"
      refine g_lst (by show 2 ≤ 100000; decide) fun p H1 np s1 e1 => ?_
      exact q p ⟨_, _, Int.emod_nonneg _ (by decide), Int.emod_lt_of_pos _ (by decide)⟩ H1 np s1 e1
/-! _law_draw -/
def sp_law_draw : Sp := fun vs H Q _ => ∃ (p : Addr) (P0 : Wl) (m : Int), vs = [.ref p, .int m] ∧ H p = some P0.o ∧ 0 < m ∧ m < 1000000 ∧ ∀ (r : Int) (P1 : Wl) (H' : Hp), 0 ≤ r → r < m → But p H H' → H' p = some P1.o → Q (.int r) H'
theorem ok_law_draw (T : Facts K mg) : C8.Cal P w K mg base 1 "_law_draw" sp_law_draw [] := by
  refine calD T.f_law_draw sc_law_draw (fun vs H Q E h => ?_) (fun f cdv A outer s H vs Q E hr h => ?_)
  · obtain ⟨p, P0, m, rfl, hp, h0, h1, q⟩ := h; rfl
  · obtain ⟨p, P0, m, rfl, hp, h0, h1, q⟩ := h
    refine ⟨_, (pss_cons (ps_if (pt_cmpR op_gt (pe_ix ix_list (pv 0) pe_int (fun _ _ => rfl)) pe_int (nomark _))
       (pss_cons (ps_set (i := 2) sc_law_draw.nd rfl (Or.inl rfl) (pe_op op_mod (pe_ix ix_list (pv 0) pe_int (fun _ _ => rfl)) (pv 1)))
       (pss_cons (ps_asg (pe_op op_fdiv (pe_ix ix_list (pv 0) pe_int (fun _ _ => rfl)) (pv 1)) (pg_sub (pv 0) pe_int set_list))
       (pss_one (ps_ret (pv 2)))))
       pss_nil)
       (pss_cons (ps_set (i := 3) sc_law_draw.nd rfl (Or.inl rfl) (pe_op op_mod (pe_op op_add (pe_op op_mul (pe_ix ix_list (pv 0) pe_int (fun _ _ => rfl)) pe_int) pe_int) pe_int))
       (pss_cons (ps_set (i := 3) sc_law_draw.nd rfl (Or.inl rfl) (pe_op op_mod (pe_op op_mul (pv 3) (pv 3)) pe_int))
       (pss_cons (ps_asg (pe_op op_mod (pe_op op_add (pe_op op_mul (pv 3) pe_int) pe_int) pe_int) (pg_sub (pv 0) pe_int set_list))
       (pss_one (ps_ret (pe_op op_mod (pe_op op_fdiv (pe_ix ix_list (pv 0) pe_int (fun _ _ => rfl)) pe_int) (pv 1)))))))), ?_⟩
    rw [st_law_draw]
    have hp' : H p = some (.lst [.int P0.a, .int P0.b]) := hp
    have i0 := P0.h0
    have i1 := P0.h1
    wtm_at "unf"
    wtm_at "go"
    refine g_test (fun h => ?_) (fun h => ?_)
    · wtm_at "go"
      intro H2 b2 e2
      wtm_at "go"
      exact q (P0.a % m) ⟨P0.a / m, P0.b, P0.h0, P0.h1⟩ H2 (Int.emod_nonneg _ (by omega)) (Int.emod_lt_of_pos _ h0) (by wtm_at "sm") e2
    · wtm_at "go"
      generalize hx : (P0.b * 48271 + 11) % 2147483647 = x
      have x0 : 0 ≤ x := by rw [← hx]; exact Int.emod_nonneg _ (by decide)
      have x1 : x < 2147483647 := by rw [← hx]; exact Int.emod_lt_of_pos _ (by decide)
      wtm_at "go"
      generalize hy : x * x % 2147483587 = y
      have y0 : 0 ≤ y := by rw [← hy]; exact Int.emod_nonneg _ (by decide)
      have y1 : y < 2147483587 := by rw [← hy]; exact Int.emod_lt_of_pos _ (by decide)
      wtm_at "go"
      generalize hz : (y * 69621 + 40692) % 2147483629 = z
      have z0 : 0 ≤ z := by rw [← hz]; exact Int.emod_nonneg _ (by decide)
      have z1 : z < 2147483629 := by rw [← hz]; exact Int.emod_lt_of_pos _ (by decide)
      intro H2 b2 e2
      wtm_at "go"
      exact q _ ⟨P0.a, z, z0, z1⟩ H2 (Int.emod_nonneg _ (by omega)) (Int.emod_lt_of_pos _ h0) (by wtm_at "sm") e2
theorem sg_ins {a b u : List Nat} (h : ∀ c ∈ a ++ b, isSg c) (hu : ∀ c ∈ u, isSg c) : ∀ c ∈ a ++ u ++ b, isSg c := by
  intro c hc
  simp only [List.mem_append] at hc h
  rcases hc with (hc | hc) | hc
  · exact h c (.inl hc)
  · exact hu c hc
  · exact h c (.inr hc)
theorem sg_one {c : Nat} (h : isSg c) : ∀ d ∈ [c], isSg d := by
  intro d hd
  rw [List.mem_singleton] at hd
  rw [hd]
  exact h
theorem sg_pair {c : Nat} (h : c ∈ OPN) : ∀ d ∈ [c, oth c], isSg d := by
  intro d hd
  simp only [List.mem_cons, List.not_mem_nil, or_false] at hd
  rcases hd with rfl | rfl
  · exact .inr (brk_or.mpr (.inl h))
  · exact .inr (brk_or.mpr (.inr (oth_clo c h)))
theorem sg_brka : ∀ c ∈ [40, 41, 60, 62, 91, 93, 123, 125, 97], isSg c := by unfold isSg; decide
theorem take_len {l : List Nat} {k : Nat} : (l.take k).length ≤ l.length := by rw [List.length_take]; omega
/-! _law_clean -/
def sp_law_clean : Sp := fun vs H Q _ => ∃ (p : Addr) (P0 : Wl) (m : Nat), vs = [.ref p, .int m] ∧ H p = some P0.o ∧ m ≤ 1000 ∧ ∀ (l : List Nat) (P1 : Wl) (H' : Hp), (∀ c ∈ l, isSg c) → l.length ≤ m + 1 → clean l → But p H H' → H' p = some P1.o → Q (Tx l) H'
theorem ok_law_clean (T : Facts K mg) : C8.Cal P w K mg base 2 "_law_clean" sp_law_clean [] := by
  refine calD T.f_law_clean sc_law_clean (fun vs H Q E h => ?_) (fun f cdv A outer s H vs Q E hr h => ?_)
  · obtain ⟨p, P0, m, rfl, hp, hm, q⟩ := h; rfl
  · obtain ⟨p, P0, m, rfl, hp, hm, q⟩ := h
    refine ⟨_, (pss_cons (ps_set (i := 2) sc_law_clean.nd rfl (Or.inl rfl) (pe_strS (l := []) (by decide +kernel)))
       (pss_cons (ps_while PassesOwn.never (pt_cmpR op_lt (pe_callB call_lenT rfl T.b_len PySem.boot_len (pa_cons (pv 2) pa_nil)) (pv 1) (nomark _))
       (pss_cons (ps_set (i := 3) sc_law_clean.nd rfl (Or.inl rfl) (pe_own (ok_law_draw T) hr (by omega) rfl (pa_cons (pv 0) (pa_cons pe_int pa_nil))))
       (pss_cons (ps_set (i := 4) sc_law_clean.nd rfl (Or.inl rfl) (pe_own (ok_law_draw T) hr (by omega) rfl (pa_cons (pv 0) (pa_cons (pe_op op_add (pe_callB call_lenT rfl T.b_len PySem.boot_len (pa_cons (pv 2) pa_nil)) pe_int) pa_nil))))
       (pss_one (ps_if (pt_cmpR op_eq (pv 3) pe_int (nomark _))
       (pss_one (ps_set (i := 2) sc_law_clean.nd rfl (Or.inl rfl) (pe_op op_addT (pe_op op_addT (pe_slice sl_tx (pv 2) po_none (po_some (pv 4))) (pe_ix ix_txt (pe_strS (l := LET) (by decide +kernel)) (pe_own (ok_law_draw T) hr (by omega) rfl (pa_cons (pv 0) (pa_cons pe_int pa_nil))) (fun _ _ => rfl))) (pe_slice sl_tx (pv 2) (po_some (pv 4)) po_none))))
       (pss_cons (ps_set (i := 5) sc_law_clean.nd rfl (Or.inl rfl) (pe_ix ix_list (pe_lst (pa_cons (pe_strS (l := [40, 41]) (by decide +kernel)) (pa_cons (pe_strS (l := [60, 62]) (by decide +kernel)) (pa_cons (pe_strS (l := [91, 93]) (by decide +kernel)) (pa_cons (pe_strS (l := [123, 125]) (by decide +kernel)) pa_nil))))) (pe_own (ok_law_draw T) hr (by omega) rfl (pa_cons (pv 0) (pa_cons pe_int pa_nil))) (fun _ _ => rfl)))
       (pss_one (ps_if (pt_cmpR op_lt (pv 3) pe_int (nomark _))
       (pss_one (ps_set (i := 2) sc_law_clean.nd rfl (Or.inl rfl) (pe_op op_addT (pe_op op_addT (pe_slice sl_tx (pv 2) po_none (po_some (pv 4))) (pv 5)) (pe_slice sl_tx (pv 2) (po_some (pv 4)) po_none))))
       (pss_one (ps_set (i := 2) sc_law_clean.nd rfl (Or.inl rfl) (pe_op op_addT (pe_op op_addT (pe_ix ix_txt (pv 5) pe_int (fun _ _ => rfl)) (pv 2)) (pe_ix ix_txt (pv 5) pe_int (fun _ _ => rfl)))))))))))))
       (pss_one (ps_ret (pv 2))))), ?_⟩
    rw [st_law_clean]
    wtm_at "unf"
    wtm_at "go"
    refine g_while (fun k σ H' => ∃ (t : List Nat) (P1 : Wl) (y3 y4 y5 : Option V), k = m + 1 - t.length ∧ σ = [some (V.ref p), some (V.int m), some (Tx t), y3, y4, y5] ∧ (∀ c ∈ t, isSg c) ∧ t.length ≤ m + 1 ∧ clean t ∧ But p H H' ∧ H' p = some P1.o) (m + 1) ⟨[], P0, _, _, _, by simp, rfl, by simp, by simp, clean_nil, But.refl, hp⟩ ?_
    rintro k σ H' ⟨t, P1, y3, y4, y5, rfl, rfl, hts, htl, htc, bH, eP⟩
    wtm_at "unf"
    wtm_at "go"
    refine g_test (fun h => ?_) (fun h => ?_)
    · refine g_whb ?_
      wtm_at "unf"
      wtm_at "go"
      refine ⟨p, P1, 5, rfl, eP, by decide, by decide, fun x P2 H2 x0 x1 b2 e2 => ?_⟩
      wtm_at "go"
      refine ⟨p, P2, _, rfl, e2, by omega, by omega, fun y P3 H3 z0 z1 b3 e3 => ?_⟩
      obtain ⟨a, rfl⟩ := Int.eq_ofNat_of_zero_le z0
      have hcut : t.take a ++ t.drop a = t := List.take_append_drop a t
      wtm_at "go"
      refine g_test (fun h2 => ?_) (fun h2 => ?_)
      · wtm_at "go"
        refine g_slTo (by omega) (by omega) ?_
        rw [Int.toNat_natCast]
        wtm_at "go"
        refine ⟨p, P3, 26, rfl, e3, by decide, by decide, fun z P4 H4 w0 w1 b4 e4 => ?_⟩
        obtain ⟨b, rfl⟩ := Int.eq_ofNat_of_zero_le w0
        obtain ⟨c, hc1, hc2⟩ := let_at (z := b) (by omega)
        refine g_ixT (by decide) (atI_of hc1) ?_
        refine g_addT (by have := take_len (l := t) (k := a); simp only [List.length_cons, List.length_nil]; omega) ?_
        wtm_at "go"
        refine g_slFrom (by omega) (by omega) ?_
        rw [Int.toNat_natCast]
        refine g_addT (by rw [← List.length_append]; simp; omega) ?_
        have hln : (t.take a ++ [c] ++ t.drop a).length = t.length + 1 := by
          have := congrArg List.length hcut
          simp only [List.length_append, List.length_cons, List.length_nil] at this ⊢
          omega
        refine ⟨m + 1 - (t.take a ++ [c] ++ t.drop a).length, by omega, _, P4, _, _, _, rfl, rfl, sg_ins (by rw [hcut]; exact hts) (sg_one (.inl hc2)), by omega, ?_, by wtm_at "sm", e4⟩
        refine (clean_mid ?_).mpr (by rw [hcut]; exact htc)
        exact (unit_let (let_opn c hc2) (let_clo c hc2)).1
      · wtm_at "go"
        refine g_lst (by show 4 ≤ 100000; decide) fun la H4 nla s4 ela => ?_
        wtm_at "go"
        refine ⟨p, P3, 4, rfl, s4 _ _ e3, by decide, by decide, fun z P4 H5 w0 w1 b5 e5 => ?_⟩
        obtain ⟨b, rfl⟩ := Int.eq_ofNat_of_zero_le w0
        obtain ⟨c, hc1, hc2⟩ := pair_at4 (z := b) (by omega)
        have hlap : la ≠ p := Ne.symm (ne_new nla e3)
        refine g_ixL (sq_of (b5 _ _ hlap ela)) (atI_of hc1) ?_
        wtm_at "go"
        refine g_test (fun h3 => ?_) (fun h3 => ?_)
        · wtm_at "go"
          refine g_slTo (by omega) (by omega) ?_
          rw [Int.toNat_natCast]
          wtm_at "go"
          refine g_slFrom (by omega) (by omega) ?_
          rw [Int.toNat_natCast]
          refine g_addT (by rw [← List.length_append]; simp; omega) ?_
          have hln : (t.take a ++ [c, oth c] ++ t.drop a).length = t.length + 2 := by
            have := congrArg List.length hcut
            simp only [List.length_append, List.length_cons, List.length_nil] at this ⊢
            omega
          refine ⟨m + 1 - (t.take a ++ [c, oth c] ++ t.drop a).length, by omega, _, P4, _, _, _, rfl, rfl, sg_ins (by rw [hcut]; exact hts) (sg_pair hc2), by omega, ?_, by wtm_at "sm", e5⟩
          exact (clean_mid (clean_pair (a := []) hc2 clean_nil)).mpr (by rw [hcut]; exact htc)
        · wtm_at "go"
          refine g_ixT (c := c) (by simp) rfl ?_
          wtm_at "go"
          refine g_ixT (c := oth c) (by simp) rfl ?_
          refine g_addT (by simp; omega) ?_
          refine ⟨m + 1 - ([c] ++ t ++ [oth c]).length, by simp; omega, _, P4, _, _, _, rfl, rfl, ?_, by simp; omega, clean_pair hc2 htc, by wtm_at "sm", e5⟩
          intro d hd
          simp only [List.mem_append, List.mem_singleton] at hd
          rcases hd with (rfl | hd) | rfl
          · exact .inr (brk_or.mpr (.inl hc2))
          · exact hts d hd
          · exact .inr (brk_or.mpr (.inr (oth_clo c hc2)))
    · wtm_at "unf"
      wtm_at "go"
      exact q t P1 H' hts htl htc bH eP
/-! _law_bent -/
def sp_law_bent : Sp := fun vs H Q _ => ∃ (p : Addr) (P0 : Wl) (l : List Nat), vs = [.ref p, Tx l] ∧ H p = some P0.o ∧ l.length ≤ 1000 ∧ (∀ c ∈ l, isSg c) ∧ ∀ (l' : List Nat) (P1 : Wl) (H' : Hp), (∀ c ∈ l', isSg c) → l'.length ≤ l.length + 1 → But p H H' → H' p = some P1.o → Q (Tx l') H'
theorem ok_law_bent (T : Facts K mg) : C8.Cal P w K mg base 2 "_law_bent" sp_law_bent [] := by
  refine calD T.f_law_bent sc_law_bent (fun vs H Q E h => ?_) (fun f cdv A outer s H vs Q E hr h => ?_)
  · obtain ⟨p, P0, l, rfl, hp, hl, hs, q⟩ := h; rfl
  · obtain ⟨p, P0, l, rfl, hp, hl, hs, q⟩ := h
    refine ⟨_, (pss_cons (ps_set (i := 2) sc_law_bent.nd rfl (Or.inl rfl) (pe_ix ix_txt (pe_strS (l := [40, 41, 60, 62, 91, 93, 123, 125, 97]) (by decide +kernel)) (pe_own (ok_law_draw T) hr (by omega) rfl (pa_cons (pv 0) (pa_cons pe_int pa_nil))) (fun _ _ => rfl)))
       (pss_cons (ps_set (i := 3) sc_law_bent.nd rfl (Or.inl rfl) (pe_own (ok_law_draw T) hr (by omega) rfl (pa_cons (pv 0) (pa_cons (pe_op op_add (pe_callB call_lenT rfl T.b_len PySem.boot_len (pa_cons (pv 1) pa_nil)) pe_int) pa_nil))))
       (pss_cons (ps_set (i := 4) sc_law_bent.nd rfl (Or.inl rfl) (pe_own (ok_law_draw T) hr (by omega) rfl (pa_cons (pv 0) (pa_cons pe_int pa_nil))))
       (pss_cons (ps_if (pt_cmpR op_eq (pv 4) pe_int (nomark _))
       (pss_one (ps_ret (pe_op op_addT (pe_slice sl_tx (pv 1) po_none (po_some (pv 3))) (pe_slice sl_tx (pv 1) (po_some (pe_op op_add (pv 3) pe_int)) po_none))))
       pss_nil)
       (pss_one (ps_ret (pe_op op_addT (pe_op op_addT (pe_slice sl_tx (pv 1) po_none (po_some (pv 3))) (pv 2)) (pe_slice sl_tx (pv 1) (po_some (pe_op op_sub (pe_op op_add (pv 3) (pv 4)) pe_int)) po_none)))))))), ?_⟩
    rw [st_law_bent]
    wtm_at "unf"
    wtm_at "go"
    refine ⟨p, P0, 9, rfl, hp, by decide, by decide, fun x P2 H2 x0 x1 b2 e2 => ?_⟩
    obtain ⟨a, rfl⟩ := Int.eq_ofNat_of_zero_le x0
    have ha : a < ([40, 41, 60, 62, 91, 93, 123, 125, 97] : List Nat).length := by show a < 9; omega
    refine g_ixT (by decide) (atI_at ha) ?_
    have hsg := sg_brka _ (List.getElem_mem ha)
    generalize ([40, 41, 60, 62, 91, 93, 123, 125, 97] : List Nat)[a] = c at hsg
    wtm_at "go"
    refine ⟨p, P2, _, rfl, e2, by omega, by omega, fun y P3 H3 z0 z1 b3 e3 => ?_⟩
    obtain ⟨b, rfl⟩ := Int.eq_ofNat_of_zero_le z0
    have hb : b ≤ l.length := by omega
    wtm_at "go"
    refine ⟨p, P3, 3, rfl, e3, by omega, by omega, fun y P4 H4 w0 w1 b4 e4 => ?_⟩
    obtain ⟨w, rfl⟩ := Int.eq_ofNat_of_zero_le w0
    have htl := List.length_take (i := b) (l := l)
    wtm_at "go"
    refine g_test (fun h2 => ?_) (fun h2 => ?_)
    · wtm_at "go"
      refine g_slTo (by omega) (by omega) ?_
      rw [Int.toNat_natCast]
      wtm_at "go"
      refine g_slFrom (by omega) (by omega) ?_
      rw [show ((b : Int) + 1).toNat = b + 1 by omega]
      have hdl := List.length_drop (i := b + 1) (l := l)
      refine g_addT (by omega) ?_
      refine q _ P4 H4 (fun d hd => ?_) (by rw [List.length_append]; omega) (by wtm_at "sm") e4
      rcases List.mem_append.mp hd with hd | hd
      · exact hs d (List.mem_of_mem_take hd)
      · exact hs d (List.mem_of_mem_drop hd)
    · have hw : w ≠ 0 := fun e => h2 (by rw [e]; rfl)
      wtm_at "go"
      refine g_slTo (by omega) (by omega) ?_
      rw [Int.toNat_natCast]
      wtm_at "go"
      refine g_slFrom (by omega) (by omega) ?_
      rw [show ((b : Int) + (w : Int) - 1).toNat = b + (w - 1) by omega]
      have hdl := List.length_drop (i := b + (w - 1)) (l := l)
      refine g_addT (by simp; omega) ?_
      refine q _ P4 H4 (fun d hd => ?_) (by simp; omega) (by wtm_at "sm") e4
      simp only [List.mem_append, List.mem_singleton] at hd
      rcases hd with (hd | rfl) | hd
      · exact hs d (List.mem_of_mem_take hd)
      · exact hsg
      · exact hs d (List.mem_of_mem_drop hd)
theorem signs_at {z : Nat} (h : z < 4) : ∃ l : List Nat, ([Tx [40, 41, 60, 62, 91, 93, 123, 125, 97], Tx [40, 41, 60, 62, 91, 93, 123, 125, 97, 98], Tx [40, 41], Tx [40, 91, 41, 93]] : List V)[z]? = some (Tx l) ∧ (∀ c ∈ l, isSg c) ∧ 0 < l.length ∧ l.length ≤ 10 := by
  have hc : z = 0 ∨ z = 1 ∨ z = 2 ∨ z = 3 := by omega
  unfold isSg
  rcases hc with rfl | rfl | rfl | rfl
  · exact ⟨_, rfl, by decide, by decide, by decide⟩
  · exact ⟨_, rfl, by decide, by decide, by decide⟩
  · exact ⟨_, rfl, by decide, by decide, by decide⟩
  · exact ⟨_, rfl, by decide, by decide, by decide⟩
/-! _law_text -/
def sp_law_text : Sp := fun vs H Q _ => ∃ (p : Addr) (P0 : Wl) (m : Nat), vs = [.ref p, .int m] ∧ H p = some P0.o ∧ m ≤ 100 ∧ ∀ (l : List Nat) (P1 : Wl) (H' : Hp), (∀ c ∈ l, isSg c) → l.length ≤ m → But p H H' → H' p = some P1.o → Q (Tx l) H'
theorem ok_law_text (T : Facts K mg) : C8.Cal P w K mg base 3 "_law_text" sp_law_text [] := by
  refine calD T.f_law_text sc_law_text (fun vs H Q E h => ?_) (fun f cdv A outer s H vs Q E hr h => ?_)
  · obtain ⟨p, P0, m, rfl, hp, hm, q⟩ := h; rfl
  · obtain ⟨p, P0, m, rfl, hp, hm, q⟩ := h
    refine ⟨_, (pss_cons (ps_set (i := 2) sc_law_text.nd rfl (Or.inl rfl) (pe_own (ok_law_draw T) hr (by omega) rfl (pa_cons (pv 0) (pa_cons (pe_op op_add (pv 1) pe_int) pa_nil))))
       (pss_cons (ps_set (i := 3) sc_law_text.nd rfl (Or.inl rfl) (pe_own (ok_law_draw T) hr (by omega) rfl (pa_cons (pv 0) (pa_cons pe_int pa_nil))))
       (pss_cons (ps_if (pt_cmpR op_lt (pv 3) pe_int (nomark _))
       (pss_cons (ps_set (i := 4) sc_law_text.nd rfl (Or.inl rfl) (pe_own (ok_law_clean T) hr (by omega) rfl (pa_cons (pv 0) (pa_cons (pv 2) pa_nil))))
       (pss_cons (ps_for PassesOwn.never rfl (pi_range1 rfl T.b_range (pa_cons (pe_own (ok_law_draw T) hr (by omega) rfl (pa_cons (pv 0) (pa_cons pe_int pa_nil))) pa_nil)) (pg_name (i := 5) sc_law_text.nd rfl (Or.inl rfl))
       (pss_one (ps_set (i := 4) sc_law_text.nd rfl (Or.inl rfl) (pe_own (ok_law_bent T) hr (by omega) rfl (pa_cons (pv 0) (pa_cons (pv 4) pa_nil))))))
       (pss_one (ps_ret (pe_slice sl_tx (pv 4) po_none (po_some (pv 1)))))))
       pss_nil)
       (pss_cons (ps_set (i := 6) sc_law_text.nd rfl (Or.inr rfl) (pe_ix ix_list (pe_lst (pa_cons (pe_strS (l := [40, 41, 60, 62, 91, 93, 123, 125, 97]) (by decide +kernel)) (pa_cons (pe_strS (l := [40, 41, 60, 62, 91, 93, 123, 125, 97, 98]) (by decide +kernel)) (pa_cons (pe_strS (l := [40, 41]) (by decide +kernel)) (pa_cons (pe_strS (l := [40, 91, 41, 93]) (by decide +kernel)) pa_nil))))) (pe_op op_sub (pv 3) pe_int) (fun _ _ => rfl)))
       (pss_asgT (i := 4) sc_law_text.nd rfl rfl (pe_m1 PySem.F.slot_str_join PySem.F.type_str_join mt_joinT (pe_strS (l := []) (by decide +kernel)) (pe_lc (own := [("k", 5)]) (by rfl) sc_law_text.nd (pi_range1 rfl T.b_range (pa_cons (pv 2) pa_nil)) (blkOk_by (own := [("k", 5)]) (N := N_law_text) (sc := defScope s_law_text) (by decide +kernel)) (fun _ _ _ _ _ => (pg_name (i := 5) sc_law_text.nd rfl (Or.inl rfl))) (fun _ _ _ _ _ => pts_nil) (fun _ _ _ _ _ => (pe_ix ix_txt (pv 6) (pe_own (ok_law_draw T) hr (by omega) rfl (pa_cons (pv 0) (pa_cons (pe_callB call_lenT rfl T.b_len PySem.boot_len (pa_cons (pv 6) pa_nil)) pa_nil))) (fun _ _ => rfl))))) (psst_cons (CwR.pst_if (pt_cmpR op_eq (pe_own (ok_law_draw T) hr (by omega) rfl (pa_cons (pv 0) (pa_cons pe_int pa_nil))) pe_int (nomark _)) (CwR.psst_one (CwR.pst_ret (pet_ix ix_list (pet_lst (pat_cons (pet_replL (ly := [41]) (lz := [40]) (by decide +kernel) (by decide +kernel) (pv 4) (by decide)) (pat_cons (CwR.PET.of (pe_revS (pe_m1 PySem.F.slot_str_join PySem.F.type_str_join mt_joinT (pe_strS (l := []) (by decide +kernel)) (pe_callB (call_sortedT rfl) rfl T.b_sorted (by decide +kernel) (pa_cons (pv 4) pa_nil))))) pat_nil))) (pe_own (ok_law_draw T) hr (by omega) rfl (pa_cons (pv 0) (pa_cons pe_int pa_nil))) (fun _ _ => rfl)))) CwR.psst_nil) (PSsT.of (pss_one (ps_ret (pv 4)))))))))), ?_⟩
    rw [st_law_text]
    wtm_at "unf"
    wtm_at "go"
    refine ⟨p, P0, _, rfl, hp, by omega, by omega, fun x P2 H2 x0 x1 b2 e2 => ?_⟩
    obtain ⟨n, rfl⟩ := Int.eq_ofNat_of_zero_le x0
    wtm_at "go"
    refine ⟨p, P2, 6, rfl, e2, by decide, by decide, fun y P3 H3 z0 z1 b3 e3 => ?_⟩
    obtain ⟨w, rfl⟩ := Int.eq_ofNat_of_zero_le z0
    wtm_at "go"
    refine g_test (fun h2 => ?_) (fun h2 => ?_)
    · wtm_at "go"
      refine ⟨p, P3, n, rfl, e3, by omega, fun t P4 H4 hts htl htc b4 e4 => ?_⟩
      wtm_at "go"
      refine ⟨p, P4, 4, rfl, e4, by decide, by decide, fun y P5 H5 w0 w1 b5 e5 => ?_⟩
      obtain ⟨v, rfl⟩ := Int.eq_ofNat_of_zero_le w0
      refine ⟨_, rfl, by omega, by omega, for_rng (fun i σ H' => ∃ (u : List Nat) (P6 : Wl) (y5 : Option V), σ = [some (V.ref p), some (V.int m), some (V.int n), some (V.int w), some (Tx u), y5, none] ∧ (∀ c ∈ u, isSg c) ∧ u.length ≤ 102 + i ∧ But p H H' ∧ H' p = some P6.o) ⟨t, P5, _, rfl, hts, by omega, by wtm_at "sm", e5⟩ (fun i σ H' hi hv => ?_) (fun σ H' hv => ?_)⟩
      · obtain ⟨u, P6, y5, rfl, hus, hul, bH, eH⟩ := hv
        rw [Int.toNat_natCast] at hi
        wtm_at "unf"
        wtm_at "go"
        refine ⟨p, P6, u, rfl, eH, by omega, hus, fun u' P7 H7 hus' hul' b7 e7 => ?_⟩
        exact ⟨u', P7, _, rfl, hus', by omega, by wtm_at "sm", e7⟩
      · obtain ⟨u, P6, y5, rfl, hus, hul, bH, eH⟩ := hv
        rw [Int.toNat_natCast] at hul
        wtm_at "unf"
        wtm_at "go"
        refine g_slTo (by omega) (by omega) ?_
        rw [Int.toNat_natCast]
        exact q _ P6 H' (fun d hd => hus d (List.mem_of_mem_take hd)) (by rw [List.length_take]; omega) bH eH
    · wtm_at "go"
      refine g_lst (by show 4 ≤ 100000; decide) fun la H4 nla s4 ela => ?_
      wtm_at "go"
      obtain ⟨sg, hsg1, hsg2, hsg3, hsg4⟩ := signs_at (z := w - 2) (by omega)
      refine g_ixL (sq_of ela) (by rw [show ((w : Int) - 2) = ((w - 2 : Nat) : Int) by omega]; exact atI_of hsg1) ?_
      wtm_at "go"
      refine ⟨_, rfl, by omega, by omega, lc_rng fun d H5 nd s5 ed => ⟨fun i H' => ∃ (u : List Nat) (P6 : Wl), H' d = some (.lst (sgV u)) ∧ u.length = i ∧ (∀ c ∈ u, isSg c) ∧ But p H H' ∧ H' p = some P6.o, ⟨[], P3, ed, rfl, by simp, by wtm_at "sm", s5 _ _ (s4 _ _ e3)⟩, fun i H' hi hv => ?_, fun H' hv => ?_⟩⟩
      · obtain ⟨u, P6, eu, hul, hus, bH, eH⟩ := hv
        rw [Int.toNat_natCast] at hi
        wtm_at "unf"
        refine ⟨rfl, ?_⟩
        wtm_at "go"
        have hdp : d ≠ p := Ne.symm (ne_new nd (s4 _ _ e3))
        refine ⟨p, P6, _, rfl, eH, by omega, by omega, fun x P7 H7 v0 v1 b7 e7 => ?_⟩
        obtain ⟨v, rfl⟩ := Int.eq_ofNat_of_zero_le v0
        have hv2 : v < sg.length := by omega
        refine g_ixT (by omega) (atI_at hv2) ?_
        refine lc_put (b7 _ _ hdp eu) (by rw [sgV_len]; omega) fun H8 b8 e8 => ?_
        refine ⟨u ++ [sg[v]], P7, by rw [sgV_snoc]; exact e8, by simp [hul], fun c hc => ?_, But.b0 b8 (But.tr b7 bH) (But.fr (s4.free nd) (But.tr b3 b2) hdp), b8 _ _ (Ne.symm hdp) e7⟩
        rcases List.mem_append.mp hc with hc | hc
        · exact hus c hc
        · rw [List.mem_singleton] at hc
          rw [hc]
          exact hsg2 _ (List.getElem_mem hv2)
      · obtain ⟨u, P6, eu, hul, hus, bH, eH⟩ := hv
        rw [Int.toNat_natCast] at hul
        wtm_at "go"
        refine g_join0 (sq_of eu) (by omega) ?_
        wtm_at "go"
        refine ⟨p, P6, 6, rfl, eH, by decide, by decide, fun x P7 H7 v0 v1 b7 e7 => ?_⟩
        wtm_at "go"
        refine g_test (fun h3 => ?_) (fun h3 => ?_)
        · wtm_at "go"
          refine ⟨u, rfl, by omega, by decide, ?_⟩
          rw [replace_one]
          wtm_at "go"
          refine g_sortedT (by omega) fun u2 sa H8 hpm nsa s8 esa => ?_
          have hu2 : u2.length = u.length := hpm.length_eq
          refine g_join0 (sq_of esa) (by omega) ?_
          refine g_revT (by omega) ?_
          refine g_lst (by show 2 ≤ 100000; decide) fun lb H9 nlb s9 elb => ?_
          wtm_at "go"
          have hlbp : lb ≠ p := Ne.symm (ne_new nlb (s8 _ _ e7))
          refine ⟨p, P7, 2, rfl, s9 _ _ (s8 _ _ e7), by decide, by decide, fun z P8 H10 z0 z1 b10 e10 => ?_⟩
          have elb2 := b10 _ _ hlbp elb
          have hbut : But p H H10 := But.tr b10 (But.sa s9 (But.sa s8 (But.tr b7 bH)))
          rcases (show z = 0 ∨ z = 1 by omega) with rfl | rfl
          · refine g_ixL (sq_of elb2) (show atI [Tx _, Tx _] 0 = some _ from rfl) ?_
            refine q _ P8 H10 (fun c hc => ?_) (by rw [List.length_map]; omega) hbut e10
            obtain ⟨c0, hc0, rfl⟩ := List.mem_map.mp hc
            by_cases hq : c0 = 41
            · rw [if_pos hq]
              unfold isSg
              decide
            · rw [if_neg hq]
              exact hus c0 hc0
          · refine g_ixL (sq_of elb2) (show atI [Tx _, Tx _] 1 = some _ from rfl) ?_
            exact q _ P8 H10 (fun c hc => hus c (hpm.mem_iff.mp (List.mem_reverse.mp hc))) (by rw [List.length_reverse]; omega) hbut e10
        · wtm_at "go"
          exact q u P7 H7 hus (by omega) (But.tr b7 bH) e7
end
end K19

set_option maxHeartbeats 4000000
namespace K19
open PySem PySem.Spec PyProof.Rows L2 SX Ly
local macro_rules | `(tactic| wtm_at "unf") => `(tactic| (try simp only [tMetX, tOwnX, tChain, tSeq, tNext, tBreak, tCont, tDrop, tRet, tRetN, tIfS, tAsg, tAug, tC, tOp, tUn, tNil, tCons, tOwn, tCB, tTest, tB, tAnd, tOr, tNot, tAndV, tOrV, tNotV, tIf, gName, gSub, tBM, tBM0, tM0, tM1, tSl, tPart_eq, tNoPart, tLst_eq, tTup_eq, tRevL_eq, tReplT, tRevS, tDGet_eq, sDPut_eq, tDNewT_eq, tMet, tMak, tFld_eq, sFld_eq, C8.tCut, wipe, tYes, gTup, gCons, gNil, List.set_cons_zero, List.set_cons_succ, if_true, if_false, Bool.false_eq_true, Bool.not_true, Bool.not_false, true_and, reduceIte, cx_K, tFor_eq, tLc_eq, iStr, iList, iTup, iRng1, iRng2, iRng3, iEnum, iZip, tLstRg, tRg1, gLst, RZ.iZipA, iEnumS, iZipS, tDNewK_eq, tDGet2, tDIn, tDNotIn, iKd]))
local macro_rules | `(tactic| wtm_at "unfA") => `(tactic| (try simp only [tMetX, tOwnX, tChain, tSeq, tNext, tBreak, tCont, tDrop, tRet, tRetN, tIfS, tAsg, tAug, tC, tOp, tUn, tNil, tCons, tOwn, tCB, tTest, tB, tAnd, tOr, tNot, tIf, gName, gSub, tBM, tBM0, tM0, tM1, tSl, tPart_eq, tNoPart, tLst_eq, tTup_eq, tRevL_eq, tReplT, tRevS, tDGet_eq, sDPut_eq, tDNewT_eq, tMet, tMak, tFld_eq, sFld_eq, C8.tCut, wipe, tYes, gTup, gCons, gNil, List.set_cons_zero, List.set_cons_succ, if_true, if_false, Bool.false_eq_true, Bool.not_true, Bool.not_false, true_and, reduceIte, cx_K, tFor_eq, tLc_eq, iStr, iList, iTup, iRng1, iRng2, iRng3, iEnum, iZip, tLstRg, tRg1, gLst, RZ.iZipA, iEnumS, iZipS, tDNewK_eq, tDGet2, tDIn, tDNotIn, iKd]))
local macro_rules | `(tactic| wtm_at "ne") => `(tactic| first | assumption | (apply Ne.symm; assumption) | (apply ne_new; (· assumption); (· wtm_at "lk")) | (apply Ne.symm; apply ne_new; (· assumption); (· wtm_at "lk")))
local macro_rules | `(tactic| wtm_at "lk") => `(tactic| first | assumption | exact upd_same | (apply Same.get; (· assumption); (· wtm_at "lk")) | (apply But.get; (· assumption); (· wtm_at "ne"); (· wtm_at "lk")))
local macro_rules | `(tactic| wtm_at "sq") => `(tactic| first | assumption | (apply sq_of; wtm_at "lk") | (apply Same.seq; (· assumption); (· wtm_at "sq")) | (apply But.sq; (· assumption); (· wtm_at "ne"); (· wtm_at "sq")))
local macro_rules | `(tactic| wtm_at "fr") => `(tactic| first | assumption | (apply Same.fr; (· assumption); (· wtm_at "sm")) | (apply But.fr; (· assumption); (· wtm_at "sm"); (· wtm_at "ne")))
local macro_rules | `(tactic| wtm_at "sm") => `(tactic| first | exact Same.refl _ | exact But.refl | assumption | (apply Same.tr; (· assumption); (· wtm_at "sm")) | (apply Same.b0; (· assumption); (· wtm_at "sm"); (· wtm_at "fr")) | (apply But.sa; (· assumption); (· wtm_at "sm")) | (apply But.tr; (· assumption); (· wtm_at "sm")) | (apply But.b0; (· assumption); (· wtm_at "sm"); (· wtm_at "fr")) | (apply Same.toBut; wtm_at "sm"))
local macro_rules | `(tactic| wtm_at "sc") => `(tactic| first | exact Int.zero_lt_one | (show (0 : Int) < _; omega) | (show (0 : Int) < _; decide) | exact ⟨by omega, by omega⟩ | exact .inl ⟨by omega, by omega⟩ | exact .inr ⟨by omega, by omega⟩)
local macro_rules | `(tactic| wtm_at "go1") => `(tactic| first | ((with_reducible apply g_var); (· exact rfl)) | with_reducible apply g_I0 | ((with_reducible apply g_I); (· wtm_at "sc")) | with_reducible apply g_U | with_reducible apply g_ipI | ((with_reducible apply g_addT); (· first | omega | (simp; done) | (simp; omega))) | with_reducible apply g_inT | with_reducible apply g_ninT | ((with_reducible apply g_lenT); (· omega)) | with_reducible apply g_findT1 | with_reducible apply g_str | with_reducible apply g_part | with_reducible apply g_intB | ((with_reducible apply g_ixL); (· wtm_at "sq"); (· exact rfl)) | ((with_reducible apply g_setL); (· wtm_at "lk"); (· exact rfl)) | ((with_reducible apply g_eq); (· rfl)) | ((with_reducible apply g_ne); (· rfl)))
local macro_rules | `(tactic| wtm_at "go") => `(tactic| repeat wtm_at "go1")
local macro_rules | `(tactic| wtm_at "lp") => `(tactic| skip)
local macro_rules | `(tactic| wtm_at "om") => `(tactic| first | omega | (simp; done) | (simp; omega) | (simp at *; omega))
local macro_rules | `(tactic| wtm_at "ty") => `(tactic| first | exact ty_str | exact ty_int | exact ty_bl | exact ty_non | (apply ty_lst; wtm_at "lk") | (apply ty_tup; wtm_at "lk"))
local macro_rules | `(tactic| wtm_at "kb") => `(tactic| first | exact kb_str_str | exact kb_str_int | exact kb_str_bool | exact kb_str_list | exact kb_str_tuple | exact kb_int_str | exact kb_int_int | exact kb_int_bool | exact kb_int_list | exact kb_int_tuple | exact kb_bool_str | exact kb_bool_int | exact kb_bool_bool | exact kb_bool_list | exact kb_bool_tuple | exact kb_list_str | exact kb_list_int | exact kb_list_bool | exact kb_list_list | exact kb_list_tuple | exact kb_tuple_str | exact kb_tuple_int | exact kb_tuple_bool | exact kb_tuple_list | exact kb_tuple_tuple | exact kb_NoneType_str | exact kb_NoneType_int | exact kb_NoneType_bool | exact kb_NoneType_list | exact kb_NoneType_tuple | exact kb_dict_str | exact kb_dict_int | exact kb_dict_bool | exact kb_dict_list | exact kb_dict_tuple)
local macro_rules | `(tactic| wtm_at "gx1") => `(tactic| first | ((with_reducible apply g_eqS); (· exact rfl)) | ((with_reducible apply g_neS); (· exact rfl)) | wtm_at "go1" | with_reducible apply g_min2 | with_reducible apply g_max2 | with_reducible apply g_T | with_reducible apply g_F | with_reducible apply g_NT | with_reducible apply g_NF | with_reducible apply g_nT | with_reducible apply g_nF | with_reducible apply g_RT | with_reducible apply g_RF | ((with_reducible apply g_isi); (· wtm_at "ty"); (· wtm_at "kb")) | ((with_reducible apply g_ixAU3); (· wtm_at "lk"); (· exact rfl)) | ((with_reducible apply g_ixAL3); (· wtm_at "lk"); (· exact rfl)) | ((with_reducible apply g_ixU3); (· wtm_at "lk"); (· exact rfl)) | ((with_reducible apply g_lenL3); (· wtm_at "lk")) | ((with_reducible apply g_lenU3); (· wtm_at "lk")) | ((with_reducible apply g_tyL3); (· wtm_at "lk")) | ((with_reducible apply g_lenT); (· wtm_at "pv")) | wtm_at "tr" | with_reducible apply g_ET | with_reducible apply g_EF | with_reducible apply g_EnT | with_reducible apply g_EnF)
local macro_rules | `(tactic| wtm_at "pv") => `(tactic| first | exact rfl | assumption | omega | (simp; done) | (simp; omega))
local macro_rules | `(tactic| wtm_at "tr") => `(tactic| first | ((with_reducible apply g_Td); (· wtm_at "pv")) | ((with_reducible apply g_Fd); (· wtm_at "pv")) | ((with_reducible apply g_NTd); (· wtm_at "pv")) | ((with_reducible apply g_NFd); (· wtm_at "pv")) | ((with_reducible apply g_nTd); (· wtm_at "pv")) | ((with_reducible apply g_nFd); (· wtm_at "pv")) | ((with_reducible apply g_RTd); (· wtm_at "pv")) | ((with_reducible apply g_RFd); (· wtm_at "pv")))
local macro_rules | `(tactic| wtm_at "gx") => `(tactic| repeat wtm_at "gx1")
local macro_rules | `(tactic| wtm_at "unfS") => `(tactic| (try simp only [tSeq, tNext, tAsg, tFor_eq, C8.tCut, wipe, gName, tDrop, List.set_cons_zero, List.set_cons_succ, cx_K]))
local macro_rules | `(tactic| wtm_at "rd1") => `(tactic| first | exact rd_int | exact rd_str | exact rd_bl | exact rd_non | exact rda_nil | apply rda_cons | (with_reducible apply rd_tup; (· assumption)) | (with_reducible apply rd_lst; (· assumption)) | exact rd_dic (by assumption) | exact rd_var rfl (.int _) | exact rd_var rfl (.str _) | exact rd_var rfl (.bl _) | exact rd_var rfl (by assumption) | (with_reducible apply rd_cat; (· assumption)) | (with_reducible apply rd_rep2; (· assumption)) | (with_reducible apply rd_rev; (· assumption)) | (with_reducible apply rd_to; (· assumption)) | (with_reducible apply rd_from; (· assumption)) | (with_reducible apply rd_tupOf; (· assumption)) | (with_reducible apply rd_lstOf; (· assumption)) | with_reducible apply rd_lenL | with_reducible apply rd_lenT | with_reducible apply rd_I0 | with_reducible apply rd_I | with_reducible apply rd_U | with_reducible apply rd_eqI | with_reducible apply rd_ixL | with_reducible apply rd_ixT | exact atI_hd _ _ | exact ‹atI _ _ = some _›)
local macro_rules | `(tactic| wtm_at "rdl") => `(tactic| first | decide | omega | wtm_at "sc" | (simp only [List.length_append, List.length_cons, List.length_nil, List.length_map, List.length_take, List.length_drop, List.length_reverse, cutTo]; omega))
local macro_rules | `(tactic| wtm_at "rd") => `(tactic| ((repeat' wtm_at "rd1"); (all_goals wtm_at "rdl")))
local macro_rules | `(tactic| wtm_at "nc") => `(tactic| repeat' (first | assumption | exact nca_nil | exact nc_non | exact nc_bl | exact nc_dic | exact nc_tup0 | exact nc_lst0 | (refine nc_strS (by decide) (by decide)) | (refine nc_int (by omega)) | (refine nc_big (by decide +kernel)) | refine nca_app ?_ ?_ | refine nca_cons ?_ ?_ | refine nca_take ?_ | refine nca_drop ?_ | refine nca_cutTo ?_ | refine nca_rev ?_ | refine nc_tup (by decide) ?_ | refine nc_lst (by decide) ?_ | refine nc_lst (Nat.le_trans (show _ ≤ 45 by wtm_at "rdl") (by decide)) ?_ | refine nc_tup (Nat.le_trans (show _ ≤ 45 by wtm_at "rdl") (by decide)) ?_))

section
variable {P : Program} {w : World} {K : PySem.W.Frag} {mg : Str → Option Value} {base : Heap}
/-! is_bracket -/
def sp_is_bracket : Sp := fun vs H Q _ => ∃ c : Nat, vs = [Tx [c]] ∧ Q (.bl (decide (c ∈ BRK))) H
theorem ok_is_bracket (T : Facts K mg) : C8.Cal P w K mg base 1 "is_bracket" sp_is_bracket [] := by
  refine calD T.f_is_bracket sc_is_bracket (fun vs H Q E h => ?_) (fun f cdv A outer s H vs Q E hr h => ?_)
  · obtain ⟨c, rfl, q⟩ := h; rfl
  · obtain ⟨c, rfl, q⟩ := h
    refine ⟨_, (pss_one (ps_ret (pe_or (pe_cmpR op_inT (pv 0) (C8.pe_gc rfl T.c_OPENING) (by rfl)) (pe_one (pe_cmpR op_inT (pv 0) (C8.pe_gc rfl T.c_CLOSING) (by rfl)))))), ?_⟩
    rw [st_is_bracket]
    wtm_at "unf"
    wtm_at "gx"
    refine g_test (fun h => ?_) (fun h => ?_)
    · rw [decide_eq_true (brk_or.mpr (.inl h))] at q
      exact q
    · wtm_at "gx"
      have e : decide (c ∈ BRK) = decide (c ∈ CLO) := decide_eq_decide.mpr ⟨fun hb => (brk_or.mp hb).resolve_left h, fun hc => brk_or.mpr (.inr hc)⟩
      rw [e] at q
      exact q
/-! turns -/
def sp_turns : Sp := fun vs H Q _ => ∃ c d : Nat, vs = [Tx [c], Tx [d]] ∧ c ∈ BRK ∧ d ∈ BRK ∧ Q (.int (tns c d)) H
theorem ok_turns (T : Facts K mg) : C8.Cal P w K mg base 2 "turns" sp_turns [] := by
  refine calD T.f_turns sc_turns (fun vs H Q E h => ?_) (fun f cdv A outer s H vs Q E hr h => ?_)
  · obtain ⟨c, d, rfl, hc, hd, q⟩ := h; rfl
  · obtain ⟨c, d, rfl, hc, hd, q⟩ := h
    refine ⟨_, (pss_cons (ps_set (i := 2) sc_turns.nd rfl (Or.inl rfl) (pe_op op_add (pe_callTy call_intB rfl T.b_int (by decide +kernel) (pa_cons (pe_cmpR op_inT (pv 0) (C8.pe_gc rfl T.c_CLOSING) (by rfl)) pa_nil)) (pe_callTy call_intB rfl T.b_int (by decide +kernel) (pa_cons (pe_cmpR op_inT (pv 1) (C8.pe_gc rfl T.c_OPENING) (by rfl)) pa_nil))))
       (pss_cons (ps_if (pt_cmpR op_eq (pv 2) pe_int (nomark _))
       (pss_one (ps_ret (pe_callTy call_intB rfl T.b_int (by decide +kernel) (pa_cons (pe_cmpR op_ne (pe_own (ok_kind_of T) hr (by omega) rfl (pa_cons (pv 0) pa_nil)) (pe_own (ok_kind_of T) hr (by omega) rfl (pa_cons (pv 1) pa_nil)) (nomark _)) pa_nil))))
       pss_nil)
       (pss_one (ps_ret (pv 2))))), ?_⟩
    rw [st_turns]
    unfold tns at q
    wtm_at "unf"
    wtm_at "gx"
    by_cases h1 : c ∈ CLO <;> by_cases h2 : d ∈ OPN <;> simp only [h1, h2, or_true, true_or, or_false, if_true, if_false, decide_true, decide_false, Bool.false_eq_true] at q ⊢
    · refine g_Fd (by simp) ?_
      wtm_at "gx"
      exact q
    · refine g_Fd (by simp) ?_
      wtm_at "gx"
      exact q
    · refine g_Fd (by simp) ?_
      wtm_at "gx"
      exact q
    · refine g_Td (by simp) ?_
      wtm_at "gx"
      refine ⟨c, rfl, hc, ?_⟩
      wtm_at "gx"
      refine ⟨d, rfl, hd, ?_⟩
      wtm_at "gx"
      by_cases h3 : knd c = knd d
      · rw [if_pos h3] at q
        rw [decide_eq_true (by rw [h3])]
        exact q
      · rw [if_neg h3] at q
        rw [decide_eq_false (fun hq => h3 (by have := V.int.inj hq; omega))]
        exact q
/-- the entries of the rows k: n k of them, by e -/
def rowV (e : Nat → Nat → Int) (k n : Nat) : List V := (List.range n).map fun t => V.int (e k (k + t))
theorem rowV_len (e : Nat → Nat → Int) (k n : Nat) : (rowV e k n).length = n := by unfold rowV; rw [List.length_map, List.length_range]
theorem rowV_at {e : Nat → Nat → Int} {k n t : Nat} (h : t < n) : (rowV e k n)[t]? = some (V.int (e k (k + t))) := by
  unfold rowV
  rw [List.getElem?_map, List.getElem?_range h]
  rfl
theorem rowV_snoc (e : Nat → Nat → Int) (k n : Nat) : rowV e k (n + 1) = rowV e k n ++ [V.int (e k (k + n))] := by
  unfold rowV
  rw [List.range_succ, List.map_append]
  rfl
end
end K19

set_option maxHeartbeats 4000000
namespace K19
open PySem PySem.Spec PyProof.Rows L2 SX Ly
local macro_rules | `(tactic| wtm_at "unf") => `(tactic| (try simp only [tMetX, tOwnX, tChain, tSeq, tNext, tBreak, tCont, tDrop, tRet, tRetN, tIfS, tAsg, tAug, tC, tOp, tUn, tNil, tCons, tOwn, tCB, tTest, tB, tAnd, tOr, tNot, tAndV, tOrV, tNotV, tIf, gName, gSub, tBM, tBM0, tM0, tM1, tSl, tPart_eq, tNoPart, tLst_eq, tTup_eq, tRevL_eq, tReplT, tRevS, tDGet_eq, sDPut_eq, tDNewT_eq, tMet, tMak, tFld_eq, sFld_eq, C8.tCut, wipe, tYes, gTup, gCons, gNil, List.set_cons_zero, List.set_cons_succ, if_true, if_false, Bool.false_eq_true, Bool.not_true, Bool.not_false, true_and, reduceIte, cx_K, tFor_eq, tLc_eq, iStr, iList, iTup, iRng1, iRng2, iRng3, iEnum, iZip, tLstRg, tRg1, gLst, RZ.iZipA, iEnumS, iZipS, tDNewK_eq, tDGet2, tDIn, tDNotIn, iKd]))
local macro_rules | `(tactic| wtm_at "unfA") => `(tactic| (try simp only [tMetX, tOwnX, tChain, tSeq, tNext, tBreak, tCont, tDrop, tRet, tRetN, tIfS, tAsg, tAug, tC, tOp, tUn, tNil, tCons, tOwn, tCB, tTest, tB, tAnd, tOr, tNot, tIf, gName, gSub, tBM, tBM0, tM0, tM1, tSl, tPart_eq, tNoPart, tLst_eq, tTup_eq, tRevL_eq, tReplT, tRevS, tDGet_eq, sDPut_eq, tDNewT_eq, tMet, tMak, tFld_eq, sFld_eq, C8.tCut, wipe, tYes, gTup, gCons, gNil, List.set_cons_zero, List.set_cons_succ, if_true, if_false, Bool.false_eq_true, Bool.not_true, Bool.not_false, true_and, reduceIte, cx_K, tFor_eq, tLc_eq, iStr, iList, iTup, iRng1, iRng2, iRng3, iEnum, iZip, tLstRg, tRg1, gLst, RZ.iZipA, iEnumS, iZipS, tDNewK_eq, tDGet2, tDIn, tDNotIn, iKd]))
local macro_rules | `(tactic| wtm_at "ne") => `(tactic| first | assumption | (apply Ne.symm; assumption) | (apply ne_new; (· assumption); (· wtm_at "lk")) | (apply Ne.symm; apply ne_new; (· assumption); (· wtm_at "lk")))
local macro_rules | `(tactic| wtm_at "lk") => `(tactic| first | assumption | exact upd_same | (apply Same.get; (· assumption); (· wtm_at "lk")) | (apply But.get; (· assumption); (· wtm_at "ne"); (· wtm_at "lk")))
local macro_rules | `(tactic| wtm_at "sq") => `(tactic| first | assumption | (apply sq_of; wtm_at "lk") | (apply Same.seq; (· assumption); (· wtm_at "sq")) | (apply But.sq; (· assumption); (· wtm_at "ne"); (· wtm_at "sq")))
local macro_rules | `(tactic| wtm_at "fr") => `(tactic| first | assumption | (apply Same.fr; (· assumption); (· wtm_at "sm")) | (apply But.fr; (· assumption); (· wtm_at "sm"); (· wtm_at "ne")))
local macro_rules | `(tactic| wtm_at "sm") => `(tactic| first | exact Same.refl _ | exact But.refl | assumption | (apply Same.tr; (· assumption); (· wtm_at "sm")) | (apply Same.b0; (· assumption); (· wtm_at "sm"); (· wtm_at "fr")) | (apply But.sa; (· assumption); (· wtm_at "sm")) | (apply But.tr; (· assumption); (· wtm_at "sm")) | (apply But.b0; (· assumption); (· wtm_at "sm"); (· wtm_at "fr")) | (apply Same.toBut; wtm_at "sm"))
local macro_rules | `(tactic| wtm_at "sc") => `(tactic| first | exact Int.zero_lt_one | (show (0 : Int) < _; omega) | (show (0 : Int) < _; decide) | exact ⟨by omega, by omega⟩ | exact .inl ⟨by omega, by omega⟩ | exact .inr ⟨by omega, by omega⟩)
local macro_rules | `(tactic| wtm_at "go1") => `(tactic| first | ((with_reducible apply g_var); (· exact rfl)) | with_reducible apply g_I0 | ((with_reducible apply g_I); (· wtm_at "sc")) | with_reducible apply g_U | with_reducible apply g_ipI | ((with_reducible apply g_addT); (· first | omega | (simp; done) | (simp; omega))) | with_reducible apply g_inT | with_reducible apply g_ninT | ((with_reducible apply g_lenT); (· omega)) | with_reducible apply g_findT1 | with_reducible apply g_str | with_reducible apply g_part | with_reducible apply g_intB | ((with_reducible apply g_ixL); (· wtm_at "sq"); (· exact rfl)) | ((with_reducible apply g_setL); (· wtm_at "lk"); (· exact rfl)) | ((with_reducible apply g_eq); (· rfl)) | ((with_reducible apply g_ne); (· rfl)))
local macro_rules | `(tactic| wtm_at "go") => `(tactic| repeat wtm_at "go1")
local macro_rules | `(tactic| wtm_at "lp") => `(tactic| skip)
local macro_rules | `(tactic| wtm_at "om") => `(tactic| first | omega | (simp; done) | (simp; omega) | (simp at *; omega))
local macro_rules | `(tactic| wtm_at "ty") => `(tactic| first | exact ty_str | exact ty_int | exact ty_bl | exact ty_non | (apply ty_lst; wtm_at "lk") | (apply ty_tup; wtm_at "lk"))
local macro_rules | `(tactic| wtm_at "kb") => `(tactic| first | exact kb_str_str | exact kb_str_int | exact kb_str_bool | exact kb_str_list | exact kb_str_tuple | exact kb_int_str | exact kb_int_int | exact kb_int_bool | exact kb_int_list | exact kb_int_tuple | exact kb_bool_str | exact kb_bool_int | exact kb_bool_bool | exact kb_bool_list | exact kb_bool_tuple | exact kb_list_str | exact kb_list_int | exact kb_list_bool | exact kb_list_list | exact kb_list_tuple | exact kb_tuple_str | exact kb_tuple_int | exact kb_tuple_bool | exact kb_tuple_list | exact kb_tuple_tuple | exact kb_NoneType_str | exact kb_NoneType_int | exact kb_NoneType_bool | exact kb_NoneType_list | exact kb_NoneType_tuple | exact kb_dict_str | exact kb_dict_int | exact kb_dict_bool | exact kb_dict_list | exact kb_dict_tuple)
local macro_rules | `(tactic| wtm_at "gx1") => `(tactic| first | ((with_reducible apply g_eqS); (· exact rfl)) | ((with_reducible apply g_neS); (· exact rfl)) | wtm_at "go1" | with_reducible apply g_min2 | with_reducible apply g_max2 | with_reducible apply g_T | with_reducible apply g_F | with_reducible apply g_NT | with_reducible apply g_NF | with_reducible apply g_nT | with_reducible apply g_nF | with_reducible apply g_RT | with_reducible apply g_RF | ((with_reducible apply g_isi); (· wtm_at "ty"); (· wtm_at "kb")) | ((with_reducible apply g_ixAU3); (· wtm_at "lk"); (· exact rfl)) | ((with_reducible apply g_ixAL3); (· wtm_at "lk"); (· exact rfl)) | ((with_reducible apply g_ixU3); (· wtm_at "lk"); (· exact rfl)) | ((with_reducible apply g_lenL3); (· wtm_at "lk")) | ((with_reducible apply g_lenU3); (· wtm_at "lk")) | ((with_reducible apply g_tyL3); (· wtm_at "lk")) | ((with_reducible apply g_lenT); (· wtm_at "pv")) | wtm_at "tr" | with_reducible apply g_ET | with_reducible apply g_EF | with_reducible apply g_EnT | with_reducible apply g_EnF)
local macro_rules | `(tactic| wtm_at "pv") => `(tactic| first | exact rfl | assumption | omega | (simp; done) | (simp; omega))
local macro_rules | `(tactic| wtm_at "tr") => `(tactic| first | ((with_reducible apply g_Td); (· wtm_at "pv")) | ((with_reducible apply g_Fd); (· wtm_at "pv")) | ((with_reducible apply g_NTd); (· wtm_at "pv")) | ((with_reducible apply g_NFd); (· wtm_at "pv")) | ((with_reducible apply g_nTd); (· wtm_at "pv")) | ((with_reducible apply g_nFd); (· wtm_at "pv")) | ((with_reducible apply g_RTd); (· wtm_at "pv")) | ((with_reducible apply g_RFd); (· wtm_at "pv")))
local macro_rules | `(tactic| wtm_at "gx") => `(tactic| repeat wtm_at "gx1")
local macro_rules | `(tactic| wtm_at "unfS") => `(tactic| (try simp only [tSeq, tNext, tAsg, tFor_eq, C8.tCut, wipe, gName, tDrop, List.set_cons_zero, List.set_cons_succ, cx_K]))
local macro_rules | `(tactic| wtm_at "rd1") => `(tactic| first | exact rd_int | exact rd_str | exact rd_bl | exact rd_non | exact rda_nil | apply rda_cons | (with_reducible apply rd_tup; (· assumption)) | (with_reducible apply rd_lst; (· assumption)) | exact rd_dic (by assumption) | exact rd_var rfl (.int _) | exact rd_var rfl (.str _) | exact rd_var rfl (.bl _) | exact rd_var rfl (by assumption) | (with_reducible apply rd_cat; (· assumption)) | (with_reducible apply rd_rep2; (· assumption)) | (with_reducible apply rd_rev; (· assumption)) | (with_reducible apply rd_to; (· assumption)) | (with_reducible apply rd_from; (· assumption)) | (with_reducible apply rd_tupOf; (· assumption)) | (with_reducible apply rd_lstOf; (· assumption)) | with_reducible apply rd_lenL | with_reducible apply rd_lenT | with_reducible apply rd_I0 | with_reducible apply rd_I | with_reducible apply rd_U | with_reducible apply rd_eqI | with_reducible apply rd_ixL | with_reducible apply rd_ixT | exact atI_hd _ _ | exact ‹atI _ _ = some _›)
local macro_rules | `(tactic| wtm_at "rdl") => `(tactic| first | decide | omega | wtm_at "sc" | (simp only [List.length_append, List.length_cons, List.length_nil, List.length_map, List.length_take, List.length_drop, List.length_reverse, cutTo]; omega))
local macro_rules | `(tactic| wtm_at "rd") => `(tactic| ((repeat' wtm_at "rd1"); (all_goals wtm_at "rdl")))
local macro_rules | `(tactic| wtm_at "nc") => `(tactic| repeat' (first | assumption | exact nca_nil | exact nc_non | exact nc_bl | exact nc_dic | exact nc_tup0 | exact nc_lst0 | (refine nc_strS (by decide) (by decide)) | (refine nc_int (by omega)) | (refine nc_big (by decide +kernel)) | refine nca_app ?_ ?_ | refine nca_cons ?_ ?_ | refine nca_take ?_ | refine nca_drop ?_ | refine nca_cutTo ?_ | refine nca_rev ?_ | refine nc_tup (by decide) ?_ | refine nc_lst (by decide) ?_ | refine nc_lst (Nat.le_trans (show _ ≤ 45 by wtm_at "rdl") (by decide)) ?_ | refine nc_tup (Nat.le_trans (show _ ≤ 45 by wtm_at "rdl") (by decide)) ?_))

section
variable {P : Program} {w : World} {K : PySem.W.Frag} {mg : Str → Option Value} {base : Heap}
theorem law_tns : ∀ c ∈ BRK, ∀ d ∈ BRK, (tns c d = (if c = 40 then 0 else 1) + (if d = 41 then 0 else 1) ∨ tns c d = (if c = 60 then 0 else 1) + (if d = 62 then 0 else 1) ∨ tns c d = (if c = 91 then 0 else 1) + (if d = 93 then 0 else 1) ∨ tns c d = (if c = 123 then 0 else 1) + (if d = 125 then 0 else 1)) ∧ tns c d ≤ (if c = 40 then 0 else 1) + (if d = 41 then 0 else 1) ∧ tns c d ≤ (if c = 60 then 0 else 1) + (if d = 62 then 0 else 1) ∧ tns c d ≤ (if c = 91 then 0 else 1) + (if d = 93 then 0 else 1) ∧ tns c d ≤ (if c = 123 then 0 else 1) + (if d = 125 then 0 else 1) := by decide +kernel
def nq (c o : Nat) : Int := if c = o then 0 else 1
theorem nq_nat (c o : Nat) : nq c o = ((if c = o then 0 else 1 : Nat) : Int) := by unfold nq; split <;> rfl
def prs : List (Nat × Nat) := [(40, 41), (60, 62), (91, 93), (123, 125)]
/-! _law_turns -/
def sp_law_turns : Sp := fun vs H Q _ => ∃ c d : Nat, vs = [Tx [c], Tx [d]] ∧ c ∈ BRK ∧ d ∈ BRK ∧ ∀ H', Same H H' → Q (.int (tns c d)) H'
theorem ok_law_turns (T : Facts K mg) : C8.Cal P w K mg base 1 "_law_turns" sp_law_turns [] := by
  refine calD T.f_law_turns sc_law_turns (fun vs H Q E h => ?_) (fun f cdv A outer s H vs Q E hr h => ?_)
  · obtain ⟨c, d, rfl, hc, hd, q⟩ := h; rfl
  · obtain ⟨c, d, rfl, hc, hd, q⟩ := h
    refine ⟨_, (pss_one (ps_ret (pe_callB (cr_min rfl) rfl T.b_min (by decide +kernel) (pa_cons (pe_lc (own := [("pair", 2)]) (by rfl) sc_law_turns.nd (pi_list (pe_lst (pa_cons (pe_strS (l := [40, 41]) (by decide +kernel)) (pa_cons (pe_strS (l := [60, 62]) (by decide +kernel)) (pa_cons (pe_strS (l := [91, 93]) (by decide +kernel)) (pa_cons (pe_strS (l := [123, 125]) (by decide +kernel)) pa_nil)))))) (blkOk_by (own := [("pair", 2)]) (N := N_law_turns) (sc := defScope s_law_turns) (by decide +kernel)) (fun _ _ _ _ _ => (pg_name (i := 2) sc_law_turns.nd rfl (Or.inl rfl))) (fun _ _ _ _ _ => pts_nil) (fun _ _ _ _ _ => (pe_op op_add (pe_callTy call_intB rfl T.b_int (by decide +kernel) (pa_cons (pe_cmpR op_ne (pv 0) (pe_ix ix_txt (pv 2) pe_int (fun _ _ => rfl)) (nomark _)) pa_nil)) (pe_callTy call_intB rfl T.b_int (by decide +kernel) (pa_cons (pe_cmpR op_ne (pv 1) (pe_ix ix_txt (pv 2) pe_int (fun _ _ => rfl)) (nomark _)) pa_nil))))) pa_nil)))), ?_⟩
    rw [st_law_turns]
    wtm_at "unf"
    wtm_at "gx"
    refine g_lst (by show 4 ≤ 100000; decide) fun pa H1 npa s1 epa => ?_
    refine ⟨_, rfl, ⟨_, sq_of epa⟩, lc_lst (prs.map fun o => Tx [o.1, o.2]) fun r H2 nr s2 er => ⟨fun pre H' => ∃ os : List (Nat × Nat), pre = os.map (fun o => Tx [o.1, o.2]) ∧ H' r = some (.lst ((os.map fun o => nq c o.1 + nq d o.2).map V.int)) ∧ Same H1 H', ⟨[], rfl, er, s2⟩, fun pre post H' e hv => ?_, fun pre x post H' e hv => ?_, fun H' hv => ?_⟩⟩
    · obtain ⟨os, e1, e2, sH⟩ := hv
      exact sq_of (sH _ _ epa)
    · obtain ⟨os, e1, e2, sH⟩ := hv
      have hx : x ∈ prs.map fun o => Tx [o.1, o.2] := by rw [e]; simp
      obtain ⟨o, ho, rfl⟩ := List.mem_map.mp hx
      have hol : os.length ≤ 4 := by
        have := congrArg List.length e
        rw [e1] at this
        simp [prs] at this
        omega
      wtm_at "unf"
      refine ⟨rfl, ?_⟩
      wtm_at "gx"
      refine g_ixT (c := o.1) (by simp) rfl ?_
      wtm_at "gx"
      refine g_ixT (c := o.2) (by simp) rfl ?_
      wtm_at "gx"
      refine lc_put e2 (by simp; omega) fun H5 b5 e5 => ?_
      refine ⟨os ++ [o], by rw [e1]; simp, ?_, Same.b0 b5 sH nr⟩
      have k1 : (if (!decide (Tx [c] = Tx [o.1])) = true then 1 else 0 : Int) = nq c o.1 := by
        unfold nq
        by_cases h : c = o.1
        · rw [if_pos h, decide_eq_true (by rw [h])]; rfl
        · rw [if_neg h, decide_eq_false (fun hq => h (by have := Tx_inj.mp hq; simpa using this))]; rfl
      have k2 : (if (!decide (Tx [d] = Tx [o.2])) = true then 1 else 0 : Int) = nq d o.2 := by
        unfold nq
        by_cases h : d = o.2
        · rw [if_pos h, decide_eq_true (by rw [h])]; rfl
        · rw [if_neg h, decide_eq_false (fun hq => h (by have := Tx_inj.mp hq; simpa using this))]; rfl
      rw [e5, k1, k2]
      simp
    · obtain ⟨os, e1, e2, sH⟩ := hv
      have hos : os = prs := by
        have hinj : ∀ a b : Nat × Nat, Tx [a.1, a.2] = Tx [b.1, b.2] → a = b := fun a b h => by
          have := Tx_inj.mp h
          injection this with h1 h2
          injection h2 with h2 _
          exact Prod.ext h1 h2
        exact ((List.map_inj_right (f := fun o : Nat × Nat => Tx [o.1, o.2]) hinj).mp e1).symm
      subst hos
      obtain ⟨l1, l2, l3, l4, l5⟩ := law_tns c hc d hd
      refine g_minL (sq_of e2) (by simp [prs]) fun m h1 h2 => ?_
      have hm : m = (tns c d : Int) := by
        refine Int.le_antisymm ?_ ?_
        · rcases l1 with h | h | h | h
          · refine Int.le_trans (h2 (nq c 40 + nq d 41) (by simp [prs])) (by rw [nq_nat, nq_nat, h]; omega)
          · refine Int.le_trans (h2 (nq c 60 + nq d 62) (by simp [prs])) (by rw [nq_nat, nq_nat, h]; omega)
          · refine Int.le_trans (h2 (nq c 91 + nq d 93) (by simp [prs])) (by rw [nq_nat, nq_nat, h]; omega)
          · refine Int.le_trans (h2 (nq c 123 + nq d 125) (by simp [prs])) (by rw [nq_nat, nq_nat, h]; omega)
        · simp only [prs, List.map_cons, List.map_nil, List.mem_cons, List.not_mem_nil, or_false, nq_nat] at h1
          omega
      subst hm
      exact q _ (s1.trans sH)
/-! _law_best -/
def sp_law_best : Sp := fun vs H Q _ => ∃ l : List Nat, vs = [Tx l] ∧ l.length ≤ 200 ∧ ∀ (p : Addr) (f : Int → Int → Option V) (n : Nat) (H' : Hp), H p = none → Same H H' → DTab H' p f n → n ≤ 50000 → (∀ i j : Nat, i ≤ j → j ≤ l.length → f i j = some (.int (lstN l i j))) → Q (.ref p) H'
theorem ok_law_best (T : Facts K mg) : C8.Cal P w K mg base 2 "_law_best" sp_law_best [] := by
  refine calD T.f_law_best sc_law_best (fun vs H Q E h => ?_) (fun f cdv A outer s H vs Q E hr h => ?_)
  · obtain ⟨l, rfl, hl, q⟩ := h; rfl
  · obtain ⟨l, rfl, hl, q⟩ := h
    refine ⟨_, (pss_cons (ps_set (i := 1) sc_law_best.nd rfl (Or.inl rfl) pe_dnewT)
       (pss_cons (ps_for PassesOwn.never rfl (pi_range3 rfl T.b_range (pa_cons (pe_callB call_lenT rfl T.b_len PySem.boot_len (pa_cons (pv 0) pa_nil)) (pa_cons (pe_un un_neg pe_int) (pa_cons (pe_un un_neg pe_int) pa_nil)))) (pg_name (i := 2) sc_law_best.nd rfl (Or.inl rfl))
       (pss_cons (ps_dput (hu_of hr) (pv 1) (pe_tup (pa_cons (pv 2) (pa_cons (pv 2) pa_nil))) pe_int rfl)
       (pss_one (ps_for PassesOwn.never rfl (pi_range2 rfl T.b_range (pa_cons (pe_op op_add (pv 2) pe_int) (pa_cons (pe_op op_add (pe_callB call_lenT rfl T.b_len PySem.boot_len (pa_cons (pv 0) pa_nil)) pe_int) pa_nil))) (pg_name (i := 3) sc_law_best.nd rfl (Or.inl rfl))
       (pss_cons (ps_set (i := 4) sc_law_best.nd rfl (Or.inl rfl) (pe_ix ix_txt (pv 0) (pe_op op_sub (pv 3) pe_int) (fun _ _ => rfl)))
       (pss_cons (ps_set (i := 5) sc_law_best.nd rfl (Or.inl rfl) (pe_op op_add (pe_dget (hu_of hr) (pv 1) (pe_tup (pa_cons (pv 2) (pa_cons (pe_op op_sub (pv 3) pe_int) pa_nil))) (fun _ _ => rfl)) (pe_callTy call_intB rfl T.b_int (by decide +kernel) (pa_cons (pe_cmpR op_inT (pv 4) (pe_strS (l := BRK) (by decide +kernel)) (by rfl)) pa_nil))))
       (C8.pss_cut (ps_if (pt_cmpR op_inT (pv 4) (pe_strS (l := BRK) (by decide +kernel)) (by rfl))
       (pss_one (ps_for PassesOwn.never rfl (pi_range2 rfl T.b_range (pa_cons (pv 2) (pa_cons (pe_op op_sub (pv 3) pe_int) pa_nil))) (pg_name (i := 6) sc_law_best.nd rfl (Or.inl rfl))
       (pss_one (ps_if (pt_cmpR op_inT (pe_ix ix_txt (pv 0) (pv 6) (fun _ _ => rfl)) (pe_strS (l := BRK) (by decide +kernel)) (by rfl))
       (pss_one (ps_set (i := 5) sc_law_best.nd rfl (Or.inl rfl) (pe_callB (call_min2' rfl) rfl T.b_min (by decide +kernel) (pa_cons (pv 5) (pa_cons (pe_op op_add (pe_op op_add (pe_dget (hu_of hr) (pv 1) (pe_tup (pa_cons (pv 2) (pa_cons (pv 6) pa_nil))) (fun _ _ => rfl)) (pe_dget (hu_of hr) (pv 1) (pe_tup (pa_cons (pe_op op_add (pv 6) pe_int) (pa_cons (pe_op op_sub (pv 3) pe_int) pa_nil))) (fun _ _ => rfl))) (pe_own (ok_law_turns T) hr (by omega) rfl (pa_cons (pe_ix ix_txt (pv 0) (pv 6) (fun _ _ => rfl)) (pa_cons (pv 4) pa_nil)))) pa_nil)))))
       pss_nil))))
       pss_nil)
       (pss_one (ps_dput (hu_of hr) (pv 1) (pe_tup (pa_cons (pv 2) (pa_cons (pv 3) pa_nil))) (pv 5) rfl)))))))))
       (pss_one (ps_ret (pv 1))))), ?_⟩
    rw [st_law_best]
    have hB : (l.length + 1) * (l.length + 1) ≤ 201 * 201 := Nat.mul_le_mul (by omega) (by omega)
    wtm_at "unf"
    wtm_at "gx"
    refine g_dnewT fun p H1 np s1 hp => ?_
    wtm_at "gx"
    refine ⟨_, _, _, l.length + 1, rfl, ?_, ?_⟩
    · have := rgc_dn (n := l.length + 1) (by omega)
      rw [show (((l.length + 1 : Nat) : Int) - 1) = (l.length : Int) by omega] at this
      exact this
    have fdn := @for_dn [some (Tx l), some (V.ref p), none, none, none, none, none] H1 (gName 2)
    rw [show (l.length : Int) = (((l.length + 1 : Nat) : Int) - 1) by omega]
    refine for_dn (fun k σ H' => ∃ (f : Int → Int → Option V) (y2 y3 y4 y5 y6 : Option V), σ = [some (Tx l), some (V.ref p), y2, y3, y4, y5, y6] ∧ Same H H' ∧ DTab H' p f ((l.length + 1 - k) * (l.length + 1)) ∧ ∀ i j : Nat, k ≤ i → i ≤ j → j ≤ l.length → f i j = some (.int (lstN l i j))) ⟨_, _, _, _, _, _, rfl, s1, by rw [Nat.sub_self, Nat.zero_mul]; exact hp, fun i j h1 h2 h3 => by omega⟩ (fun k σ H' hk hv => ?_) (fun σ H' hv => ?_)
    · obtain ⟨f, y2, y3, y4, y5, y6, rfl, sH, hD, hf⟩ := hv
      have hcnt : (l.length + 1 - (k + 1)) * (l.length + 1) + (l.length + 1) = (l.length + 1 - k) * (l.length + 1) := by
        rw [← Nat.succ_mul]
        congr 1
        omega
      have hcb : (l.length + 1 - k) * (l.length + 1) ≤ (l.length + 1) * (l.length + 1) := Nat.mul_le_mul (by omega) (Nat.le_refl _)
      generalize hN0 : (l.length + 1 - (k + 1)) * (l.length + 1) = N0 at hD hcnt
      wtm_at "unf"
      wtm_at "gx"
      refine g_tup (by show 2 ≤ 100000; decide) fun t H2 nt s2 et => ?_
      refine g_dputT (hD.same s2) et (by omega) fun H3 b3 hD3 => ?_
      have sH3 : Same H H3 := Same.b0 b3 (sH.trans s2) np
      wtm_at "unf"
      wtm_at "gx"
      refine ⟨_, _, rfl, ⟨by omega, by omega, by omega, by omega⟩, for_rng (fun t σ H' => ∃ (f : Int → Int → Option V) (y3 y4 y5 y6 : Option V), σ = [some (Tx l), some (V.ref p), some (V.int k), y3, y4, y5, y6] ∧ Same H H' ∧ DTab H' p f (N0 + 1 + t) ∧ (∀ i j : Nat, k + 1 ≤ i → i ≤ j → j ≤ l.length → f i j = some (.int (lstN l i j))) ∧ ∀ j : Nat, k ≤ j → j ≤ k + t → f k j = some (.int (lstN l k j))) ⟨_, _, _, _, _, rfl, sH3, hD3, fun i j h1 h2 h3 => ?_, fun j h1 h2 => ?_⟩ (fun t σ H' ht hv => ?_) (fun σ H' hv => ?_)⟩
      · rw [if_neg (by omega)]
        exact hf i j h1 h2 h3
      · have : j = k := by omega
        subst this
        rw [if_pos ⟨rfl, rfl⟩, lstN_self (l := l) (by omega)]
        rfl
      · obtain ⟨f, y3, y4, y5, y6, rfl, sH, hD, hf1, hf2⟩ := hv
        have ht2 : k + t < l.length := by omega
        have ec : l[k + t]? = some l[k + t] := List.getElem?_eq_getElem ht2
        generalize l[k + t] = c at ec
        wtm_at "unf"
        wtm_at "gx"
        refine g_ixTn (k + t) (by omega) (by omega) ec ?_
        wtm_at "gx"
        refine g_tup (by show 2 ≤ 100000; decide) fun t2 H4 nt2 s4 et2 => ?_
        refine g_dgetT (i := k) (j := ((k + t : Nat) : Int)) (hD.same s4) (by rw [et2, show (k : Int) + 1 + (t : Int) - 1 = ((k + t : Nat) : Int) by omega]) (hf2 (k + t) (by omega) (by omega)) ?_
        wtm_at "gx"
        refine ⟨fun σ' H5 => ∃ y6, σ' = [some (Tx l), some (V.ref p), some (V.int k), some (V.int ((k : Int) + 1 + (t : Int))), some (Tx [c]), some (V.int (lstN l k (k + t + 1) : Nat)), y6] ∧ Same H4 H5, ?_, ?_⟩
        · wtm_at "gx"
          refine g_test (fun hb => ?_) (fun hb => ?_)
          · rw [decide_eq_true hb]
            wtm_at "gx"
            refine ⟨_, _, rfl, ⟨by omega, by omega, by omega, by omega⟩, for_rng (fun u σ H5 => ∃ (n : Nat) (y6 : Option V), σ = [some (Tx l), some (V.ref p), some (V.int k), some (V.int ((k : Int) + 1 + (t : Int))), some (Tx [c]), some (V.int n), y6] ∧ Same H4 H5 ∧ LwB l k (k + t) c u n) ⟨lstN l k (k + t) + 1, _, rfl, Same.refl _, LwB.start (by omega) ht2 ec hb⟩ (fun u σ H5 hu hv => ?_) (fun σ H5 hv => ?_)⟩
            · obtain ⟨n, y6, rfl, s5, hlw⟩ := hv
              have hu2 : u < t := by omega
              have em : l[k + u]? = some l[k + u] := List.getElem?_eq_getElem (by omega)
              generalize l[k + u] = d at em
              wtm_at "unf"
              wtm_at "gx"
              refine g_ixTn (k + u) (by omega) (by omega) em ?_
              wtm_at "gx"
              refine g_test (fun hd => ?_) (fun hd => ?_)
              · wtm_at "gx"
                refine g_tup (by show 2 ≤ 100000; decide) fun t3 H6 nt3 s6 et3 => ?_
                refine g_dgetT (i := k) (j := ((k + u : Nat) : Int)) (hD.same (s4.trans (s5.trans s6))) (by rw [et3, show (k : Int) + (u : Int) = ((k + u : Nat) : Int) by omega]) (hf2 (k + u) (by omega) (by omega)) ?_
                wtm_at "gx"
                refine g_tup (by show 2 ≤ 100000; decide) fun t4 H7 nt4 s7 et4 => ?_
                refine g_dgetT (i := ((k + u + 1 : Nat) : Int)) (j := ((k + t : Nat) : Int)) (hD.same (s4.trans (s5.trans (s6.trans s7)))) (by rw [et4, show (k : Int) + (u : Int) + 1 = ((k + u + 1 : Nat) : Int) by omega, show (k : Int) + 1 + (t : Int) - 1 = ((k + t : Nat) : Int) by omega]) (hf1 (k + u + 1) (k + t) (by omega) (by omega) (by omega)) ?_
                wtm_at "gx"
                refine g_ixTn (k + u) (by omega) (by omega) em ?_
                wtm_at "gx"
                refine ⟨d, c, rfl, hd, hb, fun H8 s8 => ?_⟩
                wtm_at "gx"
                refine ⟨_, some (V.int ((k : Int) + (u : Int))), ?_, s5.trans (s6.trans (s7.trans s8)), hlw.step ht2 ec hb (by omega) em hd⟩
                rw [show min (n : Int) ((lstN l k (k + u) : Int) + (lstN l (k + u + 1) (k + t) : Int) + (tns d c : Int)) = ((min n (lstN l k (k + u) + lstN l (k + u + 1) (k + t) + tns d c) : Nat) : Int) by omega]
              · wtm_at "unf"
                exact ⟨n, _, rfl, s5, hlw.skip em hd⟩
            · obtain ⟨n, y6, rfl, s5, hlw⟩ := hv
              have hfin := LwB.fin (l := l) (i := k) (j := k + t) (by omega) ht2 ec hb (by rw [show (k + t) - k = ((k : Int) + 1 + (t : Int) - 1 - (k : Int)).toNat by omega]; exact hlw)
              exact ⟨_, by rw [hfin], s5⟩
          · rw [decide_eq_false hb]
            wtm_at "unf"
            refine ⟨y6, ?_, Same.refl _⟩
            rw [lst_lastL (by omega) ht2 ec hb]
            simp
        · rintro σ' H5 ⟨y6, rfl, s5⟩
          wtm_at "unf"
          wtm_at "gx"
          refine g_tup (by show 2 ≤ 100000; decide) fun t3 H6 nt3 s6 et3 => ?_
          refine g_dputT (hD.same (s4.trans (s5.trans s6))) et3 (by omega) fun H7 b7 hD7 => ?_
          refine ⟨_, _, _, _, _, rfl, Same.b0 b7 (sH.trans (s4.trans (s5.trans s6))) np, hD7, fun i j h1 h2 h3 => ?_, fun j h1 h2 => ?_⟩
          · rw [if_neg (by omega)]
            exact hf1 i j h1 h2 h3
          · by_cases e : j = k + t + 1
            · subst e
              rw [if_pos ⟨rfl, by omega⟩]
            · rw [if_neg (by omega)]
              exact hf2 j h1 (by omega)
      · obtain ⟨f, y3, y4, y5, y6, rfl, sH, hD, hf1, hf2⟩ := hv
        refine ⟨f, _, _, _, _, _, rfl, sH, ?_, fun i j h1 h2 h3 => ?_⟩
        · obtain ⟨kvs, h1, h2, h3⟩ := hD
          exact ⟨kvs, h1, by omega, h3⟩
        · by_cases e : i = k
          · subst e
            exact hf2 j h2 (by omega)
          · exact hf1 i j (by omega) h2 h3
    · obtain ⟨f, y2, y3, y4, y5, y6, rfl, sH, hD, hf⟩ := hv
      wtm_at "unf"
      wtm_at "gx"
      exact q p f _ H' np sH hD (by rw [Nat.sub_zero]; omega) (fun i j h1 h2 => hf i j (Nat.zero_le _) h1 h2)
end
end K19

set_option maxHeartbeats 4000000
namespace K19
open PySem PySem.Spec PyProof.Rows L2 SX Ly
local macro_rules | `(tactic| wtm_at "unf") => `(tactic| (try simp only [tMetX, tOwnX, tChain, tSeq, tNext, tBreak, tCont, tDrop, tRet, tRetN, tIfS, tAsg, tAug, tC, tOp, tUn, tNil, tCons, tOwn, tCB, tTest, tB, tAnd, tOr, tNot, tAndV, tOrV, tNotV, tIf, gName, gSub, tBM, tBM0, tM0, tM1, tSl, tPart_eq, tNoPart, tLst_eq, tTup_eq, tRevL_eq, tReplT, tRevS, tDGet_eq, sDPut_eq, tDNewT_eq, tMet, tMak, tFld_eq, sFld_eq, C8.tCut, wipe, tYes, gTup, gCons, gNil, List.set_cons_zero, List.set_cons_succ, if_true, if_false, Bool.false_eq_true, Bool.not_true, Bool.not_false, true_and, reduceIte, cx_K, tFor_eq, tLc_eq, iStr, iList, iTup, iRng1, iRng2, iRng3, iEnum, iZip, tLstRg, tRg1, gLst, RZ.iZipA, iEnumS, iZipS, tDNewK_eq, tDGet2, tDIn, tDNotIn, iKd]))
local macro_rules | `(tactic| wtm_at "unfA") => `(tactic| (try simp only [tMetX, tOwnX, tChain, tSeq, tNext, tBreak, tCont, tDrop, tRet, tRetN, tIfS, tAsg, tAug, tC, tOp, tUn, tNil, tCons, tOwn, tCB, tTest, tB, tAnd, tOr, tNot, tIf, gName, gSub, tBM, tBM0, tM0, tM1, tSl, tPart_eq, tNoPart, tLst_eq, tTup_eq, tRevL_eq, tReplT, tRevS, tDGet_eq, sDPut_eq, tDNewT_eq, tMet, tMak, tFld_eq, sFld_eq, C8.tCut, wipe, tYes, gTup, gCons, gNil, List.set_cons_zero, List.set_cons_succ, if_true, if_false, Bool.false_eq_true, Bool.not_true, Bool.not_false, true_and, reduceIte, cx_K, tFor_eq, tLc_eq, iStr, iList, iTup, iRng1, iRng2, iRng3, iEnum, iZip, tLstRg, tRg1, gLst, RZ.iZipA, iEnumS, iZipS, tDNewK_eq, tDGet2, tDIn, tDNotIn, iKd]))
local macro_rules | `(tactic| wtm_at "ne") => `(tactic| first | assumption | (apply Ne.symm; assumption) | (apply ne_new; (· assumption); (· wtm_at "lk")) | (apply Ne.symm; apply ne_new; (· assumption); (· wtm_at "lk")))
local macro_rules | `(tactic| wtm_at "lk") => `(tactic| first | assumption | exact upd_same | (apply Same.get; (· assumption); (· wtm_at "lk")) | (apply But.get; (· assumption); (· wtm_at "ne"); (· wtm_at "lk")))
local macro_rules | `(tactic| wtm_at "sq") => `(tactic| first | assumption | (apply sq_of; wtm_at "lk") | (apply Same.seq; (· assumption); (· wtm_at "sq")) | (apply But.sq; (· assumption); (· wtm_at "ne"); (· wtm_at "sq")))
local macro_rules | `(tactic| wtm_at "fr") => `(tactic| first | assumption | (apply Same.fr; (· assumption); (· wtm_at "sm")) | (apply But.fr; (· assumption); (· wtm_at "sm"); (· wtm_at "ne")))
local macro_rules | `(tactic| wtm_at "sm") => `(tactic| first | exact Same.refl _ | exact But.refl | assumption | (apply Same.tr; (· assumption); (· wtm_at "sm")) | (apply Same.b0; (· assumption); (· wtm_at "sm"); (· wtm_at "fr")) | (apply But.sa; (· assumption); (· wtm_at "sm")) | (apply But.tr; (· assumption); (· wtm_at "sm")) | (apply But.b0; (· assumption); (· wtm_at "sm"); (· wtm_at "fr")) | (apply Same.toBut; wtm_at "sm"))
local macro_rules | `(tactic| wtm_at "sc") => `(tactic| first | exact Int.zero_lt_one | (show (0 : Int) < _; omega) | (show (0 : Int) < _; decide) | exact ⟨by omega, by omega⟩ | exact .inl ⟨by omega, by omega⟩ | exact .inr ⟨by omega, by omega⟩)
local macro_rules | `(tactic| wtm_at "go1") => `(tactic| first | ((with_reducible apply g_var); (· exact rfl)) | with_reducible apply g_I0 | ((with_reducible apply g_I); (· wtm_at "sc")) | with_reducible apply g_U | with_reducible apply g_ipI | ((with_reducible apply g_addT); (· first | omega | (simp; done) | (simp; omega))) | with_reducible apply g_inT | with_reducible apply g_ninT | ((with_reducible apply g_lenT); (· omega)) | with_reducible apply g_findT1 | with_reducible apply g_str | with_reducible apply g_part | with_reducible apply g_intB | ((with_reducible apply g_ixL); (· wtm_at "sq"); (· exact rfl)) | ((with_reducible apply g_setL); (· wtm_at "lk"); (· exact rfl)) | ((with_reducible apply g_eq); (· rfl)) | ((with_reducible apply g_ne); (· rfl)))
local macro_rules | `(tactic| wtm_at "go") => `(tactic| repeat wtm_at "go1")
local macro_rules | `(tactic| wtm_at "lp") => `(tactic| skip)
local macro_rules | `(tactic| wtm_at "om") => `(tactic| first | omega | (simp; done) | (simp; omega) | (simp at *; omega))
local macro_rules | `(tactic| wtm_at "ty") => `(tactic| first | exact ty_str | exact ty_int | exact ty_bl | exact ty_non | (apply ty_lst; wtm_at "lk") | (apply ty_tup; wtm_at "lk"))
local macro_rules | `(tactic| wtm_at "kb") => `(tactic| first | exact kb_str_str | exact kb_str_int | exact kb_str_bool | exact kb_str_list | exact kb_str_tuple | exact kb_int_str | exact kb_int_int | exact kb_int_bool | exact kb_int_list | exact kb_int_tuple | exact kb_bool_str | exact kb_bool_int | exact kb_bool_bool | exact kb_bool_list | exact kb_bool_tuple | exact kb_list_str | exact kb_list_int | exact kb_list_bool | exact kb_list_list | exact kb_list_tuple | exact kb_tuple_str | exact kb_tuple_int | exact kb_tuple_bool | exact kb_tuple_list | exact kb_tuple_tuple | exact kb_NoneType_str | exact kb_NoneType_int | exact kb_NoneType_bool | exact kb_NoneType_list | exact kb_NoneType_tuple | exact kb_dict_str | exact kb_dict_int | exact kb_dict_bool | exact kb_dict_list | exact kb_dict_tuple)
local macro_rules | `(tactic| wtm_at "gx1") => `(tactic| first | ((with_reducible apply g_eqS); (· exact rfl)) | ((with_reducible apply g_neS); (· exact rfl)) | wtm_at "go1" | with_reducible apply g_min2 | with_reducible apply g_max2 | with_reducible apply g_T | with_reducible apply g_F | with_reducible apply g_NT | with_reducible apply g_NF | with_reducible apply g_nT | with_reducible apply g_nF | with_reducible apply g_RT | with_reducible apply g_RF | ((with_reducible apply g_isi); (· wtm_at "ty"); (· wtm_at "kb")) | ((with_reducible apply g_ixAU3); (· wtm_at "lk"); (· exact rfl)) | ((with_reducible apply g_ixAL3); (· wtm_at "lk"); (· exact rfl)) | ((with_reducible apply g_ixU3); (· wtm_at "lk"); (· exact rfl)) | ((with_reducible apply g_lenL3); (· wtm_at "lk")) | ((with_reducible apply g_lenU3); (· wtm_at "lk")) | ((with_reducible apply g_tyL3); (· wtm_at "lk")) | ((with_reducible apply g_lenT); (· wtm_at "pv")) | wtm_at "tr" | with_reducible apply g_ET | with_reducible apply g_EF | with_reducible apply g_EnT | with_reducible apply g_EnF)
local macro_rules | `(tactic| wtm_at "pv") => `(tactic| first | exact rfl | assumption | omega | (simp; done) | (simp; omega))
local macro_rules | `(tactic| wtm_at "tr") => `(tactic| first | ((with_reducible apply g_Td); (· wtm_at "pv")) | ((with_reducible apply g_Fd); (· wtm_at "pv")) | ((with_reducible apply g_NTd); (· wtm_at "pv")) | ((with_reducible apply g_NFd); (· wtm_at "pv")) | ((with_reducible apply g_nTd); (· wtm_at "pv")) | ((with_reducible apply g_nFd); (· wtm_at "pv")) | ((with_reducible apply g_RTd); (· wtm_at "pv")) | ((with_reducible apply g_RFd); (· wtm_at "pv")))
local macro_rules | `(tactic| wtm_at "gx") => `(tactic| repeat wtm_at "gx1")
local macro_rules | `(tactic| wtm_at "unfS") => `(tactic| (try simp only [tSeq, tNext, tAsg, tFor_eq, C8.tCut, wipe, gName, tDrop, List.set_cons_zero, List.set_cons_succ, cx_K]))
local macro_rules | `(tactic| wtm_at "rd1") => `(tactic| first | exact rd_int | exact rd_str | exact rd_bl | exact rd_non | exact rda_nil | apply rda_cons | (with_reducible apply rd_tup; (· assumption)) | (with_reducible apply rd_lst; (· assumption)) | exact rd_dic (by assumption) | exact rd_var rfl (.int _) | exact rd_var rfl (.str _) | exact rd_var rfl (.bl _) | exact rd_var rfl (by assumption) | (with_reducible apply rd_cat; (· assumption)) | (with_reducible apply rd_rep2; (· assumption)) | (with_reducible apply rd_rev; (· assumption)) | (with_reducible apply rd_to; (· assumption)) | (with_reducible apply rd_from; (· assumption)) | (with_reducible apply rd_tupOf; (· assumption)) | (with_reducible apply rd_lstOf; (· assumption)) | with_reducible apply rd_lenL | with_reducible apply rd_lenT | with_reducible apply rd_I0 | with_reducible apply rd_I | with_reducible apply rd_U | with_reducible apply rd_eqI | with_reducible apply rd_ixL | with_reducible apply rd_ixT | exact atI_hd _ _ | exact ‹atI _ _ = some _›)
local macro_rules | `(tactic| wtm_at "rdl") => `(tactic| first | decide | omega | wtm_at "sc" | (simp only [List.length_append, List.length_cons, List.length_nil, List.length_map, List.length_take, List.length_drop, List.length_reverse, cutTo]; omega))
local macro_rules | `(tactic| wtm_at "rd") => `(tactic| ((repeat' wtm_at "rd1"); (all_goals wtm_at "rdl")))
local macro_rules | `(tactic| wtm_at "nc") => `(tactic| repeat' (first | assumption | exact nca_nil | exact nc_non | exact nc_bl | exact nc_dic | exact nc_tup0 | exact nc_lst0 | (refine nc_strS (by decide) (by decide)) | (refine nc_int (by omega)) | (refine nc_big (by decide +kernel)) | refine nca_app ?_ ?_ | refine nca_cons ?_ ?_ | refine nca_take ?_ | refine nca_drop ?_ | refine nca_cutTo ?_ | refine nca_rev ?_ | refine nc_tup (by decide) ?_ | refine nc_lst (by decide) ?_ | refine nc_lst (Nat.le_trans (show _ ≤ 45 by wtm_at "rdl") (by decide)) ?_ | refine nc_tup (Nat.le_trans (show _ ≤ 45 by wtm_at "rdl") (by decide)) ?_))

section
variable {P : Program} {w : World} {K : PySem.W.Frag} {mg : Str → Option Value} {base : Heap}
theorem stepL_ne {l : List Nat} {e : Nat → Nat → Int} {i j : Nat} (hi : i < l.length) : stepL l e i j ≠ [] := by
  unfold stepL
  rw [List.getElem?_eq_getElem hi]
  dsimp only
  split <;> simp
theorem minL_uniq {xs : List Int} {m : Int} (h : xs ≠ []) (h1 : m ∈ xs) (h2 : ∀ y ∈ xs, m ≤ y) : m = minL xs := by
  obtain ⟨k1, k2⟩ := minL_spec h
  exact Int.le_antisymm (h2 _ k1) (k2 _ h1)
/-! tables of whole numbers as things -/
def tabR (e : Nat → Nat → Int) (n k : Nat) : PyData := .list ((List.range (n + 1 - k)).map fun t => PyData.int (e k (k + t)))
def tabD (e : Nat → Nat → Int) (n : Nat) : PyData := .list ((List.range (n + 1)).map (tabR e n))
def wholeB (d : PyData) : Bool := isT d .int && !isT d .bool
theorem wholeB_iff {d : PyData} : wholeB d = true ↔ ∃ z, d = .int z := by
  constructor
  · intro h
    cases d <;> first | exact ⟨_, rfl⟩ | cases h
  · rintro ⟨z, rfl⟩; rfl
def rowOk (n k : Nat) (d : PyData) : Prop := ∃ ns : List Int, d = .list (ns.map PyData.int) ∧ ns.length = n + 1 - k
theorem rowOk_iff {n k : Nat} {ds : List PyData} : rowOk n k (.list ds) ↔ ds.length = n + 1 - k ∧ ds.all wholeB = true := by
  constructor
  · rintro ⟨ns, e, hl⟩
    injection e with e
    subst e
    refine ⟨by rw [List.length_map]; exact hl, List.all_eq_true.mpr fun d hd => ?_⟩
    obtain ⟨z, _, rfl⟩ := List.mem_map.mp hd
    rfl
  · rintro ⟨hl, ha⟩
    have : ∀ ds : List PyData, ds.all wholeB = true → ∃ ns : List Int, ds = ns.map PyData.int := by
      intro ds
      induction ds with
      | nil => exact fun _ => ⟨[], rfl⟩
      | cons d ds ih =>
        intro h
        rw [List.all_cons, Bool.and_eq_true] at h
        obtain ⟨z, rfl⟩ := wholeB_iff.mp h.1
        obtain ⟨ns, rfl⟩ := ih h.2
        exact ⟨z :: ns, rfl⟩
    obtain ⟨ns, rfl⟩ := this ds ha
    exact ⟨ns, rfl, by rw [List.length_map] at hl; exact hl⟩
def shpP (n : Nat) (d : PyData) : Prop := ∃ e, d = tabD e n
def intOf : PyData → Int
  | .int i => i
  | _ => 0
def itemsOf : PyData → List PyData
  | .list xs => xs
  | _ => []
theorem shp_of {n : Nat} {ds : List PyData} (h1 : ds.length = n + 1) (h2 : ∀ k d, ds[k]? = some d → rowOk n k d) : shpP n (.list ds) := by
  refine ⟨fun i j => intOf ((itemsOf (ds.getD i .none)).getD (j - i) .none), ?_⟩
  unfold tabD
  congr 1
  refine List.ext_getElem? fun k => ?_
  by_cases hk : k < n + 1
  · have hd : ds[k]? = some ds[k] := List.getElem?_eq_getElem (by omega)
    obtain ⟨ns, e1, e2⟩ := h2 k _ hd
    rw [List.getElem?_map, List.getElem?_range hk, hd]
    show some ds[k] = some (tabR _ n k)
    congr 1
    unfold tabR
    rw [e1]
    congr 1
    refine List.ext_getElem? fun t => ?_
    have hg : ds.getD k .none = .list (ns.map PyData.int) := by rw [List.getD_eq_getElem?_getD, hd, e1]; rfl
    by_cases ht : t < n + 1 - k
    · have hn : ns[t]? = some ns[t] := List.getElem?_eq_getElem (by omega)
      rw [List.getElem?_map, List.getElem?_map, List.getElem?_range ht, hn]
      show some (PyData.int _) = some (PyData.int (intOf ((itemsOf (ds.getD k .none)).getD (k + t - k) .none)))
      rw [hg, show k + t - k = t by omega]
      show some (PyData.int _) = some (PyData.int (intOf ((ns.map PyData.int).getD t .none)))
      rw [List.getD_eq_getElem?_getD, List.getElem?_map, hn]
      rfl
    · rw [List.getElem?_eq_none (by rw [List.length_map]; omega), List.getElem?_eq_none (by rw [List.length_map, List.length_range]; omega)]
  · rw [List.getElem?_eq_none (by omega), List.getElem?_eq_none (by rw [List.length_map, List.length_range]; omega)]
theorem tabD_at {e : Nat → Nat → Int} {n k : Nat} (hk : k < n + 1) : ((List.range (n + 1)).map (tabR e n))[k]? = some (tabR e n k) := by rw [List.getElem?_map, List.getElem?_range hk]; rfl
theorem tabR_ok (e : Nat → Nat → Int) (n k : Nat) : rowOk n k (tabR e n k) := ⟨(List.range (n + 1 - k)).map fun t => e k (k + t), by unfold tabR; rw [List.map_map]; rfl, by rw [List.length_map, List.length_range]⟩
theorem shp_inv {n : Nat} {ds : List PyData} (h : shpP n (.list ds)) : ds.length = n + 1 ∧ ∀ k d, ds[k]? = some d → rowOk n k d := by
  obtain ⟨e, h⟩ := h
  unfold tabD at h
  injection h with h
  subst h
  refine ⟨by rw [List.length_map, List.length_range], fun k d hd => ?_⟩
  have hk : k < n + 1 := by have := (List.getElem?_eq_some_iff.mp hd).1; rw [List.length_map, List.length_range] at this; exact this
  rw [tabD_at hk] at hd
  rw [← Option.some.inj hd]
  exact tabR_ok e n k
theorem shp_list {n : Nat} {d : PyData} (h : shpP n d) : isT d .list = true := by
  obtain ⟨e, rfl⟩ := h
  rfl
theorem tabD_inj {e e' : Nat → Nat → Int} {n : Nat} (h : tabD e n = tabD e' n) {i j : Nat} (hi : i ≤ j) (hj : j ≤ n) : e i j = e' i j := by
  unfold tabD at h
  injection h with h
  have h1 := congrArg (fun l => l[i]?) h
  rw [tabD_at (by omega), tabD_at (by omega)] at h1
  have h2 := Option.some.inj h1
  unfold tabR at h2
  injection h2 with h2
  have h3 := congrArg (fun l => l[j - i]?) h2
  rw [List.getElem?_map, List.getElem?_map, List.getElem?_range (by omega)] at h3
  have h4 := Option.some.inj h3
  injection h4 with h4
  rw [show i + (j - i) = j by omega] at h4
  exact h4
def lowP (l : List Nat) (d : PyData) : Prop := ∃ e, d = tabD e l.length ∧ (∀ i, i ≤ l.length → e i i = 0) ∧ ∀ i j, i < j → j ≤ l.length → e i j ≤ minL (stepL l e i j)
noncomputable def lowB (l : List Nat) (d : PyData) : Bool := @decide (lowP l d) (Classical.propDecidable _)
noncomputable def shpB (n : Nat) (d : PyData) : Bool := @decide (shpP n d) (Classical.propDecidable _)
theorem lowB_t {l : List Nat} {d : PyData} (h : lowP l d) : lowB l d = true := @decide_eq_true _ (Classical.propDecidable _) h
theorem lowB_f {l : List Nat} {d : PyData} (h : ¬ lowP l d) : lowB l d = false := @decide_eq_false _ (Classical.propDecidable _) h
theorem shpB_t {n : Nat} {d : PyData} (h : shpP n d) : shpB n d = true := @decide_eq_true _ (Classical.propDecidable _) h
theorem shpB_f {n : Nat} {d : PyData} (h : ¬ shpP n d) : shpB n d = false := @decide_eq_false _ (Classical.propDecidable _) h
theorem low_shp {l : List Nat} {d : PyData} (h : lowP l d) : shpP l.length d := let ⟨e, h1, _⟩ := h; ⟨e, h1⟩
theorem lowP_tab {l : List Nat} {e : Nat → Nat → Int} : lowP l (tabD e l.length) ↔ (∀ i, i ≤ l.length → e i i = 0) ∧ ∀ i j, i < j → j ≤ l.length → e i j ≤ minL (stepL l e i j) := by
  constructor
  · rintro ⟨e', h1, h2, h3⟩
    refine ⟨fun i hi => by rw [tabD_inj h1 (Nat.le_refl _) hi]; exact h2 i hi, fun i j hi hj => ?_⟩
    rw [tabD_inj h1 (Nat.le_of_lt hi) hj, stepL_congr hi fun a b ha hab hb => tabD_inj h1 hab (by omega)]
    exact h3 i j hi hj
  · exact fun h => ⟨e, rfl, h.1, h.2⟩
/-- a list of lists, to be read -/
structure Tb (H : Hp) (d : Addr) (rs : List Addr) (f : Nat → List V) : Prop where
  hd : H d = some (.lst (rs.map V.ref))
  r : ∀ k r, rs[k]? = some r → H r = some (.lst (f k))
theorem Tb.same {H H' : Hp} {d : Addr} {rs : List Addr} {f : Nat → List V} (T : Tb H d rs f) (s : Same H H') : Tb H' d rs f := ⟨s _ _ T.hd, fun k r h => s _ _ (T.r k r h)⟩
theorem Tb.row {H : Hp} {d : Addr} {rs : List Addr} {f : Nat → List V} (T : Tb H d rs f) {k : Nat} (hk : k < rs.length) : ∃ r, rs[k]? = some r ∧ (rs.map V.ref)[k]? = some (V.ref r) ∧ H r = some (.lst (f k)) := by
  have h : rs[k]? = some rs[k] := List.getElem?_eq_getElem hk
  exact ⟨_, h, by rw [List.getElem?_map, h]; rfl, T.r k _ h⟩
theorem dxa_ints {H : Hp} : ∀ {zs : List Int} {ys : List V}, DxAll H ys (zs.map PyData.int) → ys = zs.map V.int
  | [], _, h => by cases h; rfl
  | z :: zs, _, h => by
    cases h with
    | cons h hs =>
      cases h
      rw [dxa_ints hs]
      rfl
theorem dxa_rows {H : Hp} {e : Nat → Nat → Int} {n : Nat} : ∀ {ks : List Nat} {xs : List V}, DxAll H xs (ks.map (tabR e n)) → ∃ rs : List Addr, xs = rs.map V.ref ∧ rs.length = ks.length ∧ ∀ (k : Nat) (r : Addr) (i : Nat), rs[k]? = some r → ks[k]? = some i → H r = some (.lst (rowV e i (n + 1 - i)))
  | [], _, h => by cases h; exact ⟨[], rfl, rfl, fun k r i h => by simp at h⟩
  | k0 :: ks, _, h => by
    cases h with
    | cons h hs =>
      obtain ⟨rs, e1, e2, e3⟩ := dxa_rows hs
      subst e1
      obtain ⟨a, ys, rfl, ea, hy⟩ := dx_lst_inv h
      have hy' : DxAll H ys (((List.range (n + 1 - k0)).map fun t => e k0 (k0 + t)).map PyData.int) := by rw [List.map_map]; exact hy
      have := dxa_ints hy'
      subst this
      refine ⟨a :: rs, rfl, by rw [List.length_cons, List.length_cons, e2], fun k r i h1 h2 => ?_⟩
      cases k with
      | zero =>
        rw [← Option.some.inj h1, ← Option.some.inj h2, ea]
        unfold rowV
        rw [List.map_map]
        rfl
      | succ k => exact e3 k r i h1 h2
theorem tb_of {H : Hp} {v : V} {e : Nat → Nat → Int} {n : Nat} (h : Dx H v (tabD e n)) : ∃ a rs, v = .ref a ∧ rs.length = n + 1 ∧ Tb H a rs (fun k => rowV e k (n + 1 - k)) := by
  obtain ⟨a, xs, rfl, ea, hx⟩ := dx_lst_inv h
  obtain ⟨rs, rfl, hl, hr⟩ := dxa_rows hx
  rw [List.length_range] at hl
  refine ⟨a, rs, rfl, hl, ea, fun k r hk => hr k r k hk ?_⟩
  have := (List.getElem?_eq_some_iff.mp hk).1
  rw [List.getElem?_range (by omega)]
/-! is_whole -/
def sp_is_whole : Sp := fun vs H Q _ => ∃ (v : V) (d : PyData), vs = [v] ∧ Dx H v d ∧ Q (.bl (wholeB d)) H
theorem ok_is_whole (T : Facts K mg) : C8.Cal P w K mg base 1 "is_whole" sp_is_whole [] := by
  refine calD T.f_is_whole sc_is_whole (fun vs H Q E h => ?_) (fun f cdv A outer s H vs Q E hr h => ?_)
  · obtain ⟨v, d, rfl, hd, q⟩ := h; rfl
  · obtain ⟨v, d, rfl, hd, q⟩ := h
    refine ⟨_, (pss_one (ps_ret (pe_and (pe_callB call_isi rfl T.b_isinstance (by decide +kernel) (pa_cons (pv 0) (pa_cons (pe_bltn (v := .ty "int") rfl T.b_int (by decide +kernel) rfl) pa_nil))) (pe_one (pe_not (pe_callB call_isi rfl T.b_isinstance (by decide +kernel) (pa_cons (pv 0) (pa_cons (pe_bltn (v := .ty "bool") rfl T.b_bool (by decide +kernel) rfl) pa_nil)))))))), ?_⟩
    rw [st_is_whole]
    unfold wholeB at q
    wtm_at "unf"
    wtm_at "gx"
    refine g_isI hd ?_
    cases h : isT d .int with
    | false =>
      rw [h] at q
      wtm_at "gx"
      exact q
    | true =>
      rw [h] at q
      wtm_at "gx"
      refine g_isB hd ?_
      exact ⟨_, rfl, q⟩
/-! steps_from -/
def sp_steps_from : Sp := fun vs H Q _ => ∃ (l : List Nat) (d : Addr) (rs : List Addr) (f : Nat → List V) (e : Nat → Nat → Int) (i j : Nat), vs = [Tx l, .ref d, .int i, .int j] ∧ l.length ≤ 1000 ∧ Tb H d rs f ∧ rs.length = l.length + 1 ∧ (∀ k, i < k → k ≤ l.length → f k = rowV e k (l.length + 1 - k)) ∧ i < j ∧ j ≤ l.length ∧ ∀ (p : Addr) (H' : Hp), H p = none → Same H H' → H' p = some (.lst ((stepL l e i j).map V.int)) → Q (.ref p) H'
theorem ok_steps_from (T : Facts K mg) : C8.Cal P w K mg base 3 "steps_from" sp_steps_from [] := by
  refine calD T.f_steps_from sc_steps_from (fun vs H Q E h => ?_) (fun f cdv A outer s H vs Q E hr h => ?_)
  · obtain ⟨l, d, rs, f, e, i, j, rfl, hl, hT, hrl, hf, hi, hj, q⟩ := h; rfl
  · obtain ⟨l, d, rs, f, e, i, j, rfl, hl, hT, hrl, hf, hi, hj, q⟩ := h
    refine ⟨_, (pss_cons (ps_if (pt_not (pt_val (pe_own (ok_is_bracket T) hr (by omega) rfl (pa_cons (pe_ix ix_txt (pv 0) (pv 2) (fun _ _ => rfl)) pa_nil))))
       (pss_one (ps_ret (pe_lst (pa_cons (pe_ix ix_list (pe_ix ix_list (pv 1) (pe_op op_add (pv 2) pe_int) (fun _ _ => rfl)) (pe_op op_sub (pe_op op_sub (pv 3) (pv 2)) pe_int) (fun _ _ => rfl)) pa_nil))))
       pss_nil)
       (pss_cons (ps_set (i := 4) sc_steps_from.nd rfl (Or.inl rfl) (pe_lst (pa_cons (pe_op op_add pe_int (pe_ix ix_list (pe_ix ix_list (pv 1) (pe_op op_add (pv 2) pe_int) (fun _ _ => rfl)) (pe_op op_sub (pe_op op_sub (pv 3) (pv 2)) pe_int) (fun _ _ => rfl))) pa_nil)))
       (pss_cons (ps_for PassesOwn.never rfl (pi_range2 rfl T.b_range (pa_cons (pe_op op_add (pv 2) pe_int) (pa_cons (pv 3) pa_nil))) (pg_name (i := 5) sc_steps_from.nd rfl (Or.inl rfl))
       (pss_one (ps_if (pt_val (pe_own (ok_is_bracket T) hr (by omega) rfl (pa_cons (pe_ix ix_txt (pv 0) (pv 5) (fun _ _ => rfl)) pa_nil)))
       (pss_one (ps_expr (pe_bm PySem.F.plainAttrs_list PySem.F.slot_list_append PySem.F.type_list_append mt_append (pv 4) (pa_cons (pe_op op_add (pe_op op_add (pe_own (ok_turns T) hr (by omega) rfl (pa_cons (pe_ix ix_txt (pv 0) (pv 2) (fun _ _ => rfl)) (pa_cons (pe_ix ix_txt (pv 0) (pv 5) (fun _ _ => rfl)) pa_nil))) (pe_ix ix_list (pe_ix ix_list (pv 1) (pe_op op_add (pv 2) pe_int) (fun _ _ => rfl)) (pe_op op_sub (pe_op op_sub (pv 5) (pv 2)) pe_int) (fun _ _ => rfl))) (pe_ix ix_list (pe_ix ix_list (pv 1) (pe_op op_add (pv 5) pe_int) (fun _ _ => rfl)) (pe_op op_sub (pe_op op_sub (pv 3) (pv 5)) pe_int) (fun _ _ => rfl))) pa_nil))))
       pss_nil)))
       (pss_one (ps_ret (pv 4)))))), ?_⟩
    rw [st_steps_from]
    have e0 : l[i]? = some l[i] := List.getElem?_eq_getElem (by omega)
    have rd : ∀ (H' : Hp), Same H H' → ∀ k m : Nat, i < k → k ≤ m → m ≤ l.length → ∃ r, (rs.map V.ref)[k]? = some (V.ref r) ∧ SqL K H' r (f k) ∧ (f k)[m - k]? = some (V.int (e k m)) := by
      intro H' s k m h1 h2 h3
      obtain ⟨r, _, h5, h6⟩ := (hT.same s).row (k := k) (by omega)
      refine ⟨r, h5, sq_of h6, ?_⟩
      rw [hf k h1 (by omega), rowV_at (by omega), show k + (m - k) = m by omega]
    have hdd : ∀ (H' : Hp), Same H H' → SqL K H' d (rs.map V.ref) := fun H' s => sq_of (hT.same s).hd
    wtm_at "unf"
    wtm_at "gx"
    refine g_ixT (by omega) (atI_of e0) ?_
    refine ⟨_, rfl, ?_⟩
    unfold stepL at q
    rw [e0] at q
    dsimp only at q
    generalize l[i] = c at e0 q
    obtain ⟨r1, h11, h12, h13⟩ := rd H (Same.refl _) (i + 1) j (by omega) (by omega) hj
    by_cases hb : c ∈ BRK
    · rw [if_pos hb] at q
      rw [decide_eq_true hb]
      wtm_at "gx"
      refine g_ixLn (i + 1) (hdd H (Same.refl _)) (by omega) h11 ?_
      wtm_at "gx"
      refine g_ixLn (j - (i + 1)) h12 (by omega) h13 ?_
      wtm_at "gx"
      refine g_lst (by show 1 ≤ 100000; decide) fun p H1 np s1 ep => ?_
      wtm_at "gx"
      refine ⟨_, _, rfl, ⟨by omega, by omega, by omega, by omega⟩, for_rng (fun k σ H' => ∃ y, σ = [some (Tx l), some (V.ref d), some (V.int i), some (V.int j), some (V.ref p), y] ∧ Same H H' ∧ H' p = some (.lst (((1 + e (i + 1) j) :: (List.range k).filterMap (fun t => match l[i + 1 + t]? with | none => none | some d => if d ∈ BRK then some (tns c d + e (i + 1) (i + 1 + t) + e (i + 1 + t + 1) j) else none)).map V.int))) ⟨_, rfl, s1, ep⟩ (fun k σ H' hk hv => ?_) (fun σ H' hv => ?_)⟩
      · obtain ⟨y, rfl, sH, ep2⟩ := hv
        have hk2 : k < j - i - 1 := by omega
        have em : l[i + 1 + k]? = some l[i + 1 + k] := List.getElem?_eq_getElem (by omega)
        generalize hcm : l[i + 1 + k] = m at em
        have hlen : ((1 + e (i + 1) j) :: (List.range k).filterMap (fun t => match l[i + 1 + t]? with | none => none | some d => if d ∈ BRK then some (tns c d + e (i + 1) (i + 1 + t) + e (i + 1 + t + 1) j) else none)).length ≤ k + 1 := by
          rw [List.length_cons]
          have := List.length_filterMap_le (fun t => match l[i + 1 + t]? with | none => none | some d => if d ∈ BRK then some (tns c d + e (i + 1) (i + 1 + t) + e (i + 1 + t + 1) j) else none) (List.range k)
          rw [List.length_range] at this
          omega
        wtm_at "unf"
        wtm_at "gx"
        refine g_ixTn (i + 1 + k) (by omega) (by omega) em ?_
        refine ⟨m, rfl, ?_⟩
        refine g_test (fun hm => ?_) (fun hm => ?_)
        · wtm_at "gx"
          refine g_ixT (by omega) (atI_of e0) ?_
          wtm_at "gx"
          refine g_ixTn (i + 1 + k) (by omega) (by omega) em ?_
          refine ⟨c, m, rfl, hb, hm, ?_⟩
          wtm_at "gx"
          obtain ⟨r2, g1, g2, g3⟩ := rd H' sH (i + 1) (i + 1 + k) (by omega) (by omega) (by omega)
          obtain ⟨r3, k1, k2, k3⟩ := rd H' sH (i + 1 + k + 1) j (by omega) (by omega) hj
          refine g_ixLn (i + 1) (hdd H' sH) (by omega) g1 ?_
          wtm_at "gx"
          refine g_ixLn (i + 1 + k - (i + 1)) g2 (by omega) g3 ?_
          wtm_at "gx"
          refine g_ixLn (i + 1 + k + 1) (hdd H' sH) (by omega) k1 ?_
          wtm_at "gx"
          refine g_ixLn (j - (i + 1 + k + 1)) k2 (by omega) k3 ?_
          wtm_at "gx"
          refine g_append1 ep2 (by rw [List.length_map]; omega) fun H3 b3 e3 => ?_
          refine ⟨_, rfl, Same.b0 b3 sH np, ?_⟩
          rw [e3, List.range_succ, List.filterMap_append, List.filterMap_cons, List.filterMap_nil, em]
          dsimp only
          rw [if_pos hm]
          simp
        · wtm_at "unf"
          refine ⟨_, rfl, sH, ?_⟩
          rw [ep2, List.range_succ, List.filterMap_append, List.filterMap_cons, List.filterMap_nil, em]
          dsimp only
          rw [if_neg hm]
          simp
      · obtain ⟨y, rfl, sH, ep2⟩ := hv
        wtm_at "unf"
        wtm_at "gx"
        refine q p H' np sH ?_
        rw [ep2, show ((j : Int) - ((i : Int) + 1)).toNat = j - i - 1 by omega]
        try rfl
    · rw [if_neg hb] at q
      rw [decide_eq_false hb]
      wtm_at "gx"
      refine g_ixLn (i + 1) (hdd H (Same.refl _)) (by omega) h11 ?_
      wtm_at "gx"
      refine g_ixLn (j - (i + 1)) h12 (by omega) h13 ?_
      refine g_lst (by show 1 ≤ 100000; decide) fun p H1 np s1 ep => ?_
      exact q p H1 np s1 ep
/-! is_shaped -/
def sp_is_shaped : Sp := fun vs H Q _ => ∃ (l : List Nat) (v : V) (d : PyData), vs = [Tx l, v] ∧ Dx H v d ∧ l.length ≤ 1000 ∧ ∀ H', Same H H' → Q (.bl (shpB l.length d)) H'
theorem ok_is_shaped (T : Facts K mg) : C8.Cal P w K mg base 2 "is_shaped" sp_is_shaped [] := by
  refine calD T.f_is_shaped sc_is_shaped (fun vs H Q E h => ?_) (fun f cdv A outer s H vs Q E hr h => ?_)
  · obtain ⟨l, v, d, rfl, hd, hl, q⟩ := h; rfl
  · obtain ⟨l, v, d, rfl, hd, hl, q⟩ := h
    refine ⟨_, (pss_cons (ps_ifC (PW.pt (pw_or (pt_not (pt_val (pe_callB call_isi rfl T.b_isinstance (by decide +kernel) (pa_cons (pv 1) (pa_cons (pe_bltn (v := .ty "list") rfl T.b_list (by decide +kernel) rfl) pa_nil))))) (pw_or1 (pt_cmpR op_ne (pe_callB call_lenL rfl T.b_len PySem.boot_len (pa_cons (pv 1) pa_nil)) (pe_op op_add (pe_callB call_lenT rfl T.b_len PySem.boot_len (pa_cons (pv 0) pa_nil)) pe_int) (nomark _)))))
       (pss_one (ps_ret pe_bl))
       pss_nil)
       (pss_cons (ps_for PassesOwn.never rfl (pi_enum rfl T.b_enumerate (pa_cons (pv 1) pa_nil)) (pg_tup rfl (pgs_cons (pg_name (i := 2) sc_is_shaped.nd rfl (Or.inl rfl)) (pgs_cons (pg_name (i := 3) sc_is_shaped.nd rfl (Or.inl rfl)) pgs_nil)))
       (pss_cons (ps_ifC (PW.pt (pw_or (pt_not (pt_val (pe_callB call_isi rfl T.b_isinstance (by decide +kernel) (pa_cons (pv 3) (pa_cons (pe_bltn (v := .ty "list") rfl T.b_list (by decide +kernel) rfl) pa_nil))))) (pw_or1 (pt_cmpR op_ne (pe_callB call_lenL rfl T.b_len PySem.boot_len (pa_cons (pv 3) pa_nil)) (pe_op op_sub (pe_op op_add (pe_callB call_lenT rfl T.b_len PySem.boot_len (pa_cons (pv 0) pa_nil)) pe_int) (pv 2)) (nomark _)))))
       (pss_one (ps_ret pe_bl))
       pss_nil)
       (pss_one (ps_if (pt_not (pt_val (pe_callB (cr_all rfl) rfl T.b_all (by decide +kernel) (pa_cons (pe_lc (own := [("entry", 4)]) (by rfl) sc_is_shaped.nd (pi_list (pv 3)) (blkOk_by (own := [("entry", 4)]) (N := N_is_shaped) (sc := defScope s_is_shaped) (by decide +kernel)) (fun _ _ _ _ _ => (pg_name (i := 4) sc_is_shaped.nd rfl (Or.inl rfl))) (fun _ _ _ _ _ => pts_nil) (fun _ _ _ _ _ => (pe_own (ok_is_whole T) hr (by omega) rfl (pa_cons (pv 4) pa_nil)))) pa_nil))))
       (pss_one (ps_ret pe_bl))
       pss_nil))))
       (pss_one (ps_ret pe_bl)))), ?_⟩
    rw [st_is_shaped]
    cases ht : isT d .list with
    | false =>
      rw [shpB_f (fun h => by rw [shp_list h] at ht; cases ht)] at q
      wtm_at "unfS"
      refine g_ifC (b := true) (fun Q' q' => ?_) (fun _ => ?_) (fun h => by cases h)
      · wtm_at "unf"
        wtm_at "gx"
        refine g_isL hd ?_
        rw [ht]
        wtm_at "gx"
        exact q'
      · wtm_at "unf"
        wtm_at "gx"
        exact q _ (Same.refl _)
    | true =>
      obtain ⟨a, xs, ds, rfl, rfl, ha, hx⟩ := dx_list hd ht
      have hxl := hx.length
      by_cases hlen : ds.length = l.length + 1
      · wtm_at "unfS"
        refine g_ifC (b := false) (fun Q' q' => ?_) (fun h => by cases h) (fun _ => ?_)
        · wtm_at "unf"
          wtm_at "gx"
          exact ⟨false, by rw [decide_eq_true (congrArg V.int (by omega))]; rfl, q'⟩
        wtm_at "unf"
        wtm_at "gx"
        refine ⟨_, _, rfl, sq_of ha, for_enum xs (fun pre σ G => ∃ y2 y3 y4, σ = [some (Tx l), some (V.ref a), y2, y3, y4] ∧ Same H G ∧ ∀ k x, k < pre.length → ds[k]? = some x → rowOk l.length k x) ⟨_, _, _, rfl, Same.refl _, fun k x h => by simp at h⟩ (fun pre post σ G e hv => ?_) (fun pre x post σ G t G1 e hv nt st et => ?_) (fun σ G hv => ?_)⟩
        · obtain ⟨y2, y3, y4, rfl, sG, _⟩ := hv
          exact sq_of (sG _ _ ha)
        · obtain ⟨y2, y3, y4, rfl, sG, hok⟩ := hv
          have hxk := mid_at e
          obtain ⟨k, hk⟩ : ∃ k, pre.length = k := ⟨_, rfl⟩
          rw [hk] at hxk hok et
          have hkl : k < ds.length := by have := (List.getElem?_eq_some_iff.mp hxk).1; omega
          have hdk : ds[k]? = some ds[k] := List.getElem?_eq_getElem hkl
          have sG1 := sG.trans st
          have hdx := dx_same sG1 (hx.get hxk hdk)
          generalize ds[k] = dk at hdk hdx
          have bad : ¬ rowOk l.length k dk → ∀ G2, Same H G2 → Q (V.bl false) G2 := fun hb G2 s2 => by
            have := q G2 s2
            rw [shpB_f (fun h => hb ((shp_inv h).2 k dk hdk))] at this
            exact this
          wtm_at "unf"
          refine ⟨t, _, rfl, st_of et, rfl, _, _, rfl, _, _, rfl, rfl, ?_⟩
          cases hr : isT dk .list with
          | false =>
            wtm_at "unfS"
            refine g_ifC (b := true) (fun Q' q' => ?_) (fun _ => ?_) (fun h => by cases h)
            · wtm_at "unf"
              wtm_at "gx"
              refine g_isL hdx ?_
              rw [hr]
              wtm_at "gx"
              exact q'
            · wtm_at "unf"
              wtm_at "gx"
              exact bad (fun ⟨ns, e, _⟩ => by rw [e] at hr; cases hr) _ sG1
          | true =>
            obtain ⟨r, ys, es, rfl, rfl, her, hy⟩ := dx_list hdx hr
            have hyl := hy.length
            by_cases hel : es.length = l.length + 1 - k
            · wtm_at "unfS"
              refine g_ifC (b := false) (fun Q' q' => ?_) (fun h => by cases h) (fun _ => ?_)
              · wtm_at "unf"
                wtm_at "gx"
                exact ⟨false, by rw [decide_eq_true (congrArg V.int (by omega))]; rfl, q'⟩
              wtm_at "unfS"
              refine g_ifSH (b := !es.all wholeB) (G := fun G2 => Same G1 G2) (fun Q' q' => ?_) (fun G2 g h => ?_) (fun G2 g h => ?_)
              · wtm_at "unf"
                wtm_at "gx"
                refine ⟨_, rfl, ⟨_, sq_of her⟩, lc_lst ys fun m G2 nm s2 em => ⟨fun pre G => G m = some (.lst (((es.take pre.length).map wholeB).map V.bl)) ∧ Same G1 G, ⟨em, s2⟩, fun pre post G e hv => sq_of (hv.2 _ _ her), fun pre x post G e hv => ?_, fun G hv => ?_⟩⟩
                · obtain ⟨e1, s3⟩ := hv
                  have hxk := mid_at e
                  obtain ⟨k2, hk2⟩ : ∃ k, pre.length = k := ⟨_, rfl⟩
                  rw [hk2] at hxk e1
                  have hkl2 : k2 < es.length := by have := (List.getElem?_eq_some_iff.mp hxk).1; omega
                  have hdk2 : es[k2]? = some es[k2] := List.getElem?_eq_getElem hkl2
                  wtm_at "unf"
                  refine ⟨rfl, ?_⟩
                  wtm_at "gx"
                  refine ⟨x, es[k2], rfl, dx_same s3 (hy.get hxk hdk2), ?_⟩
                  refine lc_put e1 (by simp; omega) fun G5 b5 e5 => ⟨?_, Same.b0 b5 s3 nm⟩
                  rw [List.length_append, hk2, show k2 + [x].length = k2 + 1 from rfl, (cut_at hdk2).1, List.map_append, List.map_append]
                  exact e5
                · obtain ⟨e1, s3⟩ := hv
                  rw [hyl, List.take_length] at e1
                  refine ⟨m, es.map wholeB, rfl, sq_of e1, ?_⟩
                  rw [show (es.map wholeB).all id = es.all wholeB by rw [List.all_map]; rfl]
                  exact ⟨_, rfl, q' _ s3⟩
              · wtm_at "unf"
                wtm_at "gx"
                refine bad (fun h2 => ?_) _ (sG1.trans g)
                rw [(rowOk_iff.mp h2).2] at h
                cases h
              · wtm_at "unf"
                refine ⟨_, _, _, rfl, sG1.trans g, fun k2 x2 hk2 hx2 => ?_⟩
                rw [List.length_append, hk, List.length_singleton] at hk2
                rcases Nat.lt_or_ge k2 k with h1 | h1
                · exact hok k2 x2 h1 hx2
                · have : k2 = k := by omega
                  subst this
                  rw [hdk] at hx2
                  rw [← Option.some.inj hx2]
                  exact rowOk_iff.mpr ⟨hel, by simpa using h⟩
            · wtm_at "unfS"
              refine g_ifC (b := true) (fun Q' q' => ?_) (fun _ => ?_) (fun h => by cases h)
              · wtm_at "unf"
                wtm_at "gx"
                exact ⟨true, by rw [decide_eq_false (fun h => hel (by have := V.int.inj h; omega))]; rfl, q'⟩
              · wtm_at "unf"
                wtm_at "gx"
                exact bad (fun h2 => hel (rowOk_iff.mp h2).1) _ sG1
        · obtain ⟨y2, y3, y4, rfl, sG, hok⟩ := hv
          wtm_at "unf"
          wtm_at "gx"
          have := q G sG
          rw [shpB_t (shp_of hlen fun k x hk => hok k x (by have := (List.getElem?_eq_some_iff.mp hk).1; omega) hk)] at this
          exact this
      · rw [shpB_f (fun h => hlen (shp_inv h).1)] at q
        wtm_at "unfS"
        refine g_ifC (b := true) (fun Q' q' => ?_) (fun _ => ?_) (fun h => by cases h)
        · wtm_at "unf"
          wtm_at "gx"
          exact ⟨true, by rw [decide_eq_false (fun h => hlen (by have := V.int.inj h; omega))]; rfl, q'⟩
        · wtm_at "unf"
          wtm_at "gx"
          exact q _ (Same.refl _)
/-! is_low -/
def sp_is_low : Sp := fun vs H Q _ => ∃ (l : List Nat) (v : V) (d : PyData), vs = [Tx l, v] ∧ Dx H v d ∧ l.length ≤ 1000 ∧ ∀ H', Same H H' → Q (.bl (lowB l d)) H'
theorem ok_is_low (T : Facts K mg) : C8.Cal P w K mg base 4 "is_low" sp_is_low [] := by
  refine calD T.f_is_low sc_is_low (fun vs H Q E h => ?_) (fun f cdv A outer s H vs Q E hr h => ?_)
  · obtain ⟨l, v, d, rfl, hd, hl, q⟩ := h; rfl
  · obtain ⟨l, v, d, rfl, hd, hl, q⟩ := h
    refine ⟨_, (pss_cons (ps_if (pt_not (pt_val (pe_own (ok_is_shaped T) hr (by omega) rfl (pa_cons (pv 0) (pa_cons (pv 1) pa_nil)))))
       (pss_one (ps_ret pe_bl))
       pss_nil)
       (pss_cons (ps_for PassesOwn.never rfl (pi_enum rfl T.b_enumerate (pa_cons (pv 1) pa_nil)) (pg_tup rfl (pgs_cons (pg_name (i := 2) sc_is_low.nd rfl (Or.inl rfl)) (pgs_cons (pg_name (i := 3) sc_is_low.nd rfl (Or.inl rfl)) pgs_nil)))
       (pss_cons (ps_if (pt_cmpR op_ne (pe_ix ix_list (pv 3) pe_int (fun _ _ => rfl)) pe_int (nomark _))
       (pss_one (ps_ret pe_bl))
       pss_nil)
       (pss_one (ps_for PassesOwn.never rfl (pi_range2 rfl T.b_range (pa_cons (pe_op op_add (pv 2) pe_int) (pa_cons (pe_op op_add (pe_callB call_lenT rfl T.b_len PySem.boot_len (pa_cons (pv 0) pa_nil)) pe_int) pa_nil))) (pg_name (i := 4) sc_is_low.nd rfl (Or.inl rfl))
       (pss_one (ps_if (pt_cmpR op_gt (pe_ix ix_list (pv 3) (pe_op op_sub (pv 4) (pv 2)) (fun _ _ => rfl)) (pe_callB (cr_min rfl) rfl T.b_min (by decide +kernel) (pa_cons (pe_own (ok_steps_from T) hr (by omega) rfl (pa_cons (pv 0) (pa_cons (pv 1) (pa_cons (pv 2) (pa_cons (pv 4) pa_nil))))) pa_nil)) (nomark _))
       (pss_one (ps_ret pe_bl))
       pss_nil))))))
       (pss_one (ps_ret pe_bl)))), ?_⟩
    rw [st_is_low]
    by_cases hs : shpP l.length d
    · obtain ⟨e, rfl⟩ := hs
      have bad : ∀ G, Same H G → ¬ lowP l (tabD e l.length) → Q (V.bl false) G := fun G s h => by
        have := q G s
        rw [lowB_f h] at this
        exact this
      wtm_at "unf"
      wtm_at "gx"
      refine ⟨l, v, _, rfl, hd, hl, fun H1 s1 => ?_⟩
      rw [shpB_t ⟨e, rfl⟩]
      wtm_at "gx"
      obtain ⟨a, rs, rfl, hrl, T⟩ := tb_of (dx_same s1 hd)
      have hTl : (rs.map V.ref).length = l.length + 1 := by rw [List.length_map, hrl]
      refine ⟨_, _, rfl, sq_of T.hd, for_enum (rs.map V.ref) (fun pre σ G => ∃ y2 y3 y4, σ = [some (Tx l), some (V.ref a), y2, y3, y4] ∧ Same H1 G ∧ (∀ i, i < pre.length → e i i = 0) ∧ ∀ i j, i < pre.length → i < j → j ≤ l.length → e i j ≤ minL (stepL l e i j)) ⟨_, _, _, rfl, Same.refl _, fun i h => by simp at h, fun i j h => by simp at h⟩ (fun pre post σ G e hv => ?_) (fun pre x post σ G t G1 ee hv nt st et => ?_) (fun σ G hv => ?_)⟩
      · obtain ⟨y2, y3, y4, rfl, sG, _⟩ := hv
        exact sq_of (sG _ _ T.hd)
      · obtain ⟨y2, y3, y4, rfl, sG, h0, hlo⟩ := hv
        have hxk := mid_at ee
        obtain ⟨k, hk⟩ : ∃ k, pre.length = k := ⟨_, rfl⟩
        rw [hk] at hxk h0 hlo et
        have hkl : k < l.length + 1 := by have := (List.getElem?_eq_some_iff.mp hxk).1; omega
        have T1 := T.same (sG.trans st)
        have sH1 : Same H G1 := s1.trans (sG.trans st)
        obtain ⟨r, r1, r2, r3⟩ := T1.row (k := k) (by omega)
        rw [r2] at hxk
        have hx := (Option.some.inj hxk).symm
        subst hx
        wtm_at "unf"
        refine ⟨t, _, rfl, st_of et, rfl, _, _, rfl, _, _, rfl, rfl, ?_⟩
        wtm_at "gx"
        refine g_ixLn 0 (sq_of r3) rfl (rowV_at (by omega)) ?_
        wtm_at "gx"
        refine g_testN (fun hne => ?_) (fun h00 => ?_)
        · wtm_at "gx"
          exact bad _ sH1 fun h => hne (by rw [Nat.add_zero, (lowP_tab.mp h).1 k (by omega)])
        · have hkk : e k k = 0 := V.int.inj h00
          wtm_at "unf"
          wtm_at "gx"
          refine ⟨_, _, rfl, ⟨by omega, by omega, by omega, by omega⟩, for_rng (fun u σ G => ∃ y4, σ = [some (Tx l), some (V.ref a), some (V.int (k : Nat)), some (V.ref r), y4] ∧ Same G1 G ∧ ∀ j, k < j → j < k + 1 + u → e k j ≤ minL (stepL l e k j)) ⟨_, rfl, Same.refl _, fun j h1 h2 => by omega⟩ (fun u σ G2 hu hv => ?_) (fun σ G2 hv => ?_)⟩
          · obtain ⟨y4, rfl, s2, hlo2⟩ := hv
            have hu2 : k + 1 + u ≤ l.length := by omega
            have T2 := T1.same s2
            wtm_at "unf"
            wtm_at "gx"
            refine g_ixLn (u + 1) (sq_of (s2 _ _ r3)) (by omega) (rowV_at (by omega)) ?_
            wtm_at "gx"
            refine ⟨l, a, rs, _, e, k, k + 1 + u, by rw [show ((k + 1 + u : Nat) : Int) = (k : Int) + 1 + (u : Int) by omega], hl, T2, hrl, fun k2 _ _ => rfl, by omega, hu2, fun p G3 np s3 ep => ?_⟩
            have hne := stepL_ne (l := l) (e := e) (i := k) (j := k + 1 + u) (by omega)
            refine g_minL (sq_of ep) hne fun m h1 h2 => ?_
            have hm := minL_uniq hne h1 h2
            subst hm
            wtm_at "gx"
            rw [show k + (u + 1) = k + 1 + u by omega]
            refine g_test (fun hb => ?_) (fun hb => ?_)
            · wtm_at "gx"
              exact bad _ (sH1.trans (s2.trans s3)) fun h => by have := (lowP_tab.mp h).2 k (k + 1 + u) (by omega) hu2; omega
            · refine ⟨_, rfl, s2.trans s3, fun j h1 h2 => ?_⟩
              rcases Nat.lt_or_ge j (k + 1 + u) with h3 | h3
              · exact hlo2 j h1 h3
              · have : j = k + 1 + u := by omega
                subst this
                omega
          · obtain ⟨y4, rfl, s2, hlo2⟩ := hv
            refine ⟨_, _, _, rfl, (sG.trans st).trans s2, fun i hi => ?_, fun i j hi hij hj => ?_⟩
            · rw [List.length_append, hk, List.length_singleton] at hi
              rcases Nat.lt_or_ge i k with h3 | h3
              · exact h0 i h3
              · have : i = k := by omega
                subst this
                exact hkk
            · rw [List.length_append, hk, List.length_singleton] at hi
              rcases Nat.lt_or_ge i k with h3 | h3
              · exact hlo i j h3 hij hj
              · have : i = k := by omega
                subst this
                exact hlo2 j hij (by omega)
      · obtain ⟨y2, y3, y4, rfl, sG, h0, hlo⟩ := hv
        wtm_at "unf"
        wtm_at "gx"
        have := q G (s1.trans sG)
        rw [lowB_t (lowP_tab.mpr ⟨fun i hi => h0 i (by omega), fun i j hij hj => hlo i j (by omega) hij hj⟩)] at this
        exact this
    · rw [lowB_f (fun h => hs (low_shp h))] at q
      wtm_at "unf"
      wtm_at "gx"
      refine ⟨l, v, d, rfl, hd, hl, fun H1 s1 => ?_⟩
      rw [shpB_f hs]
      wtm_at "gx"
      exact q _ s1
end
end K19

set_option maxHeartbeats 4000000
namespace K19
open PySem PySem.Spec PyProof.Rows L2 SX Ly
local macro_rules | `(tactic| wtm_at "unf") => `(tactic| (try simp only [tMetX, tOwnX, tChain, tSeq, tNext, tBreak, tCont, tDrop, tRet, tRetN, tIfS, tAsg, tAug, tC, tOp, tUn, tNil, tCons, tOwn, tCB, tTest, tB, tAnd, tOr, tNot, tAndV, tOrV, tNotV, tIf, gName, gSub, tBM, tBM0, tM0, tM1, tSl, tPart_eq, tNoPart, tLst_eq, tTup_eq, tRevL_eq, tReplT, tRevS, tDGet_eq, sDPut_eq, tDNewT_eq, tMet, tMak, tFld_eq, sFld_eq, C8.tCut, wipe, tYes, gTup, gCons, gNil, List.set_cons_zero, List.set_cons_succ, if_true, if_false, Bool.false_eq_true, Bool.not_true, Bool.not_false, true_and, reduceIte, cx_K, tFor_eq, tLc_eq, iStr, iList, iTup, iRng1, iRng2, iRng3, iEnum, iZip, tLstRg, tRg1, gLst, RZ.iZipA, iEnumS, iZipS, tDNewK_eq, tDGet2, tDIn, tDNotIn, iKd]))
local macro_rules | `(tactic| wtm_at "unfA") => `(tactic| (try simp only [tMetX, tOwnX, tChain, tSeq, tNext, tBreak, tCont, tDrop, tRet, tRetN, tIfS, tAsg, tAug, tC, tOp, tUn, tNil, tCons, tOwn, tCB, tTest, tB, tAnd, tOr, tNot, tIf, gName, gSub, tBM, tBM0, tM0, tM1, tSl, tPart_eq, tNoPart, tLst_eq, tTup_eq, tRevL_eq, tReplT, tRevS, tDGet_eq, sDPut_eq, tDNewT_eq, tMet, tMak, tFld_eq, sFld_eq, C8.tCut, wipe, tYes, gTup, gCons, gNil, List.set_cons_zero, List.set_cons_succ, if_true, if_false, Bool.false_eq_true, Bool.not_true, Bool.not_false, true_and, reduceIte, cx_K, tFor_eq, tLc_eq, iStr, iList, iTup, iRng1, iRng2, iRng3, iEnum, iZip, tLstRg, tRg1, gLst, RZ.iZipA, iEnumS, iZipS, tDNewK_eq, tDGet2, tDIn, tDNotIn, iKd]))
local macro_rules | `(tactic| wtm_at "ne") => `(tactic| first | assumption | (apply Ne.symm; assumption) | (apply ne_new; (· assumption); (· wtm_at "lk")) | (apply Ne.symm; apply ne_new; (· assumption); (· wtm_at "lk")))
local macro_rules | `(tactic| wtm_at "lk") => `(tactic| first | assumption | exact upd_same | (apply Same.get; (· assumption); (· wtm_at "lk")) | (apply But.get; (· assumption); (· wtm_at "ne"); (· wtm_at "lk")))
local macro_rules | `(tactic| wtm_at "sq") => `(tactic| first | assumption | (apply sq_of; wtm_at "lk") | (apply Same.seq; (· assumption); (· wtm_at "sq")) | (apply But.sq; (· assumption); (· wtm_at "ne"); (· wtm_at "sq")))
local macro_rules | `(tactic| wtm_at "fr") => `(tactic| first | assumption | (apply Same.fr; (· assumption); (· wtm_at "sm")) | (apply But.fr; (· assumption); (· wtm_at "sm"); (· wtm_at "ne")))
local macro_rules | `(tactic| wtm_at "sm") => `(tactic| first | exact Same.refl _ | exact But.refl | assumption | (apply Same.tr; (· assumption); (· wtm_at "sm")) | (apply Same.b0; (· assumption); (· wtm_at "sm"); (· wtm_at "fr")) | (apply But.sa; (· assumption); (· wtm_at "sm")) | (apply But.tr; (· assumption); (· wtm_at "sm")) | (apply But.b0; (· assumption); (· wtm_at "sm"); (· wtm_at "fr")) | (apply Same.toBut; wtm_at "sm"))
local macro_rules | `(tactic| wtm_at "sc") => `(tactic| first | exact Int.zero_lt_one | (show (0 : Int) < _; omega) | (show (0 : Int) < _; decide) | exact ⟨by omega, by omega⟩ | exact .inl ⟨by omega, by omega⟩ | exact .inr ⟨by omega, by omega⟩)
local macro_rules | `(tactic| wtm_at "go1") => `(tactic| first | ((with_reducible apply g_var); (· exact rfl)) | with_reducible apply g_I0 | ((with_reducible apply g_I); (· wtm_at "sc")) | with_reducible apply g_U | with_reducible apply g_ipI | ((with_reducible apply g_addT); (· first | omega | (simp; done) | (simp; omega))) | with_reducible apply g_inT | with_reducible apply g_ninT | ((with_reducible apply g_lenT); (· omega)) | with_reducible apply g_findT1 | with_reducible apply g_str | with_reducible apply g_part | with_reducible apply g_intB | ((with_reducible apply g_ixL); (· wtm_at "sq"); (· exact rfl)) | ((with_reducible apply g_setL); (· wtm_at "lk"); (· exact rfl)) | ((with_reducible apply g_eq); (· rfl)) | ((with_reducible apply g_ne); (· rfl)))
local macro_rules | `(tactic| wtm_at "go") => `(tactic| repeat wtm_at "go1")
local macro_rules | `(tactic| wtm_at "lp") => `(tactic| skip)
local macro_rules | `(tactic| wtm_at "om") => `(tactic| first | omega | (simp; done) | (simp; omega) | (simp at *; omega))
local macro_rules | `(tactic| wtm_at "ty") => `(tactic| first | exact ty_str | exact ty_int | exact ty_bl | exact ty_non | (apply ty_lst; wtm_at "lk") | (apply ty_tup; wtm_at "lk"))
local macro_rules | `(tactic| wtm_at "kb") => `(tactic| first | exact kb_str_str | exact kb_str_int | exact kb_str_bool | exact kb_str_list | exact kb_str_tuple | exact kb_int_str | exact kb_int_int | exact kb_int_bool | exact kb_int_list | exact kb_int_tuple | exact kb_bool_str | exact kb_bool_int | exact kb_bool_bool | exact kb_bool_list | exact kb_bool_tuple | exact kb_list_str | exact kb_list_int | exact kb_list_bool | exact kb_list_list | exact kb_list_tuple | exact kb_tuple_str | exact kb_tuple_int | exact kb_tuple_bool | exact kb_tuple_list | exact kb_tuple_tuple | exact kb_NoneType_str | exact kb_NoneType_int | exact kb_NoneType_bool | exact kb_NoneType_list | exact kb_NoneType_tuple | exact kb_dict_str | exact kb_dict_int | exact kb_dict_bool | exact kb_dict_list | exact kb_dict_tuple)
local macro_rules | `(tactic| wtm_at "gx1") => `(tactic| first | ((with_reducible apply g_eqS); (· exact rfl)) | ((with_reducible apply g_neS); (· exact rfl)) | wtm_at "go1" | with_reducible apply g_min2 | with_reducible apply g_max2 | with_reducible apply g_T | with_reducible apply g_F | with_reducible apply g_NT | with_reducible apply g_NF | with_reducible apply g_nT | with_reducible apply g_nF | with_reducible apply g_RT | with_reducible apply g_RF | ((with_reducible apply g_isi); (· wtm_at "ty"); (· wtm_at "kb")) | ((with_reducible apply g_ixAU3); (· wtm_at "lk"); (· exact rfl)) | ((with_reducible apply g_ixAL3); (· wtm_at "lk"); (· exact rfl)) | ((with_reducible apply g_ixU3); (· wtm_at "lk"); (· exact rfl)) | ((with_reducible apply g_lenL3); (· wtm_at "lk")) | ((with_reducible apply g_lenU3); (· wtm_at "lk")) | ((with_reducible apply g_tyL3); (· wtm_at "lk")) | ((with_reducible apply g_lenT); (· wtm_at "pv")) | wtm_at "tr" | with_reducible apply g_ET | with_reducible apply g_EF | with_reducible apply g_EnT | with_reducible apply g_EnF)
local macro_rules | `(tactic| wtm_at "pv") => `(tactic| first | exact rfl | assumption | omega | (simp; done) | (simp; omega))
local macro_rules | `(tactic| wtm_at "tr") => `(tactic| first | ((with_reducible apply g_Td); (· wtm_at "pv")) | ((with_reducible apply g_Fd); (· wtm_at "pv")) | ((with_reducible apply g_NTd); (· wtm_at "pv")) | ((with_reducible apply g_NFd); (· wtm_at "pv")) | ((with_reducible apply g_nTd); (· wtm_at "pv")) | ((with_reducible apply g_nFd); (· wtm_at "pv")) | ((with_reducible apply g_RTd); (· wtm_at "pv")) | ((with_reducible apply g_RFd); (· wtm_at "pv")))
local macro_rules | `(tactic| wtm_at "gx") => `(tactic| repeat wtm_at "gx1")
local macro_rules | `(tactic| wtm_at "unfS") => `(tactic| (try simp only [tSeq, tNext, tAsg, tFor_eq, C8.tCut, wipe, gName, tDrop, List.set_cons_zero, List.set_cons_succ, cx_K]))
local macro_rules | `(tactic| wtm_at "rd1") => `(tactic| first | exact rd_int | exact rd_str | exact rd_bl | exact rd_non | exact rda_nil | apply rda_cons | (with_reducible apply rd_tup; (· assumption)) | (with_reducible apply rd_lst; (· assumption)) | exact rd_dic (by assumption) | exact rd_var rfl (.int _) | exact rd_var rfl (.str _) | exact rd_var rfl (.bl _) | exact rd_var rfl (by assumption) | (with_reducible apply rd_cat; (· assumption)) | (with_reducible apply rd_rep2; (· assumption)) | (with_reducible apply rd_rev; (· assumption)) | (with_reducible apply rd_to; (· assumption)) | (with_reducible apply rd_from; (· assumption)) | (with_reducible apply rd_tupOf; (· assumption)) | (with_reducible apply rd_lstOf; (· assumption)) | with_reducible apply rd_lenL | with_reducible apply rd_lenT | with_reducible apply rd_I0 | with_reducible apply rd_I | with_reducible apply rd_U | with_reducible apply rd_eqI | with_reducible apply rd_ixL | with_reducible apply rd_ixT | exact atI_hd _ _ | exact ‹atI _ _ = some _›)
local macro_rules | `(tactic| wtm_at "rdl") => `(tactic| first | decide | omega | wtm_at "sc" | (simp only [List.length_append, List.length_cons, List.length_nil, List.length_map, List.length_take, List.length_drop, List.length_reverse, cutTo]; omega))
local macro_rules | `(tactic| wtm_at "rd") => `(tactic| ((repeat' wtm_at "rd1"); (all_goals wtm_at "rdl")))
local macro_rules | `(tactic| wtm_at "nc") => `(tactic| repeat' (first | assumption | exact nca_nil | exact nc_non | exact nc_bl | exact nc_dic | exact nc_tup0 | exact nc_lst0 | (refine nc_strS (by decide) (by decide)) | (refine nc_int (by omega)) | (refine nc_big (by decide +kernel)) | refine nca_app ?_ ?_ | refine nca_cons ?_ ?_ | refine nca_take ?_ | refine nca_drop ?_ | refine nca_cutTo ?_ | refine nca_rev ?_ | refine nc_tup (by decide) ?_ | refine nc_lst (by decide) ?_ | refine nc_lst (Nat.le_trans (show _ ≤ 45 by wtm_at "rdl") (by decide)) ?_ | refine nc_tup (Nat.le_trans (show _ ≤ 45 by wtm_at "rdl") (by decide)) ?_))

section
variable {P : Program} {w : World} {K : PySem.W.Frag} {mg : Str → Option Value} {base : Heap}
/-! _law_is_number -/
def sp_law_is_number : Sp := fun vs H Q _ => ∃ (v : V) (d : PyData), vs = [v] ∧ Dx H v d ∧ Q (.bl (wholeB d)) H
theorem ok_law_is_number (T : Facts K mg) : C8.Cal P w K mg base 1 "_law_is_number" sp_law_is_number [] := by
  refine calD T.f_law_is_number sc_law_is_number (fun vs H Q E h => ?_) (fun f cdv A outer s H vs Q E hr h => ?_)
  · obtain ⟨v, d, rfl, hd, q⟩ := h; rfl
  · obtain ⟨v, d, rfl, hd, q⟩ := h
    refine ⟨_, (pss_one (ps_ret (pe_and (pe_callB call_isi rfl T.b_isinstance (by decide +kernel) (pa_cons (pv 0) (pa_cons (pe_bltn (v := .ty "int") rfl T.b_int (by decide +kernel) rfl) pa_nil))) (pe_one (pe_not (pe_callB call_isi rfl T.b_isinstance (by decide +kernel) (pa_cons (pv 0) (pa_cons (pe_bltn (v := .ty "bool") rfl T.b_bool (by decide +kernel) rfl) pa_nil)))))))), ?_⟩
    rw [st_law_is_number]
    unfold wholeB at q
    wtm_at "unf"
    wtm_at "gx"
    refine g_isI hd ?_
    cases h : isT d .int with
    | false =>
      rw [h] at q
      wtm_at "gx"
      exact q
    | true =>
      rw [h] at q
      wtm_at "gx"
      refine g_isB hd ?_
      exact ⟨_, rfl, q⟩
/-! _law_is_shaped -/
def sp_law_is_shaped : Sp := fun vs H Q _ => ∃ (l : List Nat) (v : V) (d : PyData), vs = [Tx l, v] ∧ Dx H v d ∧ l.length ≤ 1000 ∧ ∀ H', Same H H' → Q (.bl (shpB l.length d)) H'
theorem ok_law_is_shaped (T : Facts K mg) : C8.Cal P w K mg base 2 "_law_is_shaped" sp_law_is_shaped [] := by
  refine calD T.f_law_is_shaped sc_law_is_shaped (fun vs H Q E h => ?_) (fun f cdv A outer s H vs Q E hr h => ?_)
  · obtain ⟨l, v, d, rfl, hd, hl, q⟩ := h; rfl
  · obtain ⟨l, v, d, rfl, hd, hl, q⟩ := h
    refine ⟨_, (pss_cons (ps_ifC (PW.pt (pw_or (pt_not (pt_val (pe_callB call_isi rfl T.b_isinstance (by decide +kernel) (pa_cons (pv 1) (pa_cons (pe_bltn (v := .ty "list") rfl T.b_list (by decide +kernel) rfl) pa_nil))))) (pw_or1 (pt_cmpR op_ne (pe_callB call_lenL rfl T.b_len PySem.boot_len (pa_cons (pv 1) pa_nil)) (pe_op op_add (pe_callB call_lenT rfl T.b_len PySem.boot_len (pa_cons (pv 0) pa_nil)) pe_int) (nomark _)))))
       (pss_one (ps_ret pe_bl))
       pss_nil)
       (pss_cons (ps_for PassesOwn.never rfl (pi_range1 rfl T.b_range (pa_cons (pe_callB call_lenL rfl T.b_len PySem.boot_len (pa_cons (pv 1) pa_nil)) pa_nil)) (pg_name (i := 2) sc_law_is_shaped.nd rfl (Or.inl rfl))
       (pss_cons (ps_ifC (PW.pt (pw_or (pt_not (pt_val (pe_callB call_isi rfl T.b_isinstance (by decide +kernel) (pa_cons (pe_ix ix_list (pv 1) (pv 2) (fun _ _ => rfl)) (pa_cons (pe_bltn (v := .ty "list") rfl T.b_list (by decide +kernel) rfl) pa_nil))))) (pw_or1 (pt_cmpR op_ne (pe_callB call_lenL rfl T.b_len PySem.boot_len (pa_cons (pe_ix ix_list (pv 1) (pv 2) (fun _ _ => rfl)) pa_nil)) (pe_op op_sub (pe_op op_add (pe_callB call_lenT rfl T.b_len PySem.boot_len (pa_cons (pv 0) pa_nil)) pe_int) (pv 2)) (nomark _)))))
       (pss_one (ps_ret pe_bl))
       pss_nil)
       (pss_one (ps_if (pt_cmpR (op_neE hr.units) (pe_lc (own := [("entry", 3)]) (by rfl) sc_law_is_shaped.nd (pi_list (pe_ix ix_list (pv 1) (pv 2) (fun _ _ => rfl))) (blkOk_by (own := [("entry", 3)]) (N := N_law_is_shaped) (sc := defScope s_law_is_shaped) (by decide +kernel)) (fun _ _ _ _ _ => (pg_name (i := 3) sc_law_is_shaped.nd rfl (Or.inl rfl))) (fun _ _ _ _ _ => (pts_one (pt_not (pt_val (pe_own (ok_law_is_number T) hr (by omega) rfl (pa_cons (pv 3) pa_nil)))))) (fun _ _ _ _ _ => (pv 3))) (pe_lst pa_nil) (nomark _))
       (pss_one (ps_ret pe_bl))
       pss_nil))))
       (pss_one (ps_ret pe_bl)))), ?_⟩
    rw [st_law_is_shaped]
    cases ht : isT d .list with
    | false =>
      rw [shpB_f (fun h => by rw [shp_list h] at ht; cases ht)] at q
      wtm_at "unfS"
      refine g_ifC (b := true) (fun Q' q' => ?_) (fun _ => ?_) (fun h => by cases h)
      · wtm_at "unf"
        wtm_at "gx"
        refine g_isL hd ?_
        rw [ht]
        wtm_at "gx"
        exact q'
      · wtm_at "unf"
        wtm_at "gx"
        exact q _ (Same.refl _)
    | true =>
      obtain ⟨a, xs, ds, rfl, rfl, ha, hx⟩ := dx_list hd ht
      have hxl := hx.length
      by_cases hlen : ds.length = l.length + 1
      · wtm_at "unfS"
        refine g_ifC (b := false) (fun Q' q' => ?_) (fun h => by cases h) (fun _ => ?_)
        · wtm_at "unf"
          wtm_at "gx"
          exact ⟨false, by rw [decide_eq_true (congrArg V.int (by omega))]; rfl, q'⟩
        wtm_at "unf"
        wtm_at "gx"
        refine ⟨_, rfl, by omega, by omega, for_rng (fun k σ G => ∃ y2 y3, σ = [some (Tx l), some (V.ref a), y2, y3] ∧ Same H G ∧ ∀ k2 x, k2 < k → ds[k2]? = some x → rowOk l.length k2 x) ⟨_, _, rfl, Same.refl _, fun k x h => by omega⟩ (fun k σ G1 hk hv => ?_) (fun σ G hv => ?_)⟩
        · obtain ⟨y2, y3, rfl, sG1, hok⟩ := hv
          have hkl : k < ds.length := by omega
          have hdk : ds[k]? = some ds[k] := List.getElem?_eq_getElem hkl
          obtain ⟨x, hxk⟩ : ∃ x, xs[k]? = some x := ⟨_, List.getElem?_eq_getElem (by omega)⟩
          have hdx := dx_same sG1 (hx.get hxk hdk)
          have haG := sG1 _ _ ha
          generalize ds[k] = dk at hdk hdx
          have bad : ¬ rowOk l.length k dk → ∀ G2, Same H G2 → Q (V.bl false) G2 := fun hb G2 s2 => by
            have := q G2 s2
            rw [shpB_f (fun h => hb ((shp_inv h).2 k dk hdk))] at this
            exact this
          wtm_at "unf"
          cases hr : isT dk .list with
          | false =>
            wtm_at "unfS"
            refine g_ifC (b := true) (fun Q' q' => ?_) (fun _ => ?_) (fun h => by cases h)
            · wtm_at "unf"
              wtm_at "gx"
              refine g_ixLn k (sq_of haG) (by omega) hxk ?_
              wtm_at "gx"
              refine g_isL hdx ?_
              rw [hr]
              wtm_at "gx"
              exact q'
            · wtm_at "unf"
              wtm_at "gx"
              exact bad (fun ⟨ns, e, _⟩ => by rw [e] at hr; cases hr) _ sG1
          | true =>
            obtain ⟨r, ys, es, rfl, rfl, her, hy⟩ := dx_list hdx hr
            have hyl := hy.length
            by_cases hel : es.length = l.length + 1 - k
            · wtm_at "unfS"
              refine g_ifC (b := false) (fun Q' q' => ?_) (fun h => by cases h) (fun _ => ?_)
              · wtm_at "unf"
                wtm_at "gx"
                refine g_ixLn k (sq_of haG) (by omega) hxk ?_
                wtm_at "gx"
                refine g_ixLn k (sq_of haG) (by omega) hxk ?_
                wtm_at "gx"
                exact ⟨false, by rw [decide_eq_true (congrArg V.int (by omega))]; rfl, q'⟩
              wtm_at "unfS"
              refine g_ifSH (b := !es.all wholeB) (G := fun G2 => Same G1 G2) (fun Q' q' => ?_) (fun G2 g h => ?_) (fun G2 g h => ?_)
              · wtm_at "unf"
                wtm_at "gx"
                refine g_ixLn k (sq_of haG) (by omega) hxk ?_
                refine ⟨r, rfl, ⟨_, sq_of her⟩, lc_lst ys fun m G2 nm s2 em => ⟨fun pre G => ∃ zs : List V, G m = some (.lst zs) ∧ zs.length ≤ pre.length ∧ (zs = [] ↔ (es.take pre.length).all wholeB = true) ∧ Same G1 G, ⟨[], em, Nat.le_refl _, by simp, s2⟩, fun pre post G e hv => sq_of (hv.choose_spec.2.2.2 _ _ her), fun pre x post G e hv => ?_, fun G hv => ?_⟩⟩
                · obtain ⟨zs, e1, hzl, hz, s3⟩ := hv
                  have hxk2 := mid_at e
                  obtain ⟨k2, hk2⟩ : ∃ k, pre.length = k := ⟨_, rfl⟩
                  have hpl : (pre ++ [x]).length = k2 + 1 := by rw [List.length_append, hk2]; rfl
                  rw [hk2] at hxk2 hzl hz
                  have hkl2 : k2 < es.length := by have := (List.getElem?_eq_some_iff.mp hxk2).1; omega
                  have hdk2 : es[k2]? = some es[k2] := List.getElem?_eq_getElem hkl2
                  wtm_at "unf"
                  refine ⟨rfl, ?_⟩
                  rw [hpl]
                  wtm_at "gx"
                  refine ⟨x, es[k2], rfl, dx_same s3 (hy.get hxk2 hdk2), ?_⟩
                  cases hw : wholeB es[k2] with
                  | true =>
                    wtm_at "gx"
                    refine ⟨zs, e1, by omega, ?_, s3⟩
                    rw [(cut_at hdk2).1, List.all_append, hz]
                    simp [hw]
                  | false =>
                    wtm_at "gx"
                    refine lc_put e1 (by omega) fun G5 b5 e5 => ⟨zs ++ [x], e5, by simp; omega, ?_, Same.b0 b5 s3 nm⟩
                    rw [(cut_at hdk2).1, List.all_append]
                    simp [hw]
                · obtain ⟨zs, e1, hzl, hz, s3⟩ := hv
                  rw [hyl, List.take_length] at hz
                  refine g_lst (by show 0 ≤ 100000; decide) fun l0 G6 nl0 g6 el0 => ?_
                  refine g_neE (sq_of (g6 _ _ e1)) el0 ?_
                  refine ⟨_, rfl, ?_⟩
                  rw [show (!decide (zs = [])) = !es.all wholeB by
                    congr 1
                    cases hw : es.all wholeB with
                    | true => exact decide_eq_true (hz.mpr hw)
                    | false => exact decide_eq_false (fun h => by rw [hz.mp h] at hw; cases hw)]
                  exact q' _ (s3.trans g6)
              · wtm_at "unf"
                wtm_at "gx"
                refine bad (fun h2 => ?_) _ (sG1.trans g)
                rw [(rowOk_iff.mp h2).2] at h
                cases h
              · wtm_at "unf"
                refine ⟨_, _, rfl, sG1.trans g, fun k2 x2 hk2 hx2 => ?_⟩
                rcases Nat.lt_or_ge k2 k with h1 | h1
                · exact hok k2 x2 h1 hx2
                · have : k2 = k := by omega
                  subst this
                  rw [hdk] at hx2
                  rw [← Option.some.inj hx2]
                  exact rowOk_iff.mpr ⟨hel, by simpa using h⟩
            · wtm_at "unfS"
              refine g_ifC (b := true) (fun Q' q' => ?_) (fun _ => ?_) (fun h => by cases h)
              · wtm_at "unf"
                wtm_at "gx"
                refine g_ixLn k (sq_of haG) (by omega) hxk ?_
                wtm_at "gx"
                refine g_ixLn k (sq_of haG) (by omega) hxk ?_
                wtm_at "gx"
                exact ⟨true, by rw [decide_eq_false (fun h => hel (by have := V.int.inj h; omega))]; rfl, q'⟩
              · wtm_at "unf"
                wtm_at "gx"
                exact bad (fun h2 => hel (rowOk_iff.mp h2).1) _ sG1
        · obtain ⟨y2, y3, rfl, sG, hok⟩ := hv
          wtm_at "unf"
          wtm_at "gx"
          have := q G sG
          rw [shpB_t (shp_of hlen fun k x hk => hok k x (by have := (List.getElem?_eq_some_iff.mp hk).1; omega) hk)] at this
          exact this
      · rw [shpB_f (fun h => hlen (shp_inv h).1)] at q
        wtm_at "unfS"
        refine g_ifC (b := true) (fun Q' q' => ?_) (fun _ => ?_) (fun h => by cases h)
        · wtm_at "unf"
          wtm_at "gx"
          exact ⟨true, by rw [decide_eq_false (fun h => hlen (by have := V.int.inj h; omega))]; rfl, q'⟩
        · wtm_at "unf"
          wtm_at "gx"
          exact q _ (Same.refl _)
/-! _law_bounds -/
def sp_law_bounds : Sp := fun vs H Q _ => ∃ (l : List Nat) (d : Addr) (rs : List Addr) (f : Nat → List V) (e : Nat → Nat → Int) (i j : Nat), vs = [Tx l, .ref d, .int i, .int j] ∧ l.length ≤ 1000 ∧ Tb H d rs f ∧ rs.length = l.length + 1 ∧ (∀ k, i < k → k ≤ l.length → f k = rowV e k (l.length + 1 - k)) ∧ i < j ∧ j ≤ l.length ∧ ∀ (p : Addr) (H' : Hp), H p = none → Same H H' → H' p = some (.lst ((stepL l e i j).map V.int)) → Q (.ref p) H'
theorem ok_law_bounds (T : Facts K mg) : C8.Cal P w K mg base 2 "_law_bounds" sp_law_bounds [] := by
  refine calD T.f_law_bounds sc_law_bounds (fun vs H Q E h => ?_) (fun f cdv A outer s H vs Q E hr h => ?_)
  · obtain ⟨l, d, rs, f, e, i, j, rfl, hl, hT, hrl, hf, hi, hj, q⟩ := h; rfl
  · obtain ⟨l, d, rs, f, e, i, j, rfl, hl, hT, hrl, hf, hi, hj, q⟩ := h
    refine ⟨_, (pss_cons (ps_if (pt_cmpR op_notInT (pe_ix ix_txt (pv 0) (pv 2) (fun _ _ => rfl)) (pe_strS (l := BRK) (by decide +kernel)) (by rfl))
       (pss_one (ps_ret (pe_lst (pa_cons (pe_ix ix_list (pe_ix ix_list (pv 1) (pe_op op_add (pv 2) pe_int) (fun _ _ => rfl)) (pe_op op_sub (pe_op op_sub (pv 3) (pv 2)) pe_int) (fun _ _ => rfl)) pa_nil))))
       pss_nil)
       (pss_cons (ps_set (i := 4) sc_law_bounds.nd rfl (Or.inl rfl) (pe_lst (pa_cons (pe_op op_add (pe_ix ix_list (pe_ix ix_list (pv 1) (pe_op op_add (pv 2) pe_int) (fun _ _ => rfl)) (pe_op op_sub (pe_op op_sub (pv 3) (pv 2)) pe_int) (fun _ _ => rfl)) pe_int) pa_nil)))
       (pss_cons (ps_for PassesOwn.never rfl (pi_range2 rfl T.b_range (pa_cons (pe_op op_add (pv 2) pe_int) (pa_cons (pv 3) pa_nil))) (pg_name (i := 5) sc_law_bounds.nd rfl (Or.inl rfl))
       (pss_one (ps_if (pt_cmpR op_inT (pe_ix ix_txt (pv 0) (pv 5) (fun _ _ => rfl)) (pe_strS (l := BRK) (by decide +kernel)) (by rfl))
       (pss_cons (ps_set (i := 6) sc_law_bounds.nd rfl (Or.inl rfl) (pe_ix ix_list (pe_ix ix_list (pv 1) (pe_op op_add (pv 2) pe_int) (fun _ _ => rfl)) (pe_op op_sub (pe_op op_sub (pv 5) (pv 2)) pe_int) (fun _ _ => rfl)))
       (pss_cons (ps_set (i := 7) sc_law_bounds.nd rfl (Or.inl rfl) (pe_ix ix_list (pe_ix ix_list (pv 1) (pe_op op_add (pv 5) pe_int) (fun _ _ => rfl)) (pe_op op_sub (pe_op op_sub (pv 3) (pv 5)) pe_int) (fun _ _ => rfl)))
       (pss_one (ps_expr (pe_bm PySem.F.plainAttrs_list PySem.F.slot_list_append PySem.F.type_list_append mt_append (pv 4) (pa_cons (pe_op op_add (pe_op op_add (pv 6) (pv 7)) (pe_own (ok_law_turns T) hr (by omega) rfl (pa_cons (pe_ix ix_txt (pv 0) (pv 2) (fun _ _ => rfl)) (pa_cons (pe_ix ix_txt (pv 0) (pv 5) (fun _ _ => rfl)) pa_nil)))) pa_nil))))))
       pss_nil)))
       (pss_one (ps_ret (pv 4)))))), ?_⟩
    rw [st_law_bounds]
    have e0 : l[i]? = some l[i] := List.getElem?_eq_getElem (by omega)
    have rd : ∀ (H' : Hp), Same H H' → ∀ k m : Nat, i < k → k ≤ m → m ≤ l.length → ∃ r, (rs.map V.ref)[k]? = some (V.ref r) ∧ SqL K H' r (f k) ∧ (f k)[m - k]? = some (V.int (e k m)) := by
      intro H' s k m h1 h2 h3
      obtain ⟨r, _, h5, h6⟩ := (hT.same s).row (k := k) (by omega)
      refine ⟨r, h5, sq_of h6, ?_⟩
      rw [hf k h1 (by omega), rowV_at (by omega), show k + (m - k) = m by omega]
    have hdd : ∀ (H' : Hp), Same H H' → SqL K H' d (rs.map V.ref) := fun H' s => sq_of (hT.same s).hd
    wtm_at "unf"
    wtm_at "gx"
    refine g_ixT (by omega) (atI_of e0) ?_
    wtm_at "gx"
    unfold stepL at q
    rw [e0] at q
    dsimp only at q
    generalize l[i] = c at e0 q
    obtain ⟨r1, h11, h12, h13⟩ := rd H (Same.refl _) (i + 1) j (by omega) (by omega) hj
    by_cases hb : c ∈ BRK
    · rw [if_pos hb] at q
      rw [decide_eq_true hb]
      wtm_at "gx"
      refine g_ixLn (i + 1) (hdd H (Same.refl _)) (by omega) h11 ?_
      wtm_at "gx"
      refine g_ixLn (j - (i + 1)) h12 (by omega) h13 ?_
      wtm_at "gx"
      refine g_lst (by show 1 ≤ 100000; decide) fun p H1 np s1 ep => ?_
      rw [Int.add_comm (e (i + 1) j) 1] at ep
      wtm_at "gx"
      refine ⟨_, _, rfl, ⟨by omega, by omega, by omega, by omega⟩, for_rng (fun k σ H' => ∃ y5 y6 y7, σ = [some (Tx l), some (V.ref d), some (V.int i), some (V.int j), some (V.ref p), y5, y6, y7] ∧ Same H H' ∧ H' p = some (.lst (((1 + e (i + 1) j) :: (List.range k).filterMap (fun t => match l[i + 1 + t]? with | none => none | some d => if d ∈ BRK then some (tns c d + e (i + 1) (i + 1 + t) + e (i + 1 + t + 1) j) else none)).map V.int))) ⟨_, _, _, rfl, s1, ep⟩ (fun k σ H' hk hv => ?_) (fun σ H' hv => ?_)⟩
      · obtain ⟨y5, y6, y7, rfl, sH, ep2⟩ := hv
        have hk2 : k < j - i - 1 := by omega
        have em : l[i + 1 + k]? = some l[i + 1 + k] := List.getElem?_eq_getElem (by omega)
        generalize hcm : l[i + 1 + k] = m at em
        have hlen : ((1 + e (i + 1) j) :: (List.range k).filterMap (fun t => match l[i + 1 + t]? with | none => none | some d => if d ∈ BRK then some (tns c d + e (i + 1) (i + 1 + t) + e (i + 1 + t + 1) j) else none)).length ≤ k + 1 := by
          rw [List.length_cons]
          have := List.length_filterMap_le (fun t => match l[i + 1 + t]? with | none => none | some d => if d ∈ BRK then some (tns c d + e (i + 1) (i + 1 + t) + e (i + 1 + t + 1) j) else none) (List.range k)
          rw [List.length_range] at this
          omega
        wtm_at "unf"
        wtm_at "gx"
        refine g_ixTn (i + 1 + k) (by omega) (by omega) em ?_
        wtm_at "gx"
        refine g_test (fun hm => ?_) (fun hm => ?_)
        · obtain ⟨r2, g1, g2, g3⟩ := rd H' sH (i + 1) (i + 1 + k) (by omega) (by omega) (by omega)
          obtain ⟨r3, k1, k2, k3⟩ := rd H' sH (i + 1 + k + 1) j (by omega) (by omega) hj
          wtm_at "gx"
          refine g_ixLn (i + 1) (hdd H' sH) (by omega) g1 ?_
          wtm_at "gx"
          refine g_ixLn (i + 1 + k - (i + 1)) g2 (by omega) g3 ?_
          wtm_at "gx"
          refine g_ixLn (i + 1 + k + 1) (hdd H' sH) (by omega) k1 ?_
          wtm_at "gx"
          refine g_ixLn (j - (i + 1 + k + 1)) k2 (by omega) k3 ?_
          wtm_at "gx"
          refine g_ixT (by omega) (atI_of e0) ?_
          wtm_at "gx"
          refine g_ixTn (i + 1 + k) (by omega) (by omega) em ?_
          refine ⟨c, m, rfl, hb, hm, fun H4 s4 => ?_⟩
          wtm_at "gx"
          refine g_append1 (s4 _ _ ep2) (by rw [List.length_map]; omega) fun H3 b3 e3 => ?_
          refine ⟨_, _, _, rfl, Same.b0 b3 (sH.trans s4) np, ?_⟩
          rw [e3, List.range_succ, List.filterMap_append, List.filterMap_cons, List.filterMap_nil, em]
          dsimp only
          rw [if_pos hm, show e (i + 1) (i + 1 + k) + e (i + 1 + k + 1) j + (tns c m : Int) = (tns c m : Int) + e (i + 1) (i + 1 + k) + e (i + 1 + k + 1) j by omega]
          simp
        · wtm_at "unf"
          refine ⟨_, _, _, rfl, sH, ?_⟩
          rw [ep2, List.range_succ, List.filterMap_append, List.filterMap_cons, List.filterMap_nil, em]
          dsimp only
          rw [if_neg hm]
          simp
      · obtain ⟨y5, y6, y7, rfl, sH, ep2⟩ := hv
        wtm_at "unf"
        wtm_at "gx"
        refine q p H' np sH ?_
        rw [ep2, show ((j : Int) - ((i : Int) + 1)).toNat = j - i - 1 by omega]
        try rfl
    · rw [if_neg hb] at q
      rw [decide_eq_false hb]
      wtm_at "gx"
      refine g_ixLn (i + 1) (hdd H (Same.refl _)) (by omega) h11 ?_
      wtm_at "gx"
      refine g_ixLn (j - (i + 1)) h12 (by omega) h13 ?_
      refine g_lst (by show 1 ≤ 100000; decide) fun p H1 np s1 ep => ?_
      exact q p H1 np s1 ep
/-! _law_due -/
def sp_law_due : Sp := fun vs H Q _ => ∃ (l : List Nat) (v : V) (d : PyData), vs = [Tx l, v] ∧ Dx H v d ∧ l.length ≤ 1000 ∧ ∀ H', Same H H' → Q (.bl (lowB l d)) H'
theorem ok_law_due (T : Facts K mg) : C8.Cal P w K mg base 3 "_law_due" sp_law_due [] := by
  refine calD T.f_law_due sc_law_due (fun vs H Q E h => ?_) (fun f cdv A outer s H vs Q E hr h => ?_)
  · obtain ⟨l, v, d, rfl, hd, hl, q⟩ := h; rfl
  · obtain ⟨l, v, d, rfl, hd, hl, q⟩ := h
    refine ⟨_, (pss_cons (ps_if (pt_not (pt_val (pe_own (ok_law_is_shaped T) hr (by omega) rfl (pa_cons (pv 0) (pa_cons (pv 1) pa_nil)))))
       (pss_one (ps_ret pe_bl))
       pss_nil)
       (pss_cons (ps_for PassesOwn.never rfl (pi_range1 rfl T.b_range (pa_cons (pe_callB call_lenL rfl T.b_len PySem.boot_len (pa_cons (pv 1) pa_nil)) pa_nil)) (pg_name (i := 2) sc_law_due.nd rfl (Or.inl rfl))
       (pss_cons (ps_if (pt_cmpR op_ne (pe_ix ix_list (pe_ix ix_list (pv 1) (pv 2) (fun _ _ => rfl)) pe_int (fun _ _ => rfl)) pe_int (nomark _))
       (pss_one (ps_ret pe_bl))
       pss_nil)
       (pss_one (ps_for PassesOwn.never rfl (pi_range2 rfl T.b_range (pa_cons (pe_op op_add (pv 2) pe_int) (pa_cons (pe_callB call_lenL rfl T.b_len PySem.boot_len (pa_cons (pv 1) pa_nil)) pa_nil))) (pg_name (i := 3) sc_law_due.nd rfl (Or.inl rfl))
       (pss_one (ps_if (pt_cmpR op_gt (pe_ix ix_list (pe_ix ix_list (pv 1) (pv 2) (fun _ _ => rfl)) (pe_op op_sub (pv 3) (pv 2)) (fun _ _ => rfl)) (pe_callB (cr_min rfl) rfl T.b_min (by decide +kernel) (pa_cons (pe_own (ok_law_bounds T) hr (by omega) rfl (pa_cons (pv 0) (pa_cons (pv 1) (pa_cons (pv 2) (pa_cons (pv 3) pa_nil))))) pa_nil)) (nomark _))
       (pss_one (ps_ret pe_bl))
       pss_nil))))))
       (pss_one (ps_ret pe_bl)))), ?_⟩
    rw [st_law_due]
    by_cases hs : shpP l.length d
    · obtain ⟨e, rfl⟩ := hs
      have bad : ∀ G, Same H G → ¬ lowP l (tabD e l.length) → Q (V.bl false) G := fun G s h => by
        have := q G s
        rw [lowB_f h] at this
        exact this
      wtm_at "unf"
      wtm_at "gx"
      refine ⟨l, v, _, rfl, hd, hl, fun H1 s1 => ?_⟩
      rw [shpB_t ⟨e, rfl⟩]
      wtm_at "gx"
      obtain ⟨a, rs, rfl, hrl, T⟩ := tb_of (dx_same s1 hd)
      have hTl : (rs.map V.ref).length = l.length + 1 := by rw [List.length_map, hrl]
      refine g_lenL (sq_of T.hd) ?_
      refine ⟨_, rfl, by omega, by omega, for_rng (fun k σ G => ∃ y2 y3, σ = [some (Tx l), some (V.ref a), y2, y3] ∧ Same H1 G ∧ (∀ i, i < k → e i i = 0) ∧ ∀ i j, i < k → i < j → j ≤ l.length → e i j ≤ minL (stepL l e i j)) ⟨_, _, rfl, Same.refl _, fun i h => by omega, fun i j h => by omega⟩ (fun k σ G1 hk hv => ?_) (fun σ G hv => ?_)⟩
      · obtain ⟨y2, y3, rfl, sG, h0, hlo⟩ := hv
        have hkl : k < l.length + 1 := by omega
        have T1 := T.same sG
        have sH1 : Same H G1 := s1.trans sG
        obtain ⟨r, r1, r2, r3⟩ := T1.row (k := k) (by omega)
        wtm_at "unf"
        wtm_at "gx"
        refine g_ixLn k (sq_of T1.hd) (by omega) r2 ?_
        wtm_at "gx"
        refine g_ixLn 0 (sq_of r3) rfl (rowV_at (by omega)) ?_
        wtm_at "gx"
        refine g_testN (fun hne => ?_) (fun h00 => ?_)
        · wtm_at "gx"
          exact bad _ sH1 fun h => hne (by rw [Nat.add_zero, (lowP_tab.mp h).1 k (by omega)])
        · have hkk : e k k = 0 := V.int.inj h00
          wtm_at "unf"
          wtm_at "gx"
          refine g_lenL (sq_of T1.hd) ?_
          refine ⟨_, _, rfl, ⟨by omega, by omega, by omega, by omega⟩, for_rng (fun u σ G => ∃ y4, σ = [some (Tx l), some (V.ref a), some (V.int (0 + (k : Nat))), y4] ∧ Same G1 G ∧ ∀ j, k < j → j < k + 1 + u → e k j ≤ minL (stepL l e k j)) ⟨_, rfl, Same.refl _, fun j h1 h2 => by omega⟩ (fun u σ G2 hu hv => ?_) (fun σ G2 hv => ?_)⟩
          · obtain ⟨y4, rfl, s2, hlo2⟩ := hv
            have hu2 : k + 1 + u ≤ l.length := by omega
            have T2 := T1.same s2
            wtm_at "unf"
            wtm_at "gx"
            refine g_ixLn k (sq_of T2.hd) (by omega) r2 ?_
            wtm_at "gx"
            refine g_ixLn (u + 1) (sq_of (s2 _ _ r3)) (by omega) (rowV_at (by omega)) ?_
            wtm_at "gx"
            refine ⟨l, a, rs, _, e, k, k + 1 + u, by rw [show ((k + 1 + u : Nat) : Int) = 0 + (k : Int) + 1 + (u : Int) by omega, Int.zero_add], hl, T2, hrl, fun k2 _ _ => rfl, by omega, hu2, fun p G3 np s3 ep => ?_⟩
            have hne := stepL_ne (l := l) (e := e) (i := k) (j := k + 1 + u) (by omega)
            refine g_minL (sq_of ep) hne fun m h1 h2 => ?_
            have hm := minL_uniq hne h1 h2
            subst hm
            wtm_at "gx"
            rw [show k + (u + 1) = k + 1 + u by omega]
            refine g_test (fun hb => ?_) (fun hb => ?_)
            · wtm_at "gx"
              exact bad _ (sH1.trans (s2.trans s3)) fun h => by have := (lowP_tab.mp h).2 k (k + 1 + u) (by omega) hu2; omega
            · refine ⟨_, rfl, s2.trans s3, fun j h1 h2 => ?_⟩
              rcases Nat.lt_or_ge j (k + 1 + u) with h3 | h3
              · exact hlo2 j h1 h3
              · have : j = k + 1 + u := by omega
                subst this
                omega
          · obtain ⟨y4, rfl, s2, hlo2⟩ := hv
            refine ⟨_, _, rfl, sG.trans s2, fun i hi => ?_, fun i j hi hij hj => ?_⟩
            · rcases Nat.lt_or_ge i k with h3 | h3
              · exact h0 i h3
              · have : i = k := by omega
                subst this
                exact hkk
            · rcases Nat.lt_or_ge i k with h3 | h3
              · exact hlo i j h3 hij hj
              · have : i = k := by omega
                subst this
                exact hlo2 j hij (by omega)
      · obtain ⟨y2, y3, rfl, sG, h0, hlo⟩ := hv
        wtm_at "unf"
        wtm_at "gx"
        have := q G (s1.trans sG)
        rw [lowB_t (lowP_tab.mpr ⟨fun i hi => h0 i (by omega), fun i j hij hj => hlo i j (by omega) hij hj⟩)] at this
        exact this
    · rw [lowB_f (fun h => hs (low_shp h))] at q
      wtm_at "unf"
      wtm_at "gx"
      refine ⟨l, v, d, rfl, hd, hl, fun H1 s1 => ?_⟩
      rw [shpB_f hs]
      wtm_at "gx"
      exact q _ s1
end
end K19

set_option maxHeartbeats 4000000
namespace K19
open PySem PySem.Spec PyProof.Rows L2 SX Ly
local macro_rules | `(tactic| wtm_at "unf") => `(tactic| (try simp only [tMetX, tOwnX, tChain, tSeq, tNext, tBreak, tCont, tDrop, tRet, tRetN, tIfS, tAsg, tAug, tC, tOp, tUn, tNil, tCons, tOwn, tCB, tTest, tB, tAnd, tOr, tNot, tAndV, tOrV, tNotV, tIf, gName, gSub, tBM, tBM0, tM0, tM1, tSl, tPart_eq, tNoPart, tLst_eq, tTup_eq, tRevL_eq, tReplT, tRevS, tDGet_eq, sDPut_eq, tDNewT_eq, tMet, tMak, tFld_eq, sFld_eq, C8.tCut, wipe, tYes, gTup, gCons, gNil, List.set_cons_zero, List.set_cons_succ, if_true, if_false, Bool.false_eq_true, Bool.not_true, Bool.not_false, true_and, reduceIte, cx_K, tFor_eq, tLc_eq, iStr, iList, iTup, iRng1, iRng2, iRng3, iEnum, iZip, tLstRg, tRg1, gLst, RZ.iZipA, iEnumS, iZipS, tDNewK_eq, tDGet2, tDIn, tDNotIn, iKd]))
local macro_rules | `(tactic| wtm_at "unfA") => `(tactic| (try simp only [tMetX, tOwnX, tChain, tSeq, tNext, tBreak, tCont, tDrop, tRet, tRetN, tIfS, tAsg, tAug, tC, tOp, tUn, tNil, tCons, tOwn, tCB, tTest, tB, tAnd, tOr, tNot, tIf, gName, gSub, tBM, tBM0, tM0, tM1, tSl, tPart_eq, tNoPart, tLst_eq, tTup_eq, tRevL_eq, tReplT, tRevS, tDGet_eq, sDPut_eq, tDNewT_eq, tMet, tMak, tFld_eq, sFld_eq, C8.tCut, wipe, tYes, gTup, gCons, gNil, List.set_cons_zero, List.set_cons_succ, if_true, if_false, Bool.false_eq_true, Bool.not_true, Bool.not_false, true_and, reduceIte, cx_K, tFor_eq, tLc_eq, iStr, iList, iTup, iRng1, iRng2, iRng3, iEnum, iZip, tLstRg, tRg1, gLst, RZ.iZipA, iEnumS, iZipS, tDNewK_eq, tDGet2, tDIn, tDNotIn, iKd]))
local macro_rules | `(tactic| wtm_at "ne") => `(tactic| first | assumption | (apply Ne.symm; assumption) | (apply ne_new; (· assumption); (· wtm_at "lk")) | (apply Ne.symm; apply ne_new; (· assumption); (· wtm_at "lk")))
local macro_rules | `(tactic| wtm_at "lk") => `(tactic| first | assumption | exact upd_same | (apply Same.get; (· assumption); (· wtm_at "lk")) | (apply But.get; (· assumption); (· wtm_at "ne"); (· wtm_at "lk")))
local macro_rules | `(tactic| wtm_at "sq") => `(tactic| first | assumption | (apply sq_of; wtm_at "lk") | (apply Same.seq; (· assumption); (· wtm_at "sq")) | (apply But.sq; (· assumption); (· wtm_at "ne"); (· wtm_at "sq")))
local macro_rules | `(tactic| wtm_at "fr") => `(tactic| first | assumption | (apply Same.fr; (· assumption); (· wtm_at "sm")) | (apply But.fr; (· assumption); (· wtm_at "sm"); (· wtm_at "ne")))
local macro_rules | `(tactic| wtm_at "sm") => `(tactic| first | exact Same.refl _ | exact But.refl | assumption | (apply Same.tr; (· assumption); (· wtm_at "sm")) | (apply Same.b0; (· assumption); (· wtm_at "sm"); (· wtm_at "fr")) | (apply But.sa; (· assumption); (· wtm_at "sm")) | (apply But.tr; (· assumption); (· wtm_at "sm")) | (apply But.b0; (· assumption); (· wtm_at "sm"); (· wtm_at "fr")) | (apply Same.toBut; wtm_at "sm"))
local macro_rules | `(tactic| wtm_at "sc") => `(tactic| first | exact Int.zero_lt_one | (show (0 : Int) < _; omega) | (show (0 : Int) < _; decide) | exact ⟨by omega, by omega⟩ | exact .inl ⟨by omega, by omega⟩ | exact .inr ⟨by omega, by omega⟩)
local macro_rules | `(tactic| wtm_at "go1") => `(tactic| first | ((with_reducible apply g_var); (· exact rfl)) | with_reducible apply g_I0 | ((with_reducible apply g_I); (· wtm_at "sc")) | with_reducible apply g_U | with_reducible apply g_ipI | ((with_reducible apply g_addT); (· first | omega | (simp; done) | (simp; omega))) | with_reducible apply g_inT | with_reducible apply g_ninT | ((with_reducible apply g_lenT); (· omega)) | with_reducible apply g_findT1 | with_reducible apply g_str | with_reducible apply g_part | with_reducible apply g_intB | ((with_reducible apply g_ixL); (· wtm_at "sq"); (· exact rfl)) | ((with_reducible apply g_setL); (· wtm_at "lk"); (· exact rfl)) | ((with_reducible apply g_eq); (· rfl)) | ((with_reducible apply g_ne); (· rfl)))
local macro_rules | `(tactic| wtm_at "go") => `(tactic| repeat wtm_at "go1")
local macro_rules | `(tactic| wtm_at "lp") => `(tactic| skip)
local macro_rules | `(tactic| wtm_at "om") => `(tactic| first | omega | (simp; done) | (simp; omega) | (simp at *; omega))
local macro_rules | `(tactic| wtm_at "ty") => `(tactic| first | exact ty_str | exact ty_int | exact ty_bl | exact ty_non | (apply ty_lst; wtm_at "lk") | (apply ty_tup; wtm_at "lk"))
local macro_rules | `(tactic| wtm_at "kb") => `(tactic| first | exact kb_str_str | exact kb_str_int | exact kb_str_bool | exact kb_str_list | exact kb_str_tuple | exact kb_int_str | exact kb_int_int | exact kb_int_bool | exact kb_int_list | exact kb_int_tuple | exact kb_bool_str | exact kb_bool_int | exact kb_bool_bool | exact kb_bool_list | exact kb_bool_tuple | exact kb_list_str | exact kb_list_int | exact kb_list_bool | exact kb_list_list | exact kb_list_tuple | exact kb_tuple_str | exact kb_tuple_int | exact kb_tuple_bool | exact kb_tuple_list | exact kb_tuple_tuple | exact kb_NoneType_str | exact kb_NoneType_int | exact kb_NoneType_bool | exact kb_NoneType_list | exact kb_NoneType_tuple | exact kb_dict_str | exact kb_dict_int | exact kb_dict_bool | exact kb_dict_list | exact kb_dict_tuple)
local macro_rules | `(tactic| wtm_at "gx1") => `(tactic| first | ((with_reducible apply g_eqS); (· exact rfl)) | ((with_reducible apply g_neS); (· exact rfl)) | wtm_at "go1" | with_reducible apply g_min2 | with_reducible apply g_max2 | with_reducible apply g_T | with_reducible apply g_F | with_reducible apply g_NT | with_reducible apply g_NF | with_reducible apply g_nT | with_reducible apply g_nF | with_reducible apply g_RT | with_reducible apply g_RF | ((with_reducible apply g_isi); (· wtm_at "ty"); (· wtm_at "kb")) | ((with_reducible apply g_ixAU3); (· wtm_at "lk"); (· exact rfl)) | ((with_reducible apply g_ixAL3); (· wtm_at "lk"); (· exact rfl)) | ((with_reducible apply g_ixU3); (· wtm_at "lk"); (· exact rfl)) | ((with_reducible apply g_lenL3); (· wtm_at "lk")) | ((with_reducible apply g_lenU3); (· wtm_at "lk")) | ((with_reducible apply g_tyL3); (· wtm_at "lk")) | ((with_reducible apply g_lenT); (· wtm_at "pv")) | wtm_at "tr" | with_reducible apply g_ET | with_reducible apply g_EF | with_reducible apply g_EnT | with_reducible apply g_EnF)
local macro_rules | `(tactic| wtm_at "pv") => `(tactic| first | exact rfl | assumption | omega | (simp; done) | (simp; omega))
local macro_rules | `(tactic| wtm_at "tr") => `(tactic| first | ((with_reducible apply g_Td); (· wtm_at "pv")) | ((with_reducible apply g_Fd); (· wtm_at "pv")) | ((with_reducible apply g_NTd); (· wtm_at "pv")) | ((with_reducible apply g_NFd); (· wtm_at "pv")) | ((with_reducible apply g_nTd); (· wtm_at "pv")) | ((with_reducible apply g_nFd); (· wtm_at "pv")) | ((with_reducible apply g_RTd); (· wtm_at "pv")) | ((with_reducible apply g_RFd); (· wtm_at "pv")))
local macro_rules | `(tactic| wtm_at "gx") => `(tactic| repeat wtm_at "gx1")
local macro_rules | `(tactic| wtm_at "unfS") => `(tactic| (try simp only [tSeq, tNext, tAsg, tFor_eq, C8.tCut, wipe, gName, tDrop, List.set_cons_zero, List.set_cons_succ, cx_K]))
local macro_rules | `(tactic| wtm_at "rd1") => `(tactic| first | exact rd_int | exact rd_str | exact rd_bl | exact rd_non | exact rda_nil | apply rda_cons | (with_reducible apply rd_tup; (· assumption)) | (with_reducible apply rd_lst; (· assumption)) | exact rd_dic (by assumption) | exact rd_var rfl (.int _) | exact rd_var rfl (.str _) | exact rd_var rfl (.bl _) | exact rd_var rfl (by assumption) | (with_reducible apply rd_cat; (· assumption)) | (with_reducible apply rd_rep2; (· assumption)) | (with_reducible apply rd_rev; (· assumption)) | (with_reducible apply rd_to; (· assumption)) | (with_reducible apply rd_from; (· assumption)) | (with_reducible apply rd_tupOf; (· assumption)) | (with_reducible apply rd_lstOf; (· assumption)) | with_reducible apply rd_lenL | with_reducible apply rd_lenT | with_reducible apply rd_I0 | with_reducible apply rd_I | with_reducible apply rd_U | with_reducible apply rd_eqI | with_reducible apply rd_ixL | with_reducible apply rd_ixT | exact atI_hd _ _ | exact ‹atI _ _ = some _›)
local macro_rules | `(tactic| wtm_at "rdl") => `(tactic| first | decide | omega | wtm_at "sc" | (simp only [List.length_append, List.length_cons, List.length_nil, List.length_map, List.length_take, List.length_drop, List.length_reverse, cutTo]; omega))
local macro_rules | `(tactic| wtm_at "rd") => `(tactic| ((repeat' wtm_at "rd1"); (all_goals wtm_at "rdl")))
local macro_rules | `(tactic| wtm_at "nc") => `(tactic| repeat' (first | assumption | exact nca_nil | exact nc_non | exact nc_bl | exact nc_dic | exact nc_tup0 | exact nc_lst0 | (refine nc_strS (by decide) (by decide)) | (refine nc_int (by omega)) | (refine nc_big (by decide +kernel)) | refine nca_app ?_ ?_ | refine nca_cons ?_ ?_ | refine nca_take ?_ | refine nca_drop ?_ | refine nca_cutTo ?_ | refine nca_rev ?_ | refine nc_tup (by decide) ?_ | refine nc_lst (by decide) ?_ | refine nc_lst (Nat.le_trans (show _ ≤ 45 by wtm_at "rdl") (by decide)) ?_ | refine nc_tup (Nat.le_trans (show _ ≤ 45 by wtm_at "rdl") (by decide)) ?_))

section
variable {P : Program} {w : World} {K : PySem.W.Frag} {mg : Str → Option Value} {base : Heap}
/-! _law_long -/
def sp_law_long : Sp := fun vs H Q _ => ∃ (p : Addr) (P0 : Wl) (m : Nat), vs = [.ref p, .int m] ∧ H p = some P0.o ∧ 11 ≤ m ∧ m ≤ 60 ∧ ∀ (l : List Nat) (P1 : Wl) (H' : Hp), (∀ c ∈ l, isSg c) → 2 ≤ l.length → l.length ≤ m + 3 → But p H H' → H' p = some P1.o → Q (Tx l) H'
theorem ok_law_long (T : Facts K mg) : C8.Cal P w K mg base 3 "_law_long" sp_law_long [] := by
  refine calD T.f_law_long sc_law_long (fun vs H Q E h => ?_) (fun f cdv A outer s H vs Q E hr h => ?_)
  · obtain ⟨p, P0, m, rfl, hp, hm, hm2, q⟩ := h; rfl
  · obtain ⟨p, P0, m, rfl, hp, hm, hm2, q⟩ := h
    refine ⟨_, (pss_cons (ps_set (i := 2) sc_law_long.nd rfl (Or.inl rfl) (pe_ix ix_list (pe_lst (pa_cons (pe_strS (l := [40, 41]) (by decide +kernel)) (pa_cons (pe_strS (l := [60, 62]) (by decide +kernel)) (pa_cons (pe_strS (l := [91, 93]) (by decide +kernel)) (pa_cons (pe_strS (l := [123, 125]) (by decide +kernel)) pa_nil))))) (pe_own (ok_law_draw T) hr (by omega) rfl (pa_cons (pv 0) (pa_cons pe_int pa_nil))) (fun _ _ => rfl)))
       (pss_cons (ps_set (i := 3) sc_law_long.nd rfl (Or.inl rfl) (pe_op op_addT (pe_op op_addT (pe_ix ix_txt (pv 2) pe_int (fun _ _ => rfl)) (pe_own (ok_law_clean T) hr (by omega) rfl (pa_cons (pv 0) (pa_cons (pe_op op_add pe_int (pe_own (ok_law_draw T) hr (by omega) rfl (pa_cons (pv 0) (pa_cons (pe_op op_sub (pv 1) pe_int) pa_nil)))) pa_nil)))) (pe_ix ix_txt (pv 2) pe_int (fun _ _ => rfl))))
       (C8.pss_cut (ps_if (pt_cmpR op_eq (pe_own (ok_law_draw T) hr (by omega) rfl (pa_cons (pv 0) (pa_cons pe_int pa_nil))) pe_int (nomark _))
       (pss_cons (ps_set (i := 4) sc_law_long.nd rfl (Or.inl rfl) (pe_own (ok_law_draw T) hr (by omega) rfl (pa_cons (pv 0) (pa_cons (pe_op op_add (pe_callB call_lenT rfl T.b_len PySem.boot_len (pa_cons (pv 3) pa_nil)) pe_int) pa_nil))))
       (pss_one (ps_set (i := 3) sc_law_long.nd rfl (Or.inl rfl) (pe_op op_addT (pe_op op_addT (pe_slice sl_tx (pv 3) po_none (po_some (pv 4))) (pe_ix ix_txt (pe_strS (l := BRK) (by decide +kernel)) (pe_own (ok_law_draw T) hr (by omega) rfl (pa_cons (pv 0) (pa_cons pe_int pa_nil))) (fun _ _ => rfl))) (pe_slice sl_tx (pv 3) (po_some (pv 4)) po_none)))))
       pss_nil)
       (pss_one (ps_ret (pv 3)))))), ?_⟩
    rw [st_law_long]
    wtm_at "unf"
    wtm_at "gx"
    refine g_lst (by show 4 ≤ 100000; decide) fun la H2 nla s2 ela => ?_
    wtm_at "gx"
    refine ⟨p, P0, 4, rfl, s2 _ _ hp, by decide, by decide, fun z P1 H3 z0 z1 b3 e3 => ?_⟩
    obtain ⟨b, rfl⟩ := Int.eq_ofNat_of_zero_le z0
    obtain ⟨c, hc1, hc2⟩ := pair_at4 (z := b) (by omega)
    have hlap : la ≠ p := Ne.symm (ne_new nla hp)
    refine g_ixL (sq_of (b3 _ _ hlap ela)) (atI_of hc1) ?_
    wtm_at "gx"
    refine g_ixT (c := c) (by simp) rfl ?_
    wtm_at "gx"
    refine ⟨p, P1, _, rfl, e3, by omega, by omega, fun y P2 H4 y0 y1 b4 e4 => ?_⟩
    obtain ⟨w, rfl⟩ := Int.eq_ofNat_of_zero_le y0
    wtm_at "gx"
    refine ⟨p, P2, 8 + w, by rw [show ((8 + w : Nat) : Int) = 8 + (w : Int) by omega], e4, by omega, fun t P3 H5 hts htl htc b5 e5 => ?_⟩
    wtm_at "gx"
    refine g_ixT (c := oth c) (by simp) rfl ?_
    refine g_addT (by simp; omega) ?_
    have hsg : ∀ d ∈ [c] ++ t ++ [oth c], isSg d := by
      intro d hd
      simp only [List.mem_append, List.mem_singleton] at hd
      rcases hd with (rfl | hd) | rfl
      · exact .inr (brk_or.mpr (.inl hc2))
      · exact hts d hd
      · exact .inr (brk_or.mpr (.inr (oth_clo c hc2)))
    have hln : ([c] ++ t ++ [oth c]).length ≤ m + 2 := by simp; omega
    have hln2 : 2 ≤ ([c] ++ t ++ [oth c]).length := by simp
    generalize [c] ++ t ++ [oth c] = u at hsg hln hln2
    refine ⟨fun σ' H6 => ∃ (v : List Nat) (P6 : Wl) (y4 : Option V), σ' = [some (V.ref p), some (V.int m), some (Tx [c, oth c]), some (Tx v), y4] ∧ (∀ d ∈ v, isSg d) ∧ 2 ≤ v.length ∧ v.length ≤ m + 3 ∧ But p H H6 ∧ H6 p = some P6.o, ?_, ?_⟩
    · wtm_at "gx"
      refine ⟨p, P3, 2, rfl, e5, by decide, by decide, fun z P4 H6 z0 z1 b6 e6 => ?_⟩
      have bH6 : But p H H6 := by wtm_at "sm"
      wtm_at "gx"
      refine g_test (fun h => ?_) (fun h => ?_)
      · wtm_at "gx"
        refine ⟨p, P4, _, rfl, e6, by omega, by omega, fun y P5 H7 y0 y1 b7 e7 => ?_⟩
        obtain ⟨k, rfl⟩ := Int.eq_ofNat_of_zero_le y0
        wtm_at "gx"
        refine g_slTo (by omega) (by omega) ?_
        rw [Int.toNat_natCast]
        wtm_at "gx"
        refine ⟨p, P5, 8, rfl, e7, by decide, by decide, fun y P6 H8 w0 w1 b8 e8 => ?_⟩
        obtain ⟨k2, rfl⟩ := Int.eq_ofNat_of_zero_le w0
        obtain ⟨c8, hc81, hc82⟩ := brk_at (z := k2) (by omega)
        refine g_ixT (by decide) (atI_of hc81) ?_
        have htl := List.length_take (i := k) (l := u)
        refine g_addT (by simp only [List.length_cons, List.length_nil]; omega) ?_
        wtm_at "gx"
        refine g_slFrom (by omega) (by omega) ?_
        rw [Int.toNat_natCast]
        have hdl := List.length_drop (i := k) (l := u)
        refine g_addT (by simp; omega) ?_
        exact ⟨_, P6, _, rfl, sg_ins (by rw [List.take_append_drop]; exact hsg) (sg_one (.inr hc82)), by simp; omega, by simp; omega, But.tr b8 (But.tr b7 bH6), e8⟩
      · wtm_at "unf"
        exact ⟨u, P4, _, rfl, hsg, hln2, by omega, bH6, e6⟩
    · rintro σ' H6 ⟨v, P6, y4, rfl, hv1, hv0, hv2, bH, eH⟩
      wtm_at "unf"
      wtm_at "gx"
      exact q v P6 H6 hv1 hv0 hv2 bH eH
end
end K19

set_option maxHeartbeats 4000000
namespace K19
open PySem PySem.Spec PyProof.Rows L2 SX Ly
local macro_rules | `(tactic| wtm_at "unf") => `(tactic| (try simp only [tMetX, tOwnX, tChain, tSeq, tNext, tBreak, tCont, tDrop, tRet, tRetN, tIfS, tAsg, tAug, tC, tOp, tUn, tNil, tCons, tOwn, tCB, tTest, tB, tAnd, tOr, tNot, tAndV, tOrV, tNotV, tIf, gName, gSub, tBM, tBM0, tM0, tM1, tSl, tPart_eq, tNoPart, tLst_eq, tTup_eq, tRevL_eq, tReplT, tRevS, tDGet_eq, sDPut_eq, tDNewT_eq, tMet, tMak, tFld_eq, sFld_eq, C8.tCut, wipe, tYes, gTup, gCons, gNil, List.set_cons_zero, List.set_cons_succ, if_true, if_false, Bool.false_eq_true, Bool.not_true, Bool.not_false, true_and, reduceIte, cx_K, tFor_eq, tLc_eq, iStr, iList, iTup, iRng1, iRng2, iRng3, iEnum, iZip, tLstRg, tRg1, gLst, RZ.iZipA, iEnumS, iZipS, tDNewK_eq, tDGet2, tDIn, tDNotIn, iKd]))
local macro_rules | `(tactic| wtm_at "unfA") => `(tactic| (try simp only [tMetX, tOwnX, tChain, tSeq, tNext, tBreak, tCont, tDrop, tRet, tRetN, tIfS, tAsg, tAug, tC, tOp, tUn, tNil, tCons, tOwn, tCB, tTest, tB, tAnd, tOr, tNot, tIf, gName, gSub, tBM, tBM0, tM0, tM1, tSl, tPart_eq, tNoPart, tLst_eq, tTup_eq, tRevL_eq, tReplT, tRevS, tDGet_eq, sDPut_eq, tDNewT_eq, tMet, tMak, tFld_eq, sFld_eq, C8.tCut, wipe, tYes, gTup, gCons, gNil, List.set_cons_zero, List.set_cons_succ, if_true, if_false, Bool.false_eq_true, Bool.not_true, Bool.not_false, true_and, reduceIte, cx_K, tFor_eq, tLc_eq, iStr, iList, iTup, iRng1, iRng2, iRng3, iEnum, iZip, tLstRg, tRg1, gLst, RZ.iZipA, iEnumS, iZipS, tDNewK_eq, tDGet2, tDIn, tDNotIn, iKd]))
local macro_rules | `(tactic| wtm_at "ne") => `(tactic| first | assumption | (apply Ne.symm; assumption) | (apply ne_new; (· assumption); (· wtm_at "lk")) | (apply Ne.symm; apply ne_new; (· assumption); (· wtm_at "lk")))
local macro_rules | `(tactic| wtm_at "lk") => `(tactic| first | assumption | exact upd_same | (apply Same.get; (· assumption); (· wtm_at "lk")) | (apply But.get; (· assumption); (· wtm_at "ne"); (· wtm_at "lk")))
local macro_rules | `(tactic| wtm_at "sq") => `(tactic| first | assumption | (apply sq_of; wtm_at "lk") | (apply Same.seq; (· assumption); (· wtm_at "sq")) | (apply But.sq; (· assumption); (· wtm_at "ne"); (· wtm_at "sq")))
local macro_rules | `(tactic| wtm_at "fr") => `(tactic| first | assumption | (apply Same.fr; (· assumption); (· wtm_at "sm")) | (apply But.fr; (· assumption); (· wtm_at "sm"); (· wtm_at "ne")))
local macro_rules | `(tactic| wtm_at "sm") => `(tactic| first | exact Same.refl _ | exact But.refl | assumption | (apply Same.tr; (· assumption); (· wtm_at "sm")) | (apply Same.b0; (· assumption); (· wtm_at "sm"); (· wtm_at "fr")) | (apply But.sa; (· assumption); (· wtm_at "sm")) | (apply But.tr; (· assumption); (· wtm_at "sm")) | (apply But.b0; (· assumption); (· wtm_at "sm"); (· wtm_at "fr")) | (apply Same.toBut; wtm_at "sm"))
local macro_rules | `(tactic| wtm_at "sc") => `(tactic| first | exact Int.zero_lt_one | (show (0 : Int) < _; omega) | (show (0 : Int) < _; decide) | exact ⟨by omega, by omega⟩ | exact .inl ⟨by omega, by omega⟩ | exact .inr ⟨by omega, by omega⟩)
local macro_rules | `(tactic| wtm_at "go1") => `(tactic| first | ((with_reducible apply g_var); (· exact rfl)) | with_reducible apply g_I0 | ((with_reducible apply g_I); (· wtm_at "sc")) | with_reducible apply g_U | with_reducible apply g_ipI | ((with_reducible apply g_addT); (· first | omega | (simp; done) | (simp; omega))) | with_reducible apply g_inT | with_reducible apply g_ninT | ((with_reducible apply g_lenT); (· omega)) | with_reducible apply g_findT1 | with_reducible apply g_str | with_reducible apply g_part | with_reducible apply g_intB | ((with_reducible apply g_ixL); (· wtm_at "sq"); (· exact rfl)) | ((with_reducible apply g_setL); (· wtm_at "lk"); (· exact rfl)) | ((with_reducible apply g_eq); (· rfl)) | ((with_reducible apply g_ne); (· rfl)))
local macro_rules | `(tactic| wtm_at "go") => `(tactic| repeat wtm_at "go1")
local macro_rules | `(tactic| wtm_at "lp") => `(tactic| skip)
local macro_rules | `(tactic| wtm_at "om") => `(tactic| first | omega | (simp; done) | (simp; omega) | (simp at *; omega))
local macro_rules | `(tactic| wtm_at "ty") => `(tactic| first | exact ty_str | exact ty_int | exact ty_bl | exact ty_non | (apply ty_lst; wtm_at "lk") | (apply ty_tup; wtm_at "lk"))
local macro_rules | `(tactic| wtm_at "kb") => `(tactic| first | exact kb_str_str | exact kb_str_int | exact kb_str_bool | exact kb_str_list | exact kb_str_tuple | exact kb_int_str | exact kb_int_int | exact kb_int_bool | exact kb_int_list | exact kb_int_tuple | exact kb_bool_str | exact kb_bool_int | exact kb_bool_bool | exact kb_bool_list | exact kb_bool_tuple | exact kb_list_str | exact kb_list_int | exact kb_list_bool | exact kb_list_list | exact kb_list_tuple | exact kb_tuple_str | exact kb_tuple_int | exact kb_tuple_bool | exact kb_tuple_list | exact kb_tuple_tuple | exact kb_NoneType_str | exact kb_NoneType_int | exact kb_NoneType_bool | exact kb_NoneType_list | exact kb_NoneType_tuple | exact kb_dict_str | exact kb_dict_int | exact kb_dict_bool | exact kb_dict_list | exact kb_dict_tuple)
local macro_rules | `(tactic| wtm_at "gx1") => `(tactic| first | ((with_reducible apply g_eqS); (· exact rfl)) | ((with_reducible apply g_neS); (· exact rfl)) | wtm_at "go1" | with_reducible apply g_min2 | with_reducible apply g_max2 | with_reducible apply g_T | with_reducible apply g_F | with_reducible apply g_NT | with_reducible apply g_NF | with_reducible apply g_nT | with_reducible apply g_nF | with_reducible apply g_RT | with_reducible apply g_RF | ((with_reducible apply g_isi); (· wtm_at "ty"); (· wtm_at "kb")) | ((with_reducible apply g_ixAU3); (· wtm_at "lk"); (· exact rfl)) | ((with_reducible apply g_ixAL3); (· wtm_at "lk"); (· exact rfl)) | ((with_reducible apply g_ixU3); (· wtm_at "lk"); (· exact rfl)) | ((with_reducible apply g_lenL3); (· wtm_at "lk")) | ((with_reducible apply g_lenU3); (· wtm_at "lk")) | ((with_reducible apply g_tyL3); (· wtm_at "lk")) | ((with_reducible apply g_lenT); (· wtm_at "pv")) | wtm_at "tr" | with_reducible apply g_ET | with_reducible apply g_EF | with_reducible apply g_EnT | with_reducible apply g_EnF)
local macro_rules | `(tactic| wtm_at "pv") => `(tactic| first | exact rfl | assumption | omega | (simp; done) | (simp; omega))
local macro_rules | `(tactic| wtm_at "tr") => `(tactic| first | ((with_reducible apply g_Td); (· wtm_at "pv")) | ((with_reducible apply g_Fd); (· wtm_at "pv")) | ((with_reducible apply g_NTd); (· wtm_at "pv")) | ((with_reducible apply g_NFd); (· wtm_at "pv")) | ((with_reducible apply g_nTd); (· wtm_at "pv")) | ((with_reducible apply g_nFd); (· wtm_at "pv")) | ((with_reducible apply g_RTd); (· wtm_at "pv")) | ((with_reducible apply g_RFd); (· wtm_at "pv")))
local macro_rules | `(tactic| wtm_at "gx") => `(tactic| repeat wtm_at "gx1")
local macro_rules | `(tactic| wtm_at "unfS") => `(tactic| (try simp only [tSeq, tNext, tAsg, tFor_eq, C8.tCut, wipe, gName, tDrop, List.set_cons_zero, List.set_cons_succ, cx_K]))
local macro_rules | `(tactic| wtm_at "rd1") => `(tactic| first | exact rd_int | exact rd_str | exact rd_bl | exact rd_non | exact rda_nil | apply rda_cons | (with_reducible apply rd_tup; (· assumption)) | (with_reducible apply rd_lst; (· assumption)) | exact rd_dic (by assumption) | exact rd_var rfl (.int _) | exact rd_var rfl (.str _) | exact rd_var rfl (.bl _) | exact rd_var rfl (by assumption) | (with_reducible apply rd_cat; (· assumption)) | (with_reducible apply rd_rep2; (· assumption)) | (with_reducible apply rd_rev; (· assumption)) | (with_reducible apply rd_to; (· assumption)) | (with_reducible apply rd_from; (· assumption)) | (with_reducible apply rd_tupOf; (· assumption)) | (with_reducible apply rd_lstOf; (· assumption)) | with_reducible apply rd_lenL | with_reducible apply rd_lenT | with_reducible apply rd_I0 | with_reducible apply rd_I | with_reducible apply rd_U | with_reducible apply rd_eqI | with_reducible apply rd_ixL | with_reducible apply rd_ixT | exact atI_hd _ _ | exact ‹atI _ _ = some _›)
local macro_rules | `(tactic| wtm_at "rdl") => `(tactic| first | decide | omega | wtm_at "sc" | (simp only [List.length_append, List.length_cons, List.length_nil, List.length_map, List.length_take, List.length_drop, List.length_reverse, cutTo]; omega))
local macro_rules | `(tactic| wtm_at "rd") => `(tactic| ((repeat' wtm_at "rd1"); (all_goals wtm_at "rdl")))
local macro_rules | `(tactic| wtm_at "nc") => `(tactic| repeat' (first | assumption | exact nca_nil | exact nc_non | exact nc_bl | exact nc_dic | exact nc_tup0 | exact nc_lst0 | (refine nc_strS (by decide) (by decide)) | (refine nc_int (by omega)) | (refine nc_big (by decide +kernel)) | refine nca_app ?_ ?_ | refine nca_cons ?_ ?_ | refine nca_take ?_ | refine nca_drop ?_ | refine nca_cutTo ?_ | refine nca_rev ?_ | refine nc_tup (by decide) ?_ | refine nc_lst (by decide) ?_ | refine nc_lst (Nat.le_trans (show _ ≤ 45 by wtm_at "rdl") (by decide)) ?_ | refine nc_tup (Nat.le_trans (show _ ≤ 45 by wtm_at "rdl") (by decide)) ?_))

section
variable {P : Program} {w : World} {K : PySem.W.Frag} {mg : Str → Option Value} {base : Heap}
def setE (e : Nat → Nat → Int) (k t : Nat) (z : Int) : Nat → Nat → Int := fun a b => if a = k ∧ b = k + t then z else e a b
theorem rowV_set {e : Nat → Nat → Int} {k n t : Nat} {z : Int} : (rowV e k n).set t (V.int z) = rowV (setE e k t z) k n := by
  refine List.ext_getElem? fun u => ?_
  by_cases hu : u < n
  · rw [rowV_at hu]
    by_cases e1 : u = t
    · subst e1
      rw [List.getElem?_set_self (by rw [rowV_len]; exact hu)]
      unfold setE
      rw [if_pos ⟨rfl, rfl⟩]
    · rw [List.getElem?_set_ne (fun h => e1 h.symm), rowV_at hu]
      unfold setE
      rw [if_neg (fun h => e1 (by omega))]
  · rw [List.getElem?_eq_none (by rw [List.length_set, rowV_len]; omega), List.getElem?_eq_none (by rw [rowV_len]; omega)]
theorem rowV_other {e : Nat → Nat → Int} {k n t i : Nat} {z : Int} (h : i ≠ k) : rowV (setE e k t z) i n = rowV e i n := by
  unfold rowV
  refine List.map_congr_left fun u _ => ?_
  unfold setE
  rw [if_neg (fun q => h q.1)]
theorem Tab.setE {H H' : Hp} {d r : Addr} {rs : List Addr} {e : Nat → Nat → Int} {n k t : Nat} {z : Int} (T : Tab H d rs (fun k => rowV e k (n + 1 - k))) (hk : rs[k]? = some r) (s : But r H H') (h : H' r = some (.lst ((rowV e k (n + 1 - k)).set t (V.int z)))) : Tab H' d rs (fun k' => rowV (setE e k t z) k' (n + 1 - k')) :=
  (Tab.set T hk s h).congr fun i hi => by
    by_cases e1 : i = k
    · rw [if_pos e1, e1, rowV_set]
    · rw [if_neg e1, rowV_other e1]
theorem dxa_of {H : Hp} : ∀ {xs : List V} {ds : List PyData}, xs.length = ds.length → (∀ (k : Nat) (x : V) (d : PyData), xs[k]? = some x → ds[k]? = some d → Dx H x d) → DxAll H xs ds
  | [], [], _, _ => .nil
  | [], d :: ds, h, _ => by cases h
  | x :: xs, [], h, _ => by cases h
  | x :: xs, d :: ds, h, hk => .cons (hk 0 x d rfl rfl) (dxa_of (by simpa using h) fun k y z h1 h2 => hk (k + 1) y z h1 h2)
theorem dx_rowV {H : Hp} {e : Nat → Nat → Int} {k n : Nat} : DxAll H (rowV e k n) ((List.range n).map fun t => PyData.int (e k (k + t))) := by
  refine dxa_of (by rw [rowV_len, List.length_map, List.length_range]) fun u x d h1 h2 => ?_
  have hu : u < n := by have := (List.getElem?_eq_some_iff.mp h1).1; rw [rowV_len] at this; exact this
  rw [rowV_at hu] at h1
  rw [List.getElem?_map, List.getElem?_range hu] at h2
  rw [← Option.some.inj h1, ← Option.some.inj h2]
  exact .int _
theorem tab_row {H : Hp} {d r : Addr} {ps rs : List Addr} {e : Nat → Nat → Int} {n k : Nat} (T : Tab H d rs (fun k => rowV e k (n + 1 - k))) (hk : rs[k]? = some r) (hp : ∀ q ∈ ps, q ∉ rs) : Dx (del ps H) (.ref r) (tabR e n k) :=
  .lst (del_get (fun h => hp r h (List.mem_of_getElem? hk)) (T.r k r hk)) dx_rowV
theorem tab_rows {H : Hp} {d : Addr} {ps rs : List Addr} {e : Nat → Nat → Int} {n : Nat} (T : Tab H d rs (fun k => rowV e k (n + 1 - k))) (hl : rs.length = n + 1) (hp : ∀ q ∈ ps, q ∉ rs) : DxAll (del ps H) (rs.map V.ref) ((List.range (n + 1)).map (tabR e n)) := by
  refine dxa_of (by rw [List.length_map, List.length_map, List.length_range, hl]) fun k x D h1 h2 => ?_
  have hk : k < n + 1 := by have := (List.getElem?_eq_some_iff.mp h2).1; rw [List.length_map, List.length_range] at this; exact this
  rw [tabD_at hk] at h2
  rw [List.getElem?_map] at h1
  obtain ⟨r, hr⟩ : ∃ r, rs[k]? = some r := ⟨_, List.getElem?_eq_getElem (by omega)⟩
  rw [hr] at h1
  rw [← Option.some.inj h1, ← Option.some.inj h2]
  exact tab_row T hr hp
theorem one_not {p : Addr} {rs : List Addr} (h : p ∉ rs) : ∀ q ∈ [p], q ∉ rs := fun q hq => by rw [List.mem_singleton.mp hq]; exact h
theorem dx_tabP {H : Hp} {d : Addr} {ps rs : List Addr} {e : Nat → Nat → Int} {n : Nat} (T : Tab H d rs (fun k => rowV e k (n + 1 - k))) (hl : rs.length = n + 1) (hd : d ∉ ps) (hp : ∀ q ∈ ps, q ∉ rs) : Dx (del ps H) (.ref d) (tabD e n) := .lst (del_get hd T.hd) (tab_rows T hl hp)
theorem dx_tab {H : Hp} {d p : Addr} {rs : List Addr} {e : Nat → Nat → Int} {n : Nat} (T : Tab H d rs (fun k => rowV e k (n + 1 - k))) (hl : rs.length = n + 1) (hd : p ≠ d) (hp : p ∉ rs) : Dx (del [p] H) (.ref d) (tabD e n) := dx_tabP T hl (by simpa using Ne.symm hd) (one_not hp)
/-- a table one row of which is any list -/
theorem dx_tabk {H H' : Hp} {d r : Addr} {ps rs : List Addr} {e : Nat → Nat → Int} {n k : Nat} {ys : List V} {ds : List PyData} (T : Tab H d rs (fun k => rowV e k (n + 1 - k))) (hl : rs.length = n + 1) (hd : d ∉ ps) (hp : ∀ q ∈ ps, q ∉ rs) (hk : rs[k]? = some r) (s : But r H H') (hr : H' r = some (.lst ys)) (hy : DxAll (del ps H') ys ds) : Dx (del ps H') (.ref d) (.list (((List.range (n + 1)).map (tabR e n)).set k (.list ds))) := by
  have T' := Tab.set T hk s hr
  refine .lst (del_get hd T'.hd) (dxa_of (by rw [List.length_set, List.length_map, List.length_map, List.length_range, hl]) fun k2 x D h1 h2 => ?_)
  have hk2 : k2 < n + 1 := by have := (List.getElem?_eq_some_iff.mp h2).1; rw [List.length_set, List.length_map, List.length_range] at this; exact this
  obtain ⟨r2, hr2⟩ : ∃ r, rs[k2]? = some r := ⟨_, List.getElem?_eq_getElem (by omega)⟩
  rw [List.getElem?_map, hr2] at h1
  rw [← Option.some.inj h1]
  have h3 := T'.r k2 r2 hr2
  have hrp : r2 ∉ ps := fun h => hp r2 h (List.mem_of_getElem? hr2)
  by_cases e1 : k2 = k
  · subst e1
    rw [List.getElem?_set_self (by rw [List.length_map, List.length_range]; exact hk2)] at h2
    rw [if_pos rfl] at h3
    rw [← Option.some.inj h2]
    exact .lst (del_get hrp h3) hy
  · rw [List.getElem?_set_ne (fun h => e1 h.symm), tabD_at hk2] at h2
    rw [if_neg e1] at h3
    rw [← Option.some.inj h2]
    exact .lst (del_get hrp h3) dx_rowV
theorem cons_not {a : Addr} {ps rs : List Addr} (h1 : a ∉ rs) (h : ∀ q ∈ ps, q ∉ rs) : ∀ q ∈ a :: ps, q ∉ rs := fun q hq => by
  rcases List.mem_cons.mp hq with rfl | hq
  · exact h1
  · exact h q hq
theorem nca_set {k n : Nat} {ds : List PyData} {d : PyData} (h : ncA k ds = true) (hd : nc k d = true) : ncA k (ds.set n d) = true := ncA_mem.mpr fun x hx => by
  rcases List.mem_or_eq_of_mem_set hx with hx | rfl
  · exact ncA_mem.mp h x hx
  · exact hd
theorem nc_ints {k : Nat} {zs : List Int} (h : ∀ z ∈ zs, z.natAbs ≤ 1000000) : ncA k (zs.map PyData.int) = true := ncA_mem.mpr fun d hd => by
  obtain ⟨z, hz, rfl⟩ := List.mem_map.mp hd
  exact nc_int (h z hz)
theorem nc_rowz {zs : List Int} (hl : zs.length ≤ 45) (h : ∀ z ∈ zs, z.natAbs ≤ 1000000) : nc 2 (.list (zs.map PyData.int)) = true := nc_lst (k := 1) (by rw [List.length_map]; exact hl) (nc_ints h)
theorem nc_rowd {e : Nat → Nat → Int} {j k m : Nat} (h : ∀ a b, (e a b).natAbs ≤ 1000000) : ncA j ((List.range m).map fun t => PyData.int (e k (k + t))) = true := ncA_mem.mpr fun d hd => by
  obtain ⟨t, _, rfl⟩ := List.mem_map.mp hd
  exact nc_int (h _ _)
theorem nc_tabR {e : Nat → Nat → Int} {n k : Nat} (hn : n ≤ 40) (h : ∀ a b, (e a b).natAbs ≤ 1000000) : nc 2 (tabR e n k) = true := by
  have := nc_rowz (zs := (List.range (n + 1 - k)).map fun t => e k (k + t)) (by rw [List.length_map, List.length_range]; omega) (fun z hz => by obtain ⟨t, _, rfl⟩ := List.mem_map.mp hz; exact h _ _)
  rw [List.map_map] at this
  exact this
theorem nc_tabs {e : Nat → Nat → Int} {n m : Nat} (hn : n ≤ 40) (h : ∀ a b, (e a b).natAbs ≤ 1000000) : ncA 2 ((List.range m).map (tabR e n)) = true := ncA_mem.mpr fun d hd => by
  obtain ⟨k, _, rfl⟩ := List.mem_map.mp hd
  exact nc_tabR hn h
theorem nc_of2 {ds : List PyData} (hl : ds.length ≤ 200) (h : ncA 2 ds = true) : nc 3 (.list ds) = true := nc_lst (k := 2) hl h
theorem nc_tabD {e : Nat → Nat → Int} {n : Nat} (hn : n ≤ 40) (h : ∀ a b, (e a b).natAbs ≤ 1000000) : nc 3 (tabD e n) = true := nc_of2 (by rw [List.length_map, List.length_range]; omega) (nc_tabs hn h)
/-! _law_copy -/
def sp_law_copy : Sp := fun vs H Q _ => ∃ (d : Addr) (rs : List Addr) (f : Nat → List V), vs = [.ref d] ∧ Tab H d rs f ∧ rs.length ≤ 1000 ∧ (∀ k, (f k).length ≤ 1000) ∧ ∀ (d' : Addr) (rs' : List Addr) (H' : Hp), Same H H' → (∀ x ∈ d' :: rs', H x = none) → rs'.length = rs.length → Tab H' d' rs' f → Q (.ref d') H'
theorem ok_law_copy (T : Facts K mg) : C8.Cal P w K mg base 1 "_law_copy" sp_law_copy [] := by
  refine calD T.f_law_copy sc_law_copy (fun vs H Q E h => ?_) (fun f cdv A outer s H vs Q E hr h => ?_)
  · obtain ⟨d, rs, f, rfl, hT, hrl, hf, q⟩ := h; rfl
  · obtain ⟨d, rs, f, rfl, hT, hrl, hf, q⟩ := h
    refine ⟨_, (pss_one (ps_ret (pe_lc (own := [("row", 1)]) (by rfl) sc_law_copy.nd (pi_list (pv 0)) (blkOk_by (own := [("row", 1)]) (N := N_law_copy) (sc := defScope s_law_copy) (by decide +kernel)) (fun _ _ _ _ _ => (pg_name (i := 1) sc_law_copy.nd rfl (Or.inl rfl))) (fun _ _ _ _ _ => pts_nil) (fun _ _ _ _ _ => (pe_callTy (r := rListOf K) call_listOf rfl T.b_list (by decide +kernel) (pa_cons (pv 1) pa_nil)))))), ?_⟩
    rw [st_law_copy]
    wtm_at "unf"
    wtm_at "gx"
    refine ⟨d, rfl, ⟨_, sq_of hT.hd⟩, lc_lst (rs.map V.ref) fun d' H1 nd s1 ed => ⟨fun pre G => ∃ rs' : List Addr, rs'.length = pre.length ∧ Same H G ∧ (∀ x ∈ rs', H x = none) ∧ Tab G d' rs' f, ⟨[], rfl, s1, by simp, ⟨ed, by simp, by simp, by simp⟩⟩, fun pre post G e hv => ?_, fun pre x post G e hv => ?_, fun G hv => ?_⟩⟩
    · obtain ⟨rs', h1, sG, h2, h3⟩ := hv
      exact sq_of (sG _ _ hT.hd)
    · obtain ⟨rs', hrl', sG, hfr, hT'⟩ := hv
      have hx := mid_at e
      obtain ⟨k, hk⟩ : ∃ k, pre.length = k := ⟨_, rfl⟩
      rw [hk] at hx hrl'
      have hkl : k < rs.length := by have := (List.getElem?_eq_some_iff.mp hx).1; rw [List.length_map] at this; exact this
      obtain ⟨r, r1, r2, r3⟩ := (hT.same sG).row hkl
      rw [r2] at hx
      have hx' := (Option.some.inj hx).symm
      subst hx'
      wtm_at "unf"
      refine ⟨rfl, ?_⟩
      wtm_at "gx"
      refine g_listOfL r3 fun r' G2 nr' s2 er' => ?_
      have hT9 := hT'.same s2
      obtain ⟨g1, g2⟩ := hT'.fresh nr'
      refine lc_put hT9.hd (by rw [List.length_map]; omega) fun G3 b3 e3 => ?_
      refine ⟨rs' ++ [r'], by simp [hrl', hk], Same.b0 b3 (sG.trans s2) nd, fun x hx => ?_, ?_⟩
      · rcases List.mem_append.mp hx with hx | hx
        · exact hfr x hx
        · rw [List.mem_singleton.mp hx]
          exact sG.free nr'
      · refine (Tab.snoc hT9 (b3 _ _ g1 er') (by rw [e3, List.map_append]; rfl) g2 (Ne.symm g1) (fun q hq o ho => b3 _ _ (fun e => hT9.nin (by rw [← e]; exact hq)) ho)).congr fun k2 hk2 => ?_
        by_cases e4 : k2 = rs'.length
        · rw [if_pos e4, e4, hrl']
        · rw [if_neg e4]
    · obtain ⟨rs', hrl', sG, hfr, hT'⟩ := hv
      refine q d' rs' G sG (fun x hx => ?_) (by rw [hrl', List.length_map]) hT'
      rcases List.mem_cons.mp hx with rfl | hx
      · exact nd
      · exact hfr x hx
/-! _law_lower -/
def sp_law_lower : Sp := fun vs H Q _ => ∃ (p : Addr) (P0 : Wl) (d : Addr) (rs : List Addr) (e : Nat → Nat → Int) (n : Nat), vs = [.ref p, .ref d] ∧ H p = some P0.o ∧ Tab H d rs (fun k => rowV e k (n + 1 - k)) ∧ rs.length = n + 1 ∧ n ≤ 40 ∧ p ≠ d ∧ p ∉ rs ∧ ∀ (d' : Addr) (rs' : List Addr) (e' : Nat → Nat → Int) (P1 : Wl) (H' : Hp), But p H H' → H' p = some P1.o → (∀ x ∈ d' :: rs', H x = none) → rs'.length = n + 1 → Tab H' d' rs' (fun k => rowV e' k (n + 1 - k)) → (∀ a b, (e' a b).natAbs ≤ (e a b).natAbs + 6) → Q (.ref d') H'
theorem ok_law_lower (T : Facts K mg) : C8.Cal P w K mg base 2 "_law_lower" sp_law_lower [] := by
  refine calD T.f_law_lower sc_law_lower (fun vs H Q E h => ?_) (fun f cdv A outer s H vs Q E hr h => ?_)
  · obtain ⟨p, P0, d, rs, e, n, rfl, hp, hT, hrl, hn, hpd, hpr, q⟩ := h; rfl
  · obtain ⟨p, P0, d, rs, e, n, rfl, hp, hT, hrl, hn, hpd, hpr, q⟩ := h
    refine ⟨_, (pss_cons (ps_set (i := 2) sc_law_lower.nd rfl (Or.inl rfl) (pe_own (ok_law_copy T) hr (by omega) rfl (pa_cons (pv 1) pa_nil)))
       (pss_cons (ps_for PassesOwn.never rfl (pi_range1 rfl T.b_range (pa_cons (pe_op op_add pe_int (pe_own (ok_law_draw T) hr (by omega) rfl (pa_cons (pv 0) (pa_cons pe_int pa_nil)))) pa_nil)) (pg_name (i := 3) sc_law_lower.nd rfl (Or.inl rfl))
       (pss_cons (ps_set (i := 4) sc_law_lower.nd rfl (Or.inl rfl) (pe_own (ok_law_draw T) hr (by omega) rfl (pa_cons (pv 0) (pa_cons (pe_callB call_lenL rfl T.b_len PySem.boot_len (pa_cons (pv 2) pa_nil)) pa_nil))))
       (pss_cons (ps_set (i := 5) sc_law_lower.nd rfl (Or.inl rfl) (pe_own (ok_law_draw T) hr (by omega) rfl (pa_cons (pv 0) (pa_cons (pe_callB call_lenL rfl T.b_len PySem.boot_len (pa_cons (pe_ix ix_list (pv 2) (pv 4) (fun _ _ => rfl)) pa_nil)) pa_nil))))
       (pss_one (ps_if (pt_cmpR op_gt (pv 5) pe_int (nomark _))
       (pss_one (ps_asg (pe_op op_sub (pe_op op_sub (pe_ix ix_list (pe_ix ix_list (pv 2) (pv 4) (fun _ _ => rfl)) (pv 5) (fun _ _ => rfl)) pe_int) (pe_own (ok_law_draw T) hr (by omega) rfl (pa_cons (pv 0) (pa_cons pe_int pa_nil)))) (pg_sub (pe_ix ix_list (pv 2) (pv 4) (fun _ _ => rfl)) (pv 5) set_list)))
       pss_nil)))))
       (pss_one (ps_ret (pv 2))))), ?_⟩
    rw [st_law_lower]
    wtm_at "unf"
    wtm_at "gx"
    refine ⟨d, rs, _, rfl, hT, by omega, fun k => by rw [rowV_len]; omega, fun d' rs' H1 s1 hfr hrl' hT' => ?_⟩
    rw [hrl] at hrl'
    have ep1 := s1 _ _ hp
    have hpd' : p ≠ d' := fun e => by have := hfr d' (List.mem_cons_self ..); rw [← e, hp] at this; cases this
    have hpr' : p ∉ rs' := fun h => by have := hfr p (List.mem_cons_of_mem _ h); rw [hp] at this; cases this
    wtm_at "gx"
    refine ⟨p, P0, 3, rfl, ep1, by decide, by decide, fun r P1 H2 r0 r1 b2 e2 => ?_⟩
    obtain ⟨m, rfl⟩ := Int.eq_ofNat_of_zero_le r0
    wtm_at "gx"
    refine ⟨_, rfl, by omega, by omega, for_rng (fun i σ G => ∃ (e' : Nat → Nat → Int) (P : Wl) (y3 y4 y5 : Option V), σ = [some (V.ref p), some (V.ref d), some (V.ref d'), y3, y4, y5] ∧ G p = some P.o ∧ Tab G d' rs' (fun k => rowV e' k (n + 1 - k)) ∧ (∀ a b, (e' a b).natAbs ≤ (e a b).natAbs + 2 * i) ∧ But p H G) ⟨e, P1, _, _, _, rfl, e2, hT'.but b2 hpd' hpr', fun a b => by omega, But.tr b2 (Same.toBut s1)⟩ (fun i σ G hi hv => ?_) (fun σ G hv => ?_)⟩
    · obtain ⟨e', P, y3, y4, y5, rfl, ep, hTG, hb, bG⟩ := hv
      have hi3 : i < 3 := by omega
      wtm_at "unf"
      wtm_at "gx"
      refine g_lenL (sq_of hTG.hd) ?_
      rw [List.length_map, hrl']
      refine ⟨p, P, _, rfl, ep, by omega, by omega, fun u P2 G2 u0 u1 b2 e2 => ?_⟩
      obtain ⟨k, rfl⟩ := Int.eq_ofNat_of_zero_le u0
      have hk : k < n + 1 := by omega
      have hT2 := hTG.but b2 hpd' hpr'
      obtain ⟨r, r1, r2, r3⟩ := hT2.row (k := k) (by omega)
      wtm_at "gx"
      refine g_ixLn k (sq_of hT2.hd) rfl r2 ?_
      refine g_lenL (sq_of r3) ?_
      rw [rowV_len]
      refine ⟨p, P2, _, rfl, e2, by omega, by omega, fun v P3 G3 v0 v1 b3 e3 => ?_⟩
      obtain ⟨t, rfl⟩ := Int.eq_ofNat_of_zero_le v0
      have hT3 := hT2.but b3 hpd' hpr'
      have hrp : r ≠ p := fun e => hpr' (by rw [← e]; exact List.mem_of_getElem? r1)
      have r3' := b3 _ _ hrp r3
      have b13 : But p H G3 := But.tr b3 (But.tr b2 bG)
      wtm_at "gx"
      refine g_test (fun ht => ?_) (fun ht => ?_)
      · wtm_at "gx"
        refine g_ixLn k (sq_of hT3.hd) rfl r2 ?_
        wtm_at "gx"
        refine g_ixLn t (sq_of r3') rfl (rowV_at (by omega)) ?_
        wtm_at "gx"
        refine ⟨p, P3, 2, rfl, e3, by decide, by decide, fun w P4 G4 w0 w1 b4 e4 => ?_⟩
        have hT4 := hT3.but b4 hpd' hpr'
        have r4 := b4 _ _ hrp r3'
        wtm_at "gx"
        refine g_ixLn k (sq_of hT4.hd) rfl r2 ?_
        wtm_at "gx"
        refine g_setLn t r4 rfl (by rw [rowV_len]; omega) fun G5 b5 e5 => ?_
        have hrH : H r = none := hfr r (List.mem_cons_of_mem _ (List.mem_of_getElem? r1))
        refine ⟨setE e' k t (e' k (k + t) - 1 - w), P4, _, _, _, rfl, b5 _ _ (Ne.symm hrp) e4, Tab.setE hT4 r1 b5 e5, fun a b => ?_, But.b0 b5 (But.tr b4 b13) hrH⟩
        unfold setE
        split
        · rename_i hab
          rw [hab.1, hab.2]
          have := hb k (k + t)
          omega
        · have := hb a b
          omega
      · exact ⟨e', P3, _, _, _, rfl, e3, hT3, fun a b => by have := hb a b; omega, b13⟩
    · obtain ⟨e', P, y3, y4, y5, rfl, ep, hTG, hb, bG⟩ := hv
      wtm_at "unf"
      wtm_at "gx"
      exact q d' rs' e' P G bG ep hfr hrl' hTG fun a b => by have := hb a b; omega
/-! _law_forged -/
def sp_law_forged : Sp := fun vs H Q _ => ∃ (p : Addr) (P0 : Wl) (d : Addr) (rs : List Addr) (e : Nat → Nat → Int) (n : Nat) (y0 : Addr), vs = [.ref p, .ref d] ∧ H p = some P0.o ∧ Tab H d rs (fun k => rowV e k (n + 1 - k)) ∧ rs.length = n + 1 ∧ n ≤ 40 ∧ p ≠ d ∧ p ∉ rs ∧ (∃ o, H y0 = some o) ∧ (∀ a b, (e a b).natAbs ≤ 1000) ∧ ∀ (v : V) (D : PyData) (P1 : Wl) (H' : Hp), But p H H' → H' p = some P1.o → Dx (del [y0, p] H') v D → nc 3 D = true → Q v H'
theorem ok_law_forged (T : Facts K mg) : C8.Cal P w K mg base 3 "_law_forged" sp_law_forged [] := by
  refine calD T.f_law_forged sc_law_forged (fun vs H Q E h => ?_) (fun f cdv A outer s H vs Q E hr h => ?_)
  · obtain ⟨p, P0, d, rs, e, n, y0, rfl, hp, hT, hrl, hn, hpd, hpr, hy0, he, q⟩ := h; rfl
  · obtain ⟨p, P0, d, rs, e, n, y0, rfl, hp, hT, hrl, hn, hpd, hpr, hy0, he, q⟩ := h
    refine ⟨_, (pss_cons (ps_set (i := 2) sc_law_forged.nd rfl (Or.inl rfl) (pe_own (ok_law_copy T) hr (by omega) rfl (pa_cons (pv 1) pa_nil)))
       (pss_cons (ps_set (i := 3) sc_law_forged.nd rfl (Or.inl rfl) (pe_own (ok_law_draw T) hr (by omega) rfl (pa_cons (pv 0) (pa_cons (pe_callB call_lenL rfl T.b_len PySem.boot_len (pa_cons (pv 2) pa_nil)) pa_nil))))
       (pss_cons (ps_set (i := 4) sc_law_forged.nd rfl (Or.inl rfl) (pe_own (ok_law_draw T) hr (by omega) rfl (pa_cons (pv 0) (pa_cons (pe_callB call_lenL rfl T.b_len PySem.boot_len (pa_cons (pe_ix ix_list (pv 2) (pv 3) (fun _ _ => rfl)) pa_nil)) pa_nil))))
       (pss_cons (ps_set (i := 5) sc_law_forged.nd rfl (Or.inl rfl) (pe_own (ok_law_draw T) hr (by omega) rfl (pa_cons (pv 0) (pa_cons pe_int pa_nil))))
       (C8.pss_cut (ps_if (pt_cmpR op_lt (pv 5) pe_int (nomark _))
       (pss_one (ps_asg (pe_op op_add (pe_ix ix_list (pe_ix ix_list (pv 2) (pv 3) (fun _ _ => rfl)) (pv 4) (fun _ _ => rfl)) (pe_ix ix_list (pe_lst (pa_cons pe_int (pa_cons pe_int (pa_cons pe_int (pa_cons (pe_un un_neg pe_int) pa_nil))))) (pv 5) (fun _ _ => rfl))) (pg_sub (pe_ix ix_list (pv 2) (pv 3) (fun _ _ => rfl)) (pv 4) set_list)))
       (pss_one (ps_if (pt_cmpR op_eq (pv 5) pe_int (nomark _))
       (pss_cons (ps_set (i := 6) sc_law_forged.nd rfl (Or.inl rfl) (pe_lst (pa_cons pe_non (pa_cons pe_bl (pa_cons pe_bl (pa_cons (pe_strS (l := [48]) (by decide +kernel)) (pa_cons (pe_lst (pa_cons pe_int pa_nil)) (pa_cons (pe_tup (pa_cons pe_int pa_nil)) (pa_cons pe_dnewK (pa_cons (pe_op op_pow pe_int pe_int) (pa_cons (pe_op op_sub pe_int (pe_op op_pow pe_int pe_int)) (pa_cons (pe_strS (l := []) (by decide +kernel)) pa_nil))))))))))))
       (pss_one (ps_asg (pe_ix ix_list (pv 6) (pe_own (ok_law_draw T) hr (by omega) rfl (pa_cons (pv 0) (pa_cons pe_int pa_nil))) (fun _ _ => rfl)) (pg_sub (pe_ix ix_list (pv 2) (pv 3) (fun _ _ => rfl)) (pv 4) set_list))))
       (pss_one (ps_if (pt_cmpR op_eq (pv 5) pe_int (nomark _))
       (pss_cons (ps_set (i := 7) sc_law_forged.nd rfl (Or.inl rfl) (pe_ix ix_list (pv 2) (pv 3) (fun _ _ => rfl)))
       (pss_cons (ps_set (i := 8) sc_law_forged.nd rfl (Or.inl rfl) (pe_lst (pa_cons (pe_callTy (r := rTupleOf K) call_tupleOf rfl T.b_tuple (by decide +kernel) (pa_cons (pv 7) pa_nil)) (pa_cons pe_non (pa_cons pe_int (pa_cons (pe_lst pa_nil) (pa_cons (pe_op op_cat (pv 7) (pe_lst (pa_cons pe_int pa_nil))) (pa_cons (pe_slice sl_list (pv 7) po_none (po_some (pe_un un_neg pe_int))) (pa_cons pe_dnewK pa_nil)))))))))
       (pss_one (ps_asg (pe_ix ix_list (pv 8) (pe_own (ok_law_draw T) hr (by omega) rfl (pa_cons (pv 0) (pa_cons pe_int pa_nil))) (fun _ _ => rfl)) (pg_sub (pv 2) (pv 3) set_list)))))
       (pss_one (ps_if (pt_cmpR op_eq (pv 5) pe_int (nomark _))
       (pss_cons (ps_set (i := 8) sc_law_forged.nd rfl (Or.inl rfl) (pe_lst (pa_cons (pe_op op_cat (pe_slice sl_list (pv 2) po_none (po_some (pv 3))) (pe_slice sl_list (pv 2) (po_some (pe_op op_add (pv 3) pe_int)) po_none)) (pa_cons (pe_op op_cat (pv 2) (pe_lst (pa_cons (pe_lst (pa_cons pe_int pa_nil)) pa_nil))) (pa_cons (pe_op op_cat (pv 2) (pe_lst (pa_cons (pe_lst pa_nil) pa_nil))) (pa_cons (pe_revL (pv 2)) (pa_cons (pe_callTy (r := rTupleOf K) call_tupleOf rfl T.b_tuple (by decide +kernel) (pa_cons (pv 2) pa_nil)) pa_nil)))))))
       (pss_one (ps_set (i := 2) sc_law_forged.nd rfl (Or.inl rfl) (pe_ix ix_list (pv 8) (pe_own (ok_law_draw T) hr (by omega) rfl (pa_cons (pv 0) (pa_cons pe_int pa_nil))) (fun _ _ => rfl)))))
       (pss_one (ps_if (pt_cmpR op_eq (pv 5) pe_int (nomark _))
       (pss_one (ps_setLc (i := 2) (own := [("row", 7)]) (by rfl) sc_law_forged.nd rfl rfl (sw_true rfl rfl rfl (by decide +kernel)) (pi_list (pv 2)) (blkOk_by (own := [("row", 7)]) (N := N_law_forged) (sc := defScope s_law_forged) (by decide +kernel)) (fun _ _ _ _ _ => (pg_name (i := 7) sc_law_forged.nd rfl (Or.inl rfl))) (fun _ _ _ _ _ => pts_nil) (fun _ _ _ _ _ => (pe_lc (own := [("k", 9)]) (by rfl) sc_law_forged.nd (pi_range1 rfl T.b_range (pa_cons (pe_callB (r := rLenL K) call_lenL rfl T.b_len PySem.boot_len (pa_cons (pv 7) pa_nil)) pa_nil)) (blkOk_by (own := [("k", 9)]) (N := N_law_forged) (sc := rlSc (lcScS ((bodyS ((elseS ((elseS ((elseS ((elseS ((defBody s_law_forged).getD 4 (.Pass ⟨0, 0, 0, 0⟩))).getD 0 (.Pass ⟨0, 0, 0, 0⟩))).getD 0 (.Pass ⟨0, 0, 0, 0⟩))).getD 0 (.Pass ⟨0, 0, 0, 0⟩))).getD 0 (.Pass ⟨0, 0, 0, 0⟩))).getD 0 (.Pass ⟨0, 0, 0, 0⟩))) (defScope s_law_forged)) (by decide +kernel)) (fun _ _ _ _ _ => (pg_name (i := 9) sc_law_forged.nd rfl (Or.inl rfl))) (fun _ _ _ _ _ => pts_nil) (fun _ _ _ _ _ => (pe_op op_sub pe_int (pe_op op_mul (pe_own (ok_law_draw T) hr (by omega) rfl (pa_cons (pv 0) (pa_cons pe_int pa_nil))) (pe_callTy call_intB rfl T.b_int (by decide +kernel) (pa_cons (pe_cmpR op_gt (pv 9) pe_int (nomark _)) pa_nil)))))))))
       (pss_one (ps_if (pt_cmpR op_eq (pv 5) pe_int (nomark _))
       (pss_one (ps_asg (pe_callTy (r := rListOf K) call_listOf rfl T.b_list (by decide +kernel) (pa_cons (pe_ix ix_list (pv 2) (pe_op op_sub (pv 3) pe_int) (fun _ _ => rfl)) pa_nil)) (pg_sub (pv 2) (pv 3) set_list)))
       (pss_one (ps_if (pt_cmpR op_eq (pv 5) pe_int (nomark _))
       (pss_one (ps_set (i := 2) sc_law_forged.nd rfl (Or.inl rfl) (pe_own (ok_law_lower T) hr (by omega) rfl (pa_cons (pv 0) (pa_cons (pv 2) pa_nil)))))
       (pss_one (ps_if (pt_cmpR op_eq (pv 5) pe_int (nomark _))
       (pss_one (ps_setLc (i := 2) (own := [("row", 7)]) (by rfl) sc_law_forged.nd rfl rfl (sw_true rfl rfl rfl (by decide +kernel)) (pi_list (pv 2)) (blkOk_by (own := [("row", 7)]) (N := N_law_forged) (sc := defScope s_law_forged) (by decide +kernel)) (fun _ _ _ _ _ => (pg_name (i := 7) sc_law_forged.nd rfl (Or.inl rfl))) (fun _ _ _ _ _ => pts_nil) (fun _ _ _ _ _ => (pe_lc (own := [("k", 9), ("entry", 10)]) (g := gTup K 2 (gCons (gName 9) (gCons (gName 10) gNil))) (by rfl) sc_law_forged.nd (pi_enumK (K := K) rfl rfl T.b_enumerate (pa_cons (pv 7) pa_nil)) (blkOk_by (own := [("k", 9), ("entry", 10)]) (N := N_law_forged) (sc := rlSc (lcScS ((bodyS ((elseS ((elseS ((elseS ((elseS ((elseS ((elseS ((elseS ((defBody s_law_forged).getD 4 (.Pass ⟨0, 0, 0, 0⟩))).getD 0 (.Pass ⟨0, 0, 0, 0⟩))).getD 0 (.Pass ⟨0, 0, 0, 0⟩))).getD 0 (.Pass ⟨0, 0, 0, 0⟩))).getD 0 (.Pass ⟨0, 0, 0, 0⟩))).getD 0 (.Pass ⟨0, 0, 0, 0⟩))).getD 0 (.Pass ⟨0, 0, 0, 0⟩))).getD 0 (.Pass ⟨0, 0, 0, 0⟩))).getD 0 (.Pass ⟨0, 0, 0, 0⟩))) (defScope s_law_forged)) (by decide +kernel)) (fun _ _ _ _ _ => (pg_tup rfl (pgs_cons (pg_name (i := 9) sc_law_forged.nd rfl (Or.inl rfl)) (pgs_cons (pg_name (i := 10) sc_law_forged.nd rfl (Or.inl rfl)) pgs_nil)))) (fun _ _ _ _ _ => pts_nil) (fun _ _ _ _ _ => (pe_op op_add (pv 10) (pe_callTy call_intB rfl T.b_int (by decide +kernel) (pa_cons (pe_cmpR op_gt (pv 9) pe_int (nomark _)) pa_nil))))))))
       pss_nil)))))))))))))))
       (pss_one (ps_ret (pv 2)))))))), ?_⟩
    rw [st_law_forged]
    have hb6 : ∀ a b, (e a b).natAbs ≤ 1000000 := fun a b => Nat.le_trans (he a b) (by decide)
    wtm_at "unf"
    wtm_at "gx"
    refine ⟨d, rs, _, rfl, hT, by omega, fun k => by rw [rowV_len]; omega, fun d' rs' H1 s1 hfr hrl' hT' => ?_⟩
    rw [hrl] at hrl'
    have ep1 := s1 _ _ hp
    have hps : Std [y0, p] H := .cons hy0.choose_spec (.cons hp .nil)
    have hds : d' ∉ [y0, p] := hps.new (hfr d' (List.mem_cons_self ..))
    have hrs : ∀ q ∈ [y0, p], q ∉ rs' := fun q hq h => hps.new (hfr q (List.mem_cons_of_mem _ h)) hq
    have hpd' : p ≠ d' := fun e => by have := hfr d' (List.mem_cons_self ..); rw [← e, hp] at this; cases this
    have hpr' : p ∉ rs' := fun h => by have := hfr p (List.mem_cons_of_mem _ h); rw [hp] at this; cases this
    have nd' : H d' = none := hfr d' (List.mem_cons_self ..)
    wtm_at "gx"
    refine g_lenL (sq_of hT'.hd) ?_
    rw [List.length_map, hrl']
    refine ⟨p, P0, _, rfl, ep1, by omega, by omega, fun u P2 H2 u0 u1 b2 e2 => ?_⟩
    obtain ⟨k, rfl⟩ := Int.eq_ofNat_of_zero_le u0
    have hk : k < n + 1 := by omega
    have hT2 := hT'.but b2 hpd' hpr'
    obtain ⟨r, r1, r2, r3⟩ := hT2.row (k := k) (by omega)
    wtm_at "gx"
    refine g_ixLn k (sq_of hT2.hd) rfl r2 ?_
    refine g_lenL (sq_of r3) ?_
    rw [rowV_len]
    refine ⟨p, P2, _, rfl, e2, by omega, by omega, fun v P3 H3 v0 v1 b3 e3 => ?_⟩
    obtain ⟨t, rfl⟩ := Int.eq_ofNat_of_zero_le v0
    have hT3 := hT2.but b3 hpd' hpr'
    have hrp : r ≠ p := fun e => hpr' (by rw [← e]; exact List.mem_of_getElem? r1)
    wtm_at "gx"
    refine ⟨p, P3, 12, rfl, e3, by decide, by decide, fun w P4 H4 w0 w1 b4 e4 => ?_⟩
    have hT4 := hT3.but b4 hpd' hpr'
    have r4 : H4 r = some (.lst (rowV e k (n + 1 - k))) := b4 _ _ hrp (b3 _ _ hrp r3)
    have hps4 : Std [y0, p] H4 := .cons (show ∃ o, H4 y0 = some o from by
      by_cases e : y0 = p
      · rw [e]; exact ⟨_, e4⟩
      · exact ⟨_, (But.tr b4 (But.tr b3 (But.tr b2 (Same.toBut s1)))) _ _ e hy0.choose_spec⟩).choose_spec (.cons e4 .nil)
    have b04 : But p H H4 := But.tr b4 (But.tr b3 (But.tr b2 (Same.toBut s1)))
    have hrH : H r = none := hfr r (List.mem_cons_of_mem _ (List.mem_of_getElem? r1))
    have ht : t < n + 1 - k := by omega
    refine ⟨fun σ' G => ∃ (v : V) (D : PyData) (P : Wl) (y6 y7 y8 y9 y10 : Option V), σ' = [some (V.ref p), some (V.ref d), some v, some (V.int (k : Nat)), some (V.int (t : Nat)), some (V.int w), y6, y7, y8, y9, y10] ∧ But p H G ∧ G p = some P.o ∧ Dx (del [y0, p] G) v D ∧ nc 3 D = true, ?_, ?_⟩
    · wtm_at "gx"
      rcases (show w < 4 ∨ w = 4 ∨ w = 5 ∨ w = 6 ∨ w = 7 ∨ w = 8 ∨ w = 9 ∨ w = 10 ∨ w = 11 by omega) with hw | rfl | rfl | rfl | rfl | rfl | rfl | rfl | rfl
      · refine g_Td hw ?_
        wtm_at "gx"
        refine g_ixLn k (sq_of hT4.hd) rfl r2 ?_
        wtm_at "gx"
        refine g_ixLn t (sq_of r4) rfl (rowV_at ht) ?_
        wtm_at "gx"
        refine g_lst (by show 4 ≤ 100000; decide) fun l1 H5 nl1 s5 el1 => ?_
        wtm_at "gx"
        obtain ⟨δ, hδ, hδb⟩ : ∃ δ : Int, atI [V.int 1, V.int 1, V.int 2, V.int (-1)] w = some (V.int δ) ∧ δ.natAbs ≤ 2 := by
          rcases (show w = 0 ∨ w = 1 ∨ w = 2 ∨ w = 3 by omega) with rfl | rfl | rfl | rfl
          · exact ⟨1, rfl, by decide⟩
          · exact ⟨1, rfl, by decide⟩
          · exact ⟨2, rfl, by decide⟩
          · exact ⟨-1, rfl, by decide⟩
        refine g_ixL (sq_of el1) hδ ?_
        wtm_at "gx"
        have hT5 := hT4.same s5
        refine g_ixLn k (sq_of hT5.hd) rfl r2 ?_
        wtm_at "gx"
        refine g_setLn t (s5 _ _ r4) rfl (by rw [rowV_len]; omega) fun H6 b6 e6 => ?_
        have hT6 := Tab.setE hT5 r1 b6 e6
        exact ⟨_, _, P4, _, _, _, _, _, rfl, But.b0 b6 (But.sa s5 b04) hrH, b6 _ _ (Ne.symm hrp) (s5 _ _ e4), dx_tabP hT6 hrl' hds hrs, nc_tabD hn fun a b => by
          unfold setE
          split
          · have := he k (k + t); omega
          · exact hb6 a b⟩
      · wtm_at "gx"
        refine g_lst (by show 1 ≤ 100000; decide) fun l1 H5 nl1 s5 el1 => ?_
        refine g_tup (by show 1 ≤ 100000; decide) fun t1 H6 nt1 s6 et1 => ?_
        show ∀ d1, H6 d1 = none → _
        intro d1 nd1
        have s7 : Same H6 (upd H6 d1 (.dK [])) := Same.new nd1
        have ed1 : (upd H6 d1 (.dK [])) d1 = some (.dK []) := upd_same
        generalize upd H6 d1 (.dK []) = H7 at s7 ed1 ⊢
        wtm_at "gx"
        refine g_lst (by show 10 ≤ 100000; decide) fun lt H8 nlt s8 elt => ?_
        wtm_at "gx"
        have s48 : Same H4 H8 := s5.trans (s6.trans (s7.trans s8))
        have e8 := s48 _ _ e4
        have np : ∀ {x : Addr} {G : Hp}, G x = none → Same H4 G → x ∉ [r, y0, p] := fun h s => Std.new ((Std.cons r4 hps4).sm s) h
        have hth : DxAll (del [r, y0, p] H8) [V.non, V.bl true, V.bl false, Tx [48], V.ref l1, V.ref t1, V.ref d1, V.int (10 ^ Int.toNat 30), V.int (0 - 10 ^ Int.toNat 30), Tx []] [.none, .bool true, .bool false, .str (S [48]), .list [.int 0], .tuple [.int 0], .dict [], .int (10 ^ Int.toNat 30), .int (0 - 10 ^ Int.toNat 30), .str (S [])] :=
          .cons .non (.cons (.bl _) (.cons (.bl _) (.cons (.str _) (.cons (.lst (del_get (np nl1 (Same.refl _)) ((s6.trans (s7.trans s8)) _ _ el1)) (.cons (.int _) .nil)) (.cons (.tup (del_get (np nt1 s5) ((s7.trans s8) _ _ et1)) (.cons (.int _) .nil)) (.cons (.dic (del_get (np nd1 (s5.trans s6)) (s8 _ _ ed1))) (.cons (.int _) (.cons (.int _) (.cons (.str _) .nil)))))))))
        have hnt : ncA 1 [.none, .bool true, .bool false, .str (S [48]), .list [.int 0], .tuple [.int 0], .dict [], .int (10 ^ Int.toNat 30), .int (0 - 10 ^ Int.toNat 30), .str (S [])] = true := by decide +kernel
        have hlp : lt ≠ p := fun e => np nlt (s5.trans (s6.trans s7)) (by rw [e]; simp)
        refine ⟨p, P4, 10, rfl, e8, by decide, by decide, fun z P5 H9 z0 z1 b9 e9 => ?_⟩
        obtain ⟨zz, rfl⟩ := Int.eq_ofNat_of_zero_le z0
        obtain ⟨x, hx⟩ : ∃ x, ([V.non, V.bl true, V.bl false, Tx [48], V.ref l1, V.ref t1, V.ref d1, V.int (10 ^ Int.toNat 30), V.int (0 - 10 ^ Int.toNat 30), Tx []] : List V)[zz]? = some x := ⟨_, List.getElem?_eq_getElem (by show zz < 10; omega)⟩
        obtain ⟨dx, hdx⟩ : ∃ x, ([.none, .bool true, .bool false, .str (S [48]), .list [.int 0], .tuple [.int 0], .dict [], .int (10 ^ Int.toNat 30), .int (0 - 10 ^ Int.toNat 30), .str (S [])] : List PyData)[zz]? = some x := ⟨_, List.getElem?_eq_getElem (by show zz < 10; omega)⟩
        refine g_ixLn zz (sq_of (b9 _ _ hlp elt)) rfl hx ?_
        have hDx : Dx (del [r, y0, p] H9) x dx := (hth.bt b9).get hx hdx
        have hNx : nc 1 dx = true := ncA_mem.mp hnt _ (List.mem_of_getElem? hdx)
        have hT9 := (hT4.same s48).but b9 hpd' hpr'
        wtm_at "gx"
        refine g_ixLn k (sq_of hT9.hd) rfl r2 ?_
        wtm_at "gx"
        have r9 : H9 r = some (.lst (rowV e k (n + 1 - k))) := b9 _ _ hrp (s48 _ _ r4)
        refine g_setLn t r9 rfl (by rw [rowV_len]; omega) fun H10 b10 e10 => ?_
        have hy : DxAll (del [y0, p] H10) ((rowV e k (n + 1 - k)).set t x) (((List.range (n + 1 - k)).map fun t => PyData.int (e k (k + t))).set t dx) := dxa_set (hDx.bt b10).tl dx_rowV
        exact ⟨_, _, P5, _, _, _, _, _, rfl, But.b0 b10 (But.tr b9 (But.sa s48 b04)) hrH, b10 _ _ (Ne.symm hrp) e9, dx_tabk hT9 hrl' hds hrs r1 b10 e10 hy, nc_of2 (by rw [List.length_set, List.length_map, List.length_range]; omega) (nca_set (nc_tabs hn hb6) (nc_lst (k := 1) (by rw [List.length_set, List.length_map, List.length_range]; show n + 1 - k ≤ 45; omega) (nca_set (nc_rowd hb6) hNx)))⟩
      · wtm_at "gx"
        refine g_ixLn k (sq_of hT4.hd) rfl r2 ?_
        wtm_at "gx"
        refine g_tupleOfL r4 fun tp H5 ntp s5 etp => ?_
        refine g_lst (by show 0 ≤ 100000; decide) fun le H6 nle s6 ele => ?_
        wtm_at "gx"
        refine g_lst (by show 1 ≤ 100000; decide) fun l1 H7 nl1 s7 el1 => ?_
        refine g_cat ((s5.trans (s6.trans s7)) _ _ r4) el1 (by rw [rowV_len]; show n + 1 - k + 1 ≤ 100000; omega) fun lc H8 nlc s8 elc => ?_
        wtm_at "gx"
        refine g_slL (sq_of ((s5.trans (s6.trans (s7.trans s8))) _ _ r4)) fun ls H9 nls s9 els => ?_
        show ∀ d1, H9 d1 = none → _
        intro d1 nd1
        have s10 : Same H9 (upd H9 d1 (.dK [])) := Same.new nd1
        have ed1 : (upd H9 d1 (.dK [])) d1 = some (.dK []) := upd_same
        generalize upd H9 d1 (.dK []) = H10 at s10 ed1 ⊢
        refine g_lst (by show 7 ≤ 100000; decide) fun lt H11 nlt s11 elt => ?_
        wtm_at "gx"
        have s411 : Same H4 H11 := s5.trans (s6.trans (s7.trans (s8.trans (s9.trans (s10.trans s11)))))
        have e11 := s411 _ _ e4
        have np : ∀ {x : Addr} {G : Hp}, G x = none → Same H4 G → x ∉ [d', y0, p] := fun h s => Std.new ((Std.cons hT4.hd hps4).sm s) h
        have hth : DxAll (del [d', y0, p] H11) [V.ref tp, V.non, V.int 0, V.ref le, V.ref lc, V.ref ls, V.ref d1] [.tuple ((List.range (n + 1 - k)).map fun t => PyData.int (e k (k + t))), .none, .int 0, .list [], .list (((List.range (n + 1 - k)).map fun t => PyData.int (e k (k + t))) ++ [.int 0]), .list (cutL ((List.range (n + 1 - k)).map fun t => PyData.int (e k (k + t))) none (some (-1))), .dict []] :=
          .cons (.tup (del_get (np ntp (Same.refl _)) ((s6.trans (s7.trans (s8.trans (s9.trans (s10.trans s11))))) _ _ etp)) dx_rowV) (.cons .non (.cons (.int _) (.cons (.lst (del_get (np nle s5) ((s7.trans (s8.trans (s9.trans (s10.trans s11)))) _ _ ele)) .nil) (.cons (.lst (del_get (np nlc (s5.trans (s6.trans s7))) ((s9.trans (s10.trans s11)) _ _ elc)) (dx_rowV.append (.cons (.int _) .nil))) (.cons (.lst (del_get (np nls (s5.trans (s6.trans (s7.trans s8)))) ((s10.trans s11) _ _ els)) (dxa_cut dx_rowV)) (.cons (.dic (del_get (np nd1 (s5.trans (s6.trans (s7.trans (s8.trans s9))))) (s11 _ _ ed1))) .nil))))))
        have hln : ((List.range (n + 1 - k)).map fun t => PyData.int (e k (k + t))).length ≤ 41 := by rw [List.length_map, List.length_range]; omega
        have hnt : ncA 2 [.tuple ((List.range (n + 1 - k)).map fun t => PyData.int (e k (k + t))), .none, .int 0, .list [], .list (((List.range (n + 1 - k)).map fun t => PyData.int (e k (k + t))) ++ [.int 0]), .list (cutL ((List.range (n + 1 - k)).map fun t => PyData.int (e k (k + t))) none (some (-1))), .dict []] = true :=
          nca_cons (nc_tup (k := 1) (Nat.le_trans hln (by decide)) (nc_rowd hb6)) (nca_cons nc_non (nca_cons (nc_int (by decide)) (nca_cons nc_lst0 (nca_cons (nc_lst (k := 1) (by rw [List.length_append]; show _ + 1 ≤ 45; omega) (nca_app (nc_rowd hb6) (nca_cons (nc_int (by decide)) nca_nil))) (nca_cons (nc_lst (k := 1) (by unfold cutL; rw [List.length_take, List.length_drop]; show _ ≤ 45; omega) (nca_take (nca_drop (nc_rowd hb6)))) (nca_cons nc_dic nca_nil))))))
        have hlp : lt ≠ p := fun e => np nlt (s5.trans (s6.trans (s7.trans (s8.trans (s9.trans s10))))) (by rw [e]; simp)
        refine ⟨p, P4, 7, rfl, e11, by decide, by decide, fun z P5 H12 z0 z1 b12 e12 => ?_⟩
        obtain ⟨zz, rfl⟩ := Int.eq_ofNat_of_zero_le z0
        have hall := hth.bt b12
        obtain ⟨x, hx⟩ : ∃ x, ([V.ref tp, V.non, V.int 0, V.ref le, V.ref lc, V.ref ls, V.ref d1] : List V)[zz]? = some x := ⟨_, List.getElem?_eq_getElem (by show zz < 7; omega)⟩
        refine g_ixLn zz (sq_of (b12 _ _ hlp elt)) rfl hx ?_
        obtain ⟨dx, hdx⟩ : ∃ y, ([.tuple ((List.range (n + 1 - k)).map fun t => PyData.int (e k (k + t))), .none, .int 0, .list [], .list (((List.range (n + 1 - k)).map fun t => PyData.int (e k (k + t))) ++ [.int 0]), .list (cutL ((List.range (n + 1 - k)).map fun t => PyData.int (e k (k + t))) none (some (-1))), .dict []] : List PyData)[zz]? = some y := ⟨_, List.getElem?_eq_getElem (by show zz < 7; omega)⟩
        have hDx : Dx (del [d', y0, p] H12) x dx := hall.get hx hdx
        have hNx : nc 2 dx = true := ncA_mem.mp hnt _ (List.mem_of_getElem? hdx)
        have hT12 := (hT4.same s411).but b12 hpd' hpr'
        have hrows := tab_rows hT12 hrl' (cons_not hT12.nin hrs)
        wtm_at "gx"
        refine g_setLn k hT12.hd rfl (by rw [List.length_map]; omega) fun H13 b13 e13 => ?_
        have hset := (dxa_set (n := k) hDx hrows).bt b13
        exact ⟨_, _, P5, _, _, _, _, _, rfl, But.b0 b13 (But.tr b12 (But.sa s411 b04)) nd', b13 _ _ hpd' e12, .lst (del_get hds e13) hset.tl, nc_of2 (by rw [List.length_set, List.length_map, List.length_range]; omega) (nca_set (nc_tabs hn hb6) hNx)⟩
      · wtm_at "gx"
        have hrows := tab_rows hT4 hrl' hrs
        have hlr : ((List.range (n + 1)).map (tabR e n)).length = n + 1 := by rw [List.length_map, List.length_range]
        have hnr := nc_tabs (m := n + 1) hn hb6
        have np : ∀ {x : Addr} {G : Hp}, G x = none → Same H4 G → x ∉ [y0, p] := fun h s => Std.new (hps4.sm s) h
        refine g_slL (sq_of hT4.hd) fun x1 H5 n5 s5 e5 => ?_
        wtm_at "gx"
        refine g_slL (sq_of (s5 _ _ hT4.hd)) fun x2 H6 n6 s6 e6 => ?_
        rw [cut_to] at e5
        rw [show ((k : Int) + 1) = ((k + 1 : Nat) : Int) by omega, cut_from] at e6
        refine g_cat (s6 _ _ e5) e6 (by rw [List.length_take, List.length_drop, List.length_map]; omega) fun x3 H7 n7 s7 e7 => ?_
        have s47 : Same H4 H7 := s5.trans (s6.trans s7)
        wtm_at "gx"
        refine g_lst (by show 1 ≤ 100000; decide) fun x4 H8 n8 s8 e8 => ?_
        refine g_lst (by show 1 ≤ 100000; decide) fun x5 H9 n9 s9 e9 => ?_
        refine g_cat ((s47.trans (s8.trans s9)) _ _ hT4.hd) e9 (by rw [List.length_map]; show _ + 1 ≤ 100000; omega) fun x6 H10 n10 s10 e10 => ?_
        have s410 : Same H4 H10 := s47.trans (s8.trans (s9.trans s10))
        wtm_at "gx"
        refine g_lst (by show 0 ≤ 100000; decide) fun x7 H11 n11 s11 e11 => ?_
        refine g_lst (by show 1 ≤ 100000; decide) fun x8 H12 n12 s12 e12 => ?_
        refine g_cat ((s410.trans (s11.trans s12)) _ _ hT4.hd) e12 (by rw [List.length_map]; show _ + 1 ≤ 100000; omega) fun x9 H13 n13 s13 e13 => ?_
        have s413 : Same H4 H13 := s410.trans (s11.trans (s12.trans s13))
        wtm_at "gx"
        refine g_revL (sq_of (s413 _ _ hT4.hd)) fun x10 H14 n14 s14 e14 => ?_
        wtm_at "gx"
        refine g_tupleOfL ((s413.trans s14) _ _ hT4.hd) fun x11 H15 n15 s15 e15 => ?_
        refine g_lst (by show 5 ≤ 100000; decide) fun lt H16 n16 s16 e16 => ?_
        have s416 : Same H4 H16 := s413.trans (s14.trans (s15.trans s16))
        have hr16 := hrows.sm s416
        have hth : DxAll (del [y0, p] H16) [V.ref x3, V.ref x6, V.ref x9, V.ref x10, V.ref x11] [.list (((List.range (n + 1)).map (tabR e n)).take k ++ ((List.range (n + 1)).map (tabR e n)).drop (k + 1)), .list (((List.range (n + 1)).map (tabR e n)) ++ [.list [.int 0]]), .list (((List.range (n + 1)).map (tabR e n)) ++ [.list []]), .list ((List.range (n + 1)).map (tabR e n)).reverse, .tuple ((List.range (n + 1)).map (tabR e n))] :=
          .cons (.lst (del_get (np n7 (s5.trans s6)) ((s8.trans (s9.trans (s10.trans (s11.trans (s12.trans (s13.trans (s14.trans (s15.trans s16)))))))) _ _ e7)) ((dxa_take hr16).append (dxa_drop hr16)))
          (.cons (.lst (del_get (np n10 (s47.trans (s8.trans s9))) ((s11.trans (s12.trans (s13.trans (s14.trans (s15.trans s16))))) _ _ e10)) (hr16.append (.cons (.lst (del_get (np n8 s47) ((s9.trans (s10.trans (s11.trans (s12.trans (s13.trans (s14.trans (s15.trans s16))))))) _ _ e8)) (.cons (.int _) .nil)) .nil)))
          (.cons (.lst (del_get (np n13 (s410.trans (s11.trans s12))) ((s14.trans (s15.trans s16)) _ _ e13)) (hr16.append (.cons (.lst (del_get (np n11 s410) ((s12.trans (s13.trans (s14.trans (s15.trans s16)))) _ _ e11)) .nil) .nil)))
          (.cons (.lst (del_get (np n14 s413) ((s15.trans s16) _ _ e14)) (dxa_rev hr16))
          (.cons (.tup (del_get (np n15 (s413.trans s14)) (s16 _ _ e15)) hr16) .nil))))
        have hnt : ∀ D ∈ [PyData.list (((List.range (n + 1)).map (tabR e n)).take k ++ ((List.range (n + 1)).map (tabR e n)).drop (k + 1)), .list (((List.range (n + 1)).map (tabR e n)) ++ [.list [.int 0]]), .list (((List.range (n + 1)).map (tabR e n)) ++ [.list []]), .list ((List.range (n + 1)).map (tabR e n)).reverse, .tuple ((List.range (n + 1)).map (tabR e n))], nc 3 D = true := by
          refine fa_cons (nc_of2 (by rw [List.length_append, List.length_take, List.length_drop]; omega) (nca_app (nca_take hnr) (nca_drop hnr))) (fa_cons (nc_of2 (by rw [List.length_append, hlr]; show _ + 1 ≤ 200; omega) (nca_app hnr (nca_cons (nc_lst (k := 1) (by decide) (nca_cons (nc_int (by decide)) nca_nil)) nca_nil))) (fa_cons (nc_of2 (by rw [List.length_append, hlr]; show _ + 1 ≤ 200; omega) (nca_app hnr (nca_cons nc_lst0 nca_nil))) (fa_cons (nc_of2 (by rw [List.length_reverse, hlr]; omega) (nca_rev hnr)) (fa_cons (nc_tup (k := 2) (by rw [hlr]; show _ ≤ 200; omega) hnr) fa_nil))))
        wtm_at "gx"
        have hlp : lt ≠ p := fun e => np n16 (s413.trans (s14.trans s15)) (by rw [e]; simp)
        refine ⟨p, P4, 5, rfl, s416 _ _ e4, by decide, by decide, fun z P5 H17 z0 z1 b17 e17 => ?_⟩
        obtain ⟨zz, rfl⟩ := Int.eq_ofNat_of_zero_le z0
        have hall := hth.bt b17
        obtain ⟨x, hx⟩ : ∃ x, ([V.ref x3, V.ref x6, V.ref x9, V.ref x10, V.ref x11] : List V)[zz]? = some x := ⟨_, List.getElem?_eq_getElem (by show zz < 5; omega)⟩
        obtain ⟨dx, hdx⟩ : ∃ y, ([PyData.list (((List.range (n + 1)).map (tabR e n)).take k ++ ((List.range (n + 1)).map (tabR e n)).drop (k + 1)), .list (((List.range (n + 1)).map (tabR e n)) ++ [.list [.int 0]]), .list (((List.range (n + 1)).map (tabR e n)) ++ [.list []]), .list ((List.range (n + 1)).map (tabR e n)).reverse, .tuple ((List.range (n + 1)).map (tabR e n))] : List PyData)[zz]? = some y := ⟨_, List.getElem?_eq_getElem (by show zz < 5; omega)⟩
        refine g_ixLn zz (sq_of (b17 _ _ hlp e16)) rfl hx ?_
        exact ⟨_, _, P5, _, _, _, _, _, rfl, But.tr b17 (But.sa s416 b04), e17, hall.get hx hdx, hnt dx (List.mem_of_getElem? hdx)⟩
      · wtm_at "gx"
        refine ⟨d', rfl, ⟨_, sq_of hT4.hd⟩, lc_lst (rs'.map V.ref) fun y H5 ny s5 ey => ⟨fun pre G => ∃ (zss : List (List Int)) (vs : List V) (P : Wl), zss.length = pre.length ∧ G y = some (.lst vs) ∧ DxAll (del [y, y0, p] G) vs (zss.map fun zs => PyData.list (zs.map PyData.int)) ∧ (∀ zs ∈ zss, zs.length ≤ 45 ∧ ∀ z ∈ zs, z.natAbs ≤ 1000000) ∧ But p H4 G ∧ G p = some P.o, ⟨[], [], P4, rfl, ey, .nil, by simp, Same.toBut s5, s5 _ _ e4⟩, fun pre post G ee hv => ?_, fun pre x post G ee hv => ?_, fun G hv => ?_⟩⟩
        · obtain ⟨zss, vs, P, _, _, _, _, bG, _⟩ := hv
          exact sq_of (bG _ _ (Ne.symm hpd') hT4.hd)
        · obtain ⟨zss, vs, P, hzl, eyG, hall, hzb, bG, ep⟩ := hv
          have hx := mid_at ee
          obtain ⟨k2, hk2⟩ : ∃ k, pre.length = k := ⟨_, rfl⟩
          have hpl : (pre ++ [x]).length = k2 + 1 := by rw [List.length_append, hk2]; rfl
          rw [hk2] at hx hzl
          have hkl : k2 < rs'.length := by have := (List.getElem?_eq_some_iff.mp hx).1; rw [List.length_map] at this; exact this
          have hTG := hT4.but bG hpd' hpr'
          obtain ⟨r5, h1, h2, h3⟩ := hTG.row hkl
          rw [h2] at hx
          have hx' := (Option.some.inj hx).symm
          subst hx'
          have hyp : y ≠ p := Ne.symm (ne_new ny e4)
          have hpsG : Std [y0, p] G := (.cons (show ∃ o, G y0 = some o from by
            by_cases e : y0 = p
            · rw [e]; exact ⟨_, ep⟩
            · exact ⟨_, bG _ _ e (hps4 y0 (by simp)).choose_spec⟩).choose_spec (.cons ep .nil))
          wtm_at "unf"
          refine ⟨rfl, ?_⟩
          wtm_at "gx"
          rw [rowV_len, hpl]
          refine ⟨_, rfl, by omega, by omega, lc_rng fun rr H6 nrr s6 err => ⟨fun i G2 => ∃ (zs : List Int) (P : Wl), zs.length = i ∧ G2 rr = some (.lst (zs.map V.int)) ∧ (∀ z ∈ zs, z.natAbs ≤ 1000000) ∧ DxAll (del [rr, y, y0, p] G2) vs (zss.map fun zs => PyData.list (zs.map PyData.int)) ∧ But p H4 G2 ∧ G2 p = some P.o ∧ G2 y = some (.lst vs), ⟨[], P, rfl, err, by simp, hall.nw nrr (Same.toBut s6), But.sa s6 bG, s6 _ _ ep, s6 _ _ eyG⟩, fun i G2 hi hv => ?_, fun G2 hv => ?_⟩⟩
          · obtain ⟨zs, P2, hzl2, er2, hzb2, hall2, bG2, ep2, ey2⟩ := hv
            have hrrp : rr ≠ p := Ne.symm (ne_new nrr ep)
            have hrry : rr ≠ y := Ne.symm (ne_new nrr eyG)
            have hi41 : i < 41 := by omega
            wtm_at "unf"
            refine ⟨rfl, ?_⟩
            wtm_at "gx"
            refine ⟨p, P2, 2, rfl, ep2, by decide, by decide, fun u P3 G3 u0 u1 b3 ep3 => ?_⟩
            wtm_at "gx"
            have hz : ∀ c : Bool, ((0 : Int) - u * (if c = true then 1 else 0)).natAbs ≤ 1000000 := by
              intro c
              rcases (show u = 0 ∨ u = 1 by omega) with rfl | rfl <;> cases c <;> decide
            refine lc_put (b3 _ _ hrrp er2) (by rw [List.length_map]; omega) fun G5 b5 e5 => ⟨zs ++ [_], P3, by rw [List.length_append, hzl2]; rfl, by rw [e5, List.map_append]; rfl, fun z hz2 => ?_, (hall2.bt b3).bt b5, ?_, b5 _ _ (Ne.symm hrrp) ep3, b5 _ _ (Ne.symm hrry) (b3 _ _ hyp ey2)⟩
            · rcases List.mem_append.mp hz2 with hz2 | hz2
              · exact hzb2 z hz2
              · rw [List.mem_singleton.mp hz2]; exact hz _
            · have hrr4 : H4 rr = none := bG.free hrrp nrr
              exact But.b0 b5 (But.tr b3 bG2) hrr4
          · obtain ⟨zs, P2, hzl2, er2, hzb2, hall2, bG2, ep2, ey2⟩ := hv
            have hrrp : rr ≠ p := Ne.symm (ne_new nrr ep)
            have hrry : rr ≠ y := Ne.symm (ne_new nrr eyG)
            have hrrn : rr ∉ [y, y0, p] := Std.new (Std.cons eyG hpsG) nrr
            have hvl := hall2.length
            rw [List.length_map, hzl] at hvl
            have hin : DxAll (del [y, y0, p] G2) [V.ref rr] [PyData.list (zs.map PyData.int)] := .cons (.lst (del_get hrrn er2) (dxa_of (by rw [List.length_map, List.length_map]) fun k3 v3 D3 q1 q2 => by
              rw [List.getElem?_map] at q1 q2
              cases hq : zs[k3]? with
              | none => rw [hq] at q1; cases q1
              | some z3 => rw [hq] at q1 q2; rw [← Option.some.inj q1, ← Option.some.inj q2]; exact .int _)) .nil
            refine lc_put ey2 (by omega) fun G5 b5 e5 => ⟨zss ++ [zs], vs ++ [V.ref rr], P2, by rw [List.length_append, hzl]; rfl, e5, ?_, fun zs2 hz2 => ?_, ?_, b5 _ _ (Ne.symm hyp) ep2⟩
            · rw [List.map_append]
              exact (hall2.tl.append hin).bt b5
            · rcases List.mem_append.mp hz2 with hz2 | hz2
              · exact hzb zs2 hz2
              · rw [List.mem_singleton.mp hz2]; exact ⟨by omega, hzb2⟩
            · exact But.b0 b5 bG2 ny
        · obtain ⟨zss, vs, P, hzl, eyG, hall, hzb, bG, ep⟩ := hv
          rw [List.length_map, hrl'] at hzl
          have hyp : y ≠ p := Ne.symm (ne_new ny e4)
          exact ⟨_, _, P, _, _, _, _, _, rfl, But.tr bG b04, ep, .lst (del_get (Std.new hps4 ny) eyG) hall.tl, nc_of2 (by rw [List.length_map]; omega) (ncA_mem.mpr fun D hD => by
            obtain ⟨zs, hz, rfl⟩ := List.mem_map.mp hD
            exact nc_rowz (hzb zs hz).1 (hzb zs hz).2)⟩
      · wtm_at "gx"
        obtain ⟨k', hk', hat⟩ : ∃ k', k' < n + 1 ∧ atI (rs'.map V.ref) ((k : Int) - 1) = (rs'.map V.ref)[k']? := by
          rcases Nat.eq_zero_or_pos k with h0 | h0
          · refine ⟨n, by omega, ?_⟩
            rw [h0, show ((0 : Nat) : Int) - 1 = -1 by omega]
            have hlast : (rs'.map V.ref)[n]? = (rs'.map V.ref).getLast? := by rw [List.getLast?_eq_getElem?, List.length_map, hrl']; rfl
            obtain ⟨x, hx⟩ : ∃ x, (rs'.map V.ref)[n]? = some x := ⟨_, List.getElem?_eq_getElem (by rw [List.length_map]; omega)⟩
            rw [hx]
            exact atI_m1 (by rw [← hlast]; exact hx)
          · refine ⟨k - 1, by omega, ?_⟩
            obtain ⟨x, hx⟩ : ∃ x, (rs'.map V.ref)[k - 1]? = some x := ⟨_, List.getElem?_eq_getElem (by rw [List.length_map]; omega)⟩
            rw [hx, show (k : Int) - 1 = ((k - 1 : Nat) : Int) by omega]
            exact atI_of hx
        obtain ⟨r', h1, h2, h3⟩ := hT4.row (k := k') (by omega)
        refine g_ixL (sq_of hT4.hd) (by rw [hat, h2]) ?_
        refine g_listOfL h3 fun r5 H5 nr5 s5 er5 => ?_
        wtm_at "gx"
        have hT5 := hT4.same s5
        refine g_setLn k hT5.hd rfl (by rw [List.length_map]; omega) fun H6 b6 e6 => ?_
        have hrows := tab_rows hT5 hrl' (cons_not hT5.nin hrs)
        have hr5 : r5 ∉ [d', y0, p] := Std.new (Std.cons hT4.hd hps4) nr5
        have hall := (dxa_set (n := k) (Dx.lst (del_get hr5 er5) dx_rowV) hrows).bt b6
        exact ⟨_, _, P4, _, _, _, _, _, rfl, But.b0 b6 (But.sa s5 b04) nd', b6 _ _ hpd' (s5 _ _ e4), .lst (del_get hds e6) hall.tl, nc_of2 (by rw [List.length_set, List.length_map, List.length_range]; omega) (nca_set (nc_tabs hn hb6) (nc_tabR hn hb6))⟩
      · wtm_at "gx"
        refine ⟨p, P4, d', rs', e, n, rfl, e4, hT4, hrl', hn, hpd', hpr', fun d2 rs2 e2 P5 H5 b5 e5 hfr2 hrl2 hT5 hb5 => ?_⟩
        have hpd2 : p ≠ d2 := fun e => by have := hfr2 d2 (List.mem_cons_self ..); rw [← e, e4] at this; cases this
        have hpr2 : p ∉ rs2 := fun h => by have := hfr2 p (List.mem_cons_of_mem _ h); rw [e4] at this; cases this
        exact ⟨_, _, P5, _, _, _, _, _, rfl, But.tr b5 b04, e5, dx_tabP hT5 hrl2 (hps4.new (hfr2 d2 (List.mem_cons_self ..))) (fun q hq h => hps4.new (hfr2 q (List.mem_cons_of_mem _ h)) hq), nc_tabD hn fun a b => by have := hb5 a b; have := he a b; omega⟩
      · wtm_at "gx"
        refine ⟨d', rfl, ⟨_, sq_of hT4.hd⟩, lc_lst (rs'.map V.ref) fun y H5 ny s5 ey => ⟨fun pre G => ∃ (zss : List (List Int)) (vs : List V), zss.length = pre.length ∧ G y = some (.lst vs) ∧ DxAll (del [y, y0, p] G) vs (zss.map fun zs => PyData.list (zs.map PyData.int)) ∧ (∀ zs ∈ zss, zs.length ≤ 45 ∧ ∀ z ∈ zs, z.natAbs ≤ 1000000) ∧ Same H4 G, ⟨[], [], rfl, ey, .nil, by simp, s5⟩, fun pre post G ee hv => ?_, fun pre x post G ee hv => ?_, fun G hv => ?_⟩⟩
        · obtain ⟨zss, vs, _, _, _, _, sG⟩ := hv
          exact sq_of (sG _ _ hT4.hd)
        · obtain ⟨zss, vs, hzl, eyG, hall, hzb, sG⟩ := hv
          have hx := mid_at ee
          obtain ⟨k2, hk2⟩ : ∃ k, pre.length = k := ⟨_, rfl⟩
          have hpl : (pre ++ [x]).length = k2 + 1 := by rw [List.length_append, hk2]; rfl
          rw [hk2] at hx hzl
          have hkl : k2 < rs'.length := by have := (List.getElem?_eq_some_iff.mp hx).1; rw [List.length_map] at this; exact this
          obtain ⟨r5, h1, h2, h3⟩ := (hT4.same sG).row hkl
          rw [h2] at hx
          have hx' := (Option.some.inj hx).symm
          subst hx'
          have hyp : y ≠ p := Ne.symm (ne_new ny e4)
          have ep := sG _ _ e4
          have hpsG : Std [y0, p] G := hps4.sm sG
          wtm_at "unf"
          refine ⟨rfl, ?_⟩
          wtm_at "gx"
          rw [hpl]
          refine ⟨r5, _, rfl, sq_of h3, lc_enum (rowV e k2 (n + 1 - k2)) fun rr H6 nrr s6 err => ⟨fun pre2 G2 => ∃ (zs : List Int), zs.length = pre2.length ∧ G2 rr = some (.lst (zs.map V.int)) ∧ (∀ z ∈ zs, z.natAbs ≤ 1000000) ∧ DxAll (del [rr, y, y0, p] G2) vs (zss.map fun zs => PyData.list (zs.map PyData.int)) ∧ Same G G2, ⟨[], rfl, err, by simp, hall.nw nrr (Same.toBut s6), s6⟩, fun pre2 post2 G2 e2 hv => ?_, fun pre2 x2 post2 G2 t2 G3 e2 hv nt2 st2 et2 => ?_, fun G2 hv => ?_⟩⟩
          · obtain ⟨zs, _, _, _, _, sG2⟩ := hv
            exact sq_of (sG2 _ _ h3)
          · obtain ⟨zs, hzl2, er2, hzb2, hall2, sG2⟩ := hv
            have hx2 := mid_at e2
            obtain ⟨i, hi⟩ : ∃ k, pre2.length = k := ⟨_, rfl⟩
            have hpl2 : (pre2 ++ [x2]).length = i + 1 := by rw [List.length_append, hi]; rfl
            rw [hi] at hx2 hzl2 et2
            have hil : i < n + 1 - k2 := by have := (List.getElem?_eq_some_iff.mp hx2).1; rw [rowV_len] at this; exact this
            rw [rowV_at hil] at hx2
            have hx3 := (Option.some.inj hx2).symm
            subst hx3
            wtm_at "unf"
            refine ⟨t2, _, rfl, st_of et2, rfl, _, _, rfl, _, _, rfl, rfl, rfl, ?_⟩
            rw [hpl2]
            wtm_at "gx"
            have hz : ∀ c : Bool, (e k2 (k2 + i) + (if c = true then 1 else 0)).natAbs ≤ 1000000 := by
              intro c
              have := he k2 (k2 + i)
              cases c <;> simp <;> omega
            refine lc_put (st2 _ _ er2) (by rw [List.length_map]; omega) fun G5 b5 e5 => ⟨zs ++ [_], by rw [List.length_append, hzl2]; rfl, by rw [e5, List.map_append]; rfl, fun z hz2 => ?_, (hall2.sm st2).bt b5, Same.b0 b5 (sG2.trans st2) nrr⟩
            rcases List.mem_append.mp hz2 with hz2 | hz2
            · exact hzb2 z hz2
            · rw [List.mem_singleton.mp hz2]; exact hz _
          · obtain ⟨zs, hzl2, er2, hzb2, hall2, sG2⟩ := hv
            rw [rowV_len] at hzl2
            have hrrp : rr ≠ p := Ne.symm (ne_new nrr ep)
            have hrry : rr ≠ y := Ne.symm (ne_new nrr eyG)
            have hrrn : rr ∉ [y, y0, p] := Std.new (Std.cons eyG hpsG) nrr
            have hvl := hall2.length
            rw [List.length_map, hzl] at hvl
            have hin : DxAll (del [y, y0, p] G2) [V.ref rr] [PyData.list (zs.map PyData.int)] := .cons (.lst (del_get hrrn er2) (dxa_of (by rw [List.length_map, List.length_map]) fun k3 v3 D3 q1 q2 => by
              rw [List.getElem?_map] at q1 q2
              cases hq : zs[k3]? with
              | none => rw [hq] at q1; cases q1
              | some z3 => rw [hq] at q1 q2; rw [← Option.some.inj q1, ← Option.some.inj q2]; exact .int _)) .nil
            refine lc_put (sG2 _ _ eyG) (by omega) fun G5 b5 e5 => ⟨zss ++ [zs], vs ++ [V.ref rr], by rw [List.length_append, hzl]; rfl, e5, ?_, fun zs2 hz2 => ?_, Same.b0 b5 (sG.trans sG2) ny⟩
            · rw [List.map_append]
              exact (hall2.tl.append hin).bt b5
            · rcases List.mem_append.mp hz2 with hz2 | hz2
              · exact hzb zs2 hz2
              · rw [List.mem_singleton.mp hz2]; exact ⟨by omega, hzb2⟩
        · obtain ⟨zss, vs, hzl, eyG, hall, hzb, sG⟩ := hv
          rw [List.length_map, hrl'] at hzl
          have hyp : y ≠ p := Ne.symm (ne_new ny e4)
          exact ⟨_, _, P4, _, _, _, _, _, rfl, But.sa sG b04, sG _ _ e4, .lst (del_get (Std.new hps4 ny) eyG) hall.tl, nc_of2 (by rw [List.length_map]; omega) (ncA_mem.mpr fun D hD => by
            obtain ⟨zs, hz, rfl⟩ := List.mem_map.mp hD
            exact nc_rowz (hzb zs hz).1 (hzb zs hz).2)⟩
      · wtm_at "gx"
        exact ⟨_, _, P4, _, _, _, _, _, rfl, b04, e4, dx_tabP hT4 hrl' hds hrs, nc_tabD hn hb6⟩
    · rintro σ' G ⟨v, D, P, y6, y7, y8, y9, y10, rfl, bG, ep, hD, hnc⟩
      wtm_at "gx"
      exact q v D P G bG ep hD hnc
/-! _law_right -/
def sp_law_right : Sp := fun vs H Q _ => ∃ (l : List Nat) (v : V) (d : PyData), vs = [Tx l, v] ∧ Dx H v d ∧ nc 3 d = true ∧ l.length ≤ 1000 ∧ ∀ H', Same H H' → Q (.bl true) H'
theorem ok_law_right (T : Facts K mg) : CalG P w K mg base 5 "_law_right" sp_law_right := by
  refine calDG T.f_law_right sc_law_right (fun vs H Q E h => ?_) (fun f cdv A outer s H vs Q E hr hgd h => ?_)
  · obtain ⟨l, v, d, rfl, hd, hn, hl, q⟩ := h; rfl
  · obtain ⟨l, v, d, rfl, hd, hn, hl, q⟩ := h
    refine ⟨_, (pss_cons (ps_set (i := 2) sc_law_right.nd rfl (Or.inl rfl) (pe_own (ok_law_due T) hr (by omega) rfl (pa_cons (pv 0) (pa_cons (pv 1) pa_nil))))
       (pss_cons (ps_set (i := 3) sc_law_right.nd rfl (Or.inl rfl) (pe_callB (call_reprX (by exact hgd) (Ly.Room.wide hr)) rfl T.b_repr (by decide +kernel) (pa_cons (pv 1) pa_nil)))
       (pss_cons (ps_for PassesOwn.never rfl (pi_range1 rfl T.b_range (pa_cons pe_int pa_nil)) (pg_name (i := 4) sc_law_right.nd rfl (Or.inl rfl))
       (pss_cons (ps_set (i := 5) sc_law_right.nd rfl (Or.inl rfl) (pe_own (ok_is_low T) hr (by omega) rfl (pa_cons (pv 0) (pa_cons (pv 1) pa_nil))))
       (pss_one (ps_ifC (PW.pt (pw_or (pt_not (pt_val (pe_callB call_isi rfl T.b_isinstance (by decide +kernel) (pa_cons (pv 5) (pa_cons (pe_bltn (v := .ty "bool") rfl T.b_bool (by decide +kernel) rfl) pa_nil))))) (pw_or (pt_cmpR op_ne (pv 5) (pv 2) (nomark _)) (pw_or1 (pt_cmpR op_ne (pe_callB (call_reprX (by exact hgd) (Ly.Room.wide hr)) rfl T.b_repr (by decide +kernel) (pa_cons (pv 1) pa_nil)) (pv 3) (nomark _))))))
       (pss_one (ps_ret pe_bl))
       pss_nil))))
       (pss_one (ps_ret pe_bl))))), ?_⟩
    rw [st_law_right]
    wtm_at "unf"
    wtm_at "gx"
    refine ⟨l, v, d, rfl, hd, hl, fun H1 s1 => ?_⟩
    have hd1 := dx_same s1 hd
    wtm_at "gx"
    refine g_reprX hd1 hn ?_
    refine ⟨_, rfl, by decide, by decide, for_rng (fun i σ G => ∃ y4 y5, σ = [some (Tx l), some v, some (V.bl (lowB l d)), some (V.str d.shown), y4, y5] ∧ Same H1 G) ⟨_, _, rfl, Same.refl _⟩ (fun i σ G hi hv => ?_) (fun σ G hv => ?_)⟩
    · obtain ⟨y4, y5, rfl, sG⟩ := hv
      wtm_at "unf"
      wtm_at "gx"
      refine ⟨l, v, d, rfl, dx_same sG hd1, hl, fun G2 s2 => ?_⟩
      have hd2 := dx_same s2 (dx_same sG hd1)
      wtm_at "unfS"
      refine g_ifH (b := false) (G := fun G3 => Same G2 G3) (fun Q' q' => ?_) (fun G3 g h => by cases h) (fun G3 g3 _ => ?_)
      · wtm_at "unf"
        wtm_at "gx"
        refine g_reprX hd2 hn ?_
        wtm_at "gx"
        exact q' _ (Same.refl _)
      · wtm_at "unf"
        exact ⟨_, _, rfl, sG.trans (s2.trans g3)⟩
    · obtain ⟨y4, y5, rfl, sG⟩ := hv
      wtm_at "unf"
      wtm_at "gx"
      exact q _ (s1.trans sG)
/-- least numbers, 0 beyond the text -/
noncomputable def eL (l : List Nat) (a b : Nat) : Int := if a ≤ b ∧ b ≤ l.length then (lstN l a b : Int) else 0
theorem eL_at {l : List Nat} {a b : Nat} (h1 : a ≤ b) (h2 : b ≤ l.length) : eL l a b = (lstN l a b : Int) := by unfold eL; rw [if_pos ⟨h1, h2⟩]
theorem eL_le {l : List Nat} (h : l.length ≤ 900) (a b : Nat) : (eL l a b).natAbs ≤ 900 := by
  unfold eL
  split
  · rename_i hab
    have := lstN_le (l := l) (b - a) a (by omega)
    rw [show a + (b - a) = b by omega] at this
    omega
  · decide
theorem eL_tab {H : Hp} {d : Addr} {rs : List Addr} {l : List Nat} (T : Tab H d rs (fun k => rowV (fun a b => lstN l a b) k (l.length + 1 - k))) (hl : rs.length = l.length + 1) : Tab H d rs (fun k => rowV (eL l) k (l.length + 1 - k)) := T.congr fun k hk => by
  unfold rowV
  refine List.map_congr_left fun t ht => ?_
  rw [List.mem_range] at ht
  rw [eL_at (by omega) (by omega)]
theorem eL_step {l : List Nat} {i j : Nat} (hi : i < j) (hj : j ≤ l.length) : minL (stepL l (eL l) i j) = (lstN l i j : Int) := by
  rw [stepL_congr (e' := fun a b => (lstN l a b : Int)) hi fun a b ha hab hb => eL_at hab (by omega)]
  obtain ⟨h1, h2⟩ := lst_first hi hj
  exact (minL_uniq (fun e => by rw [e] at h1; cases h1) h1 h2).symm
theorem eL_low (l : List Nat) : lowP l (tabD (eL l) l.length) := lowP_tab.mpr ⟨fun i hi => by rw [eL_at (Nat.le_refl _) hi, lstN_self hi]; rfl, fun i j hi hj => by rw [eL_step hi hj, eL_at (Nat.le_of_lt hi) hj]; exact Int.le_refl _⟩
theorem eL_raised {l : List Nat} {b s : Nat} (hs : 0 < s) (h : b + s ≤ l.length) : ¬ lowP l (tabD (setE (eL l) b s (eL l b (b + s) + 1)) l.length) := fun hl => by
  have h1 := (lowP_tab.mp hl).2 b (b + s) (by omega) h
  rw [stepL_congr (e' := eL l) (by omega) fun x y hx hxy hy => by unfold setE; rw [if_neg (fun q => by omega)], eL_step (by omega) h] at h1
  unfold setE at h1
  rw [if_pos ⟨rfl, rfl⟩, eL_at (by omega) h] at h1
  omega
/-! _law_long_right -/
def sp_law_long_right : Sp := fun vs H Q _ => ∃ (p : Addr) (P0 : Wl), vs = [.ref p] ∧ H p = some P0.o ∧ ∀ (P1 : Wl) (H' : Hp), But p H H' → H' p = some P1.o → Q (.bl true) H'
theorem ok_law_long_right (T : Facts K mg) : CalG P w K mg base 6 "_law_long_right" sp_law_long_right := by
  refine calDG T.f_law_long_right sc_law_long_right (fun vs H Q E h => ?_) (fun f cdv A outer s H vs Q E hr hgd h => ?_)
  · obtain ⟨p, P0, rfl, hp, q⟩ := h; rfl
  · obtain ⟨p, P0, rfl, hp, q⟩ := h
    refine ⟨_, (pss_cons (ps_set (i := 1) sc_law_long_right.nd rfl (Or.inr rfl) (pe_slice sl_tx (pe_own (ok_law_long T) hr (by omega) rfl (pa_cons (pv 0) (pa_cons pe_int pa_nil))) po_none (po_some pe_int)))
       (pss_cons (ps_set (i := 2) sc_law_long_right.nd rfl (Or.inr rfl) (pe_own (ok_law_best T) hr (by omega) rfl (pa_cons (pv 1) pa_nil)))
       (pss_cons (ps_setLc (i := 3) (own := [("i", 8)]) (by rfl) sc_law_long_right.nd rfl rfl (sw_true rfl rfl rfl (by decide +kernel)) (pi_range1 rfl T.b_range (pa_cons (pe_op op_add (pe_callB call_lenT rfl T.b_len PySem.boot_len (pa_cons (pv 1) pa_nil)) pe_int) pa_nil)) (blkOk_by (own := [("i", 8)]) (N := N_law_long_right) (sc := defScope s_law_long_right) (by decide +kernel)) (fun _ _ _ _ _ => (pg_name (i := 8) sc_law_long_right.nd rfl (Or.inr rfl))) (fun _ _ _ _ _ => pts_nil) (fun _ _ _ _ _ => (pe_lc (own := [("j", 9)]) (by rfl) sc_law_long_right.nd (pi_range2 rfl T.b_range (pa_cons (pv 8) (pa_cons (pe_op op_add (pe_callB call_lenT rfl T.b_len PySem.boot_len (pa_cons (pv 1) pa_nil)) pe_int) pa_nil))) (blkOk_by (own := [("j", 9)]) (N := N_law_long_right) (sc := rlSc (lcScS ((defBody s_law_long_right).getD 2 (.Pass ⟨0, 0, 0, 0⟩))) (defScope s_law_long_right)) (by decide +kernel)) (fun _ _ _ _ _ => (pg_name (i := 9) sc_law_long_right.nd rfl (Or.inl rfl))) (fun _ _ _ _ _ => pts_nil) (fun _ _ _ _ _ => (pe_dget (hu_of hr) (pv 2) (pe_tup (pa_cons (pv 8) (pa_cons (pv 9) pa_nil))) (fun _ _ => rfl))))))
       (pss_cons (ps_if (pt_cmpR op_notBl (pe_own (ok_is_low T) hr (by omega) rfl (pa_cons (pv 1) (pa_cons (pv 3) pa_nil))) pe_bl (nomark _))
       (pss_one (ps_ret pe_bl))
       pss_nil)
       (pss_cons (ps_set (i := 4) sc_law_long_right.nd rfl (Or.inl rfl) (pe_own (ok_law_draw T) hr (by omega) rfl (pa_cons (pv 0) (pa_cons pe_int pa_nil))))
       (pss_cons (ps_if (pt_cmpR op_gt (pv 4) pe_int (nomark _))
       (pss_one (ps_ret (pe_ownG (ok_law_right T) (by exact hgd) hr (by omega) rfl (pa_cons (pv 1) (pa_cons (pe_ix ix_list (pe_lst (pa_cons (pe_own (ok_law_lower T) hr (by omega) rfl (pa_cons (pv 0) (pa_cons (pv 3) pa_nil))) (pa_cons (pe_own (ok_law_forged T) hr (by omega) rfl (pa_cons (pv 0) (pa_cons (pv 3) pa_nil))) pa_nil))) (pe_op op_sub (pv 4) pe_int) (fun _ _ => rfl)) pa_nil)))))
       pss_nil)
       (pss_cons (ps_set (i := 5) sc_law_long_right.nd rfl (Or.inl rfl) (pe_op op_mul (pv 4) (pe_own (ok_law_draw T) hr (by omega) rfl (pa_cons (pv 0) (pa_cons (pe_callB call_lenT rfl T.b_len PySem.boot_len (pa_cons (pv 1) pa_nil)) pa_nil)))))
       (pss_cons (ps_set (i := 6) sc_law_long_right.nd rfl (Or.inl rfl) (pe_ix ix_list (pe_lst (pa_cons (pe_callB call_lenT rfl T.b_len PySem.boot_len (pa_cons (pv 1) pa_nil)) (pa_cons (pe_op op_add pe_int (pe_own (ok_law_draw T) hr (by omega) rfl (pa_cons (pv 0) (pa_cons (pe_op op_sub (pe_callB call_lenT rfl T.b_len PySem.boot_len (pa_cons (pv 1) pa_nil)) (pv 5)) pa_nil)))) pa_nil))) (pv 4) (fun _ _ => rfl)))
       (pss_cons (ps_set (i := 7) sc_law_long_right.nd rfl (Or.inl rfl) (pe_own (ok_law_copy T) hr (by omega) rfl (pa_cons (pv 3) pa_nil)))
       (pss_cons (ps_asg (pe_op op_add (pe_ix ix_list (pe_ix ix_list (pv 7) (pv 5) (fun _ _ => rfl)) (pv 6) (fun _ _ => rfl)) pe_int) (pg_sub (pe_ix ix_list (pv 7) (pv 5) (fun _ _ => rfl)) (pv 6) set_list))
       (pss_one (ps_ret (pe_cmpR op_isBl (pe_own (ok_is_low T) hr (by omega) rfl (pa_cons (pv 1) (pa_cons (pv 7) pa_nil))) pe_bl (nomark _)))))))))))))), ?_⟩
    rw [st_law_long_right]
    wtm_at "unf"
    wtm_at "gx"
    refine ⟨p, P0, 39, rfl, hp, by decide, by decide, fun l0 P1 G1 hls0 hl2 hll0 b1 e1 => ?_⟩
    wtm_at "gx"
    refine g_slTo (by omega) (by decide) ?_
    have hln : (l0.take (40 : Int).toNat).length ≤ 40 := by rw [List.length_take]; exact Nat.min_le_left _ _
    have hl1 : 2 ≤ (l0.take (40 : Int).toNat).length := by rw [List.length_take]; show 2 ≤ min 40 l0.length; omega
    generalize l0.take (40 : Int).toNat = l at hln hl1
    wtm_at "gx"
    refine ⟨l, rfl, by omega, fun bp f n0 H1 nbp s1 hD hn hf => ?_⟩
    wtm_at "gx"
    refine ⟨_, rfl, by omega, by omega, lc_rng fun d H2 nd s2 ed => ⟨fun i H' => ∃ rs : List Addr, rs.length = i ∧ Same H1 H' ∧ (∀ x ∈ rs, H1 x = none) ∧ Tab H' d rs (fun k => rowV (fun a b => lstN l a b) k (l.length + 1 - k)), ⟨[], rfl, s2, by simp, ⟨ed, by simp, by simp, by simp⟩⟩, fun i H' hi hv => ?_, fun H' hv => ?_⟩⟩
    · obtain ⟨rs, hrl, sH, hfr, hT⟩ := hv
      wtm_at "unf"
      refine ⟨rfl, ?_⟩
      wtm_at "gx"
      refine ⟨_, _, rfl, ⟨by omega, by omega, by omega, by omega⟩, lc_rng fun r H3 nr s3 er => ⟨fun t H' => Same H1 H' ∧ H' r = some (.lst (rowV (fun a b => lstN l a b) i t)) ∧ Tab H' d rs (fun k => rowV (fun a b => lstN l a b) k (l.length + 1 - k)), ⟨sH.trans s3, er, hT.same s3⟩, fun t H' ht hv => ?_, fun H' hv => ?_⟩⟩
      · obtain ⟨sH2, er2, hT2⟩ := hv
        have hr1 : H1 r = none := sH.free nr
        obtain ⟨fr1, fr2⟩ := hT.fresh nr
        wtm_at "unf"
        refine ⟨rfl, ?_⟩
        wtm_at "gx"
        refine g_tup (by show 2 ≤ 100000; decide) fun u H4 nu s4 eu => ?_
        refine g_dgetT (i := i) (j := ((i + t : Nat) : Int)) (hD.same (sH2.trans s4)) (by rw [eu, Int.zero_add, show (i : Int) + (t : Int) = ((i + t : Nat) : Int) by omega]) (hf i (i + t) (by omega) (by omega)) ?_
        refine lc_put (s4 _ _ er2) (by rw [rowV_len]; omega) fun H5 b5 e5 => ?_
        refine ⟨Same.b0 b5 (sH2.trans s4) hr1, by rw [rowV_snoc]; exact e5, (hT2.same s4).but b5 fr1 fr2⟩
      · obtain ⟨sH2, er2, hT2⟩ := hv
        obtain ⟨fr1, fr2⟩ := hT.fresh nr
        refine lc_put hT2.hd (by rw [List.length_map]; omega) fun H5 b5 e5 => ?_
        refine ⟨rs ++ [r], by simp [hrl], Same.b0 b5 sH2 nd, fun x hx => ?_, ?_⟩
        · rcases List.mem_append.mp hx with hx | hx
          · exact hfr x hx
          · rw [List.mem_singleton] at hx
            rw [hx]
            exact sH.free nr
        · refine (Tab.snoc hT2 (b5 _ _ fr1 er2) (by rw [e5, List.map_append]; rfl) fr2 (Ne.symm fr1) (fun q hq o ho => b5 _ _ (fun e => hT2.nin (by rw [← e]; exact hq)) ho)).congr fun k hk => ?_
          by_cases e : k = rs.length
          · rw [if_pos e, e, hrl]
            congr 1
            omega
          · rw [if_neg e]
    obtain ⟨rs, hrl, sT, hfr, hT⟩ := hv
    have hrl : rs.length = l.length + 1 := by omega
    have hT := eL_tab hT hrl
    have hfd : ∀ x ∈ d :: rs, H1 x = none := fun x hx => by
      rcases List.mem_cons.mp hx with rfl | hx
      · exact nd
      · exact hfr x hx
    have e1' := s1 _ _ e1
    have eT := sT _ _ e1'
    have hpd : p ≠ d := fun e => by have := hfd d (List.mem_cons_self ..); rw [← e, e1'] at this; cases this
    have hpr : p ∉ rs := fun h => by have := hfr p h; rw [e1'] at this; cases this
    have hb : ∀ a b, (eL l a b).natAbs ≤ 1000 := fun a b => Nat.le_trans (eL_le (by omega) a b) (by decide)
    have bT : But p H H' := But.sa sT (But.sa s1 b1)
    wtm_at "gx"
    refine ⟨l, .ref d, _, rfl, (dx_tab hT hrl hpd hpr).un, by omega, fun H3 s3 => ?_⟩
    rw [lowB_t (eL_low l)]
    refine ⟨true, true, rfl, rfl, ?_⟩
    refine ⟨false, rfl, ?_⟩
    rw [if_neg Bool.false_ne_true]
    have hT3 := hT.same s3
    have e3 := s3 _ _ eT
    have bT3 : But p H H3 := But.sa s3 bT
    wtm_at "gx"
    refine ⟨p, P1, 4, rfl, e3, by decide, by decide, fun w P2 H4 w0 w1 b4 e4 => ?_⟩
    have hT4 := hT3.but b4 hpd hpr
    have bT4 : But p H H4 := But.tr b4 bT3
    wtm_at "gx"
    by_cases hw : 1 < w
    · refine g_Td hw ?_
      wtm_at "gx"
      refine ⟨p, P2, d, rs, eL l, l.length, rfl, e4, hT4, hrl, hln, hpd, hpr, fun d2 rs2 e2 P3 H5 b5 e5 hfr2 hrl2 hT5 hb5 => ?_⟩
      have hpd2 : p ≠ d2 := fun e => by have := hfr2 d2 (List.mem_cons_self ..); rw [← e, e4] at this; cases this
      have hpr2 : p ∉ rs2 := fun h => by have := hfr2 p (List.mem_cons_of_mem _ h); rw [e4] at this; cases this
      wtm_at "gx"
      refine ⟨p, P3, d, rs, eL l, l.length, p, rfl, e5, hT4.but b5 hpd hpr, hrl, hln, hpd, hpr, ⟨_, e5⟩, hb, fun v D P4 H6 b6 e6 hDv hnc => ?_⟩
      refine g_lst (by show 2 ≤ 100000; decide) fun lt H7 nlt s7 elt => ?_
      wtm_at "gx"
      have bT7 : But p H H7 := But.sa s7 (But.tr b6 (But.tr b5 bT4))
      rcases (show w = 2 ∨ w = 3 by omega) with rfl | rfl
      · refine g_ixL (sq_of elt) (show atI [V.ref d2, v] (2 - 2) = some (V.ref d2) from rfl) ?_
        refine ⟨l, .ref d2, _, rfl, (dx_tab ((hT5.but b6 hpd2 hpr2).same s7) hrl2 hpd2 hpr2).un, nc_tabD hln fun a b => by have := hb5 a b; have := hb a b; omega, by omega, fun H8 s8 => ?_⟩
        exact q P4 H8 (But.sa s8 bT7) (s8 _ _ (s7 _ _ e6))
      · refine g_ixL (sq_of elt) (show atI [V.ref d2, v] (3 - 2) = some v from rfl) ?_
        refine ⟨l, v, D, rfl, (hDv.sm s7).un, hnc, by omega, fun H8 s8 => ?_⟩
        exact q P4 H8 (But.sa s8 bT7) (s8 _ _ (s7 _ _ e6))
    refine g_Fd hw ?_
    wtm_at "gx"
    refine ⟨p, P2, _, rfl, e4, by omega, by omega, fun u P3 H5 u0 u1 b5 e5 => ?_⟩
    obtain ⟨bg, hbg, hbl⟩ : ∃ bg : Nat, w * u = (bg : Int) ∧ bg < l.length := by
      rcases (show w = 0 ∨ w = 1 by omega) with rfl | rfl
      · exact ⟨0, by simp, by omega⟩
      · exact ⟨u.toNat, by omega, by omega⟩
    refine g_I (by unfold CMul; omega) ?_
    rw [hbg]
    have hT5 := hT4.but b5 hpd hpr
    have bT5 : But p H H5 := But.tr b5 bT4
    wtm_at "gx"
    refine ⟨p, P3, _, rfl, e5, by omega, by omega, fun u2 P4 H6 v0 v1 b6 e6 => ?_⟩
    have hT6 := hT5.but b6 hpd hpr
    wtm_at "gx"
    refine g_lst (by show 2 ≤ 100000; decide) fun lt H7 nlt s7 elt => ?_
    wtm_at "gx"
    obtain ⟨sz, hsz, hs0, hs1⟩ : ∃ sz : Nat, atI [V.int (l.length : Nat), V.int (1 + u2)] w = some (V.int (sz : Nat)) ∧ 0 < sz ∧ bg + sz ≤ l.length := by
      rcases (show w = 0 ∨ w = 1 by omega) with rfl | rfl
      · exact ⟨l.length, rfl, by omega, by omega⟩
      · exact ⟨(1 + u2).toNat, by rw [show (((1 + u2).toNat : Nat) : Int) = 1 + u2 by omega]; rfl, by omega, by omega⟩
    refine g_ixL (sq_of elt) hsz ?_
    have hT7 := hT6.same s7
    have e7 := s7 _ _ e6
    wtm_at "gx"
    refine ⟨d, rs, _, rfl, hT7, by omega, fun k => by rw [rowV_len]; omega, fun d2 rs2 H8 s8 hfr2 hrl2 hT8 => ?_⟩
    rw [hrl] at hrl2
    have hpd2 : p ≠ d2 := fun e => by have := hfr2 d2 (List.mem_cons_self ..); rw [← e, e7] at this; cases this
    have hpr2 : p ∉ rs2 := fun h => by have := hfr2 p (List.mem_cons_of_mem _ h); rw [e7] at this; cases this
    obtain ⟨r5, q1, q2, q3⟩ := hT8.row (k := bg) (by omega)
    have hr5p : r5 ≠ p := fun e => hpr2 (by rw [← e]; exact List.mem_of_getElem? q1)
    have hr5H : H7 r5 = none := hfr2 r5 (List.mem_cons_of_mem _ (List.mem_of_getElem? q1))
    wtm_at "gx"
    refine g_ixLn bg (sq_of hT8.hd) rfl q2 ?_
    wtm_at "gx"
    refine g_ixLn sz (sq_of q3) rfl (rowV_at (by omega)) ?_
    wtm_at "gx"
    refine g_ixLn bg (sq_of hT8.hd) rfl q2 ?_
    wtm_at "gx"
    refine g_setLn sz q3 rfl (by rw [rowV_len]; omega) fun H9 b9 e9 => ?_
    have hT9 := Tab.setE hT8 q1 b9 e9
    have b79 : But p H7 H9 := But.b0 b9 (Same.toBut s8) hr5H
    wtm_at "gx"
    refine ⟨l, .ref d2, _, rfl, (dx_tab hT9 hrl2 hpd2 hpr2).un, by omega, fun H10 s10 => ?_⟩
    rw [lowB_f (eL_raised hs0 hs1)]
    exact ⟨false, false, rfl, rfl, q P4 H10 (But.sa s10 (But.tr b79 (But.sa s7 (But.tr b6 bT5)))) (s10 _ _ (b9 _ _ (Ne.symm hr5p) (s8 _ _ e7)))⟩
/-! law -/
def spLaw (K : PySem.W.Frag) : Sp := fun vs H Q _ => ∃ (a : Addr) (ns : List Int), vs = [.ref a] ∧ SqL K H a (ns.map V.int) ∧ ns.length ≤ 63 ∧ ∀ H', Q (.bl true) H'
theorem ok_law {f : Addr} {fd : FuncData} (T : Facts K mg) (F : FunD K "law" "law" (defArgs s_law) (defBody s_law) (defScope s_law) [] [] f fd) : FnG P w K mg base C8.CX0 7 f fd ["script"] (spLaw K) := by
  refine fnDG F sc_law (fun vs H Q E h => ?_) (fun cdv A outer s H vs Q E hr hgd h => ?_)
  · obtain ⟨a, ns, rfl, hS, hlen, q⟩ := h; rfl
  · obtain ⟨a, ns, rfl, hS, hlen, q⟩ := h
    refine ⟨_, (pss_cons (ps_set (i := 1) sc_law.nd rfl (Or.inr rfl) (pe_own (ok_law_well T) hr (by omega) rfl (pa_cons (pe_ix ix_list (pe_op op_catQ (pv 0) (pe_lst (pa_cons pe_int pa_nil))) pe_int (fun _ _ => rfl)) pa_nil)))
       (pss_cons (ps_ifC (PW.pt (pw_and (pt_cmpR op_eq (pe_own (ok_law_draw T) hr (by omega) rfl (pa_cons (pv 1) (pa_cons pe_int pa_nil))) pe_int (nomark _)) (pw_and1 (pt_not (pt_val (pe_ownG (ok_law_long_right T) (by exact hgd) hr (by omega) rfl (pa_cons (pv 1) pa_nil)))))))
       (pss_one (ps_ret pe_bl))
       pss_nil)
       (pss_cons (ps_for PassesOwn.never rfl (pi_list (pe_op op_cat (pe_lst (pa_cons pe_int (pa_cons pe_int pa_nil))) (pe_slice sl_list (pv 0) po_none (po_some pe_int)))) (pg_name (i := 2) sc_law.nd rfl (Or.inl rfl))
       (pss_cons (ps_set (i := 1) sc_law.nd rfl (Or.inr rfl) (pe_own (ok_law_well T) hr (by omega) rfl (pa_cons (pv 2) pa_nil)))
       (pss_cons (ps_set (i := 3) sc_law.nd rfl (Or.inr rfl) (pe_own (ok_law_text T) hr (by omega) rfl (pa_cons (pv 1) (pa_cons pe_int pa_nil))))
       (pss_cons (ps_set (i := 4) sc_law.nd rfl (Or.inr rfl) (pe_own (ok_law_best T) hr (by omega) rfl (pa_cons (pv 3) pa_nil)))
       (pss_cons (ps_set (i := 5) sc_law.nd rfl (Or.inr rfl) (pe_lc (own := [("i", 9)]) (by rfl) sc_law.nd (pi_range1 rfl T.b_range (pa_cons (pe_op op_add (pe_callB call_lenT rfl T.b_len PySem.boot_len (pa_cons (pv 3) pa_nil)) pe_int) pa_nil)) (blkOk_by (own := [("i", 9)]) (N := N_law) (sc := defScope s_law) (by decide +kernel)) (fun _ _ _ _ _ => (pg_name (i := 9) sc_law.nd rfl (Or.inr rfl))) (fun _ _ _ _ _ => pts_nil) (fun _ _ _ _ _ => (pe_lc (own := [("j", 10)]) (by rfl) sc_law.nd (pi_range2 rfl T.b_range (pa_cons (pv 9) (pa_cons (pe_op op_add (pe_callB call_lenT rfl T.b_len PySem.boot_len (pa_cons (pv 3) pa_nil)) pe_int) pa_nil))) (blkOk_by (own := [("j", 10)]) (N := N_law) (sc := rlSc (lcScS ((bodyS ((defBody s_law).getD 2 (.Pass ⟨0, 0, 0, 0⟩))).getD 3 (.Pass ⟨0, 0, 0, 0⟩))) (defScope s_law)) (by decide +kernel)) (fun _ _ _ _ _ => (pg_name (i := 10) sc_law.nd rfl (Or.inl rfl))) (fun _ _ _ _ _ => pts_nil) (fun _ _ _ _ _ => (pe_dget (hu_of hr) (pv 4) (pe_tup (pa_cons (pv 9) (pa_cons (pv 10) pa_nil))) (fun _ _ => rfl)))))))
       (pss_cons (ps_if (pt_cmpR op_notBl (pe_own (ok_is_low T) hr (by omega) rfl (pa_cons (pv 3) (pa_cons (pe_own (ok_law_copy T) hr (by omega) rfl (pa_cons (pv 5) pa_nil)) pa_nil))) pe_bl (nomark _))
       (pss_one (ps_ret pe_bl))
       pss_nil)
       (pss_cons (ps_set (i := 6) sc_law.nd rfl (Or.inl rfl) (pe_op op_cat (pe_lc (own := [("k", 11)]) (by rfl) sc_law.nd (pi_range1 rfl T.b_range (pa_cons pe_int pa_nil)) (blkOk_by (own := [("k", 11)]) (N := N_law) (sc := defScope s_law) (by decide +kernel)) (fun _ _ _ _ _ => (pg_name (i := 11) sc_law.nd rfl (Or.inl rfl))) (fun _ _ _ _ _ => pts_nil) (fun _ _ _ _ _ => (pe_own (ok_law_forged T) hr (by omega) rfl (pa_cons (pv 1) (pa_cons (pv 5) pa_nil))))) (pe_lst (pa_cons (pe_own (ok_law_lower T) hr (by omega) rfl (pa_cons (pv 1) (pa_cons (pv 5) pa_nil))) pa_nil))))
       (pss_cons (ps_for PassesOwn.never rfl (pi_list (pv 6)) (pg_name (i := 7) sc_law.nd rfl (Or.inl rfl))
       (pss_one (ps_if (pt_not (pt_val (pe_ownG (ok_law_right T) (by exact hgd) hr (by omega) rfl (pa_cons (pv 3) (pa_cons (pv 7) pa_nil)))))
       (pss_one (ps_ret pe_bl))
       pss_nil)))
       (pss_one (ps_for PassesOwn.never rfl (pi_list (pe_lst (pa_cons pe_non (pa_cons pe_int (pa_cons pe_bl (pa_cons (pe_strS (l := []) (by decide +kernel)) (pa_cons (pe_lst pa_nil) (pa_cons pe_dnewK (pa_cons (pe_tup pa_nil) (pa_cons (pe_lst (pa_cons (pe_lst pa_nil) pa_nil)) (pa_cons (pe_lst (pa_cons pe_int pa_nil)) (pa_cons (pe_lst (pa_cons (pe_lst (pa_cons pe_int pa_nil)) pa_nil)) (pa_cons (pe_lst (pa_cons pe_non pa_nil)) (pa_cons (pe_tup (pa_cons (pe_lst (pa_cons pe_int pa_nil)) pa_nil)) (pa_cons (pe_lst (pa_cons (pe_tup (pa_cons pe_int pa_nil)) pa_nil)) (pa_cons (pe_lst (pa_cons (pe_lst (pa_cons pe_bl pa_nil)) pa_nil)) pa_nil)))))))))))))))) (pg_name (i := 8) sc_law.nd rfl (Or.inl rfl))
       (pss_one (ps_if (pt_not (pt_val (pe_ownG (ok_law_right T) (by exact hgd) hr (by omega) rfl (pa_cons (pv 3) (pa_cons (pv 8) pa_nil)))))
       (pss_one (ps_ret pe_bl))
       pss_nil))))))))))))
       (pss_one (ps_ret pe_bl))))), ?_⟩
    rw [st_law]
    wtm_at "unf"
    wtm_at "gx"
    refine g_lst (by show 1 ≤ 100000; decide) fun c0 G1 n0 s1 ec0 => ?_
    refine g_catQ (Same.seq s1 hS) (sq_of ec0) (by simp; omega) fun c1 G2 n1 s2 ec1 => ?_
    obtain ⟨z0, zr, hz⟩ : ∃ (z0 : Int) (zr : List V), ns.map V.int ++ [V.int 0] = V.int z0 :: zr := by
      cases ns with
      | nil => exact ⟨0, [], rfl⟩
      | cons x xs => exact ⟨x, _, rfl⟩
    rw [hz] at ec1
    refine g_ixLn 0 (sq_of ec1) rfl rfl ?_
    wtm_at "gx"
    refine ⟨z0, rfl, fun p P1 G3 np s3 e3 => ?_⟩
    have s03 : Same H G3 := s1.trans (s2.trans s3)
    have npH : H p = none := (s1.trans s2).free np
    wtm_at "unfS"
    refine g_ifH (b := false) (G := fun G1 => Same H G1) (fun Q' q' => ?_) (fun G1 g h => by cases h) (fun G4 s04 _ => ?_)
    · wtm_at "unf"
      wtm_at "gx"
      refine ⟨p, P1, 8, rfl, e3, by decide, by decide, fun r P2 G4 r0 r1 b4 e4 => ?_⟩
      wtm_at "gx"
      have s4 : Same H G4 := Same.b0 b4 s03 npH
      refine g_test (fun h => ?_) (fun h => ?_)
      · wtm_at "gx"
        refine ⟨p, P2, rfl, e4, fun P3 G5 b5 e5 => ?_⟩
        wtm_at "gx"
        exact q' _ (Same.b0 b5 s4 npH)
      · exact q' _ s4
    wtm_at "unf"
    wtm_at "gx"
    refine g_lst (by show 2 ≤ 100000; decide) fun c3 G5 n5 s5 e5 => ?_
    wtm_at "gx"
    refine g_slL (Same.seq (s04.trans s5) hS) fun c4 G6 n6 s6 e6 => ?_
    obtain ⟨ms, ems, hms⟩ := cut_ints ns none (some 8)
    rw [ems] at e6
    refine g_cat (s6 _ _ e5) e6 (by simp; omega) fun c5 G7 n7 s7 e7 => ?_
    obtain ⟨zs, ezs⟩ : ∃ zs : List Int, [V.int 0, V.int 5] ++ ms.map V.int = zs.map V.int := ⟨0 :: 5 :: ms, rfl⟩
    rw [ezs] at e7
    refine ⟨_, rfl, ⟨_, sq_of e7⟩, for_lst (zs.map V.int) (fun pre σ H' => ∃ y1 y2 y3 y4 y5 y6 y7 y8 y9 y10 y11, σ = [some (V.ref a), y1, y2, y3, y4, y5, y6, y7, y8, y9, y10, y11] ∧ Same G7 H') ⟨_, _, _, _, _, _, _, _, _, _, _, rfl, Same.refl _⟩ (fun pre post σ H' e hv => ?_) (fun pre x post σ H0 e hv => ?_) (fun σ H' hv => ?_)⟩
    · obtain ⟨y1, y2, y3, y4, y5, y6, y7, y8, y9, y10, y11, rfl, sH⟩ := hv
      exact sq_of (sH _ _ e7)
    · obtain ⟨y1, y2, y3, y4, y5, y6, y7, y8, y9, y10, y11, rfl, sH0⟩ := hv
      obtain ⟨z, rfl⟩ : ∃ z, x = V.int z := by
        have hm : x ∈ zs.map V.int := by rw [e]; simp
        obtain ⟨z, _, hz⟩ := List.mem_map.mp hm
        exact ⟨z, hz.symm⟩
      wtm_at "unf"
      wtm_at "gx"
      refine ⟨z, rfl, fun p P1 G8 np s8 e8 => ?_⟩
      wtm_at "gx"
      refine ⟨p, P1, 10, rfl, e8, by decide, fun l P2 G9 hls hll b9 e9 => ?_⟩
      have s09 : Same H0 G9 := Same.b0 b9 s8 np
      wtm_at "gx"
      refine ⟨l, rfl, by omega, fun bp f n0 H1 nbp s1 hD hn hf => ?_⟩
      wtm_at "gx"
      refine ⟨_, rfl, by omega, by omega, lc_rng fun d H2 nd s2 ed => ⟨fun i H' => ∃ rs : List Addr, rs.length = i ∧ Same H1 H' ∧ (∀ x ∈ rs, H1 x = none) ∧ Tab H' d rs (fun k => rowV (fun a b => lstN l a b) k (l.length + 1 - k)), ⟨[], rfl, s2, by simp, ⟨ed, by simp, by simp, by simp⟩⟩, fun i H' hi hv => ?_, fun H' hv => ?_⟩⟩
      · obtain ⟨rs, hrl, sH, hfr, hT⟩ := hv
        wtm_at "unf"
        refine ⟨rfl, ?_⟩
        wtm_at "gx"
        refine ⟨_, _, rfl, ⟨by omega, by omega, by omega, by omega⟩, lc_rng fun r H3 nr s3 er => ⟨fun t H' => Same H1 H' ∧ H' r = some (.lst (rowV (fun a b => lstN l a b) i t)) ∧ Tab H' d rs (fun k => rowV (fun a b => lstN l a b) k (l.length + 1 - k)), ⟨sH.trans s3, er, hT.same s3⟩, fun t H' ht hv => ?_, fun H' hv => ?_⟩⟩
        · obtain ⟨sH2, er2, hT2⟩ := hv
          have hr1 : H1 r = none := sH.free nr
          obtain ⟨fr1, fr2⟩ := hT.fresh nr
          wtm_at "unf"
          refine ⟨rfl, ?_⟩
          wtm_at "gx"
          refine g_tup (by show 2 ≤ 100000; decide) fun u H4 nu s4 eu => ?_
          refine g_dgetT (i := i) (j := ((i + t : Nat) : Int)) (hD.same (sH2.trans s4)) (by rw [eu, Int.zero_add, show (i : Int) + (t : Int) = ((i + t : Nat) : Int) by omega]) (hf i (i + t) (by omega) (by omega)) ?_
          refine lc_put (s4 _ _ er2) (by rw [rowV_len]; omega) fun H5 b5 e5 => ?_
          refine ⟨Same.b0 b5 (sH2.trans s4) hr1, by rw [rowV_snoc]; exact e5, (hT2.same s4).but b5 fr1 fr2⟩
        · obtain ⟨sH2, er2, hT2⟩ := hv
          obtain ⟨fr1, fr2⟩ := hT.fresh nr
          refine lc_put hT2.hd (by rw [List.length_map]; omega) fun H5 b5 e5 => ?_
          refine ⟨rs ++ [r], by simp [hrl], Same.b0 b5 sH2 nd, fun x hx => ?_, ?_⟩
          · rcases List.mem_append.mp hx with hx | hx
            · exact hfr x hx
            · rw [List.mem_singleton] at hx
              rw [hx]
              exact sH.free nr
          · refine (Tab.snoc hT2 (b5 _ _ fr1 er2) (by rw [e5, List.map_append]; rfl) fr2 (Ne.symm fr1) (fun q hq o ho => b5 _ _ (fun e => hT2.nin (by rw [← e]; exact hq)) ho)).congr fun k hk => ?_
            by_cases e : k = rs.length
            · rw [if_pos e, e, hrl]
              congr 1
              omega
            · rw [if_neg e]
      obtain ⟨rs, hrl, sT, hfr, hT⟩ := hv
      have hrl : rs.length = l.length + 1 := by omega
      have hT := eL_tab hT hrl
      have hfd : ∀ x ∈ d :: rs, H1 x = none := fun x hx => by
        rcases List.mem_cons.mp hx with rfl | hx
        · exact nd
        · exact hfr x hx
      have hln : l.length ≤ 40 := by omega
      have e1' := s1 _ _ e9
      have eT := sT _ _ e1'
      have hpd : p ≠ d := fun e => by have := hfd d (List.mem_cons_self ..); rw [← e, e1'] at this; cases this
      have hpr : p ∉ rs := fun h => by have := hfr p h; rw [e1'] at this; cases this
      have hb : ∀ a b, (eL l a b).natAbs ≤ 1000 := fun a b => Nat.le_trans (eL_le (by omega) a b) (by decide)
      have s0T : Same H0 H' := s09.trans (s1.trans sT)
      wtm_at "gx"
      refine ⟨d, rs, _, rfl, hT, by omega, fun k => by rw [rowV_len]; omega, fun d2 rs2 H8 s8 hfr2 hrl2 hT8 => ?_⟩
      rw [hrl] at hrl2
      have hpd2 : p ≠ d2 := fun e => by have := hfr2 d2 (List.mem_cons_self ..); rw [← e, eT] at this; cases this
      have hpr2 : p ∉ rs2 := fun h => by have := hfr2 p (List.mem_cons_of_mem _ h); rw [eT] at this; cases this
      refine ⟨l, .ref d2, _, rfl, (dx_tab hT8 hrl2 hpd2 hpr2).un, by omega, fun G10 s10' => ?_⟩
      rw [lowB_t (eL_low l)]
      refine ⟨true, true, rfl, rfl, false, rfl, ?_⟩
      rw [if_neg Bool.false_ne_true]
      have s10 : Same H' G10 := s8.trans s10'
      have hT10 := hT.same s10
      have e10 := s10 _ _ eT
      wtm_at "gx"
      refine ⟨_, rfl, by decide, by decide, lc_rng fun y H11 ny s11 ey => ⟨fun i G => ∃ (vs : List V) (ds : List PyData) (P : Wl), vs.length = i ∧ G y = some (.lst vs) ∧ DxAll (del [y, p] G) vs ds ∧ (∀ D ∈ ds, nc 3 D = true) ∧ But p G10 G ∧ G p = some P.o, ⟨[], [], P2, rfl, ey, .nil, by simp, Same.toBut s11, s11 _ _ e10⟩, fun i G hi hv => ?_, fun G hv => ?_⟩⟩
      · obtain ⟨vs, ds, P, hvl, eyG, hall, hnc, bG, ep⟩ := hv
        have hi8 : i < 8 := hi
        have hyp : y ≠ p := Ne.symm (ne_new ny e10)
        wtm_at "unf"
        refine ⟨rfl, ?_⟩
        wtm_at "gx"
        refine ⟨p, P, d, rs, eL l, l.length, y, rfl, ep, hT10.but bG hpd hpr, hrl, hln, hpd, hpr, ⟨_, eyG⟩, hb, fun v D P3 G3 b3 ep3 hDv hncv => ?_⟩
        refine lc_put (b3 _ _ hyp eyG) (by omega) fun G5 b5 e5 => ⟨vs ++ [v], ds ++ [D], P3, by rw [List.length_append, hvl]; rfl, e5, ((hall.bt b3).append (.cons hDv .nil)).bt b5, fun D2 hD2 => ?_, But.b0 b5 (But.tr b3 bG) ny, b5 _ _ (Ne.symm hyp) ep3⟩
        rcases List.mem_append.mp hD2 with hD2 | hD2
        · exact hnc D2 hD2
        · rw [List.mem_singleton.mp hD2]; exact hncv
      obtain ⟨vs, ds, P, hvl, eyG, hall, hnc, bG, ep⟩ := hv
      have hyp : y ≠ p := Ne.symm (ne_new ny e10)
      wtm_at "gx"
      rename_i G' _
      refine ⟨p, P, d, rs, eL l, l.length, rfl, ep, hT10.but bG hpd hpr, hrl, hln, hpd, hpr, fun d2 rs2 e2 P3 G3 b3 ep3 hfr2 hrl2 hT2 hb2 => ?_⟩
      have hpd2 : p ≠ d2 := fun e => by have := hfr2 d2 (List.mem_cons_self ..); rw [← e, ep] at this; cases this
      have hpr2 : p ∉ rs2 := fun h => by have := hfr2 p (List.mem_cons_of_mem _ h); rw [ep] at this; cases this
      refine g_lst (by show 1 ≤ 100000; decide) fun l1 G4 nl1 s4 el1 => ?_
      refine g_cat (s4 _ _ (b3 _ _ hyp eyG)) el1 (by show _ + 1 ≤ 100000; have : vs.length = 8 := hvl; omega) fun ls G5 nls s5 els => ?_
      have hall5 : DxAll G5 (vs ++ [V.ref d2]) (ds ++ [tabD e2 l.length]) := ((((hall.bt b3).sm s4).sm s5).un).append (.cons (dx_tab ((hT2.same s4).same s5) hrl2 hpd2 hpr2).un .nil)
      have hnc5 : ∀ D ∈ ds ++ [tabD e2 l.length], nc 3 D = true := fun D hD => by
        rcases List.mem_append.mp hD with hD | hD
        · exact hnc D hD
        · rw [List.mem_singleton.mp hD]
          exact nc_tabD hln fun a b => by have := hb2 a b; have := hb a b; omega
      have s0G5 : Same H0 G5 := (Same.b0 (But.tr b3 bG) (s0T.trans s10) np).trans (s4.trans s5)
      have hask : ∀ {xs : List V} {es : List PyData} {G : Hp}, DxAll G xs es → (∀ D ∈ es, nc 3 D = true) → ∀ x ∈ xs, ∃ D, Dx G x D ∧ nc 3 D = true := fun {xs es G} hx hn x hm => by
        obtain ⟨k, hk⟩ := List.getElem?_of_mem hm
        obtain ⟨D, hD⟩ : ∃ D, es[k]? = some D := ⟨_, List.getElem?_eq_getElem (by rw [← hx.length]; exact (List.getElem?_eq_some_iff.mp hk).1)⟩
        exact ⟨D, hx.get hk hD, hn D (List.mem_of_getElem? hD)⟩
      wtm_at "gx"
      refine ⟨ls, rfl, ⟨_, sq_of els⟩, for_lst (vs ++ [V.ref d2]) (fun pre2 σ G => ∃ y7 : Option V, σ = [some (V.ref a), some (V.ref p), some (V.int z), some (Tx l), some (V.ref bp), some (V.ref d), some (V.ref ls), y7, y8, y9, y10, y11] ∧ Same G5 G) ⟨_, rfl, Same.refl _⟩ (fun pre2 post2 σ G e hv => ?_) (fun pre2 x2 post2 σ G e hv => ?_) (fun σ G hv => ?_)⟩
      · obtain ⟨y7', rfl, sG⟩ := hv
        exact sq_of (sG _ _ els)
      · obtain ⟨y7', rfl, sG⟩ := hv
        obtain ⟨D, q1, q2⟩ := hask hall5 hnc5 x2 (by rw [e]; simp)
        wtm_at "unf"
        wtm_at "gx"
        refine ⟨l, x2, D, rfl, dx_same sG q1, q2, by omega, fun G19 g19 => ?_⟩
        wtm_at "gx"
        exact ⟨_, rfl, sG.trans g19⟩
      obtain ⟨y7', rfl, sG6⟩ := hv
      have hpG : Std [p] G := .cons (sG6 _ _ (s5 _ _ (s4 _ _ ep3))) .nil
      dsimp only
      rw [tFor_eq]
      unfold iList
      apply Rd.go (p := [p])
      · wtm_at "rd"
      intro vt G20 g20 hds
      obtain ⟨lt, xs, rfl, elt, hxs⟩ := dx_lst_inv hds
      have elt := (del_un elt).1
      have hxs := hxs.un
      have hall := hask hxs (fa_cons (by wtm_at "nc") (fa_cons (by wtm_at "nc") (fa_cons (by wtm_at "nc") (fa_cons (by wtm_at "nc") (fa_cons (by wtm_at "nc") (fa_cons (by wtm_at "nc") (fa_cons (by wtm_at "nc") (fa_cons (by wtm_at "nc") (fa_cons (by wtm_at "nc") (fa_cons (by wtm_at "nc") (fa_cons (by wtm_at "nc") (fa_cons (by wtm_at "nc") (fa_cons (by wtm_at "nc") (fa_cons (by wtm_at "nc") fa_nil))))))))))))))
      clear hask
      refine ⟨lt, rfl, ⟨_, sq_of elt⟩, for_lst xs (fun pre2 σ G => ∃ y8 : Option V, σ = [some (V.ref a), some (V.ref p), some (V.int z), some (Tx l), some (V.ref bp), some (V.ref d), some (V.ref ls), y7', y8, y9, y10, y11] ∧ Same G20 G) ⟨_, rfl, Same.refl _⟩ (fun pre2 post2 σ G e hv => ?_) (fun pre2 x2 post2 σ G e hv => ?_) (fun σ G hv => ?_)⟩
      · obtain ⟨y8', rfl, sG⟩ := hv
        exact sq_of (sG _ _ elt)
      · obtain ⟨y8', rfl, sG⟩ := hv
        obtain ⟨D, q1, q2⟩ := hall x2 (by rw [e]; simp)
        wtm_at "unf"
        wtm_at "gx"
        refine ⟨l, x2, D, rfl, dx_same sG q1, q2, by omega, fun G19 g19 => ?_⟩
        wtm_at "gx"
        exact ⟨_, rfl, sG.trans g19⟩
      · obtain ⟨y8', rfl, sG⟩ := hv
        exact ⟨_, _, _, _, _, _, _, _, _, _, _, rfl, sH0.trans (s0G5.trans (sG6.trans (g20.trans sG)))⟩
    · obtain ⟨y1, y2, y3, y4, y5, y6, y7, y8, y9, y10, y11, rfl, sH⟩ := hv
      wtm_at "unf"
      wtm_at "gx"
      exact q _
end
end K19

set_option maxHeartbeats 0
namespace K19
open PySem PySem.Spec PyProof.Rows L2 SX Ly
/-! ### the head -/
def d_kind_of : He.DefD := ⟨("kind_of", none), "kind_of", "kind_of", defArgs s_kind_of, defBody s_kind_of, defScope s_kind_of, [], []⟩
def d_is_bracket : He.DefD := ⟨("is_bracket", none), "is_bracket", "is_bracket", defArgs s_is_bracket, defBody s_is_bracket, defScope s_is_bracket, [], []⟩
def d_turns : He.DefD := ⟨("turns", none), "turns", "turns", defArgs s_turns, defBody s_turns, defScope s_turns, [], []⟩
def d_steps_from : He.DefD := ⟨("steps_from", none), "steps_from", "steps_from", defArgs s_steps_from, defBody s_steps_from, defScope s_steps_from, [], []⟩
def d_is_whole : He.DefD := ⟨("is_whole", none), "is_whole", "is_whole", defArgs s_is_whole, defBody s_is_whole, defScope s_is_whole, [], []⟩
def d_is_shaped : He.DefD := ⟨("is_shaped", none), "is_shaped", "is_shaped", defArgs s_is_shaped, defBody s_is_shaped, defScope s_is_shaped, [], []⟩
def d_is_low : He.DefD := ⟨("is_low", none), "is_low", "is_low", defArgs s_is_low, defBody s_is_low, defScope s_is_low, [], []⟩
def d_law_well : He.DefD := ⟨("_law_well", none), "_law_well", "_law_well", defArgs s_law_well, defBody s_law_well, defScope s_law_well, [], []⟩
def d_law_draw : He.DefD := ⟨("_law_draw", none), "_law_draw", "_law_draw", defArgs s_law_draw, defBody s_law_draw, defScope s_law_draw, [], []⟩
def d_law_clean : He.DefD := ⟨("_law_clean", none), "_law_clean", "_law_clean", defArgs s_law_clean, defBody s_law_clean, defScope s_law_clean, [], []⟩
def d_law_bent : He.DefD := ⟨("_law_bent", none), "_law_bent", "_law_bent", defArgs s_law_bent, defBody s_law_bent, defScope s_law_bent, [], []⟩
def d_law_text : He.DefD := ⟨("_law_text", none), "_law_text", "_law_text", defArgs s_law_text, defBody s_law_text, defScope s_law_text, [], []⟩
def d_law_turns : He.DefD := ⟨("_law_turns", none), "_law_turns", "_law_turns", defArgs s_law_turns, defBody s_law_turns, defScope s_law_turns, [], []⟩
def d_law_best : He.DefD := ⟨("_law_best", none), "_law_best", "_law_best", defArgs s_law_best, defBody s_law_best, defScope s_law_best, [], []⟩
def d_law_is_number : He.DefD := ⟨("_law_is_number", none), "_law_is_number", "_law_is_number", defArgs s_law_is_number, defBody s_law_is_number, defScope s_law_is_number, [], []⟩
def d_law_is_shaped : He.DefD := ⟨("_law_is_shaped", none), "_law_is_shaped", "_law_is_shaped", defArgs s_law_is_shaped, defBody s_law_is_shaped, defScope s_law_is_shaped, [], []⟩
def d_law_bounds : He.DefD := ⟨("_law_bounds", none), "_law_bounds", "_law_bounds", defArgs s_law_bounds, defBody s_law_bounds, defScope s_law_bounds, [], []⟩
def d_law_due : He.DefD := ⟨("_law_due", none), "_law_due", "_law_due", defArgs s_law_due, defBody s_law_due, defScope s_law_due, [], []⟩
def d_law_copy : He.DefD := ⟨("_law_copy", none), "_law_copy", "_law_copy", defArgs s_law_copy, defBody s_law_copy, defScope s_law_copy, [], []⟩
def d_law_lower : He.DefD := ⟨("_law_lower", none), "_law_lower", "_law_lower", defArgs s_law_lower, defBody s_law_lower, defScope s_law_lower, [], []⟩
def d_law_forged : He.DefD := ⟨("_law_forged", none), "_law_forged", "_law_forged", defArgs s_law_forged, defBody s_law_forged, defScope s_law_forged, [], []⟩
def d_law_right : He.DefD := ⟨("_law_right", none), "_law_right", "_law_right", defArgs s_law_right, defBody s_law_right, defScope s_law_right, [], []⟩
def d_law_long : He.DefD := ⟨("_law_long", none), "_law_long", "_law_long", defArgs s_law_long, defBody s_law_long, defScope s_law_long, [], []⟩
def d_law_long_right : He.DefD := ⟨("_law_long_right", none), "_law_long_right", "_law_long_right", defArgs s_law_long_right, defBody s_law_long_right, defScope s_law_long_right, [], []⟩
def d_law : He.DefD := ⟨("law", none), "law", "law", defArgs s_law, defBody s_law, defScope s_law, [], []⟩
def fn : List He.DefD := [d_kind_of, d_is_bracket, d_turns, d_steps_from, d_is_whole, d_is_shaped, d_is_low, d_law_well, d_law_draw, d_law_clean, d_law_bent, d_law_text, d_law_turns, d_law_best, d_law_is_number, d_law_is_shaped, d_law_bounds, d_law_due, d_law_copy, d_law_lower, d_law_forged, d_law_right, d_law_long, d_law_long_right, d_law]
def exL (K : PySem.W.Frag) : List Bool := []
def ex (K : PySem.W.Frag) : Bool := (exL K).all id
def fa : List He.Fa := [.glo "kind_of", .glo "is_bracket", .glo "turns", .glo "steps_from", .glo "is_whole", .glo "is_shaped", .glo "is_low", .glo "_law_well", .glo "_law_draw", .glo "_law_clean", .glo "_law_bent", .glo "_law_text", .glo "_law_turns", .glo "_law_best", .glo "_law_is_number", .glo "_law_is_shaped", .glo "_law_bounds", .glo "_law_due", .glo "_law_copy", .glo "_law_lower", .glo "_law_forged", .glo "_law_right", .glo "_law_long", .glo "_law_long_right", .glo "law", .str "OPENING" (S OPN), .str "CLOSING" (S CLO), .free "len", .free "int", .free "range", .free "enumerate", .free "isinstance", .free "list", .free "tuple", .free "bool", .free "min", .free "all", .free "sorted", .free "repr"]
abbrev R : PySem.W.OpenRow := PySem.W.OpenLaw.row PySem.Challenge.rw_nestmend_k19_low_tables
abbrev hk : PySem.W.Hook := hookE 4 fa fn ex
def ob (s : PySem.W.SharedT) : AlE := obsEG 4 fa fn ex (HandSHeadRun.getT s)
theorem ob_eq (s : PySem.W.SharedT) : ob s = hk.obs s.abs := obsEG_eq (HandSHeadRun.getT_eq s)
def loose : List Str := ("OPENING" : Str) :: ("CLOSING" : Str) :: ("kind_of" : Str) :: ("is_bracket" : Str) :: ("turns" : Str) :: ("steps_from" : Str) :: ("is_whole" : Str) :: ("is_shaped" : Str) :: ("is_low" : Str) :: ("_law_well" : Str) :: ("_law_draw" : Str) :: ("_law_clean" : Str) :: ("_law_bent" : Str) :: ("_law_text" : Str) :: ("_law_turns" : Str) :: ("_law_best" : Str) :: ("_law_is_number" : Str) :: ("_law_is_shaped" : Str) :: ("_law_bounds" : Str) :: ("_law_due" : Str) :: ("_law_copy" : Str) :: ("_law_lower" : Str) :: ("_law_forged" : Str) :: ("_law_right" : Str) :: ("_law_long" : Str) :: ("_law_long_right" : Str) :: []
theorem run (w : World) : HandSHeadRun.RunEq R (PySem.W.view R.prog [29]) hk ob 6000 loose w := by
  intro os
  kernel_rfl
theorem facts {K : PySem.W.Frag} {h : Heap} {mg : Str → Option Value} (X : K.In h) (G : h.Ns mainGlobals mg) (c : He.SaysD fa fn K) (cx : ex K = true) : Facts K mg where
  f_kind_of := by
    obtain ⟨fd, F⟩ := c.def_ 0 (d := d_kind_of) rfl
    exact ⟨_, fd, F, He.glo_ok X G (c.fact 0 (f := .glo "kind_of") rfl), FunD.bindsN F fun _ _ _ _ _ _ us hl => match us, hl with | [_], _ => rfl⟩
  f_is_bracket := by
    obtain ⟨fd, F⟩ := c.def_ 1 (d := d_is_bracket) rfl
    exact ⟨_, fd, F, He.glo_ok X G (c.fact 1 (f := .glo "is_bracket") rfl), FunD.bindsN F fun _ _ _ _ _ _ us hl => match us, hl with | [_], _ => rfl⟩
  f_turns := by
    obtain ⟨fd, F⟩ := c.def_ 2 (d := d_turns) rfl
    exact ⟨_, fd, F, He.glo_ok X G (c.fact 2 (f := .glo "turns") rfl), FunD.bindsN F fun _ _ _ _ _ _ us hl => match us, hl with | [_, _], _ => rfl⟩
  f_steps_from := by
    obtain ⟨fd, F⟩ := c.def_ 3 (d := d_steps_from) rfl
    exact ⟨_, fd, F, He.glo_ok X G (c.fact 3 (f := .glo "steps_from") rfl), FunD.bindsN F fun _ _ _ _ _ _ us hl => match us, hl with | [_, _, _, _], _ => rfl⟩
  f_is_whole := by
    obtain ⟨fd, F⟩ := c.def_ 4 (d := d_is_whole) rfl
    exact ⟨_, fd, F, He.glo_ok X G (c.fact 4 (f := .glo "is_whole") rfl), FunD.bindsN F fun _ _ _ _ _ _ us hl => match us, hl with | [_], _ => rfl⟩
  f_is_shaped := by
    obtain ⟨fd, F⟩ := c.def_ 5 (d := d_is_shaped) rfl
    exact ⟨_, fd, F, He.glo_ok X G (c.fact 5 (f := .glo "is_shaped") rfl), FunD.bindsN F fun _ _ _ _ _ _ us hl => match us, hl with | [_, _], _ => rfl⟩
  f_is_low := by
    obtain ⟨fd, F⟩ := c.def_ 6 (d := d_is_low) rfl
    exact ⟨_, fd, F, He.glo_ok X G (c.fact 6 (f := .glo "is_low") rfl), FunD.bindsN F fun _ _ _ _ _ _ us hl => match us, hl with | [_, _], _ => rfl⟩
  f_law_well := by
    obtain ⟨fd, F⟩ := c.def_ 7 (d := d_law_well) rfl
    exact ⟨_, fd, F, He.glo_ok X G (c.fact 7 (f := .glo "_law_well") rfl), FunD.bindsN F fun _ _ _ _ _ _ us hl => match us, hl with | [_], _ => rfl⟩
  f_law_draw := by
    obtain ⟨fd, F⟩ := c.def_ 8 (d := d_law_draw) rfl
    exact ⟨_, fd, F, He.glo_ok X G (c.fact 8 (f := .glo "_law_draw") rfl), FunD.bindsN F fun _ _ _ _ _ _ us hl => match us, hl with | [_, _], _ => rfl⟩
  f_law_clean := by
    obtain ⟨fd, F⟩ := c.def_ 9 (d := d_law_clean) rfl
    exact ⟨_, fd, F, He.glo_ok X G (c.fact 9 (f := .glo "_law_clean") rfl), FunD.bindsN F fun _ _ _ _ _ _ us hl => match us, hl with | [_, _], _ => rfl⟩
  f_law_bent := by
    obtain ⟨fd, F⟩ := c.def_ 10 (d := d_law_bent) rfl
    exact ⟨_, fd, F, He.glo_ok X G (c.fact 10 (f := .glo "_law_bent") rfl), FunD.bindsN F fun _ _ _ _ _ _ us hl => match us, hl with | [_, _], _ => rfl⟩
  f_law_text := by
    obtain ⟨fd, F⟩ := c.def_ 11 (d := d_law_text) rfl
    exact ⟨_, fd, F, He.glo_ok X G (c.fact 11 (f := .glo "_law_text") rfl), FunD.bindsN F fun _ _ _ _ _ _ us hl => match us, hl with | [_, _], _ => rfl⟩
  f_law_turns := by
    obtain ⟨fd, F⟩ := c.def_ 12 (d := d_law_turns) rfl
    exact ⟨_, fd, F, He.glo_ok X G (c.fact 12 (f := .glo "_law_turns") rfl), FunD.bindsN F fun _ _ _ _ _ _ us hl => match us, hl with | [_, _], _ => rfl⟩
  f_law_best := by
    obtain ⟨fd, F⟩ := c.def_ 13 (d := d_law_best) rfl
    exact ⟨_, fd, F, He.glo_ok X G (c.fact 13 (f := .glo "_law_best") rfl), FunD.bindsN F fun _ _ _ _ _ _ us hl => match us, hl with | [_], _ => rfl⟩
  f_law_is_number := by
    obtain ⟨fd, F⟩ := c.def_ 14 (d := d_law_is_number) rfl
    exact ⟨_, fd, F, He.glo_ok X G (c.fact 14 (f := .glo "_law_is_number") rfl), FunD.bindsN F fun _ _ _ _ _ _ us hl => match us, hl with | [_], _ => rfl⟩
  f_law_is_shaped := by
    obtain ⟨fd, F⟩ := c.def_ 15 (d := d_law_is_shaped) rfl
    exact ⟨_, fd, F, He.glo_ok X G (c.fact 15 (f := .glo "_law_is_shaped") rfl), FunD.bindsN F fun _ _ _ _ _ _ us hl => match us, hl with | [_, _], _ => rfl⟩
  f_law_bounds := by
    obtain ⟨fd, F⟩ := c.def_ 16 (d := d_law_bounds) rfl
    exact ⟨_, fd, F, He.glo_ok X G (c.fact 16 (f := .glo "_law_bounds") rfl), FunD.bindsN F fun _ _ _ _ _ _ us hl => match us, hl with | [_, _, _, _], _ => rfl⟩
  f_law_due := by
    obtain ⟨fd, F⟩ := c.def_ 17 (d := d_law_due) rfl
    exact ⟨_, fd, F, He.glo_ok X G (c.fact 17 (f := .glo "_law_due") rfl), FunD.bindsN F fun _ _ _ _ _ _ us hl => match us, hl with | [_, _], _ => rfl⟩
  f_law_copy := by
    obtain ⟨fd, F⟩ := c.def_ 18 (d := d_law_copy) rfl
    exact ⟨_, fd, F, He.glo_ok X G (c.fact 18 (f := .glo "_law_copy") rfl), FunD.bindsN F fun _ _ _ _ _ _ us hl => match us, hl with | [_], _ => rfl⟩
  f_law_lower := by
    obtain ⟨fd, F⟩ := c.def_ 19 (d := d_law_lower) rfl
    exact ⟨_, fd, F, He.glo_ok X G (c.fact 19 (f := .glo "_law_lower") rfl), FunD.bindsN F fun _ _ _ _ _ _ us hl => match us, hl with | [_, _], _ => rfl⟩
  f_law_forged := by
    obtain ⟨fd, F⟩ := c.def_ 20 (d := d_law_forged) rfl
    exact ⟨_, fd, F, He.glo_ok X G (c.fact 20 (f := .glo "_law_forged") rfl), FunD.bindsN F fun _ _ _ _ _ _ us hl => match us, hl with | [_, _], _ => rfl⟩
  f_law_right := by
    obtain ⟨fd, F⟩ := c.def_ 21 (d := d_law_right) rfl
    exact ⟨_, fd, F, He.glo_ok X G (c.fact 21 (f := .glo "_law_right") rfl), FunD.bindsN F fun _ _ _ _ _ _ us hl => match us, hl with | [_, _], _ => rfl⟩
  f_law_long := by
    obtain ⟨fd, F⟩ := c.def_ 22 (d := d_law_long) rfl
    exact ⟨_, fd, F, He.glo_ok X G (c.fact 22 (f := .glo "_law_long") rfl), FunD.bindsN F fun _ _ _ _ _ _ us hl => match us, hl with | [_, _], _ => rfl⟩
  f_law_long_right := by
    obtain ⟨fd, F⟩ := c.def_ 23 (d := d_law_long_right) rfl
    exact ⟨_, fd, F, He.glo_ok X G (c.fact 23 (f := .glo "_law_long_right") rfl), FunD.bindsN F fun _ _ _ _ _ _ us hl => match us, hl with | [_], _ => rfl⟩
  c_OPENING := by
    obtain ⟨t, e⟩ := He.str_ok X G (c.fact 25 (f := .str "OPENING" (S OPN)) rfl)
    exact ⟨_, e, ⟨t, rfl⟩⟩
  c_CLOSING := by
    obtain ⟨t, e⟩ := He.str_ok X G (c.fact 26 (f := .str "CLOSING" (S CLO)) rfl)
    exact ⟨_, e, ⟨t, rfl⟩⟩
  b_len := He.free_ok X G (c.fact 27 (f := .free "len") rfl)
  b_int := He.free_ok X G (c.fact 28 (f := .free "int") rfl)
  b_range := He.free_ok X G (c.fact 29 (f := .free "range") rfl)
  b_enumerate := He.free_ok X G (c.fact 30 (f := .free "enumerate") rfl)
  b_isinstance := He.free_ok X G (c.fact 31 (f := .free "isinstance") rfl)
  b_list := He.free_ok X G (c.fact 32 (f := .free "list") rfl)
  b_tuple := He.free_ok X G (c.fact 33 (f := .free "tuple") rfl)
  b_bool := He.free_ok X G (c.fact 34 (f := .free "bool") rfl)
  b_min := He.free_ok X G (c.fact 35 (f := .free "min") rfl)
  b_all := He.free_ok X G (c.fact 36 (f := .free "all") rfl)
  b_sorted := He.free_ok X G (c.fact 37 (f := .free "sorted") rfl)
  b_repr := He.free_ok X G (c.fact 38 (f := .free "repr") rfl)
theorem law_at {K : PySem.W.Frag} {h : Heap} {mg : Str → Option Value} {f : Addr} (X : K.In h) (G : h.Ns mainGlobals mg) (hfa : mg ("law" : Str) = some (.ref f)) (c : He.SaysD fa fn K) :
    ∃ fd : FuncData, (∀ (s : Shared) (v : Value), BindsTo s fd ⟨[v], []⟩ [("script", v)]) ∧ FunD K "law" "law" (defArgs s_law) (defBody s_law) (defScope s_law) [] [] f fd := by
  obtain ⟨fd, F⟩ := c.def_ 24 (d := d_law) rfl
  have e := hfa.symm.trans (He.glo_ok X G (c.fact 24 (f := .glo "law") rfl))
  cases e
  have b := FunD.bindsA (ps := ["script"]) F fun _ _ _ _ _ _ us hl => match us, hl with | [_], _ => rfl
  exact ⟨fd, fun s v => b s [v] rfl, F⟩

end K19
open PySem PySem.W PySem.Calls PyProof.Rows
theorem PySem.Challenge.cw_nestmend_k19_low_tables_holds : PySem.Challenge.rw_nestmend_k19_low_tables.Holds := by
  w_on; o_law
  refine HandSHeadRun.head_any (r := OpenLaw.row PySem.Challenge.rw_nestmend_k19_low_tables) (q := view (OpenLaw.row PySem.Challenge.rw_nestmend_k19_low_tables).prog [29]) (H := K19.hk) (ob := K19.ob) (M := 6000) (loose := K19.loose) (d := HandSHeadRun.topDef (OpenLaw.row PySem.Challenge.rw_nestmend_k19_low_tables).prog 29) (kwd := []) K19.ob_eq
    (by kernel_rfl) (fun s => by kernel_rfl) K19.run (by kernel_rfl) (by kernel_rfl) (by kernel_rfl) (by rfl) (by first | assumption | decide +kernel) (by decide +kernel) ⟨rfl, rfl, rfl, rfl, rfl, by decide +kernel⟩ ?hw ?hc
  case hw => w_witness2
  case hc =>
    refine Ly.walkG (l := PySem.Challenge.rw_nestmend_k19_low_tables) (n := 63) (k := 7) (x := "script") rfl (by decide) (by kernel_rfl) ⟨rfl, by decide, by decide⟩ ?F
    intro w mg fa h Y G hmg0
    obtain ⟨K, KX, c, cx⟩ := Y
    have hmg : mg ("law" : PySem.Str) = some (.ref fa) := by
      have e : (HandSHeadRun.topDef (OpenLaw.row PySem.Challenge.rw_nestmend_k19_low_tables).prog 29).name = ("law" : PySem.Str) := by kernel_rfl
      rw [← e]
      exact hmg0
    obtain ⟨fd, hb, F⟩ := K19.law_at KX G hmg c
    exact ⟨K, fd, K19.spLaw K, KX, hb, fun H a ns hl _ hS => ⟨a, ns, rfl, hS, hl, fun _ => rfl⟩, fun base _ _ => K19.ok_law (K19.facts KX G c cx) F⟩
