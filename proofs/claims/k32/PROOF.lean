import PyProof.Rows.All
import Wide.All
import OpenK.AllK
import Wide.FinOn
import HandS.ForMost
import HandS.Codes
import HandS.Style
import HandS.Walk
import HandS.IsInst
import HandS.Wide
import HandS.Defaults
import HandS.Flow
import HandS.Replace
import KE.GoesMore
import KE.GoesZip
import KE.GoesEnum
import PyProof.ListStr
import PyProof.StrBlock2
import HandS.Conv
import HandS.ReplaceLit
import HandS.ReplaceList
import HandS.SortInts
import PyProof.Rows.SortShellAny
import PyProof.Rows.StrRev
import PyProof.Rows.SeqMore
import HandS.HeadHook1
import HandS.HeadHook2
import HandS.More
import HandS.ExcOwn
import HandS.ExcIs
import HandS.TryOnly
import HandS.WordsExc
import HandS.HeadEnd
import HandS.TupSets
import HandS.Deep
import KE.LtData
import HandS.Zip
import PySem.Challenge.RW_nestmend_k32_whole_words_together
import HandS.Head0
import HandS.Head1
import HandS.Head2
set_option Elab.async false
set_option linter.all false
set_option maxRecDepth 100000
set_option maxHeartbeats 4000000
namespace Ly
open PySem PySem.Spec PyProof.Rows L2 SX

/-- a text by its codes -/
abbrev Tx (l : List Nat) : V := V.str (S l)
def OPN : List Nat := [40, 60, 91, 123]
def CLO : List Nat := [41, 62, 93, 125]
def BRK : List Nat := [40, 41, 60, 62, 91, 93, 123, 125]
def LET : List Nat := [97, 98, 99, 100, 101, 102, 103, 104, 105, 106, 107, 108, 109, 110, 111, 112, 113, 114, 115, 116, 117, 118, 119, 120, 121, 122]

/-! ### rules -/
section
variable {X : Cx} {k j : Nat} {x : Str} {sp : Sp} {p pos : Pos} {e : Expr} {es : List Expr} {t : TA} {ta tb : TE}
def tOwn (sp : Sp) (t : TA) : TE := fun σ H Q => t σ H fun vs H1 => sp vs H1 Q C8.E0
theorem pe_own (c : C8.Cal X.prog X.w X.K X.mg X.base k x sp []) (hr : Room j X.A) (hk : k ≤ j) (hg : Gl X x) (ha : PA X (e :: es) t)
    (hdb : (x == ("__debug__" : Str)) = false := by decide) (he : starEach (e :: es) X.env = (false, eval e X.env) :: starEach es X.env := by rfl) (hpl : (backTo pos (starEach es X.env)).any (·.1) = false := by rfl) :
    PE X (.Call (.Name x p) (e :: es) [] pos) (tOwn sp t) := by
  have h := C8.pe_c (p := p) c hr hk hg ha hdb he hpl
  have e : tCall sp [] C8.E0 t = tOwn sp t := by
    funext σ H Q
    show (t σ H fun vs H1 => sp (vs ++ []) H1 Q C8.E0) = _
    simp only [List.append_nil]
    rfl
  rw [← e]
  exact h
theorem pe_strS {z : Str} {jj : Nat} {l : List Nat} (h : z = S l) : PE X (.Constant (.str z) jj pos) (tC (Tx l)) := by
  subst h
  exact pe_str
/-- operators by names -/
def rAddT : R2 := fun x y H Q => ∃ a b : List Nat, x = Tx a ∧ y = Tx b ∧ a.length + b.length ≤ 100000 ∧ Q (Tx (a ++ b)) H
theorem op_addT : OpR X (binaryOp .Add) rAddT := fun pins s σ H x y v u Q I rx ry h => by
  obtain ⟨a, b, rfl, rfl, hl, q⟩ := h
  refine op_add_str pins s σ H _ _ v u Q I rx ry ⟨_, _, rfl, rfl, ?_, ?_⟩
  · rw [S_len, S_len]
    exact Nat.le_trans hl (by decide)
  · rw [S_cat]
    exact q
def rInT (neg : Bool) : R2 := fun x y H Q => ∃ (c : Nat) (l : List Nat), x = Tx [c] ∧ y = Tx l ∧ Q (.bl (if neg then !decide (c ∈ l) else decide (c ∈ l))) H
theorem op_inT : OpR X (compareOp .In) (rInT false) := fun pins s σ H x y v u Q I rx ry h => by
  obtain ⟨c, l, rfl, rfl, q⟩ := h
  exact op_in_sign pins s σ H _ _ v u Q I rx ry ⟨c, S l, rfl, rfl, q⟩
theorem op_notInT : OpR X (compareOp .NotIn) (rInT true) := fun pins s σ H x y v u Q I rx ry h => by
  obtain ⟨c, l, rfl, rfl, q⟩ := h
  exact op_notIn_sign pins s σ H _ _ v u Q I rx ry ⟨c, S l, rfl, rfl, q⟩
def rIxT1 : R2 := fun x y H Q => ∃ (l : List Nat) (i : Int) (c : Nat), x = Tx l ∧ y = .int i ∧ l.length ≤ 100000 ∧ atI l i = some c ∧ Q (Tx [c]) H
theorem ix_txt : IxR X rIxT1 := fun value slice pins s σ H x y v u Q I rx ry h hs => by
  obtain ⟨l, i, c, rfl, rfl, hl, h1, q⟩ := h
  refine ix_str value slice pins s σ H _ _ v u Q I rx ry ⟨S l, i, c, rfl, rfl, ?_, h1, q⟩ hs
  rw [S_len]
  exact Nat.le_trans hl (by decide)
def rLenT : List V → Hp → VK → Prop := fun xs H Q => ∃ l : List Nat, xs = [Tx l] ∧ l.length ≤ 100000 ∧ Q (.int l.length) H
theorem call_lenT : CallR X (.builtin "len") rLenT := fun pins s σ H xs us Q I r h => by
  obtain ⟨l, rfl, hl, q⟩ := h
  refine call_len_str pins s σ H _ us Q I r ⟨S l, rfl, ?_, ?_⟩
  · rw [S_len]
    exact Nat.le_trans hl (by decide)
  · rw [S_len]
    exact q
def rIntB : List V → Hp → VK → Prop := fun xs H Q => ∃ b : Bool, xs = [.bl b] ∧ Q (.int (if b then 1 else 0)) H
theorem call_intB : CallR X (.type "int") rIntB := fun pins s σ H xs us Q I r h => by
  obtain ⟨b, rfl, q⟩ := h
  exact call_int1 pins s σ H _ us Q I r (.inr ⟨b, rfl, q⟩)
def rLenL (K : PySem.W.Frag) : List V → Hp → VK → Prop := fun xs H Q => ∃ p ys, xs = [.ref p] ∧ (SqL K H p ys ∨ SqT K H p ys) ∧ Q (.int ys.length) H
theorem call_lenL : CallR X (.builtin "len") (rLenL X.K) := call_len_seq
def rFindT : V → List V → Hp → VK → Prop := fun x xs H Q => ∃ a b : List Nat, x = Tx a ∧ xs = [Tx b] ∧ Q (.int (Txt.find (S a) (S b))) H
def rIdxT : V → List V → Hp → VK → Prop := fun x xs H Q => ∃ (a b : List Nat) (i : Nat), x = Tx a ∧ xs = [Tx b] ∧ Txt.find (S a) (S b) = (i : Int) ∧ Q (.int i) H
theorem mt_idxT : MtR X "str.index" rIdxT := fun pins s σ H x xs v us Q I rx rs h => by
  obtain ⟨a, b, i, h1, h2, h3, q⟩ := h
  unfold Txt.find at h3
  cases ho : Builtin.Str.occurrences (S a) (S b) 0 (S a).length 1 with
  | nil =>
    rw [ho] at h3
    exact absurd h3 (by show ¬ ((-1 : Int) = (i : Int)); omega)
  | cons j r =>
    rw [ho] at h3
    have e : (j : Int) = (i : Int) := h3
    have e2 : j = i := by omega
    subst e2
    exact mt_sindex pins s σ H x xs v us Q I rx rs ⟨S a, S b, j, r, h1, h2, ho, q⟩
def rSlTx : V → Option Int → Option Int → Hp → VK → Prop := fun x lo hi H Q => ∃ l : List Nat, x = Tx l ∧ l.length ≤ 100000 ∧ Q (.str (Txt.slice (S l) lo hi)) H
theorem sl_tx : SlR X rSlTx := by
  intro pins s σ H x v vl vu lo hi sl Q I rx hs pl pu h
  obtain ⟨l, hx, hz, q⟩ := h
  refine C8.sl_txt pins s σ H x v vl vu lo hi sl Q I rx hs pl pu ⟨S l, hx, ?_, q⟩
  rw [S_len]
  exact Nat.le_trans hz (by decide)
end

/-! ### heaps -/
def But (p : Addr) (H H' : Hp) : Prop := ∀ b o, b ≠ p → H b = some o → H' b = some o
section
variable {H H' H1 H2 : Hp} {a b p : Addr} {o u : HO}
theorem Same.new (h : H p = none) : Same H (upd H p u) := fun b x e => by
  rw [upd_ne (ne_of_none e h)]
  exact e
theorem But.refl : But p H H := fun _ _ _ h => h
theorem But.set : But p H (upd H p u) := fun b x n e => by
  rw [upd_ne n]
  exact e
theorem But.trans (x : But p H H1) (y : But p H1 H2) : But p H H2 := fun b o n h => y b o n (x b o n h)
theorem But.same (x : But p H H1) (y : Same H1 H2) : But p H H2 := fun b o n h => y b o (x b o n h)
theorem Same.but (x : Same H H1) (y : But p H1 H2) : But p H H2 := fun b o n h => y b o n (x b o h)
theorem Same.toBut (x : Same H H1) : But p H H1 := fun b o _ h => x b o h
/-- p is new since H -/
theorem Same.but0 (x : Same H H1) (y : But p H1 H2) (n : H p = none) : Same H H2 := fun b o h => y b o (ne_of_none h n) (x b o h)
theorem But.free (x : But p H H1) (n : a ≠ p) (h : H1 a = none) : H a = none := by
  cases q : H a with
  | none => rfl
  | some o =>
    rw [x a o n q] at h
    cases h
theorem But.but0 {q : Addr} (x : But p H H1) (y : But q H1 H2) (n : H q = none) : But p H H2 := fun b o m h => y b o (ne_of_none h n) (x b o m h)
theorem Same.get (s : Same H H1) (h : H a = some o) : H1 a = some o := s a o h
theorem But.get (s : But p H H1) (n : a ≠ p) (h : H a = some o) : H1 a = some o := s a o n h
theorem ne_new (n : H b = none) (h : H a = some o) : a ≠ b := ne_of_none h n
theorem Same.fr (n : H1 a = none) (x : Same H H1) : H a = none := x.free n
theorem But.fr (n : H1 a = none) (x : But p H H1) (m : a ≠ p) : H a = none := x.free m n
theorem Same.tr (y : Same H1 H2) (x : Same H H1) : Same H H2 := x.trans y
theorem Same.b0 (y : But p H1 H2) (x : Same H H1) (n : H p = none) : Same H H2 := Same.but0 x y n
theorem But.sa (y : Same H1 H2) (x : But p H H1) : But p H H2 := But.same x y
theorem But.tr (y : But p H1 H2) (x : But p H H1) : But p H H2 := x.trans y
theorem But.b0 {q : Addr} (y : But q H1 H2) (x : But p H H1) (n : H q = none) : But p H H2 := But.but0 x y n
theorem sq_of {K : PySem.W.Frag} {xs : List V} (h : H a = some (.lst xs)) : SqL K H a xs := .inl (.inl h)
theorem st_of {K : PySem.W.Frag} {xs : List V} (h : H a = some (.tup xs)) : SqT K H a xs := .inl (.inl h)
theorem But.sq {K : PySem.W.Frag} {xs : List V} (x : But p H H1) (n : a ≠ p) (h : SqL K H a xs) : SqL K H1 a xs := by
  rcases h with (h | ⟨o, h⟩) | h
  · exact .inl (.inl (x _ _ n h))
  · exact .inl (.inr ⟨o, x _ _ n h⟩)
  · exact .inr h
end

/-! ### readings, step by step -/
theorem cx_K {CX : CXT} {P : Program} {w : World} {K : PySem.W.Frag} {mg : Str → Option Value} {base : Heap} {N : List Str} {q : Str} {sc : Scope} {f : Addr} {cd : Value} {A : Around} {outer : List Env} {s : Shared} {H : Hp} {E : XK} : (cxOf CX P w K mg base N q sc f cd A outer s H E).K = K := rfl
section
variable {K : PySem.W.Frag} {σ : L2.St} {H : Hp} {Q : VK} {R : Hp → Prop} {i j : Int} {n : Nat} {v : V} {a p : Addr} {l m : List Nat} {xs ys : List V}
theorem g_var (h : σ[n]? = some (some v)) (q : Q v H) : tVar n σ H Q := ⟨v, h, q⟩
theorem g_I0 {g : Int → Int → V} (q : Q (g i j) H) : rI0 g (.int i) (.int j) H Q := ⟨i, j, rfl, rfl, q⟩
theorem g_I {C : Int → Int → Prop} {g : Int → Int → V} (c : C i j) (q : Q (g i j) H) : rI C g (.int i) (.int j) H Q := ⟨i, j, rfl, rfl, c, q⟩
theorem g_U {g : Int → V} (q : Q (g i) H) : rU g (.int i) H Q := ⟨i, rfl, q⟩
theorem g_ipI {g : Int → Int → Int} (q : Q (.int (g i j)) H) : ipI g (.int i) (.int j) H Q := ⟨i, j, rfl, rfl, q⟩
theorem g_addT (h : l.length + m.length ≤ 100000) (q : Q (Tx (l ++ m)) H) : rAddT (Tx l) (Tx m) H Q := ⟨l, m, rfl, rfl, h, q⟩
theorem g_inT {c : Nat} (q : Q (.bl (decide (c ∈ l))) H) : rInT false (Tx [c]) (Tx l) H Q := ⟨c, l, rfl, rfl, q⟩
theorem g_ninT {c : Nat} (q : Q (.bl (!decide (c ∈ l))) H) : rInT true (Tx [c]) (Tx l) H Q := ⟨c, l, rfl, rfl, q⟩
theorem g_ixT {c : Nat} (h : l.length ≤ 100000) (h1 : atI l i = some c) (q : Q (Tx [c]) H) : rIxT1 (Tx l) (.int i) H Q := ⟨l, i, c, rfl, rfl, h, h1, q⟩
theorem g_ixL (h : SqL K H p xs) (h1 : atI xs i = some v) (q : Q v H) : rIxL K (.ref p) (.int i) H Q := ⟨p, xs, i, v, rfl, rfl, h, h1, q⟩
theorem g_ixU (h : SqT K H p xs) (h1 : atI xs i = some v) (q : Q v H) : rIxT K (.ref p) (.int i) H Q := ⟨p, xs, i, v, rfl, rfl, h, h1, q⟩
theorem g_lenT (h : l.length ≤ 100000) (q : Q (.int l.length) H) : rLenT [Tx l] H Q := ⟨l, rfl, h, q⟩
theorem g_lenL (h : SqL K H p xs) (q : Q (.int xs.length) H) : rLenL K [.ref p] H Q := ⟨p, xs, rfl, .inl h, q⟩
theorem g_lenU (h : SqT K H p xs) (q : Q (.int xs.length) H) : rLenL K [.ref p] H Q := ⟨p, xs, rfl, .inr h, q⟩
theorem g_findT1 (q : Q (.int (Txt.find (S l) (S m))) H) : rFindT (Tx l) [Tx m] H Q := ⟨l, m, rfl, rfl, q⟩
theorem g_idxT1 {k : Nat} (h : Txt.find (S l) (S m) = (k : Int)) (q : Q (.int k) H) : rIdxT (Tx l) [Tx m] H Q := ⟨l, m, k, rfl, rfl, h, q⟩
theorem g_str {A : Prop} (q : A) : (∃ z, Tx l = .str z) ∧ A := ⟨⟨_, rfl⟩, q⟩
theorem g_intB {b : Bool} (q : Q (.int (if b then 1 else 0)) H) : rIntB [.bl b] H Q := ⟨b, rfl, q⟩
theorem g_eq {x y : V} (h : scal x y = true) (q : Q (.bl (decide (x = y))) H) : rEq x y H Q := ⟨h, q⟩
theorem g_ne {x y : V} (h : scal x y = true) (q : Q (.bl (!decide (x = y))) H) : rNe x y H Q := ⟨h, q⟩
theorem g_tyL (h : SqL K H p xs) : tyV K "list" (.ref p) H := .inl ⟨rfl, _, h⟩
/-! new objects, changed ones -/
def rLstN (xs : List V) (H : Hp) (Q : VK) : Prop := xs.length ≤ sizeLine ∧ ∀ p, H p = none → Q (.ref p) (upd H p (.lst xs))
def rTupN (xs : List V) (H : Hp) (Q : VK) : Prop := xs.length ≤ sizeLine ∧ ∀ p, H p = none → Q (.ref p) (upd H p (.tup xs))
def rRevN (K : PySem.W.Frag) (x : V) (H : Hp) (Q : VK) : Prop := ∃ a xs, x = .ref a ∧ SqL K H a xs ∧ ∀ p, H p = none → Q (.ref p) (upd H p (.lst xs.reverse))
theorem tLst_eq {t : TA} : tLst t σ H Q = t σ H fun xs H1 => rLstN xs H1 Q := rfl
theorem tTup_eq {t : TA} : tTup t σ H Q = t σ H fun xs H1 => rTupN xs H1 Q := rfl
theorem tRevL_eq {t : TE} : tRevL K t σ H Q = t σ H fun x H1 => rRevN K x H1 Q := rfl
def rPart (x : V) (H : Hp) (Q : Option Int → Hp → Prop) : Prop := ∃ i, x = .int i ∧ Q (some i) H
theorem tPart_eq {t : TE} {Q : Option Int → Hp → Prop} : tPart t σ H Q = t σ H fun x H1 => rPart x H1 Q := rfl
theorem g_part {Q : Option Int → Hp → Prop} (q : Q (some i) H) : rPart (.int i) H Q := ⟨i, rfl, q⟩
theorem g_lst (h : xs.length ≤ 100000) (q : ∀ p H1, H p = none → Same H H1 → H1 p = some (.lst xs) → Q (.ref p) H1) : rLstN xs H Q :=
  ⟨Nat.le_trans h (by decide), fun p np => q p _ np (Same.new np) upd_same⟩
theorem g_tup (h : xs.length ≤ 100000) (q : ∀ p H1, H p = none → Same H H1 → H1 p = some (.tup xs) → Q (.ref p) H1) : rTupN xs H Q :=
  ⟨Nat.le_trans h (by decide), fun p np => q p _ np (Same.new np) upd_same⟩
theorem g_new {o : HO} (q : ∀ p H1, H p = none → Same H H1 → H1 p = some o → Q (.ref p) H1) : ∀ p, H p = none → Q (.ref p) (upd H p o) := fun p np => q p _ np (Same.new np) upd_same
theorem g_setL (h : H p = some (.lst xs)) (h1 : ixN xs.length i = some n) (q : ∀ H1, But p H H1 → H1 p = some (.lst (xs.set n v)) → R H1) : rSetL (.ref p) (.int i) v H R := ⟨p, xs, i, n, rfl, rfl, h, h1, q _ But.set upd_same⟩
theorem g_append1 (h : H p = some (.lst xs)) (hl : xs.length < 100000) (q : ∀ H1, But p H H1 → H1 p = some (.lst (xs ++ [v])) → Q .non H1) : rAppend (.ref p) [v] H Q :=
  ⟨p, xs, v, rfl, rfl, h, Nat.lt_of_lt_of_le hl (by decide), q _ But.set upd_same⟩
theorem g_slL {lo hi : Option Int} (h : SqL K H p xs) (q : ∀ p H1, H p = none → Same H H1 → H1 p = some (.lst (cutV xs lo hi)) → Q (.ref p) H1) : rSlL K (.ref p) lo hi H Q := ⟨p, xs, rfl, h, g_new q⟩
theorem g_cat (h : H a = some (.lst xs)) (h2 : H p = some (.lst ys)) (hl : xs.length + ys.length ≤ 100000) (q : ∀ p H1, H p = none → Same H H1 → H1 p = some (.lst (xs ++ ys)) → Q (.ref p) H1) : rCat (.ref a) (.ref p) H Q := ⟨a, p, xs, ys, rfl, rfl, h, h2, Nat.le_trans hl (by decide), g_new q⟩
theorem g_slTo (h : l.length ≤ 100000) (hi : 0 ≤ i) (q : Q (Tx (l.take i.toNat)) H) : rSlTx (Tx l) none (some i) H Q := ⟨l, rfl, h, by rw [slice_to hi]; exact q⟩
theorem g_slFrom (h : l.length ≤ 100000) (hi : 0 ≤ i) (q : Q (Tx (l.drop i.toNat)) H) : rSlTx (Tx l) (some i) none H Q := ⟨l, rfl, h, by rw [slice_from hi]; exact q⟩
/-! tests -/
theorem g_test {c : Prop} [Decidable c] {A B : Prop} (h1 : c → A) (h2 : ¬ c → B) : ∃ k, V.bl (decide c) = V.bl k ∧ if k = true then A else B := by
  refine ⟨_, rfl, ?_⟩
  by_cases h : c
  · rw [decide_eq_true h, if_pos rfl]
    exact h1 h
  · rw [decide_eq_false h, if_neg Bool.false_ne_true]
    exact h2 h
theorem g_testN {c : Prop} [Decidable c] {A B : Prop} (h1 : ¬ c → A) (h2 : c → B) : ∃ k, V.bl (!decide c) = V.bl k ∧ if k = true then A else B := by
  refine ⟨_, rfl, ?_⟩
  by_cases h : c
  · rw [decide_eq_true h]
    exact h2 h
  · rw [decide_eq_false h]
    exact h1 h
theorem g_testB {b : Bool} {A B : Prop} (h1 : b = true → A) (h2 : b = false → B) : ∃ k, V.bl b = V.bl k ∧ if k = true then A else B := by
  refine ⟨_, rfl, ?_⟩
  cases b with
  | true => exact h1 rfl
  | false => exact h2 rfl
end

/-! ### loops -/
def ForR (J : It) (g : TG) (tb : TS) (D : Ends) (σ : L2.St) (H : Hp) : Prop := ∃ W : Nat → Nat → L2.St → Hp → Prop, (∃ m, W 0 m σ H) ∧ ∀ i m σ H, W i m σ H →
  (J.stop i H ∧ D.nx σ H) ∨ (J.go i H ∧ ∃ N : L2.St → Hp → Prop, (∀ σ' H', N σ' H' → ∃ m', m' < m ∧ W (i + 1) m' σ' H') ∧ ∀ x H', J.yld i H x H' → g x σ H' fun σ2 H2 => tb { D with nx := N, ct := N, bk := D.nx } σ2 H2)
theorem tFor_eq {wi : TI} {g : TG} {tb : TS} {D : Ends} {σ : L2.St} {H : Hp} : tFor wi g tb D σ H = wi σ H fun J H1 => ForR J g tb D σ H1 := rfl
def LcR (J : It) (g : TG) (tt : TT) (te : TE) (vs : List Nat) (σ : L2.St) (H1 : Hp) (Q : VK) : Prop := ∀ D, H1 D = none → ∃ W : Nat → Nat → Hp → Prop, (∃ m, W 0 m (upd H1 D (.lst []))) ∧ ∀ i m H, W i m H →
  (J.stop i H ∧ Q (.ref D) H) ∨ (J.go i H ∧ ∃ Nx : Hp → Prop, (∀ H', Nx H' → ∃ m', m' < m ∧ W (i + 1) m' H') ∧ ∀ x H', J.yld i H x H' → g x (wipe σ vs) H' fun σ2 H2 => wipe σ2 vs = wipe σ vs ∧ tt σ2 H2 fun b H3 =>
    if b = true then te σ2 H3 fun y H4 => ∃ acc, H4 D = some (.lst acc) ∧ acc.length < sizeLine ∧ Nx (upd H4 D (.lst (acc ++ [y]))) else Nx H3)
theorem tLc_eq {wi : TI} {g : TG} {tt : TT} {te : TE} {vs : List Nat} {σ : L2.St} {H : Hp} {Q : VK} : tLc wi g tt te vs σ H Q = wi σ H fun J H1 => LcR J g tt te vs σ H1 Q := rfl
section
variable {K : PySem.W.Frag} {σ : L2.St} {H : Hp} {g : TG} {tb : TS} {D : Ends} {l : List Nat} {xs : List V} {a : Addr} {tt : TT} {te : TE} {vs : List Nat} {Q : VK} {n : Nat} {lo : Int}
/-- for c in text, by what is gone through -/
theorem for_txt (Pv : List Nat → L2.St → Hp → Prop) (h0 : Pv [] σ H)
    (hs : ∀ pre c post σ H, l = pre ++ c :: post → Pv pre σ H → g (Tx [c]) σ H fun σ2 H2 => tb { D with nx := Pv (pre ++ [c]), ct := Pv (pre ++ [c]), bk := D.nx } σ2 H2) (hd : ∀ σ H, Pv l σ H → D.nx σ H) : ForR (Its (S l)) g tb D σ H := by
  refine ⟨fun i m σ H => m = l.length - i ∧ i ≤ l.length ∧ Pv (l.take i) σ H, ⟨l.length, by simp, Nat.zero_le _, by simpa using h0⟩, ?_⟩
  rintro i m σ H ⟨rfl, hi, p⟩
  have sz : (S l).cps.size = l.length := by simp
  by_cases hlt : i < l.length
  · have e : l.take (i + 1) = l.take i ++ [l[i]] := by rw [List.take_succ_eq_append_getElem hlt]
    have e2 : l = l.take i ++ l[i] :: l.drop (i + 1) := by rw [← List.drop_eq_getElem_cons hlt, List.take_append_drop]
    refine .inr ⟨by show i < (S l).cps.size; rw [sz]; exact hlt, Pv (l.take (i + 1)), fun σ' H' p' => ⟨l.length - (i + 1), by omega, rfl, hlt, p'⟩, fun x H' y => ?_⟩
    obtain ⟨e1, c, hc, rfl⟩ := y
    subst e1
    have ec : c = l[i] := by
      have : (S l).cps[i]? = some l[i] := by simp [hlt]
      rw [this] at hc
      exact (Option.some.inj hc).symm
    subst ec
    rw [e]
    exact hs (l.take i) l[i] (l.drop (i + 1)) σ _ e2 p
  · have e : i = l.length := by omega
    subst e
    rw [List.take_length] at p
    exact .inl ⟨by show (S l).cps.size ≤ l.length; rw [sz]; exact Nat.le_refl _, hd σ H p⟩
theorem cut_at {α : Type} {xs : List α} {i : Nat} {x : α} (hx : xs[i]? = some x) : xs.take (i + 1) = xs.take i ++ [x] ∧ xs = xs.take i ++ x :: xs.drop (i + 1) := by
  obtain ⟨hlt, ex⟩ := List.getElem?_eq_some_iff.mp hx
  subst ex
  exact ⟨by rw [List.take_succ_eq_append_getElem hlt], by rw [← List.drop_eq_getElem_cons hlt, List.take_append_drop]⟩
/-- for x in list, by what is gone through; the list stays -/
theorem for_lst (xs : List V) (Pv : List V → L2.St → Hp → Prop) (h0 : Pv [] σ H) (hl : ∀ pre post σ H, xs = pre ++ post → Pv pre σ H → SqL K H a xs)
    (hs : ∀ pre x post σ H, xs = pre ++ x :: post → Pv pre σ H → g x σ H fun σ2 H2 => tb { D with nx := Pv (pre ++ [x]), ct := Pv (pre ++ [x]), bk := D.nx } σ2 H2) (hd : ∀ σ H, Pv xs σ H → D.nx σ H) : ForR (Itl K a) g tb D σ H := by
  refine for_list (xs := xs) (fun i σ H => Pv (xs.take i) σ H) (by simpa using h0) (fun i σ H _ p => hl _ (xs.drop i) σ H (List.take_append_drop i xs).symm p) (fun i x σ H hx p => ?_) (fun σ H p => hd σ H (by simpa using p))
  obtain ⟨e, e2⟩ := cut_at hx
  have z := hs (xs.take i) x (xs.drop (i + 1)) σ H e2 p
  rw [← e] at z
  exact z
/-- for i in range -/
theorem for_rng (Pv : Nat → L2.St → Hp → Prop) (h0 : Pv 0 σ H)
    (hs : ∀ i σ H, i < n → Pv i σ H → g (.int (lo + i)) σ H fun σ2 H2 => tb { D with nx := Pv (i + 1), ct := Pv (i + 1), bk := D.nx } σ2 H2) (hd : ∀ σ H, Pv n σ H → D.nx σ H) : ForR (Itr lo n) g tb D σ H := for_range Pv h0 hs hd
/-- what a comprehension's turn is to reach: y put behind the new list at d -/
def LcPut (d : Addr) (R : Hp → Prop) (y : V) (H : Hp) : Prop := ∃ acc, H d = some (.lst acc) ∧ acc.length < sizeLine ∧ R (upd H d (.lst (acc ++ [y])))
theorem lc_put {d : Addr} {R : Hp → Prop} {y : V} {acc : List V} (h : H d = some (.lst acc)) (hl : acc.length < 100000) (q : ∀ H5, But d H H5 → H5 d = some (.lst (acc ++ [y])) → R H5) : LcPut d R y H := ⟨acc, h, Nat.lt_of_lt_of_le hl (by decide), q _ But.set upd_same⟩
theorem lc_w {J : It} {G : Hp → Prop} {Y : Nat → Hp → V → Hp → Prop} (w : Walk J n G Y)
    (h : ∀ d H1, H d = none → Same H H1 → H1 d = some (.lst []) → ∃ Pv : Nat → Hp → Prop, Pv 0 H1 ∧ (∀ i H, i ≤ n → Pv i H → G H) ∧
      (∀ i x H H', i < n → Pv i H → Y i H x H' → g x (wipe σ vs) H' fun σ2 H2 => wipe σ2 vs = wipe σ vs ∧ tt σ2 H2 fun b H3 => if b = true then te σ2 H3 fun y H4 => LcPut d (Pv (i + 1)) y H4 else Pv (i + 1) H3) ∧ ∀ H, Pv n H → Q (.ref d) H) : LcR J g tt te vs σ H Q := by
  intro d nd
  obtain ⟨Pv, h0, hG, hs, hd⟩ := h d _ nd (Same.new nd) upd_same
  exact lc_it w Pv h0 hG hs hd
theorem lc_rng (h : ∀ d H1, H d = none → Same H H1 → H1 d = some (.lst []) → ∃ Pv : Nat → Hp → Prop, Pv 0 H1 ∧
      (∀ (i : Nat) H, i < n → Pv i H → g (.int (lo + i)) (wipe σ vs) H fun σ2 H2 => wipe σ2 vs = wipe σ vs ∧ tt σ2 H2 fun b H3 => if b = true then te σ2 H3 fun y H4 => LcPut d (Pv (i + 1)) y H4 else Pv (i + 1) H3) ∧ ∀ H, Pv n H → Q (.ref d) H) : LcR (Itr lo n) g tt te vs σ H Q := by
  refine lc_w walk_range fun d H1 nd s e => ?_
  obtain ⟨Pv, h0, hs, hd⟩ := h d H1 nd s e
  refine ⟨Pv, h0, fun _ _ _ _ => trivial, fun i x H H' hi p y => ?_, hd⟩
  obtain ⟨rfl, rfl⟩ := y
  exact hs i _ hi p
theorem lc_txt (h : ∀ d H1, H d = none → Same H H1 → H1 d = some (.lst []) → ∃ Pv : List Nat → Hp → Prop, Pv [] H1 ∧
      (∀ pre c post H, l = pre ++ c :: post → Pv pre H → g (Tx [c]) (wipe σ vs) H fun σ2 H2 => wipe σ2 vs = wipe σ vs ∧ tt σ2 H2 fun b H3 => if b = true then te σ2 H3 fun y H4 => LcPut d (Pv (pre ++ [c])) y H4 else Pv (pre ++ [c]) H3) ∧ ∀ H, Pv l H → Q (.ref d) H) : LcR (Its (S l)) g tt te vs σ H Q := by
  refine lc_w walk_str fun d H1 nd s e => ?_
  obtain ⟨Pv, h0, hs, hd⟩ := h d H1 nd s e
  have sz : (S l).cps.size = l.length := by simp
  refine ⟨fun i => Pv (l.take i), by simpa using h0, fun _ _ _ _ => trivial, fun i x H H' hi p y => ?_, fun H p => hd H (by rw [sz, List.take_length] at p; exact p)⟩
  obtain ⟨rfl, c, hc, rfl⟩ := y
  have hc2 : l[i]? = some c := by simpa using hc
  obtain ⟨e1, e2⟩ := cut_at hc2
  have z := hs (l.take i) c (l.drop (i + 1)) _ e2 p
  rw [← e1] at z
  exact z
theorem lc_lst (xs : List V) (h : ∀ d H1, H d = none → Same H H1 → H1 d = some (.lst []) → ∃ Pv : List V → Hp → Prop, Pv [] H1 ∧ (∀ pre post H, xs = pre ++ post → Pv pre H → SqL K H a xs) ∧
      (∀ pre x post H, xs = pre ++ x :: post → Pv pre H → g x (wipe σ vs) H fun σ2 H2 => wipe σ2 vs = wipe σ vs ∧ tt σ2 H2 fun b H3 => if b = true then te σ2 H3 fun y H4 => LcPut d (Pv (pre ++ [x])) y H4 else Pv (pre ++ [x]) H3) ∧ ∀ H, Pv xs H → Q (.ref d) H) : LcR (Itl K a) g tt te vs σ H Q := by
  refine lc_w (walk_list (xs := xs)) fun d H1 nd s e => ?_
  obtain ⟨Pv, h0, hl, hs, hd⟩ := h d H1 nd s e
  refine ⟨fun i => Pv (xs.take i), by simpa using h0, fun i H _ p => hl _ (xs.drop i) H (List.take_append_drop i xs).symm p, fun i x H H' hi p y => ?_, fun H p => hd H (by simpa using p)⟩
  obtain ⟨rfl, hc⟩ := y
  obtain ⟨e1, e2⟩ := cut_at hc
  have z := hs (xs.take i) x (xs.drop (i + 1)) _ e2 p
  rw [← e1] at z
  exact z
end

/-! ### a def of the text -/
def DefAt (K : PySem.W.Frag) (mg : Str → Option Value) (x : Str) (st : Stmt) (ps : List Str) : Prop := ∃ (f : Addr) (fd : FuncData), FunD K x x (defArgs st) (defBody st) (defScope st) [] [] f fd ∧ mg x = some (.ref f) ∧ Binds K fd ps []
section
variable {P : Program} {w : World} {K : PySem.W.Frag} {mg : Str → Option Value} {base : Heap}
theorem fnD {x : Str} {st : Stmt} {f : Addr} {fd : FuncData} {N ps : List Str} {k : Nat} {sp : Sp} (F : FunD K x x (defArgs st) (defBody st) (defScope st) [] [] f fd) (S : FnScope N ps (defScope st)) (len : ∀ vs H Q E, sp vs H Q E → vs.length = ps.length)
    (hbody : ∀ (cdv : Value) (A : Around) (outer : List Env) (s : Shared) (H : Hp) (vs : List V) (Q : VK) (E : XK), Room k (A.deeper (envOfC x (defScope st) s.heap.objs.size f cdv)) → sp vs H Q E →
      ∃ t, PSs (cxOf C8.CX0 P w K mg base N x (defScope st) f cdv A outer s H E).nox (defBody st) t ∧ t { nx := fun _ H' => Q .non H', rt := Q } (start N vs) H) : FnOk P w K mg base C8.CX0 (k + 1) f fd ps sp := by
  refine F.ok S len fun cdv A outer s H vs Q E hr hsp => ?_
  obtain ⟨t, h, q⟩ := hbody cdv A outer s H vs Q E hr hsp
  exact ⟨t, h.nox, q⟩
theorem calD {x : Str} {st : Stmt} {N ps : List Str} {k : Nat} {sp : Sp} (D : DefAt K mg x st ps) (S : FnScope N ps (defScope st)) (len : ∀ vs H Q E, sp vs H Q E → vs.length = ps.length)
    (hbody : ∀ (f : Addr) (cdv : Value) (A : Around) (outer : List Env) (s : Shared) (H : Hp) (vs : List V) (Q : VK) (E : XK), Room k (A.deeper (envOfC x (defScope st) s.heap.objs.size f cdv)) → sp vs H Q E →
      ∃ t, PSs (cxOf C8.CX0 P w K mg base N x (defScope st) f cdv A outer s H E).nox (defBody st) t ∧ t { nx := fun _ H' => Q .non H', rt := Q } (start N vs) H) : C8.Cal P w K mg base (k + 1) x sp [] := by
  obtain ⟨f, fd, F, hm, b⟩ := D
  exact ⟨f, fd, ps, [], fnD F S len (hbody f), hm, F.kp, b, .nil⟩
end
end Ly

set_option maxHeartbeats 4000000
namespace Ly
open PySem SX
/-! ### signs -/
def isSg (c : Nat) : Prop := c ∈ LET ∨ c ∈ BRK
/-- the number of a bracket's kind -/
def knd (c : Nat) : Nat := if c ∈ OPN then OPN.idxOf c else CLO.idxOf c
/-- the other bracket of a bracket's kind -/
def oth (c : Nat) : Nat := if c ∈ OPN then CLO.getD (OPN.idxOf c) 0 else OPN.getD (CLO.idxOf c) 0
theorem find_opn : ∀ c ∈ OPN, Txt.find (S OPN) (S [c]) = (knd c : Int) := by decide +kernel
theorem find_clo : ∀ c ∈ CLO, Txt.find (S CLO) (S [c]) = (knd c : Int) := by decide +kernel
theorem brk_or {c : Nat} : c ∈ BRK ↔ c ∈ OPN ∨ c ∈ CLO := by
  unfold BRK OPN CLO
  simp
  omega
theorem oth_clo : ∀ c ∈ OPN, oth c ∈ CLO := by decide
theorem oth_opn : ∀ c ∈ CLO, oth c ∈ OPN := by decide
theorem oth_brk : ∀ c ∈ BRK, oth c ∈ BRK := by decide
theorem oth_oth : ∀ c ∈ BRK, oth (oth c) = c := by decide
theorem opn_clo : ∀ c ∈ OPN, c ∉ CLO := by decide
theorem atI_of {α : Type} {l : List α} {k : Nat} {c : α} (h : l[k]? = some c) : L2.atI l (k : Int) = some c := L2.atI_nat h

/-! ### clean texts, by a pile of awaited closing brackets -/
def stp (s : Option (List Nat)) (c : Nat) : Option (List Nat) := match s with
  | none => none
  | some st => if c ∈ OPN then some (oth c :: st) else if c ∈ CLO then (match st with
    | d :: r => if d = c then some r else none
    | [] => none) else some st
def run (l : List Nat) : Option (List Nat) := l.foldl stp (some [])
def clean (l : List Nat) : Prop := run l = some []
instance (l : List Nat) : Decidable (clean l) := inferInstanceAs (Decidable (run l = some []))
theorem run_app (a b : List Nat) : run (a ++ b) = b.foldl stp (run a) := by
  unfold run
  rw [List.foldl_append]
theorem stp_let {s : Option (List Nat)} {c : Nat} (h1 : c ∉ OPN) (h2 : c ∉ CLO) : stp s c = s := by
  cases s with
  | none => rfl
  | some st => unfold stp; simp only [h1, h2, if_false]
theorem stp_opn {st : List Nat} {c : Nat} (h1 : c ∈ OPN) : stp (some st) c = some (oth c :: st) := by
  unfold stp
  simp only [h1, if_true]
theorem stp_clo {st : List Nat} {c : Nat} (h2 : c ∈ CLO) : stp (some (c :: st)) c = some st := by
  have h1 : c ∉ OPN := fun h => opn_clo c h h2
  unfold stp
  simp only [h1, h2, if_true, if_false]
theorem brk_at {z : Nat} (h : z < 8) : ∃ c, BRK[z]? = some c ∧ c ∈ BRK := ⟨BRK[z]'h, List.getElem?_eq_getElem h, List.getElem_mem h⟩
theorem let_at {z : Nat} (h : z < 26) : ∃ c, LET[z]? = some c ∧ c ∈ LET := ⟨LET[z]'h, List.getElem?_eq_getElem h, List.getElem_mem h⟩
theorem ixN_nat {n j : Nat} (h : j < n) : L2.ixN n (j : Int) = some j := by
  unfold L2.ixN
  rw [if_pos (by omega), if_pos (by omega), Int.toNat_natCast]
theorem erase_map {α β : Type} (f : α → β) : ∀ (l : List α) (j : Nat), (l.map f).eraseIdx j = (l.eraseIdx j).map f
  | [], _ => rfl
  | _ :: _, 0 => rfl
  | a :: l, j + 1 => by
    show f a :: (l.map f).eraseIdx j = f a :: (l.eraseIdx j).map f
    rw [erase_map f l j]
theorem erase_perm {α : Type} : ∀ (l : List α) (j : Nat) (h : j < l.length), (l[j] :: l.eraseIdx j).Perm l
  | [], j, h => absurd h (Nat.not_lt_zero _)
  | a :: l, 0, _ => List.Perm.refl _
  | a :: l, j + 1, h => by
    have hl : j < l.length := Nat.lt_of_succ_lt_succ h
    have ih := erase_perm l j hl
    show (l[j] :: a :: l.eraseIdx j).Perm (a :: l)
    exact (List.Perm.swap a l[j] (l.eraseIdx j)).trans (List.Perm.cons a ih)
end Ly

set_option maxHeartbeats 4000000
namespace Ly
open PySem PySem.Spec PyProof.Rows L2 SX

/-! ### list(text) -/
def sgV (l : List Nat) : List V := l.map fun c => Tx [c]
section
variable {X : Cx}
/-! ### joins of texts -/
def rJoinT (K : PySem.W.Frag) : V → List V → Hp → VK → Prop := fun x xs H Q => ∃ (a : List Nat) (p : Addr) (ps : List (List Nat)), x = Tx a ∧ xs = [.ref p] ∧ SqL K H p (ps.map Tx) ∧ (ps.map (·.length)).sum + ps.length * a.length ≤ 100000 ∧ Q (Tx (TL.joinL a ps)) H
theorem mt_joinT : MtR X "str.join" (rJoinT X.K) := fun pins s σ H x xs v us Q I rx rs h => by
  obtain ⟨a, p, ps, h1, h2, h3, h4, q⟩ := h
  refine mt_join pins s σ H x xs v us Q I rx rs ⟨S a, p, ps.map S, h1, h2, .inl ?_, ?_, ?_⟩
  · rw [List.map_map]
    exact h3
  · rw [lens, List.length_map, S_len]
    exact Nat.le_trans h4 (by decide)
  · rw [join_S]
    exact q

/-! ### text * n -/
end

/-! ### enumerate(text) -/
def IteS (x : Str) : It := ⟨fun i _ => i < x.cps.size, fun i H v H' => ∃ T c, v = .ref T ∧ H T = none ∧ H' = upd H T (.tup [.int (i : Nat), .str ⟨#[c]⟩]) ∧ x.cps[i]? = some c, fun i _ => i = x.cps.size⟩
def iEnumS (ta : TA) : TI := fun σ H R => ta σ H fun vs H1 => ∃ l : List Nat, vs = [Tx l] ∧ R (IteS (S l)) H1
section
variable {K : PySem.W.Frag} {σ : L2.St} {H : Hp} {g : TG} {tb : TS} {D : Ends} {l : List Nat} {xs : List V} {a : Addr}
/-! readings -/
variable {Q : VK} {p : Addr} {m : List Nat} {n : Nat}
theorem g_joinT {ps : List (List Nat)} (h : SqL K H p (ps.map Tx)) (hl : (ps.map (·.length)).sum + ps.length * m.length ≤ 100000) (q : Q (Tx (TL.joinL m ps)) H) : rJoinT K (Tx m) [.ref p] H Q := ⟨m, p, ps, rfl, rfl, h, hl, q⟩
theorem joinL_nil : ∀ ps : List (List Nat), TL.joinL [] ps = ps.flatten
  | [] => rfl
  | [p] => by simp [TL.joinL]
  | p :: q :: r => by
    show p ++ ([] ++ TL.joinL [] (q :: r)) = _
    rw [joinL_nil (q :: r)]
    simp
/-- ''.join of signs -/
theorem g_join0 (h : SqL K H p (sgV l)) (hl : l.length ≤ 100000) (q : Q (Tx l) H) : rJoinT K (Tx []) [.ref p] H Q := by
  refine g_joinT (ps := l.map fun c => [c]) ?_ ?_ ?_
  · rw [List.map_map]
    exact h
  · rw [List.map_map]
    have : ((fun x : List Nat => x.length) ∘ fun c : Nat => [c]) = fun _ => 1 := rfl
    rw [this]
    have e : ∀ l : List Nat, (l.map fun _ => 1).sum = l.length := by
      intro l
      induction l with
      | nil => rfl
      | cons c l ih => simp [ih]; omega
    rw [e]
    simpa using hl
  · rw [joinL_nil]
    have : ∀ l : List Nat, (l.map fun c => [c]).flatten = l := by
      intro l
      induction l with
      | nil => rfl
      | cons c l ih => simp [ih]
    rw [this]
    exact q
end

/-! ### an if whose test is told once -/
def tIfC (c : TT) (t u : TS) : TS := tIfS c t u
theorem ps_ifC {X : Cx} {pos : Pos} {c : Expr} {a b : List Stmt} {tc : TT} {t u : TS} (hc : PT X c tc) (ha : PSs X a t) (hb : PSs X b u) : PS X (.If c a b pos) (tIfC tc t u) := ps_if hc ha hb
/-- the test c comes out as b and leaves the heap -/
def Tst (c : TT) (σ : L2.St) (H : Hp) (b : Bool) : Prop := ∀ Q : Bool → Hp → Prop, Q b H → c σ H Q
theorem g_ifC {c : TT} {t u : TS} {D : Ends} {σ : L2.St} {H : Hp} {b : Bool} (hA : Tst c σ H b) (h1 : b = true → t D σ H) (h2 : b = false → u D σ H) : tIfC c t u D σ H := by
  refine hA _ ?_
  cases b with
  | true => exact h1 rfl
  | false => exact h2 rfl
/-- the test changes the heap as G says -/
def TstH (c : TT) (σ : L2.St) (H : Hp) (b : Bool) (G : Hp → Prop) : Prop := ∀ Q : Bool → Hp → Prop, (∀ H1, G H1 → Q b H1) → c σ H Q
theorem g_ifH {c : TT} {t u : TS} {D : Ends} {σ : L2.St} {H : Hp} {b : Bool} {G : Hp → Prop} (hA : TstH c σ H b G) (h1 : ∀ H1, G H1 → b = true → t D σ H1) (h2 : ∀ H1, G H1 → b = false → u D σ H1) : tIfC c t u D σ H := by
  refine hA _ fun H1 g => ?_
  cases b with
  | true => exact h1 H1 g rfl
  | false => exact h2 H1 g rfl
/-! ### while -/
section
variable {c : TT} {tb : TS} {D : Ends} {σ : L2.St} {H : Hp}
end
/-! ### data: == and != -/
section
variable {K : PySem.W.Frag} {H : Hp} {Q : VK} {p a : Addr} {X : Cx}
end
theorem sgV_snoc (l : List Nat) (c : Nat) : sgV (l ++ [c]) = sgV l ++ [Tx [c]] := by
  unfold sgV
  rw [List.map_append]
  rfl
theorem sgV_len (l : List Nat) : (sgV l).length = l.length := by
  unfold sgV
  rw [List.length_map]

section
variable {K : PySem.W.Frag} {H : Hp} {Q : VK} {p a : Addr} {xs : List V} {v : V} {i : Nat}
theorem g_popAt (h : H p = some (.lst xs)) (hi : xs[i]? = some v) (hl : xs.length ≤ 100000) (q : ∀ H1, But p H H1 → H1 p = some (.lst (xs.eraseIdx i)) → Q v H1) : rPopAt (.ref p) [.int (i : Int)] H Q := by
  obtain ⟨hlt, _⟩ := List.getElem?_eq_some_iff.mp hi
  refine ⟨p, xs, i, i, v, rfl, rfl, h, by omega, by omega, ?_, hi, q _ But.set upd_same⟩
  unfold seqIndex?
  simp
  omega
theorem g_isi {x : V} {t u : String} {b : Bool} (ty : TyX K H x (.type t)) (h : kitB t u = some b) (q : Q (.bl b) H) : rIsi K [x, .ty u] H Q := ⟨x, .ty u, .type t, .type u, b, rfl, .ty u, ty, kit_ty h, q⟩
theorem ty_str {x : Str} : TyX K H (.str x) (.type "str") := .base (.str x)
theorem ty_int {n : Int} : TyX K H (.int n) (.type "int") := .base (.int n)
theorem ty_bl {b : Bool} : TyX K H (.bl b) (.type "bool") := .base (.bl b)
theorem ty_lst (h : H p = some (.lst xs)) : TyX K H (.ref p) (.type "list") := .base (.lst h)
theorem ty_tup (h : H p = some (.tup xs)) : TyX K H (.ref p) (.type "tuple") := .base (.tup h)
theorem cut_ints (ns : List Int) (lo hi : Option Int) : ∃ ms : List Int, cutV (ns.map V.int) lo hi = ms.map V.int ∧ ms.length ≤ ns.length := by
  unfold cutV
  refine ⟨(ns.drop (HT.sIx (ns.map V.int).length 0 lo)).take (HT.sIx (ns.map V.int).length (ns.map V.int).length hi - HT.sIx (ns.map V.int).length 0 lo), ?_, ?_⟩
  · rw [List.map_take, List.map_drop]
  · rw [List.length_take, List.length_drop]
    omega
theorem mid_at {α : Type} {xs pre post : List α} {x : α} (e : xs = pre ++ x :: post) : xs[pre.length]? = some x := by
  rw [e]
  simp
end
end Ly

set_option maxHeartbeats 4000000
namespace Ly
open PySem PySem.Spec PyProof.Rows L2 SX
/-! ### zip(text, list) -/
def ItzS (K : PySem.W.Frag) (x : Str) (b : Addr) : It :=
  ⟨fun i H => ∃ (ys : List V) (y : V), i < x.cps.size ∧ SqL K H b ys ∧ ys[i]? = some y,
    fun i H v H' => ∃ T c y, v = .ref T ∧ H T = none ∧ H' = upd H T (.tup [.str ⟨#[c]⟩, y]) ∧ x.cps[i]? = some c ∧ ∀ ys, SqL K H b ys → ys[i]? = some y,
    fun i H => ∃ ys : List V, SqL K H b ys ∧ (i = x.cps.size ∨ i = ys.length) ∧ i ≤ x.cps.size ∧ i ≤ ys.length⟩
def iZipS (K : PySem.W.Frag) (ta : TA) : TI := fun σ H R => ta σ H fun vs H1 => ∃ (l : List Nat) (b : Addr) (ys : List V), vs = [Tx l, .ref b] ∧ SqL K H1 b ys ∧ R (ItzS K (S l) b) H1
/-! ### flat data -/
section
variable {K : PySem.W.Frag} {H : Hp} {Q : VK} {p a : Addr} {xs : List V}
theorem g_rep {n : Nat} (h : H p = some (.lst xs)) (hl : xs.length * n ≤ 100000) (hn : n ≤ 100000) (q : ∀ p H1, H p = none → Same H H1 → H1 p = some (.lst (List.replicate n xs).flatten) → Q (.ref p) H1) : rRep (.ref p) (.int (n : Int)) H Q := by
  refine ⟨p, n, xs, rfl, rfl, h, by omega, by omega, Nat.le_trans (by rw [Int.toNat_natCast]; exact hl) (by decide), ?_⟩
  rw [Int.toNat_natCast]
  exact g_new q
end

/-! ### downward ranges -/
theorem rgc_dn {n : Nat} (h : n ≤ 100000) : RgC ((n : Int) - 1) (-1) (-1) n := by
  have e := RgC.neg (i := (n : Int) - 1) (j := -1) (by omega) (by omega) (by omega) (by omega)
  rw [show ((n : Int) - 1 - -1).toNat = n by omega] at e
  exact e
section
variable {σ : L2.St} {H : Hp} {g : TG} {tb : TS} {D : Ends} {n : Nat}
/-- for k in range(n - 1, -1, -1): Pv k: those from k on are gone through -/
theorem for_dn (Pv : Nat → L2.St → Hp → Prop) (h0 : Pv n σ H)
    (hs : ∀ (k : Nat) σ H, k < n → Pv (k + 1) σ H → g (.int (k : Int)) σ H fun σ2 H2 => tb { D with nx := Pv k, ct := Pv k, bk := D.nx } σ2 H2) (hd : ∀ σ H, Pv 0 σ H → D.nx σ H) : ForR (Itc ((n : Int) - 1) (-1) n) g tb D σ H := by
  refine for_it walk_rangeC (fun i σ H => Pv (n - i) σ H) h0 (fun _ _ _ _ _ => trivial) (fun i x σ H H' hi p y => ?_) (fun σ H p => hd σ H (by rw [Nat.sub_self] at p; exact p))
  obtain ⟨rfl, rfl⟩ := y
  have e : ((n : Int) - 1 + (i : Nat) * -1) = ((n - (i + 1) : Nat) : Int) := by omega
  show g (V.int ((n : Int) - 1 + (i : Nat) * -1)) σ H' fun σ2 H2 => tb { D with nx := Pv (n - (i + 1)), ct := Pv (n - (i + 1)), bk := D.nx } σ2 H2
  rw [e]
  refine hs (n - (i + 1)) σ _ (by omega) ?_
  rw [show n - (i + 1) + 1 = n - i by omega]
  exact p
end
/-! ### a promise that nobody asks -/
end Ly

set_option maxHeartbeats 4000000
namespace Ly
/-! ### stretches, partners -/
/-- the signs from a on and below b -/
def seg (l : List Nat) (a b : Nat) : List Nat := (l.take b).drop a
theorem seg_snoc {l : List Nat} {a n : Nat} (h : a ≤ n) (hn : n < l.length) : seg l a (n + 1) = seg l a n ++ [l[n]] := by
  unfold seg
  rw [List.take_succ_eq_append_getElem hn, List.drop_append_of_le_length (by rw [List.length_take]; omega)]
theorem seg_self {l : List Nat} {a : Nat} : seg l a a = [] := by
  unfold seg
  exact List.drop_eq_nil_of_le (by rw [List.length_take]; omega)
theorem seg_app {l : List Nat} {a b c : Nat} (h1 : a ≤ b) (h2 : b ≤ c) (h3 : b ≤ l.length) : seg l a c = seg l a b ++ seg l b c := by
  unfold seg
  have e : (l.take c).drop a = ((l.take c).take b ++ (l.take c).drop b).drop a := by rw [List.take_append_drop]
  rw [e, List.take_take, Nat.min_eq_left h2, List.drop_append_of_le_length (by rw [List.length_take]; omega)]
theorem seg_len {l : List Nat} {a b : Nat} (h : b ≤ l.length) : (seg l a b).length = b - a := by
  unfold seg
  rw [List.length_drop, List.length_take]
  omega
theorem seg_all {l : List Nat} : seg l 0 l.length = l := by
  unfold seg
  rw [List.take_length, List.drop_zero]
/-! the pile from any begin -/
theorem fold_none : ∀ l : List Nat, l.foldl stp none = none
  | [] => rfl
  | c :: l => by
    rw [List.foldl_cons]
    exact fold_none l
/-- what lies deeper in the pile stays -/
theorem fold_deep : ∀ (l : List Nat) (st r : List Nat) (t : List Nat), l.foldl stp (some st) = some r → l.foldl stp (some (st ++ t)) = some (r ++ t)
  | [], st, r, t, h => by
    cases h
    rfl
  | c :: l, st, r, t, h => by
    rw [List.foldl_cons] at h ⊢
    by_cases h1 : c ∈ OPN
    · rw [stp_opn h1] at h ⊢
      exact fold_deep l (oth c :: st) r t h
    · by_cases h2 : c ∈ CLO
      · cases st with
        | nil =>
          have e : stp (some []) c = none := by unfold stp; simp only [h1, h2, if_true, if_false]
          rw [e, fold_none] at h
          cases h
        | cons d st =>
          by_cases hd : d = c
          · subst hd
            rw [stp_clo h2] at h
            rw [List.cons_append, stp_clo h2]
            exact fold_deep l st r t h
          · have e : stp (some (d :: st)) c = none := by unfold stp; simp only [h1, h2, hd, if_true, if_false]
            rw [e, fold_none] at h
            cases h
      · rw [stp_let h1 h2] at h ⊢
        exact fold_deep l st r t h
theorem run_clean_app {a b : List Nat} (h : clean a) : run (a ++ b) = run b := by
  rw [run_app, h]
  rfl
theorem fold_run {l : List Nat} {st r : List Nat} (h : run l = some r) : l.foldl stp (some st) = some (r ++ st) := by
  have := fold_deep l [] r st h
  simpa using this
/-- a clean text leaves each pile -/
theorem fold_clean {l : List Nat} (h : clean l) (st : Option (List Nat)) : l.foldl stp st = st := by
  cases st with
  | none => exact fold_none l
  | some st => simpa using fold_run (st := st) h
theorem clean_app {a b : List Nat} (h1 : clean a) (h2 : clean b) : clean (a ++ b) := by
  unfold clean
  rw [run_clean_app h1]
  exact h2
theorem clean_nil : clean [] := rfl
theorem clean_pair {c : Nat} {a : List Nat} (hc : c ∈ OPN) (h : clean a) : clean (c :: (a ++ [oth c])) := by
  show (c :: (a ++ [oth c])).foldl stp (some []) = some []
  rw [List.foldl_cons, stp_opn hc, List.foldl_append, fold_clean h]
  exact stp_clo (oth_clo c hc)
/-! ### the program's way -/
end Ly

set_option maxHeartbeats 4000000
namespace Ly
/-- the first place at which the pile is as it was below d -/
theorem fold_split : ∀ (n : Nat) (r d st t), r.length ≤ n → d ∈ CLO → r.foldl stp (some (d :: st)) = some t → t.length ≤ st.length → ∃ a b, r = a ++ d :: b ∧ clean a ∧ b.foldl stp (some st) = some t
  | n, [], d, st, t, _, _, h, hl => by
    cases h
    simp at hl
    omega
  | 0, e :: r, d, st, t, hn, _, _, _ => by simp at hn
  | n + 1, e :: r, d, st, t, hn, hd, h, hl => by
    have hn' : r.length ≤ n := by simpa using hn
    rw [List.foldl_cons] at h
    by_cases h1 : e ∈ OPN
    · rw [stp_opn h1] at h
      obtain ⟨a1, b1, e1, c1, f1⟩ := fold_split n r (oth e) (d :: st) t hn' (oth_clo e h1) h (by simp; omega)
      have hb1 : b1.length ≤ n := by
        rw [e1] at hn'
        simp at hn'
        omega
      obtain ⟨a2, b2, e2, c2, f2⟩ := fold_split n b1 d st t hb1 hd f1 hl
      refine ⟨e :: (a1 ++ [oth e]) ++ a2, b2, by rw [e1, e2]; simp, clean_app (clean_pair h1 c1) c2, f2⟩
    · by_cases h2 : e ∈ CLO
      · by_cases hde : d = e
        · subst hde
          rw [stp_clo h2] at h
          exact ⟨[], r, rfl, clean_nil, h⟩
        · exfalso
          have : stp (some (d :: st)) e = none := by unfold stp; simp only [h1, h2, hde, if_true, if_false]
          rw [this, fold_none] at h
          cases h
      · rw [stp_let h1 h2] at h
        obtain ⟨a, b, e1, c1, f1⟩ := fold_split n r d st t hn' hd h hl
        refine ⟨e :: a, b, by rw [e1]; rfl, ?_, f1⟩
        show (e :: a).foldl stp (some []) = some []
        rw [List.foldl_cons, stp_let h1 h2]
        exact c1
/-- a clean text that begins with an opening bracket -/
theorem clean_opn {c : Nat} {r : List Nat} (hc : c ∈ OPN) (h : clean (c :: r)) : ∃ a b, r = a ++ oth c :: b ∧ clean a ∧ clean b := by
  have h' : (c :: r).foldl stp (some []) = some [] := h
  rw [List.foldl_cons, stp_opn hc] at h'
  obtain ⟨a, b, e, c1, f1⟩ := fold_split r.length r (oth c) [] [] (Nat.le_refl _) (oth_clo c hc) h' (Nat.le_refl _)
  exact ⟨a, b, e, c1, f1⟩
theorem clean_let {c : Nat} {r : List Nat} (h1 : c ∉ OPN) (h2 : c ∉ CLO) : clean (c :: r) ↔ clean r := by
  show (c :: r).foldl stp (some []) = some [] ↔ _
  rw [List.foldl_cons, stp_let h1 h2]
  rfl
theorem clean_clo {c : Nat} {r : List Nat} (h2 : c ∈ CLO) : ¬ clean (c :: r) := by
  intro h
  have h' : (c :: r).foldl stp (some []) = some [] := h
  have h1 : c ∉ OPN := fun h => opn_clo c h h2
  have : stp (some []) c = none := by unfold stp; simp only [h1, h2, if_true, if_false]
  rw [List.foldl_cons, this, fold_none] at h'
  cases h'
/-! ### by places -/
theorem seg_cons {l : List Nat} {a b c : Nat} (h : l[a]? = some c) (hb : a < b) (hl : b ≤ l.length) : seg l a b = c :: seg l (a + 1) b := by
  obtain ⟨ha, e⟩ := List.getElem?_eq_some_iff.mp h
  rw [seg_app (b := a + 1) (by omega) (by omega) (by omega), seg_snoc (Nat.le_refl a) ha, seg_self, e]
  rfl
end Ly

set_option maxHeartbeats 4000000
namespace Ly
/-! ### partners found from behind -/
def over (l : List Nat) (m : List (Option Nat)) (s : Nat) : Bool := match l[s]? with
  | none => false
  | some c => if c ∈ CLO then false else if c ∈ OPN then (match m[s]? with | some (some _) => true | _ => false) else true
end Ly

set_option maxHeartbeats 4000000
namespace Ly
/-! ### clean texts put together -/
theorem run_mid {a m b : List Nat} (h : clean m) : run (a ++ m ++ b) = run (a ++ b) := by
  rw [run_app, run_app, fold_clean h, ← run_app]
theorem clean_mid {a m b : List Nat} (h : clean m) : clean (a ++ m ++ b) ↔ clean (a ++ b) := by
  unfold clean
  rw [run_mid h]
def cntO (l : List Nat) : Nat := l.countP fun c => decide (c ∈ OPN)
def cntC (l : List Nat) : Nat := l.countP fun c => decide (c ∈ CLO)
theorem fold_cnt : ∀ (l st r : List Nat), l.foldl stp (some st) = some r → cntC l + r.length = cntO l + st.length
  | [], st, r, h => by
    cases h
    simp [cntC, cntO]
  | c :: l, st, r, h => by
    rw [List.foldl_cons] at h
    have eC : cntC (c :: l) = cntC l + if c ∈ CLO then 1 else 0 := by
      unfold cntC
      rw [List.countP_cons]
      simp
    have eO : cntO (c :: l) = cntO l + if c ∈ OPN then 1 else 0 := by
      unfold cntO
      rw [List.countP_cons]
      simp
    by_cases h1 : c ∈ OPN
    · have h2 : c ∉ CLO := opn_clo c h1
      rw [stp_opn h1] at h
      have := fold_cnt l _ r h
      rw [eC, eO, if_pos h1, if_neg h2]
      simp at this
      omega
    · by_cases h2 : c ∈ CLO
      · cases st with
        | nil =>
          have e : stp (some []) c = none := by unfold stp; simp only [h1, h2, if_true, if_false]
          rw [e, fold_none] at h
          cases h
        | cons d st =>
          by_cases hd : d = c
          · subst hd
            rw [stp_clo h2] at h
            have := fold_cnt l _ r h
            rw [eC, eO, if_neg h1, if_pos h2]
            simp
            omega
          · have e : stp (some (d :: st)) c = none := by unfold stp; simp only [h1, h2, hd, if_true, if_false]
            rw [e, fold_none] at h
            cases h
      · rw [stp_let h1 h2] at h
        have := fold_cnt l _ r h
        rw [eC, eO, if_neg h1, if_neg h2]
        omega
theorem clean_cnt {l : List Nat} (h : clean l) : cntC l = cntO l := by
  have := fold_cnt l [] [] h
  simpa using this
end Ly

set_option maxHeartbeats 4000000
namespace Ly
open PySem PySem.Spec PyProof.Rows L2 SX
/-! ### text[i:j] -/
section
variable {K : PySem.W.Frag} {H : Hp} {Q : VK} {p a : Addr} {xs : List V}
end
end Ly

set_option maxHeartbeats 4000000
namespace Ly
/-! ### kinds renamed -/
/-- a renaming of the kinds -/
structure Ren (f : Nat → Nat) : Prop where
  inj : ∀ {a b}, f a = f b → a = b
  opn : ∀ {c}, f c ∈ OPN ↔ c ∈ OPN
  clo : ∀ {c}, f c ∈ CLO ↔ c ∈ CLO
  oth : ∀ {c}, c ∈ OPN → f (oth c) = oth (f c)
theorem ren_fold {f : Nat → Nat} (R : Ren f) : ∀ (l : List Nat) (st : Option (List Nat)), (l.map f).foldl stp (st.map (List.map f)) = (l.foldl stp st).map (List.map f)
  | [], st => rfl
  | c :: l, st => by
    rw [List.map_cons, List.foldl_cons, List.foldl_cons, ← ren_fold R l]
    congr 1
    cases st with
    | none => rfl
    | some st =>
      show stp (some (st.map f)) (f c) = (stp (some st) c).map (List.map f)
      by_cases h1 : c ∈ OPN
      · rw [stp_opn h1, stp_opn (R.opn.mpr h1)]
        show some (Ly.oth (f c) :: st.map f) = some (f (Ly.oth c) :: st.map f)
        rw [R.oth h1]
      · have h1' : f c ∉ OPN := fun h => h1 (R.opn.mp h)
        by_cases h2 : c ∈ CLO
        · have h2' := R.clo.mpr h2
          cases st with
          | nil =>
            have e : stp (some []) c = none := by unfold stp; simp only [h1, h2, if_true, if_false]
            have e' : stp (some []) (f c) = none := by unfold stp; simp only [h1', h2', if_true, if_false]
            rw [e]
            exact e'
          | cons d st =>
            by_cases hd : d = c
            · subst hd
              rw [stp_clo h2, List.map_cons, stp_clo h2']
              rfl
            · have hd' : ¬ f d = f c := fun h => hd (R.inj h)
              have e : stp (some (d :: st)) c = none := by unfold stp; simp only [h1, h2, hd, if_true, if_false]
              have e' : stp (some (f d :: st.map f)) (f c) = none := by unfold stp; simp only [h1', h2', hd', if_true, if_false]
              rw [e]
              exact e'
        · rw [stp_let h1 h2, stp_let h1' (fun h => h2 (R.clo.mp h))]
          rfl
theorem ren_clean {f : Nat → Nat} (R : Ren f) (l : List Nat) : clean (l.map f) ↔ clean l := by
  have e := ren_fold R l (some [])
  show (l.map f).foldl stp (Option.map (List.map f) (some [])) = some [] ↔ l.foldl stp (some []) = some []
  rw [e]
  generalize l.foldl stp (some []) = r
  cases r with
  | none => simp
  | some r => simp
/-! ### turned about -/
/-- the sign turned -/
def tn (c : Nat) : Nat := if c ∈ BRK then oth c else c
def abt (l : List Nat) : List Nat := (l.map tn).reverse
theorem tn_brk {c : Nat} (h : c ∈ BRK) : tn c = oth c := by unfold tn; rw [if_pos h]
theorem tn_tn (c : Nat) : tn (tn c) = c := by
  by_cases h : c ∈ BRK
  · rw [tn_brk h, tn_brk (oth_brk c h), oth_oth c h]
  · have e : tn c = c := by unfold tn; rw [if_neg h]
    rw [e, e]
theorem abt_abt (l : List Nat) : abt (abt l) = l := by
  unfold abt
  rw [List.map_reverse, List.reverse_reverse, List.map_map]
  have : tn ∘ tn = id := funext tn_tn
  rw [this, List.map_id]
theorem abt_app (a b : List Nat) : abt (a ++ b) = abt b ++ abt a := by
  unfold abt
  rw [List.map_append, List.reverse_append]
theorem abt_len (l : List Nat) : (abt l).length = l.length := by
  unfold abt
  rw [List.length_reverse, List.length_map]
theorem abt_cons (c : Nat) (l : List Nat) : abt (c :: l) = abt l ++ [tn c] := by
  unfold abt
  rw [List.map_cons, List.reverse_cons]
theorem abt_clean1 : ∀ (n : Nat) (l : List Nat), l.length ≤ n → clean l → clean (abt l)
  | n, [], _, _ => clean_nil
  | 0, c :: l, hn, _ => by simp at hn
  | n + 1, c :: l, hn, h => by
    have hn' : l.length ≤ n := by simpa using hn
    by_cases h1 : c ∈ OPN
    · obtain ⟨a, b, e, ca, cb⟩ := clean_opn h1 h
      have hb : c ∈ BRK := brk_or.mpr (.inl h1)
      rw [e] at hn'
      simp at hn'
      have ia := abt_clean1 n a (by omega) ca
      have ib := abt_clean1 n b (by omega) cb
      rw [abt_cons, e, abt_app, abt_cons, tn_brk hb, tn_brk (oth_brk c hb), oth_oth c hb]
      have e2 : abt b ++ [c] ++ abt a ++ [oth c] = abt b ++ (c :: (abt a ++ [oth c])) := by simp
      rw [e2]
      exact clean_app ib (clean_pair h1 ia)
    · by_cases h2 : c ∈ CLO
      · exact absurd h (clean_clo h2)
      · have hb : c ∉ BRK := fun hb => by rcases brk_or.mp hb with h | h; exact h1 h; exact h2 h
        have e : tn c = c := by unfold tn; rw [if_neg hb]
        rw [abt_cons, e]
        exact clean_app (abt_clean1 n l hn' ((clean_let h1 h2).mp h)) ((clean_let h1 h2).mpr clean_nil)
theorem abt_clean (l : List Nat) : clean (abt l) ↔ clean l :=
  ⟨fun h => by have := abt_clean1 _ _ (Nat.le_refl _) h; rw [abt_abt] at this; exact this, abt_clean1 _ _ (Nat.le_refl _)⟩
end Ly

set_option maxHeartbeats 4000000
namespace Ly
/-! ### clean stretches counted -/
/-- how many begins of l that are not empty are clean -/
def cp (l : List Nat) : Nat := (List.range l.length).countP fun k => decide (clean (l.take (k + 1)))
def many : List Nat → Nat
  | [] => 0
  | c :: r => cp (c :: r) + many r
/-! sums -/
/-! ### by places -/
def cps (l : List Nat) : List Nat := (List.range (l.length + 1)).map fun i => cp (l.drop i)
/-! ### texts of one kind -/
/-! ### units -/
end Ly

set_option maxHeartbeats 4000000
namespace Ly
open PySem PySem.Spec PyProof.Rows L2 SX
/-! ### texts with their tokens: for y in [texts]: x = x.replace(y, z) -/
section
variable {X : Cx} {pins : List (Addr × Obj)} {σ : L2.St} {H : Hp} {s : Shared}
end
section
variable {X : Cx} {ik ip : Nat} {kx px z : Str} {y1 y2 y3 y4 : Str}
end
end Ly

set_option maxHeartbeats 4000000
namespace Ly
open PySem PySem.Spec PyProof.Rows L2 SX PySem.StrLaws
/-! ### pairs struck out -/
def rm (o : Nat) (l : List Nat) : List Nat := replL [o, oth o] [] l
/-! the program's texts -/
end Ly

set_option maxHeartbeats 4000000
namespace Ly
open PySem PySem.Spec PyProof.Rows L2 SX
section
variable {X : Cx} {ik ip : Nat} {kx px z : Str} {y1 y2 y3 y4 : Str}
end
end Ly

set_option maxHeartbeats 4000000
namespace Ly
/-! ### from piece to piece -/
/-! ### sums -/
end Ly

set_option maxHeartbeats 4000000
namespace Ly
open PySem PySem.Spec PyProof.Rows L2 SX
/-! ### nests in the heap: each inner list is one of its own -/
inductive Nd where
  | let_ (c : Nat)
  | num (i : Int)
  | br (o : Nat) (ds : List Nd)
mutual
inductive TrI (H : Hp) : V → Nd → List Addr → Prop
  | let_ (c : Nat) : TrI H (Tx [c]) (.let_ c) []
  | num (i : Int) : TrI H (.int i) (.num i) []
  | br {t b : Addr} {o : Nat} {xs : List V} {ds : List Nd} {A : List Addr} : H t = some (.tup [Tx [o], .ref b]) → H b = some (.lst xs) → TrIs H xs ds A → TrI H (.ref t) (.br o ds) (b :: A)
inductive TrIs (H : Hp) : List V → List Nd → List Addr → Prop
  | nil : TrIs H [] [] []
  | cons {v : V} {vs : List V} {d : Nd} {ds : List Nd} {A B : List Addr} : TrI H v d A → TrIs H vs ds B → TrIs H (v :: vs) (d :: ds) (A ++ B)
end
/-- all but the lists in C stay -/
def ButS (C : List Addr) (H H' : Hp) : Prop := (∀ x ∈ C, ∃ ys, H x = some (.lst ys)) ∧ ∀ x o, H x = some o → x ∉ C → H' x = some o
theorem ButS.refl (H : Hp) : ButS [] H H := ⟨by simp, fun _ _ h _ => h⟩
theorem ButS.of_same {H H' : Hp} (s : Same H H') : ButS [] H H' := ⟨by simp, fun x o h _ => s x o h⟩
mutual
theorem TrI.frame {H H' : Hp} {C : List Addr} (s : ButS C H H') : ∀ {v : V} {d : Nd} {A : List Addr}, TrI H v d A → (∀ x ∈ A, x ∉ C) → TrI H' v d A
  | _, _, _, .let_ c, _ => .let_ c
  | _, _, _, .num i, _ => .num i
  | _, _, _, @TrI.br _ t b o xs ds A ht hb hs, h => .br (s.2 _ _ ht fun hc => by obtain ⟨ys, e⟩ := s.1 _ hc; rw [ht] at e; cases e) (s.2 _ _ hb (h b (List.mem_cons_self ..))) (TrIs.frame s hs fun x hx => h x (List.mem_cons_of_mem _ hx))
theorem TrIs.frame {H H' : Hp} {C : List Addr} (s : ButS C H H') : ∀ {vs : List V} {ds : List Nd} {A : List Addr}, TrIs H vs ds A → (∀ x ∈ A, x ∉ C) → TrIs H' vs ds A
  | _, _, _, .nil, _ => .nil
  | _, _, _, .cons hi hs, h => .cons (TrI.frame s hi fun x hx => h x (List.mem_append_left _ hx)) (TrIs.frame s hs fun x hx => h x (List.mem_append_right _ hx))
end
theorem TrIs.len {H : Hp} : ∀ {vs : List V} {ds : List Nd} {A : List Addr}, TrIs H vs ds A → vs.length = ds.length
  | _, _, _, .nil => rfl
  | _, _, _, .cons _ hs => by simp [TrIs.len hs]
theorem TrIs.app {H : Hp} : ∀ {vs ws : List V} {ds es : List Nd} {A B : List Addr}, TrIs H vs ds A → TrIs H ws es B → TrIs H (vs ++ ws) (ds ++ es) (A ++ B)
  | _, _, _, _, _, _, .nil, h => h
  | _, _, _, _, _, _, .cons hi hs, h => by
    rw [List.append_assoc]
    exact .cons hi (TrIs.app hs h)
theorem TrIs.snoc {H : Hp} {vs : List V} {v : V} {ds : List Nd} {d : Nd} {A B : List Addr} (h : TrIs H vs ds A) (h1 : TrI H v d B) : TrIs H (vs ++ [v]) (ds ++ [d]) (A ++ B) := by
  have := TrIs.app h (.cons h1 .nil)
  simpa using this
theorem TrIs.split {H : Hp} : ∀ {vs ws : List V} {ds : List Nd} {A : List Addr}, TrIs H (vs ++ ws) ds A → ∃ ds1 ds2 A1 A2, ds = ds1 ++ ds2 ∧ A = A1 ++ A2 ∧ TrIs H vs ds1 A1 ∧ TrIs H ws ds2 A2
  | [], ws, ds, A, h => ⟨[], ds, [], A, rfl, rfl, .nil, h⟩
  | v :: vs, ws, _, _, .cons hi hs => by
    obtain ⟨ds1, ds2, A1, A2, rfl, rfl, h1, h2⟩ := TrIs.split hs
    exact ⟨_ :: ds1, ds2, _ ++ A1, A2, rfl, by rw [List.append_assoc], .cons hi h1, h2⟩
/-! depth, size -/
mutual
def Nd.deep : Nd → Nat
  | .br _ ds => Nd.deeps ds + 1
  | _ => 0
def Nd.deeps : List Nd → Nat
  | [] => 0
  | d :: ds => max (Nd.deep d) (Nd.deeps ds)
end
/-! ### numbered -/
end Ly
namespace Ly
open PySem PySem.Spec PyProof.Rows L2 SX
theorem ButS.trans {C D : List Addr} {H H1 H2 : Hp} (x : ButS C H H1) (y : ButS D H1 H2) (hD : ∀ a ∈ D, ∃ ys, H a = some (.lst ys)) : ButS (C ++ D) H H2 := by
  refine ⟨fun a ha => ?_, fun a o h hn => ?_⟩
  · rcases List.mem_append.mp ha with ha | ha
    · exact x.1 a ha
    · exact hD a ha
  · rw [List.mem_append, not_or] at hn
    exact y.2 a o (x.2 a o h hn.1) hn.2
theorem ButS.but {b : Addr} {xs : List V} {H H1 : Hp} (h : H b = some (.lst xs)) (y : But b H H1) : ButS [b] H H1 := by
  refine ⟨fun a ha => ?_, fun a o h hn => y a o (fun e => hn (by rw [e]; simp)) h⟩
  rw [List.mem_singleton] at ha
  rw [ha]
  exact ⟨_, h⟩
theorem TrI.same {H H' : Hp} (s : Same H H') {v : V} {d : Nd} {A : List Addr} (h : TrI H v d A) : TrI H' v d A := TrI.frame (ButS.of_same s) h (by simp)
theorem TrIs.same {H H' : Hp} (s : Same H H') {v : List V} {d : List Nd} {A : List Addr} (h : TrIs H v d A) : TrIs H' v d A := TrIs.frame (ButS.of_same s) h (by simp)
end Ly

set_option maxHeartbeats 4000000
namespace Ly
open PySem PySem.Spec PyProof.Rows L2 SX
/-! ### a nest being made: the list b hangs in open frames -/
inductive Ctx (H : Hp) : Addr → List Addr → List (List Nd × Nat) → List Addr → Prop
  | nil (b : Addr) : Ctx H b [] [] []
  | cons {b b0 t : Addr} {bs : List Addr} {fs : List (List Nd × Nat)} {A A0 : List Addr} {xs0 : List V} {ds0 : List Nd} {o : Nat} : H b0 = some (.lst (xs0 ++ [.ref t])) → TrIs H xs0 ds0 A0 → H t = some (.tup [Tx [o], .ref b]) → Ctx H b0 bs fs A → Ctx H b (b0 :: bs) ((ds0, o) :: fs) (b0 :: (A0 ++ A))
theorem Ctx.frame {H H' : Hp} {C : List Addr} (s : ButS C H H') : ∀ {b : Addr} {bs : List Addr} {fs : List (List Nd × Nat)} {A : List Addr}, Ctx H b bs fs A → (∀ x ∈ A, x ∉ C) → Ctx H' b bs fs A
  | _, _, _, _, .nil b, _ => .nil b
  | _, _, _, _, .cons h1 h2 h3 h4, h => .cons (s.2 _ _ h1 (h _ (List.mem_cons_self ..))) (TrIs.frame s h2 fun x hx => h x (List.mem_cons_of_mem _ (List.mem_append_left _ hx))) (s.2 _ _ h3 fun hc => by obtain ⟨ys, e⟩ := s.1 _ hc; rw [h3] at e; cases e) (Ctx.frame s h4 fun x hx => h x (List.mem_cons_of_mem _ (List.mem_append_right _ hx)))
theorem Ctx.len {H : Hp} : ∀ {b : Addr} {bs : List Addr} {fs : List (List Nd × Nat)} {A : List Addr}, Ctx H b bs fs A → bs.length = fs.length
  | _, _, _, _, .nil b => rfl
  | _, _, _, _, .cons _ _ _ h4 => by simp [Ctx.len h4]
/-- the whole state: the open list, its frames, all lists unlike and new since H0 -/
structure Bld (N : Addr → Prop) (H : Hp) (b : Addr) (bs : List Addr) (fs : List (List Nd × Nat)) (cur : List Nd) : Prop where
  ex : ∃ xs A1 A, H b = some (.lst xs) ∧ TrIs H xs cur A1 ∧ Ctx H b bs fs A ∧ (b :: (A1 ++ A)).Nodup ∧ ∀ x ∈ b :: (A1 ++ A), N x
theorem Bld.start {N : Addr → Prop} {H : Hp} {b : Addr} (h : H b = some (.lst [])) (n : N b) : Bld N H b [] [] [] := ⟨[], [], [], h, .nil, .nil b, by simp, by simpa using n⟩
/-- nothing of it is touched -/
theorem Bld.same {N : Addr → Prop} {H H' : Hp} {b : Addr} {bs : List Addr} {fs : List (List Nd × Nat)} {cur : List Nd} (B : Bld N H b bs fs cur) (s : Same H H') : Bld N H' b bs fs cur := by
  obtain ⟨xs, A1, A, h1, h2, h3, h4, h5⟩ := B.ex
  exact ⟨xs, A1, A, s _ _ h1, TrIs.same s h2, Ctx.frame (ButS.of_same s) h3 (by simp), h4, h5⟩
theorem Bld.but {N : Addr → Prop} {H H' : Hp} {b p : Addr} {bs : List Addr} {fs : List (List Nd × Nat)} {cur : List Nd} {ys : List V} (B : Bld N H b bs fs cur) (s : But p H H') (hp : H p = some (.lst ys)) (hn : ¬ N p) : Bld N H' b bs fs cur := by
  obtain ⟨xs, A1, A, h1, h2, h3, h4, h5⟩ := B.ex
  have bs := ButS.but hp s
  have hno : ∀ x ∈ b :: (A1 ++ A), x ∉ [p] := fun x hx hc => by
    rw [List.mem_singleton] at hc
    rw [hc] at hx
    exact hn (h5 p hx)
  exact ⟨xs, A1, A, bs.2 _ _ h1 (hno b (List.mem_cons_self ..)), TrIs.frame bs h2 fun x hx => hno x (List.mem_cons_of_mem _ (List.mem_append_left _ hx)), Ctx.frame bs h3 fun x hx => hno x (List.mem_cons_of_mem _ (List.mem_append_right _ hx)), h4, h5⟩
theorem Bld.cur {N : Addr → Prop} {H : Hp} {b : Addr} {bs : List Addr} {fs : List (List Nd × Nat)} {cur : List Nd} (B : Bld N H b bs fs cur) : ∃ xs, H b = some (.lst xs) ∧ xs.length = cur.length ∧ N b ∧ bs.length = fs.length := by
  obtain ⟨xs, A1, A, h1, h2, h3, h4, h5⟩ := B.ex
  exact ⟨xs, h1, TrIs.len h2, h5 b (List.mem_cons_self ..), Ctx.len h3⟩
/-- a letter behind -/
theorem Bld.letter {N : Addr → Prop} {H H' : Hp} {b : Addr} {bs : List Addr} {fs : List (List Nd × Nat)} {cur : List Nd} {xs : List V} {c : Nat} (B : Bld N H b bs fs cur) (hb : H b = some (.lst xs)) (s : But b H H') (e : H' b = some (.lst (xs ++ [Tx [c]]))) : Bld N H' b bs fs (cur ++ [.let_ c]) := by
  obtain ⟨xs', A1, A, h1, h2, h3, h4, h5⟩ := B.ex
  rw [hb] at h1
  cases h1
  have bs := ButS.but hb s
  have hn := List.nodup_cons.mp h4
  have hno : ∀ x ∈ A1 ++ A, x ∉ [b] := fun x hx hc => by
    rw [List.mem_singleton] at hc
    rw [hc] at hx
    exact hn.1 hx
  have h2' := TrIs.snoc (TrIs.frame bs h2 fun x hx => hno x (List.mem_append_left _ hx)) (TrI.let_ (H := H') c)
  rw [List.append_nil] at h2'
  exact ⟨_, A1, A, e, h2', Ctx.frame bs h3 fun x hx => hno x (List.mem_append_right _ hx), h4, h5⟩
/-- a bracket closed -/
theorem Bld.close {N : Addr → Prop} {H : Hp} {b : Addr} {bs : List Addr} {fs : List (List Nd × Nat)} {cur ds0 : List Nd} {o : Nat} (B : Bld N H b bs ((ds0, o) :: fs) cur) : ∃ b0 bs0, bs = b0 :: bs0 ∧ Bld N H b0 bs0 fs (ds0 ++ [.br o cur]) := by
  obtain ⟨xs, A1, A, h1, h2, h3, h4, h5⟩ := B.ex
  cases h3 with
  | @cons _ b0 t bs0 _ A' A0 xs0 _ _ k1 k2 k3 k4 =>
    refine ⟨b0, bs0, rfl, ⟨xs0 ++ [.ref t], A0 ++ (b :: A1), A', k1, TrIs.snoc k2 (.br k3 h1 h2), k4, ?_, ?_⟩⟩
    · refine List.Perm.nodup (List.perm_iff_count.mpr fun a => ?_) h4
      simp only [List.count_cons, List.count_append]
      omega
    · intro x hx
      refine h5 x ?_
      simp only [List.mem_cons, List.mem_append] at hx ⊢
      rcases hx with rfl | ((hx | rfl | hx) | hx)
      · exact .inr (.inr (.inl rfl))
      · exact .inr (.inr (.inr (.inl hx)))
      · exact .inl rfl
      · exact .inr (.inl hx)
      · exact .inr (.inr (.inr (.inr hx)))
/-! ### what the text tells -/
def nstep (s : List (List Nd × Nat) × List Nd) (c : Nat) : List (List Nd × Nat) × List Nd :=
  if c ∈ CLO then (match s.1 with | (ds, o) :: fs => (fs, ds ++ [.br o s.2]) | [] => s) else if c ∈ OPN then ((s.2, c) :: s.1, []) else (s.1, s.2 ++ [.let_ c])
def nst (l : List Nat) : List (List Nd × Nat) × List Nd := l.foldl nstep ([], [])
theorem nst_snoc (l : List Nat) (c : Nat) : nst (l ++ [c]) = nstep (nst l) c := by
  unfold nst
  rw [List.foldl_append]
  rfl
/-- the frames are the pile -/
theorem fold_nst : ∀ (l st : List Nat) (fs : List (List Nd × Nat)) (cur : List Nd) (r : List Nat), st = fs.map (fun p => oth p.2) → l.foldl stp (some st) = some r → r = (l.foldl nstep (fs, cur)).1.map fun p => oth p.2
  | [], st, fs, cur, r, h, e => by
    cases e
    exact h
  | c :: l, st, fs, cur, r, h, e => by
    rw [List.foldl_cons] at e ⊢
    by_cases h1 : c ∈ OPN
    · have h2 : c ∉ CLO := opn_clo c h1
      rw [stp_opn h1] at e
      have en : nstep (fs, cur) c = ((cur, c) :: fs, []) := by unfold nstep; rw [if_neg h2, if_pos h1]
      rw [en]
      exact fold_nst l _ _ _ r (by rw [h]; rfl) e
    · by_cases h2 : c ∈ CLO
      · cases fs with
        | nil =>
          subst h
          have e0 : stp (some (List.map (fun p : List Nd × Nat => oth p.2) [])) c = none := by
            show stp (some []) c = none
            unfold stp
            simp only [h1, h2, if_true, if_false]
          rw [e0, fold_none] at e
          cases e
        | cons f fs =>
          obtain ⟨ds, o⟩ := f
          subst h
          by_cases hd : oth o = c
          · have e0 : stp (some (List.map (fun p : List Nd × Nat => oth p.2) ((ds, o) :: fs))) c = some (fs.map fun p => oth p.2) := by
              show stp (some (oth o :: fs.map fun p => oth p.2)) c = _
              rw [hd, stp_clo h2]
            rw [e0] at e
            have en : nstep ((ds, o) :: fs, cur) c = (fs, ds ++ [.br o cur]) := by unfold nstep; rw [if_pos h2]
            rw [en]
            exact fold_nst l _ _ _ r rfl e
          · have e0 : stp (some (List.map (fun p : List Nd × Nat => oth p.2) ((ds, o) :: fs))) c = none := by
              show stp (some (oth o :: fs.map fun p => oth p.2)) c = none
              unfold stp
              simp only [h1, h2, hd, if_true, if_false]
            rw [e0, fold_none] at e
            cases e
      · rw [stp_let h1 h2] at e
        have en : nstep (fs, cur) c = (fs, cur ++ [.let_ c]) := by unfold nstep; rw [if_neg h2, if_neg h1]
        rw [en]
        exact fold_nst l _ _ _ r h e
theorem nst_run {l st : List Nat} (h : run l = some st) : st = (nst l).1.map fun p => oth p.2 := fold_nst l [] [] [] st rfl h
/-- a closing bracket in a clean text closes one -/
theorem nst_clo {l pre post : List Nat} {c : Nat} (h : clean l) (e : l = pre ++ c :: post) (hc : c ∈ CLO) : ∃ ds o fs, (nst pre).1 = (ds, o) :: fs ∧ oth o = c := by
  have h1 : c ∉ OPN := fun h1 => opn_clo c h1 hc
  have h' : run (pre ++ c :: post) = some [] := by rw [← e]; exact h
  rw [run_app, List.foldl_cons] at h'
  cases hr : run pre with
  | none =>
    rw [hr] at h'
    have : stp none c = none := rfl
    rw [this, fold_none] at h'
    cases h'
  | some st =>
    have hst := nst_run hr
    rw [hr] at h'
    cases hf : (nst pre).1 with
    | nil =>
      rw [hf] at hst
      subst hst
      have e0 : stp (some (List.map (fun p : List Nd × Nat => oth p.2) [])) c = none := by
        show stp (some []) c = none
        unfold stp
        simp only [h1, hc, if_true, if_false]
      rw [e0, fold_none] at h'
      cases h'
    | cons f fs =>
      obtain ⟨ds, o⟩ := f
      rw [hf] at hst
      refine ⟨ds, o, fs, rfl, ?_⟩
      by_cases hd : oth o = c
      · exact hd
      · exfalso
        subst hst
        have e0 : stp (some (List.map (fun p : List Nd × Nat => oth p.2) ((ds, o) :: fs))) c = none := by
          show stp (some (oth o :: fs.map fun p => oth p.2)) c = none
          unfold stp
          simp only [h1, hc, hd, if_true, if_false]
        rw [e0, fold_none] at h'
        cases h'
end Ly
namespace Ly
end Ly
namespace Ly
end Ly

set_option maxHeartbeats 4000000
namespace Ly
open PySem PySem.Spec PyProof.Rows L2 SX
/-! ### == and != of deep data -/
section
variable {X : Cx}
end
/-! nests as data -/
end Ly
namespace Ly
open PySem PySem.Spec PyProof.Rows L2 SX
end Ly
namespace Ly
open PySem PySem.Spec PyProof.Rows L2 SX
end Ly
namespace Ly
end Ly

set_option maxHeartbeats 4000000
namespace Ly
open PySem PySem.Spec PyProof.Rows L2 SX
/-! ### more steps -/
theorem kb_str_str : kitB "str" "str" = some true := by decide +kernel
theorem kb_str_int : kitB "str" "int" = some false := by decide +kernel
theorem kb_str_bool : kitB "str" "bool" = some false := by decide +kernel
theorem kb_str_list : kitB "str" "list" = some false := by decide +kernel
theorem kb_str_tuple : kitB "str" "tuple" = some false := by decide +kernel
theorem kb_int_str : kitB "int" "str" = some false := by decide +kernel
theorem kb_int_int : kitB "int" "int" = some true := by decide +kernel
theorem kb_int_bool : kitB "int" "bool" = some false := by decide +kernel
theorem kb_int_list : kitB "int" "list" = some false := by decide +kernel
theorem kb_int_tuple : kitB "int" "tuple" = some false := by decide +kernel
theorem kb_bool_str : kitB "bool" "str" = some false := by decide +kernel
theorem kb_bool_int : kitB "bool" "int" = some true := by decide +kernel
theorem kb_bool_bool : kitB "bool" "bool" = some true := by decide +kernel
theorem kb_bool_list : kitB "bool" "list" = some false := by decide +kernel
theorem kb_bool_tuple : kitB "bool" "tuple" = some false := by decide +kernel
theorem kb_list_str : kitB "list" "str" = some false := by decide +kernel
theorem kb_list_int : kitB "list" "int" = some false := by decide +kernel
theorem kb_list_bool : kitB "list" "bool" = some false := by decide +kernel
theorem kb_list_list : kitB "list" "list" = some true := by decide +kernel
theorem kb_list_tuple : kitB "list" "tuple" = some false := by decide +kernel
theorem kb_tuple_str : kitB "tuple" "str" = some false := by decide +kernel
theorem kb_tuple_int : kitB "tuple" "int" = some false := by decide +kernel
theorem kb_tuple_bool : kitB "tuple" "bool" = some false := by decide +kernel
theorem kb_tuple_list : kitB "tuple" "list" = some false := by decide +kernel
theorem kb_tuple_tuple : kitB "tuple" "tuple" = some true := by decide +kernel
theorem kb_NoneType_str : kitB "NoneType" "str" = some false := by decide +kernel
theorem kb_NoneType_int : kitB "NoneType" "int" = some false := by decide +kernel
theorem kb_NoneType_bool : kitB "NoneType" "bool" = some false := by decide +kernel
theorem kb_NoneType_list : kitB "NoneType" "list" = some false := by decide +kernel
theorem kb_NoneType_tuple : kitB "NoneType" "tuple" = some false := by decide +kernel
theorem kb_dict_str : kitB "dict" "str" = some false := by decide +kernel
theorem kb_dict_int : kitB "dict" "int" = some false := by decide +kernel
theorem kb_dict_bool : kitB "dict" "bool" = some false := by decide +kernel
theorem kb_dict_list : kitB "dict" "list" = some false := by decide +kernel
theorem kb_dict_tuple : kitB "dict" "tuple" = some false := by decide +kernel
section
variable {K : PySem.W.Frag} {σ : L2.St} {H : Hp} {Q : VK} {A B : Prop} {p a : Addr} {xs : List V} {v : V} {i : Int}
theorem g_T (q : A) : ∃ k, V.bl true = V.bl k ∧ if k = true then A else B := ⟨true, rfl, by rw [if_pos rfl]; exact q⟩
theorem g_F (q : B) : ∃ k, V.bl false = V.bl k ∧ if k = true then A else B := ⟨false, rfl, by rw [if_neg Bool.false_ne_true]; exact q⟩
theorem g_NT (q : B) : ∃ k, V.bl true = V.bl k ∧ if (!k) = true then A else B := ⟨true, rfl, q⟩
theorem g_NF (q : A) : ∃ k, V.bl false = V.bl k ∧ if (!k) = true then A else B := ⟨false, rfl, q⟩
theorem g_nT (q : A) : ∃ k, V.bl (!true) = V.bl k ∧ if k = true then B else A := ⟨false, rfl, q⟩
theorem g_nF (q : B) : ∃ k, V.bl (!false) = V.bl k ∧ if k = true then B else A := ⟨true, rfl, q⟩
theorem g_Td {c : Prop} [Decidable c] (h : c) (q : A) : ∃ k, V.bl (decide c) = V.bl k ∧ if k = true then A else B := by rw [decide_eq_true h]; exact g_T q
theorem g_Fd {c : Prop} [Decidable c] (h : ¬ c) (q : B) : ∃ k, V.bl (decide c) = V.bl k ∧ if k = true then A else B := by rw [decide_eq_false h]; exact g_F q
theorem g_NTd {c : Prop} [Decidable c] (h : c) (q : B) : ∃ k, V.bl (decide c) = V.bl k ∧ if (!k) = true then A else B := by rw [decide_eq_true h]; exact g_NT q
theorem g_NFd {c : Prop} [Decidable c] (h : ¬ c) (q : A) : ∃ k, V.bl (decide c) = V.bl k ∧ if (!k) = true then A else B := by rw [decide_eq_false h]; exact g_NF q
theorem g_nTd {c : Prop} [Decidable c] (h : c) (q : B) : ∃ k, V.bl (!decide c) = V.bl k ∧ if k = true then A else B := by rw [decide_eq_true h]; exact g_F q
theorem g_nFd {c : Prop} [Decidable c] (h : ¬ c) (q : A) : ∃ k, V.bl (!decide c) = V.bl k ∧ if k = true then A else B := by rw [decide_eq_false h]; exact g_T q
/-- a test that is told as a truth R of its answer -/
theorem g_RT {R : Bool → Hp → Prop} (q : R true H) : ∃ k, V.bl true = V.bl k ∧ R k H := ⟨_, rfl, q⟩
theorem g_RF {R : Bool → Hp → Prop} (q : R false H) : ∃ k, V.bl false = V.bl k ∧ R k H := ⟨_, rfl, q⟩
theorem g_RTd {c : Prop} [Decidable c] {R : Bool → Hp → Prop} (h : c) (q : R true H) : ∃ k, V.bl (decide c) = V.bl k ∧ R k H := ⟨_, rfl, by rw [decide_eq_true h]; exact q⟩
theorem g_RFd {c : Prop} [Decidable c] {R : Bool → Hp → Prop} (h : ¬ c) (q : R false H) : ∃ k, V.bl (decide c) = V.bl k ∧ R k H := ⟨_, rfl, by rw [decide_eq_false h]; exact q⟩
theorem g_eqS {x : V} (h : scal x x = true) (q : Q (.bl true) H) : rEq x x H Q := ⟨h, by rw [decide_eq_true rfl]; exact q⟩
theorem g_neS {x : V} (h : scal x x = true) (q : Q (.bl false) H) : rNe x x H Q := ⟨h, by rw [decide_eq_true rfl]; exact q⟩
theorem g_ixAU3 (h : H p = some (.tup xs)) (h1 : atI xs i = some v) (q : Q v H) : rIx K (.ref p) (.int i) H Q := .inr (.inl (g_ixU (st_of h) h1 q))
theorem g_ixAL3 (h : H p = some (.lst xs)) (h1 : atI xs i = some v) (q : Q v H) : rIx K (.ref p) (.int i) H Q := .inl (g_ixL (sq_of h) h1 q)
theorem g_ixU3 (h : H p = some (.tup xs)) (h1 : atI xs i = some v) (q : Q v H) : rIxT K (.ref p) (.int i) H Q := g_ixU (st_of h) h1 q
theorem g_lenL3 (h : H p = some (.lst xs)) (q : Q (.int xs.length) H) : rLenL K [.ref p] H Q := g_lenL (sq_of h) q
theorem g_lenU3 (h : H p = some (.tup xs)) (q : Q (.int xs.length) H) : rLenL K [.ref p] H Q := g_lenU (st_of h) q
theorem ty_non : TyX K H .non (.type "NoneType") := .base .non
theorem g_tyL3 (h : H p = some (.lst xs)) (q : A) : tyV K "list" (.ref p) H ∧ A := ⟨g_tyL (sq_of h), q⟩
end
end Ly

set_option maxHeartbeats 4000000
namespace Ly
open PySem PySem.Spec PyProof.Rows L2 SX
/-! ### outlines -/
theorem Bld.closes {N : Addr → Prop} {H : Hp} {l : List Nat} (hc : clean l) : ∀ (cl pre post : List Nat) (b : Addr) (bs : List Addr), l = pre ++ (cl ++ post) → (∀ d ∈ cl, d ∈ CLO) → Bld N H b bs (nst pre).1 (nst pre).2 →
    ∃ b' bs', (b :: bs).drop cl.length = b' :: bs' ∧ Bld N H b' bs' (nst (pre ++ cl)).1 (nst (pre ++ cl)).2
  | [], pre, post, b, bs, e, h, B => ⟨b, bs, rfl, by rw [List.append_nil]; exact B⟩
  | c :: cl, pre, post, b, bs, e, h, B => by
    have hk := h c (List.mem_cons_self ..)
    obtain ⟨ds, o, fs, hf, _⟩ := nst_clo (post := cl ++ post) hc e hk
    rw [hf] at B
    obtain ⟨b0, bs0, rfl, B0⟩ := B.close
    have en : nst (pre ++ [c]) = (fs, ds ++ [.br o (nst pre).2]) := by
      rw [nst_snoc]
      unfold nstep
      rw [if_pos hk, hf]
    obtain ⟨b', bs', h1, h2⟩ := Bld.closes hc cl (pre ++ [c]) post b0 bs0 (by rw [e]; simp) (fun d hd => h d (List.mem_cons_of_mem _ hd)) (by rw [en]; exact B0)
    refine ⟨b', bs', by simpa using h1, ?_⟩
    rw [show pre ++ c :: cl = pre ++ [c] ++ cl by simp]
    exact h2
/-! ### text.split(sign) -/
section
variable {X : Cx}
end
end Ly

set_option maxHeartbeats 4000000
namespace Ly
open PySem PySem.Spec PyProof.Rows L2 SX
/-! ### sorted(text) -/
section
variable {prog : Program} {w : World} {A : Around} {E : Value → Shared → Prop} {s : Shared}
end
section
variable {X : Cx}
end
end Ly

set_option maxHeartbeats 4000000
namespace Ly
open PySem PySem.Spec PyProof.Rows L2 SX
/-! ### text[::-1] -/
section
variable {X : Cx}
def rRevT (x : V) (H : Hp) (Q : VK) : Prop := ∃ l : List Nat, x = Tx l ∧ l.length ≤ 100000 ∧ Q (Tx l.reverse) H
def tRevS (te : TE) : TE := fun σ H Q => te σ H fun x H1 => rRevT x H1 Q
theorem g_revT {l : List Nat} {H : Hp} {Q : VK} (h : l.length ≤ 100000) (q : Q (Tx l.reverse) H) : rRevT (Tx l) H Q := ⟨l, rfl, h, q⟩
theorem rev_pick (l : List Nat) : (⟨((Builtin.Str.strSliceIndices none none (-1) (S l).length).filterMap ((S l).cps[·]?)).toArray⟩ : Str) = S l.reverse := by
  rw [S_len, picked_rev]
  have h1 : (List.range l.length).map (fun k => l.length - 1 - k) = (List.range l.length).reverse := by
    refine List.ext_getElem? fun i => ?_
    by_cases hi : i < l.length
    · rw [List.getElem?_map, List.getElem?_range hi, List.getElem?_reverse (by simpa using hi), List.length_range, List.getElem?_range (by omega)]
      rfl
    · rw [List.getElem?_eq_none (by simpa using hi), List.getElem?_eq_none (by simpa using hi)]
  have h2 : (List.range l.length).filterMap (fun i => (S l).cps[i]?) = l := by
    have : ∀ n, n ≤ l.length → (List.range n).filterMap (fun i => (S l).cps[i]?) = l.take n := by
      intro n
      induction n with
      | zero => intro _; rfl
      | succ n ih =>
        intro hn
        rw [List.range_succ, List.filterMap_append, ih (by omega), List.take_succ_eq_append_getElem (by omega)]
        have e : (S l).cps[n]? = some l[n] := by simp [show n < l.length by omega]
        rw [List.filterMap_cons, e]
        rfl
    rw [this l.length (Nat.le_refl _), List.take_length]
  rw [h1, List.filterMap_reverse, h2]
theorem pe_revS {e : Expr} {te : TE} {k : Nat} {p1 p2 p3 pos : Pos} (he : PE X e te) : PE X (.Subscript e (.Slice none none (some (.UnaryOp .USub (.Constant (.int 1) k p1) p2)) p3) pos) (tRevS te) := by
  refine ⟨fun pins s σ H Q I h => ?_⟩
  refine Subscript_ (thn (he.run pins s σ H _ I h) fun v s1 ⟨x, H1, I1, r1, q1⟩ => ?_)
  obtain ⟨l, ex, hx, q⟩ := q1
  subst ex
  obtain ⟨t, rfl⟩ := r1
  have hst : PO X (some (.UnaryOp .USub (.Constant (.int 1) k p1) p2)) (tPart (tUn (rU fun i => .int (-i)) (tC (.int 1)))) := po_some (pe_un un_neg pe_int)
  refine wpAny_Slice (thn (po_none.run pins s1 σ H1 (fun o H2 => o = none ∧ H2 = H1) I1 ⟨rfl, rfl⟩) fun vl s2 ⟨l1, H2, I2, pl, el, e2⟩ => ?_)
  subst el e2
  refine thn (po_none.run pins s2 σ H2 (fun o H3 => o = none ∧ H3 = H2) I2 ⟨rfl, rfl⟩) fun vu s3 ⟨u, H3, I3, pu, eu, e3⟩ => ?_
  subst eu e3
  refine thn (hst.run pins s3 σ H3 (fun o H4 => o = some (-1) ∧ H4 = H3) I3 ⟨1, rfl, -1, rfl, rfl, rfl⟩) fun vs s4 ⟨o, H4, I4, ps, eo, e4⟩ => ?_
  subst eo e4
  have I5 : Inv X pins σ H4 { s4 with heap := s4.heap.push { cls := .type "slice", data := .fields #[vl, vu, vs] } } := I4.kept (t' := s4.toks) fun b ob q => Heap.get?_push_of_some _ q
  obtain ⟨a1, rfl, ea1⟩ := IsPart.raw pl
  obtain ⟨a2, rfl, ea2⟩ := IsPart.raw pu
  obtain ⟨a3, rfl, ea3⟩ := IsPart.raw ps
  show wpAny (model X.prog X.w) X.A (subscriptTail e (.Slice none none (some (.UnaryOp .USub (.Constant (.int 1) k p1) p2)) p3) (.str (S l) t) (.ref s4.heap.objs.size)) (EP X pins σ Q) X.xe { s4 with heap := s4.heap.push { cls := .type "slice", data := .fields #[partValue a1, partValue a2, partValue a3] } }
  refine tail_any (ops := [.str (S l) t, .ref s4.heap.objs.size]) (typeIs_str _ _ _) (F.slot_str_getitem.lookup) ?_ (by with_unfolding_all rfl)
  refine wpAny_getItem_str_slice (l := a1) (u := a2) (st := a3) ⟨_, Heap.get?_push_size _ rfl, rfl, rfl⟩ ?_ ?_
  · rw [ea3]; rfl
  unfold sliceMade slicePicked
  rw [ea1, ea2, ea3]
  have e1 : ((some (-1) : Option Int).getD 1 == 1) = false := rfl
  rw [e1, Bool.false_and, if_neg Bool.false_ne_true]
  show Made.post (Made.str ⟨((Builtin.Str.strSliceIndices none none (-1) (S l).length).filterMap ((S l).cps[·]?)).toArray⟩) (EP X pins σ Q) _
  rw [rev_pick]
  refine ⟨?_, Tx l.reverse, H4, I5.tok _, ⟨_, rfl⟩, q⟩
  show (S l.reverse).length ≤ sizeLine
  rw [S_len, List.length_reverse]
  exact Nat.le_trans hx (by decide)
def rReplT (y z : List Nat) (x : V) (H : Hp) (Q : VK) : Prop := ∃ l : List Nat, x = Tx l ∧ l.length ≤ 1000 ∧ z.length ≤ 10 ∧ Q (.str (Txt.replace (S l) (S y) (S z))) H
def tReplT (to : TE) (y z : List Nat) : TE := fun σ H Q => to σ H fun v H1 => rReplT y z v H1 Q
end
end Ly
namespace Ly
open PySem PySem.Spec PyProof.Rows L2 SX PySem.StrLaws
end Ly

set_option maxHeartbeats 4000000
namespace Ly
/-! ### least numbers of deeds: strikes and turns -/
/-- how many of two brackets are to be turned -/
def tns (c d : Nat) : Nat := if c ∈ CLO ∨ d ∈ OPN then (if c ∈ CLO then 1 else 0) + (if d ∈ OPN then 1 else 0) else if knd c = knd d then 0 else 1
inductive Mn (l : List Nat) : Nat → Nat → Nat → Prop
  | nil (i : Nat) : Mn l i i 0
  | let_ {i j n c : Nat} : l[i]? = some c → c ∉ BRK → Mn l (i + 1) j n → Mn l i j n
  | str {i j n c : Nat} : l[i]? = some c → c ∈ BRK → Mn l (i + 1) j n → Mn l i j (n + 1)
  | pair {i m j a b c d : Nat} : l[i]? = some c → c ∈ BRK → l[m]? = some d → d ∈ BRK → Mn l (i + 1) m a → Mn l (m + 1) j b → Mn l i j (tns c d + a + b)
theorem Mn.le {l : List Nat} {i j n : Nat} (h : Mn l i j n) : i ≤ j := by
  induction h with
  | nil i => exact Nat.le_refl _
  | let_ _ _ _ ih => omega
  | str _ _ _ ih => omega
  | pair _ _ _ _ _ _ ih1 ih2 => omega
theorem Mn.self {l : List Nat} {i n : Nat} (h : Mn l i i n) : n = 0 := by
  cases h with
  | nil => rfl
  | let_ _ _ h => have := h.le; omega
  | str _ _ h => have := h.le; omega
  | pair _ _ _ _ h1 h2 => have := h1.le; have := h2.le; omega
theorem Mn.app {l : List Nat} {i m j a b : Nat} (h : Mn l i m a) (h2 : Mn l m j b) : Mn l i j (a + b) := by
  induction h with
  | nil i => rw [Nat.zero_add]; exact h2
  | let_ e1 e2 _ ih => exact .let_ e1 e2 (ih h2)
  | @str i j n c e1 e2 _ ih =>
    rw [show n + 1 + b = n + b + 1 by omega]
    exact .str e1 e2 (ih h2)
  | @pair i m j a b' c d e1 e2 e3 e4 h3 _ _ ih =>
    rw [Nat.add_assoc]
    exact .pair e1 e2 e3 e4 h3 (ih h2)
theorem Mn.one_str {l : List Nat} {i c : Nat} (e : l[i]? = some c) (h : c ∈ BRK) : Mn l i (i + 1) 1 := .str e h (.nil _)
theorem Mn.last {l : List Nat} {i j n : Nat} (h : Mn l i j n) : i < j → ∃ c, l[j - 1]? = some c ∧ ((c ∉ BRK ∧ Mn l i (j - 1) n) ∨ (c ∈ BRK ∧ ((∃ n', n = n' + 1 ∧ Mn l i (j - 1) n') ∨ ∃ m d a b, i ≤ m ∧ m < j - 1 ∧ l[m]? = some d ∧ d ∈ BRK ∧ Mn l i m a ∧ Mn l (m + 1) (j - 1) b ∧ n = tns d c + a + b))) := by
  induction h with
  | nil i => intro h; omega
  | @let_ i j n c e1 e2 h ih =>
    intro hij
    by_cases hj : i + 1 = j
    · subst hj
      have := h.self
      subst this
      exact ⟨c, by simpa using e1, .inl ⟨e2, .nil _⟩⟩
    · obtain ⟨c', h1, h2⟩ := ih (by have := h.le; omega)
      refine ⟨c', h1, ?_⟩
      rcases h2 with ⟨h2, h3⟩ | ⟨h2, ⟨n', rfl, h3⟩ | ⟨m, d, a, b, g1, g2, g3, g4, g5, g6, rfl⟩⟩
      · exact .inl ⟨h2, .let_ e1 e2 h3⟩
      · exact .inr ⟨h2, .inl ⟨n', rfl, .let_ e1 e2 h3⟩⟩
      · exact .inr ⟨h2, .inr ⟨m, d, a, b, by omega, g2, g3, g4, .let_ e1 e2 g5, g6, rfl⟩⟩
  | @str i j n c e1 e2 h ih =>
    intro hij
    by_cases hj : i + 1 = j
    · subst hj
      have := h.self
      subst this
      exact ⟨c, by simpa using e1, .inr ⟨e2, .inl ⟨0, rfl, .nil _⟩⟩⟩
    · obtain ⟨c', h1, h2⟩ := ih (by have := h.le; omega)
      refine ⟨c', h1, ?_⟩
      rcases h2 with ⟨h2, h3⟩ | ⟨h2, ⟨n', rfl, h3⟩ | ⟨m, d, a, b, g1, g2, g3, g4, g5, g6, rfl⟩⟩
      · exact .inl ⟨h2, .str e1 e2 h3⟩
      · exact .inr ⟨h2, .inl ⟨n' + 1, rfl, .str e1 e2 h3⟩⟩
      · exact .inr ⟨h2, .inr ⟨m, d, a + 1, b, by omega, g2, g3, g4, .str e1 e2 g5, g6, by omega⟩⟩
  | @pair i m j a b c d e1 e2 e3 e4 h1 h2 ih1 ih2 =>
    intro hij
    by_cases hj : m + 1 = j
    · subst hj
      have := h2.self
      subst this
      have hm := h1.le
      exact ⟨d, by simpa using e3, .inr ⟨e4, .inr ⟨i, c, 0, a, Nat.le_refl _, by omega, e1, e2, .nil _, by simpa using h1, by omega⟩⟩⟩
    · have hm := h1.le
      obtain ⟨c', g1, g2⟩ := ih2 (by have := h2.le; omega)
      refine ⟨c', g1, ?_⟩
      rcases g2 with ⟨g2, g3⟩ | ⟨g2, ⟨n', rfl, g3⟩ | ⟨m', d', a', b', k1, k2, k3, k4, k5, k6, rfl⟩⟩
      · exact .inl ⟨g2, .pair e1 e2 e3 e4 h1 g3⟩
      · exact .inr ⟨g2, .inl ⟨tns c d + a + n', by omega, .pair e1 e2 e3 e4 h1 g3⟩⟩
      · exact .inr ⟨g2, .inr ⟨m', d', tns c d + a + a', b', by omega, k2, k3, k4, .pair e1 e2 e3 e4 h1 k5, k6, by omega⟩⟩
/-- the least that is so -/
def Lst (P : Nat → Prop) (n : Nat) : Prop := P n ∧ ∀ m, P m → n ≤ m
theorem Lst.ex {P : Nat → Prop} : ∀ n, P n → ∃ n, Lst P n := by
  intro n
  induction n using Nat.strongRecOn with
  | ind n ih =>
    intro h
    by_cases hm : ∃ m, m < n ∧ P m
    · obtain ⟨m, h1, h2⟩ := hm
      exact ih m h1 h2
    · exact ⟨n, h, fun m hp => Nat.le_of_not_lt fun hlt => hm ⟨m, hlt, hp⟩⟩
theorem Lst.uniq {P : Nat → Prop} {n m : Nat} (h1 : Lst P n) (h2 : Lst P m) : n = m := Nat.le_antisymm (h1.2 m h2.1) (h2.2 n h1.1)
open Classical in
noncomputable def lstN (l : List Nat) (i j : Nat) : Nat := if h : ∃ n, Lst (Mn l i j) n then Classical.choose h else 0
theorem Mn.ex (l : List Nat) : ∀ (k i : Nat), i + k ≤ l.length → ∃ n, Mn l i (i + k) n
  | 0, i, _ => ⟨0, .nil _⟩
  | k + 1, i, h => by
    obtain ⟨n, hn⟩ := Mn.ex l k (i + 1) (by omega)
    rw [show i + 1 + k = i + (k + 1) by omega] at hn
    have e : l[i]? = some l[i] := List.getElem?_eq_getElem (by omega)
    by_cases hb : l[i] ∈ BRK
    · exact ⟨n + 1, .str e hb hn⟩
    · exact ⟨n, .let_ e hb hn⟩
theorem lstN_spec {l : List Nat} {i j : Nat} (h1 : i ≤ j) (h2 : j ≤ l.length) : Lst (Mn l i j) (lstN l i j) := by
  have hx : ∃ n, Lst (Mn l i j) n := by
    obtain ⟨n, hn⟩ := Mn.ex l (j - i) i (by omega)
    rw [show i + (j - i) = j by omega] at hn
    exact Lst.ex n hn
  unfold lstN
  rw [dif_pos hx]
  exact Classical.choose_spec hx
theorem lstN_of {l : List Nat} {i j n : Nat} (h1 : i ≤ j) (h2 : j ≤ l.length) (h : Lst (Mn l i j) n) : lstN l i j = n := (lstN_spec h1 h2).uniq h
/-! by the first sign -/
/-! by the last sign -/
/-- the numbers that are looked at for a last bracket: the least one so far -/
def LwB (l : List Nat) (i j c k n : Nat) : Prop := Mn l i (j + 1) n ∧ n ≤ lstN l i j + 1 ∧ ∀ m d, i ≤ m → m < i + k → m < j → l[m]? = some d → d ∈ BRK → n ≤ lstN l i m + lstN l (m + 1) j + tns d c
theorem LwB.start {l : List Nat} {i j c : Nat} (hi : i ≤ j) (hj : j < l.length) (e : l[j]? = some c) (hb : c ∈ BRK) : LwB l i j c 0 (lstN l i j + 1) :=
  ⟨(lstN_spec hi (by omega)).1.app (.one_str e hb), Nat.le_refl _, fun m d h1 h2 => by omega⟩
theorem LwB.skip {l : List Nat} {i j c k n d : Nat} (h : LwB l i j c k n) (e : l[i + k]? = some d) (hd : d ∉ BRK) : LwB l i j c (k + 1) n := by
  refine ⟨h.1, h.2.1, fun m d' h1 h2 h3 h4 h5 => ?_⟩
  by_cases hm : m < i + k
  · exact h.2.2 m d' h1 hm h3 h4 h5
  · have : m = i + k := by omega
    subst this
    rw [e] at h4
    exact absurd (Option.some.inj h4 ▸ h5) hd
theorem LwB.step {l : List Nat} {i j c k n d : Nat} (h : LwB l i j c k n) (hj : j < l.length) (ec : l[j]? = some c) (hc : c ∈ BRK) (hk : i + k < j) (e : l[i + k]? = some d) (hd : d ∈ BRK) : LwB l i j c (k + 1) (min n (lstN l i (i + k) + lstN l (i + k + 1) j + tns d c)) := by
  have s1 := lstN_spec (l := l) (show i ≤ i + k by omega) (by omega)
  have s2 := lstN_spec (l := l) (show i + k + 1 ≤ j by omega) (by omega)
  refine ⟨?_, by have := h.2.1; omega, fun m d' h1 h2 h3 h4 h5 => ?_⟩
  · rcases Nat.le_total n (lstN l i (i + k) + lstN l (i + k + 1) j + tns d c) with hq | hq
    · rw [Nat.min_eq_left hq]
      exact h.1
    · rw [Nat.min_eq_right hq]
      have := s1.1.app (Mn.pair e hd ec hc s2.1 (.nil _))
      rw [show lstN l i (i + k) + lstN l (i + k + 1) j + tns d c = lstN l i (i + k) + (tns d c + lstN l (i + k + 1) j + 0) by omega]
      exact this
  · by_cases hm : m < i + k
    · have := h.2.2 m d' h1 hm h3 h4 h5
      omega
    · have : m = i + k := by omega
      subst this
      rw [e] at h4
      have := Option.some.inj h4
      subst this
      exact Nat.min_le_right _ _
theorem LwB.fin {l : List Nat} {i j c n : Nat} (hi : i ≤ j) (hj : j < l.length) (ec : l[j]? = some c) (hc : c ∈ BRK) (h : LwB l i j c (j - i) n) : lstN l i (j + 1) = n := by
  refine lstN_of (by omega) (by omega) ⟨h.1, fun x hx => ?_⟩
  obtain ⟨c', h1, h2⟩ := hx.last (by omega)
  rw [Nat.add_sub_cancel] at h1 h2
  rw [ec] at h1
  have := Option.some.inj h1
  subst this
  rcases h2 with ⟨h2, _⟩ | ⟨_, ⟨n', rfl, h3⟩ | ⟨m, d, a, b, g1, g2, g3, g4, g5, g6, rfl⟩⟩
  · exact absurd hc h2
  · have := (lstN_spec (l := l) hi (by omega)).2 _ h3
    have := h.2.1
    omega
  · have k1 := (lstN_spec (l := l) g1 (by omega)).2 _ g5
    have k2 := (lstN_spec (l := l) (show m + 1 ≤ j by omega) (by omega)).2 _ g6
    have := h.2.2 m d g1 (by omega) g2 g3 g4
    omega
/-! reckoned -/
end Ly

set_option maxHeartbeats 4000000
namespace Ly
open PySem PySem.Spec PyProof.Rows L2 SX
/-! ### dicts whose keys are pairs of whole numbers -/
section
variable {K : PySem.W.Frag} {σ : L2.St} {H H1 : Hp} {Q : VK} {R : Hp → Prop} {a b p : Addr} {i j : Int} {v : V} {n : Nat} {td ty tv : TE} {D : Ends} {xs : List V}
def rDGet (x y : V) (H : Hp) (Q : VK) : Prop := ∃ a v, x = .ref a ∧ DGet H a y (some v) ∧ Q v H
def rDPut (x y v : V) (H : Hp) (R : Hp → Prop) : Prop := ∃ a H4, x = .ref a ∧ DPut H a y v H4 ∧ R H4
def rDNewT (H : Hp) (Q : VK) : Prop := ∀ p, H p = none → Q (.ref p) (upd H p (.dT []))
theorem tDGet_eq : tDGet td ty σ H Q = td σ H fun x H1 => ty σ H1 fun y H2 => rDGet x y H2 Q := rfl
theorem sDPut_eq : sDPut td ty tv D σ H = tv σ H fun v H1 => td σ H1 fun x H2 => ty σ H2 fun y H3 => rDPut x y v H3 (D.nx σ) := rfl
theorem tDNewT_eq : tDNewT σ H Q = rDNewT H Q := rfl
/-- at a stands a dict of pairs, f tells what it holds, at most n entries -/
def DTab (H : Hp) (a : Addr) (f : Int → Int → Option V) (n : Nat) : Prop := ∃ kvs : List (List Key × V), H a = some (.dT kvs) ∧ kvs.length ≤ n ∧ ∀ i j, valV kvs [.inl i, .inl j] = f i j
theorem DTab.same {f : Int → Int → Option V} (h : DTab H a f n) (s : Same H H1) : DTab H1 a f n := by
  obtain ⟨kvs, h1, h2⟩ := h
  exact ⟨kvs, s _ _ h1, h2⟩
theorem DTab.but {f : Int → Int → Option V} (h : DTab H a f n) (s : But p H H1) (hn : a ≠ p) : DTab H1 a f n := by
  obtain ⟨kvs, h1, h2⟩ := h
  exact ⟨kvs, s _ _ hn h1, h2⟩
theorem DTab.ne {f : Int → Int → Option V} (h : DTab H a f n) (hb : H b = none) : a ≠ b := by
  obtain ⟨kvs, h1, h2⟩ := h
  exact ne_new hb h1
/-! ### places told as natural numbers -/
theorem g_ixLn {x : Int} (k : Nat) (h : SqL K H p xs) (hk : x = (k : Int)) (h1 : xs[k]? = some v) (q : Q v H) : rIxL K (.ref p) (.int x) H Q := by
  subst hk
  exact g_ixL h (atI_of h1) q
theorem g_ixTn {l : List Nat} {x : Int} {c : Nat} (k : Nat) (h : l.length ≤ 100000) (hk : x = (k : Int)) (h1 : l[k]? = some c) (q : Q (Tx [c]) H) : rIxT1 (Tx l) (.int x) H Q := by
  subst hk
  exact g_ixT h (atI_of h1) q
theorem g_setLn {x : Int} (k : Nat) (h : H p = some (.lst xs)) (hk : x = (k : Int)) (h1 : k < xs.length) (q : ∀ H1, But p H H1 → H1 p = some (.lst (xs.set k v)) → R H1) : rSetL (.ref p) (.int x) v H R := by
  subst hk
  exact g_setL h (ixN_nat h1) q
/-! ### min, max -/
end
section
variable {X : Cx}
def rMin2 : List V → Hp → VK → Prop := fun xs H Q => ∃ i j : Int, xs = [.int i, .int j] ∧ Q (.int (min i j)) H
def rMax2 : List V → Hp → VK → Prop := fun xs H Q => ∃ i j : Int, xs = [.int i, .int j] ∧ Q (.int (max i j)) H
theorem call_min2' (hc : X.calm = true) : CallR X (.builtin "min") rMin2 := fun pins s σ H xs us Q I r h => by
  obtain ⟨i, j, rfl, q⟩ := h
  refine call_min2 hc pins s σ H _ us Q I r ⟨i, j, rfl, ?_⟩
  have e : (if j < i then j else i) = min i j := by split <;> omega
  rw [e]
  exact q
theorem g_min2 {H : Hp} {Q : VK} {i j : Int} (q : Q (.int (min i j)) H) : rMin2 [.int i, .int j] H Q := ⟨i, j, rfl, q⟩
theorem g_max2 {H : Hp} {Q : VK} {i j : Int} (q : Q (.int (max i j)) H) : rMax2 [.int i, .int j] H Q := ⟨i, j, rfl, q⟩
end
/-! ### a list of lists, each its own -/
/-- at d the list of the lists rs; the k-th holds f k -/
structure Tab (H : Hp) (d : Addr) (rs : List Addr) (f : Nat → List V) : Prop where
  hd : H d = some (.lst (rs.map V.ref))
  r : ∀ k r, rs[k]? = some r → H r = some (.lst (f k))
  nd : rs.Nodup
  nin : d ∉ rs
theorem Tab.same {H H' : Hp} {d : Addr} {rs : List Addr} {f : Nat → List V} (T : Tab H d rs f) (s : Same H H') : Tab H' d rs f := ⟨s _ _ T.hd, fun k r h => s _ _ (T.r k r h), T.nd, T.nin⟩
theorem Tab.but {H H' : Hp} {d p : Addr} {rs : List Addr} {f : Nat → List V} (T : Tab H d rs f) (s : But p H H') (h1 : p ≠ d) (h2 : p ∉ rs) : Tab H' d rs f :=
  ⟨s _ _ (Ne.symm h1) T.hd, fun k r h => s _ _ (fun e => h2 (by rw [← e]; exact List.mem_of_getElem? h)) (T.r k r h), T.nd, T.nin⟩
theorem Tab.fresh {H : Hp} {d p : Addr} {rs : List Addr} {f : Nat → List V} (T : Tab H d rs f) (h : H p = none) : p ≠ d ∧ p ∉ rs := by
  refine ⟨fun e => ?_, fun e => ?_⟩
  · have := T.hd
    rw [← e, h] at this
    cases this
  · obtain ⟨k, hk⟩ := List.getElem?_of_mem e
    have := T.r k p hk
    rw [h] at this
    cases this
/-- one row set -/
theorem Tab.set {H H' : Hp} {d r : Addr} {rs : List Addr} {f : Nat → List V} {k : Nat} {xs : List V} (T : Tab H d rs f) (hk : rs[k]? = some r) (s : But r H H') (h : H' r = some (.lst xs)) : Tab H' d rs (fun i => if i = k then xs else f i) := by
  have hr : r ∈ rs := List.mem_of_getElem? hk
  refine ⟨s _ _ (fun e => T.nin (by rw [e]; exact hr)) T.hd, fun i q hi => ?_, T.nd, T.nin⟩
  by_cases e : i = k
  · subst e
    rw [hk] at hi
    have := Option.some.inj hi
    subst this
    rw [if_pos rfl]
    exact h
  · rw [if_neg e]
    refine s _ _ (fun e2 => e ?_) (T.r i q hi)
    subst e2
    obtain ⟨h1, e1⟩ := List.getElem?_eq_some_iff.mp hi
    obtain ⟨h2, e2⟩ := List.getElem?_eq_some_iff.mp hk
    exact (List.getElem_inj T.nd).mp (e1.trans e2.symm)
theorem Tab.congr {H : Hp} {d : Addr} {rs : List Addr} {f g : Nat → List V} (T : Tab H d rs f) (h : ∀ k, k < rs.length → f k = g k) : Tab H d rs g :=
  ⟨T.hd, fun k r hk => by rw [← h k (List.getElem?_eq_some_iff.mp hk).1]; exact T.r k r hk, T.nd, T.nin⟩
theorem Tab.row {H : Hp} {d : Addr} {rs : List Addr} {f : Nat → List V} (T : Tab H d rs f) {k : Nat} (hk : k < rs.length) : ∃ r, rs[k]? = some r ∧ (rs.map V.ref)[k]? = some (V.ref r) ∧ H r = some (.lst (f k)) := by
  refine ⟨rs[k], List.getElem?_eq_getElem hk, by simp [hk], T.r k _ (List.getElem?_eq_getElem hk)⟩
theorem Tab.snoc {H H' : Hp} {d r : Addr} {rs : List Addr} {f : Nat → List V} {xs : List V} (T : Tab H d rs f) (hr : H' r = some (.lst xs)) (hd : H' d = some (.lst ((rs ++ [r]).map V.ref))) (h1 : r ∉ rs) (h2 : d ≠ r) (hk : ∀ q ∈ rs, ∀ o, H q = some o → H' q = some o) : Tab H' d (rs ++ [r]) (fun i => if i = rs.length then xs else f i) := by
  refine ⟨hd, fun i q hi => ?_, ?_, ?_⟩
  · by_cases e : i < rs.length
    · rw [List.getElem?_append_left e] at hi
      rw [if_neg (by omega)]
      exact hk q (List.mem_of_getElem? hi) _ (T.r i q hi)
    · rw [List.getElem?_append_right (by omega)] at hi
      have e2 : i = rs.length := by
        have := (List.getElem?_eq_some_iff.mp hi).1
        simp at this
        omega
      subst e2
      rw [Nat.sub_self] at hi
      have := Option.some.inj hi
      subst this
      rw [if_pos rfl]
      exact hr
  · rw [List.nodup_append]
    refine ⟨T.nd, by simp, fun a ha b hb => ?_⟩
    rw [List.mem_singleton] at hb
    subst hb
    exact fun e => h1 (by rw [← e]; exact ha)
  · rw [List.mem_append, List.mem_singleton]
    rintro (h | h)
    · exact T.nin h
    · exact h2 h
end Ly

set_option maxHeartbeats 4000000
namespace Ly
open PySem PySem.Spec PyProof.Rows L2 SX
theorem g_ET {R : Bool → Prop} (q : R true) : ∃ k, V.bl true = V.bl k ∧ R k := ⟨_, rfl, q⟩
theorem g_EF {R : Bool → Prop} (q : R false) : ∃ k, V.bl false = V.bl k ∧ R k := ⟨_, rfl, q⟩
theorem g_EnT {R : Bool → Prop} (q : R false) : ∃ k, V.bl (!true) = V.bl k ∧ R k := ⟨_, rfl, q⟩
theorem g_EnF {R : Bool → Prop} (q : R true) : ∃ k, V.bl (!false) = V.bl k ∧ R k := ⟨_, rfl, q⟩
/-! ### list + list, where one may be the script -/
section
variable {X : Cx}
end
section
variable {K : PySem.W.Frag} {σ : L2.St} {H : Hp} {g : TG} {tb : TS} {D : Ends} {a b : Addr} {xs ys : List V}
end
end Ly

namespace Ly
/-! ### least numbers with how often they are met -/
/-- a number of deeds and in how many ways; none: in no way -/
abbrev MC := Option (Nat × Nat)
def mAdd : MC → MC → MC
  | none, y => y
  | some p, none => some p
  | some p, some q => if p.1 < q.1 then some p else if q.1 < p.1 then some q else some (p.1, p.2 + q.2)
def mMul : MC → MC → MC
  | some p, some q => some (p.1 + q.1, p.2 * q.2)
  | _, _ => none
def mOne : MC := some (0, 1)
theorem mAdd_none (x : MC) : mAdd x none = x := by cases x <;> rfl
theorem none_mAdd (x : MC) : mAdd none x = x := rfl
theorem mAdd_assoc (x y z : MC) : mAdd (mAdd x y) z = mAdd x (mAdd y z) := by
  cases x with
  | none => rfl
  | some p =>
    cases y with
    | none => rfl
    | some q =>
      cases z with
      | none => rw [mAdd_none, mAdd_none]
      | some r =>
        obtain ⟨a, m⟩ := p
        obtain ⟨b, n⟩ := q
        obtain ⟨c, k⟩ := r
        unfold mAdd
        dsimp only
        by_cases h1 : a < b <;> by_cases h2 : b < a <;> by_cases h3 : b < c <;> by_cases h4 : c < b <;> by_cases h5 : a < c <;> by_cases h6 : c < a <;>
          first | (exfalso; omega) | (simp only [h1, h2, h3, h4, h5, h6, if_true, if_false]; try (first | rfl | (rw [Nat.add_assoc]) | (congr 1 <;> omega)))
theorem mMul_comm (x y : MC) : mMul x y = mMul y x := by
  cases x with
  | none => cases y <;> rfl
  | some p =>
    cases y with
    | none => rfl
    | some q =>
      unfold mMul
      dsimp only
      rw [Nat.add_comm, Nat.mul_comm]
theorem mMul_none (x : MC) : mMul x none = none := by cases x <;> rfl
theorem mMul_assoc (x y z : MC) : mMul (mMul x y) z = mMul x (mMul y z) := by
  cases x with
  | none => rfl
  | some p =>
    cases y with
    | none => rfl
    | some q =>
      cases z with
      | none => rfl
      | some r =>
        unfold mMul
        dsimp only
        rw [Nat.add_assoc, Nat.mul_assoc]
theorem mOne_mul (x : MC) : mMul mOne x = x := by
  cases x with
  | none => rfl
  | some p =>
    unfold mMul mOne
    dsimp only
    rw [Nat.zero_add, Nat.one_mul]
theorem mMul_one (x : MC) : mMul x mOne = x := by rw [mMul_comm, mOne_mul]
/-! sums -/
def sm (f : Nat → MC) : Nat → MC
  | 0 => none
  | n + 1 => mAdd (sm f n) (f n)
theorem sm_congr {f g : Nat → MC} : ∀ {n : Nat}, (∀ k, k < n → f k = g k) → sm f n = sm g n
  | 0, _ => rfl
  | n + 1, h => by
    rw [sm, sm, sm_congr (fun k hk => h k (by omega)), h n (by omega)]
theorem sm_head (f : Nat → MC) : ∀ n : Nat, sm f (n + 1) = mAdd (f 0) (sm (fun k => f (k + 1)) n)
  | 0 => by rw [sm, sm, sm, none_mAdd, mAdd_none]
  | n + 1 => by rw [sm, sm_head f n, sm, mAdd_assoc]
theorem sm_none : ∀ n : Nat, sm (fun _ => none) n = none
  | 0 => rfl
  | n + 1 => by rw [sm, sm_none n]; rfl
/-! ### tilings: by the first item, by the last one -/
end Ly

set_option maxHeartbeats 4000000
namespace Ly
open PySem PySem.Spec PyProof.Rows L2 SX
/-! ### classes: their methods, their making -/
def MetAt (K : PySem.W.Frag) (c m q : Str) (st : Stmt) (ps : List Str) : Prop := ∃ fd : FuncData, FunD K m q (defArgs st) (defBody st) (defScope st) [] [] (He.ma K (He.ga K c) m) fd ∧ Cls K (He.ga K c) ∧ Meth K (He.ga K c) m (He.ma K (He.ga K c) m) ∧ Binds K fd ps []
def MakAt (K : PySem.W.Frag) (mg : Str → Option Value) (c q : Str) (st : Stmt) (ps : List Str) : Prop := ∃ fd : FuncData, FunD K "__init__" q (defArgs st) (defBody st) (defScope st) [] [] (He.ma K (He.ga K c) "__init__") fd ∧ Mk K (He.ga K c) (He.ma K (He.ga K c) "__init__") ∧ mg c = some (.ref (He.ga K c)) ∧ Binds K fd ps []
section
variable {P : Program} {w : World} {K : PySem.W.Frag} {mg : Str → Option Value} {base : Heap}
theorem fnDq {x q : Str} {st : Stmt} {f : Addr} {fd : FuncData} {N ps : List Str} {k : Nat} {sp : Sp} (F : FunD K x q (defArgs st) (defBody st) (defScope st) [] [] f fd) (S : FnScope N ps (defScope st)) (len : ∀ vs H Q E, sp vs H Q E → vs.length = ps.length)
    (hbody : ∀ (cdv : Value) (A : Around) (outer : List Env) (s : Shared) (H : Hp) (vs : List V) (Q : VK) (E : XK), Room k (A.deeper (envOfC q (defScope st) s.heap.objs.size f cdv)) → sp vs H Q E →
      ∃ t, PSs (cxOf C8.CX0 P w K mg base N q (defScope st) f cdv A outer s H E).nox (defBody st) t ∧ t { nx := fun _ H' => Q .non H', rt := Q } (start N vs) H) : FnOk P w K mg base C8.CX0 (k + 1) f fd ps sp := by
  refine F.ok S len fun cdv A outer s H vs Q E hr hsp => ?_
  obtain ⟨t, h, q⟩ := hbody cdv A outer s H vs Q E hr hsp
  exact ⟨t, h.nox, q⟩
theorem metD {c m q : Str} {st : Stmt} {N ps : List Str} {k : Nat} {sp : Sp} (D : MetAt K c m q st ps) (S : FnScope N ps (defScope st)) (len : ∀ vs H Q E, sp vs H Q E → vs.length = ps.length)
    (hbody : ∀ (f : Addr) (cdv : Value) (A : Around) (outer : List Env) (s : Shared) (H : Hp) (vs : List V) (Q : VK) (E : XK), Room k (A.deeper (envOfC q (defScope st) s.heap.objs.size f cdv)) → sp vs H Q E →
      ∃ t, PSs (cxOf C8.CX0 P w K mg base N q (defScope st) f cdv A outer s H E).nox (defBody st) t ∧ t { nx := fun _ H' => Q .non H', rt := Q } (start N vs) H) : C8.Met P w K mg base (k + 1) (He.ga K c) m sp [] := by
  obtain ⟨fd, F, cl, me, b⟩ := D
  exact ⟨_, fd, ps, [], cl, me, fnDq F S len (hbody _), b, .nil⟩
theorem makD {c q : Str} {st : Stmt} {N ps : List Str} {k : Nat} {sp : Sp} (D : MakAt K mg c q st ps) (S : FnScope N ps (defScope st)) (len : ∀ vs H Q E, sp vs H Q E → vs.length = ps.length)
    (hbody : ∀ (f : Addr) (cdv : Value) (A : Around) (outer : List Env) (s : Shared) (H : Hp) (vs : List V) (Q : VK) (E : XK), Room k (A.deeper (envOfC q (defScope st) s.heap.objs.size f cdv)) → sp vs H Q E →
      ∃ t, PSs (cxOf C8.CX0 P w K mg base N q (defScope st) f cdv A outer s H E).nox (defBody st) t ∧ t { nx := fun _ H' => Q .non H', rt := Q } (start N vs) H) : C8.Mak P w K mg base (k + 1) c (He.ga K c) sp [] := by
  obtain ⟨fd, F, mk, hm, b⟩ := D
  exact ⟨_, fd, ps, [], mk, fnDq F S len (hbody _), hm, b, .nil⟩
end
def rMetO (C : Addr) (m : Str) (x : V) (H : Hp) (A : Prop) : Prop := (∃ a dx fs, x = .ref a ∧ H a = some (.ins C dx fs) ∧ fs.lookup m = none) ∧ A
def tMet (C : Addr) (m : Str) (sp : Sp) (ta : TE) (t : TA) : TE := fun σ H Q => ta σ H fun x H1 => rMetO C m x H1 (t σ H1 fun vs H2 => sp (x :: vs) H2 Q C8.E0)
theorem tMet_eq {C : Addr} {m : Str} {sp : Sp} {ta : TE} {t : TA} : tMeth C m sp [] C8.E0 ta t = tMet C m sp ta t := by
  funext σ H Q
  show (ta σ H fun x H1 => ∃ a dx fs, x = .ref a ∧ H1 a = some (.ins C dx fs) ∧ fs.lookup m = none ∧ t σ H1 fun vs H2 => sp (x :: (vs ++ [])) H2 Q C8.E0) = ta σ H _
  congr 1
  funext x H1
  simp only [List.append_nil]
  refine propext ⟨fun ⟨a, dx, fs, h1, h2, h3, h4⟩ => ⟨⟨a, dx, fs, h1, h2, h3⟩, h4⟩, fun ⟨⟨a, dx, fs, h1, h2, h3⟩, h4⟩ => ⟨a, dx, fs, h1, h2, h3, h4⟩⟩
def rMak (C : Addr) (sp : Sp) (vs : List V) (H : Hp) (Q : VK) : Prop := ∀ x dx, H x = none → H dx = none → dx ≠ x → sp (.ref x :: vs) (upd (upd H dx (.own x)) x (.ins C dx [])) (fun v H2 => v = .non ∧ Q (.ref x) H2) C8.E0
def tMak (C : Addr) (sp : Sp) (t : TA) : TE := fun σ H Q => t σ H fun vs H1 => rMak C sp vs H1 Q
theorem tMak_eq {C : Addr} {sp : Sp} {t : TA} : tMake C sp [] C8.E0 t = tMak C sp t := by
  funext σ H Q
  show (t σ H fun vs H1 => ∀ x dx, H1 x = none → H1 dx = none → dx ≠ x → sp (.ref x :: (vs ++ [])) _ _ C8.E0) = t σ H _
  simp only [List.append_nil]
  rfl
section
variable {X : Cx} {k j : Nat} {C : Addr} {x m : Str} {sp : Sp} {p pos apos : Pos} {e o : Expr} {es : List Expr} {ta : TE} {t : TA}
theorem pe_met {pl : Sem Bool} (c : C8.Met X.prog X.w X.K X.mg X.base k C m sp []) (hr : Room j X.A) (hk : k ≤ j) (he : PE X o ta) (ha : PA X (e :: es) t)
    (hst : starEach (e :: es) X.env = (false, eval e X.env) :: starEach es X.env := by rfl) (hpl : (backTo pos (starEach es X.env)).any (·.1) = false := by rfl)
    (ht : eval (.Call (.Attribute o m apos) (e :: es) [] pos) X.env = (do
      let ov ← eval o X.env
      standAt apos.atName
      let (f, first) ← holding [ov] (getMethod ov m pl)
      callWith pos f first (backTo pos (starEach (e :: es) X.env)) (backToKw pos (keywordEach [] X.env))) := by rfl) :
    PE X (.Call (.Attribute o m apos) (e :: es) [] pos) (tMet C m sp ta t) := by
  rw [← tMet_eq]
  exact C8.pe_mt (pl := pl) c hr hk he ha hst hpl ht
theorem pe_mak (c : C8.Mak X.prog X.w X.K X.mg X.base k x C sp []) (hr : Room j X.A) (hk : k + 1 ≤ j) (hg : Gl X x) (ha : PA X (e :: es) t)
    (hdb : (x == ("__debug__" : Str)) = false := by decide) (he : starEach (e :: es) X.env = (false, eval e X.env) :: starEach es X.env := by rfl) (hpl : (backTo pos (starEach es X.env)).any (·.1) = false := by rfl) :
    PE X (.Call (.Name x p) (e :: es) [] pos) (tMak C sp t) := by
  rw [← tMak_eq]
  exact C8.pe_mk c hr hk hg ha hdb he hpl
end
section
variable {K : PySem.W.Frag} {σ : L2.St} {H : Hp} {Q : VK} {A : Prop} {a dx C : Addr} {fs : List (Str × V)} {m f : Str} {v y : V} {ta tv : TE} {D : Ends} {R : Hp → Prop} {sp : Sp} {vs : List V}
theorem g_met (h : H a = some (.ins C dx fs)) (hl : fs.lookup m = none) (q : A) : rMetO C m (.ref a) H A := ⟨⟨a, dx, fs, rfl, h, hl⟩, q⟩
theorem g_mak (q : ∀ x dx H1, H x = none → Same H H1 → H1 x = some (.ins C dx []) → sp (.ref x :: vs) H1 (fun v H2 => v = .non ∧ Q (.ref x) H2) C8.E0) : rMak C sp vs H Q := fun x dx nx ndx hne =>
  q x dx _ nx (fun b o e => by rw [upd_ne (ne_of_none e nx), upd_ne (ne_of_none e ndx)]; exact e) upd_same
def rFld (K : PySem.W.Frag) (f : Str) (x : V) (H : Hp) (Q : VK) : Prop := ∃ a C dx fs v, x = .ref a ∧ H a = some (.ins C dx fs) ∧ Cls K C ∧ NoAttr K C f ∧ fs.lookup f = some v ∧ Q v H
def rSFld (K : PySem.W.Frag) (f : Str) (y x : V) (H : Hp) (R : Hp → Prop) : Prop := ∃ a C dx fs, x = .ref a ∧ H a = some (.ins C dx fs) ∧ Cls K C ∧ NoAttr K C f ∧ fs.length < 1000 ∧ R (upd H a (.ins C dx (putF f y fs)))
theorem tFld_eq : tFld K ta f σ H Q = ta σ H fun x H1 => rFld K f x H1 Q := rfl
theorem sFld_eq : sFld K ta tv f D σ H = tv σ H fun y H1 => ta σ H1 fun x H2 => rSFld K f y x H2 (D.nx σ) := rfl
theorem g_fld (h : H a = some (.ins C dx fs)) (cl : Cls K C) (na : NoAttr K C f) (hl : fs.lookup f = some v) (q : Q v H) : rFld K f (.ref a) H Q := ⟨a, C, dx, fs, v, rfl, h, cl, na, hl, q⟩
theorem g_sfld (h : H a = some (.ins C dx fs)) (cl : Cls K C) (na : NoAttr K C f) (hl : fs.length < 1000) (q : ∀ H1, But a H H1 → H1 a = some (.ins C dx (putF f y fs)) → R H1) : rSFld K f y (.ref a) H R := ⟨a, C, dx, fs, rfl, h, cl, na, hl, q _ But.set upd_same⟩
end
end Ly

namespace Ly
open PySem
/-! ### the head's facts with one truth more -/
abbrev AlE : Type := He.AlD × Bool
def obsEG (n : Nat) (fa : List He.Fa) (fn : List He.DefD) (ex : PySem.W.Frag → Bool) (g : Addr → Option Obj) : AlE := (He.obsDG n fa fn g, ex (He.frG g (He.asD g n)))
def hookE (n : Nat) (fa : List He.Fa) (fn : List He.DefD) (ex : PySem.W.Frag → Bool) : PySem.W.Hook where
  α := AlE
  obs := fun s => obsEG n fa fn ex s.heap.get?
  val := fun _ => (He.valD fn, true)
  says := fun _ h => ∃ K : PySem.W.Frag, K.In h ∧ He.SaysD fa fn K ∧ ex K = true
  of := fun _ _ e => ⟨_, He.frG_in, congrArg Prod.fst e, congrArg Prod.snd e⟩
  keeps := fun _ _ _ ⟨K, hK, c, cx⟩ k => ⟨K, PySem.W.Frag.In.keeps hK k, c, cx⟩
theorem obsEG_eq {n : Nat} {fa : List He.Fa} {fn : List He.DefD} {ex : PySem.W.Frag → Bool} {g : Addr → Option Obj} {s : Shared} (h : ∀ a, g a = s.heap.get? a) : obsEG n fa fn ex g = (hookE n fa fn ex).obs s := by
  have e : g = s.heap.get? := funext h
  rw [e] <;> rfl
end Ly

set_option maxHeartbeats 4000000
namespace Ly
/-! ### least numbers with how many, by words -/
structure Wd where
  pt : Bool
  st : Bool
  tn : Bool
def few (c d : Nat) : Nat × Nat := if c ∈ OPN ∧ d ∈ CLO then (if knd c = knd d then (0, 1) else (1, 2)) else if c ∈ CLO ∧ d ∈ OPN then (2, 4) else (1, 1)
def w1 : MC := some (1, 1)
/-- a pair of the text's signs at i and m -/
def prM (l : List Nat) (W : Wd) (i m : Nat) : MC := match l[i]?, l[m]? with
  | some c, some d => if c ∈ BRK ∧ d ∈ BRK ∧ ((few c d).1 = 0 ∨ W.tn = true) then some (few c d) else none
  | _, _ => none
def opM (l : List Nat) (W : Wd) (i : Nat) : MC := match l[i]? with
  | some c => if c ∈ OPN ∧ W.pt = true then w1 else none
  | none => none
def clM (l : List Nat) (W : Wd) (m : Nat) : MC := match l[m]? with
  | some c => if c ∈ CLO ∧ W.pt = true then w1 else none
  | none => none
/-- the sign alone: a letter, or a struck bracket -/
def sgM (l : List Nat) (W : Wd) (i : Nat) : MC := match l[i]? with
  | some c => if c ∈ BRK then (if W.st = true then w1 else none) else mOne
  | none => none
def m3 (x y z : MC) : MC := mMul (mMul x y) z
theorem m3_none (y z : MC) : m3 none y z = none := rfl
/-- by the first sign -/
def stM (l : List Nat) (W : Wd) (F : Nat → Nat → MC) (i j : Nat) : MC :=
  mAdd (mMul (sgM l W i) (F (i + 1) j)) (mAdd (sm (fun t => m3 (prM l W i (i + 1 + t)) (F (i + 1) (i + 1 + t)) (F (i + 1 + t + 1) j)) (j - i - 1))
    (mAdd (sm (fun t => m3 (opM l W i) (F (i + 1) (i + 1 + t)) (F (i + 1 + t) j)) (j - i)) (sm (fun t => m3 (clM l W (i + t)) (F i (i + t)) (F (i + t + 1) j)) (j - i))))
theorem stM_congr {l l' : List Nat} {W : Wd} {F F' : Nat → Nat → MC} {i j : Nat} (hi : i < j) (hl : ∀ k, k < j → l[k]? = l'[k]?) (h : ∀ a b, a ≤ b → b ≤ j → b - a < j - i → i ≤ a → F a b = F' a b) : stM l W F i j = stM l' W F' i j := by
  unfold stM
  have e1 : sgM l W i = sgM l' W i := by unfold sgM; rw [hl i hi]
  have e2 : ∀ m, m < j → prM l W i m = prM l' W i m := fun m hm => by unfold prM; rw [hl i hi, hl m hm]
  have e3 : opM l W i = opM l' W i := by unfold opM; rw [hl i hi]
  have e4 : ∀ m, m < j → clM l W m = clM l' W m := fun m hm => by unfold clM; rw [hl m hm]
  rw [e1, h (i + 1) j (by omega) (by omega) (by omega) (by omega), e3]
  congr 1
  congr 1
  · refine sm_congr fun t ht => ?_
    rw [e2 _ (by omega), h (i + 1) (i + 1 + t) (by omega) (by omega) (by omega) (by omega), h (i + 1 + t + 1) j (by omega) (by omega) (by omega) (by omega)]
  · congr 1
    · refine sm_congr fun t ht => ?_
      rw [h (i + 1) (i + 1 + t) (by omega) (by omega) (by omega) (by omega), h (i + 1 + t) j (by omega) (by omega) (by omega) (by omega)]
    · refine sm_congr fun t ht => ?_
      rw [e4 _ (by omega), h i (i + t) (by omega) (by omega) (by omega) (by omega), h (i + t + 1) j (by omega) (by omega) (by omega) (by omega)]
def mcF (l : List Nat) (W : Wd) : Nat → Nat → Nat → MC
  | 0, _, _ => mOne
  | n + 1, i, j => if j ≤ i then mOne else stM l W (mcF l W n) i j
theorem mcF_eq (l l' : List Nat) (W : Wd) : ∀ (n m i j : Nat), j - i ≤ n → j - i ≤ m → (∀ k, k < j → l[k]? = l'[k]?) → mcF l W n i j = mcF l' W m i j
  | 0, 0, i, j, _, _, _ => rfl
  | 0, m + 1, i, j, h1, h2, _ => by rw [mcF, mcF, if_pos (by omega)]
  | n + 1, 0, i, j, h1, h2, _ => by rw [mcF, mcF, if_pos (by omega)]
  | n + 1, m + 1, i, j, h1, h2, hl => by
    rw [mcF, mcF]
    by_cases h : j ≤ i
    · rw [if_pos h, if_pos h]
    · rw [if_neg h, if_neg h]
      exact stM_congr (by omega) hl fun a b g1 g2 g3 g4 => mcF_eq l l' W n m a b (by omega) (by omega) fun k hk => hl k (by omega)
def mcN (l : List Nat) (W : Wd) (i j : Nat) : MC := mcF l W (j - i) i j
theorem mcN_self (l : List Nat) (W : Wd) (i : Nat) : mcN l W i i = mOne := by unfold mcN; rw [Nat.sub_self]; rfl
theorem mcN_step {l : List Nat} {W : Wd} {i j : Nat} (h : i < j) : mcN l W i j = stM l W (mcN l W) i j := by
  have e : mcN l W i j = mcF l W (j - i - 1 + 1) i j := mcF_eq l l W _ _ i j (Nat.le_refl _) (by omega) fun _ _ => rfl
  rw [e, mcF, if_neg (by omega)]
  exact stM_congr h (fun _ _ => rfl) fun a b g1 g2 g3 g4 => mcF_eq l l W _ _ a b (by omega) (Nat.le_refl _) fun _ _ => rfl
theorem mcN_text {l l' : List Nat} {W : Wd} {i j : Nat} (hl : ∀ k, k < j → l[k]? = l'[k]?) : mcN l W i j = mcN l' W i j := mcF_eq l l' W _ _ i j (Nat.le_refl _) (Nat.le_refl _) hl
/-! by the last sign -/
/-! there is always one, where striking is a word -/
/-! sums of lists -/
def totL (xs : List (Nat × Nat)) : MC := xs.foldl (fun a x => mAdd a (some x)) none
theorem totL_snoc (xs : List (Nat × Nat)) (x : Nat × Nat) : totL (xs ++ [x]) = mAdd (totL xs) (some x) := by
  unfold totL
  rw [List.foldl_append]
  rfl
theorem totL_app : ∀ (ys xs : List (Nat × Nat)), totL (xs ++ ys) = mAdd (totL xs) (totL ys)
  | [], xs => by rw [List.append_nil]; exact (mAdd_none _).symm
  | y :: ys, xs => by
    have e1 := totL_app ys (xs ++ [y])
    have e2 := totL_app ys [y]
    rw [show xs ++ y :: ys = xs ++ [y] ++ ys by simp, e1, totL_snoc, mAdd_assoc, show y :: ys = [y] ++ ys from rfl, e2]
    rfl
theorem totL_opt (xs : List (Nat × Nat)) (y : MC) : totL (xs ++ y.toList) = mAdd (totL xs) y := by
  cases y with
  | none => rw [Option.toList_none, List.append_nil, mAdd_none]
  | some p => exact totL_snoc xs p
end Ly

set_option maxHeartbeats 4000000
namespace Ly
open PySem PySem.Spec PyProof.Rows L2 SX
/-! ### how great the counts can be -/
def cnt : MC → Nat
  | none => 0
  | some p => p.2
theorem cnt_add (x y : MC) : cnt (mAdd x y) ≤ cnt x + cnt y := by
  cases x with
  | none => exact Nat.le_add_left _ _
  | some p =>
    cases y with
    | none => exact Nat.le_add_right _ _
    | some q =>
      unfold mAdd
      dsimp only
      split
      · exact Nat.le_add_right _ _
      · split
        · exact Nat.le_add_left _ _
        · exact Nat.le_refl _
theorem cnt_mul (x y : MC) : cnt (mMul x y) = cnt x * cnt y := by
  cases x with
  | none => exact (Nat.zero_mul _).symm
  | some p =>
    cases y with
    | none => exact (Nat.mul_zero _).symm
    | some q => rfl
theorem cnt_sm {f : Nat → MC} {b : Nat} : ∀ n, (∀ k, k < n → cnt (f k) ≤ b) → cnt (sm f n) ≤ n * b
  | 0, _ => by rw [sm]; exact Nat.zero_le _
  | n + 1, h => by
    have h1 := cnt_sm n fun k hk => h k (by omega)
    have h2 := h n (by omega)
    have h3 := cnt_add (sm f n) (f n)
    rw [sm, Nat.succ_mul]
    omega
theorem cnt_few (c d : Nat) : (few c d).2 ≤ 4 := by
  unfold few
  split
  · split <;> decide
  · split <;> decide
theorem cnt_pr (l : List Nat) (W : Wd) (i m : Nat) : cnt (prM l W i m) ≤ 4 := by
  unfold prM
  split
  · split
    · exact cnt_few _ _
    · exact Nat.zero_le _
  · exact Nat.zero_le _
theorem cnt_op (l : List Nat) (W : Wd) (i : Nat) : cnt (opM l W i) ≤ 4 := by
  unfold opM
  split
  · split
    · show 1 ≤ 4; decide
    · exact Nat.zero_le _
  · exact Nat.zero_le _
theorem cnt_cl (l : List Nat) (W : Wd) (i : Nat) : cnt (clM l W i) ≤ 4 := by
  unfold clM
  split
  · split
    · show 1 ≤ 4; decide
    · exact Nat.zero_le _
  · exact Nat.zero_le _
theorem cnt_sg (l : List Nat) (W : Wd) (i : Nat) : cnt (sgM l W i) ≤ 4 := by
  unfold sgM
  split
  · split
    · split
      · show 1 ≤ 4; decide
      · exact Nat.zero_le _
    · show 1 ≤ 4; decide
  · exact Nat.zero_le _
theorem cnt_m3 {x y z : MC} {n a b : Nat} (hx : cnt x ≤ 4) (hy : cnt y ≤ 2 ^ a) (hz : cnt z ≤ 2 ^ b) (h : a + b ≤ n) : cnt (m3 x y z) ≤ 2 ^ (n + 2) := by
  unfold m3
  rw [cnt_mul, cnt_mul]
  refine Nat.le_trans (Nat.mul_le_mul (Nat.mul_le_mul hx hy) hz) ?_
  rw [show (4 : Nat) = 2 ^ 2 from rfl, ← Nat.pow_add, ← Nat.pow_add]
  exact Nat.pow_le_pow_right (by decide) (by omega)
theorem mcN_cnt {l : List Nat} {W : Wd} : ∀ (n i : Nat), n ≤ 1000 → cnt (mcN l W i (i + n)) ≤ 2 ^ (16 * n) := by
  intro n
  induction n using Nat.strongRecOn with
  | ind n ih =>
    intro i hn
    cases n with
    | zero => rw [Nat.add_zero, mcN_self]; show 1 ≤ 2 ^ 0; decide
    | succ n =>
      have ih' : ∀ a b, a ≤ b → b - a ≤ n → cnt (mcN l W a b) ≤ 2 ^ (16 * (b - a)) := fun a b h1 h2 => by
        have := ih (b - a) (by omega) a (by omega)
        rw [show a + (b - a) = b by omega] at this
        exact this
      rw [mcN_step (by omega)]
      unfold stM
      have k1 : cnt (mMul (sgM l W i) (mcN l W (i + 1) (i + (n + 1)))) ≤ 2 ^ (16 * n + 2) := by
        rw [cnt_mul]
        refine Nat.le_trans (Nat.mul_le_mul (cnt_sg l W i) (ih' _ _ (by omega) (by omega))) ?_
        rw [show (4 : Nat) = 2 ^ 2 from rfl, ← Nat.pow_add]
        exact Nat.pow_le_pow_right (by decide) (by omega)
      have k2 := cnt_sm (f := fun t => m3 (prM l W i (i + 1 + t)) (mcN l W (i + 1) (i + 1 + t)) (mcN l W (i + 1 + t + 1) (i + (n + 1)))) (b := 2 ^ (16 * n + 2)) (i + (n + 1) - i - 1) fun k hk => cnt_m3 (cnt_pr _ _ _ _) (ih' _ _ (by omega) (by omega)) (ih' _ _ (by omega) (by omega)) (by omega)
      have k3 := cnt_sm (f := fun t => m3 (opM l W i) (mcN l W (i + 1) (i + 1 + t)) (mcN l W (i + 1 + t) (i + (n + 1)))) (b := 2 ^ (16 * n + 2)) (i + (n + 1) - i) fun k hk => cnt_m3 (cnt_op _ _ _) (ih' _ _ (by omega) (by omega)) (ih' _ _ (by omega) (by omega)) (by omega)
      have k4 := cnt_sm (f := fun t => m3 (clM l W (i + t)) (mcN l W i (i + t)) (mcN l W (i + t + 1) (i + (n + 1)))) (b := 2 ^ (16 * n + 2)) (i + (n + 1) - i) fun k hk => cnt_m3 (cnt_cl _ _ _) (ih' _ _ (by omega) (by omega)) (ih' _ _ (by omega) (by omega)) (by omega)
      have a1 := cnt_add (mMul (sgM l W i) (mcN l W (i + 1) (i + (n + 1)))) (mAdd (sm (fun t => m3 (prM l W i (i + 1 + t)) (mcN l W (i + 1) (i + 1 + t)) (mcN l W (i + 1 + t + 1) (i + (n + 1)))) (i + (n + 1) - i - 1))
        (mAdd (sm (fun t => m3 (opM l W i) (mcN l W (i + 1) (i + 1 + t)) (mcN l W (i + 1 + t) (i + (n + 1)))) (i + (n + 1) - i)) (sm (fun t => m3 (clM l W (i + t)) (mcN l W i (i + t)) (mcN l W (i + t + 1) (i + (n + 1)))) (i + (n + 1) - i))))
      have a2 := cnt_add (sm (fun t => m3 (prM l W i (i + 1 + t)) (mcN l W (i + 1) (i + 1 + t)) (mcN l W (i + 1 + t + 1) (i + (n + 1)))) (i + (n + 1) - i - 1))
        (mAdd (sm (fun t => m3 (opM l W i) (mcN l W (i + 1) (i + 1 + t)) (mcN l W (i + 1 + t) (i + (n + 1)))) (i + (n + 1) - i)) (sm (fun t => m3 (clM l W (i + t)) (mcN l W i (i + t)) (mcN l W (i + t + 1) (i + (n + 1)))) (i + (n + 1) - i)))
      have a3 := cnt_add (sm (fun t => m3 (opM l W i) (mcN l W (i + 1) (i + 1 + t)) (mcN l W (i + 1 + t) (i + (n + 1)))) (i + (n + 1) - i)) (sm (fun t => m3 (clM l W (i + t)) (mcN l W i (i + t)) (mcN l W (i + t + 1) (i + (n + 1)))) (i + (n + 1) - i))
      have e : (2 : Nat) ^ (16 * (n + 1)) = 16384 * 2 ^ (16 * n + 2) := by
        rw [show (16384 : Nat) = 2 ^ 14 from rfl, ← Nat.pow_add]
        congr 1
        omega
      rw [e]
      generalize (2 : Nat) ^ (16 * n + 2) = B at k1 k2 k3 k4 ⊢
      have q2 : (i + (n + 1) - i - 1) * B ≤ 1000 * B := Nat.mul_le_mul_right _ (by omega)
      have q3 : (i + (n + 1) - i) * B ≤ 1000 * B := Nat.mul_le_mul_right _ (by omega)
      omega
theorem mcN_big {l : List Nat} {W : Wd} {i j : Nat} (h : i ≤ j) (h2 : j - i ≤ 1000) : cnt (mcN l W i j) < 2 ^ 16001 := by
  have := mcN_cnt (l := l) (W := W) (j - i) i h2
  rw [show i + (j - i) = j by omega] at this
  exact Nat.lt_of_le_of_lt this (Nat.pow_lt_pow_right (by decide) (by omega))
/-! ### values -/
def cV : MC → V
  | none => .non
  | some p => .int p.1
def nV : MC → V
  | none => .int 0
  | some p => .int p.2
theorem nV_cnt (x : MC) : nV x = .int (cnt x) := by cases x <;> rfl
def colV (g : MC → V) (F : Nat → Nat → MC) (j n : Nat) : List V := (List.range n).map fun i => g (F i j)
theorem colV_at {g : MC → V} {F : Nat → Nat → MC} {j n i : Nat} (h : i < n) : (colV g F j n)[i]? = some (g (F i j)) := by
  unfold colV
  rw [List.getElem?_map, List.getElem?_range h]
  rfl
theorem colV_congr {g : MC → V} {F F' : Nat → Nat → MC} {j n : Nat} (h : ∀ i, i < n → F i j = F' i j) : colV g F j n = colV g F' j n := by
  unfold colV
  exact List.map_congr_left fun i hi => by rw [h i (List.mem_range.mp hi)]
/-! ### lists of pairs of whole numbers -/
def Prs (H : Hp) (a : Addr) (xs : List (Nat × Nat)) : Prop := ∃ rs : List Addr, H a = some (.lst (rs.map V.ref)) ∧ rs.length = xs.length ∧ ∀ (k : Nat) (r : Addr) (x : Nat × Nat), rs[k]? = some r → xs[k]? = some x → H r = some (.tup [.int x.1, .int x.2])
theorem Prs.same {H H' : Hp} {a : Addr} {xs : List (Nat × Nat)} (h : Prs H a xs) (s : Same H H') : Prs H' a xs := by
  obtain ⟨rs, h1, h2, h3⟩ := h
  exact ⟨rs, s _ _ h1, h2, fun k r x q1 q2 => s _ _ (h3 k r x q1 q2)⟩
theorem Prs.lst {H : Hp} {a : Addr} {xs : List (Nat × Nat)} (h : Prs H a xs) : ∃ ys, H a = some (.lst ys) ∧ ys.length = xs.length := by
  obtain ⟨rs, h1, h2, h3⟩ := h
  exact ⟨_, h1, by rw [List.length_map]; exact h2⟩
theorem Prs.but {H H' : Hp} {a p : Addr} {xs : List (Nat × Nat)} {ys : List V} (h : Prs H a xs) (s : But p H H') (hp : H p = some (.lst ys)) (hn : a ≠ p) : Prs H' a xs := by
  obtain ⟨rs, h1, h2, h3⟩ := h
  refine ⟨rs, s _ _ hn h1, h2, fun k r x q1 q2 => s _ _ (fun e => ?_) (h3 k r x q1 q2)⟩
  have := h3 k r x q1 q2
  rw [e, hp] at this
  cases this
theorem Prs.snoc {H H' : Hp} {a t : Addr} {xs : List (Nat × Nat)} {x : Nat × Nat} (h : Prs H a xs) (ht : H t = some (.tup [.int x.1, .int x.2])) (s : But a H H') (h2 : ∀ rs : List Addr, H a = some (.lst (rs.map V.ref)) → H' a = some (.lst (rs.map V.ref ++ [.ref t]))) : Prs H' a (xs ++ [x]) := by
  obtain ⟨rs, h1, hl, h3⟩ := h
  have ne : ∀ r ys, H r = some (.tup ys) → r ≠ a := fun r ys e q => by rw [q, h1] at e; cases e
  refine ⟨rs ++ [t], by rw [h2 rs h1, List.map_append]; rfl, by simp [hl], fun k r y q1 q2 => ?_⟩
  by_cases e : k < rs.length
  · rw [List.getElem?_append_left e] at q1
    rw [List.getElem?_append_left (by omega)] at q2
    have := h3 k r y q1 q2
    exact s _ _ (ne _ _ this) this
  · have hk : k = rs.length := by
      have := (List.getElem?_eq_some_iff.mp q1).1
      simp at this
      omega
    rw [List.getElem?_append_right (by omega), hk, Nat.sub_self] at q1
    rw [List.getElem?_append_right (by omega), hk, hl, Nat.sub_self] at q2
    have e1 : t = r := Option.some.inj q1
    have e2 : x = y := Option.some.inj q2
    subst e1 e2
    exact s _ _ (ne _ _ ht) ht
/-! ### tuples that stay -/
theorem SqT.same {K : PySem.W.Frag} {H H' : Hp} {a : Addr} {xs : List V} (s : Same H H') (h : SqT K H a xs) : SqT K H' a xs := by
  rcases h with (h | ⟨o, h⟩) | h
  · exact .inl (.inl (s _ _ h))
  · exact .inl (.inr ⟨o, s _ _ h⟩)
  · exact .inr h
theorem SqT.but {K : PySem.W.Frag} {H H' : Hp} {a p : Addr} {xs : List V} {u : HO} (s : But p H H') (h : SqT K H a xs) (hp : H p = some u) (hu : (∀ ys, u ≠ .tup ys) ∧ ∀ o ys, u ≠ .frz o (.tup ys)) : SqT K H' a xs := by
  rcases h with (h | ⟨o, h⟩) | h
  · exact .inl (.inl (s _ _ (fun e => by rw [e, hp] at h; exact hu.1 _ (Option.some.inj h)) h))
  · exact .inl (.inr ⟨o, s _ _ (fun e => by rw [e, hp] at h; exact hu.2 _ _ (Option.some.inj h)) h⟩)
  · exact .inr h
/-- the words: a tuple of texts -/
def WdIs (K : PySem.W.Frag) (H : Hp) (v : V) (W : Wd) : Prop := ∃ a xs, v = .ref a ∧ SqT K H a xs ∧ xs.all flatV = true ∧ inV (Tx [112, 117, 116]) xs = W.pt ∧ inV (Tx [115, 116, 114, 105, 107, 101]) xs = W.st ∧ inV (Tx [116, 117, 114, 110]) xs = W.tn
theorem WdIs.same {K : PySem.W.Frag} {H H' : Hp} {v : V} {W : Wd} (h : WdIs K H v W) (s : Same H H') : WdIs K H' v W := by
  obtain ⟨a, xs, h1, h2, h3⟩ := h
  exact ⟨a, xs, h1, SqT.same s h2, h3⟩
theorem WdIs.but {K : PySem.W.Frag} {H H' : Hp} {v : V} {W : Wd} {p : Addr} {ys : List V} (h : WdIs K H v W) (s : But p H H') (hp : H p = some (.lst ys)) : WdIs K H' v W := by
  obtain ⟨a, xs, h1, h2, h3⟩ := h
  exact ⟨a, xs, h1, SqT.but s h2 hp ⟨(fun _ e => nomatch e), (fun _ _ e => nomatch e)⟩, h3⟩
theorem WdIs.butI {K : PySem.W.Frag} {H H' : Hp} {v : V} {W : Wd} {p C dx : Addr} {fs : List (Str × V)} (h : WdIs K H v W) (s : But p H H') (hp : H p = some (.ins C dx fs)) : WdIs K H' v W := by
  obtain ⟨a, xs, h1, h2, h3⟩ := h
  exact ⟨a, xs, h1, SqT.but s h2 hp ⟨(fun _ e => nomatch e), (fun _ _ e => nomatch e)⟩, h3⟩
/-! ### the object -/
def wfl (l : List Nat) (wd : V) (cd kd : Addr) : List (Str × V) := [("signs", Tx l), ("words", wd), ("costs", .ref cd), ("counts", .ref kd)]
theorem wfl_signs (l : List Nat) (wd : V) (cd kd : Addr) : (wfl l wd cd kd).lookup ("signs" : Str) = some (Tx l) := rfl
theorem wfl_words (l : List Nat) (wd : V) (cd kd : Addr) : (wfl l wd cd kd).lookup ("words" : Str) = some wd := rfl
theorem wfl_costs (l : List Nat) (wd : V) (cd kd : Addr) : (wfl l wd cd kd).lookup ("costs" : Str) = some (.ref cd) := rfl
theorem wfl_counts (l : List Nat) (wd : V) (cd kd : Addr) : (wfl l wd cd kd).lookup ("counts" : Str) = some (.ref kd) := rfl
theorem wfl_put (l l' : List Nat) (wd : V) (cd kd : Addr) : putF "signs" (Tx l') (wfl l wd cd kd) = wfl l' wd cd kd := rfl
end Ly

set_option maxHeartbeats 4000000
namespace Ly
/-! ### alike opening brackets: Catalan's numbers -/
section
variable {m c : Nat} (hc : c ∈ OPN)
include hc
end
end Ly

set_option maxHeartbeats 4000000
namespace Ly
open PySem PySem.Spec PyProof.Rows L2 SX
section
variable {X : Cx} {k j : Nat} {C : Addr} {x m : Str} {sp : Sp} {p pos : Pos}
end
end Ly

set_option maxHeartbeats 4000000
namespace Ly
/-! ### the least number with how many is the least number -/
def lo (x : MC) (n : Nat) : Prop := ∀ y, x = some y → n ≤ y.1
def hi (x : MC) (n : Nat) : Prop := ∃ y, x = some y ∧ y.1 ≤ n
theorem few_tns : ∀ c ∈ BRK, ∀ d ∈ BRK, (few c d).1 = tns c d := by decide
end Ly

set_option maxHeartbeats 4000000
namespace Ly
open PySem PySem.Spec PyProof.Rows L2 SX
/-! ### data in heaps -/
section
variable {K : PySem.W.Frag} {H : Hp} {Q : VK} {x y : V} {d e : PyData}
theorem g_neDp (h1 : Dp K H x d) (h2 : Dp K H y d) (hs : SeqAt.shaped d = true) (q : Q (.bl false) H) : rNeD K x y H Q := by
  refine ⟨d, d, h1, h2, hs, hs, ?_⟩
  rw [SeqAt.eqv_refl d (by unfold SeqAt.shaped at hs; rw [Bool.and_eq_true] at hs; exact hs.1)]
  exact q
theorem g_eqDp (h1 : Dp K H x d) (h2 : Dp K H y d) (hs : SeqAt.shaped d = true) (q : Q (.bl true) H) : rEqD K x y H Q := by
  refine ⟨d, d, h1, h2, hs, hs, ?_⟩
  rw [SeqAt.eqv_refl d (by unfold SeqAt.shaped at hs; rw [Bool.and_eq_true] at hs; exact hs.1)]
  exact q
end
end Ly

set_option maxHeartbeats 4000000
namespace Ly
open PySem PySem.Spec PyProof.Rows L2 SX
/-! ### deeds -/
inductive Dw where
  | put (c : Nat)
  | str
  | trn (c : Nat)
  deriving DecidableEq
abbrev Deed := Nat × Dw
def Dw.w : Dw → List Nat
  | .put _ => [112, 117, 116]
  | .str => [115, 116, 114, 105, 107, 101]
  | .trn _ => [116, 117, 114, 110]
def Dw.s : Dw → List Nat
  | .put c => [c]
  | .str => []
  | .trn c => [c]
def Dw.isPut : Dw → Bool
  | .put _ => true
  | _ => false
def ddV (d : Deed) : List V := [.int (d.1 : Nat), Tx d.2.w, Tx d.2.s]
def putc (p : Nat) (d : Deed) : List Nat := if d.1 = p then (match d.2 with | .put c => [c] | _ => []) else []
def puts (ds : List Deed) (p : Nat) : List Nat := (ds.map (putc p)).flatten
def othD : List Deed → Nat → Option Dw
  | [], _ => none
  | d :: r, p => match othD r p with
    | some w => some w
    | none => if d.1 = p ∧ d.2.isPut = false then some d.2 else none
def mid (o : Option Dw) (x : List Nat) : List Nat := match o with
  | none => x
  | some w => w.s
def piece (l : List Nat) (ds : List Deed) (p : Nat) : List Nat := puts ds p ++ mid (othD ds p) ((l.drop p).take 1)
def low (q : Nat) (ds : List Deed) : Prop := ∀ d ∈ ds, q ≤ d.1
def app (d : Deed) (s : List Nat) : List Nat := match d.2 with
  | .put c => s.take d.1 ++ [c] ++ s.drop d.1
  | .str => s.eraseIdx d.1
  | .trn c => s.set d.1 c
def behind (l : List Nat) (ds : List Deed) : List Nat := ds.foldr app l
/-! ### lists of deeds in heaps -/
structure Dds (H : Hp) (a : Addr) (rs : List Addr) (ds : List Deed) : Prop where
  hd : H a = some (.lst (rs.map V.ref))
  len : rs.length = ds.length
  it : ∀ (k : Nat) (r : Addr) (d : Deed), rs[k]? = some r → ds[k]? = some d → H r = some (.tup (ddV d))
theorem Dds.same {H H' : Hp} {a : Addr} {rs : List Addr} {ds : List Deed} (h : Dds H a rs ds) (s : Same H H') : Dds H' a rs ds := ⟨s _ _ h.hd, h.len, fun k r d h1 h2 => s _ _ (h.it k r d h1 h2)⟩
theorem Dds.but {H H' : Hp} {a p : Addr} {rs : List Addr} {ds : List Deed} {ys : List V} (h : Dds H a rs ds) (s : But p H H') (hp : H p = some (.lst ys)) (hn : a ≠ p) : Dds H' a rs ds := by
  refine ⟨s _ _ hn h.hd, h.len, fun k r d h1 h2 => ?_⟩
  have := h.it k r d h1 h2
  exact s _ _ (fun e => by rw [e, hp] at this; cases this) this
theorem Dds.row {H : Hp} {a : Addr} {rs : List Addr} {ds : List Deed} (h : Dds H a rs ds) {k : Nat} (hk : k < ds.length) : ∃ r d, rs[k]? = some r ∧ ds[k]? = some d ∧ (rs.map V.ref)[k]? = some (V.ref r) ∧ H r = some (.tup (ddV d)) := by
  have e1 : rs[k]? = some (rs[k]'(by rw [h.len]; exact hk)) := List.getElem?_eq_getElem (by rw [h.len]; exact hk)
  have e2 : ds[k]? = some ds[k] := List.getElem?_eq_getElem hk
  exact ⟨_, _, e1, e2, by rw [List.getElem?_map, e1]; rfl, h.it k _ _ e1 e2⟩
theorem Dds.snoc {H H' : Hp} {a t : Addr} {rs : List Addr} {ds : List Deed} {d : Deed} (h : Dds H a rs ds) (ht : H t = some (.tup (ddV d))) (s : But a H H') (e : H' a = some (.lst (rs.map V.ref ++ [.ref t]))) : Dds H' a (rs ++ [t]) (ds ++ [d]) := by
  have ne : ∀ r ys, H r = some (.tup ys) → r ≠ a := fun r ys e q => by rw [q, h.hd] at e; cases e
  refine ⟨by rw [e, List.map_append]; rfl, by simp [h.len], fun k r y q1 q2 => ?_⟩
  by_cases hk : k < rs.length
  · rw [List.getElem?_append_left hk] at q1
    rw [List.getElem?_append_left (by rw [← h.len]; exact hk)] at q2
    have := h.it k r y q1 q2
    exact s _ _ (ne _ _ this) this
  · have hk : k = rs.length := by
      have := (List.getElem?_eq_some_iff.mp q1).1
      simp at this
      omega
    rw [List.getElem?_append_right (by omega), hk, Nat.sub_self] at q1
    rw [List.getElem?_append_right (by rw [← h.len]; omega), hk, h.len, Nat.sub_self] at q2
    have e1 : t = r := Option.some.inj q1
    have e2 : d = y := Option.some.inj q2
    subst e1 e2
    exact s _ _ (ne _ _ ht) ht
/-! ### one sign of a text by a slice -/
section
variable {K : PySem.W.Frag} {σ : L2.St} {H : Hp} {g : TG} {tb : TS} {D : Ends} {a b : Addr} {xs ys : List V}
end
end Ly

set_option maxHeartbeats 4000000
namespace Ly
/-! ### deeds as rows of steps -/
inductive Stp where
  | kp (c : Nat)
  | st (c : Nat)
  | tn (c d : Nat)
  | pt (d : Nat)
  deriving DecidableEq
def Stp.i : Stp → List Nat
  | .kp c => [c]
  | .st c => [c]
  | .tn c _ => [c]
  | .pt _ => []
def Stp.o : Stp → List Nat
  | .kp c => [c]
  | .st _ => []
  | .tn _ d => [d]
  | .pt d => [d]
def Stp.ok : Stp → Prop
  | .kp _ => True
  | .st c => c ∈ BRK
  | .tn c d => c ∈ BRK ∧ d ∈ BRK ∧ d ≠ c
  | .pt d => d ∈ BRK
def inS (α : List Stp) : List Nat := (α.map Stp.i).flatten
def outS (α : List Stp) : List Nat := (α.map Stp.o).flatten
def okS (α : List Stp) : Prop := ∀ s ∈ α, s.ok
theorem inS_cons (s : Stp) (α : List Stp) : inS (s :: α) = s.i ++ inS α := rfl
theorem outS_cons (s : Stp) (α : List Stp) : outS (s :: α) = s.o ++ outS α := rfl
/-! the row of steps of deeds -/
/-! ### deeds that lead back -/
/-! ### rows of old and new signs -/
abbrev Rw := Option Nat × List Nat
section
open PySem PySem.Spec PyProof.Rows L2 SX
variable {X : Cx} {tg : Expr}
end
end Ly

set_option maxHeartbeats 4000000
namespace Ly
open PySem PySem.Spec PyProof.Rows L2 SX
/-! ### exceptions that are caught and kept -/
section
variable {X : Cx} {pins : List (Addr × Obj)} {σ : L2.St} {H : Hp} {s : Shared}
end
section
variable {X : Cx} {x n : Str} {c : Value} {i : Nat} {body suite : List Stmt} {b₀ : Stmt} {np pos pos' : Pos} {tb : WX → TS} {ts : Addr → Value → Option Addr → TS} {Wout : WX}
end
/-! isinstance of a kept exception -/
section
variable {X : Cx}
end
/-! defs that raise -/
section
variable {P : Program} {w : World} {K : PySem.W.Frag} {mg : Str → Option Value} {base : Heap}
end
def tOwnX (sp : Sp) (W : WX) (t : TA) : TE := fun σ H Q => t σ H fun vs H1 => sp vs H1 Q (fun cls d H2 => W cls d σ H2)
def tMetX (C : Addr) (m : Str) (sp : Sp) (W : WX) (ta : TE) (t : TA) : TE := fun σ H Q => ta σ H fun x H1 => rMetO C m x H1 (t σ H1 fun vs H2 => sp (x :: vs) H2 Q (fun cls d H2 => W cls d σ H2))
section
variable {X : Cx} {k j : Nat} {C : Addr} {x m : Str} {sp : Sp} {p pos apos : Pos} {e o : Expr} {es : List Expr} {ta : TE} {t : TA} {W : WX}
end
/-! what is known of an error's class -/
/-! readings -/
section
variable {K : PySem.W.Frag} {H : Hp} {Q : VK} {a D : Addr}
end
end Ly

set_option maxHeartbeats 4000000
namespace Ly
open PySem PySem.Spec PyProof.Rows L2 SX
/-! ### promises that stand where nothing is being shown: repr -/
section
variable {P : Program} {w : World} {K : PySem.W.Frag} {mg : Str → Option Value} {base : Heap}
end
/-! ### the law's call -/
section
variable {P : Program} {w : World} {K : PySem.W.Frag} {mg mb : Str → Option Value} {k : Nat} {fa a : Addr} {fd : FuncData} {x : Str} {sp : Sp} {s₁ : Shared} {vs : List Value} {ns : List Int}
end
/-! ### repr of data -/
section
variable {X : Cx}
end
/-! lists of small numbers -/
end Ly

set_option maxHeartbeats 4000000
namespace Ly
open PySem PySem.Spec PyProof.Rows L2 SX
/-! ### paths, depths, the nests within a nest -/
/-! ways of the maker -/
section
variable {fs : List (List Nd × Nat)} {cur ds : List Nd} {c o : Nat}
end
/-! what a path leads to -/
def Rch : List Nd → List Nat → Nd → Prop
  | _, [], _ => False
  | ds, [k], d => ds[k]? = some d
  | ds, k :: j :: p, d => ∃ o es, ds[k]? = some (.br o es) ∧ Rch es (j :: p) d
theorem Rch.cons {ds es : List Nd} {k o : Nat} {p : List Nat} {d : Nd} (h : ds[k]? = some (.br o es)) (r : Rch es p d) : Rch ds (k :: p) d := by
  cases p with
  | nil => exact r.elim
  | cons j p => exact ⟨o, es, h, r⟩
/-! the text within -/
/-! an opening sign of a nest's text opens the nest that stands there in the row of nests within -/
end Ly

set_option maxHeartbeats 4000000
namespace Ly
open PySem PySem.Spec PyProof.Rows L2 SX
/-! ### len(set) of tuples of ints -/
/-! ### nests side by side -/
/-! paths: all different, each behind the one it goes on from -/
/-! outlines side by side, within -/
end Ly

set_option maxHeartbeats 4000000
namespace Ly
/-! ### all rows of steps with so many deeds, counted -/
def Stp.wd (W : Wd) : Stp → Prop
  | .kp _ => True
  | .st _ => W.st = true
  | .tn _ _ => W.tn = true
  | .pt _ => W.pt = true
def cstS : List Stp → Nat
  | [] => 0
  | .kp _ :: α => cstS α
  | .st _ :: α => cstS α + 1
  | .tn _ _ :: α => cstS α + 1
  | .pt _ :: α => cstS α + 1
/-- all rows of steps by words, from a pile of awaited ones, over a text, with so many deeds, in order -/
def rowsL (W : Wd) (st r : List Nat) (n : Nat) : List (List Stp) :=
  (match n with
   | 0 => []
   | n + 1 => if W.pt = true then BRK.flatMap fun c => (match stp (some st) c with | none => [] | some s => rowsL W s r n).map (Stp.pt c :: ·) else [])
  ++ (match r with
   | [] => if st = [] ∧ n = 0 then [[]] else []
   | x :: r => if x ∈ BRK then
        (match n with
         | 0 => []
         | n + 1 => (if W.st = true then (rowsL W st r n).map (Stp.st x :: ·) else []) ++ (if W.tn = true then (BRK.filter (· ≠ x)).flatMap fun c => (match stp (some st) c with | none => [] | some s => rowsL W s r n).map (Stp.tn x c :: ·) else []))
        ++ (match stp (some st) x with | none => [] | some s => rowsL W s r n).map (Stp.kp x :: ·)
      else (rowsL W st r n).map (Stp.kp x :: ·))
termination_by n + r.length
/-! series -/
abbrev Ser := Nat → Nat
def sh (f : Ser) : Ser := fun n => match n with | 0 => 0 | n + 1 => f n
def gat (b : Bool) (f : Ser) : Ser := fun n => if b = true then f n else 0
def oA (f : List Nat → Ser) (o : Option (List Nat)) : Ser := fun n => match o with | none => 0 | some s => f s n
def bS (cs : List Nat) (f : Nat → Ser) : Ser := fun n => (cs.map fun c => f c n).sum
def An (W : Wd) (st r : List Nat) : Ser := fun n => (rowsL W st r n).length
def pA (W : Wd) (st r : List Nat) : Ser := sh (gat W.pt (bS BRK fun c => oA (fun s => An W s r) (stp (some st) c)))
theorem len_oA {W : Wd} {r : List Nat} {n : Nat} (o : Option (List Nat)) (f : List Stp → List Stp) : ((match o with | none => [] | some s => rowsL W s r n).map f).length = oA (fun s => An W s r) o n := by
  cases o with
  | none => rfl
  | some s => rw [List.length_map]; rfl
theorem len_bS {W : Wd} {r st : List Nat} {n : Nat} (cs : List Nat) (f : Nat → List Stp → List Stp) : (cs.flatMap fun c => (match stp (some st) c with | none => [] | some s => rowsL W s r n).map (f c)).length = bS cs (fun c => oA (fun s => An W s r) (stp (some st) c)) n := by
  rw [List.length_flatMap]
  unfold bS
  congr 1
  exact List.map_congr_left fun c _ => len_oA _ _
theorem pA_len {W : Wd} {r st : List Nat} {n : Nat} : (match n with
   | 0 => []
   | n + 1 => if W.pt = true then BRK.flatMap fun c => (match stp (some st) c with | none => [] | some s => rowsL W s r n).map (Stp.pt c :: ·) else []).length = pA W st r n := by
  cases n with
  | zero => rfl
  | succ n =>
    unfold pA sh gat
    dsimp only
    by_cases h : W.pt = true
    · rw [if_pos h, if_pos h, len_bS]
    · rw [if_neg h, if_neg h]; rfl
theorem An_nil (W : Wd) (st : List Nat) (n : Nat) : An W st [] n = pA W st [] n + if st = [] ∧ n = 0 then 1 else 0 := by
  show (rowsL W st [] n).length = _
  rw [rowsL.eq_def, List.length_append, pA_len]
  dsimp only
  by_cases h : st = [] ∧ n = 0
  · rw [if_pos h, if_pos h]; rfl
  · rw [if_neg h, if_neg h]; rfl
theorem An_let {W : Wd} {x : Nat} (hx : x ∉ BRK) (st r : List Nat) (n : Nat) : An W st (x :: r) n = pA W st (x :: r) n + An W st r n := by
  show (rowsL W st (x :: r) n).length = _
  rw [rowsL.eq_def, List.length_append, pA_len]
  dsimp only
  rw [if_neg hx, List.length_map]
  rfl
def tA (W : Wd) (st : List Nat) (x : Nat) (r : List Nat) : Ser := sh fun n => gat W.st (An W st r) n + gat W.tn (bS (BRK.filter (· ≠ x)) fun c => oA (fun s => An W s r) (stp (some st) c)) n
theorem An_brk {W : Wd} {x : Nat} (hx : x ∈ BRK) (st r : List Nat) (n : Nat) : An W st (x :: r) n = pA W st (x :: r) n + (tA W st x r n + oA (fun s => An W s r) (stp (some st) x) n) := by
  show (rowsL W st (x :: r) n).length = _
  rw [rowsL.eq_def, List.length_append, pA_len]
  dsimp only
  rw [if_pos hx, List.length_append, len_oA]
  congr 2
  cases n with
  | zero => rfl
  | succ n =>
    dsimp only [tA, sh]
    rw [List.length_append]
    congr 1
    · unfold gat
      by_cases h : W.st = true
      · rw [if_pos h, if_pos h, List.length_map]; rfl
      · rw [if_neg h, if_neg h]; rfl
    · unfold gat
      by_cases h : W.tn = true
      · rw [if_pos h, if_pos h, len_bS]
      · rw [if_neg h, if_neg h]; rfl
/-! products -/
def cv : Ser → Ser → Ser
  | f, g, 0 => f 0 * g 0
  | f, g, n + 1 => f 0 * g (n + 1) + cv (fun a => f (a + 1)) g n
theorem cv_add (f f' g : Ser) : ∀ n, cv (fun a => f a + f' a) g n = cv f g n + cv f' g n := by
  intro n
  induction n generalizing f f' with
  | zero => exact Nat.add_mul _ _ _
  | succ n ih => rw [cv, cv, cv, ih, Nat.add_mul]; omega
theorem cv_addR (f g g' : Ser) : ∀ n, cv f (fun a => g a + g' a) n = cv f g n + cv f g' n := by
  intro n
  induction n generalizing f with
  | zero => exact Nat.mul_add _ _ _
  | succ n ih => rw [cv, cv, cv, ih, Nat.mul_add]; omega
theorem cv_zero (g : Ser) : ∀ n, cv (fun _ => 0) g n = 0 := by
  intro n
  induction n with
  | zero => exact Nat.zero_mul _
  | succ n ih => rw [cv, ih, Nat.zero_mul]
theorem cv_zeroR (f : Ser) : ∀ n, cv f (fun _ => 0) n = 0 := by
  intro n
  induction n generalizing f with
  | zero => exact Nat.mul_zero _
  | succ n ih => rw [cv, ih, Nat.mul_zero]
theorem cv_sh (f g : Ser) (n : Nat) : cv (sh f) g n = sh (cv f g) n := by
  cases n with
  | zero => exact Nat.zero_mul _
  | succ n => show sh f 0 * g (n + 1) + cv (fun a => f a) g n = cv f g n; rw [show sh f 0 = 0 from rfl, Nat.zero_mul, Nat.zero_add]
theorem cv_one (g : Ser) (n : Nat) : cv (fun a => if a = 0 then 1 else 0) g n = g n := by
  cases n with
  | zero => exact Nat.one_mul _
  | succ n =>
    show 1 * g (n + 1) + cv (fun a => if a + 1 = 0 then 1 else 0) g n = g (n + 1)
    rw [show (fun a : Nat => if a + 1 = 0 then 1 else 0) = fun _ => 0 from funext fun a => if_neg (by omega), cv_zero]
    omega
theorem cv_shR (f g : Ser) : ∀ n, cv f (sh g) n = sh (cv f g) n := by
  intro n
  induction n generalizing f with
  | zero => exact Nat.mul_zero _
  | succ n ih =>
    rw [cv, ih]
    cases n with
    | zero => show f 0 * g 0 + 0 = f 0 * g 0; omega
    | succ n => rfl
theorem cv_pos {f g : Ser} : ∀ {n : Nat}, cv f g n ≠ 0 ↔ ∃ a b, a + b = n ∧ f a ≠ 0 ∧ g b ≠ 0 := by
  intro n
  induction n generalizing f with
  | zero =>
    constructor
    · intro h
      exact ⟨0, 0, rfl, fun e => h (by show f 0 * g 0 = 0; rw [e, Nat.zero_mul]), fun e => h (by show f 0 * g 0 = 0; rw [e, Nat.mul_zero])⟩
    · rintro ⟨a, b, e, h1, h2⟩
      have ea : a = 0 := by omega
      have eb : b = 0 := by omega
      subst ea eb
      exact Nat.mul_ne_zero h1 h2
  | succ n ih =>
    rw [cv]
    constructor
    · intro h
      by_cases h0 : f 0 * g (n + 1) = 0
      · have h1 : cv (fun a => f (a + 1)) g n ≠ 0 := by omega
        obtain ⟨a, b, e, ha, hb⟩ := ih.mp h1
        exact ⟨a + 1, b, by omega, ha, hb⟩
      · exact ⟨0, n + 1, by omega, fun e => h0 (by rw [e, Nat.zero_mul]), fun e => h0 (by rw [e, Nat.mul_zero])⟩
    · rintro ⟨a, b, e, ha, hb⟩
      cases a with
      | zero =>
        have eb : b = n + 1 := by omega
        subst eb
        have := Nat.mul_ne_zero ha hb
        omega
      | succ a =>
        have := (ih (f := fun a => f (a + 1))).mpr ⟨a, b, by omega, ha, hb⟩
        omega
/-- over all ways to part a text in two -/
def SP (f g : List Nat → Ser) : List Nat → Ser
  | [] => cv (f []) (g [])
  | x :: r => fun n => cv (f []) (g (x :: r)) n + SP (fun u => f (x :: u)) g r n
theorem SP_congr {f f' g g' : List Nat → Ser} : ∀ {r : List Nat}, (∀ u v, u ++ v = r → f u = f' u) → (∀ u v, u ++ v = r → g v = g' v) → SP f g r = SP f' g' r
  | [], h1, h2 => by rw [SP, SP, h1 [] [] rfl, h2 [] [] rfl]
  | x :: r, h1, h2 => by
    funext n
    rw [SP, SP, h1 [] (x :: r) rfl, h2 [] (x :: r) rfl, SP_congr (f := fun u => f (x :: u)) (f' := fun u => f' (x :: u)) (fun u v e => h1 (x :: u) v (by rw [List.cons_append, e])) (fun u v e => h2 (x :: u) v (by rw [List.cons_append, e]))]
theorem SP_add (f f' g : List Nat → Ser) : ∀ (r : List Nat) (n : Nat), SP (fun u a => f u a + f' u a) g r n = SP f g r n + SP f' g r n
  | [], n => cv_add _ _ _ n
  | x :: r, n => by
    show cv (fun a => f [] a + f' [] a) _ n + SP (fun u a => f (x :: u) a + f' (x :: u) a) g r n = _
    rw [cv_add, SP_add (fun u => f (x :: u)) (fun u => f' (x :: u)) g r n, SP, SP]
    dsimp only
    omega
theorem SP_addR (f g g' : List Nat → Ser) : ∀ (r : List Nat) (n : Nat), SP f (fun v a => g v a + g' v a) r n = SP f g r n + SP f g' r n := by
  intro r
  induction r generalizing f with
  | nil => intro n; exact cv_addR _ _ _ n
  | cons x r ih =>
    intro n
    show cv _ (fun a => g (x :: r) a + g' (x :: r) a) n + SP (fun u => f (x :: u)) (fun v a => g v a + g' v a) r n = _
    rw [cv_addR, ih, SP, SP]
    dsimp only
    omega
theorem SP_zero (g : List Nat → Ser) : ∀ (r : List Nat) (n : Nat), SP (fun _ _ => 0) g r n = 0
  | [], n => cv_zero _ n
  | x :: r, n => by
    show cv (fun _ => 0) _ n + SP (fun _ _ => 0) g r n = 0
    rw [cv_zero, SP_zero g r n]
theorem SP_sh (f g : List Nat → Ser) : ∀ (r : List Nat) (n : Nat), SP (fun u => sh (f u)) g r n = sh (SP f g r) n := by
  intro r
  induction r generalizing f with
  | nil => intro n; exact cv_sh _ _ n
  | cons x r ih =>
    intro n
    show cv (sh (f [])) _ n + SP (fun u => sh (f (x :: u))) g r n = _
    rw [cv_sh, ih (fun u => f (x :: u))]
    cases n <;> rfl
theorem SP_gat (b : Bool) (f g : List Nat → Ser) (r : List Nat) (n : Nat) : SP (fun u => gat b (f u)) g r n = gat b (SP f g r) n := by
  cases b with
  | true => rfl
  | false => exact SP_zero g r n
theorem SP_bS (cs : List Nat) (f : Nat → List Nat → Ser) (g : List Nat → Ser) (r : List Nat) (n : Nat) : SP (fun u => bS cs fun c => f c u) g r n = bS cs (fun c => SP (f c) g r) n := by
  induction cs with
  | nil => exact SP_zero g r n
  | cons c cs ih =>
    have e : (fun u => bS (c :: cs) fun c => f c u) = fun u a => f c u a + bS cs (fun c => f c u) a := rfl
    rw [e, SP_add, ih]
    rfl
theorem SP_oA (f : List Nat → List Nat → Ser) (o : Option (List Nat)) (g : List Nat → Ser) (r : List Nat) (n : Nat) : SP (fun u => oA (fun s => f s u) o) g r n = oA (fun s => SP (f s) g r) o n := by
  cases o with
  | none => exact SP_zero g r n
  | some s => rfl
/-- closing what is awaited last, then the rest -/
def Cl (W : Wd) (k : Nat) (st v : List Nat) : Ser := fun n => sh (gat W.pt (An W st v)) n + match v with
  | [] => 0
  | x :: v => if x ∈ BRK then (if x = k then An W st v n else sh (gat W.tn (An W st v)) n) else 0
theorem stp_under {k : Nat} (hk : k ∈ CLO) (s st : List Nat) (c : Nat) : stp (some (s ++ k :: st)) c = match stp (some s) c with
    | some s' => some (s' ++ k :: st)
    | none => if s = [] ∧ c = k then some st else none := by
  unfold stp
  dsimp only
  by_cases h1 : c ∈ OPN
  · rw [if_pos h1, if_pos h1]; rfl
  · rw [if_neg h1, if_neg h1]
    by_cases h2 : c ∈ CLO
    · rw [if_pos h2, if_pos h2]
      cases s with
      | nil =>
        show (if k = c then some st else none) = if [] = [] ∧ c = k then some st else none
        by_cases e : k = c
        · rw [if_pos e, if_pos ⟨rfl, e.symm⟩]
        · rw [if_neg e, if_neg (fun h => e h.2.symm)]
      | cons d s =>
        show (if d = c then some (s ++ k :: st) else none) = _
        by_cases e : d = c
        · rw [if_pos e]; dsimp only; rw [if_pos e]
        · rw [if_neg e]; dsimp only; rw [if_neg e]; dsimp only; rw [if_neg (fun h => by cases h.1)]
    · rw [if_neg h2, if_neg h2]

/-- all but what is put first -/
def rA (W : Wd) (st : List Nat) : List Nat → Ser
  | [] => fun n => if st = [] ∧ n = 0 then 1 else 0
  | x :: r => fun n => if x ∈ BRK then tA W st x r n + oA (fun s => An W s r) (stp (some st) x) n else An W st r n
theorem An_eq (W : Wd) (st r : List Nat) (n : Nat) : An W st r n = pA W st r n + rA W st r n := by
  cases r with
  | nil => exact An_nil W st n
  | cons x r =>
    show _ = _ + (if x ∈ BRK then tA W st x r n + oA (fun s => An W s r) (stp (some st) x) n else An W st r n)
    by_cases h : x ∈ BRK
    · rw [if_pos h]; exact An_brk h st r n
    · rw [if_neg h]; exact An_let h st r n
theorem SP_pA (W : Wd) (s : List Nat) (g : List Nat → Ser) (r : List Nat) (n : Nat) : SP (pA W s) g r n = sh (gat W.pt (bS BRK fun c => oA (fun s' => SP (An W s') g r) (stp (some s) c))) n := by
  unfold pA
  rw [SP_sh]
  cases n with
  | zero => rfl
  | succ n =>
    show SP (fun u => gat W.pt _) g r n = gat W.pt _ n
    rw [SP_gat]
    unfold gat
    by_cases h : W.pt = true
    · rw [if_pos h, if_pos h, SP_bS BRK (fun c u => oA (fun s' => An W s' u) (stp (some s) c))]
      unfold bS
      congr 1
      exact List.map_congr_left fun c _ => SP_oA (fun s' u => An W s' u) _ g r n
    · rw [if_neg h, if_neg h]
theorem oA_under {W : Wd} {k : Nat} (hk : k ∈ CLO) {s st r : List Nat} {n c : Nat} {g : List Nat → Ser} (ih : ∀ s', An W (s' ++ k :: st) r n = SP (An W s') g r n) :
    oA (fun s => An W s r) (stp (some (s ++ k :: st)) c) n = oA (fun s' => SP (An W s') g r) (stp (some s) c) n + if s = [] ∧ c = k then An W st r n else 0 := by
  rw [stp_under hk]
  by_cases h : s = [] ∧ c = k
  · obtain ⟨rfl, rfl⟩ := h
    have e : stp (some []) c = none := by
      unfold stp
      dsimp only
      rw [if_neg (fun h => opn_clo c h hk), if_pos hk]
    rw [e]
    dsimp only
    rw [if_pos ⟨rfl, rfl⟩, if_pos ⟨rfl, rfl⟩]
    show An W st r n = 0 + An W st r n
    omega
  · rw [if_neg h, if_neg h]
    cases stp (some s) c with
    | none => rfl
    | some s' => exact ih s'
theorem bS_under {W : Wd} {k : Nat} (hk : k ∈ CLO) {s st r : List Nat} {n : Nat} {g : List Nat → Ser} (ih : ∀ s', An W (s' ++ k :: st) r n = SP (An W s') g r n) : ∀ cs : List Nat,
    bS cs (fun c => oA (fun s => An W s r) (stp (some (s ++ k :: st)) c)) n = bS cs (fun c => oA (fun s' => SP (An W s') g r) (stp (some s) c)) n + if s = [] then cs.count k * An W st r n else 0
  | [] => by unfold bS; simp
  | c :: cs => by
    have i := bS_under hk ih (s := s) cs
    have e1 : ∀ f : Nat → Ser, bS (c :: cs) f n = f c n + bS cs f n := fun f => rfl
    rw [e1, e1, i, oA_under hk ih, List.count_cons]
    by_cases h : s = []
    · rw [if_pos h, if_pos h]
      by_cases e : c = k
      · rw [if_pos ⟨h, e⟩, if_pos (by simp [e]), Nat.add_mul]; omega
      · rw [if_neg (fun q => e q.2), if_neg (by simp [e]), show List.count k cs + 0 = List.count k cs from rfl]; omega
    · rw [if_neg h, if_neg h, if_neg (fun q => h q.1)]; omega
theorem cnt_brk : ∀ k ∈ CLO, BRK.count k = 1 := by decide
theorem cnt_brkF : ∀ k ∈ CLO, ∀ x ∈ BRK, (BRK.filter (· ≠ x)).count k = if x = k then 0 else 1 := by decide
theorem first_ret {W : Wd} {k : Nat} (hk : k ∈ CLO) (st : List Nat) : ∀ (N n : Nat) (r s : List Nat), n + r.length ≤ N → An W (s ++ k :: st) r n = SP (An W s) (Cl W k st) r n := by
  intro N
  induction N with
  | zero =>
    intro n r s h
    have h1 : n = 0 := by omega
    have h2 : r = [] := List.length_eq_zero_iff.mp (by omega)
    subst h1 h2
    rw [An_nil]
    show 0 + (if s ++ k :: st = [] ∧ 0 = 0 then 1 else 0) = An W s [] 0 * (0 + 0)
    rw [if_neg (by simp)]; rfl
  | succ N ihN =>
    intro n r s h
    have eS : SP (An W s) (Cl W k st) r n = SP (pA W s) (Cl W k st) r n + SP (rA W s) (Cl W k st) r n := by
      rw [← SP_add]
      exact congrFun (SP_congr (fun u v e => funext fun a => An_eq W s u a) (fun u v e => rfl)) n
    have eP : pA W (s ++ k :: st) r n = SP (pA W s) (Cl W k st) r n + if s = [] then sh (gat W.pt (An W st r)) n else 0 := by
      rw [SP_pA]
      unfold pA
      cases n with
      | zero => show (0 : Nat) = 0 + _; split <;> rfl
      | succ n =>
        show gat W.pt _ n = gat W.pt _ n + if s = [] then gat W.pt (An W st r) n else 0
        unfold gat
        by_cases hp : W.pt = true
        · rw [if_pos hp, if_pos hp, if_pos hp, bS_under hk (g := Cl W k st) (fun s' => ihN n r s' (by omega)), cnt_brk k hk, Nat.one_mul]
        · rw [if_neg hp, if_neg hp, if_neg hp]; split <;> rfl
    have eB : ∀ r', cv (rA W s []) (Cl W k st r') n = if s = [] then Cl W k st r' n else 0 := fun r' => by
      by_cases hs : s = []
      · rw [if_pos hs]
        have : rA W s [] = fun a => if a = 0 then 1 else 0 := by
          funext a
          show (if s = [] ∧ a = 0 then 1 else 0) = _
          by_cases ha : a = 0
          · rw [if_pos ⟨hs, ha⟩, if_pos ha]
          · rw [if_neg (fun q => ha q.2), if_neg ha]
        rw [this, cv_one]
      · rw [if_neg hs]
        have : rA W s [] = fun _ => 0 := by
          funext a
          exact if_neg (fun q => hs q.1)
        rw [this, cv_zero]
    rw [eS, An_eq, eP]
    cases r with
    | nil =>
      have e0 : rA W (s ++ k :: st) [] n = 0 := if_neg (fun q => by simp at q)
      rw [e0]
      show _ = _ + cv (rA W s []) (Cl W k st []) n
      rw [eB]
      by_cases hs : s = []
      · rw [if_pos hs, if_pos hs]
        show _ = _ + (sh (gat W.pt (An W st [])) n + 0)
        omega
      · rw [if_neg hs, if_neg hs]
    | cons x r =>
      have eR : SP (rA W s) (Cl W k st) (x :: r) n = (if s = [] then Cl W k st (x :: r) n else 0) + SP (fun u => rA W s (x :: u)) (Cl W k st) r n := by
        show cv (rA W s []) (Cl W k st (x :: r)) n + _ = _
        rw [eB]
      rw [eR]
      have hl : n + r.length ≤ N := by rw [List.length_cons] at h; omega
      by_cases hx : x ∈ BRK
      · have e1 : rA W (s ++ k :: st) (x :: r) n = tA W (s ++ k :: st) x r n + oA (fun s => An W s r) (stp (some (s ++ k :: st)) x) n := if_pos hx
        have e2 : SP (fun u => rA W s (x :: u)) (Cl W k st) r n = SP (tA W s x) (Cl W k st) r n + oA (fun s' => SP (An W s') (Cl W k st) r) (stp (some s) x) n := by
          rw [← SP_oA (fun s' u => An W s' u), ← SP_add]
          exact congrFun (SP_congr (fun u v e => funext fun a => if_pos hx) (fun u v e => rfl)) n
        have e3 : tA W (s ++ k :: st) x r n = SP (tA W s x) (Cl W k st) r n + if s = [] ∧ x ≠ k then sh (gat W.tn (An W st r)) n else 0 := by
          unfold tA
          rw [SP_sh]
          cases n with
          | zero => show (0 : Nat) = 0 + _; split <;> rfl
          | succ n =>
            show gat W.st _ n + gat W.tn _ n = SP _ _ r n + if s = [] ∧ x ≠ k then gat W.tn (An W st r) n else 0
            rw [SP_add, SP_gat, SP_gat]
            have hi : ∀ s', An W (s' ++ k :: st) r n = SP (An W s') (Cl W k st) r n := fun s' => ihN n r s' (by omega)
            have a1 : gat W.st (An W (s ++ k :: st) r) n = gat W.st (SP (An W s) (Cl W k st) r) n := by unfold gat; rw [hi s]
            rw [a1]
            have a2 : gat W.tn (bS (BRK.filter (· ≠ x)) fun c => oA (fun s => An W s r) (stp (some (s ++ k :: st)) c)) n = gat W.tn (SP (fun u => bS (BRK.filter (· ≠ x)) fun c => oA (fun s => An W s u) (stp (some s) c)) (Cl W k st) r) n + if s = [] ∧ x ≠ k then gat W.tn (An W st r) n else 0 := by
              unfold gat
              by_cases ht : W.tn = true
              · rw [if_pos ht, if_pos ht, if_pos ht, bS_under hk hi, SP_bS _ (fun c u => oA (fun s => An W s u) (stp (some s) c)), cnt_brkF k hk x hx]
                congr 1
                · unfold bS
                  congr 1
                  exact List.map_congr_left fun c _ => (SP_oA (fun s' u => An W s' u) _ _ r n).symm
                · by_cases hs : s = []
                  · rw [if_pos hs]
                    by_cases hxk : x = k
                    · rw [if_pos hxk, if_neg (fun q => q.2 hxk), Nat.zero_mul]
                    · rw [if_neg hxk, if_pos ⟨hs, hxk⟩, Nat.one_mul]
                  · rw [if_neg hs, if_neg (fun q => hs q.1)]
              · rw [if_neg ht, if_neg ht, if_neg ht]; split <;> rfl
            rw [a2]
            omega
        rw [e1, e2, e3, oA_under hk (g := Cl W k st) (fun s' => ihN n r s' hl)]
        by_cases hs : s = []
        · rw [if_pos hs, if_pos hs]
          have e4 : Cl W k st (x :: r) n = sh (gat W.pt (An W st (x :: r))) n + if x = k then An W st r n else sh (gat W.tn (An W st r)) n := by
            unfold Cl
            dsimp only
            rw [if_pos hx]
          rw [e4]
          by_cases hxk : x = k
          · rw [if_neg (fun q => q.2 hxk), if_pos ⟨hs, hxk⟩, if_pos hxk]; omega
          · rw [if_pos ⟨hs, hxk⟩, if_neg (fun q => hxk q.2), if_neg hxk]; omega
        · rw [if_neg hs, if_neg hs, if_neg (fun q => hs q.1), if_neg (fun q => hs q.1)]; omega
      · have e1 : rA W (s ++ k :: st) (x :: r) n = An W (s ++ k :: st) r n := if_neg hx
        have e2 : SP (fun u => rA W s (x :: u)) (Cl W k st) r n = SP (An W s) (Cl W k st) r n := by
          exact congrFun (SP_congr (fun u v e => funext fun a => if_neg hx) (fun u v e => rfl)) n
        have e4 : Cl W k st (x :: r) n = sh (gat W.pt (An W st (x :: r))) n := by
          unfold Cl
          dsimp only
          rw [if_neg hx]
          rfl
        rw [e1, e2, e4, ihN n r s hl]
        by_cases hs : s = []
        · rw [if_pos hs]; omega
        · rw [if_neg hs]; omega
end Ly

set_option maxHeartbeats 4000000
namespace Ly
/-! ### the least number with how many, of a series -/
def Ld (f : Ser) (x : MC) : Prop := match x with
  | none => ∀ n, f n = 0
  | some p => f p.1 = p.2 ∧ p.2 ≠ 0 ∧ ∀ a, a < p.1 → f a = 0
theorem Ld.uniq {f : Ser} {x y : MC} (h1 : Ld f x) (h2 : Ld f y) : x = y := by
  cases x with
  | none =>
    cases y with
    | none => rfl
    | some q => exact absurd ((h1 q.1).symm.trans h2.1).symm h2.2.1
  | some p =>
    cases y with
    | none => exact absurd ((h2 p.1).symm.trans h1.1).symm h1.2.1
    | some q =>
      obtain ⟨a, m⟩ := p
      obtain ⟨b, k⟩ := q
      obtain ⟨u1, u2, u3⟩ := h1
      obtain ⟨v1, v2, v3⟩ := h2
      dsimp only at *
      have e : a = b := by
        rcases Nat.lt_trichotomy a b with h | h | h
        · exact absurd (u1.symm.trans (v3 a h)) u2
        · exact h
        · exact absurd (v1.symm.trans (u3 b h)) v2
      subst e
      rw [← u1, ← v1]
theorem Ld.congr {f g : Ser} {x : MC} (h : Ld f x) (e : ∀ n, f n = g n) : Ld g x := by
  have : f = g := funext e
  rw [← this]
  exact h
theorem Ld_zero : Ld (fun _ => 0) none := fun _ => rfl
theorem Ld_add {f g : Ser} {x y : MC} (h1 : Ld f x) (h2 : Ld g y) : Ld (fun n => f n + g n) (mAdd x y) := by
  cases x with
  | none => exact h2.congr fun n => by rw [h1 n, Nat.zero_add]
  | some p =>
    cases y with
    | none => exact Ld.congr (x := some p) h1 fun n => by rw [h2 n, Nat.add_zero]
    | some q =>
      obtain ⟨a, m⟩ := p
      obtain ⟨b, k⟩ := q
      obtain ⟨u1, u2, u3⟩ := h1
      obtain ⟨v1, v2, v3⟩ := h2
      dsimp only at *
      unfold mAdd
      dsimp only
      by_cases h : a < b
      · rw [if_pos h]
        exact ⟨by show f a + g a = m; rw [u1, v3 a h]; rfl, u2, fun c hc => by show f c + g c = 0; rw [u3 c hc, v3 c (Nat.lt_trans hc h)]⟩
      · rw [if_neg h]
        by_cases h' : b < a
        · rw [if_pos h']
          exact ⟨by show f b + g b = k; rw [v1, u3 b h', Nat.zero_add], v2, fun c hc => by show f c + g c = 0; rw [v3 c hc, u3 c (Nat.lt_trans hc h')]⟩
        · rw [if_neg h']
          have e : a = b := by omega
          subst e
          exact ⟨by show f a + g a = m + k; rw [u1, v1], by show m + k ≠ 0; omega, fun c hc => by show f c + g c = 0; rw [u3 c hc, v3 c hc]⟩
theorem cv_none {f g : Ser} (h : ∀ n, f n = 0) (n : Nat) : cv f g n = 0 := by
  rw [show f = fun _ => 0 from funext h, cv_zero]
theorem cv_noneR {f g : Ser} (h : ∀ n, g n = 0) (n : Nat) : cv f g n = 0 := by
  rw [show g = fun _ => 0 from funext h, cv_zeroR]
theorem cv_lead {g : Ser} {b k : Nat} (v1 : g b = k) (v3 : ∀ c, c < b → g c = 0) : ∀ (a m : Nat) (f : Ser), f a = m → (∀ c, c < a → f c = 0) → cv f g (a + b) = m * k
  | 0, m, f, u1, _ => by
    rw [Nat.zero_add]
    cases b with
    | zero => show f 0 * g 0 = m * k; rw [u1, v1]
    | succ b =>
      show f 0 * g (b + 1) + cv (fun a => f (a + 1)) g b = m * k
      have : cv (fun a => f (a + 1)) g b = 0 := Classical.byContradiction fun h => by
        obtain ⟨x, y, e, _, hy⟩ := cv_pos.mp h
        exact hy (v3 y (by omega))
      rw [this, u1, v1, Nat.add_zero]
  | a + 1, m, f, u1, u3 => by
    rw [show a + 1 + b = (a + b) + 1 by omega]
    show f 0 * g (a + b + 1) + cv (fun a => f (a + 1)) g (a + b) = m * k
    rw [u3 0 (by omega), Nat.zero_mul, Nat.zero_add]
    exact cv_lead v1 v3 a m (fun a => f (a + 1)) u1 fun c hc => u3 (c + 1) (by omega)
theorem Ld_cv {f g : Ser} {x y : MC} (h1 : Ld f x) (h2 : Ld g y) : Ld (cv f g) (mMul x y) := by
  cases x with
  | none => exact fun n => cv_none h1 n
  | some p =>
    cases y with
    | none => exact fun n => cv_noneR h2 n
    | some q =>
      obtain ⟨a, m⟩ := p
      obtain ⟨b, k⟩ := q
      obtain ⟨u1, u2, u3⟩ := h1
      obtain ⟨v1, v2, v3⟩ := h2
      dsimp only at *
      refine ⟨cv_lead v1 v3 a m f u1 u3, Nat.mul_ne_zero u2 v2, fun c hc => Classical.byContradiction fun h => ?_⟩
      obtain ⟨x, y, e, hx, hy⟩ := cv_pos.mp h
      by_cases hxa : x < a
      · exact hx (u3 x hxa)
      · exact hy (v3 y (by show y < b; have : c < a + b := hc; omega))
def mS (p : Nat × Nat) : Ser := fun n => if n = p.1 then p.2 else 0
theorem Ld_mS {p : Nat × Nat} (h : p.2 ≠ 0) : Ld (mS p) (some p) := ⟨if_pos rfl, h, fun a ha => if_neg (by omega)⟩
theorem cv_mS (f : Ser) (k : Nat) : ∀ (e n : Nat), cv (mS (e, k)) f n = if e ≤ n then k * f (n - e) else 0
  | 0, n => by
    rw [if_pos (Nat.zero_le _)]
    cases n with
    | zero => rfl
    | succ n =>
      show k * f (n + 1) + cv (fun a => if a + 1 = 0 then k else 0) f n = _
      rw [show (fun a : Nat => if a + 1 = 0 then k else 0) = fun _ => 0 from funext fun a => if_neg (by omega), cv_zero]
      rfl
  | e + 1, 0 => by
    rw [if_neg (by omega)]
    show (if 0 = e + 1 then k else 0) * f 0 = 0
    rw [if_neg (by omega), Nat.zero_mul]
  | e + 1, n + 1 => by
    show (if 0 = e + 1 then k else 0) * f (n + 1) + cv (fun a => if a + 1 = e + 1 then k else 0) f n = _
    rw [if_neg (by omega), Nat.zero_mul, Nat.zero_add]
    have : (fun a => if a + 1 = e + 1 then k else 0) = mS (e, k) := funext fun a => by
      show (if a + 1 = e + 1 then k else 0) = if a = e then k else 0
      by_cases h : a = e
      · rw [if_pos h, if_pos (by omega)]
      · rw [if_neg h, if_neg (by omega)]
    rw [this, cv_mS f k e n, show n + 1 - (e + 1) = n - e by omega]
    by_cases h : e ≤ n
    · rw [if_pos h, if_pos (by omega)]
    · rw [if_neg h, if_neg (by omega)]
theorem sh_mS (f : Ser) (n : Nat) : sh f n = cv (mS (1, 1)) f n := by
  rw [cv_mS]
  cases n with
  | zero => rfl
  | succ n => rw [if_pos (by omega), Nat.one_mul]; rfl
theorem Ld_sh {f : Ser} {x : MC} (h : Ld f x) : Ld (sh f) (mMul w1 x) := (Ld_cv (Ld_mS (p := (1, 1)) (by decide)) h).congr fun n => (sh_mS f n).symm
theorem Ld_gat {b : Bool} {f : Ser} {x : MC} (h : Ld f x) : Ld (gat b f) (if b = true then x else none) := by
  cases b with
  | true => exact h
  | false => exact Ld_zero
/-- what is more never comes ahead -/
theorem Ld_junk {f g : Ser} {x : MC} (h : Ld g x) (hle : ∀ n, g n ≤ f n) (hj : ∀ n, g n < f n → ∃ m, m < n ∧ f m ≠ 0) : Ld f x := by
  have key : ∀ n, (∀ m, m < n → g m = 0) → ∀ m, m < n → f m = 0 := by
    intro n hg m
    induction m using Nat.strongRecOn with
    | ind m ih =>
      intro hm
      refine Classical.byContradiction fun h0 => ?_
      obtain ⟨k, hk, hf⟩ := hj m (by rw [hg m hm]; omega)
      exact hf (ih k hk (by omega))
  cases x with
  | none => exact fun n => key (n + 1) (fun m _ => h m) n (by omega)
  | some p =>
    obtain ⟨h1, h2, h3⟩ := h
    have hz := key p.1 h3
    refine ⟨?_, h2, hz⟩
    refine Classical.byContradiction fun hne => ?_
    obtain ⟨k, hk, hf⟩ := hj p.1 (by have := hle p.1; omega)
    exact hf (hz k hk)
theorem cv_le {f g g' : Ser} : ∀ {n : Nat}, (∀ b, g b ≤ g' b) → cv f g n ≤ cv f g' n := by
  intro n h
  induction n generalizing f with
  | zero => exact Nat.mul_le_mul_left _ (h 0)
  | succ n ih => exact Nat.add_le_add (Nat.mul_le_mul_left _ (h _)) ih
theorem cv_lt {f g g' : Ser} : ∀ {n : Nat}, (∀ b, g b ≤ g' b) → cv f g n < cv f g' n → ∃ a b, a + b = n ∧ f a ≠ 0 ∧ g b < g' b := by
  intro n h
  induction n generalizing f with
  | zero =>
    intro hl
    refine ⟨0, 0, rfl, fun e => ?_, Classical.byContradiction fun e => ?_⟩
    · rw [cv, cv, e, Nat.zero_mul, Nat.zero_mul] at hl; omega
    · have : g' 0 ≤ g 0 := by omega
      rw [cv, cv] at hl
      exact absurd (Nat.mul_le_mul_left (f 0) this) (by omega)
  | succ n ih =>
    intro hl
    rw [cv, cv] at hl
    by_cases h1 : cv (fun a => f (a + 1)) g n < cv (fun a => f (a + 1)) g' n
    · obtain ⟨a, b, e, ha, hb⟩ := ih h1
      exact ⟨a + 1, b, by omega, ha, hb⟩
    · have h2 : f 0 * g (n + 1) < f 0 * g' (n + 1) := by omega
      refine ⟨0, n + 1, by omega, fun e => ?_, Classical.byContradiction fun e => ?_⟩
      · rw [e, Nat.zero_mul, Nat.zero_mul] at h2; omega
      · have : g' (n + 1) ≤ g (n + 1) := by omega
        exact absurd (Nat.mul_le_mul_left (f 0) this) (by omega)
theorem SP_le {g g' : List Nat → Ser} (h : ∀ v b, g v b ≤ g' v b) : ∀ {r : List Nat} {f : List Nat → Ser} {n : Nat}, SP f g r n ≤ SP f g' r n
  | [], f, n => cv_le (h [])
  | x :: r, f, n => Nat.add_le_add (cv_le (h (x :: r))) (SP_le h)
theorem SP_lt {g g' : List Nat → Ser} (h : ∀ v b, g v b ≤ g' v b) : ∀ {r : List Nat} {f : List Nat → Ser} {n : Nat}, SP f g r n < SP f g' r n → ∃ u v a b, u ++ v = r ∧ a + b = n ∧ f u a ≠ 0 ∧ g v b < g' v b
  | [], f, n, hl => by
    obtain ⟨a, b, e, ha, hb⟩ := cv_lt (h []) hl
    exact ⟨[], [], a, b, rfl, e, ha, hb⟩
  | x :: r, f, n, hl => by
    by_cases h1 : SP (fun u => f (x :: u)) g r n < SP (fun u => f (x :: u)) g' r n
    · obtain ⟨u, v, a, b, e, e2, ha, hb⟩ := SP_lt h h1
      exact ⟨x :: u, v, a, b, by rw [List.cons_append, e], e2, ha, hb⟩
    · have h2 : cv (f []) (g (x :: r)) n < cv (f []) (g' (x :: r)) n := by
        have : cv (f []) (g (x :: r)) n + SP (fun u => f (x :: u)) g r n < cv (f []) (g' (x :: r)) n + SP (fun u => f (x :: u)) g' r n := hl
        omega
      obtain ⟨a, b, e, ha, hb⟩ := cv_lt (h (x :: r)) h2
      exact ⟨[], x :: r, a, b, rfl, e, ha, hb⟩
theorem SP_shR (f g : List Nat → Ser) : ∀ (r : List Nat) (n : Nat), SP f (fun v => sh (g v)) r n = sh (SP f g r) n := by
  intro r
  induction r generalizing f with
  | nil => intro n; exact cv_shR _ _ n
  | cons x r ih =>
    intro n
    show cv _ (sh (g (x :: r))) n + SP (fun u => f (x :: u)) (fun v => sh (g v)) r n = _
    rw [cv_shR, ih]
    cases n <;> rfl
theorem SP_zeroR (f : List Nat → Ser) : ∀ (r : List Nat) (n : Nat), SP f (fun _ _ => 0) r n = 0 := by
  intro r
  induction r generalizing f with
  | nil => intro n; exact cv_zeroR _ n
  | cons x r ih =>
    intro n
    show cv _ (fun _ => 0) n + SP (fun u => f (x :: u)) (fun _ _ => 0) r n = 0
    rw [cv_zeroR, ih]
theorem SP_gatR (b : Bool) (f g : List Nat → Ser) (r : List Nat) (n : Nat) : SP f (fun v => gat b (g v)) r n = gat b (SP f g r) n := by
  cases b with
  | true => rfl
  | false => exact SP_zeroR f r n
theorem SP_bSR (cs : List Nat) (f : List Nat → Ser) (g : Nat → List Nat → Ser) (r : List Nat) (n : Nat) : SP f (fun v => bS cs fun c => g c v) r n = bS cs (fun c => SP f (g c) r) n := by
  induction cs with
  | nil => exact SP_zeroR f r n
  | cons c cs ih =>
    have e : (fun v => bS (c :: cs) fun c => g c v) = fun v a => g c v a + bS cs (fun c => g c v) a := rfl
    rw [e, SP_addR, ih]
    rfl
end Ly

set_option maxHeartbeats 4000000
namespace Ly
/-! ### rows of steps -/
structure Row (W : Wd) (st r : List Nat) (n : Nat) (α : List Stp) : Prop where
  ok : okS α
  wd : ∀ s ∈ α, s.wd W
  tx : inS α = r
  ct : cstS α = n
  fo : (outS α).foldl stp (some st) = some []
section
variable {W : Wd} {st s r : List Nat} {n c x : Nat} {β : List Stp}
theorem okS_cons {y : Stp} : okS (y :: β) ↔ y.ok ∧ okS β := by
  unfold okS
  simp
theorem wd_cons {y : Stp} : (∀ s ∈ y :: β, s.wd W) ↔ y.wd W ∧ ∀ s ∈ β, s.wd W := by simp
theorem Row.pt (hp : W.pt = true) (hc : c ∈ BRK) (hs : stp (some st) c = some s) (h : Row W s r n β) : Row W st r (n + 1) (.pt c :: β) :=
  ⟨okS_cons.mpr ⟨hc, h.ok⟩, wd_cons.mpr ⟨hp, h.wd⟩, h.tx, by show cstS β + 1 = n + 1; rw [h.ct], by show (outS β).foldl stp (stp (some st) c) = some []; rw [hs]; exact h.fo⟩
theorem Row.str (hp : W.st = true) (hx : x ∈ BRK) (h : Row W st r n β) : Row W st (x :: r) (n + 1) (.st x :: β) :=
  ⟨okS_cons.mpr ⟨hx, h.ok⟩, wd_cons.mpr ⟨hp, h.wd⟩, by show x :: inS β = x :: r; rw [h.tx], by show cstS β + 1 = n + 1; rw [h.ct], h.fo⟩
theorem Row.tn (hp : W.tn = true) (hx : x ∈ BRK) (hc : c ∈ BRK) (hn : c ≠ x) (hs : stp (some st) c = some s) (h : Row W s r n β) : Row W st (x :: r) (n + 1) (.tn x c :: β) :=
  ⟨okS_cons.mpr ⟨⟨hx, hc, hn⟩, h.ok⟩, wd_cons.mpr ⟨hp, h.wd⟩, by show x :: inS β = x :: r; rw [h.tx], by show cstS β + 1 = n + 1; rw [h.ct], by show (outS β).foldl stp (stp (some st) c) = some []; rw [hs]; exact h.fo⟩
theorem Row.kp (hs : stp (some st) x = some s) (h : Row W s r n β) : Row W st (x :: r) n (.kp x :: β) :=
  ⟨okS_cons.mpr ⟨trivial, h.ok⟩, wd_cons.mpr ⟨trivial, h.wd⟩, by show x :: inS β = x :: r; rw [h.tx], h.ct, by show (outS β).foldl stp (stp (some st) x) = some []; rw [hs]; exact h.fo⟩
theorem fold_some {o : Option (List Nat)} {l t : List Nat} (h : l.foldl stp o = some t) : ∃ s, o = some s := by
  cases o with
  | none => rw [fold_none] at h; cases h
  | some s => exact ⟨s, rfl⟩
theorem Row.ipt (h : Row W st r n (.pt c :: β)) : W.pt = true ∧ c ∈ BRK ∧ ∃ s m, stp (some st) c = some s ∧ n = m + 1 ∧ Row W s r m β := by
  obtain ⟨h1, h2, h3, h4, h5⟩ := h
  have h5' : (outS β).foldl stp (stp (some st) c) = some [] := h5
  obtain ⟨s, hs⟩ := fold_some h5'
  rw [hs] at h5'
  exact ⟨(wd_cons.mp h2).1, (okS_cons.mp h1).1, s, cstS β, hs, h4.symm, (okS_cons.mp h1).2, (wd_cons.mp h2).2, h3, rfl, h5'⟩
theorem Row.ist (h : Row W st r n (.st x :: β)) : W.st = true ∧ x ∈ BRK ∧ ∃ r' m, r = x :: r' ∧ n = m + 1 ∧ Row W st r' m β := by
  obtain ⟨h1, h2, h3, h4, h5⟩ := h
  exact ⟨(wd_cons.mp h2).1, (okS_cons.mp h1).1, inS β, cstS β, h3.symm, h4.symm, (okS_cons.mp h1).2, (wd_cons.mp h2).2, rfl, rfl, h5⟩
theorem Row.itn (h : Row W st r n (.tn x c :: β)) : W.tn = true ∧ x ∈ BRK ∧ c ∈ BRK ∧ c ≠ x ∧ ∃ s r' m, stp (some st) c = some s ∧ r = x :: r' ∧ n = m + 1 ∧ Row W s r' m β := by
  obtain ⟨h1, h2, h3, h4, h5⟩ := h
  have h5' : (outS β).foldl stp (stp (some st) c) = some [] := h5
  obtain ⟨s, hs⟩ := fold_some h5'
  rw [hs] at h5'
  obtain ⟨⟨a1, a2, a3⟩, a4⟩ := okS_cons.mp h1
  exact ⟨(wd_cons.mp h2).1, a1, a2, a3, s, inS β, cstS β, hs, h3.symm, h4.symm, a4, (wd_cons.mp h2).2, rfl, rfl, h5'⟩
theorem Row.ikp (h : Row W st r n (.kp x :: β)) : ∃ s r', stp (some st) x = some s ∧ r = x :: r' ∧ Row W s r' n β := by
  obtain ⟨h1, h2, h3, h4, h5⟩ := h
  have h5' : (outS β).foldl stp (stp (some st) x) = some [] := h5
  obtain ⟨s, hs⟩ := fold_some h5'
  rw [hs] at h5'
  exact ⟨s, inS β, hs, h3.symm, (okS_cons.mp h1).2, (wd_cons.mp h2).2, rfl, h4, h5'⟩
end
theorem mem_opt {W : Wd} {r : List Nat} {n : Nat} {o : Option (List Nat)} {f : List Stp → List Stp} {α : List Stp} : α ∈ (match o with | none => [] | some s => rowsL W s r n).map f ↔ ∃ s β, o = some s ∧ β ∈ rowsL W s r n ∧ f β = α := by
  cases o with
  | none => simp
  | some s => simp
theorem not_brk {x : Nat} (h : x ∉ BRK) (st : Option (List Nat)) : stp st x = st := stp_let (fun q => h (brk_or.mpr (.inl q))) (fun q => h (brk_or.mpr (.inr q)))
theorem rows_sound {W : Wd} : ∀ (N n : Nat) (r st : List Nat) (α : List Stp), n + r.length ≤ N → α ∈ rowsL W st r n → Row W st r n α := by
  intro N
  induction N with
  | zero =>
    intro n r st α h hm
    have h1 : n = 0 := by omega
    have h2 : r = [] := List.length_eq_zero_iff.mp (by omega)
    subst h1 h2
    rw [rowsL.eq_def] at hm
    dsimp only at hm
    rw [List.nil_append] at hm
    by_cases hs : st = [] ∧ 0 = 0
    · rw [if_pos hs] at hm
      rw [List.mem_singleton.mp hm, hs.1]
      exact ⟨(fun _ h => nomatch h), (fun _ h => nomatch h), rfl, rfl, rfl⟩
    · rw [if_neg hs] at hm; cases hm
  | succ N ih =>
    intro n r st α h hm
    rw [rowsL.eq_def] at hm
    rcases List.mem_append.mp hm with hm | hm
    · cases n with
      | zero => cases hm
      | succ n =>
        dsimp only at hm
        by_cases hp : W.pt = true
        · rw [if_pos hp] at hm
          obtain ⟨c, hc, hm⟩ := List.mem_flatMap.mp hm
          obtain ⟨s, β, hs, hb, rfl⟩ := mem_opt.mp hm
          exact Row.pt hp hc hs (ih n r s β (by omega) hb)
        · rw [if_neg hp] at hm; cases hm
    · cases r with
      | nil =>
        dsimp only at hm
        by_cases hs : st = [] ∧ n = 0
        · rw [if_pos hs] at hm
          rw [List.mem_singleton.mp hm, hs.1, hs.2]
          exact ⟨(fun _ h => nomatch h), (fun _ h => nomatch h), rfl, rfl, rfl⟩
        · rw [if_neg hs] at hm; cases hm
      | cons x r =>
        rw [List.length_cons] at h
        dsimp only at hm
        by_cases hx : x ∈ BRK
        · rw [if_pos hx] at hm
          rcases List.mem_append.mp hm with hm | hm
          · cases n with
            | zero => cases hm
            | succ n =>
              dsimp only at hm
              rcases List.mem_append.mp hm with hm | hm
              · by_cases hp : W.st = true
                · rw [if_pos hp] at hm
                  obtain ⟨β, hb, rfl⟩ := List.mem_map.mp hm
                  exact Row.str hp hx (ih n r st β (by omega) hb)
                · rw [if_neg hp] at hm; cases hm
              · by_cases hp : W.tn = true
                · rw [if_pos hp] at hm
                  obtain ⟨c, hc, hm⟩ := List.mem_flatMap.mp hm
                  obtain ⟨hc1, hc2⟩ := List.mem_filter.mp hc
                  obtain ⟨s, β, hs, hb, rfl⟩ := mem_opt.mp hm
                  exact Row.tn hp hx hc1 (by simpa using hc2) hs (ih n r s β (by omega) hb)
                · rw [if_neg hp] at hm; cases hm
          · obtain ⟨s, β, hs, hb, rfl⟩ := mem_opt.mp hm
            exact Row.kp hs (ih n r s β (by omega) hb)
        · rw [if_neg hx] at hm
          obtain ⟨β, hb, rfl⟩ := List.mem_map.mp hm
          exact Row.kp (not_brk hx _) (ih n r st β (by omega) hb)
theorem rows_all {W : Wd} : ∀ (α : List Stp) (st r : List Nat) (n : Nat), Row W st r n α → α ∈ rowsL W st r n
  | [], st, r, n, h => by
    have h1 : r = [] := h.tx.symm
    have h2 : n = 0 := h.ct.symm
    have h3 : st = [] := Option.some.inj h.fo
    subst h1 h2 h3
    rw [rowsL.eq_def]
    exact List.mem_append_right _ (by dsimp only; rw [if_pos ⟨rfl, rfl⟩]; exact List.mem_singleton.mpr rfl)
  | .pt c :: β, st, r, n, h => by
    obtain ⟨hp, hc, s, m, hs, rfl, hb⟩ := h.ipt
    rw [rowsL.eq_def]
    refine List.mem_append_left _ ?_
    dsimp only
    rw [if_pos hp]
    exact List.mem_flatMap.mpr ⟨c, hc, mem_opt.mpr ⟨s, β, hs, rows_all β s r m hb, rfl⟩⟩
  | .st x :: β, st, r, n, h => by
    obtain ⟨hp, hx, r', m, rfl, rfl, hb⟩ := h.ist
    rw [rowsL.eq_def]
    refine List.mem_append_right _ ?_
    dsimp only
    rw [if_pos hx]
    refine List.mem_append_left _ (List.mem_append_left _ ?_)
    rw [if_pos hp]
    exact List.mem_map.mpr ⟨β, rows_all β st r' m hb, rfl⟩
  | .tn x c :: β, st, r, n, h => by
    obtain ⟨hp, hx, hc, hn, s, r', m, hs, rfl, rfl, hb⟩ := h.itn
    rw [rowsL.eq_def]
    refine List.mem_append_right _ ?_
    dsimp only
    rw [if_pos hx]
    refine List.mem_append_left _ (List.mem_append_right _ ?_)
    rw [if_pos hp]
    exact List.mem_flatMap.mpr ⟨c, List.mem_filter.mpr ⟨hc, by simpa using hn⟩, mem_opt.mpr ⟨s, β, hs, rows_all β s r' m hb, rfl⟩⟩
  | .kp x :: β, st, r, n, h => by
    obtain ⟨s, r', hs, rfl, hb⟩ := h.ikp
    have hm := rows_all β s r' n hb
    rw [rowsL.eq_def]
    refine List.mem_append_right _ ?_
    dsimp only
    by_cases hx : x ∈ BRK
    · rw [if_pos hx]
      exact List.mem_append_right _ (mem_opt.mpr ⟨s, β, hs, hm, rfl⟩)
    · rw [if_neg hx]
      rw [not_brk hx] at hs
      cases hs
      exact List.mem_map.mpr ⟨β, hm, rfl⟩
theorem mem_rows {W : Wd} {st r : List Nat} {n : Nat} {α : List Stp} : α ∈ rowsL W st r n ↔ Row W st r n α := ⟨rows_sound _ n r st α (Nat.le_refl _), rows_all α st r n⟩
theorem An_pos {W : Wd} {st r : List Nat} {n : Nat} : An W st r n ≠ 0 ↔ ∃ α, Row W st r n α := by
  constructor
  · intro h
    have : rowsL W st r n ≠ [] := fun e => h (by show (rowsL W st r n).length = 0; rw [e]; rfl)
    obtain ⟨α, ha⟩ := List.exists_mem_of_ne_nil _ this
    exact ⟨α, mem_rows.mp ha⟩
  · rintro ⟨α, ha⟩ h
    have := List.length_pos_of_mem (mem_rows.mpr ha)
    have h' : (rowsL W st r n).length = 0 := h
    omega
/-! ### rows put together -/
theorem okS_app {α β : List Stp} (h1 : okS α) (h2 : okS β) : okS (α ++ β) := fun s hs => (List.mem_append.mp hs).elim (h1 s) (h2 s)
theorem inS_app (α β : List Stp) : inS (α ++ β) = inS α ++ inS β := by unfold inS; rw [List.map_append, List.flatten_append]
theorem outS_app (α β : List Stp) : outS (α ++ β) = outS α ++ outS β := by unfold outS; rw [List.map_append, List.flatten_append]
theorem cstS_app : ∀ (α β : List Stp), cstS (α ++ β) = cstS α + cstS β
  | [], β => (Nat.zero_add _).symm
  | .kp _ :: α, β => cstS_app α β
  | .st _ :: α, β => by show cstS (α ++ β) + 1 = cstS α + 1 + cstS β; rw [cstS_app α β]; omega
  | .tn _ _ :: α, β => by show cstS (α ++ β) + 1 = cstS α + 1 + cstS β; rw [cstS_app α β]; omega
  | .pt _ :: α, β => by show cstS (α ++ β) + 1 = cstS α + 1 + cstS β; rw [cstS_app α β]; omega
theorem Row.app {W : Wd} {u v : List Nat} {a b : Nat} {α β : List Stp} (h1 : Row W [] u a α) (h2 : Row W [] v b β) : Row W [] (u ++ v) (a + b) (α ++ β) :=
  ⟨okS_app h1.ok h2.ok, fun s hs => (List.mem_append.mp hs).elim (h1.wd s) (h2.wd s), by rw [inS_app, h1.tx, h2.tx], by rw [cstS_app, h1.ct, h2.ct], by rw [outS_app, List.foldl_append, h1.fo]; exact h2.fo⟩
theorem An_app {W : Wd} {u v : List Nat} {a b : Nat} (h1 : An W [] u a ≠ 0) (h2 : An W [] v b ≠ 0) : An W [] (u ++ v) (a + b) ≠ 0 := by
  obtain ⟨α, ha⟩ := An_pos.mp h1
  obtain ⟨β, hb⟩ := An_pos.mp h2
  exact An_pos.mpr ⟨_, ha.app hb⟩
theorem An_one {W : Wd} {x : Nat} (hp : W.pt = true) (hx : x ∈ BRK) : An W [] [x] 1 ≠ 0 := by
  refine An_pos.mpr ?_
  by_cases ho : x ∈ OPN
  · exact ⟨[.kp x, .pt (oth x)], Row.kp (stp_opn ho) (Row.pt hp (oth_brk x hx) (stp_clo (oth_clo x ho)) ⟨(fun _ h => nomatch h), (fun _ h => nomatch h), rfl, rfl, rfl⟩)⟩
  · have hc : x ∈ CLO := (brk_or.mp hx).resolve_left ho
    have e : stp (some []) (oth x) = some [x] := by rw [stp_opn (oth_opn x hc), oth_oth x hx]
    exact ⟨[.pt (oth x), .kp x], Row.pt hp (oth_brk x hx) e (Row.kp (stp_clo hc) ⟨(fun _ h => nomatch h), (fun _ h => nomatch h), rfl, rfl, rfl⟩)⟩
/-- a sign made into another one, or kept -/
def asS (x c : Nat) : Stp := if c = x then .kp x else .tn x c
def asC (x c : Nat) : Nat := if c = x then 0 else 1
theorem Row.as {W : Wd} {st s r : List Nat} {n x c : Nat} {β : List Stp} (hp : c = x ∨ W.tn = true) (hx : x ∈ BRK) (hc : c ∈ BRK) (hs : stp (some st) c = some s) (h : Row W s r n β) : Row W st (x :: r) (asC x c + n) (asS x c :: β) := by
  unfold asS asC
  by_cases e : c = x
  · rw [if_pos e, if_pos e, Nat.zero_add]
    subst e
    exact Row.kp hs h
  · rw [if_neg e, if_neg e, Nat.add_comm]
    exact Row.tn (hp.resolve_left e) hx hc e hs h
/-- what stands on a pile that stays -/
theorem Row.fr {W : Wd} {u : List Nat} {a : Nat} {α : List Stp} (h : Row W [] u a α) {st r : List Nat} {n : Nat} {β : List Stp} (hb : Row W st r n β) : Row W st (u ++ r) (a + n) (α ++ β) :=
  ⟨okS_app h.ok hb.ok, fun s hs => (List.mem_append.mp hs).elim (h.wd s) (hb.wd s), by rw [inS_app, h.tx, hb.tx], by rw [cstS_app, h.ct, hb.ct], by
    rw [outS_app, List.foldl_append, fold_run (r := []) h.fo]
    exact hb.fo⟩
theorem Row.nil {W : Wd} : Row W [] [] 0 [] := ⟨(fun _ h => nomatch h), (fun _ h => nomatch h), rfl, rfl, rfl⟩
theorem few_way : ∀ x ∈ BRK, ∀ d ∈ BRK, ∃ o ∈ OPN, asC x o + asC d (oth o) = (few x d).1 := by decide
theorem An_pair {W : Wd} {x d : Nat} (hx : x ∈ BRK) (hd : d ∈ BRK) (hg : (few x d).1 = 0 ∨ W.tn = true) {u : List Nat} {a : Nat} (h : An W [] u a ≠ 0) : An W [] (x :: (u ++ [d])) (a + (few x d).1) ≠ 0 := by
  obtain ⟨α, ha⟩ := An_pos.mp h
  obtain ⟨o, ho, ec⟩ := few_way x hx d hd
  have hob := brk_or.mpr (.inl ho)
  have hcb := oth_brk o hob
  have p1 : o = x ∨ W.tn = true := by
    by_cases e : o = x
    · exact .inl e
    · refine .inr (hg.resolve_left ?_)
      have : asC x o = 1 := if_neg e
      omega
  have p2 : oth o = d ∨ W.tn = true := by
    by_cases e : oth o = d
    · exact .inl e
    · refine .inr (hg.resolve_left ?_)
      have : asC d (oth o) = 1 := if_neg e
      omega
  have h2 : Row W [oth o] [d] (asC d (oth o) + 0) [asS d (oth o)] := Row.as p2 hd hcb (stp_clo (oth_clo o ho)) Row.nil
  have h3 := Row.as p1 hx hob (stp_opn ho) (ha.fr h2)
  rw [show asC x o + (a + (asC d (oth o) + 0)) = a + (few x d).1 by omega] at h3
  exact An_pos.mpr ⟨_, h3⟩
end Ly

set_option maxHeartbeats 4000000
namespace Ly
/-! ### all that begins so: what is least of it -/
section
variable {W : Wd}
/-- the sign that closes what was opened with k, kept or turned -/
def clo (W : Wd) (k : Nat) (v : List Nat) : Ser := fun n => match v with
  | [] => 0
  | d :: v => if d ∈ BRK then (if d = k then An W [] v n else sh (gat W.tn (An W [] v)) n) else 0
theorem Cl_eq (k : Nat) (v : List Nat) (n : Nat) : Cl W k [] v n = sh (gat W.pt (An W [] v)) n + clo W k v n := by
  cases v <;> rfl
def g1 (W : Wd) (x : Nat) (v : List Nat) : Ser := fun n => (if x ∈ OPN then Cl W (oth x) [] v n else 0) + sh (gat W.tn (bS (OPN.filter (· ≠ x)) fun o => Cl W (oth o) [] v)) n
def g2 (W : Wd) (v : List Nat) : Ser := sh (gat W.pt (bS OPN fun o => Cl W (oth o) [] v))
theorem bS_filter {f : Nat → Ser} {n : Nat} (p : Nat → Bool) : ∀ {cs : List Nat}, (∀ c ∈ cs, p c = false → f c n = 0) → bS cs f n = bS (cs.filter p) f n
  | [], _ => rfl
  | c :: cs, h => by
    have ih := bS_filter p (cs := cs) fun d hd => h d (List.mem_cons_of_mem _ hd)
    have e1 : ∀ ds, bS (c :: ds) f n = f c n + bS ds f n := fun ds => rfl
    cases hc : p c with
    | true => rw [List.filter_cons_of_pos hc, e1, e1, ih]
    | false => rw [List.filter_cons_of_neg (by rw [hc]; exact Bool.false_ne_true), e1, h c List.mem_cons_self hc, Nat.zero_add, ih]
theorem brk_opn : BRK.filter (fun c => decide (c ∈ OPN)) = OPN := by decide
theorem bS_congr {f g : Nat → Ser} {n : Nat} {cs : List Nat} (h : ∀ c ∈ cs, f c n = g c n) : bS cs f n = bS cs g n := by
  unfold bS
  congr 1
  exact List.map_congr_left h
theorem ret_one {o : Nat} (ho : o ∈ OPN) (r : List Nat) (n : Nat) : An W [oth o] r n = SP (An W []) (Cl W (oth o) []) r n := first_ret (oth_clo o ho) [] _ n r [] (Nat.le_refl _)
theorem oA_opn {r : List Nat} {n c : Nat} (hc : c ∈ OPN) : oA (fun s => An W s r) (stp (some []) c) n = SP (An W []) (Cl W (oth c) []) r n := by
  rw [stp_opn hc]
  exact ret_one hc r n
theorem oA_clo {r : List Nat} {n c : Nat} (hc : c ∈ BRK) (h : c ∉ OPN) : oA (fun s => An W s r) (stp (some []) c) n = 0 := by
  have : stp (some []) c = none := by
    unfold stp
    dsimp only
    rw [if_neg h, if_pos ((brk_or.mp hc).resolve_left h)]
  rw [this]
  rfl
theorem pA_g2 (r : List Nat) (n : Nat) : pA W [] r n = SP (An W []) (g2 W) r n := by
  unfold pA g2
  rw [SP_shR]
  cases n with
  | zero => rfl
  | succ n =>
    show gat W.pt _ n = SP _ (fun v => gat W.pt _) r n
    rw [SP_gatR]
    unfold gat
    by_cases h : W.pt = true
    · rw [if_pos h, if_pos h, SP_bSR OPN _ (fun o v => Cl W (oth o) [] v), bS_filter (fun c => decide (c ∈ OPN)) (fun c hc hp => oA_clo hc (by simpa using hp)), brk_opn]
      exact bS_congr fun c hc => oA_opn hc
    · rw [if_neg h, if_neg h]
theorem An_first {x : Nat} (hx : x ∈ BRK) (r : List Nat) (n : Nat) : An W [] (x :: r) n = SP (An W []) (g2 W) (x :: r) n + (sh (gat W.st (An W [] r)) n + SP (An W []) (g1 W x) r n) := by
  rw [An_brk hx, pA_g2]
  congr 1
  have e1 : SP (An W []) (g1 W x) r n = (if x ∈ OPN then SP (An W []) (Cl W (oth x) []) r n else 0) + sh (gat W.tn (bS (OPN.filter (· ≠ x)) fun o => SP (An W []) (Cl W (oth o) []) r)) n := by
    unfold g1
    rw [SP_addR (An W []) (fun v n => if x ∈ OPN then Cl W (oth x) [] v n else 0) (fun v => sh (gat W.tn (bS (OPN.filter (· ≠ x)) fun o => Cl W (oth o) [] v)))]
    congr 1
    · by_cases h : x ∈ OPN
      · simp only [if_pos h]
      · simp only [if_neg h]; exact SP_zeroR _ r n
    · rw [SP_shR]
      cases n with
      | zero => rfl
      | succ n =>
        show SP _ (fun v => gat W.tn _) r n = gat W.tn _ n
        rw [SP_gatR]
        unfold gat
        by_cases h : W.tn = true
        · rw [if_pos h, if_pos h, SP_bSR _ _ (fun o v => Cl W (oth o) [] v)]
        · rw [if_neg h, if_neg h]
  have e2 : oA (fun s => An W s r) (stp (some []) x) n = if x ∈ OPN then SP (An W []) (Cl W (oth x) []) r n else 0 := by
    by_cases h : x ∈ OPN
    · rw [if_pos h, oA_opn h]
    · rw [if_neg h, oA_clo hx h]
  have e3 : tA W [] x r n = sh (gat W.st (An W [] r)) n + sh (gat W.tn (bS (OPN.filter (· ≠ x)) fun o => SP (An W []) (Cl W (oth o) []) r)) n := by
    unfold tA
    cases n with
    | zero => rfl
    | succ n =>
      show _ + _ = gat W.st _ n + gat W.tn _ n
      congr 1
      unfold gat
      by_cases h : W.tn = true
      · rw [if_pos h, if_pos h, bS_filter (fun c => decide (c ∈ OPN)) (fun c hc hp => oA_clo (List.mem_filter.mp hc).1 (by simpa using hp)), List.filter_filter, show (fun a => decide (a ∈ OPN) && decide (a ≠ x)) = fun a => decide (a ≠ x) && decide (a ∈ OPN) from funext fun a => Bool.and_comm _ _, ← List.filter_filter, brk_opn]
        exact bS_congr fun c hc => oA_opn (List.mem_filter.mp hc).1
      · rw [if_neg h, if_neg h]
  rw [e1, e2, e3]
  omega
theorem An_firstL {x : Nat} (hx : x ∉ BRK) (r : List Nat) (n : Nat) : An W [] (x :: r) n = SP (An W []) (g2 W) (x :: r) n + An W [] r n := by
  rw [An_let hx, pA_g2]
/-! the least ones -/
def g2m (W : Wd) (v : List Nat) : Ser := fun n => match v with
  | [] => 0
  | d :: v => if d ∈ CLO then sh (gat W.pt (An W [] v)) n else 0
def g1o (W : Wd) (x : Nat) (v : List Nat) : Ser := fun n => if x ∈ OPN then sh (gat W.pt (An W [] v)) n else 0
def g1p (W : Wd) (x : Nat) (v : List Nat) : Ser := fun n => match v with
  | [] => 0
  | d :: v => if d ∈ BRK ∧ ((few x d).1 = 0 ∨ W.tn = true) then cv (mS (few x d)) (An W [] v) n else 0
theorem sum_if (cs : List Nat) (d A C : Nat) : (cs.map fun o => if d = oth o then A else C).sum = cs.countP (fun o => decide (d = oth o)) * A + (cs.length - cs.countP (fun o => decide (d = oth o))) * C := by
  induction cs with
  | nil => simp
  | cons c cs ih =>
    have hle := List.countP_le_length (p := fun o => decide (d = oth o)) (l := cs)
    rw [List.map_cons, List.sum_cons, ih, List.length_cons, List.countP_cons]
    by_cases h : d = oth c
    · rw [if_pos h, if_pos (by simpa using h), Nat.add_mul, show cs.length + 1 - (cs.countP (fun o => decide (d = oth o)) + 1) = cs.length - cs.countP (fun o => decide (d = oth o)) by omega]
      omega
    · rw [if_neg h, if_neg (by simpa using h), Nat.add_zero, show cs.length + 1 - cs.countP (fun o => decide (d = oth o)) = (cs.length - cs.countP (fun o => decide (d = oth o))) + 1 by omega, Nat.add_mul _ 1 C]
      omega
theorem sum_add (cs : List Nat) (A : Nat) (f : Nat → Nat) : (cs.map fun o => A + f o).sum = cs.length * A + (cs.map f).sum := by
  induction cs with
  | nil => simp
  | cons c cs ih => rw [List.map_cons, List.sum_cons, ih, List.length_cons, List.map_cons, List.sum_cons, Nat.add_mul]; omega
theorem bS_Cl (cs : List Nat) (v : List Nat) (n : Nat) : bS cs (fun o => Cl W (oth o) [] v) n = cs.length * sh (gat W.pt (An W [] v)) n + (cs.map fun o => clo W (oth o) v n).sum := by
  rw [← sum_add]
  exact bS_congr (g := fun o n => sh (gat W.pt (An W [] v)) n + clo W (oth o) v n) fun c _ => Cl_eq _ v n
theorem clo_sum (cs : List Nat) (d : Nat) (hd : d ∈ BRK) (v : List Nat) (n : Nat) : (cs.map fun o => clo W (oth o) (d :: v) n).sum = cs.countP (fun o => decide (d = oth o)) * An W [] v n + (cs.length - cs.countP (fun o => decide (d = oth o))) * sh (gat W.tn (An W [] v)) n := by
  rw [← sum_if]
  congr 1
  refine List.map_congr_left fun o _ => ?_
  show (if d ∈ BRK then (if d = oth o then An W [] v n else sh (gat W.tn (An W [] v)) n) else 0) = _
  rw [if_pos hd]
theorem clo_not (cs : List Nat) (v : List Nat) (n : Nat) (h : ∀ d w, v = d :: w → d ∉ BRK) : (cs.map fun o => clo W (oth o) v n).sum = 0 := by
  have : ∀ o, clo W (oth o) v n = 0 := fun o => by
    cases v with
    | nil => rfl
    | cons d w => exact if_neg (h d w rfl)
  rw [show (fun o => clo W (oth o) v n) = fun _ => 0 from funext this]
  clear this h
  induction cs with
  | nil => rfl
  | cons c cs ih => rw [List.map_cons, List.sum_cons, ih]
theorem sh_succ (f : Ser) (n : Nat) : sh f (n + 1) = f n := rfl
theorem sh_pos {f : Ser} {n : Nat} (h : sh f n ≠ 0) : ∃ m, n = m + 1 ∧ f m ≠ 0 := by
  cases n with
  | zero => exact absurd rfl h
  | succ m => exact ⟨m, rfl, h⟩
theorem gat_pos {b : Bool} {f : Ser} {n : Nat} (h : gat b f n ≠ 0) : b = true ∧ f n ≠ 0 := by
  unfold gat at h
  by_cases hb : b = true
  · rw [if_pos hb] at h; exact ⟨hb, h⟩
  · rw [if_neg hb] at h; exact absurd rfl h
theorem cnt_opn1 : ∀ d ∈ BRK, OPN.countP (fun o => decide (d = oth o)) = if d ∈ CLO then 1 else 0 := by decide
theorem opn_len : OPN.length = 4 := rfl
/-- what is put first, and not with a sign of the text: there is less -/
theorem g2_both (v : List Nat) (n : Nat) : g2m W v n ≤ g2 W v n ∧ (g2m W v n < g2 W v n → W.pt = true ∧ ((∃ m, n = m + 2 ∧ An W [] v m ≠ 0) ∨ ∃ d w m, v = d :: w ∧ d ∈ BRK ∧ n = m + 2 ∧ An W [] w m ≠ 0)) := by
  by_cases hp : W.pt = true
  · cases n with
    | zero =>
      have e : g2m W v 0 = 0 := by
        cases v with
        | nil => rfl
        | cons d w => show (if d ∈ CLO then 0 else 0) = 0; split <;> rfl
      rw [e]
      exact ⟨Nat.zero_le _, fun h => absurd h (by show ¬ 0 < 0; omega)⟩
    | succ n =>
      have e : g2 W v (n + 1) = 4 * sh (gat W.pt (An W [] v)) n + (OPN.map fun o => clo W (oth o) v n).sum := by
        show gat W.pt _ n = _
        unfold gat
        rw [if_pos hp, ← opn_len]
        exact bS_Cl OPN v n
      have key1 : sh (gat W.pt (An W [] v)) n ≠ 0 → ∃ m, n + 1 = m + 2 ∧ An W [] v m ≠ 0 := fun h => by
        obtain ⟨m, rfl, hm⟩ := sh_pos h
        exact ⟨m, rfl, (gat_pos hm).2⟩
      rw [e]
      cases v with
      | nil =>
        rw [clo_not OPN [] n (fun d w h => by cases h)]
        refine ⟨Nat.zero_le _, fun h => ⟨hp, .inl (key1 ?_)⟩⟩
        have : 0 < 4 * sh (gat W.pt (An W [] [])) n + 0 := h
        omega
      | cons d w =>
        by_cases hd : d ∈ BRK
        · rw [clo_sum OPN d hd, cnt_opn1 d hd, opn_len]
          have key2 : sh (gat W.tn (An W [] w)) n ≠ 0 → ∃ d' w' m, d :: w = d' :: w' ∧ d' ∈ BRK ∧ n + 1 = m + 2 ∧ An W [] w' m ≠ 0 := fun h => by
            obtain ⟨m, rfl, hm⟩ := sh_pos h
            exact ⟨d, w, m, rfl, hd, rfl, (gat_pos hm).2⟩
          by_cases hc : d ∈ CLO
          · have em : g2m W (d :: w) (n + 1) = An W [] w n := by
              show (if d ∈ CLO then gat W.pt (An W [] w) n else 0) = _
              unfold gat
              rw [if_pos hc, if_pos hp]
            rw [em, if_pos hc]
            refine ⟨by omega, fun h => ⟨hp, ?_⟩⟩
            by_cases h1 : sh (gat W.pt (An W [] (d :: w))) n = 0
            · exact .inr (key2 (by omega))
            · exact .inl (key1 h1)
          · have em : g2m W (d :: w) (n + 1) = 0 := if_neg hc
            rw [em, if_neg hc]
            refine ⟨Nat.zero_le _, fun h => ⟨hp, ?_⟩⟩
            by_cases h1 : sh (gat W.pt (An W [] (d :: w))) n = 0
            · exact .inr (key2 (by omega))
            · exact .inl (key1 h1)
        · rw [clo_not OPN (d :: w) n (fun d' w' e => by cases e; exact hd)]
          have em : g2m W (d :: w) (n + 1) = 0 := if_neg fun h => hd (brk_or.mpr (.inr h))
          rw [em]
          exact ⟨Nat.zero_le _, fun h => ⟨hp, .inl (key1 (by omega))⟩⟩
  · have e1 : g2 W v n = 0 := by
      cases n with
      | zero => rfl
      | succ n => exact if_neg hp
    have e2 : g2m W v n = 0 := by
      cases v with
      | nil => rfl
      | cons d w =>
        show (if d ∈ CLO then sh (gat W.pt (An W [] w)) n else 0) = 0
        cases n with
        | zero => show (if d ∈ CLO then 0 else 0) = 0; split <;> rfl
        | succ n => show (if d ∈ CLO then gat W.pt (An W [] w) n else 0) = 0; unfold gat; rw [if_neg hp]; split <;> rfl
    rw [e1, e2]
    exact ⟨Nat.le_refl _, fun h => absurd h (by omega)⟩
theorem g2_junk {v : List Nat} {b : Nat} (h : g2m W v b < g2 W v b) {u : List Nat} {a : Nat} (hu : An W [] u a ≠ 0) : ∃ m, m < a + b ∧ An W [] (u ++ v) m ≠ 0 := by
  obtain ⟨hp, ⟨m, rfl, hm⟩ | ⟨d, w, m, rfl, hd, rfl, hm⟩⟩ := (g2_both v b).2 h
  · exact ⟨a + m, by omega, An_app hu hm⟩
  · refine ⟨a + (1 + m), by omega, ?_⟩
    exact An_app hu (An_app (u := [d]) (An_one hp hd) hm)
/-! pairs -/
def n0 (x d : Nat) : Nat := if x ∈ OPN ∧ d = oth x then 1 else 0
def n1 (x d : Nat) : Nat := (if x ∈ OPN ∧ d ≠ oth x then 1 else 0) + (OPN.filter (· ≠ x)).countP (fun o => decide (d = oth o))
def n2 (x d : Nat) : Nat := (OPN.filter (· ≠ x)).length - (OPN.filter (· ≠ x)).countP (fun o => decide (d = oth o))
theorem few_n : ∀ x ∈ BRK, ∀ d ∈ BRK, (few x d = (0, 1) ∧ n0 x d = 1) ∨ (few x d = (1, n1 x d) ∧ n0 x d = 0) ∨ (few x d = (2, n2 x d) ∧ n0 x d = 0 ∧ n1 x d = 0) := by decide
/-- all ways to make two signs a pair -/
theorem pair_all {x d : Nat} (hd : d ∈ BRK) (v : List Nat) (n : Nat) :
    (if x ∈ OPN then clo W (oth x) (d :: v) n else 0) + sh (gat W.tn (fun n => ((OPN.filter (· ≠ x)).map fun o => clo W (oth o) (d :: v) n).sum)) n
      = n0 x d * An W [] v n + (n1 x d * sh (gat W.tn (An W [] v)) n + n2 x d * sh (sh (gat W.tn (An W [] v))) n) := by
  have e1 : (if x ∈ OPN then clo W (oth x) (d :: v) n else 0) = n0 x d * An W [] v n + (if x ∈ OPN ∧ d ≠ oth x then 1 else 0) * sh (gat W.tn (An W [] v)) n := by
    unfold n0
    by_cases hx : x ∈ OPN
    · rw [if_pos hx]
      show (if d ∈ BRK then (if d = oth x then An W [] v n else sh (gat W.tn (An W [] v)) n) else 0) = _
      rw [if_pos hd]
      by_cases e : d = oth x
      · rw [if_pos e, if_pos ⟨hx, e⟩, if_neg (fun h => h.2 e), Nat.one_mul, Nat.zero_mul]; rfl
      · rw [if_neg e, if_neg (fun h => e h.2), if_pos ⟨hx, e⟩, Nat.one_mul, Nat.zero_mul, Nat.zero_add]
    · rw [if_neg hx, if_neg (fun h => hx h.1), if_neg (fun h => hx h.1), Nat.zero_mul, Nat.zero_mul]
  have e2 : sh (gat W.tn (fun n => ((OPN.filter (· ≠ x)).map fun o => clo W (oth o) (d :: v) n).sum)) n = (OPN.filter (· ≠ x)).countP (fun o => decide (d = oth o)) * sh (gat W.tn (An W [] v)) n + n2 x d * sh (sh (gat W.tn (An W [] v))) n := by
    cases n with
    | zero => rfl
    | succ n =>
      rw [sh_succ, sh_succ, sh_succ]
      unfold gat
      by_cases ht : W.tn = true
      · rw [if_pos ht, if_pos ht]
        refine (clo_sum _ d hd v n).trans ?_
        unfold n2 gat
        rfl
      · rw [if_neg ht, if_neg ht]
        cases n with
        | zero => rfl
        | succ n => show 0 = _ * 0 + _ * (if W.tn = true then _ else 0); rw [if_neg ht, Nat.mul_zero, Nat.mul_zero]
  rw [e1, e2]
  unfold n1
  rw [Nat.add_mul]
  omega
theorem pair_both {x d : Nat} (hx : x ∈ BRK) (hd : d ∈ BRK) (v : List Nat) (n : Nat) : g1p W x (d :: v) n ≤ n0 x d * An W [] v n + (n1 x d * sh (gat W.tn (An W [] v)) n + n2 x d * sh (sh (gat W.tn (An W [] v))) n) ∧
    (g1p W x (d :: v) n < n0 x d * An W [] v n + (n1 x d * sh (gat W.tn (An W [] v)) n + n2 x d * sh (sh (gat W.tn (An W [] v))) n) → W.tn = true ∧ ∃ q m, (few x d).1 < q ∧ n = m + q ∧ An W [] v m ≠ 0) := by
  have eg : g1p W x (d :: v) n = if d ∈ BRK ∧ ((few x d).1 = 0 ∨ W.tn = true) then cv (mS (few x d)) (An W [] v) n else 0 := rfl
  rw [eg]
  by_cases ht : W.tn = true
  · rw [if_pos ⟨hd, .inr ht⟩]
    have eG : gat W.tn (An W [] v) = An W [] v := by rw [ht]; rfl
    rw [eG]
    have k1 : ∀ q, 1 < q → True := fun _ _ => trivial
    have s1 : sh (An W [] v) n ≠ 0 → ∃ m, n = m + 1 ∧ An W [] v m ≠ 0 := sh_pos
    have s2 : sh (sh (An W [] v)) n ≠ 0 → ∃ m, n = m + 2 ∧ An W [] v m ≠ 0 := fun h => by
      obtain ⟨m, rfl, hm⟩ := sh_pos h
      obtain ⟨k, rfl, hk⟩ := sh_pos hm
      exact ⟨k, rfl, hk⟩
    rcases few_n x hx d hd with ⟨ef, e0⟩ | ⟨ef, e0⟩ | ⟨ef, e0, e1⟩
    · rw [ef, cv_mS, if_pos (Nat.zero_le _), e0, Nat.sub_zero]
      refine ⟨by omega, fun h => ⟨ht, ?_⟩⟩
      by_cases z1 : sh (An W [] v) n = 0
      · rw [z1] at h
        have : sh (sh (An W [] v)) n ≠ 0 := fun z2 => by rw [z2] at h; omega
        obtain ⟨m, e, hm⟩ := s2 this
        exact ⟨2, m, by decide, e, hm⟩
      · obtain ⟨m, e, hm⟩ := s1 z1
        exact ⟨1, m, by decide, e, hm⟩
    · have em : cv (mS (1, n1 x d)) (An W [] v) n = n1 x d * sh (An W [] v) n := by
        rw [cv_mS]
        cases n with
        | zero => rfl
        | succ n => rw [if_pos (by omega)]; rfl
      rw [ef, em, e0]
      refine ⟨by omega, fun h => ⟨ht, ?_⟩⟩
      have : sh (sh (An W [] v)) n ≠ 0 := fun z2 => by rw [z2] at h; omega
      obtain ⟨m, e, hm⟩ := s2 this
      exact ⟨2, m, by show 1 < 2; decide, e, hm⟩
    · have em : cv (mS (2, n2 x d)) (An W [] v) n = n2 x d * sh (sh (An W [] v)) n := by
        rw [cv_mS]
        cases n with
        | zero => rfl
        | succ n =>
          cases n with
          | zero => rfl
          | succ n => rw [if_pos (by omega)]; rfl
      rw [ef, em, e0, e1]
      exact ⟨by omega, fun h => absurd h (by omega)⟩
  · have z1 : sh (gat W.tn (An W [] v)) n = 0 := by
      cases n with
      | zero => rfl
      | succ n => exact if_neg ht
    have z2 : sh (sh (gat W.tn (An W [] v))) n = 0 := by
      cases n with
      | zero => rfl
      | succ n =>
        cases n with
        | zero => rfl
        | succ n => exact if_neg ht
    rw [z1, z2]
    rcases few_n x hx d hd with ⟨ef, e0⟩ | ⟨ef, e0⟩ | ⟨ef, e0, e1⟩
    · rw [ef, if_pos ⟨hd, .inl rfl⟩, cv_mS, if_pos (Nat.zero_le _), e0, Nat.sub_zero]
      exact ⟨by omega, fun h => absurd h (by omega)⟩
    · rw [ef, if_neg (fun h => h.2.elim (fun q => absurd (show (1 : Nat) = 0 from q) (by decide)) ht)]
      rw [e0]
      exact ⟨Nat.zero_le _, fun h => absurd h (by omega)⟩
    · rw [ef, if_neg (fun h => h.2.elim (fun q => absurd (show (2 : Nat) = 0 from q) (by decide)) ht)]
      rw [e0]
      exact ⟨Nat.zero_le _, fun h => absurd h (by omega)⟩
/-- g1 by its parts -/
theorem g1_parts (x : Nat) (v : List Nat) (n : Nat) : g1 W x v n = g1o W x v n + ((OPN.filter (· ≠ x)).length * sh (gat W.tn (sh (gat W.pt (An W [] v)))) n + ((if x ∈ OPN then clo W (oth x) v n else 0) + sh (gat W.tn (fun n => ((OPN.filter (· ≠ x)).map fun o => clo W (oth o) v n).sum)) n)) := by
  unfold g1 g1o
  have e1 : (if x ∈ OPN then Cl W (oth x) [] v n else 0) = (if x ∈ OPN then sh (gat W.pt (An W [] v)) n else 0) + (if x ∈ OPN then clo W (oth x) v n else 0) := by
    by_cases h : x ∈ OPN
    · rw [if_pos h, if_pos h, if_pos h, Cl_eq]
    · rw [if_neg h, if_neg h, if_neg h]
  have e2 : sh (gat W.tn (bS (OPN.filter (· ≠ x)) fun o => Cl W (oth o) [] v)) n = (OPN.filter (· ≠ x)).length * sh (gat W.tn (sh (gat W.pt (An W [] v)))) n + sh (gat W.tn (fun n => ((OPN.filter (· ≠ x)).map fun o => clo W (oth o) v n).sum)) n := by
    cases n with
    | zero => rfl
    | succ n =>
      rw [sh_succ, sh_succ, sh_succ]
      unfold gat
      by_cases ht : W.tn = true
      · rw [if_pos ht, if_pos ht, if_pos ht]
        exact bS_Cl _ v n
      · rw [if_neg ht, if_neg ht, if_neg ht, Nat.mul_zero]
  rw [e1, e2]
  omega
theorem g1_both {x : Nat} (hx : x ∈ BRK) (v : List Nat) (n : Nat) : g1o W x v n + g1p W x v n ≤ g1 W x v n ∧ (g1o W x v n + g1p W x v n < g1 W x v n → (W.pt = true ∧ ∃ m, n = m + 2 ∧ An W [] v m ≠ 0) ∨ ∃ d w q m, v = d :: w ∧ d ∈ BRK ∧ W.tn = true ∧ (few x d).1 < q ∧ n = m + q ∧ An W [] w m ≠ 0) := by
  rw [g1_parts]
  have key1 : sh (gat W.tn (sh (gat W.pt (An W [] v)))) n ≠ 0 → W.pt = true ∧ ∃ m, n = m + 2 ∧ An W [] v m ≠ 0 := fun h => by
    obtain ⟨m, rfl, hm⟩ := sh_pos h
    obtain ⟨k, rfl, hk⟩ := sh_pos (gat_pos hm).2
    exact ⟨(gat_pos hk).1, k, rfl, (gat_pos hk).2⟩
  have zero : (∀ d w, v = d :: w → d ∉ BRK) → ((if x ∈ OPN then clo W (oth x) v n else 0) + sh (gat W.tn (fun n => ((OPN.filter (· ≠ x)).map fun o => clo W (oth o) v n).sum)) n = 0 ∧ g1p W x v n = 0) := fun h => by
    have a1 : clo W (oth x) v n = 0 := by
      cases v with
      | nil => rfl
      | cons d w => exact if_neg (h d w rfl)
    have a2 : sh (gat W.tn (fun n => ((OPN.filter (· ≠ x)).map fun o => clo W (oth o) v n).sum)) n = 0 := by
      cases n with
      | zero => rfl
      | succ n =>
        rw [sh_succ]
        unfold gat
        dsimp only
        rw [clo_not _ v n h]
        split <;> rfl
    have a3 : g1p W x v n = 0 := by
      cases v with
      | nil => rfl
      | cons d w => exact if_neg fun q => h d w rfl q.1
    rw [a1, a2, a3]
    exact ⟨by split <;> rfl, rfl⟩
  have fin : ∀ {A : Nat}, g1p W x v n ≤ A → (g1p W x v n < A → ∃ d w q m, v = d :: w ∧ d ∈ BRK ∧ W.tn = true ∧ (few x d).1 < q ∧ n = m + q ∧ An W [] w m ≠ 0) → g1o W x v n + g1p W x v n ≤ g1o W x v n + ((OPN.filter (· ≠ x)).length * sh (gat W.tn (sh (gat W.pt (An W [] v)))) n + A) ∧ (g1o W x v n + g1p W x v n < g1o W x v n + ((OPN.filter (· ≠ x)).length * sh (gat W.tn (sh (gat W.pt (An W [] v)))) n + A) → (W.pt = true ∧ ∃ m, n = m + 2 ∧ An W [] v m ≠ 0) ∨ ∃ d w q m, v = d :: w ∧ d ∈ BRK ∧ W.tn = true ∧ (few x d).1 < q ∧ n = m + q ∧ An W [] w m ≠ 0) := fun h1 h2 => by
    refine ⟨by omega, fun h => ?_⟩
    by_cases z : sh (gat W.tn (sh (gat W.pt (An W [] v)))) n = 0
    · rw [z] at h
      exact .inr (h2 (by omega))
    · exact .inl (key1 z)
  by_cases hv : ∃ d w, v = d :: w ∧ d ∈ BRK
  · obtain ⟨d, w, rfl, hd⟩ := hv
    rw [pair_all hd]
    obtain ⟨p1, p2⟩ := pair_both (W := W) hx hd w n
    refine fin p1 fun h => ?_
    obtain ⟨ht, q, m, h1, h2, h3⟩ := p2 h
    exact ⟨d, w, q, m, rfl, hd, ht, h1, h2, h3⟩
  · obtain ⟨z1, z2⟩ := zero fun d w e hd => hv ⟨d, w, e, hd⟩
    rw [z1]
    refine fin (by rw [z2]; exact Nat.le_refl _) fun h => ?_
    rw [z2] at h
    exact absurd h (by omega)
theorem g1_junk {x : Nat} (hx : x ∈ BRK) {v : List Nat} {b : Nat} (h : g1o W x v b + g1p W x v b < g1 W x v b) {u : List Nat} {a : Nat} (hu : An W [] u a ≠ 0) : ∃ m, m < a + b ∧ An W [] (x :: (u ++ v)) m ≠ 0 := by
  rcases (g1_both hx v b).2 h with ⟨hp, m, rfl, hm⟩ | ⟨d, w, q, m, rfl, hd, ht, hq, rfl, hm⟩
  · refine ⟨1 + (a + m), by omega, ?_⟩
    exact An_app (u := [x]) (An_one hp hx) (An_app hu hm)
  · refine ⟨a + (few x d).1 + m, by omega, ?_⟩
    have := An_app (An_pair hx hd (.inr ht) hu) hm
    rw [show x :: (u ++ [d]) ++ w = x :: (u ++ d :: w) by simp] at this
    exact this
end
end Ly

set_option maxHeartbeats 4000000
namespace Ly
/-! ### the table's numbers are the least ones, with how many -/
theorem Ld_SPz : ∀ {r : List Nat} {f g : List Nat → Ser} {Z : Nat → MC}, (∀ t, t ≤ r.length → Ld (cv (f (r.take t)) (g (r.drop t))) (Z t)) → Ld (SP f g r) (sm Z (r.length + 1))
  | [], f, g, Z, h => h 0 (Nat.le_refl _)
  | x :: r, f, g, Z, h => by
    rw [sm_head]
    refine Ld_add (h 0 (Nat.zero_le _)) ?_
    exact Ld_SPz (f := fun u => f (x :: u)) (Z := fun k => Z (k + 1)) (fun t ht => h (t + 1) (by rw [List.length_cons]; omega))
theorem seg_take {l : List Nat} {i j t : Nat} (h : i + t ≤ j) (hj : j ≤ l.length) : (seg l i j).take t = seg l i (i + t) := by
  rw [seg_app (b := i + t) (by omega) h (by omega), List.take_left' (by rw [seg_len (by omega)]; omega)]
theorem seg_dropT {l : List Nat} {i j t : Nat} (h : i + t ≤ j) (hj : j ≤ l.length) : (seg l i j).drop t = seg l (i + t) j := by
  rw [seg_app (b := i + t) (by omega) h (by omega), List.drop_left' (by rw [seg_len (by omega)]; omega)]
theorem Ld_seg {l : List Nat} {i j : Nat} {f g : List Nat → Ser} {Z : Nat → MC} (hij : i ≤ j) (hj : j ≤ l.length) (h : ∀ t, i + t ≤ j → Ld (cv (f (seg l i (i + t))) (g (seg l (i + t) j))) (Z t)) : Ld (SP f g (seg l i j)) (sm Z (j - i + 1)) := by
  have e : (seg l i j).length = j - i := seg_len hj
  rw [← e]
  refine Ld_SPz fun t ht => ?_
  rw [e] at ht
  rw [seg_take (by omega) hj, seg_dropT (by omega) hj]
  exact h t (by omega)
theorem mMul_left (x y z : MC) : mMul x (mMul y z) = m3 y x z := by
  unfold m3
  rw [← mMul_assoc, mMul_comm x y]
theorem few_pos : ∀ x ∈ BRK, ∀ d ∈ BRK, (few x d).2 ≠ 0 := by decide
theorem Ld_mc {l : List Nat} {W : Wd} : ∀ (N i j : Nat), j - i ≤ N → i ≤ j → j ≤ l.length → Ld (An W [] (seg l i j)) (mcN l W i j) := by
  intro N
  induction N with
  | zero =>
    intro i j h1 h2 h3
    have e : i = j := by omega
    subst e
    rw [seg_self, mcN_self]
    have hz : ∀ n, g2m W [] n = 0 := fun n => rfl
    have hn : ∀ n, An W [] [] n = SP (An W []) (g2 W) [] n + (if n = 0 then 1 else 0) := fun n => by
      rw [An_nil, pA_g2]
      congr 1
      simp
    have hm : ∀ n, SP (An W []) (g2m W) [] n = 0 := fun n => cv_noneR hz n
    refine Ld_junk (g := fun n => SP (An W []) (g2m W) [] n + (if n = 0 then 1 else 0)) ?_ (fun n => ?_) (fun n hl => ?_)
    · exact ⟨by show SP (An W []) (g2m W) [] 0 + 1 = 1; rw [hm], by decide, fun a ha => absurd ha (by show ¬ a < 0; omega)⟩
    · rw [hn]
      exact Nat.add_le_add_right (SP_le (fun v b => (g2_both v b).1)) _
    · rw [hn] at hl
      obtain ⟨u, v, a, b, e1, e2, ha, hb⟩ := SP_lt (fun v b => (g2_both (W := W) v b).1) (show SP (An W []) (g2m W) [] n < SP (An W []) (g2 W) [] n by omega)
      obtain ⟨m, hm, hA⟩ := g2_junk hb ha
      rw [e1] at hA
      exact ⟨m, by omega, hA⟩
  | succ N ihN =>
    intro i j h1 h2 h3
    by_cases hij : i = j
    · exact ihN i j (by omega) h2 h3
    have ih : ∀ a b, i ≤ a → a ≤ b → b ≤ j → b - a < j - i → Ld (An W [] (seg l a b)) (mcN l W a b) := fun a b k1 k2 k3 k4 => ihN a b (by omega) k2 (by omega)
    obtain ⟨x, hx⟩ : ∃ x, l[i]? = some x := ⟨_, List.getElem?_eq_getElem (by omega)⟩
    have es : seg l i j = x :: seg l (i + 1) j := seg_cons hx (by omega) h3
    have hat : ∀ t, i + t < j → ∃ d, l[i + t]? = some d ∧ seg l (i + t) j = d :: seg l (i + t + 1) j := fun t ht => by
      have e : l[i + t]? = some l[i + t] := List.getElem?_eq_getElem (by omega)
      exact ⟨_, e, seg_cons e ht h3⟩
    -- put first, closed by the text's own
    have L2 : Ld (SP (An W []) (g2m W) (seg l i j)) (sm (fun t => m3 (clM l W (i + t)) (mcN l W i (i + t)) (mcN l W (i + t + 1) j)) (j - i)) := by
      have := Ld_seg (f := An W []) (g := g2m W) (Z := fun t => if i + t < j then m3 (clM l W (i + t)) (mcN l W i (i + t)) (mcN l W (i + t + 1) j) else none) h2 h3 (fun t ht => by
        by_cases hlt : i + t < j
        · rw [if_pos hlt]
          obtain ⟨d, hd, ed⟩ := hat t hlt
          rw [ed, ← mMul_left]
          refine Ld_cv (ih i (i + t) (Nat.le_refl _) (by omega) ht (by omega)) ?_
          have hL : Ld (g2m W (d :: seg l (i + t + 1) j)) (mMul (clM l W (i + t)) (mcN l W (i + t + 1) j)) := by
            unfold clM
            rw [hd]
            dsimp only
            by_cases hc : d ∈ CLO
            · have e1 : g2m W (d :: seg l (i + t + 1) j) = sh (gat W.pt (An W [] (seg l (i + t + 1) j))) := funext fun n => if_pos hc
              rw [e1]
              have := Ld_sh (Ld_gat (b := W.pt) (ih (i + t + 1) j (by omega) (by omega) (Nat.le_refl _) (by omega)))
              by_cases hp : W.pt = true
              · rw [if_pos hp] at this
                rw [if_pos ⟨hc, hp⟩]
                exact this
              · rw [if_neg hp, mMul_none] at this
                rw [if_neg fun q => hp q.2]
                exact this
            · have e1 : g2m W (d :: seg l (i + t + 1) j) = fun _ => 0 := funext fun n => if_neg hc
              rw [e1, if_neg fun q => hc q.1]
              exact Ld_zero
          exact hL
        · rw [if_neg hlt]
          have e : i + t = j := by omega
          rw [e, seg_self]
          exact fun n => cv_noneR (fun _ => rfl) n)
      rw [sm, if_neg (by omega), mAdd_none] at this
      rw [sm_congr (g := fun t => if i + t < j then m3 (clM l W (i + t)) (mcN l W i (i + t)) (mcN l W (i + t + 1) j) else none) fun t ht => by rw [if_pos (by omega)]]
      exact this
    have junk2 : ∀ n, SP (An W []) (g2m W) (seg l i j) n < SP (An W []) (g2 W) (seg l i j) n → ∃ m, m < n ∧ An W [] (seg l i j) m ≠ 0 := fun n hl => by
      obtain ⟨u, v, a, b, e1, e2, ha, hb⟩ := SP_lt (fun v b => (g2_both (W := W) v b).1) hl
      obtain ⟨m, hm, hA⟩ := g2_junk hb ha
      rw [e1] at hA
      exact ⟨m, by omega, hA⟩
    have le2 : ∀ n, SP (An W []) (g2m W) (seg l i j) n ≤ SP (An W []) (g2 W) (seg l i j) n := fun n => SP_le (fun v b => (g2_both v b).1)
    rw [mcN_step (by omega)]
    unfold stM
    have ihr := ih (i + 1) j (by omega) (by omega) (Nat.le_refl _) (by omega)
    by_cases hb : x ∈ BRK
    · -- a bracket
      have Lsg : Ld (sh (gat W.st (An W [] (seg l (i + 1) j)))) (mMul (sgM l W i) (mcN l W (i + 1) j)) := by
        unfold sgM
        rw [hx]
        dsimp only
        rw [if_pos hb]
        have := Ld_sh (Ld_gat (b := W.st) ihr)
        by_cases hp : W.st = true
        · rw [if_pos hp] at this
          rw [if_pos hp]
          exact this
        · rw [if_neg hp, mMul_none] at this
          rw [if_neg hp]
          exact this
      have Lop : Ld (SP (An W []) (g1o W x) (seg l (i + 1) j)) (sm (fun t => m3 (opM l W i) (mcN l W (i + 1) (i + 1 + t)) (mcN l W (i + 1 + t) j)) (j - i)) := by
        have := Ld_seg (f := An W []) (g := g1o W x) (Z := fun t => m3 (opM l W i) (mcN l W (i + 1) (i + 1 + t)) (mcN l W (i + 1 + t) j)) (show i + 1 ≤ j by omega) h3 (fun t ht => by
          rw [← mMul_left]
          refine Ld_cv (ih (i + 1) (i + 1 + t) (by omega) (by omega) ht (by omega)) ?_
          have hr := ih (i + 1 + t) j (by omega) (by omega) (Nat.le_refl _) (by omega)
          unfold opM
          rw [hx]
          dsimp only
          by_cases ho : x ∈ OPN
          · have e1 : g1o W x (seg l (i + 1 + t) j) = sh (gat W.pt (An W [] (seg l (i + 1 + t) j))) := funext fun n => if_pos ho
            rw [e1]
            have := Ld_sh (Ld_gat (b := W.pt) hr)
            by_cases hp : W.pt = true
            · rw [if_pos hp] at this
              rw [if_pos ⟨ho, hp⟩]
              exact this
            · rw [if_neg hp, mMul_none] at this
              rw [if_neg fun q => hp q.2]
              exact this
          · have e1 : g1o W x (seg l (i + 1 + t) j) = fun _ => 0 := funext fun n => if_neg ho
            rw [e1, if_neg fun q => ho q.1]
            exact Ld_zero)
        rw [show j - (i + 1) + 1 = j - i by omega] at this
        exact this
      have Lpr : Ld (SP (An W []) (g1p W x) (seg l (i + 1) j)) (sm (fun t => m3 (prM l W i (i + 1 + t)) (mcN l W (i + 1) (i + 1 + t)) (mcN l W (i + 1 + t + 1) j)) (j - i - 1)) := by
        have := Ld_seg (f := An W []) (g := g1p W x) (Z := fun t => if i + 1 + t < j then m3 (prM l W i (i + 1 + t)) (mcN l W (i + 1) (i + 1 + t)) (mcN l W (i + 1 + t + 1) j) else none) (show i + 1 ≤ j by omega) h3 (fun t ht => by
          by_cases hlt : i + 1 + t < j
          · rw [if_pos hlt]
            obtain ⟨d, hd, ed⟩ := hat (1 + t) (by omega)
            rw [show i + (1 + t) = i + 1 + t by omega] at hd ed
            rw [ed, ← mMul_left]
            refine Ld_cv (ih (i + 1) (i + 1 + t) (by omega) (by omega) ht (by omega)) ?_
            have hr := ih (i + 1 + t + 1) j (by omega) (by omega) (Nat.le_refl _) (by omega)
            unfold prM
            rw [hx, hd]
            dsimp only
            by_cases hg : d ∈ BRK ∧ ((few x d).1 = 0 ∨ W.tn = true)
            · have e1 : g1p W x (d :: seg l (i + 1 + t + 1) j) = cv (mS (few x d)) (An W [] (seg l (i + 1 + t + 1) j)) := funext fun n => if_pos hg
              rw [e1, if_pos ⟨hb, hg⟩]
              exact Ld_cv (Ld_mS (few_pos x hb d hg.1)) hr
            · have e1 : g1p W x (d :: seg l (i + 1 + t + 1) j) = fun _ => 0 := funext fun n => if_neg hg
              rw [e1, if_neg fun q => hg q.2]
              exact Ld_zero
          · rw [if_neg hlt]
            have e : i + 1 + t = j := by omega
            rw [e, seg_self]
            exact fun n => cv_noneR (fun _ => rfl) n)
        rw [sm, if_neg (by omega), mAdd_none] at this
        rw [show j - i - 1 = j - (i + 1) by omega, sm_congr (g := fun t => if i + 1 + t < j then m3 (prM l W i (i + 1 + t)) (mcN l W (i + 1) (i + 1 + t)) (mcN l W (i + 1 + t + 1) j) else none) fun t ht => by rw [if_pos (by omega)]]
        exact this
      have Lall := Ld_add Lsg (Ld_add Lpr (Ld_add Lop L2))
      refine Ld_junk Lall (fun n => ?_) (fun n hl => ?_)
      · have q1 := le2 n
        have q2 : SP (An W []) (g1o W x) (seg l (i + 1) j) n + SP (An W []) (g1p W x) (seg l (i + 1) j) n ≤ SP (An W []) (g1 W x) (seg l (i + 1) j) n := by
          rw [← SP_addR]
          exact SP_le (fun v b => (g1_both hb v b).1)
        have e : An W [] (seg l i j) n = SP (An W []) (g2 W) (seg l i j) n + (sh (gat W.st (An W [] (seg l (i + 1) j))) n + SP (An W []) (g1 W x) (seg l (i + 1) j) n) := by
          rw [es]; exact An_first hb _ n
        rw [e]
        omega
      · have e : An W [] (seg l i j) n = SP (An W []) (g2 W) (seg l i j) n + (sh (gat W.st (An W [] (seg l (i + 1) j))) n + SP (An W []) (g1 W x) (seg l (i + 1) j) n) := by
          rw [es]; exact An_first hb _ n
        rw [e] at hl
        by_cases hc : SP (An W []) (g2m W) (seg l i j) n < SP (An W []) (g2 W) (seg l i j) n
        · exact junk2 n hc
        · have q1 := le2 n
          have hl2 : SP (An W []) (fun v n => g1o W x v n + g1p W x v n) (seg l (i + 1) j) n < SP (An W []) (g1 W x) (seg l (i + 1) j) n := by
            rw [SP_addR]
            omega
          obtain ⟨u, v, a, b, e1, e2, ha, hbb⟩ := SP_lt (fun v b => (g1_both (W := W) hb v b).1) hl2
          obtain ⟨m, hm, hA⟩ := g1_junk hb hbb ha
          rw [e1, ← es] at hA
          exact ⟨m, by omega, hA⟩
    · -- a letter
      have n1 : ∀ m, prM l W i m = none := fun m => by
        unfold prM
        rw [hx]
        cases l[m]? with
        | none => rfl
        | some d => exact if_neg fun q => hb q.1
      have n2 : opM l W i = none := by
        unfold opM
        rw [hx]
        exact if_neg fun q => hb (brk_or.mpr (.inl q.1))
      have n3 : sgM l W i = mOne := by
        unfold sgM
        rw [hx]
        exact if_neg hb
      have z1 : sm (fun t => m3 (prM l W i (i + 1 + t)) (mcN l W (i + 1) (i + 1 + t)) (mcN l W (i + 1 + t + 1) j)) (j - i - 1) = none := by
        refine (sm_congr (g := fun _ => none) fun t _ => ?_).trans (sm_none _)
        rw [n1]
        rfl
      have z2 : sm (fun t => m3 (opM l W i) (mcN l W (i + 1) (i + 1 + t)) (mcN l W (i + 1 + t) j)) (j - i) = none := by
        refine (sm_congr (g := fun _ => none) fun t _ => ?_).trans (sm_none _)
        rw [n2]
        rfl
      rw [z1, z2, n3, mOne_mul, none_mAdd, none_mAdd]
      have e : ∀ n, An W [] (seg l i j) n = SP (An W []) (g2 W) (seg l i j) n + An W [] (seg l (i + 1) j) n := fun n => by
        rw [es]; exact An_firstL hb _ n
      refine Ld_junk (Ld_add ihr L2) (fun n => ?_) (fun n hl => ?_)
      · rw [e]
        have := le2 n
        omega
      · rw [e] at hl
        exact junk2 n (by omega)
theorem Ld_whole {W : Wd} (l : List Nat) : Ld (An W [] l) (mcN l W 0 l.length) := by
  have := Ld_mc (l := l) (W := W) _ 0 l.length (Nat.le_refl _) (Nat.zero_le _) (Nat.le_refl _)
  rw [seg_all] at this
  exact this
end Ly

set_option maxHeartbeats 4000000
namespace Ly
/-! ### with some brackets open: the least number from each place on -/
def clC (W : Wd) (l : List Nat) (k : Nat) (F : Nat → MC) (m : Nat) : MC := mAdd (if W.pt = true then mMul w1 (F m) else none) (match l[m]? with
  | none => none
  | some x => if x = k then F (m + 1) else if x ∈ BRK ∧ W.tn = true then mMul w1 (F (m + 1)) else none)
def LV (W : Wd) (l : List Nat) : List Nat → Nat → MC
  | [], i => mcN l W i l.length
  | k :: st, i => sm (fun t => mMul (mcN l W i (i + t)) (clC W l k (LV W l st) (i + t))) (l.length - i + 1)
/-! ### what can be done at a place, in order -/
def chS (W : Wd) (l : List Nat) (i : Nat) : List Stp := (if W.pt = true then BRK.map Stp.pt else []) ++ (match l[i]? with
  | none => []
  | some x => (if x ∈ BRK ∧ W.st = true then [Stp.st x] else []) ++ ((if x ∈ BRK ∧ W.tn = true then (BRK.filter (· ≠ x)).map (Stp.tn x) else []) ++ [Stp.kp x]))
def Stp.c : Stp → Nat
  | .kp _ => 0
  | _ => 1
/-- the pile behind a step -/
def nxS (st : List Nat) (s : Stp) : Option (List Nat) := s.o.foldl stp (some st)
def aftS (W : Wd) (st l : List Nat) (i n : Nat) (s : Stp) : List (List Stp) := if s.c ≤ n then (match nxS st s with | none => [] | some st' => rowsL W st' (l.drop (i + s.i.length)) (n - s.c)) else []
theorem flatMap_map' {α β γ : Type} (xs : List α) (f : α → β) (g : β → List γ) : (xs.map f).flatMap g = xs.flatMap fun x => g (f x) := by
  induction xs with
  | nil => rfl
  | cons x xs ih => rw [List.map_cons, List.flatMap_cons, List.flatMap_cons, ih]
theorem flatMap_nil' {α β : Type} (xs : List α) : xs.flatMap (fun _ => ([] : List β)) = [] := by
  induction xs with
  | nil => rfl
  | cons x xs ih => rw [List.flatMap_cons, ih]; rfl
theorem flatMap_congr' {α β : Type} {f g : α → List β} : ∀ {xs : List α}, (∀ x ∈ xs, f x = g x) → xs.flatMap f = xs.flatMap g
  | [], _ => rfl
  | x :: xs, h => by rw [List.flatMap_cons, List.flatMap_cons, h x List.mem_cons_self, flatMap_congr' (xs := xs) fun y hy => h y (List.mem_cons_of_mem _ hy)]
theorem rows_ch {W : Wd} {l : List Nat} {st : List Nat} {i n : Nat} (hi : i ≤ l.length) (h : ¬ (i = l.length ∧ st = [] ∧ n = 0)) : rowsL W st (l.drop i) n = (chS W l i).flatMap fun s => (aftS W st l i n s).map (s :: ·) := by
  rw [rowsL.eq_def]
  unfold chS
  rw [List.flatMap_append]
  congr 1
  · cases n with
    | zero =>
      by_cases hp : W.pt = true
      · rw [if_pos hp, flatMap_map']
        exact (flatMap_nil' BRK).symm
      · rw [if_neg hp]; rfl
    | succ n =>
      dsimp only
      by_cases hp : W.pt = true
      · rw [if_pos hp, if_pos hp, flatMap_map']
        refine flatMap_congr' fun c _ => ?_
        show _ = ((if 1 ≤ n + 1 then _ else []) : List (List Stp)).map _
        rw [if_pos (by omega)]
        rfl
      · rw [if_neg hp, if_neg hp]; rfl
  · by_cases hlt : i < l.length
    · have ex : l[i]? = some l[i] := List.getElem?_eq_getElem hlt
      have ed : l.drop i = l[i] :: l.drop (i + 1) := List.drop_eq_getElem_cons hlt
      rw [ex, ed]
      generalize l[i] = x
      dsimp only
      by_cases hb : x ∈ BRK
      · rw [if_pos hb, List.flatMap_append, List.flatMap_append]
        have ek : [Stp.kp x].flatMap (fun s => (aftS W st l i n s).map (s :: ·)) = (match stp (some st) x with | none => [] | some s => rowsL W s (l.drop (i + 1)) n).map (Stp.kp x :: ·) := by
          rw [List.flatMap_cons, List.flatMap_nil, List.append_nil]
          show ((if 0 ≤ n then _ else []) : List (List Stp)).map _ = _
          rw [if_pos (Nat.zero_le _)]
          rfl
        rw [ek, ← List.append_assoc]
        congr 1
        cases n with
        | zero =>
          have z1 : (if x ∈ BRK ∧ W.st = true then [Stp.st x] else []).flatMap (fun s => (aftS W st l i 0 s).map (s :: ·)) = [] := by split <;> rfl
          have z2 : (if x ∈ BRK ∧ W.tn = true then (BRK.filter (· ≠ x)).map (Stp.tn x) else []).flatMap (fun s => (aftS W st l i 0 s).map (s :: ·)) = [] := by
            split
            · rw [flatMap_map']; exact flatMap_nil' _
            · rfl
          rw [z1, z2]
          rfl
        | succ n =>
          dsimp only
          congr 1
          · by_cases hs : W.st = true
            · rw [if_pos hs, if_pos ⟨hb, hs⟩, List.flatMap_cons, List.flatMap_nil, List.append_nil]
              show _ = ((if 1 ≤ n + 1 then _ else []) : List (List Stp)).map _
              rw [if_pos (by omega)]
              rfl
            · rw [if_neg hs, if_neg fun q => hs q.2]; rfl
          · by_cases ht : W.tn = true
            · rw [if_pos ht, if_pos ⟨hb, ht⟩, flatMap_map']
              refine flatMap_congr' fun c _ => ?_
              show _ = ((if 1 ≤ n + 1 then _ else []) : List (List Stp)).map _
              rw [if_pos (by omega)]
              rfl
            · rw [if_neg ht, if_neg fun q => ht q.2]; rfl
      · rw [if_neg hb, if_neg fun q => hb q.1, if_neg fun q => hb q.1]
        show _ = [Stp.kp x].flatMap (fun s => (aftS W st l i n s).map (s :: ·))
        rw [List.flatMap_cons, List.flatMap_nil, List.append_nil]
        have : aftS W st l i n (Stp.kp x) = rowsL W st (l.drop (i + 1)) n := by
          show ((if 0 ≤ n then (match stp (some st) x with | none => [] | some st' => rowsL W st' (l.drop (i + 1)) (n - 0)) else []) : List (List Stp)) = _
          rw [if_pos (Nat.zero_le _), not_brk hb]
          rfl
        rw [this]
    · have ei : i = l.length := by omega
      have ex : l[i]? = none := List.getElem?_eq_none (by omega)
      have ed : l.drop i = [] := List.drop_eq_nil_of_le (by omega)
      rw [ex, ed]
      dsimp only
      rw [if_neg fun q => h ⟨ei, q⟩]
      rfl
/-- how many go on by a step, with just so many deeds -/
def mb (W : Wd) (l : List Nat) (st : List Nat) (i n : Nat) (s : Stp) : Nat := match nxS st s with
  | none => 0
  | some st' => match LV W l st' (i + s.i.length) with
    | none => 0
    | some p => if p.1 + s.c = n then p.2 else 0
theorem ch_in {W : Wd} {l : List Nat} {i : Nat} {s : Stp} (h : s ∈ chS W l i) : i + s.i.length ≤ max i l.length := by
  unfold chS at h
  rcases List.mem_append.mp h with h | h
  · by_cases hp : W.pt = true
    · rw [if_pos hp] at h
      obtain ⟨c, _, rfl⟩ := List.mem_map.mp h
      show i + 0 ≤ _
      omega
    · rw [if_neg hp] at h; cases h
  · by_cases hlt : i < l.length
    · have : s.i.length ≤ 1 := by cases s <;> simp [Stp.i]
      omega
    · rw [List.getElem?_eq_none (by omega)] at h; cases h
end Ly

set_option maxHeartbeats 4000000
namespace Ly
/-! ### how many at most, how great the least number at most -/
/-! ### the row with a number -/
end Ly

set_option maxHeartbeats 4000000
namespace Ly
open PySem PySem.Spec PyProof.Rows L2 SX
/-! ### things side by side -/
theorem pd_imp {α β : Type} {R S : α → β → Prop} (h : ∀ a b, R a b → S a b) : ∀ {xs : List α} {ys : List β}, Paired R xs ys → Paired S xs ys
  | _, _, .nil => .nil
  | _, _, .cons x r => .cons (h _ _ x) (pd_imp h r)
theorem pd_app {α β : Type} {R : α → β → Prop} : ∀ {xs xs' : List α} {ys ys' : List β}, Paired R xs ys → Paired R xs' ys' → Paired R (xs ++ xs') (ys ++ ys')
  | _, _, _, _, .nil, h => h
  | _, _, _, _, .cons x r, h => .cons x (pd_app r h)
theorem pd_len {α β : Type} {R : α → β → Prop} : ∀ {xs : List α} {ys : List β}, Paired R xs ys → xs.length = ys.length
  | _, _, .nil => rfl
  | _, _, .cons x r => by rw [List.length_cons, List.length_cons, pd_len r]
theorem pd_one {α β : Type} {R : α → β → Prop} {x : α} {y : β} (h : R x y) : Paired R [x] [y] := .cons h .nil
/-- a turn through a list and what stands beside it -/
theorem pd_mid {α β : Type} {R : α → β → Prop} : ∀ {pre : List α} {x : α} {post : List α} {ys : List β}, Paired R (pre ++ x :: post) ys → ∃ p y q, ys = p ++ y :: q ∧ p.length = pre.length ∧ R x y ∧ Paired R pre p ∧ Paired R post q
  | [], x, post, _, .cons h r => ⟨[], _, _, rfl, rfl, h, .nil, r⟩
  | a :: pre, x, post, _, .cons h r => by
    obtain ⟨p, y, q, e1, e2, h1, h2, h3⟩ := pd_mid r
    exact ⟨_ :: p, y, q, by rw [e1]; rfl, by rw [List.length_cons, List.length_cons, e2], h1, .cons h h2, h3⟩
end Ly

set_option maxHeartbeats 4000000
namespace Ly
/-! ### so many deeds are enough: strikes and turned pairs, by lists -/
inductive Mx : List Nat → Nat → Prop
  | nil : Mx [] 0
  | let_ {x n : Nat} {r : List Nat} : x ∉ BRK → Mx r n → Mx (x :: r) n
  | str {x n : Nat} {r : List Nat} : x ∈ BRK → Mx r n → Mx (x :: r) (n + 1)
  | pair {x d a b : Nat} {u v : List Nat} : x ∈ BRK → d ∈ BRK → Mx u a → Mx v b → Mx (x :: (u ++ d :: v)) (tns x d + a + b)
theorem Mx.app {u v : List Nat} {a b : Nat} (h : Mx u a) (h2 : Mx v b) : Mx (u ++ v) (a + b) := by
  induction h with
  | nil => rw [Nat.zero_add]; exact h2
  | let_ e _ ih => exact .let_ e ih
  | @str x n r e _ ih =>
    rw [show n + 1 + b = n + b + 1 by omega]
    exact .str e ih
  | @pair x d a b' u v e1 e2 h3 _ _ ih =>
    rw [List.cons_append, List.append_assoc, List.cons_append, Nat.add_assoc]
    exact .pair e1 e2 h3 ih
theorem Mx.one {x : Nat} (h : x ∈ BRK) : Mx [x] 1 := .str h .nil
theorem app_split {α : Type} {u v a z : List α} {d o : α} (h : u ++ d :: v = a ++ o :: z) : (∃ c, u = a ++ o :: c ∧ z = c ++ d :: v) ∨ (u = a ∧ d = o ∧ v = z) ∨ (∃ c, a = u ++ d :: c ∧ v = c ++ o :: z) := by
  rcases List.append_eq_append_iff.mp h with ⟨as, h1, h2⟩ | ⟨bs, h1, h2⟩
  · cases as with
    | nil =>
      rw [List.append_nil] at h1
      cases h2
      exact .inr (.inl ⟨h1.symm, rfl, rfl⟩)
    | cons x as =>
      cases h2
      exact .inr (.inr ⟨as, h1, rfl⟩)
  · cases bs with
    | nil =>
      rw [List.append_nil] at h1
      cases h2
      exact .inr (.inl ⟨h1, rfl, rfl⟩)
    | cons x bs =>
      cases h2
      exact .inl ⟨bs, h1, rfl⟩
theorem Mx.last {w : List Nat} {n : Nat} (h : Mx w n) : ∀ {u : List Nat} {y : Nat}, w = u ++ [y] → y ∈ BRK → (∃ m, Mx u m ∧ m + 1 ≤ n) ∨ (∃ a1 Y a2 p q, u = a1 ++ Y :: a2 ∧ Y ∈ BRK ∧ Mx a1 p ∧ Mx a2 q ∧ tns Y y + p + q ≤ n) := by
  induction h with
  | nil => intro u y e; cases u <;> cases e
  | @let_ x n r hx hr ih =>
    intro u y e hy
    cases u with
    | nil => cases e; exact absurd hy hx
    | cons z u =>
      cases e
      rcases ih rfl hy with ⟨m, h1, h2⟩ | ⟨a1, Y, a2, p, q, rfl, h2, h3, h4, h5⟩
      · exact .inl ⟨m, .let_ hx h1, h2⟩
      · exact .inr ⟨x :: a1, Y, a2, p, q, rfl, h2, .let_ hx h3, h4, h5⟩
  | @str x n r hx hr ih =>
    intro u y e hy
    cases u with
    | nil => cases e; exact .inl ⟨0, .nil, by omega⟩
    | cons z u =>
      cases e
      rcases ih rfl hy with ⟨m, h1, h2⟩ | ⟨a1, Y, a2, p, q, rfl, h2, h3, h4, h5⟩
      · exact .inl ⟨m + 1, .str hx h1, by omega⟩
      · exact .inr ⟨x :: a1, Y, a2, p + 1, q, rfl, h2, .str hx h3, h4, by omega⟩
  | @pair x d a b s v hx hd hs hv ih1 ih2 =>
    intro u y e hy
    cases u with
    | nil =>
      exfalso
      have := congrArg List.length e
      simp at this
    | cons z u =>
      rw [List.cons_append] at e
      have ex : x = z := (List.cons.inj e).1
      subst ex
      rcases app_split (List.cons.inj e).2 with ⟨c, h1, h2⟩ | ⟨h1, h2, h3⟩ | ⟨c, h1, h2⟩
      · exfalso
        cases c <;> cases h2
      · subst h1 h2 h3
        have : b = 0 := by cases hv; rfl
        subst this
        exact .inr ⟨[], x, s, 0, a, rfl, hx, .nil, hs, by omega⟩
      · subst h1
        rcases ih2 h2 hy with ⟨m, g1, g2⟩ | ⟨a1, Y, a2, p, q, rfl, g2, g3, g4, g5⟩
        · exact .inl ⟨tns x d + a + m, .pair hx hd hs g1, by omega⟩
        · exact .inr ⟨x :: (s ++ d :: a1), Y, a2, tns x d + a + p, q, by simp, g2, .pair hx hd hs g3, g4, by omega⟩
/-- the first bracket struck or made a pair -/
theorem Mx.first {x n : Nat} {r : List Nat} (h : Mx (x :: r) n) (hx : x ∈ BRK) : (∃ m, Mx r m ∧ n = m + 1) ∨ (∃ u d v p q, r = u ++ d :: v ∧ d ∈ BRK ∧ Mx u p ∧ Mx v q ∧ n = tns x d + p + q) := by
  cases h with
  | let_ h _ => exact absurd hx h
  | str _ h => exact .inl ⟨_, h, rfl⟩
  | pair _ hd h1 h2 => exact .inr ⟨_, _, _, _, _, rfl, hd, h1, h2, rfl⟩
/-! ### the least number -/
theorem Mx.An {W : Wd} (hs : W.st = true) (ht : W.tn = true) {l : List Nat} {n : Nat} (h : Mx l n) : An W [] l n ≠ 0 := by
  induction h with
  | nil => exact An_pos.mpr ⟨_, Row.nil⟩
  | let_ hx _ ih =>
    obtain ⟨α, ha⟩ := An_pos.mp ih
    exact An_pos.mpr ⟨_, Row.kp (not_brk hx _) ha⟩
  | str hx _ ih =>
    obtain ⟨α, ha⟩ := An_pos.mp ih
    exact An_pos.mpr ⟨_, Row.str hs hx ha⟩
  | @pair x d a b u v hx hd _ _ ih1 ih2 =>
    have := An_app (An_pair hx hd (.inr ht) ih1) ih2
    rw [few_tns x hx d hd, show x :: (u ++ [d]) ++ v = x :: (u ++ d :: v) by simp, show a + tns x d + b = tns x d + a + b by omega] at this
    exact this
/-! a clean text put in -/
end Ly

set_option maxHeartbeats 4000000
namespace Ly
/-! ### rows cut, changed at one place -/
section
variable {W : Wd} {a b : List Nat} {n : Nat}
end
/-! ### laws of the least number -/
def brks (l : List Nat) : List Nat := l.filter fun c => decide (c ∈ BRK)
theorem brks_cons (x : Nat) (l : List Nat) : (brks (x :: l)).length = (if x ∈ BRK then 1 else 0) + (brks l).length := by
  unfold brks
  by_cases h : x ∈ BRK
  · rw [List.filter_cons_of_pos (by simpa using h), List.length_cons, if_pos h]; omega
  · rw [List.filter_cons_of_neg (by simpa using h), if_neg h]; omega
theorem Mx.brks {l : List Nat} {n : Nat} (h : Mx l n) : Mx (brks l) n := by
  induction h with
  | nil => exact .nil
  | let_ hx _ ih =>
    unfold Ly.brks
    rw [List.filter_cons_of_neg (by simpa using hx)]
    exact ih
  | str hx _ ih =>
    unfold Ly.brks
    rw [List.filter_cons_of_pos (by simpa using hx)]
    exact .str hx ih
  | pair hx hd _ _ ih1 ih2 =>
    unfold Ly.brks
    rw [List.filter_cons_of_pos (by simpa using hx), List.filter_append, List.filter_cons_of_pos (by simpa using hd)]
    exact .pair hx hd ih1 ih2
/-! clean texts -/
theorem rows_zero (W : Wd) : ∀ (r st : List Nat), rowsL W st r 0 = if r.foldl stp (some st) = some [] then [r.map Stp.kp] else []
  | [], st => by
    rw [rowsL.eq_def]
    show (if st = [] ∧ 0 = 0 then [[]] else []) = if some st = some [] then [[]] else []
    by_cases h : st = []
    · rw [if_pos ⟨h, rfl⟩, if_pos (by rw [h])]
    · rw [if_neg fun q => h q.1, if_neg fun q => h (Option.some.inj q)]
  | x :: r, st => by
    rw [rowsL.eq_def, List.foldl_cons]
    dsimp only
    rw [List.nil_append]
    by_cases hx : x ∈ BRK
    · rw [if_pos hx, List.nil_append]
      cases hs : stp (some st) x with
      | none => rw [fold_none, if_neg (fun q => nomatch q)]; rfl
      | some s =>
        dsimp only
        rw [rows_zero W r s]
        by_cases hf : r.foldl stp (some s) = some []
        · rw [if_pos hf, if_pos hf]; rfl
        · rw [if_neg hf, if_neg hf]; rfl
    · rw [if_neg hx, not_brk hx, rows_zero W r st]
      by_cases hf : r.foldl stp (some st) = some []
      · rw [if_pos hf, if_pos hf]; rfl
      · rw [if_neg hf, if_neg hf]; rfl
end Ly

set_option maxHeartbeats 4000000
namespace Ly
open PySem PySem.Spec PyProof.Rows L2 SX
/-! ### lists of deeds as values -/
def DdV (H : Hp) (v : V) (d : Deed) : Prop := ∃ r, v = .ref r ∧ H r = some (.tup (ddV d))
theorem DdV.same {H H' : Hp} {v : V} {d : Deed} (h : DdV H v d) (s : Same H H') : DdV H' v d := by
  obtain ⟨r, h1, h2⟩ := h
  exact ⟨r, h1, s _ _ h2⟩
theorem DdV.but {H H' : Hp} {v : V} {d : Deed} {p : Addr} (h : DdV H v d) (b : But p H H') (hp : ∀ ys, H p ≠ some (.tup ys)) : DdV H' v d := by
  obtain ⟨r, h1, h2⟩ := h
  exact ⟨r, h1, b _ _ (fun e => hp _ (by rw [← e]; exact h2)) h2⟩
theorem pd_turn {α β : Type} {R : α → β → Prop} {ys : List α} {ds : List β} {pre post : List α} {x : α} (h : Paired R ys ds) (e : ys = pre ++ x :: post) : ∃ d, R x d ∧ d ∈ ds ∧ ds.take (pre ++ [x]).length = ds.take pre.length ++ [d] := by
  rw [e] at h
  obtain ⟨p, y, q, h1, h2, h3, _, _⟩ := pd_mid h
  subst h1
  refine ⟨y, h3, by simp, ?_⟩
  rw [List.length_append, List.length_singleton, ← h2, List.take_left, show p ++ y :: q = (p ++ [y]) ++ q by simp, show p.length + 1 = (p ++ [y]).length by simp, List.take_left]
/-! ### deeds and rows -/
/-! ### all lists of deeds, one by one -/
end Ly

set_option maxHeartbeats 4000000
namespace Ly
open PySem PySem.Spec PyProof.Rows L2 SX
/-! ### no row stands twice -/
theorem nodup_flat {α : Type} {f : α → List (List α)} : ∀ {xs : List α}, xs.Nodup → (∀ x ∈ xs, (f x).Nodup) → (xs.flatMap fun x => (f x).map (x :: ·)).Nodup
  | [], _, _ => List.nodup_nil
  | x :: xs, h, hf => by
    obtain ⟨h1, h2⟩ := List.nodup_cons.mp h
    rw [List.flatMap_cons]
    refine List.nodup_append.mpr ⟨List.pairwise_map.mpr ((hf x (List.mem_cons_self ..)).imp fun hab e => hab (List.cons.inj e).2), nodup_flat h2 fun y hy => hf y (List.mem_cons_of_mem _ hy), fun a ha b hb e => ?_⟩
    obtain ⟨u, _, rfl⟩ := List.mem_map.mp ha
    obtain ⟨y, hy, hb⟩ := List.mem_flatMap.mp hb
    obtain ⟨w, _, rfl⟩ := List.mem_map.mp hb
    exact h1 ((List.cons.inj e).1 ▸ hy)
theorem brk_nodup : BRK.Nodup := by decide
theorem chS_nodup (W : Wd) (l : List Nat) (i : Nat) : (chS W l i).Nodup := by
  unfold chS
  have hpt : (if W.pt = true then BRK.map Stp.pt else []).Nodup := by
    split
    · exact List.pairwise_map.mpr (brk_nodup.imp fun hab e => hab (by injection e))
    · exact List.nodup_nil
  have hin : ∀ s ∈ (if W.pt = true then BRK.map Stp.pt else []), ∃ c, s = Stp.pt c := fun s hs => by
    split at hs
    · obtain ⟨c, _, rfl⟩ := List.mem_map.mp hs
      exact ⟨c, rfl⟩
    · cases hs
  cases l[i]? with
  | none => rw [List.append_nil]; exact hpt
  | some x =>
    dsimp only
    have h2 : (if x ∈ BRK ∧ W.st = true then [Stp.st x] else []).Nodup := by
      split
      · exact List.nodup_cons.mpr ⟨by simp, List.nodup_nil⟩
      · exact List.nodup_nil
    have i2 : ∀ s ∈ (if x ∈ BRK ∧ W.st = true then [Stp.st x] else []), s = Stp.st x := fun s hs => by
      split at hs
      · exact List.mem_singleton.mp hs
      · cases hs
    have h3 : (if x ∈ BRK ∧ W.tn = true then (BRK.filter (· ≠ x)).map (Stp.tn x) else []).Nodup := by
      split
      · exact List.pairwise_map.mpr ((brk_nodup.filter _).imp fun hab e => hab (by injection e))
      · exact List.nodup_nil
    have i3 : ∀ s ∈ (if x ∈ BRK ∧ W.tn = true then (BRK.filter (· ≠ x)).map (Stp.tn x) else []), ∃ c, s = Stp.tn x c := fun s hs => by
      split at hs
      · obtain ⟨c, _, rfl⟩ := List.mem_map.mp hs
        exact ⟨c, rfl⟩
      · cases hs
    have h4 : ([Stp.kp x] : List Stp).Nodup := List.nodup_cons.mpr ⟨by simp, List.nodup_nil⟩
    refine List.nodup_append.mpr ⟨hpt, List.nodup_append.mpr ⟨h2, List.nodup_append.mpr ⟨h3, h4, fun a ha b hb e => ?_⟩, fun a ha b hb e => ?_⟩, fun a ha b hb e => ?_⟩
    · obtain ⟨c, rfl⟩ := i3 a ha
      rw [List.mem_singleton.mp hb] at e
      cases e
    · rw [i2 a ha] at e
      rcases List.mem_append.mp hb with hb | hb
      · obtain ⟨c, rfl⟩ := i3 b hb
        cases e
      · rw [List.mem_singleton.mp hb] at e
        cases e
    · obtain ⟨c, rfl⟩ := hin a ha
      rcases List.mem_append.mp hb with hb | hb
      · rw [i2 b hb] at e; cases e
      · rcases List.mem_append.mp hb with hb | hb
        · obtain ⟨c', rfl⟩ := i3 b hb
          cases e
        · rw [List.mem_singleton.mp hb] at e
          cases e
theorem rows_nodup {W : Wd} : ∀ (N n : Nat) (r st : List Nat), n + r.length ≤ N → (rowsL W st r n).Nodup := by
  intro N
  induction N with
  | zero =>
    intro n r st h
    have h1 : n = 0 := by omega
    subst h1
    rw [rows_zero]
    split
    · exact List.nodup_cons.mpr ⟨by simp, List.nodup_nil⟩
    · exact List.nodup_nil
  | succ N ih =>
    intro n r st h
    by_cases h0 : 0 = r.length ∧ st = [] ∧ n = 0
    · obtain ⟨h1, h2, rfl⟩ := h0
      rw [rows_zero]
      split
      · exact List.nodup_cons.mpr ⟨by simp, List.nodup_nil⟩
      · exact List.nodup_nil
    · have e := rows_ch (W := W) (l := r) (st := st) (i := 0) (n := n) (Nat.zero_le _) h0
      rw [List.drop_zero] at e
      rw [e]
      refine nodup_flat (chS_nodup W r 0) fun s hs => ?_
      unfold aftS
      split
      · cases nxS st s with
        | none => exact List.nodup_nil
        | some st' =>
          have hin := ch_in hs
          refine ih _ _ _ ?_
          rw [List.length_drop]
          have hc : s.c + s.i.length ≥ 1 := by cases s <;> simp [Stp.c, Stp.i]
          have hl : 0 + s.i.length ≤ r.length := by rw [Nat.zero_max] at hin; exact hin
          omega
      · exact List.nodup_nil
/-! ### the deeds tell the row -/
/-! ### which choice deeds go on by -/
end Ly

set_option maxHeartbeats 4000000
namespace Ly
open PySem PySem.Spec PyProof.Rows L2 SX
/-! ### lists of deeds: which comes first -/
/-! the choices rise -/
/-! list(..), tuple(..) by names -/
/-! dicts of whole numbers, as sets -/
end Ly

set_option maxHeartbeats 4000000
namespace Ly
open PySem PySem.Spec PyProof.Rows L2 SX
section
variable {K : PySem.W.Frag} {σ : L2.St} {H : Hp} {g : TG} {tb : TS} {D : Ends} {a b : Addr} {xs ys : List V}
end
/-! ### the lists of deeds rise, one by one -/
end Ly

set_option maxHeartbeats 4000000
namespace Ly
open PySem PySem.Spec PyProof.Rows L2 SX
/-! ### how many rows: laws by words -/
theorem nd_le {α : Type} [DecidableEq α] : ∀ {xs ys : List α}, xs.Nodup → (∀ x ∈ xs, x ∈ ys) → xs.length ≤ ys.length
  | [], _, _, _ => Nat.zero_le _
  | x :: xs, ys, hn, h => by
    obtain ⟨h1, h2⟩ := List.nodup_cons.mp hn
    have hx := h x (List.mem_cons_self ..)
    have := nd_le (xs := xs) (ys := ys.erase x) h2 fun y hy => (List.mem_erase_of_ne (fun e : y = x => h1 (by rw [← e]; exact hy))).mpr (h y (List.mem_cons_of_mem _ hy))
    rw [List.length_erase_of_mem hx] at this
    have hp := List.length_pos_of_mem hx
    rw [List.length_cons]
    omega
theorem rows_nd {W : Wd} {st r : List Nat} {n : Nat} : (rowsL W st r n).Nodup := rows_nodup _ n r st (Nat.le_refl _)
def wLe (W W' : Wd) : Prop := (W.pt = true → W'.pt = true) ∧ (W.st = true → W'.st = true) ∧ (W.tn = true → W'.tn = true)
theorem wd_mono {W W' : Wd} (h : wLe W W') {s : Stp} (hs : s.wd W) : s.wd W' := by
  cases s with
  | kp c => trivial
  | st c => exact h.2.1 hs
  | tn c d => exact h.2.2 hs
  | pt d => exact h.1 hs
theorem row_mono {W W' : Wd} (h : wLe W W') {st r : List Nat} {n : Nat} {α : List Stp} (hr : Row W st r n α) : Row W' st r n α := ⟨hr.ok, fun s hs => wd_mono h (hr.wd s hs), hr.tx, hr.ct, hr.fo⟩
theorem An_mono {W W' : Wd} (h : wLe W W') (l : List Nat) (n : Nat)   : An W [] l n ≤ An W' [] l n := show (rowsL W [] l n).length ≤ (rowsL W' [] l n).length from nd_le rows_nd fun α hα => mem_rows.mpr (row_mono h (mem_rows.mp hα))
theorem An_bij {W : Wd} {l l' : List Nat} {n : Nat} (F : List Stp → List Stp) (inj : ∀ α β, F α = F β → α = β) (h1 : ∀ α, Row W [] l n α → Row W [] l' n (F α)) (h2 : ∀ α', Row W [] l' n α' → ∃ α, Row W [] l n α ∧ F α = α') : An W [] l' n = An W [] l n := by
  have hnd : ((rowsL W [] l n).map F).Nodup := List.Pairwise.map _ (fun a b h e => h (inj a b e)) rows_nd
  show (rowsL W [] l' n).length = (rowsL W [] l n).length
  refine Nat.le_antisymm ?_ ?_
  · refine Nat.le_trans (nd_le rows_nd (ys := (rowsL W [] l n).map F) fun α hα => ?_) (Nat.le_of_eq (List.length_map ..))
    obtain ⟨β, hb, rfl⟩ := h2 α (mem_rows.mp hα)
    exact List.mem_map.mpr ⟨β, mem_rows.mpr hb, rfl⟩
  · refine Nat.le_trans (Nat.le_of_eq (List.length_map (f := F) ..).symm) (nd_le hnd fun α hα => ?_)
    obtain ⟨β, hb, rfl⟩ := List.mem_map.mp hα
    exact mem_rows.mpr (h1 β (mem_rows.mp hb))
theorem mc_same {W : Wd} {l l' : List Nat} (h : ∀ n, An W [] l' n = An W [] l n) : mcN l' W 0 l'.length = mcN l W 0 l.length := by
  have h1 := Ld_whole (W := W) l'
  rw [show An W [] l' = An W [] l from funext h] at h1
  exact h1.uniq (Ld_whole (W := W) l)
/-! the signs of a row renamed -/
def Stp.mp (f : Nat → Nat) : Stp → Stp
  | .kp c => .kp (f c)
  | .st c => .st (f c)
  | .tn c d => .tn (f c) (f d)
  | .pt d => .pt (f d)
theorem mp_inj {f : Nat → Nat} (inj : ∀ {a b}, f a = f b → a = b) : ∀ {s t : Stp}, s.mp f = t.mp f → s = t := by
  intro s t h
  cases s <;> cases t <;> simp only [Stp.mp, Stp.kp.injEq, Stp.st.injEq, Stp.tn.injEq, Stp.pt.injEq, reduceCtorEq] at h
  · rw [inj h]
  · rw [inj h]
  · rw [inj h.1, inj h.2]
  · rw [inj h]
theorem mp_in (f : Nat → Nat) : ∀ α : List Stp, inS (α.map (Stp.mp f)) = (inS α).map f
  | [] => rfl
  | s :: α => by
    rw [List.map_cons, inS_cons, inS_cons, List.map_append, mp_in f α]
    cases s <;> rfl
theorem mp_out (f : Nat → Nat) : ∀ α : List Stp, outS (α.map (Stp.mp f)) = (outS α).map f
  | [] => rfl
  | s :: α => by
    rw [List.map_cons, outS_cons, outS_cons, List.map_append, mp_out f α]
    cases s <;> rfl
theorem mp_cst (f : Nat → Nat) : ∀ α : List Stp, cstS (α.map (Stp.mp f)) = cstS α
  | [] => rfl
  | .kp c :: α => by show cstS (α.map (Stp.mp f)) = cstS α; exact mp_cst f α
  | .st c :: α => by show cstS (α.map (Stp.mp f)) + 1 = cstS α + 1; rw [mp_cst f α]
  | .tn c d :: α => by show cstS (α.map (Stp.mp f)) + 1 = cstS α + 1; rw [mp_cst f α]
  | .pt d :: α => by show cstS (α.map (Stp.mp f)) + 1 = cstS α + 1; rw [mp_cst f α]
theorem mp_wd {W : Wd} {f : Nat → Nat} {s : Stp} (h : s.wd W) : (s.mp f).wd W := by cases s <;> exact h
theorem mp_ok {f : Nat → Nat} (inj : ∀ {a b}, f a = f b → a = b) (hb : ∀ {c}, c ∈ BRK → f c ∈ BRK) {s : Stp} (h : s.ok) : (s.mp f).ok := by
  cases s with
  | kp c => trivial
  | st c => exact hb h
  | tn c d => exact ⟨hb h.1, hb h.2.1, fun e => h.2.2 (inj e)⟩
  | pt d => exact hb h
theorem ren_brk {f : Nat → Nat} (R : Ren f) {c : Nat} (h : c ∈ BRK) : f c ∈ BRK := by
  rcases brk_or.mp h with h | h
  · exact brk_or.mpr (.inl (R.opn.mpr h))
  · exact brk_or.mpr (.inr (R.clo.mpr h))
theorem ren_onto {f : Nat → Nat} (R : Ren f) {d : Nat} (h : d ∈ BRK) : ∃ c ∈ BRK, f c = d := by
  refine Classical.byContradiction fun hc => ?_
  have hnd : (d :: BRK.map f).Nodup := List.nodup_cons.mpr ⟨fun hm => by
    obtain ⟨c, h1, h2⟩ := List.mem_map.mp hm
    exact hc ⟨c, h1, h2⟩, List.Pairwise.map _ (fun a b h e => h (R.inj e)) (show BRK.Nodup by decide)⟩
  have := nd_le hnd (ys := BRK) fun x hx => by
    rcases List.mem_cons.mp hx with rfl | hx
    · exact h
    · obtain ⟨c, h1, rfl⟩ := List.mem_map.mp hx
      exact ren_brk R h1
  have e : (d :: BRK.map f).length = 9 := by rw [List.length_cons, List.length_map]; rfl
  rw [e] at this
  exact absurd this (by decide)
theorem ren_row {W : Wd} {f : Nat → Nat} (R : Ren f) {l : List Nat} {n : Nat} {α : List Stp} (h : Row W [] l n α) : Row W [] (l.map f) n (α.map (Stp.mp f)) := by
  refine ⟨fun s hs => ?_, fun s hs => ?_, by rw [mp_in, h.tx], by rw [mp_cst, h.ct], ?_⟩
  · obtain ⟨t, ht, rfl⟩ := List.mem_map.mp hs
    exact mp_ok R.inj (ren_brk R) (h.ok t ht)
  · obtain ⟨t, ht, rfl⟩ := List.mem_map.mp hs
    exact mp_wd (h.wd t ht)
  · rw [mp_out]
    exact (ren_clean R _).mpr h.fo
theorem ren_back {f : Nat → Nat} (R : Ren f) : ∀ (α' : List Stp) (l : List Nat), okS α' → inS α' = l.map f → ∃ α, α.map (Stp.mp f) = α' ∧ inS α = l ∧ okS α
  | [], l, _, h => by
    cases l with
    | nil => exact ⟨[], rfl, rfl, fun s hs => by cases hs⟩
    | cons x l => cases h
  | .pt d :: α', l, ho, h => by
    obtain ⟨h1, h2⟩ := okS_cons.mp ho
    obtain ⟨α, e1, e2, e3⟩ := ren_back R α' l h2 h
    obtain ⟨c, hc, rfl⟩ := ren_onto R h1
    exact ⟨.pt c :: α, by rw [List.map_cons, e1]; rfl, e2, okS_cons.mpr ⟨hc, e3⟩⟩
  | .kp d :: α', l, ho, h => by
    obtain ⟨h1, h2⟩ := okS_cons.mp ho
    cases l with
    | nil => cases h
    | cons x l =>
      have h' : d :: inS α' = f x :: l.map f := h
      obtain ⟨h3, h4⟩ := List.cons.inj h'
      obtain ⟨α, e1, e2, e3⟩ := ren_back R α' l h2 h4
      exact ⟨.kp x :: α, by rw [List.map_cons, e1, h3]; rfl, by rw [inS_cons, e2]; rfl, okS_cons.mpr ⟨trivial, e3⟩⟩
  | .st d :: α', l, ho, h => by
    obtain ⟨h1, h2⟩ := okS_cons.mp ho
    cases l with
    | nil => cases h
    | cons x l =>
      have h' : d :: inS α' = f x :: l.map f := h
      obtain ⟨h3, h4⟩ := List.cons.inj h'
      obtain ⟨α, e1, e2, e3⟩ := ren_back R α' l h2 h4
      obtain ⟨c, hc, hcd⟩ := ren_onto R (show d ∈ BRK from h1)
      have hxc : x = c := R.inj (h3.symm.trans hcd.symm)
      exact ⟨.st x :: α, by rw [List.map_cons, e1, h3]; rfl, by rw [inS_cons, e2]; rfl, okS_cons.mpr ⟨show x ∈ BRK from hxc ▸ hc, e3⟩⟩
  | .tn d e :: α', l, ho, h => by
    obtain ⟨h1, h2⟩ := okS_cons.mp ho
    cases l with
    | nil => cases h
    | cons x l =>
      have h' : d :: inS α' = f x :: l.map f := h
      obtain ⟨h3, h4⟩ := List.cons.inj h'
      obtain ⟨α, e1, e2, e3⟩ := ren_back R α' l h2 h4
      obtain ⟨c, hc, hcd⟩ := ren_onto R h1.1
      obtain ⟨c', hc', hcd'⟩ := ren_onto R h1.2.1
      have hxc : x = c := R.inj (h3.symm.trans hcd.symm)
      exact ⟨.tn x c' :: α, by rw [List.map_cons, e1, h3, ← hcd']; rfl, by rw [inS_cons, e2]; rfl, okS_cons.mpr ⟨⟨hxc ▸ hc, hc', fun q => h1.2.2 (by rw [← hcd', ← hcd, q, hxc])⟩, e3⟩⟩
theorem list_map_inj {α β : Type} {g : α → β} (inj : ∀ {a b}, g a = g b → a = b) : ∀ {xs ys : List α}, xs.map g = ys.map g → xs = ys
  | [], [], _ => rfl
  | [], _ :: _, h => by cases h
  | _ :: _, [], h => by cases h
  | x :: xs, y :: ys, h => by
    obtain ⟨h1, h2⟩ := List.cons.inj h
    rw [inj h1, list_map_inj inj h2]
theorem mc_ren {W : Wd} {f : Nat → Nat} (R : Ren f) (l : List Nat) : mcN (l.map f) W 0 (l.map f).length = mcN l W 0 l.length := by
  refine mc_same fun n => An_bij (List.map (Stp.mp f)) (fun α β h => list_map_inj (mp_inj R.inj) h) (fun α h => ren_row R h) fun α' h => ?_
  obtain ⟨α, e1, e2, e3⟩ := ren_back R α' l h.ok h.tx
  refine ⟨α, ⟨e3, fun s hs => ?_, e2, ?_, ?_⟩, e1⟩
  · have := h.wd (s.mp f) (by rw [← e1]; exact List.mem_map.mpr ⟨s, hs, rfl⟩)
    cases s <;> exact this
  · rw [← mp_cst f, e1]; exact h.ct
  · have h4 := h.fo
    rw [← e1, mp_out] at h4
    exact (ren_clean R _).mp h4
/-! a row from behind -/
def abtS (α : List Stp) : List Stp := (α.map (Stp.mp tn)).reverse
theorem inS_rev : ∀ α : List Stp, inS α.reverse = (inS α).reverse
  | [] => rfl
  | s :: α => by
    rw [List.reverse_cons, inS_app, inS_cons s α, List.reverse_append, inS_rev α]
    cases s <;> rfl
theorem outS_rev : ∀ α : List Stp, outS α.reverse = (outS α).reverse
  | [] => rfl
  | s :: α => by
    rw [List.reverse_cons, outS_app, outS_cons s α, List.reverse_append, outS_rev α]
    cases s <;> rfl
theorem cst_rev : ∀ α : List Stp, cstS α.reverse = cstS α
  | [] => rfl
  | s :: α => by
    rw [List.reverse_cons, cstS_app, cst_rev α]
    cases s <;> (first | (show cstS α + 0 = cstS α; rfl) | (show cstS α + 1 = cstS α + 1; rfl))
theorem tn_inj {a b : Nat} (h : tn a = tn b) : a = b := by rw [← tn_tn a, h, tn_tn]
theorem tn_in {c : Nat} (h : c ∈ BRK) : tn c ∈ BRK := by rw [tn_brk h]; exact oth_brk c h
theorem abtS_abtS (α : List Stp) : abtS (abtS α) = α := by
  unfold abtS
  rw [List.map_reverse, List.reverse_reverse, List.map_map]
  have : (Stp.mp tn ∘ Stp.mp tn) = id := funext fun s => by
    cases s <;> simp only [Function.comp, Stp.mp, tn_tn, id]
  rw [this, List.map_id]
theorem abt_row {W : Wd} {l : List Nat} {n : Nat} {α : List Stp} (h : Row W [] l n α) : Row W [] (abt l) n (abtS α) := by
  refine ⟨fun s hs => ?_, fun s hs => ?_, by unfold abtS; rw [inS_rev, mp_in, h.tx]; rfl, by unfold abtS; rw [cst_rev, mp_cst, h.ct], ?_⟩
  · obtain ⟨t, ht, rfl⟩ := List.mem_map.mp (List.mem_reverse.mp hs)
    exact mp_ok tn_inj tn_in (h.ok t ht)
  · obtain ⟨t, ht, rfl⟩ := List.mem_map.mp (List.mem_reverse.mp hs)
    exact mp_wd (h.wd t ht)
  · unfold abtS
    rw [outS_rev, mp_out]
    exact (abt_clean (outS α)).mpr h.fo
theorem mc_abt {W : Wd} (l : List Nat) : mcN (abt l) W 0 (abt l).length = mcN l W 0 l.length := by
  refine mc_same fun n => An_bij abtS (fun α β h => by rw [← abtS_abtS α, h, abtS_abtS]) (fun α h => abt_row h) fun α' h => ⟨abtS α', ?_, abtS_abtS α'⟩
  have := abt_row h
  rw [abt_abt] at this
  exact this
end Ly

set_option maxHeartbeats 4000000
namespace Ly
open PySem PySem.Spec PyProof.Rows L2 SX
/-! ### mended by few words -/
theorem row_cutO : ∀ (α : List Stp) (a b : List Nat) (z : Nat), outS α = a ++ z :: b → ∃ α1 y α2, α = α1 ++ y :: α2 ∧ outS α1 = a ∧ y.o = [z] ∧ outS α2 = b
  | [], a, b, z, h => by cases a <;> cases h
  | s :: α, a, b, z, h => by
    have h' : s.o ++ outS α = a ++ z :: b := h
    have hs : s.o = [] ∨ ∃ c, s.o = [c] := by cases s <;> first | exact .inl rfl | exact .inr ⟨_, rfl⟩
    rcases hs with hs | ⟨c, hs⟩
    · rw [hs, List.nil_append] at h'
      obtain ⟨α1, y, α2, rfl, h1, h2, h3⟩ := row_cutO α a b z h'
      exact ⟨s :: α1, y, α2, rfl, by rw [outS_cons, hs, h1]; rfl, h2, h3⟩
    · rw [hs] at h'
      cases a with
      | nil =>
        obtain ⟨h1, h2⟩ := List.cons.inj h'
        exact ⟨[], s, α, rfl, rfl, by rw [hs, h1], h2⟩
      | cons x a =>
        obtain ⟨h1, h2⟩ := List.cons.inj h'
        obtain ⟨α1, y, α2, rfl, h3, h4, h5⟩ := row_cutO α a b z h2
        exact ⟨s :: α1, y, α2, rfl, by rw [outS_cons, hs, h3, h1]; rfl, h4, h5⟩
/-- without puts, by strikes -/
def nPut (W : Wd) : Wd := ⟨false, true, W.tn⟩
structure Lss (W : Wd) (α β : List Stp) : Prop where
  ok : okS β
  wd : ∀ s ∈ β, s.wd (nPut W)
  tx : inS β = inS α
  ct : cstS β ≤ cstS α
  cl : clean (outS β)
theorem wd_ap {W : Wd} {a b : List Stp} (h1 : ∀ s ∈ a, s.wd W) (h2 : ∀ s ∈ b, s.wd W) : ∀ s ∈ a ++ b, s.wd W := fun s hs => by
  rcases List.mem_append.mp hs with hs | hs
  · exact h1 s hs
  · exact h2 s hs
theorem wd_con {W : Wd} {y : Stp} {b : List Stp} (h1 : y.wd W) (h2 : ∀ s ∈ b, s.wd W) : ∀ s ∈ y :: b, s.wd W := fun s hs => by
  rcases List.mem_cons.mp hs with rfl | hs
  · exact h1
  · exact h2 s hs
theorem nPut_wd {W : Wd} {y : Stp} (h : y.wd W) (hy : ∀ d, y ≠ .pt d) : y.wd (nPut W) := by
  cases y with
  | kp c => trivial
  | st c => rfl
  | tn c d => exact h
  | pt d => exact absurd rfl (hy d)
def Stp.ct : Stp → Nat
  | .kp _ => 0
  | _ => 1
theorem cst_cons (s : Stp) (α : List Stp) : cstS (s :: α) = s.ct + cstS α := by
  cases s with
  | kp c => show cstS α = 0 + cstS α; omega
  | st c => show cstS α + 1 = 1 + cstS α; omega
  | tn c d => show cstS α + 1 = 1 + cstS α; omega
  | pt d => show cstS α + 1 = 1 + cstS α; omega
/-- a sign that is put out is struck, or gone -/
theorem gone {W : Wd} {y : Stp} {z : Nat} (hy : y.ok) (hw : y.wd W) (ho : y.o = [z]) (hz : z ∈ BRK) : ∃ γ : List Stp, okS γ ∧ (∀ s ∈ γ, s.wd (nPut W)) ∧ inS γ = y.i ∧ outS γ = [] ∧ ((∃ d, y = .pt d) → cstS γ = 0) ∧ cstS γ ≤ 1 := by
  cases y with
  | kp c =>
    have hc : c = z := by injection ho
    exact ⟨[.st c], okS_cons.mpr ⟨show c ∈ BRK by rw [hc]; exact hz, fun s hs => (by cases hs)⟩, wd_con rfl (fun s hs => (by cases hs)), rfl, rfl, fun ⟨d, h⟩ => (by cases h), Nat.le_refl _⟩
  | st c => cases ho
  | tn c d => exact ⟨[.st c], okS_cons.mpr ⟨hy.1, fun s hs => (by cases hs)⟩, wd_con rfl (fun s hs => (by cases hs)), rfl, rfl, fun ⟨d, h⟩ => (by cases h), Nat.le_refl _⟩
  | pt d => exact ⟨[], fun s hs => (by cases hs), fun s hs => (by cases hs), rfl, rfl, fun _ => rfl, Nat.zero_le _⟩
theorem noPut {W : Wd} : ∀ (N : Nat) (α : List Stp), α.length ≤ N → okS α → (∀ s ∈ α, s.wd W) → clean (outS α) → ∃ β, Lss W α β
  | _, [], _, _, _, _ => ⟨[], ⟨fun s hs => (by cases hs), fun s hs => (by cases hs), rfl, Nat.le_refl _, clean_nil⟩⟩
  | 0, _ :: _, hl, _, _, _ => by cases hl
  | N + 1, s :: α, hl, ho, hw, hc => by
    obtain ⟨o1, o2⟩ := okS_cons.mp ho
    have w1 : s.wd W := hw s (List.mem_cons_self ..)
    have w2 : ∀ t ∈ α, t.wd W := fun t ht => hw t (List.mem_cons_of_mem _ ht)
    have hl' : α.length ≤ N := by simpa using hl
    have hs : s.o = [] ∨ ∃ c, s.o = [c] := by cases s <;> first | exact .inl rfl | exact .inr ⟨_, rfl⟩
    rw [outS_cons] at hc
    rcases hs with hs | ⟨c, hs⟩
    · rw [hs, List.nil_append] at hc
      obtain ⟨β, hβ⟩ := noPut N α hl' o2 w2 hc
      have hnp : ∀ d, s ≠ .pt d := fun d e => by rw [e] at hs; cases hs
      exact ⟨s :: β, ⟨okS_cons.mpr ⟨o1, hβ.ok⟩, wd_con (nPut_wd w1 hnp) hβ.wd, by rw [inS_cons, inS_cons, hβ.tx], by rw [cst_cons, cst_cons]; have := hβ.ct; omega, by rw [outS_cons, hs]; exact hβ.cl⟩⟩
    · rw [hs] at hc
      have hc' : clean (c :: outS α) := hc
      by_cases h1 : c ∈ OPN
      · obtain ⟨a, b, e, ha, hb⟩ := clean_opn h1 hc'
        obtain ⟨α1, y, α2, rfl, e1, e2, e3⟩ := row_cutO α a b (oth c) e
        have hlen : α1.length ≤ N ∧ α2.length ≤ N := by rw [List.length_append, List.length_cons] at hl'; omega
        have oA : okS α1 := fun t ht => o2 t (List.mem_append_left _ ht)
        have oY : y.ok := o2 y (List.mem_append_right _ (List.mem_cons_self ..))
        have oB : okS α2 := fun t ht => o2 t (List.mem_append_right _ (List.mem_cons_of_mem _ ht))
        have wA : ∀ t ∈ α1, t.wd W := fun t ht => w2 t (List.mem_append_left _ ht)
        have wY : y.wd W := w2 y (List.mem_append_right _ (List.mem_cons_self ..))
        have wB : ∀ t ∈ α2, t.wd W := fun t ht => w2 t (List.mem_append_right _ (List.mem_cons_of_mem _ ht))
        obtain ⟨β1, k1⟩ := noPut N α1 hlen.1 oA wA (by rw [e1]; exact ha)
        obtain ⟨β2, k2⟩ := noPut N α2 hlen.2 oB wB (by rw [e3]; exact hb)
        have kc1 := k1.ct
        have kc2 := k2.ct
        by_cases hsp : (∃ d, s = .pt d) ∨ (∃ d, y = .pt d)
        · obtain ⟨γ, g1, g2, g3, g4, g5, g6⟩ := gone o1 w1 hs (brk_or.mpr (.inl h1))
          obtain ⟨δ, d1, d2, d3, d4, d5, d6⟩ := gone oY wY e2 (brk_or.mpr (.inr (oth_clo c h1)))
          refine ⟨γ ++ (β1 ++ (δ ++ β2)), ⟨okS_app g1 (okS_app k1.ok (okS_app d1 k2.ok)), wd_ap g2 (wd_ap k1.wd (wd_ap d2 k2.wd)), ?_, ?_, ?_⟩⟩
          · rw [inS_app, inS_app, inS_app, g3, k1.tx, d3, k2.tx, inS_cons, inS_app, inS_cons]
          · rw [cstS_app, cstS_app, cstS_app, cst_cons, cstS_app, cst_cons]
            have hs1 : (∃ d, s = .pt d) → s.ct = 1 := fun ⟨d, h⟩ => by rw [h]; rfl
            have hy1 : (∃ d, y = .pt d) → y.ct = 1 := fun ⟨d, h⟩ => by rw [h]; rfl
            rcases hsp with hp | hp
            · have := g5 hp
              have := hs1 hp
              omega
            · have := d5 hp
              have := hy1 hp
              omega
          · rw [outS_app, outS_app, outS_app, g4, d4]
            exact clean_app clean_nil (clean_app k1.cl (clean_app clean_nil k2.cl))
        · have n1 : ∀ d, s ≠ .pt d := fun d e => hsp (.inl ⟨d, e⟩)
          have n2 : ∀ d, y ≠ .pt d := fun d e => hsp (.inr ⟨d, e⟩)
          refine ⟨s :: (β1 ++ y :: β2), ⟨okS_cons.mpr ⟨o1, okS_app k1.ok (okS_cons.mpr ⟨oY, k2.ok⟩)⟩, wd_con (nPut_wd w1 n1) (wd_ap k1.wd (wd_con (nPut_wd wY n2) k2.wd)), ?_, ?_, ?_⟩⟩
          · rw [inS_cons, inS_app, inS_cons, k1.tx, k2.tx, inS_cons, inS_app, inS_cons]
          · rw [cst_cons, cstS_app, cst_cons, cst_cons, cstS_app, cst_cons]
            omega
          · rw [outS_cons, outS_app, outS_cons, hs, e2]
            have hh := clean_app (clean_pair h1 k1.cl) k2.cl
            rw [show [c] ++ (outS β1 ++ ([oth c] ++ outS β2)) = c :: (outS β1 ++ [oth c]) ++ outS β2 by simp]
            exact hh
      · have h2 : c ∉ CLO := fun h2 => clean_clo h2 hc'
        have h3 := (clean_let h1 h2).mp hc'
        obtain ⟨β, hβ⟩ := noPut N α hl' o2 w2 h3
        have hnp : ∀ d, s ≠ .pt d := fun d e => by
          rw [e] at hs o1
          have hd : d = c := by injection hs
          rcases brk_or.mp (show d ∈ BRK from o1) with h | h
          · exact h1 (hd ▸ h)
          · exact h2 (hd ▸ h)
        exact ⟨s :: β, ⟨okS_cons.mpr ⟨o1, hβ.ok⟩, wd_con (nPut_wd w1 hnp) hβ.wd, by rw [inS_cons, inS_cons, hβ.tx], by rw [cst_cons, cst_cons]; have := hβ.ct; omega, by rw [outS_cons, hs]; exact (clean_let h1 h2).mpr hβ.cl⟩⟩
/-! puts for strikes -/
def Stp.nst : Stp → List Stp
  | .st c => if c ∈ OPN then [.kp c, .pt (oth c)] else [.pt (oth c), .kp c]
  | s => [s]
theorem nst_in (s : Stp) : inS s.nst = s.i := by
  cases s with
  | st c => show inS (if c ∈ OPN then [.kp c, .pt (oth c)] else [.pt (oth c), .kp c]) = [c]; split <;> rfl
  | kp c => rfl
  | tn c d => rfl
  | pt d => rfl
theorem nst_ct (s : Stp) : cstS s.nst = s.ct := by
  cases s with
  | st c => show cstS (if c ∈ OPN then [.kp c, .pt (oth c)] else [.pt (oth c), .kp c]) = 1; split <;> rfl
  | kp c => rfl
  | tn c d => rfl
  | pt d => rfl
theorem nst_ok {s : Stp} (h : s.ok) : okS s.nst := by
  cases s with
  | st c =>
    show okS (if c ∈ OPN then [.kp c, .pt (oth c)] else [.pt (oth c), .kp c])
    have hb : oth c ∈ BRK := oth_brk c h
    split
    · exact okS_cons.mpr ⟨trivial, okS_cons.mpr ⟨hb, fun s hs => (by cases hs)⟩⟩
    · exact okS_cons.mpr ⟨hb, okS_cons.mpr ⟨trivial, fun s hs => (by cases hs)⟩⟩
  | kp c => exact okS_cons.mpr ⟨h, fun s hs => (by cases hs)⟩
  | tn c d => exact okS_cons.mpr ⟨h, fun s hs => (by cases hs)⟩
  | pt d => exact okS_cons.mpr ⟨h, fun s hs => (by cases hs)⟩
theorem nst_wd {W : Wd} {s : Stp} (h : s.wd W) : ∀ t ∈ s.nst, t.wd ⟨true, false, W.tn⟩ := by
  cases s with
  | st c =>
    show ∀ t ∈ (if c ∈ OPN then [Stp.kp c, Stp.pt (oth c)] else [Stp.pt (oth c), Stp.kp c] : List Stp), Stp.wd ⟨true, false, W.tn⟩ t
    split
    · exact wd_con trivial (wd_con rfl fun s hs => (by cases hs))
    · exact wd_con rfl (wd_con trivial fun s hs => (by cases hs))
  | kp c => exact wd_con trivial fun s hs => (by cases hs)
  | tn c d => exact wd_con h fun s hs => (by cases hs)
  | pt d => exact wd_con rfl fun s hs => (by cases hs)
theorem nst_fo {s : Stp} (h : s.ok) (o : Option (List Nat)) : (outS s.nst).foldl stp o = s.o.foldl stp o := by
  cases s with
  | st c =>
    show (outS (if c ∈ OPN then [.kp c, .pt (oth c)] else [.pt (oth c), .kp c])).foldl stp o = o
    cases o with
    | none => split <;> rfl
    | some st =>
      split
      · rename_i h1
        show stp (stp (some st) c) (oth c) = some st
        rw [stp_opn h1, stp_clo (oth_clo c h1)]
      · rename_i h1
        have h2 : c ∈ CLO := (brk_or.mp (show c ∈ BRK from h)).resolve_left h1
        show stp (stp (some st) (oth c)) c = some st
        rw [stp_opn (oth_opn c h2), oth_oth c h, stp_clo h2]
  | kp c => rfl
  | tn c d => rfl
  | pt d => rfl
theorem noStr {W : Wd} : ∀ {α : List Stp} {r st : List Nat} {n : Nat}, Row W st r n α → Row ⟨true, false, W.tn⟩ st r n (α.flatMap Stp.nst) := by
  intro α r st n h
  have key : ∀ (α : List Stp), okS α → (∀ s ∈ α, s.wd W) → okS (α.flatMap Stp.nst) ∧ (∀ s ∈ α.flatMap Stp.nst, s.wd ⟨true, false, W.tn⟩) ∧ inS (α.flatMap Stp.nst) = inS α ∧ cstS (α.flatMap Stp.nst) = cstS α ∧ ∀ o : Option (List Nat), (outS (α.flatMap Stp.nst)).foldl stp o = (outS α).foldl stp o := by
    intro α
    induction α with
    | nil => exact fun _ _ => ⟨fun s hs => (by cases hs), fun s hs => (by cases hs), rfl, rfl, fun o => rfl⟩
    | cons s α ih =>
      intro h1 h2
      obtain ⟨h3, h4⟩ := okS_cons.mp h1
      obtain ⟨a1, a2, a3, a4, a5⟩ := ih h4 fun t ht => h2 t (List.mem_cons_of_mem _ ht)
      rw [List.flatMap_cons]
      refine ⟨okS_app (nst_ok h3) a1, wd_ap (nst_wd (h2 s (List.mem_cons_self ..))) a2, by rw [inS_app, nst_in, a3, inS_cons], by rw [cstS_app, nst_ct, a4, cst_cons], fun o => ?_⟩
      rw [outS_app, List.foldl_append, nst_fo h3, a5, outS_cons, List.foldl_append]
  obtain ⟨a1, a2, a3, a4, a5⟩ := key α h.ok h.wd
  exact ⟨a1, a2, by rw [a3, h.tx], by rw [a4, h.ct], by rw [a5, h.fo]⟩
/-! struck and put for turned -/
theorem noTrn {W : Wd} : ∀ (α : List Stp), okS α → ∃ β, okS β ∧ (∀ s ∈ β, s.wd ⟨true, true, false⟩) ∧ inS β = inS α ∧ cstS β ≤ 2 * cstS α ∧ outS β = outS α
  | [], _ => ⟨[], fun s hs => (by cases hs), fun s hs => (by cases hs), rfl, Nat.le_refl _, rfl⟩
  | s :: α, h => by
    obtain ⟨h1, h2⟩ := okS_cons.mp h
    obtain ⟨β, b1, b2, b3, b4, b5⟩ := noTrn (W := W) α h2
    cases s with
    | kp c => exact ⟨.kp c :: β, okS_cons.mpr ⟨h1, b1⟩, wd_con trivial b2, by rw [inS_cons, inS_cons, b3], by rw [cst_cons, cst_cons]; show 0 + cstS β ≤ 2 * (0 + cstS α); omega, by rw [outS_cons, outS_cons, b5]⟩
    | st c => exact ⟨.st c :: β, okS_cons.mpr ⟨h1, b1⟩, wd_con rfl b2, by rw [inS_cons, inS_cons, b3], by rw [cst_cons, cst_cons]; show 1 + cstS β ≤ 2 * (1 + cstS α); omega, by rw [outS_cons, outS_cons, b5]⟩
    | tn c d => exact ⟨.st c :: .pt d :: β, okS_cons.mpr ⟨h1.1, okS_cons.mpr ⟨h1.2.1, b1⟩⟩, wd_con rfl (wd_con rfl b2), by rw [inS_cons, inS_cons, inS_cons, b3]; rfl, by rw [cst_cons, cst_cons, cst_cons]; show 1 + (1 + cstS β) ≤ 2 * (1 + cstS α); omega, by rw [outS_cons, outS_cons, outS_cons, b5]; rfl⟩
    | pt d => exact ⟨.pt d :: β, okS_cons.mpr ⟨h1, b1⟩, wd_con rfl b2, by rw [inS_cons, inS_cons, b3], by rw [cst_cons, cst_cons]; show 1 + cstS β ≤ 2 * (1 + cstS α); omega, by rw [outS_cons, outS_cons, b5]⟩
/-! only turned -/
def wTrn : Wd := ⟨false, false, true⟩
theorem brks_app (a b : List Nat) : (brks (a ++ b)).length = (brks a).length + (brks b).length := by unfold brks; rw [List.filter_append, List.length_append]
theorem trn_brks : ∀ (α : List Stp), okS α → (∀ s ∈ α, s.wd wTrn) → (brks (outS α)).length = (brks (inS α)).length
  | [], _, _ => rfl
  | s :: α, h, hw => by
    obtain ⟨h1, h2⟩ := okS_cons.mp h
    have ih := trn_brks α h2 fun t ht => hw t (List.mem_cons_of_mem _ ht)
    have hs := hw s (List.mem_cons_self ..)
    rw [outS_cons, inS_cons, brks_app, brks_app, ih]
    cases s with
    | kp c => rfl
    | st c => cases hs
    | tn c d =>
      have e1 : (brks [c]).length = 1 := by rw [brks_cons, if_pos h1.1]; rfl
      have e2 : (brks [d]).length = 1 := by rw [brks_cons, if_pos h1.2.1]; rfl
      show (brks [d]).length + _ = (brks [c]).length + _
      rw [e1, e2]
    | pt d => cases hs
theorem brks_cnt : ∀ l : List Nat, (brks l).length = cntO l + cntC l
  | [] => rfl
  | x :: l => by
    have ih := brks_cnt l
    rw [brks_cons, ih]
    unfold cntO cntC
    rw [List.countP_cons, List.countP_cons]
    by_cases h1 : x ∈ OPN
    · have h2 : x ∉ CLO := fun h => opn_clo x h1 h
      have hb : x ∈ BRK := brk_or.mpr (.inl h1)
      simp [h1, h2, hb]
      omega
    · by_cases h2 : x ∈ CLO
      · have hb : x ∈ BRK := brk_or.mpr (.inr h2)
        simp [h1, h2, hb]
        omega
      · have hb : x ∉ BRK := fun h => (brk_or.mp h).elim h1 h2
        simp [h1, h2, hb]
theorem clean_even {l : List Nat} (h : clean l) : (brks l).length % 2 = 0 := by
  rw [brks_cnt, clean_cnt h]
  omega
theorem trn_row : ∀ (l : List Nat) (b : Bool), ((brks l).length + (if b = true then 1 else 0)) % 2 = 0 → ∃ α, okS α ∧ (∀ s ∈ α, s.wd wTrn) ∧ inS α = l ∧ (outS α).foldl stp (some (if b = true then [41] else [])) = some []
  | [], b, h => by
    cases b with
    | true => exact absurd h (by decide)
    | false => exact ⟨[], fun s hs => (by cases hs), fun s hs => (by cases hs), rfl, rfl⟩
  | x :: l, b, h => by
    rw [brks_cons] at h
    by_cases hx : x ∈ BRK
    · rw [if_pos hx] at h
      have step : ∀ z : Nat, z ∈ BRK → ∃ y : Stp, y.ok ∧ y.wd wTrn ∧ y.i = [x] ∧ y.o = [z] := fun z hz => by
        by_cases e : z = x
        · exact ⟨.kp x, trivial, trivial, rfl, by rw [e]; rfl⟩
        · exact ⟨.tn x z, ⟨hx, hz, e⟩, rfl, rfl, rfl⟩
      cases b with
      | true =>
        obtain ⟨α, a1, a2, a3, a4⟩ := trn_row l false (by simp at h ⊢; omega)
        obtain ⟨y, y1, y2, y3, y4⟩ := step 41 (by decide)
        refine ⟨y :: α, okS_cons.mpr ⟨y1, a1⟩, wd_con y2 a2, by rw [inS_cons, y3, a3]; rfl, ?_⟩
        rw [outS_cons, y4, List.foldl_append]
        show (outS α).foldl stp (stp (some [41]) 41) = some []
        rw [stp_clo (by decide)]
        exact a4
      | false =>
        obtain ⟨α, a1, a2, a3, a4⟩ := trn_row l true (by simp at h ⊢; omega)
        obtain ⟨y, y1, y2, y3, y4⟩ := step 40 (by decide)
        refine ⟨y :: α, okS_cons.mpr ⟨y1, a1⟩, wd_con y2 a2, by rw [inS_cons, y3, a3]; rfl, ?_⟩
        rw [outS_cons, y4, List.foldl_append]
        show (outS α).foldl stp (stp (some []) 40) = some []
        rw [stp_opn (by decide)]
        exact a4
    · rw [if_neg hx, Nat.zero_add] at h
      obtain ⟨α, a1, a2, a3, a4⟩ := trn_row l b h
      refine ⟨.kp x :: α, okS_cons.mpr ⟨trivial, a1⟩, wd_con trivial a2, by rw [inS_cons, a3]; rfl, ?_⟩
      rw [outS_cons, List.foldl_append]
      show (outS α).foldl stp (stp (some (if b = true then [41] else [])) x) = some []
      rw [stp_let (fun h1 => hx (brk_or.mpr (.inl h1))) (fun h1 => hx (brk_or.mpr (.inr h1)))]
      exact a4
/-! ### the seven sets of words -/
theorem mc_row {W : Wd} {l : List Nat} {p : Nat × Nat} (h : mcN l W 0 l.length = some p) : ∃ α, Row W [] l p.1 α := by
  have h1 := Ld_whole (W := W) l
  rw [h] at h1
  exact An_pos.mp (by rw [h1.1]; exact h1.2.1)
theorem row_mc {W : Wd} {l : List Nat} {n : Nat} {α : List Stp} (h : Row W [] l n α) : ∃ p, mcN l W 0 l.length = some p ∧ p.1 ≤ n ∧ p.2 ≠ 0 := by
  have h1 := Ld_whole (W := W) l
  have h2 : An W [] l n ≠ 0 := An_pos.mpr ⟨α, h⟩
  cases hm : mcN l W 0 l.length with
  | none => rw [hm] at h1; exact absurd (h1 n) h2
  | some p =>
    rw [hm] at h1
    exact ⟨p, rfl, Nat.le_of_not_lt fun hlt => h2 (h1.2.2 n hlt), h1.2.1⟩
theorem mc_pos {W : Wd} {l : List Nat} {p : Nat × Nat} (h : mcN l W 0 l.length = some p) : p.2 ≠ 0 := by
  have h1 := Ld_whole (W := W) l
  rw [h] at h1
  exact h1.2.1
/-- more words: fewer deeds, or as few and as many ways -/
theorem mc_more {W W' : Wd} (h : wLe W W') {l : List Nat} {p : Nat × Nat} (hp : mcN l W 0 l.length = some p) : ∃ p', mcN l W' 0 l.length = some p' ∧ (p'.1 < p.1 ∨ p'.1 = p.1 ∧ p.2 ≤ p'.2) := by
  obtain ⟨α, hα⟩ := mc_row hp
  obtain ⟨p', h1, h2, h3⟩ := row_mc (row_mono h hα)
  refine ⟨p', h1, ?_⟩
  rcases Nat.lt_or_eq_of_le h2 with h4 | h4
  · exact .inl h4
  · refine .inr ⟨h4, ?_⟩
    have a := Ld_whole (W := W) l
    have b := Ld_whole (W := W') l
    rw [hp] at a
    rw [h1] at b
    have c := An_mono h l p.1
    rw [a.1, ← h4, b.1] at c
    exact c
/-- all struck -/
theorem str_row {W : Wd} (hs : W.st = true) : ∀ l : List Nat, ∃ α, okS α ∧ (∀ s ∈ α, s.wd W) ∧ inS α = l ∧ clean (outS α)
  | [] => ⟨[], fun s hs => (by cases hs), fun s hs => (by cases hs), rfl, clean_nil⟩
  | x :: l => by
    obtain ⟨α, a1, a2, a3, a4⟩ := str_row hs l
    by_cases hx : x ∈ BRK
    · exact ⟨.st x :: α, okS_cons.mpr ⟨hx, a1⟩, wd_con hs a2, by rw [inS_cons, a3]; rfl, a4⟩
    · exact ⟨.kp x :: α, okS_cons.mpr ⟨trivial, a1⟩, wd_con trivial a2, by rw [inS_cons, a3]; rfl, (clean_let (fun h1 => hx (brk_or.mpr (.inl h1))) (fun h1 => hx (brk_or.mpr (.inr h1)))).mpr a4⟩
theorem mc_str {W : Wd} (hs : W.st = true) (l : List Nat) : ∃ p, mcN l W 0 l.length = some p ∧ p.2 ≠ 0 := by
  obtain ⟨α, a1, a2, a3, a4⟩ := str_row hs l
  obtain ⟨p, h1, _, h3⟩ := row_mc (W := W) (l := l) (n := cstS α) (α := α) ⟨a1, a2, a3, rfl, a4⟩
  exact ⟨p, h1, h3⟩
/-- puts, strikes, both: as few -/
theorem mc_ways (t : Bool) (l : List Nat) : ∃ c a b d, mcN l ⟨true, false, t⟩ 0 l.length = some (c, a) ∧ mcN l ⟨false, true, t⟩ 0 l.length = some (c, b) ∧ mcN l ⟨true, true, t⟩ 0 l.length = some (c, d) ∧ a ≠ 0 ∧ b ≠ 0 ∧ d ≠ 0 := by
  obtain ⟨⟨c, d⟩, h1, h2⟩ := mc_str (W := ⟨true, true, t⟩) rfl l
  obtain ⟨α, hα⟩ := mc_row h1
  obtain ⟨⟨c2, b⟩, h3, h4, h5⟩ : ∃ p, mcN l ⟨false, true, t⟩ 0 l.length = some p ∧ p.1 ≤ c ∧ p.2 ≠ 0 := by
    obtain ⟨β, hβ⟩ := noPut (W := ⟨true, true, t⟩) α.length α (Nat.le_refl _) hα.ok hα.wd hα.fo
    obtain ⟨p, k1, k2, k3⟩ := row_mc (W := ⟨false, true, t⟩) (l := l) (n := cstS β) (α := β) ⟨hβ.ok, hβ.wd, by rw [hβ.tx, hα.tx], rfl, hβ.cl⟩
    exact ⟨p, k1, Nat.le_trans k2 (Nat.le_trans hβ.ct (Nat.le_of_eq hα.ct)), k3⟩
  obtain ⟨⟨c3, a⟩, h6, h7, h8⟩ := row_mc (noStr hα)
  obtain ⟨⟨c4, e4⟩, h9, h10⟩ := mc_more (W := ⟨false, true, t⟩) (W' := ⟨true, true, t⟩) ⟨fun h => (by cases h), fun h => h, fun h => h⟩ h3
  obtain ⟨⟨c5, e5⟩, h11, h12⟩ := mc_more (W := ⟨true, false, t⟩) (W' := ⟨true, true, t⟩) ⟨fun h => h, fun h => (by cases h), fun h => h⟩ h6
  rw [h1] at h9 h11
  obtain ⟨rfl, rfl⟩ := Prod.mk.inj (Option.some.inj h9)
  obtain ⟨rfl, rfl⟩ := Prod.mk.inj (Option.some.inj h11)
  have e2 : c2 = c := by
    have : c2 ≤ c := h4
    have : c < c2 ∨ c = c2 ∧ _ := h10
    omega
  have e3 : c3 = c := by
    have : c3 ≤ c := h7
    have : c < c3 ∨ c = c3 ∧ _ := h12
    omega
  subst e2
  subst e3
  exact ⟨_, a, b, d, h6, h3, h1, h8, h5, h2⟩
theorem mc_words (l : List Nat) : ∃ c e a1 a2 a3 b1 b2 b3, mcN l ⟨true, false, false⟩ 0 l.length = some (c, a1) ∧ mcN l ⟨false, true, false⟩ 0 l.length = some (c, a2) ∧ mcN l ⟨true, true, false⟩ 0 l.length = some (c, a3) ∧ mcN l ⟨true, false, true⟩ 0 l.length = some (e, b1) ∧ mcN l ⟨false, true, true⟩ 0 l.length = some (e, b2) ∧ mcN l ⟨true, true, true⟩ 0 l.length = some (e, b3) ∧ e ≤ c ∧ c ≤ 2 * e := by
  obtain ⟨c, a1, a2, a3, h1, h2, h3, _⟩ := mc_ways false l
  obtain ⟨e, b1, b2, b3, k1, k2, k3, _⟩ := mc_ways true l
  refine ⟨c, e, a1, a2, a3, b1, b2, b3, h1, h2, h3, k1, k2, k3, ?_, ?_⟩
  · obtain ⟨p, m1, m2⟩ := mc_more (W := ⟨true, true, false⟩) (W' := ⟨true, true, true⟩) ⟨fun h => h, fun h => h, fun _ => rfl⟩ h3
    rw [k3] at m1
    have := Option.some.inj m1
    subst this
    have m2' : e < c ∨ e = c ∧ _ := m2
    omega
  · obtain ⟨α, hα⟩ := mc_row k3
    obtain ⟨β, g1, g2, g3, g4, g5⟩ := noTrn (W := ⟨true, true, true⟩) α hα.ok
    obtain ⟨p, m1, m2, _⟩ := row_mc (W := ⟨true, true, false⟩) (l := l) (n := cstS β) (α := β) ⟨g1, g2, by rw [g3, hα.tx], rfl, by rw [g5]; exact hα.fo⟩
    rw [h3] at m1
    have := Option.some.inj m1
    subst this
    have hc : cstS α = e := hα.ct
    have m2' : c ≤ cstS β := m2
    omega
theorem mc_turn (l : List Nat) : mcN l wTrn 0 l.length = none ↔ (brks l).length % 2 = 1 := by
  constructor
  · intro h
    refine Classical.byContradiction fun hn => ?_
    obtain ⟨α, a1, a2, a3, a4⟩ := trn_row l false (by simp; omega)
    obtain ⟨p, h1, _⟩ := row_mc (W := wTrn) (l := l) (n := cstS α) (α := α) ⟨a1, a2, a3, rfl, a4⟩
    rw [h] at h1
    cases h1
  · intro h
    cases hm : mcN l wTrn 0 l.length with
    | none => rfl
    | some p =>
      obtain ⟨α, hα⟩ := mc_row hm
      have h1 := trn_brks α hα.ok hα.wd
      rw [hα.tx] at h1
      have h2 := clean_even hα.fo
      omega
end Ly

set_option maxHeartbeats 4000000
namespace Ly
open PySem PySem.Spec PyProof.Rows L2 SX
/-! ### calls without arguments; a method within a comprehension -/
section
variable {X : Cx} {k j : Nat} {x : Str} {sp : Sp} {p pos : Pos}
theorem pe_own0 (c : C8.Cal X.prog X.w X.K X.mg X.base k x sp []) (hr : Room j X.A) (hk : k ≤ j) (hg : Gl X x)
    (hdb : (x == ("__debug__" : Str)) = false := by decide) : PE X (.Call (.Name x p) [] [] pos) (tOwn sp tNil) := by
  obtain ⟨f, fd, ps, ds, F, hm, kp, b, d⟩ := c.ex
  have h : PE X (.Call (.Name x p) [] [] pos) (tCall sp [] C8.E0 tNil) := pe_call0 F (hr.mono hk) hg hm kp b d C8.pass0 hdb
  have e : tCall sp [] C8.E0 tNil = tOwn sp tNil := by
    funext σ H Q
    rfl
  rw [← e]
  exact h
end
section
variable {X : Cx} {K : PySem.W.Frag} {T id : String} {name : Str} {o e : Expr} {es : List Expr} {to : TE} {t : TA} {apos cpos : Pos} {r : V → List V → Hp → VK → Prop}
theorem pe_bmK (hK : X.K = K) (pa : PlainAttrs T) (slot : Slot T name id) (hty : typeOf (.builtin id) = pure (.type "method_descriptor")) (hm : MtR X id r) (ho : PE X o to) (ha : PA X (e :: es) t)
    (hbase : attributeBase o name X.env (eval o X.env) = eval o X.env := by rfl)
    (hfew : ((backTo cpos (starEach (e :: es) X.env)).all (fun x => !x.1) && (backToKw cpos (keywordEach [] X.env)).all (fun x => x.1.isSome)
      && decide ((e :: es).length + ([] : List Keyword).length + (if ([] : List Keyword).isEmpty then 0 else 1) < 30)) = true := by rfl)
    (hline : (apos.endLine == cpos.line) = true := by rfl) (hs : starEach (e :: es) X.env = (false, eval e X.env) :: starEach es X.env := by rfl) (hplain : (backTo cpos (starEach es X.env)).any (·.1) = false := by rfl) :
    PE X (.Call (.Attribute o name apos) (e :: es) [] cpos) (tBM K T r to t) := by
  subst hK
  exact pe_bm pa slot hty hm ho ha hbase hfew hline hs hplain
end
end Ly

set_option maxHeartbeats 4000000
namespace K32
open PySem PySem.Spec PyProof.Rows L2 SX Ly
def topS (i : Nat) : Stmt := PySem.Challenge.pw_nestmend_k32_whole_words_together.main.body.getD i (.Pass ⟨0, 0, 0, 0⟩)
abbrev s_wall : Stmt := topS 0
abbrev s_kind_of : Stmt := topS 4
abbrev N_kind_of : List Str := ["bracket"]
theorem st_kind_of (v0 : V) : L2.start N_kind_of [v0] = [some v0] := rfl
theorem sc_kind_of : FnScope N_kind_of ["bracket"] (defScope s_kind_of) := ⟨rfl, rfl, rfl, by decide +kernel, rfl, by decide +kernel, by decide +kernel⟩
abbrev s_is_letter : Stmt := topS 6
abbrev N_is_letter : List Str := ["sign"]
theorem st_is_letter (v0 : V) : L2.start N_is_letter [v0] = [some v0] := rfl
theorem sc_is_letter : FnScope N_is_letter ["sign"] (defScope s_is_letter) := ⟨rfl, rfl, rfl, by decide +kernel, rfl, by decide +kernel, by decide +kernel⟩
abbrev s_fewest_turns : Stmt := topS 7
abbrev N_fewest_turns : List Str := ["one", "other", "unlike"]
theorem st_fewest_turns (v0 v1 : V) : L2.start N_fewest_turns [v0, v1] = [some v0, some v1, none] := rfl
theorem sc_fewest_turns : FnScope N_fewest_turns ["one", "other"] (defScope s_fewest_turns) := ⟨rfl, rfl, rfl, by decide +kernel, rfl, by decide +kernel, by decide +kernel⟩
abbrev s_least_by : Stmt := topS 10
abbrev N_least_by : List Str := ["text", "words"]
theorem st_least_by (v0 v1 : V) : L2.start N_least_by [v0, v1] = [some v0, some v1] := rfl
theorem sc_least_by : FnScope N_least_by ["text", "words"] (defScope s_least_by) := ⟨rfl, rfl, rfl, by decide +kernel, rfl, by decide +kernel, by decide +kernel⟩
abbrev s_many_by : Stmt := topS 11
abbrev N_many_by : List Str := ["text", "words"]
theorem st_many_by (v0 v1 : V) : L2.start N_many_by [v0, v1] = [some v0, some v1] := rfl
theorem sc_many_by : FnScope N_many_by ["text", "words"] (defScope s_many_by) := ⟨rfl, rfl, rfl, by decide +kernel, rfl, by decide +kernel, by decide +kernel⟩
abbrev s_law_stream : Stmt := topS 13
abbrev N_law_stream : List Str := ["cell", "low"]
theorem st_law_stream (v0 : V) : L2.start N_law_stream [v0] = [some v0, none] := rfl
theorem sc_law_stream : FnScope N_law_stream ["cell"] (defScope s_law_stream) := ⟨rfl, rfl, rfl, by decide +kernel, rfl, by decide +kernel, by decide +kernel⟩
abbrev s_law_take : Stmt := topS 14
abbrev N_law_take : List Str := ["row", "many", "got"]
theorem st_law_take (v0 v1 : V) : L2.start N_law_take [v0, v1] = [some v0, some v1, none] := rfl
theorem sc_law_take : FnScope N_law_take ["row", "many"] (defScope s_law_take) := ⟨rfl, rfl, rfl, by decide +kernel, rfl, by decide +kernel, by decide +kernel⟩
abbrev s_law_bracket : Stmt := topS 15
abbrev N_law_bracket : List Str := ["row", "kinds"]
theorem st_law_bracket (v0 v1 : V) : L2.start N_law_bracket [v0, v1] = [some v0, some v1] := rfl
theorem sc_law_bracket : FnScope N_law_bracket ["row", "kinds"] (defScope s_law_bracket) := ⟨rfl, rfl, rfl, by decide +kernel, rfl, by decide +kernel, by decide +kernel⟩
abbrev s_law_clean : Stmt := topS 16
abbrev N_law_clean : List Str := ["row", "most", "kinds", "text", "k", "at", "kind", "inner"]
theorem st_law_clean (v0 v1 v2 : V) : L2.start N_law_clean [v0, v1, v2] = [some v0, some v1, some v2, none, none, none, none, none] := rfl
theorem sc_law_clean : FnScope N_law_clean ["row", "most", "kinds"] (defScope s_law_clean) := ⟨rfl, rfl, rfl, by decide +kernel, rfl, by decide +kernel, by decide +kernel⟩
abbrev s_law_text : Stmt := topS 17
abbrev N_law_text : List Str := ["row", "most", "kinds", "signs", "letter", "text", "k", "at", "others", "sign"]
theorem st_law_text (v0 v1 : V) : L2.start N_law_text [v0, v1] = [some v0, some v1, none, none, none, none, none, none, none, none] := rfl
theorem sc_law_text : FnScope N_law_text ["row", "most"] (defScope s_law_text) := ⟨rfl, rfl, rfl, by decide +kernel, rfl, by decide +kernel, by decide +kernel⟩
abbrev s_law_words : Stmt := topS 18
abbrev N_law_words : List Str := []
theorem st_law_words : L2.start N_law_words [] = [] := rfl
theorem sc_law_words : FnScope N_law_words [] (defScope s_law_words) := ⟨rfl, rfl, rfl, by decide +kernel, rfl, by decide +kernel, by decide +kernel⟩
abbrev s_law_turned : Stmt := topS 19
abbrev N_law_turned : List Str := ["text", "found", "sign", "at"]
theorem st_law_turned (v0 : V) : L2.start N_law_turned [v0] = [some v0, none, none, none] := rfl
theorem sc_law_turned : FnScope N_law_turned ["text"] (defScope s_law_turned) := ⟨rfl, rfl, rfl, by decide +kernel, rfl, by decide +kernel, by decide +kernel⟩
abbrev s_law_otherwise : Stmt := topS 20
abbrev N_law_otherwise : List Str := ["row", "text", "left", "order", "found", "sign", "k"]
theorem st_law_otherwise (v0 v1 : V) : L2.start N_law_otherwise [v0, v1] = [some v0, some v1, none, none, none, none, none] := rfl
theorem sc_law_otherwise : FnScope N_law_otherwise ["row", "text"] (defScope s_law_otherwise) := ⟨rfl, rfl, rfl, by decide +kernel, rfl, by decide +kernel, by decide +kernel⟩
abbrev s_law_numbers : Stmt := topS 21
abbrev N_law_numbers : List Str := ["text", "words"]
theorem st_law_numbers (v0 : V) : L2.start N_law_numbers [v0] = [some v0, none] := rfl
theorem sc_law_numbers : FnScope N_law_numbers ["text"] (defScope s_law_numbers) := ⟨rfl, rfl, rfl, by decide +kernel, rfl, by decide +kernel, by decide +kernel⟩
abbrev s_law_more : Stmt := topS 22
abbrev N_law_more : List Str := ["less", "more"]
theorem st_law_more (v0 v1 : V) : L2.start N_law_more [v0, v1] = [some v0, some v1] := rfl
theorem sc_law_more : FnScope N_law_more ["less", "more"] (defScope s_law_more) := ⟨rfl, rfl, rfl, by decide +kernel, rfl, by decide +kernel, by decide +kernel⟩
abbrev s_law_right : Stmt := topS 23
abbrev N_law_right : List Str := ["row", "text", "told", "put", "strike", "turn", "two", "over", "under", "whole", "brackets", "sign", "one"]
theorem st_law_right (v0 v1 : V) : L2.start N_law_right [v0, v1] = [some v0, some v1, none, none, none, none, none, none, none, none, none, none, none] := rfl
theorem sc_law_right : FnScope N_law_right ["row", "text"] (defScope s_law_right) := ⟨rfl, rfl, rfl, by decide +kernel, rfl, by decide +kernel, by decide +kernel⟩
abbrev s_law : Stmt := topS 24
abbrev N_law : List Str := ["script", "cell", "row"]
theorem st_law (v0 : V) : L2.start N_law [v0] = [some v0, none, none] := rfl
theorem sc_law : FnScope N_law ["script"] (defScope s_law) := ⟨rfl, rfl, rfl, by decide +kernel, rfl, by decide +kernel, by decide +kernel⟩
abbrev s_Ways_init : Stmt := inClass (topS 8) 0
abbrev N_Ways_init : List Str := ["self", "signs", "words", "sign"]
theorem st_Ways_init (v0 v1 v2 : V) : L2.start N_Ways_init [v0, v1, v2] = [some v0, some v1, some v2, none] := rfl
theorem sc_Ways_init : FnScope N_Ways_init ["self", "signs", "words"] (defScope s_Ways_init) := ⟨rfl, rfl, rfl, by decide +kernel, rfl, by decide +kernel, by decide +kernel⟩
abbrev s_Ways_cost : Stmt := inClass (topS 8) 1
abbrev N_Ways_cost : List Str := ["self", "i", "j"]
theorem st_Ways_cost (v0 v1 v2 : V) : L2.start N_Ways_cost [v0, v1, v2] = [some v0, some v1, some v2] := rfl
theorem sc_Ways_cost : FnScope N_Ways_cost ["self", "i", "j"] (defScope s_Ways_cost) := ⟨rfl, rfl, rfl, by decide +kernel, rfl, by decide +kernel, by decide +kernel⟩
abbrev s_Ways_count : Stmt := inClass (topS 8) 2
abbrev N_Ways_count : List Str := ["self", "i", "j"]
theorem st_Ways_count (v0 v1 v2 : V) : L2.start N_Ways_count [v0, v1, v2] = [some v0, some v1, some v2] := rfl
theorem sc_Ways_count : FnScope N_Ways_count ["self", "i", "j"] (defScope s_Ways_count) := ⟨rfl, rfl, rfl, by decide +kernel, rfl, by decide +kernel, by decide +kernel⟩
abbrev s_Ways_grow : Stmt := inClass (topS 8) 3
abbrev N_Ways_grow : List Str := ["self", "sign", "end", "begin", "told"]
theorem st_Ways_grow (v0 v1 : V) : L2.start N_Ways_grow [v0, v1] = [some v0, some v1, none, none, none] := rfl
theorem sc_Ways_grow : FnScope N_Ways_grow ["self", "sign"] (defScope s_Ways_grow) := ⟨rfl, rfl, rfl, by decide +kernel, rfl, by decide +kernel, by decide +kernel⟩
abbrev s_Ways_reckoned : Stmt := inClass (topS 8) 5
abbrev N_Ways_reckoned : List Str := ["self", "i", "j", "least", "count", "number", "many"]
theorem st_Ways_reckoned (v0 v1 v2 : V) : L2.start N_Ways_reckoned [v0, v1, v2] = [some v0, some v1, some v2, none, none, none, none] := rfl
theorem sc_Ways_reckoned : FnScope N_Ways_reckoned ["self", "i", "j"] (defScope s_Ways_reckoned) := ⟨rfl, rfl, rfl, by decide +kernel, rfl, by decide +kernel, by decide +kernel⟩
abbrev s_Ways_numbers : Stmt := inClass (topS 8) 6
abbrev N_Ways_numbers : List Str := ["self", "i", "j", "found", "sign", "m", "number", "kinds"]
theorem st_Ways_numbers (v0 v1 v2 : V) : L2.start N_Ways_numbers [v0, v1, v2] = [some v0, some v1, some v2, none, none, none, none, none] := rfl
theorem sc_Ways_numbers : FnScope N_Ways_numbers ["self", "i", "j"] (defScope s_Ways_numbers) := ⟨rfl, rfl, rfl, by decide +kernel, rfl, by decide +kernel, by decide +kernel⟩
abbrev s_Ways_note : Stmt := inClass (topS 8) 7
abbrev N_Ways_note : List Str := ["self", "found", "number", "many", "begin", "m", "j", "behind", "inside", "rest"]
theorem st_Ways_note (v0 v1 v2 v3 v4 v5 v6 : V) : L2.start N_Ways_note [v0, v1, v2, v3, v4, v5, v6] = [some v0, some v1, some v2, some v3, some v4, some v5, some v6, none, none, none] := rfl
theorem sc_Ways_note : FnScope N_Ways_note ["self", "found", "number", "many", "begin", "m", "j"] (defScope s_Ways_note) := ⟨rfl, rfl, rfl, by decide +kernel, rfl, by decide +kernel, by decide +kernel⟩
abbrev s_Ways_note_puts : Stmt := inClass (topS 8) 8
abbrev N_Ways_note_puts : List Str := ["self", "found", "i", "j", "m", "number"]
theorem st_Ways_note_puts (v0 v1 v2 v3 : V) : L2.start N_Ways_note_puts [v0, v1, v2, v3] = [some v0, some v1, some v2, some v3, none, none] := rfl
theorem sc_Ways_note_puts : FnScope N_Ways_note_puts ["self", "found", "i", "j"] (defScope s_Ways_note_puts) := ⟨rfl, rfl, rfl, by decide +kernel, rfl, by decide +kernel, by decide +kernel⟩
structure Facts (K : PySem.W.Frag) (mg : Str → Option Value) : Prop where
  f_wall : DefAt K mg "_wall" s_wall ["k"]
  f_kind_of : DefAt K mg "kind_of" s_kind_of ["bracket"]
  f_is_letter : DefAt K mg "is_letter" s_is_letter ["sign"]
  f_fewest_turns : DefAt K mg "fewest_turns" s_fewest_turns ["one", "other"]
  f_least_by : DefAt K mg "least_by" s_least_by ["text", "words"]
  f_many_by : DefAt K mg "many_by" s_many_by ["text", "words"]
  f_law_stream : DefAt K mg "_law_stream" s_law_stream ["cell"]
  f_law_take : DefAt K mg "_law_take" s_law_take ["row", "many"]
  f_law_bracket : DefAt K mg "_law_bracket" s_law_bracket ["row", "kinds"]
  f_law_clean : DefAt K mg "_law_clean" s_law_clean ["row", "most", "kinds"]
  f_law_text : DefAt K mg "_law_text" s_law_text ["row", "most"]
  f_law_words : DefAt K mg "_law_words" s_law_words []
  f_law_turned : DefAt K mg "_law_turned" s_law_turned ["text"]
  f_law_otherwise : DefAt K mg "_law_otherwise" s_law_otherwise ["row", "text"]
  f_law_numbers : DefAt K mg "_law_numbers" s_law_numbers ["text"]
  f_law_more : DefAt K mg "_law_more" s_law_more ["less", "more"]
  f_law_right : DefAt K mg "_law_right" s_law_right ["row", "text"]
  c_OPENING : ∃ u, mg "OPENING" = some u ∧ RelV (Tx OPN) u
  c_CLOSING : ∃ u, mg "CLOSING" = some u ∧ RelV (Tx CLO) u
  b_len : mg "len" = none
  b_int : mg "int" = none
  b_range : mg "range" = none
  b_min : mg "min" = none
  b_all : mg "all" = none
  cl_Ways : Cls K (He.ga K "Ways")
  n_Ways_signs : NoAttr K (He.ga K "Ways") "signs"
  n_Ways_words : NoAttr K (He.ga K "Ways") "words"
  n_Ways_costs : NoAttr K (He.ga K "Ways") "costs"
  n_Ways_counts : NoAttr K (He.ga K "Ways") "counts"
  k_Ways_init : MakAt K mg "Ways" "Ways.__init__" s_Ways_init ["self", "signs", "words"]
  m_Ways_cost : MetAt K "Ways" "cost" "Ways.cost" s_Ways_cost ["self", "i", "j"]
  m_Ways_count : MetAt K "Ways" "count" "Ways.count" s_Ways_count ["self", "i", "j"]
  m_Ways_grow : MetAt K "Ways" "grow" "Ways.grow" s_Ways_grow ["self", "sign"]
  m_Ways_reckoned : MetAt K "Ways" "reckoned" "Ways.reckoned" s_Ways_reckoned ["self", "i", "j"]
  m_Ways_numbers : MetAt K "Ways" "numbers" "Ways.numbers" s_Ways_numbers ["self", "i", "j"]
  m_Ways_note : MetAt K "Ways" "note" "Ways.note" s_Ways_note ["self", "found", "number", "many", "begin", "m", "j"]
  m_Ways_note_puts : MetAt K "Ways" "note_puts" "Ways.note_puts" s_Ways_note_puts ["self", "found", "i", "j"]
end K32

set_option maxHeartbeats 4000000
namespace K32
open PySem PySem.Spec PyProof.Rows L2 SX Ly
local macro_rules | `(tactic| wtm_at "unf") => `(tactic| (try simp only [tMetX, tOwnX, tChain, tSeq, tNext, tBreak, tCont, tDrop, tRet, tRetN, tIfS, tAsg, tAug, tC, tOp, tUn, tNil, tCons, tOwn, tCB, tTest, tB, tAnd, tOr, tNot, tAndV, tOrV, tNotV, tIf, gName, gSub, tBM, tBM0, tM0, tM1, tSl, tPart_eq, tNoPart, tLst_eq, tTup_eq, tRevL_eq, tReplT, tRevS, tDGet_eq, sDPut_eq, tDNewT_eq, tMet, tMak, tFld_eq, sFld_eq, C8.tCut, wipe, tYes, gTup, gCons, gNil, List.set_cons_zero, List.set_cons_succ, if_true, if_false, Bool.false_eq_true, Bool.not_true, Bool.not_false, true_and, reduceIte, cx_K, tFor_eq, tLc_eq, iStr, iList, iTup, iRng1, iRng2, iRng3, iEnum, iZip, tLstRg, tRg1, gLst, RZ.iZipA, iEnumS, iZipS]))
local macro_rules | `(tactic| wtm_at "ne") => `(tactic| first | assumption | (apply Ne.symm; assumption) | (apply ne_new; (· assumption); (· wtm_at "lk")) | (apply Ne.symm; apply ne_new; (· assumption); (· wtm_at "lk")))
local macro_rules | `(tactic| wtm_at "lk") => `(tactic| first | assumption | exact upd_same | (apply Same.get; (· assumption); (· wtm_at "lk")) | (apply But.get; (· assumption); (· wtm_at "ne"); (· wtm_at "lk")))
local macro_rules | `(tactic| wtm_at "sq") => `(tactic| first | assumption | (apply sq_of; wtm_at "lk") | (apply Same.seq; (· assumption); (· wtm_at "sq")) | (apply But.sq; (· assumption); (· wtm_at "ne"); (· wtm_at "sq")))
local macro_rules | `(tactic| wtm_at "fr") => `(tactic| first | assumption | (apply Same.fr; (· assumption); (· wtm_at "sm")) | (apply But.fr; (· assumption); (· wtm_at "sm"); (· wtm_at "ne")))
local macro_rules | `(tactic| wtm_at "sm") => `(tactic| first | exact Same.refl _ | exact But.refl | assumption | (apply Same.tr; (· assumption); (· wtm_at "sm")) | (apply Same.b0; (· assumption); (· wtm_at "sm"); (· wtm_at "fr")) | (apply But.sa; (· assumption); (· wtm_at "sm")) | (apply But.tr; (· assumption); (· wtm_at "sm")) | (apply But.b0; (· assumption); (· wtm_at "sm"); (· wtm_at "fr")) | (apply Same.toBut; wtm_at "sm"))
local macro_rules | `(tactic| wtm_at "sc") => `(tactic| first | exact Int.zero_lt_one | (show (0 : Int) < _; omega) | (show (0 : Int) < _; decide) | exact ⟨by omega, by omega⟩ | exact .inl ⟨by omega, by omega⟩ | exact .inr ⟨by omega, by omega⟩)
local macro_rules | `(tactic| wtm_at "go1") => `(tactic| first | ((with_reducible apply g_var); (· exact rfl)) | with_reducible apply g_I0 | ((with_reducible apply g_I); (· wtm_at "sc")) | with_reducible apply g_U | with_reducible apply g_ipI | ((with_reducible apply g_addT); (· first | omega | (simp; done) | (simp; omega))) | with_reducible apply g_inT | with_reducible apply g_ninT | ((with_reducible apply g_lenT); (· omega)) | with_reducible apply g_findT1 | with_reducible apply g_str | with_reducible apply g_part | with_reducible apply g_intB | ((with_reducible apply g_ixL); (· wtm_at "sq"); (· exact rfl)) | ((with_reducible apply g_setL); (· wtm_at "lk"); (· exact rfl)) | ((with_reducible apply g_eq); (· rfl)) | ((with_reducible apply g_ne); (· rfl)))
local macro_rules | `(tactic| wtm_at "go") => `(tactic| repeat wtm_at "go1")
local macro_rules | `(tactic| wtm_at "lp") => `(tactic| skip)
local macro_rules | `(tactic| wtm_at "om") => `(tactic| first | omega | (simp; done) | (simp; omega) | (simp at *; omega))
local macro_rules | `(tactic| wtm_at "ty") => `(tactic| first | exact ty_str | exact ty_int | exact ty_bl | exact ty_non | (apply ty_lst; wtm_at "lk") | (apply ty_tup; wtm_at "lk"))
local macro_rules | `(tactic| wtm_at "kb") => `(tactic| first | exact kb_str_str | exact kb_str_int | exact kb_str_bool | exact kb_str_list | exact kb_str_tuple | exact kb_int_str | exact kb_int_int | exact kb_int_bool | exact kb_int_list | exact kb_int_tuple | exact kb_bool_str | exact kb_bool_int | exact kb_bool_bool | exact kb_bool_list | exact kb_bool_tuple | exact kb_list_str | exact kb_list_int | exact kb_list_bool | exact kb_list_list | exact kb_list_tuple | exact kb_tuple_str | exact kb_tuple_int | exact kb_tuple_bool | exact kb_tuple_list | exact kb_tuple_tuple | exact kb_NoneType_str | exact kb_NoneType_int | exact kb_NoneType_bool | exact kb_NoneType_list | exact kb_NoneType_tuple | exact kb_dict_str | exact kb_dict_int | exact kb_dict_bool | exact kb_dict_list | exact kb_dict_tuple)
local macro_rules | `(tactic| wtm_at "gx1") => `(tactic| first | ((with_reducible apply g_eqS); (· exact rfl)) | ((with_reducible apply g_neS); (· exact rfl)) | wtm_at "go1" | with_reducible apply g_min2 | with_reducible apply g_max2 | with_reducible apply g_T | with_reducible apply g_F | with_reducible apply g_NT | with_reducible apply g_NF | with_reducible apply g_nT | with_reducible apply g_nF | with_reducible apply g_RT | with_reducible apply g_RF | ((with_reducible apply g_isi); (· wtm_at "ty"); (· wtm_at "kb")) | ((with_reducible apply g_ixAU3); (· wtm_at "lk"); (· exact rfl)) | ((with_reducible apply g_ixAL3); (· wtm_at "lk"); (· exact rfl)) | ((with_reducible apply g_ixU3); (· wtm_at "lk"); (· exact rfl)) | ((with_reducible apply g_lenL3); (· wtm_at "lk")) | ((with_reducible apply g_lenU3); (· wtm_at "lk")) | ((with_reducible apply g_tyL3); (· wtm_at "lk")) | ((with_reducible apply g_lenT); (· wtm_at "pv")) | wtm_at "tr" | with_reducible apply g_ET | with_reducible apply g_EF | with_reducible apply g_EnT | with_reducible apply g_EnF)
local macro_rules | `(tactic| wtm_at "pv") => `(tactic| first | exact rfl | assumption | omega | (simp; done) | (simp; omega))
local macro_rules | `(tactic| wtm_at "tr") => `(tactic| first | ((with_reducible apply g_Td); (· wtm_at "pv")) | ((with_reducible apply g_Fd); (· wtm_at "pv")) | ((with_reducible apply g_NTd); (· wtm_at "pv")) | ((with_reducible apply g_NFd); (· wtm_at "pv")) | ((with_reducible apply g_nTd); (· wtm_at "pv")) | ((with_reducible apply g_nFd); (· wtm_at "pv")) | ((with_reducible apply g_RTd); (· wtm_at "pv")) | ((with_reducible apply g_RFd); (· wtm_at "pv")))
local macro_rules | `(tactic| wtm_at "gx") => `(tactic| repeat wtm_at "gx1")

section
variable {P : Program} {w : World} {K : PySem.W.Frag} {mg : Str → Option Value} {base : Heap}
/-- a row: three ints -/
structure Rw where
  a : Int
  b : Int
  c : Int
  h0 : 0 ≤ b
  h1 : b < 536870909
def Rw.o (P : Rw) : HO := .lst [.int P.a, .int P.b, .int P.c]
/-! _law_stream -/
def sp_law_stream : Sp := fun vs H Q _ => ∃ c : Int, vs = [.int c] ∧ ∀ (p : Addr) (P1 : Rw) (H' : Hp), H p = none → Same H H' → H' p = some P1.o → Q (.ref p) H'
theorem ok_law_stream (T : Facts K mg) : C8.Cal P w K mg base 1 "_law_stream" sp_law_stream [] := by
  refine calD T.f_law_stream sc_law_stream (fun vs H Q E h => ?_) (fun f cdv A outer s H vs Q E hr h => ?_)
  · obtain ⟨c, rfl, q⟩ := h; rfl
  · obtain ⟨c, rfl, q⟩ := h
    refine ⟨_, (pss_cons (ps_set (i := 1) sc_law_stream.nd rfl (Or.inl rfl) (pe_op op_mod (pv 0) pe_int))
       (pss_cons (ps_set (i := 1) sc_law_stream.nd rfl (Or.inl rfl) (pe_op op_mod (pe_op op_add (pe_op op_mul (pe_op op_mod (pe_op op_mul (pv 1) (pv 1)) pe_int) (pe_op op_add (pv 1) pe_int)) pe_int) pe_int))
       (pss_one (ps_ret (pe_lst (pa_cons (pv 0) (pa_cons (pv 1) (pa_cons (pe_callTy call_intB rfl T.b_int (by decide +kernel) (pa_cons (pe_cmpR op_ge (pv 0) (pe_op op_pow pe_int pe_int) (nomark _)) pa_nil)) pa_nil)))))))), ?_⟩
    rw [st_law_stream]
    wtm_at "unf"
    wtm_at "go"
    refine g_lst (by show 3 ≤ 100000; decide) fun p H1 np s1 e1 => ?_
    exact q p ⟨_, _, _, Int.emod_nonneg _ (by decide), Int.emod_lt_of_pos _ (by decide)⟩ H1 np s1 e1
/-! _law_take -/
def sp_law_take : Sp := fun vs H Q _ => ∃ (p : Addr) (P0 : Rw) (m : Int), vs = [.ref p, .int m] ∧ H p = some P0.o ∧ 0 < m ∧ m < 1000000 ∧ ∀ (r : Int) (P1 : Rw) (H' : Hp), 0 ≤ r → r < m → But p H H' → H' p = some P1.o → Q (.int r) H'
theorem ok_law_take (T : Facts K mg) : C8.Cal P w K mg base 1 "_law_take" sp_law_take [] := by
  refine calD T.f_law_take sc_law_take (fun vs H Q E h => ?_) (fun f cdv A outer s H vs Q E hr h => ?_)
  · obtain ⟨p, P0, m, rfl, hp, h0, h1, q⟩ := h; rfl
  · obtain ⟨p, P0, m, rfl, hp, h0, h1, q⟩ := h
    refine ⟨_, (pss_cons (ps_if (pt_cmpR op_eq (pe_ix ix_list (pv 0) pe_int (fun _ _ => rfl)) pe_int (nomark _))
       (pss_cons (ps_set (i := 2) sc_law_take.nd rfl (Or.inl rfl) (pe_op op_mod (pe_ix ix_list (pv 0) pe_int (fun _ _ => rfl)) (pv 1)))
       (pss_cons (ps_asg (pe_op op_fdiv (pe_ix ix_list (pv 0) pe_int (fun _ _ => rfl)) (pv 1)) (pg_sub (pv 0) pe_int set_list))
       (pss_one (ps_ret (pv 2)))))
       pss_nil)
       (pss_cons (ps_asg (pe_op op_mod (pe_op op_mul (pe_op op_add (pe_ix ix_list (pv 0) pe_int (fun _ _ => rfl)) pe_int) (pe_op op_add (pe_ix ix_list (pv 0) pe_int (fun _ _ => rfl)) pe_int)) pe_int) (pg_sub (pv 0) pe_int set_list))
       (pss_one (ps_ret (pe_op op_mod (pe_op op_fdiv (pe_op op_add (pe_op op_mul (pe_ix ix_list (pv 0) pe_int (fun _ _ => rfl)) pe_int) pe_int) pe_int) (pv 1)))))), ?_⟩
    rw [st_law_take]
    have hp' : H p = some (.lst [.int P0.a, .int P0.b, .int P0.c]) := hp
    wtm_at "unf"
    wtm_at "go"
    refine g_testB (fun h => ?_) (fun h => ?_)
    · wtm_at "go"
      intro H2 b2 e2
      wtm_at "go"
      exact q (P0.a % m) ⟨P0.a / m, P0.b, P0.c, P0.h0, P0.h1⟩ H2 (Int.emod_nonneg _ (by omega)) (Int.emod_lt_of_pos _ h0) (by wtm_at "sm") e2
    · have i0 := P0.h0
      have i1 := P0.h1
      wtm_at "go"
      generalize hx : (P0.b + 7919) * (P0.b + 104729) % 536870909 = x
      have x0 : 0 ≤ x := by rw [← hx]; exact Int.emod_nonneg _ (by decide)
      have x1 : x < 536870909 := by rw [← hx]; exact Int.emod_lt_of_pos _ (by decide)
      intro H2 b2 e2
      wtm_at "go"
      exact q _ ⟨P0.a, x, P0.c, x0, x1⟩ H2 (Int.emod_nonneg _ (by omega)) (Int.emod_lt_of_pos _ h0) (by wtm_at "sm") e2
end
end K32

set_option maxHeartbeats 4000000
namespace K32
open PySem PySem.Spec PyProof.Rows L2 SX Ly
local macro_rules | `(tactic| wtm_at "unf") => `(tactic| (try simp only [tMetX, tOwnX, tChain, tSeq, tNext, tBreak, tCont, tDrop, tRet, tRetN, tIfS, tAsg, tAug, tC, tOp, tUn, tNil, tCons, tOwn, tCB, tTest, tB, tAnd, tOr, tNot, tAndV, tOrV, tNotV, tIf, gName, gSub, tBM, tBM0, tM0, tM1, tSl, tPart_eq, tNoPart, tLst_eq, tTup_eq, tRevL_eq, tReplT, tRevS, tDGet_eq, sDPut_eq, tDNewT_eq, tMet, tMak, tFld_eq, sFld_eq, C8.tCut, wipe, tYes, gTup, gCons, gNil, List.set_cons_zero, List.set_cons_succ, if_true, if_false, Bool.false_eq_true, Bool.not_true, Bool.not_false, true_and, reduceIte, cx_K, tFor_eq, tLc_eq, iStr, iList, iTup, iRng1, iRng2, iRng3, iEnum, iZip, tLstRg, tRg1, gLst, RZ.iZipA, iEnumS, iZipS]))
local macro_rules | `(tactic| wtm_at "ne") => `(tactic| first | assumption | (apply Ne.symm; assumption) | (apply ne_new; (· assumption); (· wtm_at "lk")) | (apply Ne.symm; apply ne_new; (· assumption); (· wtm_at "lk")))
local macro_rules | `(tactic| wtm_at "lk") => `(tactic| first | assumption | exact upd_same | (apply Same.get; (· assumption); (· wtm_at "lk")) | (apply But.get; (· assumption); (· wtm_at "ne"); (· wtm_at "lk")))
local macro_rules | `(tactic| wtm_at "sq") => `(tactic| first | assumption | (apply sq_of; wtm_at "lk") | (apply Same.seq; (· assumption); (· wtm_at "sq")) | (apply But.sq; (· assumption); (· wtm_at "ne"); (· wtm_at "sq")))
local macro_rules | `(tactic| wtm_at "fr") => `(tactic| first | assumption | (apply Same.fr; (· assumption); (· wtm_at "sm")) | (apply But.fr; (· assumption); (· wtm_at "sm"); (· wtm_at "ne")))
local macro_rules | `(tactic| wtm_at "sm") => `(tactic| first | exact Same.refl _ | exact But.refl | assumption | (apply Same.tr; (· assumption); (· wtm_at "sm")) | (apply Same.b0; (· assumption); (· wtm_at "sm"); (· wtm_at "fr")) | (apply But.sa; (· assumption); (· wtm_at "sm")) | (apply But.tr; (· assumption); (· wtm_at "sm")) | (apply But.b0; (· assumption); (· wtm_at "sm"); (· wtm_at "fr")) | (apply Same.toBut; wtm_at "sm"))
local macro_rules | `(tactic| wtm_at "sc") => `(tactic| first | exact Int.zero_lt_one | (show (0 : Int) < _; omega) | (show (0 : Int) < _; decide) | exact ⟨by omega, by omega⟩ | exact .inl ⟨by omega, by omega⟩ | exact .inr ⟨by omega, by omega⟩)
local macro_rules | `(tactic| wtm_at "go1") => `(tactic| first | ((with_reducible apply g_var); (· exact rfl)) | with_reducible apply g_I0 | ((with_reducible apply g_I); (· wtm_at "sc")) | with_reducible apply g_U | with_reducible apply g_ipI | ((with_reducible apply g_addT); (· first | omega | (simp; done) | (simp; omega))) | with_reducible apply g_inT | with_reducible apply g_ninT | ((with_reducible apply g_lenT); (· omega)) | with_reducible apply g_findT1 | with_reducible apply g_str | with_reducible apply g_part | with_reducible apply g_intB | ((with_reducible apply g_ixL); (· wtm_at "sq"); (· exact rfl)) | ((with_reducible apply g_setL); (· wtm_at "lk"); (· exact rfl)) | ((with_reducible apply g_eq); (· rfl)) | ((with_reducible apply g_ne); (· rfl)))
local macro_rules | `(tactic| wtm_at "go") => `(tactic| repeat wtm_at "go1")
local macro_rules | `(tactic| wtm_at "lp") => `(tactic| skip)
local macro_rules | `(tactic| wtm_at "om") => `(tactic| first | omega | (simp; done) | (simp; omega) | (simp at *; omega))
local macro_rules | `(tactic| wtm_at "ty") => `(tactic| first | exact ty_str | exact ty_int | exact ty_bl | exact ty_non | (apply ty_lst; wtm_at "lk") | (apply ty_tup; wtm_at "lk"))
local macro_rules | `(tactic| wtm_at "kb") => `(tactic| first | exact kb_str_str | exact kb_str_int | exact kb_str_bool | exact kb_str_list | exact kb_str_tuple | exact kb_int_str | exact kb_int_int | exact kb_int_bool | exact kb_int_list | exact kb_int_tuple | exact kb_bool_str | exact kb_bool_int | exact kb_bool_bool | exact kb_bool_list | exact kb_bool_tuple | exact kb_list_str | exact kb_list_int | exact kb_list_bool | exact kb_list_list | exact kb_list_tuple | exact kb_tuple_str | exact kb_tuple_int | exact kb_tuple_bool | exact kb_tuple_list | exact kb_tuple_tuple | exact kb_NoneType_str | exact kb_NoneType_int | exact kb_NoneType_bool | exact kb_NoneType_list | exact kb_NoneType_tuple | exact kb_dict_str | exact kb_dict_int | exact kb_dict_bool | exact kb_dict_list | exact kb_dict_tuple)
local macro_rules | `(tactic| wtm_at "gx1") => `(tactic| first | ((with_reducible apply g_eqS); (· exact rfl)) | ((with_reducible apply g_neS); (· exact rfl)) | wtm_at "go1" | with_reducible apply g_min2 | with_reducible apply g_max2 | with_reducible apply g_T | with_reducible apply g_F | with_reducible apply g_NT | with_reducible apply g_NF | with_reducible apply g_nT | with_reducible apply g_nF | with_reducible apply g_RT | with_reducible apply g_RF | ((with_reducible apply g_isi); (· wtm_at "ty"); (· wtm_at "kb")) | ((with_reducible apply g_ixAU3); (· wtm_at "lk"); (· exact rfl)) | ((with_reducible apply g_ixAL3); (· wtm_at "lk"); (· exact rfl)) | ((with_reducible apply g_ixU3); (· wtm_at "lk"); (· exact rfl)) | ((with_reducible apply g_lenL3); (· wtm_at "lk")) | ((with_reducible apply g_lenU3); (· wtm_at "lk")) | ((with_reducible apply g_tyL3); (· wtm_at "lk")) | ((with_reducible apply g_lenT); (· wtm_at "pv")) | wtm_at "tr" | with_reducible apply g_ET | with_reducible apply g_EF | with_reducible apply g_EnT | with_reducible apply g_EnF)
local macro_rules | `(tactic| wtm_at "pv") => `(tactic| first | exact rfl | assumption | omega | (simp; done) | (simp; omega))
local macro_rules | `(tactic| wtm_at "tr") => `(tactic| first | ((with_reducible apply g_Td); (· wtm_at "pv")) | ((with_reducible apply g_Fd); (· wtm_at "pv")) | ((with_reducible apply g_NTd); (· wtm_at "pv")) | ((with_reducible apply g_NFd); (· wtm_at "pv")) | ((with_reducible apply g_nTd); (· wtm_at "pv")) | ((with_reducible apply g_nFd); (· wtm_at "pv")) | ((with_reducible apply g_RTd); (· wtm_at "pv")) | ((with_reducible apply g_RFd); (· wtm_at "pv")))
local macro_rules | `(tactic| wtm_at "gx") => `(tactic| repeat wtm_at "gx1")

section
variable {P : Program} {w : World} {K : PySem.W.Frag} {mg : Str → Option Value} {base : Heap}
/-! kind_of -/
def sp_kind_of : Sp := fun vs H Q _ => ∃ c : Nat, vs = [Tx [c]] ∧ c ∈ BRK ∧ Q (.int (knd c)) H
theorem ok_kind_of (T : Facts K mg) : C8.Cal P w K mg base 1 "kind_of" sp_kind_of [] := by
  refine calD T.f_kind_of sc_kind_of (fun vs H Q E h => ?_) (fun f cdv A outer s H vs Q E hr h => ?_)
  · obtain ⟨c, rfl, hc, q⟩ := h; rfl
  · obtain ⟨c, rfl, hc, q⟩ := h
    refine ⟨_, (pss_cons (ps_if (pt_cmpR op_inT (pv 0) (C8.pe_gc rfl T.c_OPENING) (by rfl))
       (pss_one (ps_ret (pe_m1 PySem.F.slot_str_index PySem.F.type_str_index mt_idxT (C8.pe_gc rfl T.c_OPENING) (pv 0))))
       pss_nil)
       (pss_one (ps_ret (pe_m1 PySem.F.slot_str_index PySem.F.type_str_index mt_idxT (C8.pe_gc rfl T.c_CLOSING) (pv 0))))), ?_⟩
    rw [st_kind_of]
    wtm_at "unf"
    wtm_at "go"
    refine g_test (fun h => ?_) (fun h => ?_)
    · wtm_at "go"
      exact g_idxT1 (find_opn c h) q
    · wtm_at "go"
      exact g_idxT1 (find_clo c ((brk_or.mp hc).resolve_left h)) q
/-- a text's signs from behind, each bracket the other one of its kind -/
def oth1 (c : Nat) : Nat := if c ∈ BRK then oth c else c
def about (l : List Nat) : List Nat := (l.map oth1).reverse
end
end K32

set_option maxHeartbeats 4000000
namespace K32
open PySem PySem.Spec PyProof.Rows L2 SX Ly
local macro_rules | `(tactic| wtm_at "unf") => `(tactic| (try simp only [tMetX, tOwnX, tChain, tSeq, tNext, tBreak, tCont, tDrop, tRet, tRetN, tIfS, tAsg, tAug, tC, tOp, tUn, tNil, tCons, tOwn, tCB, tTest, tB, tAnd, tOr, tNot, tAndV, tOrV, tNotV, tIf, gName, gSub, tBM, tBM0, tM0, tM1, tSl, tPart_eq, tNoPart, tLst_eq, tTup_eq, tRevL_eq, tReplT, tRevS, tDGet_eq, sDPut_eq, tDNewT_eq, tMet, tMak, tFld_eq, sFld_eq, C8.tCut, wipe, tYes, gTup, gCons, gNil, List.set_cons_zero, List.set_cons_succ, if_true, if_false, Bool.false_eq_true, Bool.not_true, Bool.not_false, true_and, reduceIte, cx_K, tFor_eq, tLc_eq, iStr, iList, iTup, iRng1, iRng2, iRng3, iEnum, iZip, tLstRg, tRg1, gLst, RZ.iZipA, iEnumS, iZipS]))
local macro_rules | `(tactic| wtm_at "ne") => `(tactic| first | assumption | (apply Ne.symm; assumption) | (apply ne_new; (· assumption); (· wtm_at "lk")) | (apply Ne.symm; apply ne_new; (· assumption); (· wtm_at "lk")))
local macro_rules | `(tactic| wtm_at "lk") => `(tactic| first | assumption | exact upd_same | (apply Same.get; (· assumption); (· wtm_at "lk")) | (apply But.get; (· assumption); (· wtm_at "ne"); (· wtm_at "lk")))
local macro_rules | `(tactic| wtm_at "sq") => `(tactic| first | assumption | (apply sq_of; wtm_at "lk") | (apply Same.seq; (· assumption); (· wtm_at "sq")) | (apply But.sq; (· assumption); (· wtm_at "ne"); (· wtm_at "sq")))
local macro_rules | `(tactic| wtm_at "fr") => `(tactic| first | assumption | (apply Same.fr; (· assumption); (· wtm_at "sm")) | (apply But.fr; (· assumption); (· wtm_at "sm"); (· wtm_at "ne")))
local macro_rules | `(tactic| wtm_at "sm") => `(tactic| first | exact Same.refl _ | exact But.refl | assumption | (apply Same.tr; (· assumption); (· wtm_at "sm")) | (apply Same.b0; (· assumption); (· wtm_at "sm"); (· wtm_at "fr")) | (apply But.sa; (· assumption); (· wtm_at "sm")) | (apply But.tr; (· assumption); (· wtm_at "sm")) | (apply But.b0; (· assumption); (· wtm_at "sm"); (· wtm_at "fr")) | (apply Same.toBut; wtm_at "sm"))
local macro_rules | `(tactic| wtm_at "sc") => `(tactic| first | exact Int.zero_lt_one | (show (0 : Int) < _; omega) | (show (0 : Int) < _; decide) | exact ⟨by omega, by omega⟩ | exact .inl ⟨by omega, by omega⟩ | exact .inr ⟨by omega, by omega⟩)
local macro_rules | `(tactic| wtm_at "go1") => `(tactic| first | ((with_reducible apply g_var); (· exact rfl)) | with_reducible apply g_I0 | ((with_reducible apply g_I); (· wtm_at "sc")) | with_reducible apply g_U | with_reducible apply g_ipI | ((with_reducible apply g_addT); (· first | omega | (simp; done) | (simp; omega))) | with_reducible apply g_inT | with_reducible apply g_ninT | ((with_reducible apply g_lenT); (· omega)) | with_reducible apply g_findT1 | with_reducible apply g_str | with_reducible apply g_part | with_reducible apply g_intB | ((with_reducible apply g_ixL); (· wtm_at "sq"); (· exact rfl)) | ((with_reducible apply g_setL); (· wtm_at "lk"); (· exact rfl)) | ((with_reducible apply g_eq); (· rfl)) | ((with_reducible apply g_ne); (· rfl)))
local macro_rules | `(tactic| wtm_at "go") => `(tactic| repeat wtm_at "go1")
local macro_rules | `(tactic| wtm_at "lp") => `(tactic| skip)
local macro_rules | `(tactic| wtm_at "om") => `(tactic| first | omega | (simp; done) | (simp; omega) | (simp at *; omega))
local macro_rules | `(tactic| wtm_at "ty") => `(tactic| first | exact ty_str | exact ty_int | exact ty_bl | exact ty_non | (apply ty_lst; wtm_at "lk") | (apply ty_tup; wtm_at "lk"))
local macro_rules | `(tactic| wtm_at "kb") => `(tactic| first | exact kb_str_str | exact kb_str_int | exact kb_str_bool | exact kb_str_list | exact kb_str_tuple | exact kb_int_str | exact kb_int_int | exact kb_int_bool | exact kb_int_list | exact kb_int_tuple | exact kb_bool_str | exact kb_bool_int | exact kb_bool_bool | exact kb_bool_list | exact kb_bool_tuple | exact kb_list_str | exact kb_list_int | exact kb_list_bool | exact kb_list_list | exact kb_list_tuple | exact kb_tuple_str | exact kb_tuple_int | exact kb_tuple_bool | exact kb_tuple_list | exact kb_tuple_tuple | exact kb_NoneType_str | exact kb_NoneType_int | exact kb_NoneType_bool | exact kb_NoneType_list | exact kb_NoneType_tuple | exact kb_dict_str | exact kb_dict_int | exact kb_dict_bool | exact kb_dict_list | exact kb_dict_tuple)
local macro_rules | `(tactic| wtm_at "gx1") => `(tactic| first | ((with_reducible apply g_eqS); (· exact rfl)) | ((with_reducible apply g_neS); (· exact rfl)) | wtm_at "go1" | with_reducible apply g_min2 | with_reducible apply g_max2 | with_reducible apply g_T | with_reducible apply g_F | with_reducible apply g_NT | with_reducible apply g_NF | with_reducible apply g_nT | with_reducible apply g_nF | with_reducible apply g_RT | with_reducible apply g_RF | ((with_reducible apply g_isi); (· wtm_at "ty"); (· wtm_at "kb")) | ((with_reducible apply g_ixAU3); (· wtm_at "lk"); (· exact rfl)) | ((with_reducible apply g_ixAL3); (· wtm_at "lk"); (· exact rfl)) | ((with_reducible apply g_ixU3); (· wtm_at "lk"); (· exact rfl)) | ((with_reducible apply g_lenL3); (· wtm_at "lk")) | ((with_reducible apply g_lenU3); (· wtm_at "lk")) | ((with_reducible apply g_tyL3); (· wtm_at "lk")) | ((with_reducible apply g_lenT); (· wtm_at "pv")) | wtm_at "tr" | with_reducible apply g_ET | with_reducible apply g_EF | with_reducible apply g_EnT | with_reducible apply g_EnF)
local macro_rules | `(tactic| wtm_at "pv") => `(tactic| first | exact rfl | assumption | omega | (simp; done) | (simp; omega))
local macro_rules | `(tactic| wtm_at "tr") => `(tactic| first | ((with_reducible apply g_Td); (· wtm_at "pv")) | ((with_reducible apply g_Fd); (· wtm_at "pv")) | ((with_reducible apply g_NTd); (· wtm_at "pv")) | ((with_reducible apply g_NFd); (· wtm_at "pv")) | ((with_reducible apply g_nTd); (· wtm_at "pv")) | ((with_reducible apply g_nFd); (· wtm_at "pv")) | ((with_reducible apply g_RTd); (· wtm_at "pv")) | ((with_reducible apply g_RFd); (· wtm_at "pv")))
local macro_rules | `(tactic| wtm_at "gx") => `(tactic| repeat wtm_at "gx1")

section
variable {P : Program} {w : World} {K : PySem.W.Frag} {mg : Str → Option Value} {base : Heap}
end
end K32

set_option maxHeartbeats 4000000
namespace K32
open PySem PySem.Spec PyProof.Rows L2 SX Ly
local macro_rules | `(tactic| wtm_at "unf") => `(tactic| (try simp only [tMetX, tOwnX, tChain, tSeq, tNext, tBreak, tCont, tDrop, tRet, tRetN, tIfS, tAsg, tAug, tC, tOp, tUn, tNil, tCons, tOwn, tCB, tTest, tB, tAnd, tOr, tNot, tAndV, tOrV, tNotV, tIf, gName, gSub, tBM, tBM0, tM0, tM1, tSl, tPart_eq, tNoPart, tLst_eq, tTup_eq, tRevL_eq, tReplT, tRevS, tDGet_eq, sDPut_eq, tDNewT_eq, tMet, tMak, tFld_eq, sFld_eq, C8.tCut, wipe, tYes, gTup, gCons, gNil, List.set_cons_zero, List.set_cons_succ, if_true, if_false, Bool.false_eq_true, Bool.not_true, Bool.not_false, true_and, reduceIte, cx_K, tFor_eq, tLc_eq, iStr, iList, iTup, iRng1, iRng2, iRng3, iEnum, iZip, tLstRg, tRg1, gLst, RZ.iZipA, iEnumS, iZipS]))
local macro_rules | `(tactic| wtm_at "ne") => `(tactic| first | assumption | (apply Ne.symm; assumption) | (apply ne_new; (· assumption); (· wtm_at "lk")) | (apply Ne.symm; apply ne_new; (· assumption); (· wtm_at "lk")))
local macro_rules | `(tactic| wtm_at "lk") => `(tactic| first | assumption | exact upd_same | (apply Same.get; (· assumption); (· wtm_at "lk")) | (apply But.get; (· assumption); (· wtm_at "ne"); (· wtm_at "lk")))
local macro_rules | `(tactic| wtm_at "sq") => `(tactic| first | assumption | (apply sq_of; wtm_at "lk") | (apply Same.seq; (· assumption); (· wtm_at "sq")) | (apply But.sq; (· assumption); (· wtm_at "ne"); (· wtm_at "sq")))
local macro_rules | `(tactic| wtm_at "fr") => `(tactic| first | assumption | (apply Same.fr; (· assumption); (· wtm_at "sm")) | (apply But.fr; (· assumption); (· wtm_at "sm"); (· wtm_at "ne")))
local macro_rules | `(tactic| wtm_at "sm") => `(tactic| first | exact Same.refl _ | exact But.refl | assumption | (apply Same.tr; (· assumption); (· wtm_at "sm")) | (apply Same.b0; (· assumption); (· wtm_at "sm"); (· wtm_at "fr")) | (apply But.sa; (· assumption); (· wtm_at "sm")) | (apply But.tr; (· assumption); (· wtm_at "sm")) | (apply But.b0; (· assumption); (· wtm_at "sm"); (· wtm_at "fr")) | (apply Same.toBut; wtm_at "sm"))
local macro_rules | `(tactic| wtm_at "sc") => `(tactic| first | exact Int.zero_lt_one | (show (0 : Int) < _; omega) | (show (0 : Int) < _; decide) | exact ⟨by omega, by omega⟩ | exact .inl ⟨by omega, by omega⟩ | exact .inr ⟨by omega, by omega⟩)
local macro_rules | `(tactic| wtm_at "go1") => `(tactic| first | ((with_reducible apply g_var); (· exact rfl)) | with_reducible apply g_I0 | ((with_reducible apply g_I); (· wtm_at "sc")) | with_reducible apply g_U | with_reducible apply g_ipI | ((with_reducible apply g_addT); (· first | omega | (simp; done) | (simp; omega))) | with_reducible apply g_inT | with_reducible apply g_ninT | ((with_reducible apply g_lenT); (· omega)) | with_reducible apply g_findT1 | with_reducible apply g_str | with_reducible apply g_part | with_reducible apply g_intB | ((with_reducible apply g_ixL); (· wtm_at "sq"); (· exact rfl)) | ((with_reducible apply g_setL); (· wtm_at "lk"); (· exact rfl)) | ((with_reducible apply g_eq); (· rfl)) | ((with_reducible apply g_ne); (· rfl)))
local macro_rules | `(tactic| wtm_at "go") => `(tactic| repeat wtm_at "go1")
local macro_rules | `(tactic| wtm_at "lp") => `(tactic| skip)
local macro_rules | `(tactic| wtm_at "om") => `(tactic| first | omega | (simp; done) | (simp; omega) | (simp at *; omega))
local macro_rules | `(tactic| wtm_at "ty") => `(tactic| first | exact ty_str | exact ty_int | exact ty_bl | exact ty_non | (apply ty_lst; wtm_at "lk") | (apply ty_tup; wtm_at "lk"))
local macro_rules | `(tactic| wtm_at "kb") => `(tactic| first | exact kb_str_str | exact kb_str_int | exact kb_str_bool | exact kb_str_list | exact kb_str_tuple | exact kb_int_str | exact kb_int_int | exact kb_int_bool | exact kb_int_list | exact kb_int_tuple | exact kb_bool_str | exact kb_bool_int | exact kb_bool_bool | exact kb_bool_list | exact kb_bool_tuple | exact kb_list_str | exact kb_list_int | exact kb_list_bool | exact kb_list_list | exact kb_list_tuple | exact kb_tuple_str | exact kb_tuple_int | exact kb_tuple_bool | exact kb_tuple_list | exact kb_tuple_tuple | exact kb_NoneType_str | exact kb_NoneType_int | exact kb_NoneType_bool | exact kb_NoneType_list | exact kb_NoneType_tuple | exact kb_dict_str | exact kb_dict_int | exact kb_dict_bool | exact kb_dict_list | exact kb_dict_tuple)
local macro_rules | `(tactic| wtm_at "gx1") => `(tactic| first | ((with_reducible apply g_eqS); (· exact rfl)) | ((with_reducible apply g_neS); (· exact rfl)) | wtm_at "go1" | with_reducible apply g_min2 | with_reducible apply g_max2 | with_reducible apply g_T | with_reducible apply g_F | with_reducible apply g_NT | with_reducible apply g_NF | with_reducible apply g_nT | with_reducible apply g_nF | with_reducible apply g_RT | with_reducible apply g_RF | ((with_reducible apply g_isi); (· wtm_at "ty"); (· wtm_at "kb")) | ((with_reducible apply g_ixAU3); (· wtm_at "lk"); (· exact rfl)) | ((with_reducible apply g_ixAL3); (· wtm_at "lk"); (· exact rfl)) | ((with_reducible apply g_ixU3); (· wtm_at "lk"); (· exact rfl)) | ((with_reducible apply g_lenL3); (· wtm_at "lk")) | ((with_reducible apply g_lenU3); (· wtm_at "lk")) | ((with_reducible apply g_tyL3); (· wtm_at "lk")) | ((with_reducible apply g_lenT); (· wtm_at "pv")) | wtm_at "tr" | with_reducible apply g_ET | with_reducible apply g_EF | with_reducible apply g_EnT | with_reducible apply g_EnF)
local macro_rules | `(tactic| wtm_at "pv") => `(tactic| first | exact rfl | assumption | omega | (simp; done) | (simp; omega))
local macro_rules | `(tactic| wtm_at "tr") => `(tactic| first | ((with_reducible apply g_Td); (· wtm_at "pv")) | ((with_reducible apply g_Fd); (· wtm_at "pv")) | ((with_reducible apply g_NTd); (· wtm_at "pv")) | ((with_reducible apply g_NFd); (· wtm_at "pv")) | ((with_reducible apply g_nTd); (· wtm_at "pv")) | ((with_reducible apply g_nFd); (· wtm_at "pv")) | ((with_reducible apply g_RTd); (· wtm_at "pv")) | ((with_reducible apply g_RFd); (· wtm_at "pv")))
local macro_rules | `(tactic| wtm_at "gx") => `(tactic| repeat wtm_at "gx1")

section
variable {P : Program} {w : World} {K : PySem.W.Frag} {mg : Str → Option Value} {base : Heap}
theorem pair_at {z : Nat} (h : z < 4) : ∃ c, ([Tx [40, 41], Tx [60, 62], Tx [91, 93], Tx [123, 125]] : List V)[z]? = some (Tx [c, oth c]) ∧ c ∈ OPN := by
  have hc : z = 0 ∨ z = 1 ∨ z = 2 ∨ z = 3 := by omega
  rcases hc with rfl | rfl | rfl | rfl
  · exact ⟨40, by rw [show oth 40 = 41 by decide]; rfl, by decide⟩
  · exact ⟨60, by rw [show oth 60 = 62 by decide]; rfl, by decide⟩
  · exact ⟨91, by rw [show oth 91 = 93 by decide]; rfl, by decide⟩
  · exact ⟨123, by rw [show oth 123 = 125 by decide]; rfl, by decide⟩
theorem abz_at2 {z : Nat} (h : z < 3) : ∃ c, ([97, 98, 122] : List Nat)[z]? = some c ∧ clean [c] ∧ isSg c := by
  have hc : z = 0 ∨ z = 1 ∨ z = 2 := by omega
  rcases hc with rfl | rfl | rfl
  · exact ⟨97, rfl, by decide, .inl (by decide)⟩
  · exact ⟨98, rfl, by decide, .inl (by decide)⟩
  · exact ⟨122, rfl, by decide, .inl (by decide)⟩
/-! _law_bracket -/
def sp_law_bracket : Sp := fun vs H Q _ => ∃ (p : Addr) (P0 : Rw) (n : Nat), vs = [.ref p, .int n] ∧ H p = some P0.o ∧ 0 < n ∧ n ≤ 4 ∧ ∀ (c : Nat) (P1 : Rw) (H' : Hp), c ∈ BRK → But p H H' → H' p = some P1.o → Q (Tx [c]) H'
theorem ok_law_bracket (T : Facts K mg) : C8.Cal P w K mg base 2 "_law_bracket" sp_law_bracket [] := by
  refine calD T.f_law_bracket sc_law_bracket (fun vs H Q E h => ?_) (fun f cdv A outer s H vs Q E hr h => ?_)
  · obtain ⟨p, P0, n, rfl, hp, h0, h1, q⟩ := h; rfl
  · obtain ⟨p, P0, n, rfl, hp, h0, h1, q⟩ := h
    refine ⟨_, (pss_one (ps_ret (pe_ix ix_txt (pe_strS (l := BRK) (by decide +kernel)) (pe_own (ok_law_take T) hr (by omega) rfl (pa_cons (pv 0) (pa_cons (pe_op op_mul pe_int (pv 1)) pa_nil))) (fun _ _ => rfl)))), ?_⟩
    rw [st_law_bracket]
    wtm_at "unf"
    wtm_at "go"
    refine ⟨p, P0, _, rfl, hp, by omega, by omega, fun x P1 H1 x0 x1 b1 e1 => ?_⟩
    obtain ⟨z, rfl⟩ := Int.eq_ofNat_of_zero_le x0
    obtain ⟨c, hc1, hc2⟩ := brk_at (z := z) (by omega)
    refine g_ixT (by decide) (atI_of hc1) ?_
    exact q c P1 H1 hc2 b1 e1
/-! _law_clean -/
def sp_law_clean : Sp := fun vs H Q _ => ∃ (p : Addr) (P0 : Rw) (M n : Nat), vs = [.ref p, .int M, .int n] ∧ H p = some P0.o ∧ M ≤ 100 ∧ 0 < n ∧ n ≤ 4 ∧ ∀ (l : List Nat) (P1 : Rw) (H' : Hp), l.length ≤ M → (∀ c ∈ l, isSg c) → clean l → But p H H' → H' p = some P1.o → Q (Tx l) H'
theorem ok_law_clean (T : Facts K mg) : C8.Cal P w K mg base 2 "_law_clean" sp_law_clean [] := by
  refine calD T.f_law_clean sc_law_clean (fun vs H Q E h => ?_) (fun f cdv A outer s H vs Q E hr h => ?_)
  · obtain ⟨p, P0, M, n, rfl, hp, hM, h0, h1, q⟩ := h; rfl
  · obtain ⟨p, P0, M, n, rfl, hp, hM, h0, h1, q⟩ := h
    refine ⟨_, (pss_cons (ps_set (i := 3) sc_law_clean.nd rfl (Or.inl rfl) (pe_strS (l := []) (by decide +kernel)))
       (pss_cons (ps_for PassesOwn.never rfl (pi_range1 rfl T.b_range (pa_cons (pe_own (ok_law_take T) hr (by omega) rfl (pa_cons (pv 0) (pa_cons (pe_op op_add (pe_op op_fdiv (pv 1) pe_int) pe_int) pa_nil))) pa_nil)) (pg_name (i := 4) sc_law_clean.nd rfl (Or.inl rfl))
       (pss_cons (ps_set (i := 5) sc_law_clean.nd rfl (Or.inl rfl) (pe_own (ok_law_take T) hr (by omega) rfl (pa_cons (pv 0) (pa_cons (pe_op op_add (pe_callB call_lenT rfl T.b_len PySem.boot_len (pa_cons (pv 3) pa_nil)) pe_int) pa_nil))))
       (pss_cons (ps_set (i := 6) sc_law_clean.nd rfl (Or.inl rfl) (pe_own (ok_law_take T) hr (by omega) rfl (pa_cons (pv 0) (pa_cons (pv 2) pa_nil))))
       (pss_cons (ps_set (i := 7) sc_law_clean.nd rfl (Or.inl rfl) (pe_ix ix_list (pe_lst (pa_cons (pe_strS (l := [40, 41]) (by decide +kernel)) (pa_cons (pe_strS (l := [60, 62]) (by decide +kernel)) (pa_cons (pe_strS (l := [91, 93]) (by decide +kernel)) (pa_cons (pe_strS (l := [123, 125]) (by decide +kernel)) pa_nil))))) (pv 6) (fun _ _ => rfl)))
       (C8.pss_cut (ps_if (pt_cmpR op_eq (pe_own (ok_law_take T) hr (by omega) rfl (pa_cons (pv 0) (pa_cons pe_int pa_nil))) pe_int (nomark _))
       (pss_one (ps_set (i := 7) sc_law_clean.nd rfl (Or.inl rfl) (pe_ix ix_txt (pe_strS (l := [97, 98, 122]) (by decide +kernel)) (pe_op op_mod (pv 6) pe_int) (fun _ _ => rfl))))
       pss_nil)
       (pss_one (ps_set (i := 3) sc_law_clean.nd rfl (Or.inl rfl) (pe_op op_addT (pe_op op_addT (pe_slice sl_tx (pv 3) po_none (po_some (pv 5))) (pv 7)) (pe_slice sl_tx (pv 3) (po_some (pv 5)) po_none)))))))))
       (pss_one (ps_ret (pv 3))))), ?_⟩
    rw [st_law_clean]
    wtm_at "unf"
    wtm_at "go"
    refine ⟨p, P0, _, rfl, hp, by omega, by omega, fun nn P1 H1 n0 n1 b1 e1 => ?_⟩
    obtain ⟨m, rfl⟩ := Int.eq_ofNat_of_zero_le n0
    have hm : 2 * m ≤ M := by omega
    refine ⟨_, rfl, by omega, by omega, for_rng (fun i σ H' => ∃ (t : List Nat) (P2 : Rw) (y4 y5 y6 y7 : Option V), σ = [some (V.ref p), some (V.int M), some (V.int n), some (Tx t), y4, y5, y6, y7] ∧ clean t ∧ (∀ c ∈ t, isSg c) ∧ t.length ≤ 2 * i ∧ But p H H' ∧ H' p = some P2.o) ⟨[], P1, _, _, _, _, rfl, clean_nil, by simp, by simp, b1, e1⟩ (fun i σ H' hi hv => ?_) (fun σ H' hv => ?_)⟩
    · obtain ⟨t, P2, y4, y5, y6, y7, rfl, ht, hts, htl, b2, e2⟩ := hv
      rw [Int.toNat_natCast] at hi
      wtm_at "unf"
      wtm_at "go"
      refine ⟨p, P2, _, rfl, e2, by omega, by omega, fun x P3 H3 x0 x1 b3 e3 => ?_⟩
      obtain ⟨at', rfl⟩ := Int.eq_ofNat_of_zero_le x0
      wtm_at "go"
      refine ⟨p, P3, n, rfl, e3, by omega, by omega, fun k P4 H4 k0 k1 b4 e4 => ?_⟩
      obtain ⟨z, rfl⟩ := Int.eq_ofNat_of_zero_le k0
      obtain ⟨c, hc1, hc2⟩ := pair_at (z := z) (by omega)
      refine g_lst (by show 4 ≤ 100000; decide) fun la H5 nla s5 ela => ?_
      wtm_at "go"
      refine g_ixL (sq_of ela) (atI_of hc1) ?_
      refine ⟨fun σ' H6 => ∃ (u : List Nat) (P6 : Rw), σ' = [some (V.ref p), some (V.int M), some (V.int n), some (Tx t), some (V.int (0 + (i : Int))), some (V.int at'), some (V.int z), some (Tx u)] ∧ clean u ∧ (∀ c ∈ u, isSg c) ∧ u.length ≤ 2 ∧ But p H H6 ∧ H6 p = some P6.o, ?_, ?_⟩
      · wtm_at "go"
        refine ⟨p, P4, 4, rfl, by wtm_at "lk", by decide, by decide, fun w P6 H6 w0 w1 b6 e6 => ?_⟩
        wtm_at "go"
        refine g_testB (fun h => ?_) (fun h => ?_)
        · wtm_at "go"
          obtain ⟨d, hd1, hd2, hd3⟩ := abz_at2 (z := z % 3) (by omega)
          refine g_ixT (c := d) (by decide) (by rw [show ((z : Int) % 3) = ((z % 3 : Nat) : Int) by omega]; exact atI_of hd1) ?_
          exact ⟨[d], P6, rfl, hd2, by simpa using hd3, by simp, by wtm_at "sm", e6⟩
        · refine ⟨[c, oth c], P6, rfl, clean_pair (a := []) hc2 clean_nil, ?_, by simp, by wtm_at "sm", e6⟩
          have hb : c ∈ BRK := brk_or.mpr (.inl hc2)
          intro x hx
          rcases List.mem_cons.mp hx with rfl | hx
          · exact .inr hb
          · rw [List.mem_singleton] at hx
            rw [hx]
            exact .inr (oth_brk c hb)
      · rintro σ' H6 ⟨u, P6, rfl, hu, hus, hul, b6, e6⟩
        wtm_at "go"
        refine g_slTo (by omega) (by omega) ?_
        rw [Int.toNat_natCast]
        wtm_at "go"
        refine g_slFrom (by omega) (by omega) ?_
        rw [Int.toNat_natCast]
        wtm_at "go"
        refine ⟨_, P6, _, _, _, _, rfl, (clean_mid hu).mpr (by rw [List.take_append_drop]; exact ht), ?_, by simp; omega, b6, e6⟩
        intro x hx
        rcases List.mem_append.mp hx with hx | hx
        · rcases List.mem_append.mp hx with hx | hx
          · exact hts x (List.mem_of_mem_take hx)
          · exact hus x hx
        · exact hts x (List.mem_of_mem_drop hx)
    · obtain ⟨t, P2, y4, y5, y6, y7, rfl, ht, hts, htl, b2, e2⟩ := hv
      rw [Int.toNat_natCast] at htl
      wtm_at "unf"
      wtm_at "go"
      exact q t P2 H' (by omega) hts ht b2 e2
/-! _law_text -/
def sp_law_text : Sp := fun vs H Q _ => ∃ (p : Addr) (P0 : Rw) (M : Nat), vs = [.ref p, .int M] ∧ H p = some P0.o ∧ M ≤ 100 ∧ ∀ (l : List Nat) (P1 : Rw) (H' : Hp), l.length ≤ M → (∀ c ∈ l, isSg c) → But p H H' → H' p = some P1.o → Q (Tx l) H'
theorem ok_law_text (T : Facts K mg) : C8.Cal P w K mg base 3 "_law_text" sp_law_text [] := by
  refine calD T.f_law_text sc_law_text (fun vs H Q E h => ?_) (fun f cdv A outer s H vs Q E hr h => ?_)
  · obtain ⟨p, P0, M, rfl, hp, hM, q⟩ := h; rfl
  · obtain ⟨p, P0, M, rfl, hp, hM, q⟩ := h
    refine ⟨_, (pss_cons (ps_set (i := 2) sc_law_text.nd rfl (Or.inr rfl) (pe_op op_add pe_int (pe_own (ok_law_take T) hr (by omega) rfl (pa_cons (pv 0) (pa_cons pe_int pa_nil)))))
       (pss_cons (ps_if (pt_cmpR op_eq (pe_own (ok_law_take T) hr (by omega) rfl (pa_cons (pv 0) (pa_cons pe_int pa_nil))) pe_int (nomark _))
       (pss_cons (ps_setLc (i := 3) (own := [("k", 6)]) (by rfl) sc_law_text.nd rfl rfl (sw_true rfl rfl rfl (by decide +kernel)) (pi_range1 rfl T.b_range (pa_cons (pe_own (ok_law_take T) hr (by omega) rfl (pa_cons (pv 0) (pa_cons (pe_op op_add (pv 1) pe_int) pa_nil))) pa_nil)) (blkOk_by (own := [("k", 6)]) (N := N_law_text) (sc := defScope s_law_text) (by decide +kernel)) (fun _ _ _ _ _ => (pg_name (i := 6) sc_law_text.nd rfl (Or.inl rfl))) (fun _ _ _ _ _ => pts_nil) (fun _ _ _ _ _ => (pe_own (ok_law_bracket T) hr (by omega) rfl (pa_cons (pv 0) (pa_cons (pv 2) pa_nil)))))
       (pss_cons (ps_set (i := 4) sc_law_text.nd rfl (Or.inr rfl) (pe_ix ix_txt (pe_strS (l := LET) (by decide +kernel)) (pe_own (ok_law_take T) hr (by omega) rfl (pa_cons (pv 0) (pa_cons pe_int pa_nil))) (fun _ _ => rfl)))
       (pss_one (ps_ret (pe_m1 PySem.F.slot_str_join PySem.F.type_str_join mt_joinT (pe_strS (l := []) (by decide +kernel)) (pe_lc (own := [("sign", 9)]) (by rfl) sc_law_text.nd (pi_list (pv 3)) (blkOk_by (own := [("sign", 9)]) (N := N_law_text) (sc := defScope s_law_text) (by decide +kernel)) (fun _ _ _ _ _ => (pg_name (i := 9) sc_law_text.nd rfl (Or.inl rfl))) (fun _ _ _ _ _ => pts_nil) (fun _ _ _ _ _ => (pe_ix (r := rIxL K) ix_list (pe_lst (pa_cons (pv 9) (pa_cons (pv 4) pa_nil))) (pe_callTy call_intB rfl T.b_int (by decide +kernel) (pa_cons (pe_cmpR op_eq (pe_own (ok_law_take T) hr (by omega) rfl (pa_cons (pv 0) (pa_cons pe_int pa_nil))) pe_int (nomark _)) pa_nil)) (fun _ _ => rfl)))))))))
       pss_nil)
       (pss_cons (ps_set (i := 5) sc_law_text.nd rfl (Or.inl rfl) (pe_own (ok_law_clean T) hr (by omega) rfl (pa_cons (pv 0) (pa_cons (pv 1) (pa_cons (pv 2) pa_nil)))))
       (pss_cons (ps_for PassesOwn.never rfl (pi_range1 rfl T.b_range (pa_cons (pe_own (ok_law_take T) hr (by omega) rfl (pa_cons (pv 0) (pa_cons pe_int pa_nil))) pa_nil)) (pg_name (i := 6) sc_law_text.nd rfl (Or.inl rfl))
       (pss_cons (ps_set (i := 7) sc_law_text.nd rfl (Or.inl rfl) (pe_own (ok_law_take T) hr (by omega) rfl (pa_cons (pv 0) (pa_cons (pe_op op_add (pe_callB call_lenT rfl T.b_len PySem.boot_len (pa_cons (pv 5) pa_nil)) pe_int) pa_nil))))
       (pss_cons (ps_set (i := 8) sc_law_text.nd rfl (Or.inl rfl) (pe_lst (pa_cons (pe_op op_addT (pe_slice sl_tx (pv 5) po_none (po_some (pv 7))) (pe_slice sl_tx (pv 5) (po_some (pe_op op_add (pv 7) pe_int)) po_none)) (pa_cons (pe_op op_addT (pe_op op_addT (pe_slice sl_tx (pv 5) po_none (po_some (pv 7))) (pe_own (ok_law_bracket T) hr (by omega) rfl (pa_cons (pv 0) (pa_cons (pv 2) pa_nil)))) (pe_slice sl_tx (pv 5) (po_some (pe_op op_add (pv 7) pe_int)) po_none)) pa_nil))))
       (pss_cons (ps_expr (pe_bm PySem.F.plainAttrs_list PySem.F.slot_list_append PySem.F.type_list_append mt_append (pv 8) (pa_cons (pe_op op_addT (pe_op op_addT (pe_slice sl_tx (pv 5) po_none (po_some (pv 7))) (pe_own (ok_law_bracket T) hr (by omega) rfl (pa_cons (pv 0) (pa_cons (pv 2) pa_nil)))) (pe_slice sl_tx (pv 5) (po_some (pv 7)) po_none)) pa_nil)))
       (pss_one (ps_set (i := 5) sc_law_text.nd rfl (Or.inl rfl) (pe_ix ix_list (pv 8) (pe_own (ok_law_take T) hr (by omega) rfl (pa_cons (pv 0) (pa_cons pe_int pa_nil))) (fun _ _ => rfl))))))))
       (pss_one (ps_ret (pe_slice sl_tx (pv 5) po_none (po_some (pv 1))))))))), ?_⟩
    rw [st_law_text]
    wtm_at "unf"
    wtm_at "go"
    refine ⟨p, P0, 4, rfl, hp, by decide, by decide, fun x P1 H1 x0 x1 b1 e1 => ?_⟩
    obtain ⟨kd, rfl⟩ := Int.eq_ofNat_of_zero_le x0
    wtm_at "go"
    refine ⟨p, P1, 2, rfl, e1, by decide, by decide, fun y P2 H2 y0 y1 b2 e2 => ?_⟩
    wtm_at "go"
    rw [show ((1 : Int) + (kd : Int)) = ((kd + 1 : Nat) : Int) by omega]
    refine g_testB (fun h => ?_) (fun h => ?_)
    · wtm_at "go"
      refine ⟨p, P2, _, rfl, e2, by omega, by omega, fun n P3 H3 n0 n1 b3 e3 => ?_⟩
      obtain ⟨m, rfl⟩ := Int.eq_ofNat_of_zero_le n0
      refine ⟨_, rfl, by omega, by omega, lc_rng fun d H4 nd s4 ed => ⟨fun i H5 => ∃ (cs : List Nat) (P5 : Rw), H5 d = some (.lst (sgV cs)) ∧ cs.length = i ∧ (∀ c ∈ cs, c ∈ BRK) ∧ H5 p = some P5.o ∧ But p H H5, ⟨[], P3, ed, rfl, by simp, by wtm_at "lk", by wtm_at "sm"⟩, fun i H5 hi hv => ?_, fun H5 hv => ?_⟩⟩
      · obtain ⟨cs, P5, ec, hcl, hcb, ep, b5⟩ := hv
        rw [Int.toNat_natCast] at hi
        have hdp : d ≠ p := Ne.symm (ne_new nd e3)
        wtm_at "unf"
        refine ⟨rfl, ?_⟩
        wtm_at "go"
        refine ⟨p, P5, kd + 1, rfl, ep, by omega, by omega, fun c P6 H6 hc b6 e6 => ?_⟩
        refine lc_put (acc := sgV cs) (by wtm_at "lk") (by rw [sgV_len]; omega) fun H7 b7 e7 => ?_
        rw [← sgV_snoc] at e7
        refine ⟨cs ++ [c], P6, e7, by simp; omega, ?_, But.get b7 (Ne.symm hdp) e6, ?_⟩
        · intro x hx
          rcases List.mem_append.mp hx with hx | hx
          · exact hcb x hx
          · rw [List.mem_singleton] at hx
            rw [hx]
            exact hc
        · exact But.b0 b7 (b5.trans b6) (by
            have : H3 d = none := nd
            exact (b1.trans (b2.trans b3)).free hdp this)
      · obtain ⟨cs, P5, ec, hcl, hcb, ep, b5⟩ := hv
        rw [Int.toNat_natCast] at hcl
        have hdp : d ≠ p := Ne.symm (ne_new nd e3)
        have nd0 : H d = none := (b1.trans (b2.trans b3)).free hdp nd
        wtm_at "go"
        refine ⟨p, P5, 26, rfl, ep, by decide, by decide, fun w P6 H6 w0 w1 b6 e6 => ?_⟩
        obtain ⟨wz, rfl⟩ := Int.eq_ofNat_of_zero_le w0
        obtain ⟨lt, hlt1, hlt2⟩ := let_at (z := wz) (by omega)
        refine g_ixT (by decide) (atI_of hlt1) ?_
        refine ⟨⟨_, rfl⟩, ?_⟩
        wtm_at "go"
        have ec6 : H6 d = some (.lst (sgV cs)) := by wtm_at "lk"
        have bH6 : But p H H6 := b5.trans b6
        refine ⟨_, rfl, ⟨_, sq_of ec6⟩, lc_lst (sgV cs) fun d2 H7 nd2 s7 ed2 => ⟨fun pre H8 => ∃ (es : List Nat) (P8 : Rw), H8 d2 = some (.lst (sgV es)) ∧ es.length = pre.length ∧ (∀ c ∈ es, isSg c) ∧ H8 d = some (.lst (sgV cs)) ∧ H8 p = some P8.o ∧ But p H H8, ⟨[], P6, ed2, rfl, by simp, by wtm_at "lk", by wtm_at "lk", bH6.same s7⟩, fun pre post H8 e hv => ?_, fun pre x post H8 e hv => ?_, fun H8 hv => ?_⟩⟩
        · obtain ⟨es, P8, ee, hel, hes, ed8, ep8, b8⟩ := hv
          exact sq_of ed8
        · obtain ⟨es, P8, ee, hel, hes, ed8, ep8, b8⟩ := hv
          have hd2p : d2 ≠ p := Ne.symm (ne_new nd2 e6)
          have hd2d : d2 ≠ d := Ne.symm (ne_new nd2 ec6)
          have nd20 : H d2 = none := bH6.free hd2p nd2
          have hpl : pre.length < 1000 := by
            have := congrArg List.length e
            rw [sgV_len] at this
            simp at this
            omega
          obtain ⟨c, hcc, rfl⟩ : ∃ c, c ∈ cs ∧ x = Tx [c] := by
            have hm : x ∈ sgV cs := by rw [e]; simp
            unfold sgV at hm
            obtain ⟨c, hc, hx⟩ := List.mem_map.mp hm
            exact ⟨c, hc, hx.symm⟩
          wtm_at "unf"
          refine ⟨rfl, ?_⟩
          wtm_at "go"
          refine g_lst (by show 2 ≤ 100000; decide) fun pa H9 npa s9 epa => ?_
          wtm_at "go"
          have hpp : pa ≠ p := Ne.symm (ne_new npa ep8)
          refine ⟨p, P8, 6, rfl, by wtm_at "lk", by decide, by decide, fun v P10 H10 v0 v1 b10 e10 => ?_⟩
          wtm_at "go"
          have epa10 : H10 pa = some (.lst [Tx [c], Tx [lt]]) := But.get b10 hpp epa
          have hd2pa : d2 ≠ pa := ne_new npa ee
          have put : ∀ x : Nat, isSg x → LcPut d2 (fun H8 => ∃ (es : List Nat) (P8 : Rw), H8 d2 = some (.lst (sgV es)) ∧ es.length = (pre ++ [Tx [c]]).length ∧ (∀ c ∈ es, isSg c) ∧ H8 d = some (.lst (sgV cs)) ∧ H8 p = some P8.o ∧ But p H H8) (Tx [x]) H10 := by
            intro x hx
            refine lc_put (acc := sgV es) (But.get b10 hd2p (Same.get s9 ee)) (by rw [sgV_len]; omega) fun H11 b11 e11 => ?_
            rw [← sgV_snoc] at e11
            refine ⟨es ++ [x], P10, e11, by simp; omega, ?_, But.get b11 (Ne.symm hd2d) (But.get b10 hdp (Same.get s9 ed8)), But.get b11 (Ne.symm hd2p) e10, But.b0 b11 ((b8.same s9).trans b10) nd20⟩
            intro y hy
            rcases List.mem_append.mp hy with hy | hy
            · exact hes y hy
            · rw [List.mem_singleton] at hy
              rw [hy]
              exact hx
          by_cases hv1 : V.int v = V.int 1
          · rw [decide_eq_true hv1]
            refine g_ixL (v := Tx [lt]) (sq_of epa10) rfl ?_
            exact put lt (.inl hlt2)
          · rw [decide_eq_false hv1]
            refine g_ixL (v := Tx [c]) (sq_of epa10) rfl ?_
            exact put c (.inr (hcb c hcc))
        · obtain ⟨es, P8, ee, hel, hes, ed8, ep8, b8⟩ := hv
          rw [sgV_len] at hel
          refine g_join0 (sq_of ee) (by omega) ?_
          exact q es P8 H8 (by omega) hes b8 ep8
    · wtm_at "go"
      refine ⟨p, P2, M, kd + 1, rfl, e2, hM, by omega, by omega, fun t0 P3 H3 ht0 hts0 _ b3 e3 => ?_⟩
      wtm_at "go"
      refine ⟨p, P3, 4, rfl, e3, by decide, by decide, fun n P4 H4 n0 n1 b4 e4 => ?_⟩
      obtain ⟨m, rfl⟩ := Int.eq_ofNat_of_zero_le n0
      refine ⟨_, rfl, by omega, by omega, for_rng (fun i σ H' => ∃ (t : List Nat) (P5 : Rw) (y6 y7 y8 : Option V), σ = [some (V.ref p), some (V.int M), some (V.int ((kd + 1 : Nat) : Int)), none, none, some (Tx t), y6, y7, y8, none] ∧ (∀ c ∈ t, isSg c) ∧ t.length ≤ M + i ∧ But p H H' ∧ H' p = some P5.o) ⟨t0, P4, _, _, _, rfl, hts0, by omega, by wtm_at "sm", e4⟩ (fun i σ H' hi hv => ?_) (fun σ H' hv => ?_)⟩
      · obtain ⟨t, P5, y6, y7, y8, rfl, hts, htl, b5, e5⟩ := hv
        rw [Int.toNat_natCast] at hi
        wtm_at "unf"
        wtm_at "go"
        refine ⟨p, P5, _, rfl, e5, by omega, by omega, fun x P6 H6 x0 x1 b6 e6 => ?_⟩
        obtain ⟨at', rfl⟩ := Int.eq_ofNat_of_zero_le x0
        have cutS : ∀ (u : List Nat) (a b : Nat), (∀ c ∈ u, isSg c) → ∀ c ∈ t.take a ++ u ++ t.drop b, isSg c := by
          intro u a b hu c hc
          rcases List.mem_append.mp hc with hc | hc
          · rcases List.mem_append.mp hc with hc | hc
            · exact hts c (List.mem_of_mem_take hc)
            · exact hu c hc
          · exact hts c (List.mem_of_mem_drop hc)
        wtm_at "go"
        refine g_slTo (by omega) (by omega) ?_
        wtm_at "go"
        refine g_slFrom (by omega) (by omega) ?_
        rw [Int.toNat_natCast, show ((at' : Int) + 1).toNat = at' + 1 by omega]
        wtm_at "go"
        refine g_slTo (by omega) (by omega) ?_
        rw [Int.toNat_natCast]
        wtm_at "go"
        refine ⟨p, P6, kd + 1, rfl, e6, by omega, by omega, fun c1 P7 H7 hc1 b7 e7 => ?_⟩
        wtm_at "go"
        refine g_slFrom (by omega) (by omega) ?_
        rw [show ((at' : Int) + 1).toNat = at' + 1 by omega]
        wtm_at "go"
        refine g_lst (by show 2 ≤ 100000; decide) fun la H8 nla s8 ela => ?_
        have hlp : la ≠ p := Ne.symm (ne_new nla e7)
        have nla0 : H la = none := (b5.trans (b6.trans b7)).free hlp nla
        wtm_at "go"
        refine ⟨g_tyL (sq_of ela), ?_⟩
        wtm_at "go"
        refine g_slTo (by omega) (by omega) ?_
        rw [Int.toNat_natCast]
        wtm_at "go"
        refine ⟨p, P7, kd + 1, rfl, by wtm_at "lk", by omega, by omega, fun c2 P9 H9 hc2 b9 e9 => ?_⟩
        wtm_at "go"
        refine g_slFrom (by omega) (by omega) ?_
        rw [Int.toNat_natCast]
        wtm_at "go"
        refine g_append1 (xs := [Tx (t.take at' ++ t.drop (at' + 1)), Tx (t.take at' ++ [c1] ++ t.drop (at' + 1))]) (by wtm_at "lk") (by show 2 < 100000; decide) fun H10 b10 e10 => ?_
        wtm_at "go"
        refine ⟨p, P9, 3, rfl, But.get b10 (Ne.symm hlp) e9, by decide, by decide, fun w P11 H11 w0 w1 b11 e11 => ?_⟩
        obtain ⟨wz, rfl⟩ := Int.eq_ofNat_of_zero_le w0
        have e11l : H11 la = some (.lst ([Tx (t.take at' ++ t.drop (at' + 1)), Tx (t.take at' ++ [c1] ++ t.drop (at' + 1))] ++ [Tx (t.take at' ++ [c2] ++ t.drop at')])) := But.get b11 hlp e10
        have bb : But p H H11 := by
          have x1 : But p H H8 := (b5.trans (b6.trans b7)).same s8
          exact (But.b0 b10 (x1.trans b9) nla0).trans b11
        have sg : ∀ u : List Nat, (∀ c ∈ u, c ∈ BRK) → ∀ c ∈ u, isSg c := fun u h c hc => .inr (h c hc)
        have hw : wz = 0 ∨ wz = 1 ∨ wz = 2 := by omega
        rcases hw with rfl | rfl | rfl
        · refine g_ixL (sq_of e11l) rfl ?_
          refine ⟨_, P11, _, _, _, rfl, ?_, by simp; omega, bb, e11⟩
          have := cutS [] at' (at' + 1) (by simp)
          simpa using this
        · refine g_ixL (sq_of e11l) rfl ?_
          exact ⟨_, P11, _, _, _, rfl, cutS [c1] at' (at' + 1) (sg _ (by simpa using hc1)), by simp; omega, bb, e11⟩
        · refine g_ixL (sq_of e11l) rfl ?_
          exact ⟨_, P11, _, _, _, rfl, cutS [c2] at' at' (sg _ (by simpa using hc2)), by simp; omega, bb, e11⟩
      · obtain ⟨t, P5, y6, y7, y8, rfl, hts, htl, b5, e5⟩ := hv
        rw [Int.toNat_natCast] at htl
        wtm_at "unf"
        wtm_at "go"
        refine g_slTo (by omega) (by omega) ?_
        rw [Int.toNat_natCast]
        exact q _ P5 H' (by simp; omega) (fun c hc => hts c (List.mem_of_mem_take hc)) b5 e5
end
end K32

set_option maxHeartbeats 4000000
namespace K32
open PySem PySem.Spec PyProof.Rows L2 SX Ly
local macro_rules | `(tactic| wtm_at "unf") => `(tactic| (try simp only [tMetX, tOwnX, tChain, tSeq, tNext, tBreak, tCont, tDrop, tRet, tRetN, tIfS, tAsg, tAug, tC, tOp, tUn, tNil, tCons, tOwn, tCB, tTest, tB, tAnd, tOr, tNot, tAndV, tOrV, tNotV, tIf, gName, gSub, tBM, tBM0, tM0, tM1, tSl, tPart_eq, tNoPart, tLst_eq, tTup_eq, tRevL_eq, tReplT, tRevS, tDGet_eq, sDPut_eq, tDNewT_eq, tMet, tMak, tFld_eq, sFld_eq, C8.tCut, wipe, tYes, gTup, gCons, gNil, List.set_cons_zero, List.set_cons_succ, if_true, if_false, Bool.false_eq_true, Bool.not_true, Bool.not_false, true_and, reduceIte, cx_K, tFor_eq, tLc_eq, iStr, iList, iTup, iRng1, iRng2, iRng3, iEnum, iZip, tLstRg, tRg1, gLst, RZ.iZipA, iEnumS, iZipS]))
local macro_rules | `(tactic| wtm_at "ne") => `(tactic| first | assumption | (apply Ne.symm; assumption) | (apply ne_new; (· assumption); (· wtm_at "lk")) | (apply Ne.symm; apply ne_new; (· assumption); (· wtm_at "lk")))
local macro_rules | `(tactic| wtm_at "lk") => `(tactic| first | assumption | exact upd_same | (apply Same.get; (· assumption); (· wtm_at "lk")) | (apply But.get; (· assumption); (· wtm_at "ne"); (· wtm_at "lk")))
local macro_rules | `(tactic| wtm_at "sq") => `(tactic| first | assumption | (apply sq_of; wtm_at "lk") | (apply Same.seq; (· assumption); (· wtm_at "sq")) | (apply But.sq; (· assumption); (· wtm_at "ne"); (· wtm_at "sq")))
local macro_rules | `(tactic| wtm_at "fr") => `(tactic| first | assumption | (apply Same.fr; (· assumption); (· wtm_at "sm")) | (apply But.fr; (· assumption); (· wtm_at "sm"); (· wtm_at "ne")))
local macro_rules | `(tactic| wtm_at "sm") => `(tactic| first | exact Same.refl _ | exact But.refl | assumption | (apply Same.tr; (· assumption); (· wtm_at "sm")) | (apply Same.b0; (· assumption); (· wtm_at "sm"); (· wtm_at "fr")) | (apply But.sa; (· assumption); (· wtm_at "sm")) | (apply But.tr; (· assumption); (· wtm_at "sm")) | (apply But.b0; (· assumption); (· wtm_at "sm"); (· wtm_at "fr")) | (apply Same.toBut; wtm_at "sm"))
local macro_rules | `(tactic| wtm_at "sc") => `(tactic| first | exact Int.zero_lt_one | (show (0 : Int) < _; omega) | (show (0 : Int) < _; decide) | exact ⟨by omega, by omega⟩ | exact .inl ⟨by omega, by omega⟩ | exact .inr ⟨by omega, by omega⟩)
local macro_rules | `(tactic| wtm_at "go1") => `(tactic| first | ((with_reducible apply g_var); (· exact rfl)) | with_reducible apply g_I0 | ((with_reducible apply g_I); (· wtm_at "sc")) | with_reducible apply g_U | with_reducible apply g_ipI | ((with_reducible apply g_addT); (· first | omega | (simp; done) | (simp; omega))) | with_reducible apply g_inT | with_reducible apply g_ninT | ((with_reducible apply g_lenT); (· omega)) | with_reducible apply g_findT1 | with_reducible apply g_str | with_reducible apply g_part | with_reducible apply g_intB | ((with_reducible apply g_ixL); (· wtm_at "sq"); (· exact rfl)) | ((with_reducible apply g_setL); (· wtm_at "lk"); (· exact rfl)) | ((with_reducible apply g_eq); (· rfl)) | ((with_reducible apply g_ne); (· rfl)))
local macro_rules | `(tactic| wtm_at "go") => `(tactic| repeat wtm_at "go1")
local macro_rules | `(tactic| wtm_at "lp") => `(tactic| skip)
local macro_rules | `(tactic| wtm_at "om") => `(tactic| first | omega | (simp; done) | (simp; omega) | (simp at *; omega))
local macro_rules | `(tactic| wtm_at "ty") => `(tactic| first | exact ty_str | exact ty_int | exact ty_bl | exact ty_non | (apply ty_lst; wtm_at "lk") | (apply ty_tup; wtm_at "lk"))
local macro_rules | `(tactic| wtm_at "kb") => `(tactic| first | exact kb_str_str | exact kb_str_int | exact kb_str_bool | exact kb_str_list | exact kb_str_tuple | exact kb_int_str | exact kb_int_int | exact kb_int_bool | exact kb_int_list | exact kb_int_tuple | exact kb_bool_str | exact kb_bool_int | exact kb_bool_bool | exact kb_bool_list | exact kb_bool_tuple | exact kb_list_str | exact kb_list_int | exact kb_list_bool | exact kb_list_list | exact kb_list_tuple | exact kb_tuple_str | exact kb_tuple_int | exact kb_tuple_bool | exact kb_tuple_list | exact kb_tuple_tuple | exact kb_NoneType_str | exact kb_NoneType_int | exact kb_NoneType_bool | exact kb_NoneType_list | exact kb_NoneType_tuple | exact kb_dict_str | exact kb_dict_int | exact kb_dict_bool | exact kb_dict_list | exact kb_dict_tuple)
local macro_rules | `(tactic| wtm_at "gx1") => `(tactic| first | ((with_reducible apply g_eqS); (· exact rfl)) | ((with_reducible apply g_neS); (· exact rfl)) | wtm_at "go1" | with_reducible apply g_min2 | with_reducible apply g_max2 | with_reducible apply g_T | with_reducible apply g_F | with_reducible apply g_NT | with_reducible apply g_NF | with_reducible apply g_nT | with_reducible apply g_nF | with_reducible apply g_RT | with_reducible apply g_RF | ((with_reducible apply g_isi); (· wtm_at "ty"); (· wtm_at "kb")) | ((with_reducible apply g_ixAU3); (· wtm_at "lk"); (· exact rfl)) | ((with_reducible apply g_ixAL3); (· wtm_at "lk"); (· exact rfl)) | ((with_reducible apply g_ixU3); (· wtm_at "lk"); (· exact rfl)) | ((with_reducible apply g_lenL3); (· wtm_at "lk")) | ((with_reducible apply g_lenU3); (· wtm_at "lk")) | ((with_reducible apply g_tyL3); (· wtm_at "lk")) | ((with_reducible apply g_lenT); (· wtm_at "pv")) | wtm_at "tr" | with_reducible apply g_ET | with_reducible apply g_EF | with_reducible apply g_EnT | with_reducible apply g_EnF)
local macro_rules | `(tactic| wtm_at "pv") => `(tactic| first | exact rfl | assumption | omega | (simp; done) | (simp; omega))
local macro_rules | `(tactic| wtm_at "tr") => `(tactic| first | ((with_reducible apply g_Td); (· wtm_at "pv")) | ((with_reducible apply g_Fd); (· wtm_at "pv")) | ((with_reducible apply g_NTd); (· wtm_at "pv")) | ((with_reducible apply g_NFd); (· wtm_at "pv")) | ((with_reducible apply g_nTd); (· wtm_at "pv")) | ((with_reducible apply g_nFd); (· wtm_at "pv")) | ((with_reducible apply g_RTd); (· wtm_at "pv")) | ((with_reducible apply g_RFd); (· wtm_at "pv")))
local macro_rules | `(tactic| wtm_at "gx") => `(tactic| repeat wtm_at "gx1")

section
variable {P : Program} {w : World} {K : PySem.W.Frag} {mg : Str → Option Value} {base : Heap}
structure WaysG (K : PySem.W.Frag) (H : Hp) (p : Addr) (l : List Nat) (W : Wd) (cd kd : Addr) (crs krs : List Addr) (fc fk : Nat → List V) : Prop where
  ob : ∃ dx wd, H p = some (.ins (He.ga K "Ways") dx (wfl l wd cd kd)) ∧ WdIs K H wd W
  c : Tab H cd crs fc
  k : Tab H kd krs fk
  sep : ∀ x ∈ cd :: crs, x ∉ kd :: krs
theorem WaysG.same {K : PySem.W.Frag} {H H' : Hp} {p : Addr} {l : List Nat} {W : Wd} {cd kd : Addr} {crs krs : List Addr} {fc fk : Nat → List V} (G : WaysG K H p l W cd kd crs krs fc fk) (s : Same H H') : WaysG K H' p l W cd kd crs krs fc fk := by
  obtain ⟨dx, wd, h1, h2⟩ := G.ob
  exact ⟨⟨dx, wd, s _ _ h1, h2.same s⟩, G.c.same s, G.k.same s, G.sep⟩
theorem WaysG.butL {K : PySem.W.Frag} {H H' : Hp} {p q : Addr} {l : List Nat} {W : Wd} {cd kd : Addr} {crs krs : List Addr} {fc fk : Nat → List V} {ys : List V} (G : WaysG K H p l W cd kd crs krs fc fk) (s : But q H H') (hq : H q = some (.lst ys)) (h1 : q ∉ cd :: crs) (h2 : q ∉ kd :: krs) : WaysG K H' p l W cd kd crs krs fc fk := by
  obtain ⟨dx, wd, g1, g2⟩ := G.ob
  rw [List.mem_cons, not_or] at h1 h2
  exact ⟨⟨dx, wd, s _ _ (fun e => by rw [e, hq] at g1; cases g1) g1, g2.but s hq⟩, G.c.but s h1.1 h1.2, G.k.but s h2.1 h2.2, G.sep⟩
theorem WaysG.fresh {K : PySem.W.Frag} {H : Hp} {p q : Addr} {l : List Nat} {W : Wd} {cd kd : Addr} {crs krs : List Addr} {fc fk : Nat → List V} (G : WaysG K H p l W cd kd crs krs fc fk) (h : H q = none) : q ∉ cd :: crs ∧ q ∉ kd :: krs := by
  have h1 := G.c.fresh h
  have h2 := G.k.fresh h
  rw [List.mem_cons, List.mem_cons, not_or, not_or]
  exact ⟨h1, h2⟩
/-- entry (a, b) of both tables tells x -/
def Ent (fc fk : Nat → List V) (a b : Nat) (x : MC) : Prop := (fc b)[a]? = some (cV x) ∧ (fk b)[a]? = some (nV x)
section
variable {P : Program} {w : World} {K : PySem.W.Frag} {mg : Str → Option Value} {H : Hp} {p : Addr} {l : List Nat} {W : Wd} {cd kd : Addr} {crs krs : List Addr} {fc fk : Nat → List V} {Q : VK} {A : Prop}
theorem g_wsig (T : Facts K mg) (G : WaysG K H p l W cd kd crs krs fc fk) (q : Q (Tx l) H) : rFld K "signs" (.ref p) H Q := by
  obtain ⟨dx, wd, h1, h2⟩ := G.ob
  exact g_fld h1 T.cl_Ways T.n_Ways_signs (wfl_signs ..) q
theorem g_wcost (T : Facts K mg) (G : WaysG K H p l W cd kd crs krs fc fk) (q : Q (.ref cd) H) : rFld K "costs" (.ref p) H Q := by
  obtain ⟨dx, wd, h1, h2⟩ := G.ob
  exact g_fld h1 T.cl_Ways T.n_Ways_costs (wfl_costs ..) q
theorem g_wcount (T : Facts K mg) (G : WaysG K H p l W cd kd crs krs fc fk) (q : Q (.ref kd) H) : rFld K "counts" (.ref p) H Q := by
  obtain ⟨dx, wd, h1, h2⟩ := G.ob
  exact g_fld h1 T.cl_Ways T.n_Ways_counts (wfl_counts ..) q
theorem g_wword (T : Facts K mg) (G : WaysG K H p l W cd kd crs krs fc fk) (q : ∀ wd, WdIs K H wd W → Q wd H) : rFld K "words" (.ref p) H Q := by
  obtain ⟨dx, wd, h1, h2⟩ := G.ob
  exact g_fld h1 T.cl_Ways T.n_Ways_words (wfl_words ..) (q wd h2)
theorem g_wmet {m : Str} (G : WaysG K H p l W cd kd crs krs fc fk) (hm : ∀ l wd cd kd, (wfl l wd cd kd).lookup m = none) (q : A) : rMetO (He.ga K "Ways") m (.ref p) H A := by
  obtain ⟨dx, wd, h1, h2⟩ := G.ob
  exact g_met h1 (hm _ _ _ _) q
theorem g_inPut {wd : V} (h : WdIs K H wd W) (q : Q (.bl W.pt) H) : rIn K false (Tx [112, 117, 116]) wd H Q := by
  obtain ⟨a, xs, h1, h2, h3, h4, h5, h6⟩ := h
  exact ⟨a, xs, h1, .inr h2, rfl, h3, by rw [if_neg Bool.false_ne_true, h4]; exact q⟩
theorem g_inStrike {wd : V} (h : WdIs K H wd W) (q : Q (.bl W.st) H) : rIn K false (Tx [115, 116, 114, 105, 107, 101]) wd H Q := by
  obtain ⟨a, xs, h1, h2, h3, h4, h5, h6⟩ := h
  exact ⟨a, xs, h1, .inr h2, rfl, h3, by rw [if_neg Bool.false_ne_true, h5]; exact q⟩
theorem g_inTurn {wd : V} (h : WdIs K H wd W) (q : Q (.bl W.tn) H) : rIn K false (Tx [116, 117, 114, 110]) wd H Q := by
  obtain ⟨a, xs, h1, h2, h3, h4, h5, h6⟩ := h
  exact ⟨a, xs, h1, .inr h2, rfl, h3, by rw [if_neg Bool.false_ne_true, h6]; exact q⟩
end
theorem two_pow_lt {a : Nat} (h : a ≤ 4) : ((a : Int)).natAbs < 2 ^ 3 := by omega
/-! is_letter -/
def sp_is_letter : Sp := fun vs H Q _ => ∃ c : Nat, vs = [Tx [c]] ∧ Q (.bl (decide (c ∉ BRK))) H
theorem ok_is_letter (T : Facts K mg) : C8.Cal P w K mg base 1 "is_letter" sp_is_letter [] := by
  refine calD T.f_is_letter sc_is_letter (fun vs H Q E h => ?_) (fun f cdv A outer s H vs Q E hr h => ?_)
  · obtain ⟨c, rfl, q⟩ := h; rfl
  · obtain ⟨c, rfl, q⟩ := h
    refine ⟨_, (pss_one (ps_ret (pe_and (pe_cmpR op_notInT (pv 0) (C8.pe_gc rfl T.c_OPENING) (by rfl)) (pe_one (pe_cmpR op_notInT (pv 0) (C8.pe_gc rfl T.c_CLOSING) (by rfl)))))), ?_⟩
    rw [st_is_letter]
    wtm_at "unf"
    wtm_at "gx"
    refine g_testN (fun h => ?_) (fun h => ?_)
    · wtm_at "gx"
      have e : decide (¬ c ∈ BRK) = !decide (c ∈ CLO) := by
        by_cases h2 : c ∈ CLO
        · rw [decide_eq_true h2, decide_eq_false (show ¬ ¬ c ∈ BRK from fun hq => hq (brk_or.mpr (.inr h2)))]; rfl
        · rw [decide_eq_false h2, decide_eq_true (show ¬ c ∈ BRK from fun hb => (brk_or.mp hb).elim h h2)]; rfl
      rw [e] at q
      exact q
    · rw [decide_eq_false (show ¬ ¬ c ∈ BRK from fun hq => hq (brk_or.mpr (.inl h)))] at q
      exact q
/-! fewest_turns -/
def sp_fewest_turns : Sp := fun vs H Q _ => ∃ c d : Nat, vs = [Tx [c], Tx [d]] ∧ c ∈ BRK ∧ d ∈ BRK ∧ ∀ (t : Addr) (H' : Hp), H t = none → Same H H' → H' t = some (.tup [.int (few c d).1, .int (few c d).2]) → Q (.ref t) H'
theorem ok_fewest_turns (T : Facts K mg) : C8.Cal P w K mg base 2 "fewest_turns" sp_fewest_turns [] := by
  refine calD T.f_fewest_turns sc_fewest_turns (fun vs H Q E h => ?_) (fun f cdv A outer s H vs Q E hr h => ?_)
  · obtain ⟨c, d, rfl, hc, hd, q⟩ := h; rfl
  · obtain ⟨c, d, rfl, hc, hd, q⟩ := h
    refine ⟨_, (pss_cons (ps_ifC (PW.pt (pw_and (pt_cmpR op_inT (pv 0) (C8.pe_gc rfl T.c_OPENING) (by rfl)) (pw_and1 (pt_cmpR op_inT (pv 1) (C8.pe_gc rfl T.c_CLOSING) (by rfl)))))
       (pss_cons (ps_set (i := 2) sc_fewest_turns.nd rfl (Or.inl rfl) (pe_callTy call_intB rfl T.b_int (by decide +kernel) (pa_cons (pe_cmpR op_ne (pe_own (ok_kind_of T) hr (by omega) rfl (pa_cons (pv 0) pa_nil)) (pe_own (ok_kind_of T) hr (by omega) rfl (pa_cons (pv 1) pa_nil)) (nomark _)) pa_nil)))
       (pss_one (ps_ret (pe_tup (pa_cons (pv 2) (pa_cons (pe_op op_add pe_int (pv 2)) pa_nil))))))
       pss_nil)
       (pss_cons (ps_ifC (PW.pt (pw_and (pt_cmpR op_inT (pv 0) (C8.pe_gc rfl T.c_CLOSING) (by rfl)) (pw_and1 (pt_cmpR op_inT (pv 1) (C8.pe_gc rfl T.c_OPENING) (by rfl)))))
       (pss_one (ps_ret (pe_tup (pa_cons pe_int (pa_cons (pe_callB call_lenT rfl T.b_len PySem.boot_len (pa_cons (C8.pe_gc rfl T.c_OPENING) pa_nil)) pa_nil)))))
       pss_nil)
       (pss_one (ps_ret (pe_tup (pa_cons pe_int (pa_cons pe_int pa_nil))))))), ?_⟩
    rw [st_fewest_turns]
    unfold few at q
    wtm_at "unf"
    refine g_ifC (b := decide (c ∈ OPN ∧ d ∈ CLO)) (fun Q q => ?_) (fun h => ?_) (fun h => ?_)
    · wtm_at "unf"
      wtm_at "gx"
      refine g_test (fun h1 => ?_) (fun h1 => ?_)
      · wtm_at "gx"
        refine ⟨_, rfl, ?_⟩
        rw [show decide (c ∈ OPN ∧ d ∈ CLO) = decide (d ∈ CLO) from decide_eq_decide.mpr ⟨fun z => z.2, fun z => ⟨h1, z⟩⟩] at q
        exact q
      · rw [decide_eq_false (fun z => h1 z.1)] at q
        exact q
    · have h' := of_decide_eq_true h
      rw [if_pos h'] at q
      wtm_at "unf"
      wtm_at "gx"
      refine ⟨c, rfl, hc, ?_⟩
      wtm_at "gx"
      refine ⟨d, rfl, hd, ?_⟩
      wtm_at "gx"
      refine g_tup (by show 2 ≤ 100000; decide) fun t H1 nt s1 et => q t H1 nt s1 ?_
      rw [et]
      by_cases h3 : knd c = knd d
      · rw [if_pos h3, decide_eq_true (by rw [h3])]
        rfl
      · rw [if_neg h3, decide_eq_false (fun hq => h3 (by have := V.int.inj hq; omega))]
        rfl
    · have h' := of_decide_eq_false h
      rw [if_neg h'] at q
      wtm_at "unf"
      refine g_ifC (b := decide (c ∈ CLO ∧ d ∈ OPN)) (fun Q q => ?_) (fun h => ?_) (fun h => ?_)
      · wtm_at "unf"
        wtm_at "gx"
        refine g_test (fun h1 => ?_) (fun h1 => ?_)
        · wtm_at "gx"
          refine ⟨_, rfl, ?_⟩
          rw [show decide (c ∈ CLO ∧ d ∈ OPN) = decide (d ∈ OPN) from decide_eq_decide.mpr ⟨fun z => z.2, fun z => ⟨h1, z⟩⟩] at q
          exact q
        · rw [decide_eq_false (fun z => h1 z.1)] at q
          exact q
      · rw [if_pos (of_decide_eq_true h)] at q
        wtm_at "unf"
        wtm_at "gx"
        refine g_lenT (by decide) ?_
        refine g_tup (by show 2 ≤ 100000; decide) fun t H1 nt s1 et => q t H1 nt s1 et
      · rw [if_neg (of_decide_eq_false h)] at q
        wtm_at "unf"
        wtm_at "gx"
        refine g_tup (by show 2 ≤ 100000; decide) fun t H1 nt s1 et => q t H1 nt s1 et
/-! Ways.count -/
def sp_Ways_count (K : PySem.W.Frag) : Sp := fun vs H Q _ => ∃ (p : Addr) (i j : Nat) (l : List Nat) (W : Wd) (cd kd : Addr) (crs krs : List Addr) (fc fk : Nat → List V) (v : V), vs = [.ref p, .int i, .int j] ∧ WaysG K H p l W cd kd crs krs fc fk ∧ j < krs.length ∧ (fk j)[i]? = some v ∧ Q v H
theorem ok_Ways_count (T : Facts K mg) : C8.Met P w K mg base 1 (He.ga K "Ways") "count" (sp_Ways_count K) [] := by
  refine metD T.m_Ways_count sc_Ways_count (fun vs H Q E h => ?_) (fun f cdv A outer s H vs Q E hr h => ?_)
  · obtain ⟨p, i, j, l, W, cd, kd, crs, krs, fc, fk, v, rfl, hG, hj, hv, q⟩ := h; rfl
  · obtain ⟨p, i, j, l, W, cd, kd, crs, krs, fc, fk, v, rfl, hG, hj, hv, q⟩ := h
    refine ⟨_, (pss_one (ps_ret (pe_ix ix_list (pe_ix ix_list (pe_fld (pv 0) rfl) (pv 2) (fun _ _ => rfl)) (pv 1) (fun _ _ => rfl)))), ?_⟩
    rw [st_Ways_count]
    wtm_at "unf"
    wtm_at "gx"
    refine g_wcount T hG ?_
    wtm_at "gx"
    obtain ⟨r, h1, h2, h3⟩ := hG.k.row hj
    refine g_ixLn j (sq_of hG.k.hd) rfl h2 ?_
    wtm_at "gx"
    exact g_ixLn i (sq_of h3) rfl hv q
/-! Ways.note -/
def sp_Ways_note (K : PySem.W.Frag) : Sp := fun vs H Q _ => ∃ (p fa : Addr) (nm mn b m j : Nat) (l : List Nat) (W : Wd) (cd kd : Addr) (crs krs : List Addr) (fc fk : Nat → List V) (xs : List (Nat × Nat)) (x y : MC), vs = [.ref p, .ref fa, .int nm, .int mn, .int b, .int m, .int j] ∧ WaysG K H p l W cd kd crs krs fc fk ∧ Prs H fa xs ∧ fa ∉ cd :: crs ∧ fa ∉ kd :: krs ∧ m < crs.length ∧ m < krs.length ∧ j < crs.length ∧ j < krs.length ∧ Ent fc fk b m x ∧ Ent fc fk (min (m + 1) j) j y ∧ mn ≤ 4 ∧ cnt x < 2 ^ 16001 ∧ cnt y < 2 ^ 16001 ∧ xs.length < 90000 ∧ ∀ H', But fa H H' → Prs H' fa (xs ++ (m3 (some (nm, mn)) x y).toList) → Q .non H'
theorem ok_Ways_note (T : Facts K mg) : C8.Met P w K mg base 1 (He.ga K "Ways") "note" (sp_Ways_note K) [] := by
  refine metD T.m_Ways_note sc_Ways_note (fun vs H Q E h => ?_) (fun f cdv A outer s H vs Q E hr h => ?_)
  · obtain ⟨p, fa, nm, mn, b, m, j, l, W, cd, kd, crs, krs, fc, fk, xs, x, y, rfl, hG, hP, hfa1, hfa2, hm, hm2, hj, hj2, hx, hy, hmn, hcx, hcy, hxl, q⟩ := h; rfl
  · obtain ⟨p, fa, nm, mn, b, m, j, l, W, cd, kd, crs, krs, fc, fk, xs, x, y, rfl, hG, hP, hfa1, hfa2, hm, hm2, hj, hj2, hx, hy, hmn, hcx, hcy, hxl, q⟩ := h
    refine ⟨_, (pss_cons (ps_set (i := 7) sc_Ways_note.nd rfl (Or.inl rfl) (pe_callB (call_min2' rfl) rfl T.b_min (by decide +kernel) (pa_cons (pe_op op_add (pv 5) pe_int) (pa_cons (pv 6) pa_nil))))
       (pss_cons (ps_set (i := 8) sc_Ways_note.nd rfl (Or.inl rfl) (pe_ix ix_list (pe_ix ix_list (pe_fld (pv 0) rfl) (pv 5) (fun _ _ => rfl)) (pv 4) (fun _ _ => rfl)))
       (pss_cons (ps_set (i := 9) sc_Ways_note.nd rfl (Or.inl rfl) (pe_ix ix_list (pe_ix ix_list (pe_fld (pv 0) rfl) (pv 6) (fun _ _ => rfl)) (pv 7) (fun _ _ => rfl)))
       (pss_one (ps_ifC (PW.pt (pw_and (pt_cmpR op_notN (pv 8) pe_non (nomark _)) (pw_and1 (pt_cmpR op_notN (pv 9) pe_non (nomark _)))))
       (pss_one (ps_expr (pe_bm PySem.F.plainAttrs_list PySem.F.slot_list_append PySem.F.type_list_append mt_append (pv 1) (pa_cons (pe_tup (pa_cons (pe_op op_add (pe_op op_add (pv 2) (pv 8)) (pv 9)) (pa_cons (pe_op op_mulW (pe_op op_mulW (pv 3) (pe_ix ix_list (pe_ix ix_list (pe_fld (pv 0) rfl) (pv 5) (fun _ _ => rfl)) (pv 4) (fun _ _ => rfl))) (pe_ix ix_list (pe_ix ix_list (pe_fld (pv 0) rfl) (pv 6) (fun _ _ => rfl)) (pv 7) (fun _ _ => rfl))) pa_nil))) pa_nil))))
       pss_nil))))), ?_⟩
    rw [st_Ways_note]
    obtain ⟨rm, hm1, hm2', hm3⟩ := hG.c.row hm
    obtain ⟨rj, hj1, hj2', hj3⟩ := hG.c.row hj
    obtain ⟨km, gm1, gm2, gm3⟩ := hG.k.row hm2
    obtain ⟨kj, gj1, gj2, gj3⟩ := hG.k.row hj2
    wtm_at "unf"
    wtm_at "gx"
    rw [show min ((m : Int) + 1) (j : Int) = ((min (m + 1) j : Nat) : Int) by omega]
    refine g_wcost T hG ?_
    wtm_at "gx"
    refine g_ixLn m (sq_of hG.c.hd) rfl hm2' ?_
    wtm_at "gx"
    refine g_ixLn b (sq_of hm3) rfl hx.1 ?_
    wtm_at "gx"
    refine g_wcost T hG ?_
    wtm_at "gx"
    refine g_ixLn j (sq_of hG.c.hd) rfl hj2' ?_
    wtm_at "gx"
    refine g_ixLn (min (m + 1) j) (sq_of hj3) rfl hy.1 ?_
    cases x with
    | none =>
      refine g_ifC (b := false) (fun Q q => ?_) (fun h => ?_) (fun h => ?_)
      · wtm_at "unf"
        wtm_at "gx"
        exact q
      · cases h
      · refine q H But.refl ?_
        rw [m3, mMul_none]
        show Prs H fa (xs ++ [])
        rw [List.append_nil]
        exact hP
    | some x =>
    rw [show cV (some x) = V.int x.1 from rfl]
    cases y with
    | none =>
      rw [show cV none = V.non from rfl]
      refine g_ifC (b := false) (fun Q q => ?_) (fun h => ?_) (fun h => ?_)
      · wtm_at "unf"
        wtm_at "gx"
        refine ⟨_, rfl, ?_⟩
        rw [decide_eq_true rfl]
        exact q
      · cases h
      · refine q H But.refl ?_
        rw [m3, mMul_none]
        show Prs H fa (xs ++ [])
        rw [List.append_nil]
        exact hP
    | some y =>
      rw [show cV (some y) = V.int y.1 from rfl]
      have hx2 : (fk m)[b]? = some (V.int x.2) := hx.2
      have hy2 : (fk j)[min (m + 1) j]? = some (V.int y.2) := hy.2
      have hbx : ((x.2 : Nat) : Int).natAbs < 2 ^ 16001 := by rw [Int.natAbs_natCast]; exact hcx
      have hby : ((y.2 : Nat) : Int).natAbs < 2 ^ 16001 := by rw [Int.natAbs_natCast]; exact hcy
      refine g_ifC (b := true) (fun Q q => ?_) (fun h => ?_) (fun h => ?_)
      · wtm_at "unf"
        wtm_at "gx"
        refine ⟨_, rfl, ?_⟩
        rw [decide_eq_false (fun h => nomatch h)]
        exact q
      · obtain ⟨rsP, hP1, hP2, hP3⟩ := id hP
        wtm_at "unf"
        wtm_at "gx"
        refine g_wcount T hG ?_
        wtm_at "gx"
        refine g_ixLn m (sq_of hG.k.hd) rfl gm2 ?_
        wtm_at "gx"
        refine g_ixLn b (sq_of gm3) rfl hx2 ?_
        refine g_I (wide_mul (a := 3) (b := 16001) (two_pow_lt hmn) hbx (by decide) (by decide) (by decide)) ?_
        wtm_at "gx"
        refine g_wcount T hG ?_
        wtm_at "gx"
        refine g_ixLn j (sq_of hG.k.hd) rfl gj2 ?_
        wtm_at "gx"
        refine g_ixLn (min (m + 1) j) (sq_of gj3) rfl hy2 ?_
        refine g_I (wide_mul (a := 16004) (b := 16001) (wide_lt (a := 3) (b := 16001) (two_pow_lt hmn) hbx) hby (by decide) (by decide) (by decide)) ?_
        refine g_tup (by show 2 ≤ 100000; decide) fun t H1 nt s1 et => ?_
        refine g_append1 (s1 _ _ hP1) (by rw [List.length_map]; omega) fun H2 b2 e2 => ?_
        refine q H2 (Same.but s1 b2) ?_
        refine Prs.snoc (t := t) (x := ((nm + x.1) + y.1, (mn * x.2) * y.2)) (hP.same s1) ?_ b2 fun rs' h' => ?_
        · rw [et]
          simp
        · have := (s1 _ _ hP1).symm.trans h'
          injection this with this
          injection this with this
          rw [e2, this]
      · cases h
/-! Ways.note_puts -/
def sp_Ways_note_puts (K : PySem.W.Frag) : Sp := fun vs H Q _ => ∃ (p fa : Addr) (i j : Nat) (l : List Nat) (W : Wd) (cd kd : Addr) (crs krs : List Addr) (fc fk : Nat → List V) (xs : List (Nat × Nat)), vs = [.ref p, .ref fa, .int i, .int j] ∧ WaysG K H p l W cd kd crs krs fc fk ∧ Prs H fa xs ∧ fa ∉ cd :: crs ∧ fa ∉ kd :: krs ∧ i < j ∧ j ≤ l.length ∧ l.length ≤ 1000 ∧ crs.length = l.length + 1 ∧ krs.length = l.length + 1 ∧ (∀ a b, i ≤ a → a ≤ b → b ≤ j → b - a < j - i → Ent fc fk a b (mcN l W a b)) ∧ W.pt = true ∧ (∀ a b, a ≤ b → b ≤ l.length → mcN l W a b ≠ none) ∧ xs.length ≤ 2000 ∧ ∀ (ys : List (Nat × Nat)) (H' : Hp), But fa H H' → Prs H' fa (xs ++ ys) → totL ys = mAdd (sm (fun t => m3 (opM l W i) (mcN l W (i + 1) (i + 1 + t)) (mcN l W (i + 1 + t) j)) (j - i)) (sm (fun t => m3 (clM l W (i + t)) (mcN l W i (i + t)) (mcN l W (i + t + 1) j)) (j - i)) → ys.length ≤ 2 * (j - i) → Q .non H'
theorem ok_Ways_note_puts (T : Facts K mg) : C8.Met P w K mg base 2 (He.ga K "Ways") "note_puts" (sp_Ways_note_puts K) [] := by
  refine metD T.m_Ways_note_puts sc_Ways_note_puts (fun vs H Q E h => ?_) (fun f cdv A outer s H vs Q E hr h => ?_)
  · obtain ⟨p, fa, i, j, l, W, cd, kd, crs, krs, fc, fk, xs, rfl, hG, hP, hfa1, hfa2, hi, hj, hjl, hcl, hkl, hE, hW, hN, hxl, q⟩ := h; rfl
  · obtain ⟨p, fa, i, j, l, W, cd, kd, crs, krs, fc, fk, xs, rfl, hG, hP, hfa1, hfa2, hi, hj, hjl, hcl, hkl, hE, hW, hN, hxl, q⟩ := h
    refine ⟨_, (C8.pss_cut (ps_if (pt_cmpR op_inT (pe_ix ix_txt (pe_fld (pv 0) rfl) (pv 2) (fun _ _ => rfl)) (C8.pe_gc rfl T.c_OPENING) (by rfl))
       (pss_one (ps_for PassesOwn.never rfl (pi_range2 rfl T.b_range (pa_cons (pe_op op_add (pv 2) pe_int) (pa_cons (pe_op op_add (pv 3) pe_int) pa_nil))) (pg_name (i := 4) sc_Ways_note_puts.nd rfl (Or.inl rfl))
       (pss_cons (ps_set (i := 5) sc_Ways_note_puts.nd rfl (Or.inl rfl) (pe_op op_add (pe_op op_add pe_int (pe_ix ix_list (pe_ix ix_list (pe_fld (pv 0) rfl) (pv 4) (fun _ _ => rfl)) (pe_op op_add (pv 2) pe_int) (fun _ _ => rfl))) (pe_ix ix_list (pe_ix ix_list (pe_fld (pv 0) rfl) (pv 3) (fun _ _ => rfl)) (pv 4) (fun _ _ => rfl))))
       (pss_one (ps_expr (pe_bm PySem.F.plainAttrs_list PySem.F.slot_list_append PySem.F.type_list_append mt_append (pv 1) (pa_cons (pe_tup (pa_cons (pv 5) (pa_cons (pe_op op_mulW (pe_ix ix_list (pe_ix ix_list (pe_fld (pv 0) rfl) (pv 4) (fun _ _ => rfl)) (pe_op op_add (pv 2) pe_int) (fun _ _ => rfl)) (pe_ix ix_list (pe_ix ix_list (pe_fld (pv 0) rfl) (pv 3) (fun _ _ => rfl)) (pv 4) (fun _ _ => rfl))) pa_nil))) pa_nil)))))))
       pss_nil)
       (pss_one (ps_for PassesOwn.never rfl (pi_range2 rfl T.b_range (pa_cons (pv 2) (pa_cons (pv 3) pa_nil))) (pg_name (i := 4) sc_Ways_note_puts.nd rfl (Or.inl rfl))
       (pss_one (ps_if (pt_cmpR op_inT (pe_ix ix_txt (pe_fld (pv 0) rfl) (pv 4) (fun _ _ => rfl)) (C8.pe_gc rfl T.c_CLOSING) (by rfl))
       (pss_one (ps_expr (pe_met (ok_Ways_note T) hr (by omega) (pv 0) (pa_cons (pv 1) (pa_cons pe_int (pa_cons pe_int (pa_cons (pv 2) (pa_cons (pv 4) (pa_cons (pv 3) pa_nil)))))))))
       pss_nil))))), ?_⟩
    rw [st_Ways_note_puts]
    have hcn : ∀ a b, a ≤ b → b ≤ j → cnt (mcN l W a b) < 2 ^ 16001 := fun a b h1 h2 => mcN_big h1 (by omega)
    have hsg : l[i]? = some l[i] := List.getElem?_eq_getElem (by omega)
    have hnn : ∀ a b, a ≤ b → b ≤ j → ∃ x : Nat × Nat, mcN l W a b = some x := fun a b h1 h2 => Option.ne_none_iff_exists'.mp (hN a b h1 (by omega))
    have rdc : ∀ (H' : Hp), WaysG K H' p l W cd kd crs krs fc fk → ∀ a b, i ≤ a → a ≤ b → b ≤ j → b - a < j - i → ∃ r r2, (crs.map V.ref)[b]? = some (V.ref r) ∧ SqL K H' r (fc b) ∧ (fc b)[a]? = some (cV (mcN l W a b)) ∧ (krs.map V.ref)[b]? = some (V.ref r2) ∧ SqL K H' r2 (fk b) ∧ (fk b)[a]? = some (nV (mcN l W a b)) := by
      intro H' G' a b h1 h2 h3 h4
      obtain ⟨r, _, g2, g3⟩ := G'.c.row (k := b) (by omega)
      obtain ⟨r2, _, g5, g6⟩ := G'.k.row (k := b) (by omega)
      exact ⟨r, r2, g2, sq_of g3, (hE a b h1 h2 h3 h4).1, g5, sq_of g6, (hE a b h1 h2 h3 h4).2⟩
    generalize hc : l[i] = c at hsg
    wtm_at "unf"
    refine ⟨fun σ' H1 => ∃ (ys : List (Nat × Nat)) (y4 y5 : Option V), σ' = [some (V.ref p), some (V.ref fa), some (V.int i), some (V.int j), y4, y5] ∧ But fa H H1 ∧ Prs H1 fa (xs ++ ys) ∧ WaysG K H1 p l W cd kd crs krs fc fk ∧ totL ys = sm (fun t => m3 (opM l W i) (mcN l W (i + 1) (i + 1 + t)) (mcN l W (i + 1 + t) j)) (j - i) ∧ ys.length ≤ j - i, ?_, ?_⟩
    · wtm_at "gx"
      refine g_wsig T hG ?_
      wtm_at "gx"
      refine g_ixT (by omega) (atI_of hsg) ?_
      wtm_at "gx"
      refine g_test (fun ho => ?_) (fun ho => ?_)
      · have hop : opM l W i = w1 := by unfold opM; rw [hsg]; exact if_pos ⟨ho, hW⟩
        wtm_at "gx"
        refine ⟨_, _, rfl, ⟨by omega, by omega, by omega, by omega⟩, for_rng (fun t σ H1 => ∃ (ys : List (Nat × Nat)) (y4 y5 : Option V), σ = [some (V.ref p), some (V.ref fa), some (V.int i), some (V.int j), y4, y5] ∧ But fa H H1 ∧ Prs H1 fa (xs ++ ys) ∧ WaysG K H1 p l W cd kd crs krs fc fk ∧ totL ys = sm (fun t => m3 (opM l W i) (mcN l W (i + 1) (i + 1 + t)) (mcN l W (i + 1 + t) j)) t ∧ ys.length ≤ t) ⟨[], _, _, rfl, But.refl, by rw [List.append_nil]; exact hP, hG, rfl, by simp⟩ (fun t σ H1 ht hv => ?_) (fun σ H1 hv => ?_)⟩
        · obtain ⟨ys, y4, y5, rfl, bH, hP1, hG1, hty, hyl⟩ := hv
          have ht2 : t < j - i := by omega
          obtain ⟨ra, ra2, a1, a2, a3, a4, a5, a6⟩ := rdc H1 hG1 (i + 1) (i + 1 + t) (by omega) (by omega) (by omega) (by omega)
          obtain ⟨rb, rb2, b1, b2, b3, b4, b5, b6⟩ := rdc H1 hG1 (i + 1 + t) j (by omega) (by omega) (by omega) (by omega)
          have c1 := hcn (i + 1) (i + 1 + t) (by omega) (by omega)
          have c2 := hcn (i + 1 + t) j (by omega) (by omega)
          obtain ⟨x, hx⟩ := hnn (i + 1) (i + 1 + t) (by omega) (by omega)
          obtain ⟨y, hy⟩ := hnn (i + 1 + t) j (by omega) (by omega)
          rw [hx] at a3 a6 c1
          rw [hy] at b3 b6 c2
          have hbx : ((x.2 : Nat) : Int).natAbs < 2 ^ 16001 := by rw [Int.natAbs_natCast]; exact c1
          have hby : ((y.2 : Nat) : Int).natAbs < 2 ^ 16001 := by rw [Int.natAbs_natCast]; exact c2
          obtain ⟨rsP, hQ1, hQ2, hQ3⟩ := id hP1
          wtm_at "unf"
          wtm_at "gx"
          refine g_wcost T hG1 ?_
          wtm_at "gx"
          refine g_ixLn (i + 1 + t) (sq_of hG1.c.hd) (by omega) a1 ?_
          wtm_at "gx"
          refine g_ixLn (v := V.int x.1) (i + 1) a2 (by omega) a3 ?_
          wtm_at "gx"
          refine g_wcost T hG1 ?_
          wtm_at "gx"
          refine g_ixLn j (sq_of hG1.c.hd) (by omega) b1 ?_
          wtm_at "gx"
          refine g_ixLn (v := V.int y.1) (i + 1 + t) b2 (by omega) b3 ?_
          wtm_at "gx"
          refine g_wcount T hG1 ?_
          wtm_at "gx"
          refine g_ixLn (i + 1 + t) (sq_of hG1.k.hd) (by omega) a4 ?_
          wtm_at "gx"
          refine g_ixLn (v := V.int x.2) (i + 1) a5 (by omega) a6 ?_
          wtm_at "gx"
          refine g_wcount T hG1 ?_
          wtm_at "gx"
          refine g_ixLn j (sq_of hG1.k.hd) (by omega) b4 ?_
          wtm_at "gx"
          refine g_ixLn (v := V.int y.2) (i + 1 + t) b5 (by omega) b6 ?_
          refine g_I (wide_mul (a := 16001) (b := 16001) hbx hby (by decide) (by decide) (by decide)) ?_
          refine g_tup (by show 2 ≤ 100000; decide) fun tt H2 nt s2 et => ?_
          refine g_append1 (s2 _ _ hQ1) (by rw [List.length_map, hQ2, List.length_append]; omega) fun H3 b3' e3 => ?_
          refine ⟨ys ++ [((1 + x.1) + y.1, (1 * x.2) * y.2)], _, _, rfl, But.tr b3' (But.sa s2 bH), ?_, (hG1.same s2).butL b3' (s2 _ _ hQ1) hfa1 hfa2, ?_, by simp; omega⟩
          · rw [← List.append_assoc]
            refine Prs.snoc (t := tt) (hP1.same s2) ?_ b3' fun rs' h' => ?_
            · rw [et]
              simp
            · have := (s2 _ _ hQ1).symm.trans h'
              injection this with this
              injection this with this
              rw [e3, this]
          · rw [totL_snoc, hty, sm, hop, hx, hy]
            rfl
        · obtain ⟨ys, y4, y5, rfl, bH, hP1, hG1, hty, hyl⟩ := hv
          have e : ((j : Int) + 1 - ((i : Int) + 1)).toNat = j - i := by omega
          rw [e] at hty hyl
          exact ⟨ys, _, _, rfl, bH, hP1, hG1, hty, hyl⟩
      · have hop : opM l W i = none := by unfold opM; rw [hsg]; exact if_neg fun z => ho z.1
        wtm_at "unf"
        refine ⟨[], _, _, rfl, But.refl, by rw [List.append_nil]; exact hP, hG, ?_, by simp⟩
        rw [hop]
        exact (sm_none (j - i)).symm
    · rintro σ' H1 ⟨ys, y4, y5, rfl, bH, hP1, hG1, hty, hyl⟩
      wtm_at "unf"
      wtm_at "gx"
      refine ⟨_, _, rfl, ⟨by omega, by omega, by omega, by omega⟩, for_rng (fun t σ H1 => ∃ (zs : List (Nat × Nat)) (y4 y5 : Option V), σ = [some (V.ref p), some (V.ref fa), some (V.int i), some (V.int j), y4, y5] ∧ But fa H H1 ∧ Prs H1 fa (xs ++ ys ++ zs) ∧ WaysG K H1 p l W cd kd crs krs fc fk ∧ totL zs = sm (fun t => m3 (clM l W (i + t)) (mcN l W i (i + t)) (mcN l W (i + t + 1) j)) t ∧ zs.length ≤ t) ⟨[], _, _, rfl, bH, by rw [List.append_nil]; exact hP1, hG1, rfl, by simp⟩ (fun t σ H1 ht hv => ?_) (fun σ H1 hv => ?_)⟩
      · obtain ⟨zs, y4, y5, rfl, bH, hP1, hG1, htz, hzl⟩ := hv
        have ht2 : t < j - i := by omega
        have em : l[i + t]? = some l[i + t] := List.getElem?_eq_getElem (by omega)
        generalize l[i + t] = d at em
        wtm_at "unf"
        wtm_at "gx"
        refine g_wsig T hG1 ?_
        wtm_at "gx"
        refine g_ixTn (i + t) (by omega) (by omega) em ?_
        wtm_at "gx"
        refine g_test (fun ho => ?_) (fun ho => ?_)
        · have hcl' : clM l W (i + t) = w1 := by unfold clM; rw [em]; exact if_pos ⟨ho, hW⟩
          wtm_at "gx"
          refine g_wmet hG1 (fun _ _ _ _ => rfl) ?_
          wtm_at "gx"
          refine ⟨p, fa, 1, 1, i, i + t, j, l, W, cd, kd, crs, krs, fc, fk, xs ++ ys ++ zs, mcN l W i (i + t), mcN l W (i + t + 1) j, ?_, hG1, hP1, hfa1, hfa2, by omega, by omega, by omega, by omega, hE _ _ (by omega) (by omega) (by omega) (by omega), by rw [show min (i + t + 1) j = i + t + 1 by omega]; exact hE _ _ (by omega) (by omega) (by omega) (by omega), by decide, hcn _ _ (by omega) (by omega), hcn _ _ (by omega) (by omega), by simp; omega, fun H2 b2 hP2 => ?_⟩
          · rw [show ((i + t : Nat) : Int) = (i : Int) + (t : Int) by omega]
            rfl
          obtain ⟨yl, hyl1, hyl2⟩ := hP1.lst
          refine ⟨zs ++ (m3 (some (1, 1)) (mcN l W i (i + t)) (mcN l W (i + t + 1) j)).toList, _, _, rfl, But.tr b2 bH, by rw [← List.append_assoc]; exact hP2, hG1.butL b2 hyl1 hfa1 hfa2, ?_, ?_⟩
          · rw [totL_opt, htz, sm, hcl']
            rfl
          · rw [List.length_append]
            have : ∀ o : MC, o.toList.length ≤ 1 := fun o => by cases o <;> simp
            have := this (m3 (some (1, 1)) (mcN l W i (i + t)) (mcN l W (i + t + 1) j))
            omega
        · have hcl' : clM l W (i + t) = none := by unfold clM; rw [em]; exact if_neg fun z => ho z.1
          wtm_at "unf"
          refine ⟨zs, _, _, rfl, bH, hP1, hG1, ?_, by omega⟩
          rw [htz, sm, hcl', m3_none, mAdd_none]
      · obtain ⟨zs, y4, y5, rfl, bH, hP1, hG1, htz, hzl⟩ := hv
        rw [show ((j : Int) - (i : Int)).toNat = j - i by omega] at htz hzl
        refine q (ys ++ zs) H1 bH (by rw [← List.append_assoc]; exact hP1) ?_ (by rw [List.length_append]; omega)
        rw [totL_app, hty, htz]
/-! Ways.numbers -/
def sp_Ways_numbers (K : PySem.W.Frag) : Sp := fun vs H Q _ => ∃ (p : Addr) (i j : Nat) (l : List Nat) (W : Wd) (cd kd : Addr) (crs krs : List Addr) (fc fk : Nat → List V), vs = [.ref p, .int i, .int j] ∧ WaysG K H p l W cd kd crs krs fc fk ∧ i < j ∧ j ≤ l.length ∧ l.length ≤ 1000 ∧ crs.length = l.length + 1 ∧ krs.length = l.length + 1 ∧ (∀ a b, i ≤ a → a ≤ b → b ≤ j → b - a < j - i → Ent fc fk a b (mcN l W a b)) ∧ (W.pt = true → ∀ a b, a ≤ b → b ≤ l.length → mcN l W a b ≠ none) ∧ ∀ (fa : Addr) (xs : List (Nat × Nat)) (H' : Hp), H fa = none → Same H H' → Prs H' fa xs → totL xs = stM l W (mcN l W) i j → Q (.ref fa) H'
theorem ok_Ways_numbers (T : Facts K mg) : C8.Met P w K mg base 3 (He.ga K "Ways") "numbers" (sp_Ways_numbers K) [] := by
  refine metD T.m_Ways_numbers sc_Ways_numbers (fun vs H Q E h => ?_) (fun f cdv A outer s H vs Q E hr h => ?_)
  · obtain ⟨p, i, j, l, W, cd, kd, crs, krs, fc, fk, rfl, hG, hi, hj, hjl, hcl, hkl, hE, hp, q⟩ := h; rfl
  · obtain ⟨p, i, j, l, W, cd, kd, crs, krs, fc, fk, rfl, hG, hi, hj, hjl, hcl, hkl, hE, hp, q⟩ := h
    refine ⟨_, (pss_cons (ps_set (i := 3) sc_Ways_numbers.nd rfl (Or.inl rfl) (pe_lst pa_nil))
       (pss_cons (ps_set (i := 4) sc_Ways_numbers.nd rfl (Or.inl rfl) (pe_ix ix_txt (pe_fld (pv 0) rfl) (pv 1) (fun _ _ => rfl)))
       (C8.pss_cut (ps_if (pt_val (pe_own (ok_is_letter T) hr (by omega) rfl (pa_cons (pv 4) pa_nil)))
       (pss_one (ps_expr (pe_met (ok_Ways_note T) hr (by omega) (pv 0) (pa_cons (pv 3) (pa_cons pe_int (pa_cons pe_int (pa_cons (pe_op op_add (pv 1) pe_int) (pa_cons (pv 2) (pa_cons (pv 2) pa_nil)))))))))
       (C8.pss_cut (ps_if (pt_cmpR op_in_seq (pe_strS (l := [115, 116, 114, 105, 107, 101]) (by decide +kernel)) (pe_fld (pv 0) rfl) (by rfl))
       (pss_one (ps_expr (pe_met (ok_Ways_note T) hr (by omega) (pv 0) (pa_cons (pv 3) (pa_cons pe_int (pa_cons pe_int (pa_cons (pe_op op_add (pv 1) pe_int) (pa_cons (pv 2) (pa_cons (pv 2) pa_nil)))))))))
       pss_nil)
       (pss_one (ps_for PassesOwn.never rfl (pi_range2 rfl T.b_range (pa_cons (pe_op op_add (pv 1) pe_int) (pa_cons (pv 2) pa_nil))) (pg_name (i := 5) sc_Ways_numbers.nd rfl (Or.inl rfl))
       (pss_one (ps_if (pt_not (pt_val (pe_own (ok_is_letter T) hr (by omega) rfl (pa_cons (pe_ix ix_txt (pe_fld (pv 0) rfl) (pv 5) (fun _ _ => rfl)) pa_nil))))
       (pss_cons (ps_asg (pe_own (ok_fewest_turns T) hr (by omega) rfl (pa_cons (pv 4) (pa_cons (pe_ix ix_txt (pe_fld (pv 0) rfl) (pv 5) (fun _ _ => rfl)) pa_nil))) (pg_tup rfl (pgs_cons (pg_name (i := 6) sc_Ways_numbers.nd rfl (Or.inl rfl)) (pgs_cons (pg_name (i := 7) sc_Ways_numbers.nd rfl (Or.inl rfl)) pgs_nil))))
       (pss_one (ps_ifC (PW.pt (pw_or (pt_cmpR op_eq (pv 6) pe_int (nomark _)) (pw_or1 (pt_cmpR op_in_seq (pe_strS (l := [116, 117, 114, 110]) (by decide +kernel)) (pe_fld (pv 0) rfl) (by rfl)))))
       (pss_one (ps_expr (pe_met (ok_Ways_note T) hr (by omega) (pv 0) (pa_cons (pv 3) (pa_cons (pv 6) (pa_cons (pv 7) (pa_cons (pe_op op_add (pv 1) pe_int) (pa_cons (pv 5) (pa_cons (pv 2) pa_nil)))))))))
       pss_nil)))
       pss_nil))))))
       (C8.pss_cut (ps_if (pt_cmpR op_in_seq (pe_strS (l := [112, 117, 116]) (by decide +kernel)) (pe_fld (pv 0) rfl) (by rfl))
       (pss_one (ps_expr (pe_met (ok_Ways_note_puts T) hr (by omega) (pv 0) (pa_cons (pv 3) (pa_cons (pv 1) (pa_cons (pv 2) pa_nil))))))
       pss_nil)
       (pss_one (ps_ret (pv 3))))))), ?_⟩
    rw [st_Ways_numbers]
    have hcn : ∀ a b, a ≤ b → b ≤ j → cnt (mcN l W a b) < 2 ^ 16001 := fun a b h1 h2 => mcN_big h1 (by omega)
    have hsg : l[i]? = some l[i] := List.getElem?_eq_getElem (by omega)
    generalize l[i] = c at hsg
    have hopt : ∀ o : MC, o.toList.length ≤ 1 := fun o => by cases o <;> simp
    wtm_at "unf"
    refine g_lst (by show 0 ≤ 100000; decide) fun fa H1 nfa s1 efa => ?_
    have hG1 := hG.same s1
    obtain ⟨hfa1, hfa2⟩ := hG.fresh nfa
    have hP1 : Prs H1 fa [] := ⟨[], efa, rfl, fun k r x h => by simp at h⟩
    wtm_at "gx"
    refine g_wsig T hG1 ?_
    wtm_at "gx"
    refine g_ixT (by omega) (atI_of hsg) ?_
    refine ⟨fun σ' H2 => ∃ (ys : List (Nat × Nat)) (y5 y6 y7 : Option V), σ' = [some (V.ref p), some (V.int i), some (V.int j), some (V.ref fa), some (Tx [c]), y5, y6, y7] ∧ But fa H1 H2 ∧ Prs H2 fa ys ∧ WaysG K H2 p l W cd kd crs krs fc fk ∧ totL ys = mAdd (mMul (sgM l W i) (mcN l W (i + 1) j)) (sm (fun t => m3 (prM l W i (i + 1 + t)) (mcN l W (i + 1) (i + 1 + t)) (mcN l W (i + 1 + t + 1) j)) (j - i - 1)) ∧ ys.length ≤ j - i, ?_, ?_⟩
    · wtm_at "gx"
      refine ⟨c, rfl, ?_⟩
      by_cases hb : c ∈ BRK
      · rw [decide_eq_false (show ¬ ¬ c ∈ BRK from fun z => z hb)]
        wtm_at "gx"
        -- the strike
        refine ⟨fun σ' H2 => ∃ (ys : List (Nat × Nat)), σ' = [some (V.ref p), some (V.int i), some (V.int j), some (V.ref fa), some (Tx [c]), none, none, none] ∧ But fa H1 H2 ∧ Prs H2 fa ys ∧ WaysG K H2 p l W cd kd crs krs fc fk ∧ totL ys = mMul (sgM l W i) (mcN l W (i + 1) j) ∧ ys.length ≤ 1, ?_, ?_⟩
        · wtm_at "gx"
          refine g_wword T hG1 fun wd hwd => ?_
          refine g_inStrike hwd ?_
          cases hst : W.st with
          | true =>
            wtm_at "gx"
            refine g_wmet hG1 (fun _ _ _ _ => rfl) ?_
            wtm_at "gx"
            have hsgm : sgM l W i = w1 := by unfold sgM; rw [hsg]; dsimp only; rw [if_pos hb, if_pos hst]
            refine ⟨p, fa, 1, 1, i + 1, j, j, l, W, cd, kd, crs, krs, fc, fk, [], mcN l W (i + 1) j, mcN l W j j, by simp, hG1, hP1, hfa1, hfa2, by omega, by omega, by omega, by omega, hE _ _ (by omega) (by omega) (by omega) (by omega), by rw [show min (j + 1) j = j by omega]; exact hE _ _ (by omega) (by omega) (by omega) (by omega), by decide, hcn _ _ (by omega) (by omega), hcn _ _ (by omega) (by omega), by decide, fun H2 b2 hP2 => ?_⟩
            refine ⟨_, rfl, b2, hP2, hG1.butL b2 efa hfa1 hfa2, ?_, ?_⟩
            · rw [totL_opt, mcN_self, m3, mMul_one, hsgm]
              rfl
            · simpa using hopt _
          | false =>
            have hsgm : sgM l W i = none := by unfold sgM; rw [hsg]; dsimp only; rw [if_pos hb, if_neg (by rw [hst]; decide)]
            wtm_at "gx"
            exact ⟨[], rfl, But.refl, hP1, hG1, by rw [hsgm]; rfl, by simp⟩
        · rintro σ' H2 ⟨ys0, rfl, bH2, hP2, hG2, hty0, hyl0⟩
          wtm_at "unf"
          wtm_at "gx"
          refine ⟨_, _, rfl, ⟨by omega, by omega, by omega, by omega⟩, for_rng (fun t σ H3 => ∃ (ys : List (Nat × Nat)) (y5 y6 y7 : Option V), σ = [some (V.ref p), some (V.int i), some (V.int j), some (V.ref fa), some (Tx [c]), y5, y6, y7] ∧ But fa H1 H3 ∧ Prs H3 fa ys ∧ WaysG K H3 p l W cd kd crs krs fc fk ∧ totL ys = mAdd (mMul (sgM l W i) (mcN l W (i + 1) j)) (sm (fun t => m3 (prM l W i (i + 1 + t)) (mcN l W (i + 1) (i + 1 + t)) (mcN l W (i + 1 + t + 1) j)) t) ∧ ys.length ≤ 1 + t) ⟨ys0, _, _, _, rfl, bH2, hP2, hG2, by rw [sm, mAdd_none]; exact hty0, by omega⟩ (fun t σ H3 ht hv => ?_) (fun σ H3 hv => ?_)⟩
          · obtain ⟨ys, y5, y6, y7, rfl, bH3, hP3, hG3, hty, hyl⟩ := hv
            have ht2 : t < j - i - 1 := by omega
            have em : l[i + 1 + t]? = some l[i + 1 + t] := List.getElem?_eq_getElem (by omega)
            generalize l[i + 1 + t] = d at em
            wtm_at "unf"
            wtm_at "gx"
            refine g_wsig T hG3 ?_
            wtm_at "gx"
            refine g_ixTn (i + 1 + t) (by omega) (by omega) em ?_
            refine ⟨d, rfl, ?_⟩
            by_cases hd : d ∈ BRK
            · rw [decide_eq_false (show ¬ ¬ d ∈ BRK from fun z => z hd)]
              wtm_at "gx"
              refine g_wsig T hG3 ?_
              wtm_at "gx"
              refine g_ixTn (i + 1 + t) (by omega) (by omega) em ?_
              refine ⟨c, d, rfl, hb, hd, fun tt H4 ntt s4 ett => ?_⟩
              refine ⟨tt, _, rfl, st_of ett, rfl, _, _, rfl, _, _, rfl, rfl, ?_⟩
              wtm_at "unf"
              have hG4 := hG3.same s4
              refine g_ifH (b := decide ((few c d).1 = 0) || W.tn) (G := fun H5 => H5 = H4) (fun Q q => ?_) (fun H5 e5 hbt => ?_) (fun H5 e5 hbt => ?_)
              · wtm_at "unf"
                wtm_at "gx"
                by_cases h0 : (few c d).1 = 0
                · rw [h0]
                  wtm_at "gx"
                  rw [decide_eq_true h0] at q
                  exact q _ rfl
                · refine g_Fd (fun z => h0 (by have := V.int.inj z; omega)) ?_
                  wtm_at "gx"
                  refine g_wword T hG4 fun wd hwd => ?_
                  refine g_inTurn hwd ?_
                  rw [decide_eq_false h0] at q
                  exact ⟨_, rfl, q _ rfl⟩
              · subst e5
                have hpr : prM l W i (i + 1 + t) = some (few c d) := by
                  unfold prM
                  rw [hsg, em]
                  refine if_pos ⟨hb, hd, ?_⟩
                  rcases (Bool.or_eq_true _ _).mp hbt with h | h
                  · exact .inl (of_decide_eq_true h)
                  · exact .inr h
                wtm_at "unf"
                wtm_at "gx"
                refine g_wmet hG4 (fun _ _ _ _ => rfl) ?_
                wtm_at "gx"
                refine ⟨p, fa, (few c d).1, (few c d).2, i + 1, i + 1 + t, j, l, W, cd, kd, crs, krs, fc, fk, ys, mcN l W (i + 1) (i + 1 + t), mcN l W (i + 1 + t + 1) j, by simp, hG4, hP3.same s4, hfa1, hfa2, by omega, by omega, by omega, by omega, hE _ _ (by omega) (by omega) (by omega) (by omega), by rw [show min (i + 1 + t + 1) j = i + 1 + t + 1 by omega]; exact hE _ _ (by omega) (by omega) (by omega) (by omega), cnt_few c d, hcn _ _ (by omega) (by omega), hcn _ _ (by omega) (by omega), by omega, fun H6 b6 hP6 => ?_⟩
                obtain ⟨yl, hyl1, hyl2⟩ := (hP3.same s4).lst
                refine ⟨_, _, _, _, rfl, But.tr b6 (But.sa s4 bH3), hP6, hG4.butL b6 hyl1 hfa1 hfa2, ?_, ?_⟩
                · rw [totL_opt, hty, sm, hpr, mAdd_assoc]
                · have := hopt (m3 (some ((few c d).1, (few c d).2)) (mcN l W (i + 1) (i + 1 + t)) (mcN l W (i + 1 + t + 1) j))
                  rw [List.length_append]
                  omega
              · subst e5
                have hpr : prM l W i (i + 1 + t) = none := by
                  unfold prM
                  rw [hsg, em]
                  refine if_neg fun z => ?_
                  rw [Bool.or_eq_false_iff] at hbt
                  rcases z.2.2 with h | h
                  · exact of_decide_eq_false hbt.1 h
                  · rw [hbt.2] at h; cases h
                wtm_at "unf"
                refine ⟨ys, _, _, _, rfl, But.sa s4 bH3, hP3.same s4, hG4, ?_, by omega⟩
                rw [hty, sm, hpr, m3_none, mAdd_none]
            · rw [decide_eq_true hd]
              wtm_at "gx"
              have hpr : prM l W i (i + 1 + t) = none := by
                unfold prM
                rw [hsg, em]
                exact if_neg fun z => hd z.2.1
              refine ⟨ys, _, _, _, rfl, bH3, hP3, hG3, ?_, by omega⟩
              rw [hty, sm, hpr, m3_none, mAdd_none]
          · obtain ⟨ys, y5, y6, y7, rfl, bH3, hP3, hG3, hty, hyl⟩ := hv
            have e : ((j : Int) - ((i : Int) + 1)).toNat = j - i - 1 := by omega
            rw [e] at hty hyl
            exact ⟨ys, _, _, _, rfl, bH3, hP3, hG3, hty, by omega⟩
      · rw [decide_eq_true hb]
        wtm_at "gx"
        refine g_wmet hG1 (fun _ _ _ _ => rfl) ?_
        wtm_at "gx"
        have hsgm : sgM l W i = mOne := by unfold sgM; rw [hsg]; dsimp only; rw [if_neg hb]
        refine ⟨p, fa, 0, 1, i + 1, j, j, l, W, cd, kd, crs, krs, fc, fk, [], mcN l W (i + 1) j, mcN l W j j, by simp, hG1, hP1, hfa1, hfa2, by omega, by omega, by omega, by omega, hE _ _ (by omega) (by omega) (by omega) (by omega), by rw [show min (j + 1) j = j by omega]; exact hE _ _ (by omega) (by omega) (by omega) (by omega), by decide, hcn _ _ (by omega) (by omega), hcn _ _ (by omega) (by omega), by decide, fun H2 b2 hP2 => ?_⟩
        refine ⟨_, _, _, _, rfl, b2, hP2, hG1.butL b2 efa hfa1 hfa2, ?_, ?_⟩
        · have hpn : sm (fun t => m3 (prM l W i (i + 1 + t)) (mcN l W (i + 1) (i + 1 + t)) (mcN l W (i + 1 + t + 1) j)) (j - i - 1) = none := by
            refine (sm_congr (g := fun _ => none) fun k hk => ?_).trans (sm_none _)
            have : prM l W i (i + 1 + k) = none := by
              unfold prM
              rw [hsg]
              cases l[i + 1 + k]? with
              | none => rfl
              | some d => exact if_neg fun z => hb z.1
            rw [this, m3_none]
          rw [totL_opt, mcN_self, m3, mMul_one, hsgm, hpn, mAdd_none]
          rfl
        · have := hopt (m3 (some (0, 1)) (mcN l W (i + 1) j) (mcN l W j j))
          simp only [List.nil_append]
          omega
    · rintro σ' H2 ⟨ys, y5, y6, y7, rfl, bH2, hP2, hG2, hty, hyl⟩
      have sH2 : Same H H2 := Same.b0 bH2 s1 nfa
      wtm_at "unf"
      refine ⟨fun σ' H3 => ∃ zs : List (Nat × Nat), σ' = [some (V.ref p), some (V.int i), some (V.int j), some (V.ref fa), some (Tx [c]), y5, y6, y7] ∧ Same H H3 ∧ Prs H3 fa zs ∧ totL zs = stM l W (mcN l W) i j, ?_, ?_⟩
      · wtm_at "gx"
        refine g_wword T hG2 fun wd hwd => ?_
        refine g_inPut hwd ?_
        cases hpt : W.pt with
        | true =>
          wtm_at "gx"
          refine g_wmet hG2 (fun _ _ _ _ => rfl) ?_
          wtm_at "gx"
          refine ⟨p, fa, i, j, l, W, cd, kd, crs, krs, fc, fk, ys, rfl, hG2, hP2, hfa1, hfa2, hi, hj, hjl, hcl, hkl, hE, hpt, hp hpt, by omega, fun zs H3 b3 hP3 htz hzl => ?_⟩
          refine ⟨ys ++ zs, rfl, Same.b0 b3 sH2 nfa, hP3, ?_⟩
          rw [totL_app, hty, htz]
          unfold Ly.stM
          rw [mAdd_assoc]
        | false =>
          wtm_at "gx"
          refine ⟨ys, rfl, sH2, hP2, ?_⟩
          have ho : sm (fun t => m3 (opM l W i) (mcN l W (i + 1) (i + 1 + t)) (mcN l W (i + 1 + t) j)) (j - i) = none := by
            refine (sm_congr (g := fun _ => none) fun k hk => ?_).trans (sm_none _)
            have : opM l W i = none := by unfold opM; rw [hsg]; exact if_neg fun z => by rw [hpt] at z; cases z.2
            rw [this, m3_none]
          have hc2 : sm (fun t => m3 (clM l W (i + t)) (mcN l W i (i + t)) (mcN l W (i + t + 1) j)) (j - i) = none := by
            refine (sm_congr (g := fun _ => none) fun k hk => ?_).trans (sm_none _)
            have : clM l W (i + k) = none := by
              unfold clM
              cases l[i + k]? with
              | none => rfl
              | some d => exact if_neg fun z => by rw [hpt] at z; cases z.2
            rw [this, m3_none]
          unfold Ly.stM
          rw [hty, ho, hc2, mAdd_none, mAdd_none]
      · rintro σ' H3 ⟨zs, rfl, sH3, hP3, htz⟩
        wtm_at "unf"
        wtm_at "gx"
        exact q fa zs H3 nfa sH3 hP3 htz
def mlA (a : MC) (b : Nat) : Nat := match a with
  | none => b
  | some q => if b < q.1 then b else q.1
def mcA (a : MC) (b : Nat) : Nat := match a with
  | none => 0
  | some q => if b < q.1 then 0 else q.2
theorem ml_add (a : MC) (b m : Nat) : mAdd a (some (b, m)) = some (mlA a b, mcA a b + if b = mlA a b then m else 0) := by
  cases a with
  | none =>
    show some (b, m) = some (b, 0 + if b = b then m else 0)
    rw [if_pos rfl, Nat.zero_add]
  | some q =>
    obtain ⟨a, n⟩ := q
    have e1 : mlA (some (a, n)) b = if b < a then b else a := rfl
    have e2 : mcA (some (a, n)) b = if b < a then 0 else n := rfl
    have e3 : mAdd (some (a, n)) (some (b, m)) = if a < b then some (a, n) else if b < a then some (b, m) else some (a, n + m) := rfl
    rw [e1, e2, e3]
    by_cases h1 : a < b
    · have h2 : ¬ b < a := by omega
      have h3 : ¬ b = a := by omega
      simp only [h1, h2, h3, if_true, if_false, Nat.add_zero]
    · by_cases h2 : b < a
      · simp only [h1, h2, if_true, if_false, Nat.zero_add]
      · have h3 : b = a := by omega
        subst h3
        simp only [Nat.lt_irrefl, if_true, if_false]
/-! Ways.reckoned -/
def sp_Ways_reckoned (K : PySem.W.Frag) : Sp := fun vs H Q _ => ∃ (p : Addr) (i j : Nat) (l : List Nat) (W : Wd) (cd kd : Addr) (crs krs : List Addr) (fc fk : Nat → List V), vs = [.ref p, .int i, .int j] ∧ WaysG K H p l W cd kd crs krs fc fk ∧ i < j ∧ j ≤ l.length ∧ l.length ≤ 1000 ∧ crs.length = l.length + 1 ∧ krs.length = l.length + 1 ∧ (∀ a b, i ≤ a → a ≤ b → b ≤ j → b - a < j - i → Ent fc fk a b (mcN l W a b)) ∧ (W.pt = true → ∀ a b, a ≤ b → b ≤ l.length → mcN l W a b ≠ none) ∧ ∀ (t : Addr) (H' : Hp), H t = none → Same H H' → H' t = some (.tup [cV (mcN l W i j), nV (mcN l W i j)]) → Q (.ref t) H'
theorem ok_Ways_reckoned (T : Facts K mg) : C8.Met P w K mg base 4 (He.ga K "Ways") "reckoned" (sp_Ways_reckoned K) [] := by
  refine metD T.m_Ways_reckoned sc_Ways_reckoned (fun vs H Q E h => ?_) (fun f cdv A outer s H vs Q E hr h => ?_)
  · obtain ⟨p, i, j, l, W, cd, kd, crs, krs, fc, fk, rfl, hG, hi, hj, hjl, hcl, hkl, hE, hp, q⟩ := h; rfl
  · obtain ⟨p, i, j, l, W, cd, kd, crs, krs, fc, fk, rfl, hG, hi, hj, hjl, hcl, hkl, hE, hp, q⟩ := h
    refine ⟨_, (pss_cons (ps_set (i := 3) sc_Ways_reckoned.nd rfl (Or.inl rfl) pe_non)
       (pss_cons (ps_set (i := 4) sc_Ways_reckoned.nd rfl (Or.inl rfl) pe_int)
       (pss_cons (ps_for PassesOwn.never rfl (pi_list (pe_met (ok_Ways_numbers T) hr (by omega) (pv 0) (pa_cons (pv 1) (pa_cons (pv 2) pa_nil)))) (pg_tup rfl (pgs_cons (pg_name (i := 5) sc_Ways_reckoned.nd rfl (Or.inl rfl)) (pgs_cons (pg_name (i := 6) sc_Ways_reckoned.nd rfl (Or.inl rfl)) pgs_nil)))
       (C8.pss_cut (ps_ifC (PW.pt (pw_or (pt_cmpR op_isN (pv 3) pe_non (nomark _)) (pw_or1 (pt_cmpR op_lt (pv 5) (pv 3) (nomark _)))))
       (pss_cons (ps_set (i := 3) sc_Ways_reckoned.nd rfl (Or.inl rfl) (pv 5))
       (pss_one (ps_set (i := 4) sc_Ways_reckoned.nd rfl (Or.inl rfl) pe_int)))
       pss_nil)
       (pss_one (ps_if (pt_cmpR op_eq (pv 5) (pv 3) (nomark _))
       (pss_one (ps_aug (i := 4) sc_Ways_reckoned.nd rfl (Or.inl rfl) (pv 6) ip_add))
       pss_nil))))
       (pss_one (ps_ret (pe_tup (pa_cons (pv 3) (pa_cons (pv 4) pa_nil)))))))), ?_⟩
    rw [st_Ways_reckoned]
    wtm_at "unf"
    wtm_at "gx"
    refine g_wmet hG (fun _ _ _ _ => rfl) ?_
    wtm_at "gx"
    refine ⟨p, i, j, l, W, cd, kd, crs, krs, fc, fk, rfl, hG, hi, hj, hjl, hcl, hkl, hE, hp, fun fa xs H1 nfa s1 hP htx => ?_⟩
    rw [← mcN_step hi] at htx
    obtain ⟨rs, hP1, hP2, hP3⟩ := hP
    refine ⟨fa, rfl, ⟨_, sq_of hP1⟩, for_lst (rs.map V.ref) (fun pre σ H2 => ∃ y5 y6, σ = [some (V.ref p), some (V.int i), some (V.int j), some (cV (totL (xs.take pre.length))), some (nV (totL (xs.take pre.length))), y5, y6] ∧ H2 = H1) ⟨_, _, rfl, rfl⟩ (fun pre post σ H2 e hv => ?_) (fun pre x post σ H2 e hv => ?_) (fun σ H2 hv => ?_)⟩
    · obtain ⟨y5, y6, rfl, rfl⟩ := hv
      exact sq_of hP1
    · obtain ⟨y5, y6, rfl, rfl⟩ := hv
      have hlt : pre.length < rs.length := by
        have := congrArg List.length e
        simp at this
        omega
      have hx : (rs.map V.ref)[pre.length]? = some x := mid_at e
      have hr : rs[pre.length]? = some rs[pre.length] := List.getElem?_eq_getElem hlt
      have hxx : xs[pre.length]? = some xs[pre.length] := List.getElem?_eq_getElem (by omega)
      have hx2 : x = V.ref rs[pre.length] := by
        rw [List.getElem?_map, hr] at hx
        exact (Option.some.inj hx).symm
      subst hx2
      have ht := hP3 _ _ _ hr hxx
      have etk : xs.take (pre ++ [V.ref rs[pre.length]]).length = xs.take pre.length ++ [xs[pre.length]] := by
        rw [List.length_append, List.length_singleton]
        exact List.take_succ_eq_append_getElem (by omega)
      rw [etk, totL_snoc]
      generalize xs[pre.length] = bm at ht etk
      generalize rs[pre.length] = r at ht etk
      obtain ⟨b, m⟩ := bm
      generalize totL (xs.take pre.length) = a
      rw [ml_add]
      wtm_at "unf"
      refine ⟨r, _, rfl, st_of ht, rfl, _, _, rfl, _, _, rfl, rfl, ?_⟩
      wtm_at "unf"
      refine ⟨fun σ' H3 => σ' = [some (V.ref p), some (V.int i), some (V.int j), some (V.int (mlA a b)), some (V.int (mcA a b)), some (V.int b), some (V.int m)] ∧ H3 = H2, ?_, ?_⟩
      · cases a with
        | none =>
          refine g_ifC (b := true) (fun Q q => ?_) (fun h => ?_) (fun h => ?_)
          · wtm_at "unf"
            wtm_at "gx"
            exact q
          · wtm_at "unf"
            wtm_at "gx"
            exact ⟨rfl, rfl⟩
          · cases h
        | some q0 =>
          obtain ⟨a, n⟩ := q0
          rw [show cV (some (a, n)) = V.int a from rfl, show nV (some (a, n)) = V.int n from rfl]
          refine g_ifC (b := decide (b < a)) (fun Q q => ?_) (fun h => ?_) (fun h => ?_)
          · wtm_at "unf"
            wtm_at "gx"
            refine ⟨_, rfl, ?_⟩
            rw [show decide ((b : Int) < (a : Int)) = decide (b < a) from decide_eq_decide.mpr (by omega)]
            exact q
          · wtm_at "unf"
            wtm_at "gx"
            have hlt := of_decide_eq_true h
            have e1 : mlA (some (a, n)) b = b := if_pos hlt
            have e2 : mcA (some (a, n)) b = 0 := if_pos hlt
            rw [e1, e2]
            exact ⟨rfl, rfl⟩
          · have hlt := of_decide_eq_false h
            have e1 : mlA (some (a, n)) b = a := if_neg hlt
            have e2 : mcA (some (a, n)) b = n := if_neg hlt
            rw [e1, e2]
            exact ⟨rfl, rfl⟩
      · rintro σ' H3 ⟨rfl, rfl⟩
        wtm_at "gx"
        refine g_test (fun h => ?_) (fun h => ?_)
        · have h' : b = mlA a b := by have := V.int.inj h; omega
          rw [if_pos h']
          refine ⟨_, rfl, ?_⟩
          wtm_at "gx"
          exact ⟨_, _, rfl, rfl⟩
        · have h' : ¬ b = mlA a b := fun e => h (by rw [← e])
          rw [if_neg h', Nat.add_zero]
          exact ⟨_, _, rfl, rfl⟩
    · obtain ⟨y5, y6, rfl, rfl⟩ := hv
      rw [List.length_map, hP2, List.take_length, htx]
      wtm_at "unf"
      wtm_at "gx"
      exact g_tup (by show 2 ≤ 100000; decide) fun t H3 nt s3 et => q t H3 (s1.free nt) (s1.trans s3) et
structure WaysAt (K : PySem.W.Frag) (H : Hp) (p : Addr) (l : List Nat) (W : Wd) (cd kd : Addr) (crs krs : List Addr) : Prop where
  g : WaysG K H p l W cd kd crs krs (fun j => colV cV (mcN l W) j (j + 1)) (fun j => colV nV (mcN l W) j (j + 1))
  cl : crs.length = l.length + 1
  kl : krs.length = l.length + 1
/-- all but three stay -/
def Bt3 (p q r : Addr) (H H' : Hp) : Prop := ∀ x o, x ≠ p → x ≠ q → x ≠ r → H x = some o → H' x = some o
theorem rep_flat (v : V) : ∀ n, (List.replicate n [v]).flatten = (List.range n).map fun _ => v
  | 0 => rfl
  | n + 1 => by
    rw [List.replicate_succ', List.flatten_append, rep_flat v n, List.range_succ, List.map_append]
    rfl
/-- a column being filled from its end: those from k on are told -/
def plV (g : MC → V) (F : Nat → Nat → MC) (e k : Nat) : List V := (List.range (e + 1)).map fun a => if k ≤ a then g (F a e) else g mOne
theorem plV_len (g : MC → V) (F : Nat → Nat → MC) (e k : Nat) : (plV g F e k).length = e + 1 := by unfold plV; rw [List.length_map, List.length_range]
theorem plV_at {g : MC → V} {F : Nat → Nat → MC} {e k a : Nat} (h : a ≤ e) (hk : k ≤ a) : (plV g F e k)[a]? = some (g (F a e)) := by
  unfold plV
  rw [List.getElem?_map, List.getElem?_range (by omega)]
  show some (if k ≤ a then _ else _) = _
  rw [if_pos hk]
theorem plV_set {g : MC → V} {F : Nat → Nat → MC} {e k : Nat} (h : k ≤ e) : (plV g F e (k + 1)).set k (g (F k e)) = plV g F e k := by
  refine List.ext_getElem? fun a => ?_
  by_cases ha : a < e + 1
  · by_cases hk : a = k
    · subst hk
      rw [List.getElem?_set_self (by rw [plV_len]; exact ha), plV_at (by omega) (Nat.le_refl _)]
    · rw [List.getElem?_set_ne (Ne.symm hk)]
      unfold plV
      rw [List.getElem?_map, List.getElem?_map, List.getElem?_range ha]
      show some (if k + 1 ≤ a then _ else _) = some (if k ≤ a then _ else _)
      by_cases h2 : k ≤ a
      · rw [if_pos h2, if_pos (by omega)]
      · rw [if_neg h2, if_neg (by omega)]
  · rw [List.getElem?_eq_none (by rw [List.length_set, plV_len]; omega), List.getElem?_eq_none (by rw [plV_len]; omega)]
theorem plV_start {g : MC → V} {F : Nat → Nat → MC} {e : Nat} (hF : F e e = mOne) : (List.range (e + 1)).map (fun _ => g mOne) = plV g F e e := by
  unfold plV
  refine List.map_congr_left fun a ha => ?_
  have ha' := List.mem_range.mp ha
  by_cases h : e ≤ a
  · rw [if_pos h, show a = e by omega, hF]
  · rw [if_neg h]
theorem plV_zero (g : MC → V) (F : Nat → Nat → MC) (e : Nat) : plV g F e 0 = colV g F e (e + 1) := by
  unfold plV colV
  exact List.map_congr_left fun a _ => by rw [if_pos (Nat.zero_le _)]
theorem ins_notin {H : Hp} {p d C dx : Addr} {fs : List (Str × V)} {rs : List Addr} {f : Nat → List V} (h : H p = some (.ins C dx fs)) (T : Tab H d rs f) : p ≠ d ∧ p ∉ rs := by
  refine ⟨fun e => ?_, fun e => ?_⟩
  · have := T.hd
    rw [← e, h] at this
    cases this
  · obtain ⟨k, hk⟩ := List.getElem?_of_mem e
    have := T.r k p hk
    rw [h] at this
    cases this
theorem snoc_text (l : List Nat) (c : Nat) {W : Wd} {a b : Nat} (h : b ≤ l.length) : mcN (l ++ [c]) W a b = mcN l W a b := mcN_text fun k hk => List.getElem?_append_left (by omega)
/-! Ways.grow -/
def sp_Ways_grow (K : PySem.W.Frag) : Sp := fun vs H Q _ => ∃ (p : Addr) (c : Nat) (l : List Nat) (W : Wd) (cd kd : Addr) (crs krs : List Addr), vs = [.ref p, Tx [c]] ∧ WaysAt K H p l W cd kd crs krs ∧ l.length < 1000 ∧ (W.pt = true → ∀ a b, a ≤ b → b ≤ l.length + 1 → mcN (l ++ [c]) W a b ≠ none) ∧ ∀ (r1 r2 : Addr) (H' : Hp), Bt3 p cd kd H H' → H r1 = none → H r2 = none → WaysAt K H' p (l ++ [c]) W cd kd (crs ++ [r1]) (krs ++ [r2]) → Q .non H'
theorem ok_Ways_grow (T : Facts K mg) : C8.Met P w K mg base 5 (He.ga K "Ways") "grow" (sp_Ways_grow K) [] := by
  refine metD T.m_Ways_grow sc_Ways_grow (fun vs H Q E h => ?_) (fun f cdv A outer s H vs Q E hr h => ?_)
  · obtain ⟨p, c, l, W, cd, kd, crs, krs, rfl, hA, hl, hN, q⟩ := h; rfl
  · obtain ⟨p, c, l, W, cd, kd, crs, krs, rfl, hA, hl, hN, q⟩ := h
    refine ⟨_, (pss_cons (ps_fld (pv 0) (pe_op op_addT (pe_fld (pv 0) rfl) (pv 1)) rfl)
       (pss_cons (ps_set (i := 2) sc_Ways_grow.nd rfl (Or.inl rfl) (pe_callB call_lenT rfl T.b_len PySem.boot_len (pa_cons (pe_fld (pv 0) rfl) pa_nil)))
       (pss_cons (ps_expr (pe_bm PySem.F.plainAttrs_list PySem.F.slot_list_append PySem.F.type_list_append mt_append (pe_fld (pv 0) rfl) (pa_cons (pe_op op_rep (pe_lst (pa_cons pe_int pa_nil)) (pe_op op_add (pv 2) pe_int)) pa_nil)))
       (pss_cons (ps_expr (pe_bm PySem.F.plainAttrs_list PySem.F.slot_list_append PySem.F.type_list_append mt_append (pe_fld (pv 0) rfl) (pa_cons (pe_op op_rep (pe_lst (pa_cons pe_int pa_nil)) (pe_op op_add (pv 2) pe_int)) pa_nil)))
       (pss_one (ps_for PassesOwn.never rfl (pi_range3 rfl T.b_range (pa_cons (pe_op op_sub (pv 2) pe_int) (pa_cons (pe_un un_neg pe_int) (pa_cons (pe_un un_neg pe_int) pa_nil)))) (pg_name (i := 3) sc_Ways_grow.nd rfl (Or.inl rfl))
       (pss_cons (ps_set (i := 4) sc_Ways_grow.nd rfl (Or.inl rfl) (pe_met (ok_Ways_reckoned T) hr (by omega) (pv 0) (pa_cons (pv 3) (pa_cons (pv 2) pa_nil))))
       (pss_one (ps_asg (pv 4) (pg_tup rfl (pgs_cons (pg_sub (pe_ix ix_list (pe_fld (pv 0) rfl) (pv 2) (fun _ _ => rfl)) (pv 3) set_list) (pgs_cons (pg_sub (pe_ix ix_list (pe_fld (pv 0) rfl) (pv 2) (fun _ _ => rfl)) (pv 3) set_list) pgs_nil)))))))))))), ?_⟩
    rw [st_Ways_grow]
    have hG := hA.g
    have hcl := hA.cl
    have hkl := hA.kl
    obtain ⟨dx, wd, hob, hwd⟩ := hG.ob
    obtain ⟨np1, np2⟩ := ins_notin hob hG.c
    obtain ⟨np3, np4⟩ := ins_notin hob hG.k
    wtm_at "unf"
    wtm_at "gx"
    refine g_wsig T hG ?_
    wtm_at "gx"
    refine g_sfld hob T.cl_Ways T.n_Ways_signs (by show 4 < 1000; decide) fun H1 b1 e1 => ?_
    rw [wfl_put] at e1
    have G1 : WaysG K H1 p (l ++ [c]) W cd kd crs krs (fun j => colV cV (mcN l W) j (j + 1)) (fun j => colV nV (mcN l W) j (j + 1)) := ⟨⟨dx, wd, e1, hwd.butI b1 hob⟩, hG.c.but b1 np1 np2, hG.k.but b1 np3 np4, hG.sep⟩
    wtm_at "unf"
    wtm_at "gx"
    refine g_wsig T G1 ?_
    wtm_at "gx"
    refine g_wcost T G1 ?_
    refine g_tyL3 G1.c.hd ?_
    wtm_at "gx"
    refine g_lst (by show 1 ≤ 100000; decide) fun la H2 nla s2 ela => ?_
    wtm_at "gx"
    have hE : (l ++ [c]).length = l.length + 1 := by simp
    generalize hEE : l.length + 1 = E at hE hcl hkl
    rw [hE, show ((E : Nat) : Int) + 1 = ((E + 1 : Nat) : Int) by omega]
    refine g_rep ela (by show 1 * _ ≤ _; omega) (by omega) fun r1 H3 nr1 s3 er1 => ?_
    rw [rep_flat] at er1
    have G3 := G1.same (s2.trans s3)
    refine g_append1 G3.c.hd (by rw [List.length_map]; omega) fun H4 b4 e4 => ?_
    have fr1 := (G1.same s2).fresh nr1
    have nr10 : H r1 = none := But.fr (s2.free nr1) b1 (fun e => by rw [e] at nr1; rw [(s2 _ _ e1)] at nr1; cases nr1)
    have er14 := b4 _ _ (fun e => fr1.1 (by rw [e]; exact List.mem_cons_self ..)) er1
    have hcdk : cd ∉ kd :: krs := hG.sep cd (List.mem_cons_self ..)
    rw [List.mem_cons, not_or] at hcdk
    have k4 : Tab H4 kd krs (fun j => colV nV (mcN l W) j (j + 1)) := G3.k.but b4 hcdk.1 hcdk.2
    have c4 : Tab H4 cd (crs ++ [r1]) (fun i => if i = crs.length then (List.range (E + 1)).map (fun _ => V.int 0) else colV cV (mcN l W) i (i + 1)) :=
      Tab.snoc G3.c er14 (by rw [e4, List.map_append]; rfl) (fun h => fr1.1 (List.mem_cons_of_mem _ h)) (fun e => fr1.1 (by rw [e]; exact List.mem_cons_self ..)) (fun q hq o ho => b4 _ _ (fun e => G3.c.nin (by rw [← e]; exact hq)) ho)
    obtain ⟨dx3, wd3, hob3, hwd3⟩ := G3.ob
    have hob4 := b4 _ _ (ins_notin hob3 G3.c).1 hob3
    have hwd4 := hwd3.but b4 G3.c.hd
    wtm_at "gx"
    refine g_fld hob4 T.cl_Ways T.n_Ways_counts (wfl_counts ..) ?_
    refine g_tyL3 k4.hd ?_
    refine g_lst (by show 1 ≤ 100000; decide) fun lb H5 nlb s5 elb => ?_
    wtm_at "gx"
    rw [show ((E : Nat) : Int) + 1 = ((E + 1 : Nat) : Int) by omega]
    refine g_rep elb (by show 1 * _ ≤ _; omega) (by omega) fun r2 H6 nr2 s6 er2 => ?_
    rw [rep_flat] at er2
    have k6 := k4.same (s5.trans s6)
    have c6 := c4.same (s5.trans s6)
    refine g_append1 k6.hd (by rw [List.length_map]; omega) fun H7 b7 e7 => ?_
    have fr2k := (k4.same s5).fresh nr2
    have fr2c := (c4.same s5).fresh nr2
    have er27 := b7 _ _ fr2k.1 er2
    have hne1 : ∀ x ∈ cd :: (crs ++ [r1]), x ≠ kd ∧ x ∉ krs := by
      intro x hx
      rw [List.mem_cons, List.mem_append, List.mem_singleton] at hx
      rcases hx with rfl | hx | rfl
      · exact hcdk
      · have := hG.sep x (List.mem_cons_of_mem _ hx)
        rw [List.mem_cons, not_or] at this
        exact this
      · have := fr1.2
        rw [List.mem_cons, not_or] at this
        exact this
    have c7 : Tab H7 cd (crs ++ [r1]) _ := c6.but b7 (Ne.symm (hne1 cd (List.mem_cons_self ..)).1) (fun h => (hne1 kd (List.mem_cons_of_mem _ h)).1 rfl)
    have k7 : Tab H7 kd (krs ++ [r2]) (fun i => if i = krs.length then (List.range (E + 1)).map (fun _ => V.int 1) else colV nV (mcN l W) i (i + 1)) :=
      Tab.snoc k6 er27 (by rw [e7, List.map_append]; rfl) fr2k.2 (Ne.symm fr2k.1) (fun q hq o ho => b7 _ _ (fun e => k6.nin (by rw [← e]; exact hq)) ho)
    have hob6 := s6 _ _ (s5 _ _ hob4)
    have hob7 := b7 _ _ (ins_notin hob6 k6).1 hob6
    have hwd7 := ((hwd4.same s5).same s6).but b7 k6.hd
    have nr20 : H r2 = none := by
      have h4 : H4 r2 = none := s5.free nr2
      have h3 : H3 r2 = none := But.fr h4 b4 fr2c.1
      have h1 : H1 r2 = none := s2.free (s3.free h3)
      exact But.fr h1 b1 fun e => by rw [e, e1] at h1; cases h1
    have hsep7 : ∀ x ∈ cd :: (crs ++ [r1]), x ∉ kd :: (krs ++ [r2]) := by
      intro x hx hy
      rw [List.mem_cons, List.mem_append, List.mem_singleton] at hy
      rcases hy with hy | hy | hy
      · exact (hne1 x hx).1 hy
      · exact (hne1 x hx).2 hy
      · subst hy
        rcases List.mem_cons.mp hx with hx | hx
        · exact fr2c.1 hx
        · exact fr2c.2 hx
    have hF : ∀ j, j ≤ l.length → ∀ g : MC → V, colV g (mcN l W) j (j + 1) = colV g (mcN (l ++ [c]) W) j (j + 1) := fun j hj g => colV_congr fun i hi => (snoc_text l c hj).symm
    have bt7 : Bt3 p cd kd H H7 := fun x o h1 h2 h3 hx => b7 _ _ h3 (s6 _ _ (s5 _ _ (b4 _ _ h2 (s3 _ _ (s2 _ _ (b1 _ _ h1 hx))))))
    have G7 : WaysG K H7 p (l ++ [c]) W cd kd (crs ++ [r1]) (krs ++ [r2]) (fun j => if j = E then plV cV (mcN (l ++ [c]) W) E E else colV cV (mcN (l ++ [c]) W) j (j + 1)) (fun j => if j = E then plV nV (mcN (l ++ [c]) W) E E else colV nV (mcN (l ++ [c]) W) j (j + 1)) := by
      refine ⟨⟨dx3, wd3, hob7, hwd7⟩, c7.congr fun j hj => ?_, k7.congr fun j hj => ?_, hsep7⟩
      · rw [List.length_append, List.length_singleton] at hj
        by_cases e : j = E
        · rw [if_pos (by omega), if_pos e]
          exact plV_start (g := cV) (mcN_self _ _ _)
        · rw [if_neg (by omega), if_neg e]
          exact hF j (by omega) cV
      · rw [List.length_append, List.length_singleton] at hj
        by_cases e : j = E
        · rw [if_pos (by omega), if_pos e]
          exact plV_start (g := nV) (mcN_self _ _ _)
        · rw [if_neg (by omega), if_neg e]
          exact hF j (by omega) nV
    wtm_at "gx"
    refine ⟨_, _, _, E, rfl, rgc_dn (by omega), for_dn (fun k σ H' => ∃ y3 y4, σ = [some (V.ref p), some (Tx [c]), some (V.int E), y3, y4] ∧ Bt3 p cd kd H H' ∧ WaysG K H' p (l ++ [c]) W cd kd (crs ++ [r1]) (krs ++ [r2]) (fun j => if j = E then plV cV (mcN (l ++ [c]) W) E k else colV cV (mcN (l ++ [c]) W) j (j + 1)) (fun j => if j = E then plV nV (mcN (l ++ [c]) W) E k else colV nV (mcN (l ++ [c]) W) j (j + 1))) ⟨_, _, rfl, bt7, G7⟩ (fun k σ H' hk hv => ?_) (fun σ H' hv => ?_)⟩
    · obtain ⟨y3, y4, rfl, bt, G⟩ := hv
      wtm_at "unf"
      wtm_at "gx"
      refine g_wmet G (fun _ _ _ _ => rfl) ?_
      wtm_at "gx"
      refine ⟨p, k, E, l ++ [c], W, cd, kd, _, _, _, _, rfl, G, hk, by omega, by omega, by simp; omega, by simp; omega, fun a b h1 h2 h3 h4 => ?_, fun hpt a b h1 h2 => hN hpt a b h1 (by omega), fun t H8 nt s8 et => ?_⟩
      · by_cases e : b = E
        · subst e
          refine ⟨?_, ?_⟩
          · show (if b = b then _ else _)[a]? = _
            rw [if_pos rfl]
            exact plV_at (by omega) (by omega)
          · show (if b = b then _ else _)[a]? = _
            rw [if_pos rfl]
            exact plV_at (by omega) (by omega)
        · refine ⟨?_, ?_⟩
          · show (if b = E then _ else _)[a]? = _
            rw [if_neg e]
            exact colV_at (by omega)
          · show (if b = E then _ else _)[a]? = _
            rw [if_neg e]
            exact colV_at (by omega)
      have G8 := G.same s8
      wtm_at "gx"
      refine ⟨t, _, rfl, st_of et, rfl, _, _, rfl, ?_⟩
      obtain ⟨ra, ha1, ha2, ha3⟩ := G8.c.row (k := E) (by rw [List.length_append, List.length_singleton]; omega)
      obtain ⟨rb, hb1, hb2, hb3⟩ := G8.k.row (k := E) (by rw [List.length_append, List.length_singleton]; omega)
      have era : ra = r1 := by
        rw [List.getElem?_append_right (by omega), hcl, Nat.sub_self] at ha1
        exact (Option.some.inj ha1).symm
      have erb : rb = r2 := by
        rw [List.getElem?_append_right (by omega), hkl, Nat.sub_self] at hb1
        exact (Option.some.inj hb1).symm
      subst era erb
      rw [if_pos rfl] at ha3 hb3
      wtm_at "gx"
      refine g_wcost T G8 ?_
      wtm_at "gx"
      refine g_ixLn E (sq_of G8.c.hd) rfl ha2 ?_
      wtm_at "gx"
      refine g_setLn k ha3 rfl (by rw [plV_len]; omega) fun H9 b9 e9 => ?_
      rw [plV_set (by omega)] at e9
      obtain ⟨dx8, wd8, hob8, hwd8⟩ := G8.ob
      have hsepa := G8.sep ra (List.mem_cons_of_mem _ (List.mem_of_getElem? ha1))
      rw [List.mem_cons, not_or] at hsepa
      have c9 := G8.c.set ha1 b9 e9
      have k9 := G8.k.but b9 hsepa.1 hsepa.2
      have hpa : p ≠ ra := fun e => by rw [← e, hob8] at ha3; cases ha3
      have hob9 := b9 _ _ hpa hob8
      have hwd9 := hwd8.but b9 ha3
      refine ⟨_, _, rfl, ?_⟩
      wtm_at "gx"
      refine g_fld hob9 T.cl_Ways T.n_Ways_counts (wfl_counts ..) ?_
      wtm_at "gx"
      refine g_ixLn E (sq_of k9.hd) rfl hb2 ?_
      wtm_at "gx"
      have hrab : rb ≠ ra := fun e => hsepa.2 (by rw [← e]; exact List.mem_of_getElem? hb1)
      have hb9 := b9 _ _ hrab hb3
      refine g_setLn k hb9 rfl (by rw [plV_len]; omega) fun H10 b10 e10 => ?_
      rw [plV_set (by omega)] at e10
      have hsepb : ∀ x ∈ cd :: (crs ++ [ra]), x ≠ rb := fun x hx e => G8.sep x hx (by rw [e]; exact List.mem_cons_of_mem _ (List.mem_of_getElem? hb1))
      have c10 := c9.but b10 (fun e => hsepb cd (List.mem_cons_self ..) e.symm) (fun h => hsepb rb (List.mem_cons_of_mem _ h) rfl)
      have k10 := k9.set hb1 b10 e10
      have hpb : p ≠ rb := fun e => by rw [← e, hob8] at hb3; cases hb3
      refine ⟨rfl, _, _, rfl, fun x o h1 h2 h3 hx => ?_, ⟨dx8, wd8, b10 _ _ hpb hob9, hwd9.but b10 hb9⟩, c10.congr fun j hj => ?_, k10.congr fun j hj => ?_, G8.sep⟩
      · exact b10 _ _ (fun e => by rw [e, nr20] at hx; cases hx) (b9 _ _ (fun e => by rw [e, nr10] at hx; cases hx) (s8 _ _ (bt x o h1 h2 h3 hx)))
      · by_cases e : j = E
        · rw [if_pos e, if_pos e]
        · rw [if_neg e, if_neg e, if_neg e]
      · by_cases e : j = E
        · rw [if_pos e, if_pos e]
        · rw [if_neg e, if_neg e, if_neg e]
    · obtain ⟨y3, y4, rfl, bt, G⟩ := hv
      refine q r1 r2 H' bt nr10 nr20 ⟨?_, by simp; omega, by simp; omega⟩
      obtain ⟨ob, c, k, sep⟩ := G
      refine ⟨ob, c.congr fun j hj => ?_, k.congr fun j hj => ?_, sep⟩
      · by_cases e : j = E
        · rw [if_pos e, plV_zero, e]
        · rw [if_neg e]
      · by_cases e : j = E
        · rw [if_pos e, plV_zero, e]
        · rw [if_neg e]
/-! Ways.__init__ -/
def sp_Ways_init (K : PySem.W.Frag) : Sp := fun vs H Q _ => ∃ (p dx : Addr) (l : List Nat) (wd : V) (W : Wd), vs = [.ref p, Tx l, wd] ∧ H p = some (.ins (He.ga K "Ways") dx []) ∧ WdIs K H wd W ∧ l.length ≤ 1000 ∧ (∀ l' : List Nat, W.pt = true → ∀ a b, a ≤ b → b ≤ l'.length → mcN l' W a b ≠ none) ∧ ∀ (cd kd : Addr) (crs krs : List Addr) (H' : Hp), But p H H' → H cd = none → H kd = none → WaysAt K H' p l W cd kd crs krs → Q .non H'
theorem ok_Ways_init (T : Facts K mg) : C8.Mak P w K mg base 6 "Ways" (He.ga K "Ways") (sp_Ways_init K) [] := by
  refine makD T.k_Ways_init sc_Ways_init (fun vs H Q E h => ?_) (fun f cdv A outer s H vs Q E hr h => ?_)
  · obtain ⟨p, dx, l, wd, W, rfl, hp, hw, hl, hN, q⟩ := h; rfl
  · obtain ⟨p, dx, l, wd, W, rfl, hp, hw, hl, hN, q⟩ := h
    refine ⟨_, (pss_cons (ps_fld (pv 0) (pe_strS (l := []) (by decide +kernel)) rfl)
       (pss_cons (ps_fld (pv 0) (pv 2) rfl)
       (pss_cons (ps_fld (pv 0) (pe_lst (pa_cons (pe_lst (pa_cons pe_int pa_nil)) pa_nil)) rfl)
       (pss_cons (ps_fld (pv 0) (pe_lst (pa_cons (pe_lst (pa_cons pe_int pa_nil)) pa_nil)) rfl)
       (pss_one (ps_for PassesOwn.never rfl (pi_str (pv 1)) (pg_name (i := 3) sc_Ways_init.nd rfl (Or.inl rfl))
       (pss_one (ps_expr (pe_met (ok_Ways_grow T) hr (by omega) (pv 0) (pa_cons (pv 3) pa_nil)))))))))), ?_⟩
    rw [st_Ways_init]
    wtm_at "unf"
    wtm_at "gx"
    refine g_sfld hp T.cl_Ways T.n_Ways_signs (by decide) fun H1 b1 e1 => ?_
    wtm_at "unf"
    wtm_at "gx"
    refine g_sfld e1 T.cl_Ways T.n_Ways_words (by decide) fun H2 b2 e2 => ?_
    wtm_at "unf"
    wtm_at "gx"
    refine g_lst (by show 1 ≤ 100000; decide) fun r1 H3 nr1 s3 er1 => ?_
    refine g_lst (by show 1 ≤ 100000; decide) fun cd H4 ncd s4 ecd => ?_
    wtm_at "gx"
    refine g_sfld (s4 _ _ (s3 _ _ e2)) T.cl_Ways T.n_Ways_costs (by show 2 < 1000; decide) fun H5 b5 e5 => ?_
    wtm_at "unf"
    wtm_at "gx"
    refine g_lst (by show 1 ≤ 100000; decide) fun r2 H6 nr2 s6 er2 => ?_
    refine g_lst (by show 1 ≤ 100000; decide) fun kd H7 nkd s7 ekd => ?_
    wtm_at "gx"
    refine g_sfld (s7 _ _ (s6 _ _ e5)) T.cl_Ways T.n_Ways_counts (by show 3 < 1000; decide) fun H8 b8 e8 => ?_
    have e8' : H8 p = some (.ins (He.ga K "Ways") dx (wfl [] wd cd kd)) := e8
    have hnp : ∀ {x : Addr} {G : Hp}, G x = none → ∀ o, G p = some o → x ≠ p := fun h o h' e => by rw [e, h'] at h; cases h
    have p1 : r1 ≠ p := hnp nr1 _ e2
    have p2 : cd ≠ p := hnp ncd _ (s3 _ _ e2)
    have p3 : r2 ≠ p := hnp nr2 _ e5
    have p4 : kd ≠ p := hnp nkd _ (s6 _ _ e5)
    have d1 : r1 ≠ cd := ne_new ncd er1
    have er1' : H5 r1 = some (.lst [V.int 0]) := b5 _ _ p1 (s4 _ _ er1)
    have ecd' : H5 cd = some (.lst [V.ref r1]) := b5 _ _ p2 ecd
    have d2 : r1 ≠ r2 := ne_new nr2 er1'
    have d3 : cd ≠ r2 := ne_new nr2 ecd'
    have d4 : r1 ≠ kd := ne_new nkd (s6 _ _ er1')
    have d5 : cd ≠ kd := ne_new nkd (s6 _ _ ecd')
    have d6 : r2 ≠ kd := ne_new nkd er2
    have b2' : But p H H2 := But.tr b2 b1
    have b5' : But p H H5 := But.tr b5 (But.sa s4 (But.sa s3 b2'))
    have b8' : But p H H8 := But.tr b8 (But.sa s7 (But.sa s6 b5'))
    have ncd0 : H cd = none := But.fr (s3.free ncd) b2' p2
    have nkd0 : H kd = none := But.fr (s6.free nkd) b5' p4
    have hwd8 : WdIs K H8 wd W := ((((((hw.butI b1 hp).butI b2 e1).same s3).same s4).butI b5 (s4 _ _ (s3 _ _ e2))).same (s6.trans s7)).butI b8 (s7 _ _ (s6 _ _ e5))
    have A0 : WaysAt K H8 p [] W cd kd [r1] [r2] := by
      refine ⟨⟨⟨dx, wd, e8', hwd8⟩, ⟨b8 _ _ p2 (s7 _ _ (s6 _ _ ecd')), fun k r h => ?_, by simp, by simpa using Ne.symm d1⟩, ⟨b8 _ _ p4 ekd, fun k r h => ?_, by simp, by simpa using Ne.symm d6⟩, fun x hx hy => ?_⟩, rfl, rfl⟩
      · cases k with
        | zero =>
          have : r1 = r := Option.some.inj h
          subst this
          rw [b8 _ _ p1 (s7 _ _ (s6 _ _ er1'))]
          rfl
        | succ k => simp at h
      · cases k with
        | zero =>
          have : r2 = r := Option.some.inj h
          subst this
          rw [b8 _ _ p3 (s7 _ _ er2)]
          rfl
        | succ k => simp at h
      · simp only [List.mem_cons, List.not_mem_nil, or_false] at hx hy
        rcases hx with rfl | rfl <;> rcases hy with h | h
        · exact d5 h
        · exact d3 h
        · exact d4 h
        · exact d2 h
    wtm_at "unf"
    wtm_at "gx"
    refine ⟨_, rfl, for_txt (fun pre σ H' => ∃ (crs krs : List Addr) (y : Option V), σ = [some (V.ref p), some (Tx l), some wd, y] ∧ But p H H' ∧ WaysAt K H' p pre W cd kd crs krs) ⟨[r1], [r2], _, rfl, b8', A0⟩ (fun pre c post σ H' e hv => ?_) (fun σ H' hv => ?_)⟩
    · obtain ⟨crs, krs, y, rfl, bH, hA⟩ := hv
      have hpl : pre.length < 1000 := by rw [e] at hl; simp at hl; omega
      wtm_at "unf"
      wtm_at "gx"
      refine g_wmet hA.g (fun _ _ _ _ => rfl) ?_
      wtm_at "gx"
      refine ⟨p, c, pre, W, cd, kd, crs, krs, rfl, hA, hpl, fun hpt a b h1 h2 => hN (pre ++ [c]) hpt a b h1 (by simpa using h2), fun s1 s2 H9 bt n1 n2 hA9 => ?_⟩
      exact ⟨_, _, _, rfl, fun x o hx ho => bt x o hx (fun e => by rw [e, ncd0] at ho; cases ho) (fun e => by rw [e, nkd0] at ho; cases ho) (bH x o hx ho), hA9⟩
    · obtain ⟨crs, krs, y, rfl, bH, hA⟩ := hv
      wtm_at "unf"
      exact q cd kd crs krs H' bH ncd0 nkd0 hA
end
end K32

set_option maxHeartbeats 4000000
namespace K32
open PySem PySem.Spec PyProof.Rows L2 SX Ly
local macro_rules | `(tactic| wtm_at "unf") => `(tactic| (try simp only [tMetX, tOwnX, tChain, tSeq, tNext, tBreak, tCont, tDrop, tRet, tRetN, tIfS, tAsg, tAug, tC, tOp, tUn, tNil, tCons, tOwn, tCB, tTest, tB, tAnd, tOr, tNot, tAndV, tOrV, tNotV, tIf, gName, gSub, tBM, tBM0, tM0, tM1, tSl, tPart_eq, tNoPart, tLst_eq, tTup_eq, tRevL_eq, tReplT, tRevS, tDGet_eq, sDPut_eq, tDNewT_eq, tMet, tMak, tFld_eq, sFld_eq, C8.tCut, wipe, tYes, gTup, gCons, gNil, List.set_cons_zero, List.set_cons_succ, if_true, if_false, Bool.false_eq_true, Bool.not_true, Bool.not_false, true_and, reduceIte, cx_K, tFor_eq, tLc_eq, iStr, iList, iTup, iRng1, iRng2, iRng3, iEnum, iZip, tLstRg, tRg1, gLst, RZ.iZipA, iEnumS, iZipS]))
local macro_rules | `(tactic| wtm_at "ne") => `(tactic| first | assumption | (apply Ne.symm; assumption) | (apply ne_new; (· assumption); (· wtm_at "lk")) | (apply Ne.symm; apply ne_new; (· assumption); (· wtm_at "lk")))
local macro_rules | `(tactic| wtm_at "lk") => `(tactic| first | assumption | exact upd_same | (apply Same.get; (· assumption); (· wtm_at "lk")) | (apply But.get; (· assumption); (· wtm_at "ne"); (· wtm_at "lk")))
local macro_rules | `(tactic| wtm_at "sq") => `(tactic| first | assumption | (apply sq_of; wtm_at "lk") | (apply Same.seq; (· assumption); (· wtm_at "sq")) | (apply But.sq; (· assumption); (· wtm_at "ne"); (· wtm_at "sq")))
local macro_rules | `(tactic| wtm_at "fr") => `(tactic| first | assumption | (apply Same.fr; (· assumption); (· wtm_at "sm")) | (apply But.fr; (· assumption); (· wtm_at "sm"); (· wtm_at "ne")))
local macro_rules | `(tactic| wtm_at "sm") => `(tactic| first | exact Same.refl _ | exact But.refl | assumption | (apply Same.tr; (· assumption); (· wtm_at "sm")) | (apply Same.b0; (· assumption); (· wtm_at "sm"); (· wtm_at "fr")) | (apply But.sa; (· assumption); (· wtm_at "sm")) | (apply But.tr; (· assumption); (· wtm_at "sm")) | (apply But.b0; (· assumption); (· wtm_at "sm"); (· wtm_at "fr")) | (apply Same.toBut; wtm_at "sm"))
local macro_rules | `(tactic| wtm_at "sc") => `(tactic| first | exact Int.zero_lt_one | (show (0 : Int) < _; omega) | (show (0 : Int) < _; decide) | exact ⟨by omega, by omega⟩ | exact .inl ⟨by omega, by omega⟩ | exact .inr ⟨by omega, by omega⟩)
local macro_rules | `(tactic| wtm_at "go1") => `(tactic| first | ((with_reducible apply g_var); (· exact rfl)) | with_reducible apply g_I0 | ((with_reducible apply g_I); (· wtm_at "sc")) | with_reducible apply g_U | with_reducible apply g_ipI | ((with_reducible apply g_addT); (· first | omega | (simp; done) | (simp; omega))) | with_reducible apply g_inT | with_reducible apply g_ninT | ((with_reducible apply g_lenT); (· omega)) | with_reducible apply g_findT1 | with_reducible apply g_str | with_reducible apply g_part | with_reducible apply g_intB | ((with_reducible apply g_ixL); (· wtm_at "sq"); (· exact rfl)) | ((with_reducible apply g_setL); (· wtm_at "lk"); (· exact rfl)) | ((with_reducible apply g_eq); (· rfl)) | ((with_reducible apply g_ne); (· rfl)))
local macro_rules | `(tactic| wtm_at "go") => `(tactic| repeat wtm_at "go1")
local macro_rules | `(tactic| wtm_at "lp") => `(tactic| skip)
local macro_rules | `(tactic| wtm_at "om") => `(tactic| first | omega | (simp; done) | (simp; omega) | (simp at *; omega))
local macro_rules | `(tactic| wtm_at "ty") => `(tactic| first | exact ty_str | exact ty_int | exact ty_bl | exact ty_non | (apply ty_lst; wtm_at "lk") | (apply ty_tup; wtm_at "lk"))
local macro_rules | `(tactic| wtm_at "kb") => `(tactic| first | exact kb_str_str | exact kb_str_int | exact kb_str_bool | exact kb_str_list | exact kb_str_tuple | exact kb_int_str | exact kb_int_int | exact kb_int_bool | exact kb_int_list | exact kb_int_tuple | exact kb_bool_str | exact kb_bool_int | exact kb_bool_bool | exact kb_bool_list | exact kb_bool_tuple | exact kb_list_str | exact kb_list_int | exact kb_list_bool | exact kb_list_list | exact kb_list_tuple | exact kb_tuple_str | exact kb_tuple_int | exact kb_tuple_bool | exact kb_tuple_list | exact kb_tuple_tuple | exact kb_NoneType_str | exact kb_NoneType_int | exact kb_NoneType_bool | exact kb_NoneType_list | exact kb_NoneType_tuple | exact kb_dict_str | exact kb_dict_int | exact kb_dict_bool | exact kb_dict_list | exact kb_dict_tuple)
local macro_rules | `(tactic| wtm_at "gx1") => `(tactic| first | ((with_reducible apply g_eqS); (· exact rfl)) | ((with_reducible apply g_neS); (· exact rfl)) | wtm_at "go1" | with_reducible apply g_min2 | with_reducible apply g_max2 | with_reducible apply g_T | with_reducible apply g_F | with_reducible apply g_NT | with_reducible apply g_NF | with_reducible apply g_nT | with_reducible apply g_nF | with_reducible apply g_RT | with_reducible apply g_RF | ((with_reducible apply g_isi); (· wtm_at "ty"); (· wtm_at "kb")) | ((with_reducible apply g_ixAU3); (· wtm_at "lk"); (· exact rfl)) | ((with_reducible apply g_ixAL3); (· wtm_at "lk"); (· exact rfl)) | ((with_reducible apply g_ixU3); (· wtm_at "lk"); (· exact rfl)) | ((with_reducible apply g_lenL3); (· wtm_at "lk")) | ((with_reducible apply g_lenU3); (· wtm_at "lk")) | ((with_reducible apply g_tyL3); (· wtm_at "lk")) | ((with_reducible apply g_lenT); (· wtm_at "pv")) | wtm_at "tr" | with_reducible apply g_ET | with_reducible apply g_EF | with_reducible apply g_EnT | with_reducible apply g_EnF)
local macro_rules | `(tactic| wtm_at "pv") => `(tactic| first | exact rfl | assumption | omega | (simp; done) | (simp; omega))
local macro_rules | `(tactic| wtm_at "tr") => `(tactic| first | ((with_reducible apply g_Td); (· wtm_at "pv")) | ((with_reducible apply g_Fd); (· wtm_at "pv")) | ((with_reducible apply g_NTd); (· wtm_at "pv")) | ((with_reducible apply g_NFd); (· wtm_at "pv")) | ((with_reducible apply g_nTd); (· wtm_at "pv")) | ((with_reducible apply g_nFd); (· wtm_at "pv")) | ((with_reducible apply g_RTd); (· wtm_at "pv")) | ((with_reducible apply g_RFd); (· wtm_at "pv")))
local macro_rules | `(tactic| wtm_at "gx") => `(tactic| repeat wtm_at "gx1")

section
variable {P : Program} {w : World} {K : PySem.W.Frag} {mg : Str → Option Value} {base : Heap}
/-! Ways.cost -/
def sp_Ways_cost (K : PySem.W.Frag) : Sp := fun vs H Q _ => ∃ (p : Addr) (i j : Nat) (l : List Nat) (W : Wd) (cd kd : Addr) (crs krs : List Addr) (fc fk : Nat → List V) (v : V), vs = [.ref p, .int i, .int j] ∧ WaysG K H p l W cd kd crs krs fc fk ∧ j < crs.length ∧ (fc j)[i]? = some v ∧ Q v H
theorem ok_Ways_cost (T : Facts K mg) : C8.Met P w K mg base 1 (He.ga K "Ways") "cost" (sp_Ways_cost K) [] := by
  refine metD T.m_Ways_cost sc_Ways_cost (fun vs H Q E h => ?_) (fun f cdv A outer s H vs Q E hr h => ?_)
  · obtain ⟨p, i, j, l, W, cd, kd, crs, krs, fc, fk, v, rfl, hG, hj, hv, q⟩ := h; rfl
  · obtain ⟨p, i, j, l, W, cd, kd, crs, krs, fc, fk, v, rfl, hG, hj, hv, q⟩ := h
    refine ⟨_, (pss_one (ps_ret (pe_ix ix_list (pe_ix ix_list (pe_fld (pv 0) rfl) (pv 2) (fun _ _ => rfl)) (pv 1) (fun _ _ => rfl)))), ?_⟩
    rw [st_Ways_cost]
    obtain ⟨r, h1, h2, h3⟩ := hG.c.row hj
    wtm_at "unf"
    wtm_at "gx"
    refine g_wcost T hG ?_
    wtm_at "gx"
    refine g_ixL (sq_of hG.c.hd) (atI_of h2) ?_
    wtm_at "gx"
    exact g_ixL (sq_of h3) (atI_of hv) q
end
end K32

set_option maxHeartbeats 4000000
namespace K32
open PySem PySem.Spec PyProof.Rows L2 SX Ly
local macro_rules | `(tactic| wtm_at "unf") => `(tactic| (try simp only [tMetX, tOwnX, tChain, tSeq, tNext, tBreak, tCont, tDrop, tRet, tRetN, tIfS, tAsg, tAug, tC, tOp, tUn, tNil, tCons, tOwn, tCB, tTest, tB, tAnd, tOr, tNot, tAndV, tOrV, tNotV, tIf, gName, gSub, tBM, tBM0, tM0, tM1, tSl, tPart_eq, tNoPart, tLst_eq, tTup_eq, tRevL_eq, tReplT, tRevS, tDGet_eq, sDPut_eq, tDNewT_eq, tMet, tMak, tFld_eq, sFld_eq, C8.tCut, wipe, tYes, gTup, gCons, gNil, List.set_cons_zero, List.set_cons_succ, if_true, if_false, Bool.false_eq_true, Bool.not_true, Bool.not_false, true_and, reduceIte, cx_K, tFor_eq, tLc_eq, iStr, iList, iTup, iRng1, iRng2, iRng3, iEnum, iZip, tLstRg, tRg1, gLst, RZ.iZipA, iEnumS, iZipS]))
local macro_rules | `(tactic| wtm_at "ne") => `(tactic| first | assumption | (apply Ne.symm; assumption) | (apply ne_new; (· assumption); (· wtm_at "lk")) | (apply Ne.symm; apply ne_new; (· assumption); (· wtm_at "lk")))
local macro_rules | `(tactic| wtm_at "lk") => `(tactic| first | assumption | exact upd_same | (apply Same.get; (· assumption); (· wtm_at "lk")) | (apply But.get; (· assumption); (· wtm_at "ne"); (· wtm_at "lk")))
local macro_rules | `(tactic| wtm_at "sq") => `(tactic| first | assumption | (apply sq_of; wtm_at "lk") | (apply Same.seq; (· assumption); (· wtm_at "sq")) | (apply But.sq; (· assumption); (· wtm_at "ne"); (· wtm_at "sq")))
local macro_rules | `(tactic| wtm_at "fr") => `(tactic| first | assumption | (apply Same.fr; (· assumption); (· wtm_at "sm")) | (apply But.fr; (· assumption); (· wtm_at "sm"); (· wtm_at "ne")))
local macro_rules | `(tactic| wtm_at "sm") => `(tactic| first | exact Same.refl _ | exact But.refl | assumption | (apply Same.tr; (· assumption); (· wtm_at "sm")) | (apply Same.b0; (· assumption); (· wtm_at "sm"); (· wtm_at "fr")) | (apply But.sa; (· assumption); (· wtm_at "sm")) | (apply But.tr; (· assumption); (· wtm_at "sm")) | (apply But.b0; (· assumption); (· wtm_at "sm"); (· wtm_at "fr")) | (apply Same.toBut; wtm_at "sm"))
local macro_rules | `(tactic| wtm_at "sc") => `(tactic| first | exact Int.zero_lt_one | (show (0 : Int) < _; omega) | (show (0 : Int) < _; decide) | exact ⟨by omega, by omega⟩ | exact .inl ⟨by omega, by omega⟩ | exact .inr ⟨by omega, by omega⟩)
local macro_rules | `(tactic| wtm_at "go1") => `(tactic| first | ((with_reducible apply g_var); (· exact rfl)) | with_reducible apply g_I0 | ((with_reducible apply g_I); (· wtm_at "sc")) | with_reducible apply g_U | with_reducible apply g_ipI | ((with_reducible apply g_addT); (· first | omega | (simp; done) | (simp; omega))) | with_reducible apply g_inT | with_reducible apply g_ninT | ((with_reducible apply g_lenT); (· omega)) | with_reducible apply g_findT1 | with_reducible apply g_str | with_reducible apply g_part | with_reducible apply g_intB | ((with_reducible apply g_ixL); (· wtm_at "sq"); (· exact rfl)) | ((with_reducible apply g_setL); (· wtm_at "lk"); (· exact rfl)) | ((with_reducible apply g_eq); (· rfl)) | ((with_reducible apply g_ne); (· rfl)))
local macro_rules | `(tactic| wtm_at "go") => `(tactic| repeat wtm_at "go1")
local macro_rules | `(tactic| wtm_at "lp") => `(tactic| skip)
local macro_rules | `(tactic| wtm_at "om") => `(tactic| first | omega | (simp; done) | (simp; omega) | (simp at *; omega))
local macro_rules | `(tactic| wtm_at "ty") => `(tactic| first | exact ty_str | exact ty_int | exact ty_bl | exact ty_non | (apply ty_lst; wtm_at "lk") | (apply ty_tup; wtm_at "lk"))
local macro_rules | `(tactic| wtm_at "kb") => `(tactic| first | exact kb_str_str | exact kb_str_int | exact kb_str_bool | exact kb_str_list | exact kb_str_tuple | exact kb_int_str | exact kb_int_int | exact kb_int_bool | exact kb_int_list | exact kb_int_tuple | exact kb_bool_str | exact kb_bool_int | exact kb_bool_bool | exact kb_bool_list | exact kb_bool_tuple | exact kb_list_str | exact kb_list_int | exact kb_list_bool | exact kb_list_list | exact kb_list_tuple | exact kb_tuple_str | exact kb_tuple_int | exact kb_tuple_bool | exact kb_tuple_list | exact kb_tuple_tuple | exact kb_NoneType_str | exact kb_NoneType_int | exact kb_NoneType_bool | exact kb_NoneType_list | exact kb_NoneType_tuple | exact kb_dict_str | exact kb_dict_int | exact kb_dict_bool | exact kb_dict_list | exact kb_dict_tuple)
local macro_rules | `(tactic| wtm_at "gx1") => `(tactic| first | ((with_reducible apply g_eqS); (· exact rfl)) | ((with_reducible apply g_neS); (· exact rfl)) | wtm_at "go1" | with_reducible apply g_min2 | with_reducible apply g_max2 | with_reducible apply g_T | with_reducible apply g_F | with_reducible apply g_NT | with_reducible apply g_NF | with_reducible apply g_nT | with_reducible apply g_nF | with_reducible apply g_RT | with_reducible apply g_RF | ((with_reducible apply g_isi); (· wtm_at "ty"); (· wtm_at "kb")) | ((with_reducible apply g_ixAU3); (· wtm_at "lk"); (· exact rfl)) | ((with_reducible apply g_ixAL3); (· wtm_at "lk"); (· exact rfl)) | ((with_reducible apply g_ixU3); (· wtm_at "lk"); (· exact rfl)) | ((with_reducible apply g_lenL3); (· wtm_at "lk")) | ((with_reducible apply g_lenU3); (· wtm_at "lk")) | ((with_reducible apply g_tyL3); (· wtm_at "lk")) | ((with_reducible apply g_lenT); (· wtm_at "pv")) | wtm_at "tr" | with_reducible apply g_ET | with_reducible apply g_EF | with_reducible apply g_EnT | with_reducible apply g_EnF)
local macro_rules | `(tactic| wtm_at "pv") => `(tactic| first | exact rfl | assumption | omega | (simp; done) | (simp; omega))
local macro_rules | `(tactic| wtm_at "tr") => `(tactic| first | ((with_reducible apply g_Td); (· wtm_at "pv")) | ((with_reducible apply g_Fd); (· wtm_at "pv")) | ((with_reducible apply g_NTd); (· wtm_at "pv")) | ((with_reducible apply g_NFd); (· wtm_at "pv")) | ((with_reducible apply g_nTd); (· wtm_at "pv")) | ((with_reducible apply g_nFd); (· wtm_at "pv")) | ((with_reducible apply g_RTd); (· wtm_at "pv")) | ((with_reducible apply g_RFd); (· wtm_at "pv")))
local macro_rules | `(tactic| wtm_at "gx") => `(tactic| repeat wtm_at "gx1")

section
variable {P : Program} {w : World} {K : PySem.W.Frag} {mg : Str → Option Value} {base : Heap}
theorem mc_put_some {W : Wd} (h : W.pt = true) (l : List Nat) (a b : Nat) (h1 : a ≤ b) (h2 : b ≤ l.length) : mcN l W a b ≠ none := fun e => by
  have hL := Ld_mc (l := l) (W := W) (b - a) a b (Nat.le_refl _) h1 h2
  rw [e] at hL
  obtain ⟨α, a1, a2, a3, a4⟩ := str_row (W := ⟨false, true, W.tn⟩) rfl (seg l a b)
  have hr : Row ⟨false, true, W.tn⟩ [] (seg l a b) (cstS α) α := ⟨a1, a2, a3, rfl, a4⟩
  have hr2 := row_mono (W := ⟨true, false, W.tn⟩) (W' := W) ⟨fun _ => h, fun q => (by cases q), fun q => q⟩ (noStr (W := ⟨false, true, W.tn⟩) hr)
  exact An_pos.mpr ⟨_, hr2⟩ (hL _)
/-! least_by -/
def sp_least_by (K : PySem.W.Frag) : Sp := fun vs H Q _ => ∃ (l : List Nat) (wd : V) (W : Wd), vs = [Tx l, wd] ∧ WdIs K H wd W ∧ l.length ≤ 1000 ∧ ∀ H', Same H H' → Q (cV (mcN l W 0 l.length)) H'
theorem ok_least_by (T : Facts K mg) : C8.Cal P w K mg base 8 "least_by" (sp_least_by K) [] := by
  refine calD T.f_least_by sc_least_by (fun vs H Q E h => ?_) (fun f cdv A outer s H vs Q E hr h => ?_)
  · obtain ⟨l, wd, W, rfl, hw, hl, q⟩ := h; rfl
  · obtain ⟨l, wd, W, rfl, hw, hl, q⟩ := h
    refine ⟨_, (pss_one (ps_ret (pe_met (ok_Ways_cost T) hr (by omega) (pe_mak (ok_Ways_init T) hr (by omega) rfl (pa_cons (pv 0) (pa_cons (pv 1) pa_nil))) (pa_cons pe_int (pa_cons (pe_callB call_lenT rfl T.b_len PySem.boot_len (pa_cons (pv 0) pa_nil)) pa_nil))))), ?_⟩
    rw [st_least_by]
    wtm_at "unf"
    wtm_at "gx"
    refine g_mak fun x dx H1 nx s1 ex => ?_
    refine ⟨x, dx, l, wd, W, rfl, ex, hw.same s1, hl, fun l' hp a b h1 h2 => mc_put_some hp l' a b h1 h2, fun cd kd crs krs H2 b2 n1 n2 hA => ?_⟩
    refine ⟨rfl, ?_⟩
    refine g_wmet hA.g (fun _ _ _ _ => rfl) ?_
    wtm_at "gx"
    refine ⟨x, 0, l.length, l, W, cd, kd, crs, krs, _, _, _, rfl, hA.g, by have := hA.cl; omega, colV_at (by omega), ?_⟩
    exact q H2 (Same.b0 b2 s1 nx)
/-! many_by -/
def sp_many_by (K : PySem.W.Frag) : Sp := fun vs H Q _ => ∃ (l : List Nat) (wd : V) (W : Wd), vs = [Tx l, wd] ∧ WdIs K H wd W ∧ l.length ≤ 1000 ∧ ∀ H', Same H H' → Q (.int (cnt (mcN l W 0 l.length))) H'
theorem ok_many_by (T : Facts K mg) : C8.Cal P w K mg base 8 "many_by" (sp_many_by K) [] := by
  refine calD T.f_many_by sc_many_by (fun vs H Q E h => ?_) (fun f cdv A outer s H vs Q E hr h => ?_)
  · obtain ⟨l, wd, W, rfl, hw, hl, q⟩ := h; rfl
  · obtain ⟨l, wd, W, rfl, hw, hl, q⟩ := h
    refine ⟨_, (pss_one (ps_ret (pe_met (ok_Ways_count T) hr (by omega) (pe_mak (ok_Ways_init T) hr (by omega) rfl (pa_cons (pv 0) (pa_cons (pv 1) pa_nil))) (pa_cons pe_int (pa_cons (pe_callB call_lenT rfl T.b_len PySem.boot_len (pa_cons (pv 0) pa_nil)) pa_nil))))), ?_⟩
    rw [st_many_by]
    wtm_at "unf"
    wtm_at "gx"
    refine g_mak fun x dx H1 nx s1 ex => ?_
    refine ⟨x, dx, l, wd, W, rfl, ex, hw.same s1, hl, fun l' hp a b h1 h2 => mc_put_some hp l' a b h1 h2, fun cd kd crs krs H2 b2 n1 n2 hA => ?_⟩
    refine ⟨rfl, ?_⟩
    refine g_wmet hA.g (fun _ _ _ _ => rfl) ?_
    wtm_at "gx"
    refine ⟨x, 0, l.length, l, W, cd, kd, crs, krs, _, _, _, rfl, hA.g, by have := hA.kl; omega, colV_at (by omega), ?_⟩
    rw [nV_cnt]
    exact q H2 (Same.b0 b2 s1 nx)
end
end K32

set_option maxHeartbeats 4000000
namespace K32
open PySem PySem.Spec PyProof.Rows L2 SX Ly
local macro_rules | `(tactic| wtm_at "unf") => `(tactic| (try simp only [tMetX, tOwnX, tChain, tSeq, tNext, tBreak, tCont, tDrop, tRet, tRetN, tIfS, tAsg, tAug, tC, tOp, tUn, tNil, tCons, tOwn, tCB, tTest, tB, tAnd, tOr, tNot, tAndV, tOrV, tNotV, tIf, gName, gSub, tBM, tBM0, tM0, tM1, tSl, tPart_eq, tNoPart, tLst_eq, tTup_eq, tRevL_eq, tReplT, tRevS, tDGet_eq, sDPut_eq, tDNewT_eq, tMet, tMak, tFld_eq, sFld_eq, C8.tCut, wipe, tYes, gTup, gCons, gNil, List.set_cons_zero, List.set_cons_succ, if_true, if_false, Bool.false_eq_true, Bool.not_true, Bool.not_false, true_and, reduceIte, cx_K, tFor_eq, tLc_eq, iStr, iList, iTup, iRng1, iRng2, iRng3, iEnum, iZip, tLstRg, tRg1, gLst, RZ.iZipA, iEnumS, iZipS]))
local macro_rules | `(tactic| wtm_at "ne") => `(tactic| first | assumption | (apply Ne.symm; assumption) | (apply ne_new; (· assumption); (· wtm_at "lk")) | (apply Ne.symm; apply ne_new; (· assumption); (· wtm_at "lk")))
local macro_rules | `(tactic| wtm_at "lk") => `(tactic| first | assumption | exact upd_same | (apply Same.get; (· assumption); (· wtm_at "lk")) | (apply But.get; (· assumption); (· wtm_at "ne"); (· wtm_at "lk")))
local macro_rules | `(tactic| wtm_at "sq") => `(tactic| first | assumption | (apply sq_of; wtm_at "lk") | (apply Same.seq; (· assumption); (· wtm_at "sq")) | (apply But.sq; (· assumption); (· wtm_at "ne"); (· wtm_at "sq")))
local macro_rules | `(tactic| wtm_at "fr") => `(tactic| first | assumption | (apply Same.fr; (· assumption); (· wtm_at "sm")) | (apply But.fr; (· assumption); (· wtm_at "sm"); (· wtm_at "ne")))
local macro_rules | `(tactic| wtm_at "sm") => `(tactic| first | exact Same.refl _ | exact But.refl | assumption | (apply Same.tr; (· assumption); (· wtm_at "sm")) | (apply Same.b0; (· assumption); (· wtm_at "sm"); (· wtm_at "fr")) | (apply But.sa; (· assumption); (· wtm_at "sm")) | (apply But.tr; (· assumption); (· wtm_at "sm")) | (apply But.b0; (· assumption); (· wtm_at "sm"); (· wtm_at "fr")) | (apply Same.toBut; wtm_at "sm"))
local macro_rules | `(tactic| wtm_at "sc") => `(tactic| first | exact Int.zero_lt_one | (show (0 : Int) < _; omega) | (show (0 : Int) < _; decide) | exact ⟨by omega, by omega⟩ | exact .inl ⟨by omega, by omega⟩ | exact .inr ⟨by omega, by omega⟩)
local macro_rules | `(tactic| wtm_at "go1") => `(tactic| first | ((with_reducible apply g_var); (· exact rfl)) | with_reducible apply g_I0 | ((with_reducible apply g_I); (· wtm_at "sc")) | with_reducible apply g_U | with_reducible apply g_ipI | ((with_reducible apply g_addT); (· first | omega | (simp; done) | (simp; omega))) | with_reducible apply g_inT | with_reducible apply g_ninT | ((with_reducible apply g_lenT); (· omega)) | with_reducible apply g_findT1 | with_reducible apply g_str | with_reducible apply g_part | with_reducible apply g_intB | ((with_reducible apply g_ixL); (· wtm_at "sq"); (· exact rfl)) | ((with_reducible apply g_setL); (· wtm_at "lk"); (· exact rfl)) | ((with_reducible apply g_eq); (· rfl)) | ((with_reducible apply g_ne); (· rfl)))
local macro_rules | `(tactic| wtm_at "go") => `(tactic| repeat wtm_at "go1")
local macro_rules | `(tactic| wtm_at "lp") => `(tactic| skip)
local macro_rules | `(tactic| wtm_at "om") => `(tactic| first | omega | (simp; done) | (simp; omega) | (simp at *; omega))
local macro_rules | `(tactic| wtm_at "ty") => `(tactic| first | exact ty_str | exact ty_int | exact ty_bl | exact ty_non | (apply ty_lst; wtm_at "lk") | (apply ty_tup; wtm_at "lk"))
local macro_rules | `(tactic| wtm_at "kb") => `(tactic| first | exact kb_str_str | exact kb_str_int | exact kb_str_bool | exact kb_str_list | exact kb_str_tuple | exact kb_int_str | exact kb_int_int | exact kb_int_bool | exact kb_int_list | exact kb_int_tuple | exact kb_bool_str | exact kb_bool_int | exact kb_bool_bool | exact kb_bool_list | exact kb_bool_tuple | exact kb_list_str | exact kb_list_int | exact kb_list_bool | exact kb_list_list | exact kb_list_tuple | exact kb_tuple_str | exact kb_tuple_int | exact kb_tuple_bool | exact kb_tuple_list | exact kb_tuple_tuple | exact kb_NoneType_str | exact kb_NoneType_int | exact kb_NoneType_bool | exact kb_NoneType_list | exact kb_NoneType_tuple | exact kb_dict_str | exact kb_dict_int | exact kb_dict_bool | exact kb_dict_list | exact kb_dict_tuple)
local macro_rules | `(tactic| wtm_at "gx1") => `(tactic| first | ((with_reducible apply g_eqS); (· exact rfl)) | ((with_reducible apply g_neS); (· exact rfl)) | wtm_at "go1" | with_reducible apply g_min2 | with_reducible apply g_max2 | with_reducible apply g_T | with_reducible apply g_F | with_reducible apply g_NT | with_reducible apply g_NF | with_reducible apply g_nT | with_reducible apply g_nF | with_reducible apply g_RT | with_reducible apply g_RF | ((with_reducible apply g_isi); (· wtm_at "ty"); (· wtm_at "kb")) | ((with_reducible apply g_ixAU3); (· wtm_at "lk"); (· exact rfl)) | ((with_reducible apply g_ixAL3); (· wtm_at "lk"); (· exact rfl)) | ((with_reducible apply g_ixU3); (· wtm_at "lk"); (· exact rfl)) | ((with_reducible apply g_lenL3); (· wtm_at "lk")) | ((with_reducible apply g_lenU3); (· wtm_at "lk")) | ((with_reducible apply g_tyL3); (· wtm_at "lk")) | ((with_reducible apply g_lenT); (· wtm_at "pv")) | wtm_at "tr" | with_reducible apply g_ET | with_reducible apply g_EF | with_reducible apply g_EnT | with_reducible apply g_EnF)
local macro_rules | `(tactic| wtm_at "pv") => `(tactic| first | exact rfl | assumption | omega | (simp; done) | (simp; omega))
local macro_rules | `(tactic| wtm_at "tr") => `(tactic| first | ((with_reducible apply g_Td); (· wtm_at "pv")) | ((with_reducible apply g_Fd); (· wtm_at "pv")) | ((with_reducible apply g_NTd); (· wtm_at "pv")) | ((with_reducible apply g_NFd); (· wtm_at "pv")) | ((with_reducible apply g_nTd); (· wtm_at "pv")) | ((with_reducible apply g_nFd); (· wtm_at "pv")) | ((with_reducible apply g_RTd); (· wtm_at "pv")) | ((with_reducible apply g_RFd); (· wtm_at "pv")))
local macro_rules | `(tactic| wtm_at "gx") => `(tactic| repeat wtm_at "gx1")

section
variable {P : Program} {w : World} {K : PySem.W.Frag} {mg : Str → Option Value} {base : Heap}
def WS : List Wd := [⟨true, false, false⟩, ⟨false, true, false⟩, ⟨false, false, true⟩, ⟨true, true, false⟩, ⟨true, false, true⟩, ⟨false, true, true⟩, ⟨true, true, true⟩]
/-! _law_words -/
def sp_law_words (K : PySem.W.Frag) : Sp := fun vs H Q _ => vs = [] ∧ ∀ (wa : Addr) (ws : List V) (H' : Hp), H wa = none → Same H H' → H' wa = some (.lst ws) → Paired (WdIs K H') ws WS → Q (.ref wa) H'
theorem ok_law_words (T : Facts K mg) : C8.Cal P w K mg base 1 "_law_words" (sp_law_words K) [] := by
  refine calD T.f_law_words sc_law_words (fun vs H Q E h => ?_) (fun f cdv A outer s H vs Q E hr h => ?_)
  · obtain ⟨rfl, q⟩ := h; rfl
  · obtain ⟨rfl, q⟩ := h
    refine ⟨_, (pss_one (ps_ret (pe_lst (pa_cons (pe_tup (pa_cons (pe_strS (l := [112, 117, 116]) (by decide +kernel)) pa_nil)) (pa_cons (pe_tup (pa_cons (pe_strS (l := [115, 116, 114, 105, 107, 101]) (by decide +kernel)) pa_nil)) (pa_cons (pe_tup (pa_cons (pe_strS (l := [116, 117, 114, 110]) (by decide +kernel)) pa_nil)) (pa_cons (pe_tup (pa_cons (pe_strS (l := [112, 117, 116]) (by decide +kernel)) (pa_cons (pe_strS (l := [115, 116, 114, 105, 107, 101]) (by decide +kernel)) pa_nil))) (pa_cons (pe_tup (pa_cons (pe_strS (l := [112, 117, 116]) (by decide +kernel)) (pa_cons (pe_strS (l := [116, 117, 114, 110]) (by decide +kernel)) pa_nil))) (pa_cons (pe_tup (pa_cons (pe_strS (l := [115, 116, 114, 105, 107, 101]) (by decide +kernel)) (pa_cons (pe_strS (l := [116, 117, 114, 110]) (by decide +kernel)) pa_nil))) (pa_cons (pe_tup (pa_cons (pe_strS (l := [112, 117, 116]) (by decide +kernel)) (pa_cons (pe_strS (l := [115, 116, 114, 105, 107, 101]) (by decide +kernel)) (pa_cons (pe_strS (l := [116, 117, 114, 110]) (by decide +kernel)) pa_nil)))) pa_nil)))))))))), ?_⟩
    rw [st_law_words]
    wtm_at "unf"
    wtm_at "gx"
    refine g_tup (by show 1 ≤ 100000; decide) fun t1 H1 n1 s1 e1 => ?_
    refine g_tup (by show 1 ≤ 100000; decide) fun t2 H2 n2 s2 e2 => ?_
    refine g_tup (by show 1 ≤ 100000; decide) fun t3 H3 n3 s3 e3 => ?_
    refine g_tup (by show 2 ≤ 100000; decide) fun t4 H4 n4 s4 e4 => ?_
    refine g_tup (by show 2 ≤ 100000; decide) fun t5 H5 n5 s5 e5 => ?_
    refine g_tup (by show 2 ≤ 100000; decide) fun t6 H6 n6 s6 e6 => ?_
    refine g_tup (by show 3 ≤ 100000; decide) fun t7 H7 n7 s7 e7 => ?_
    refine g_lst (by show 7 ≤ 100000; decide) fun wa H8 nwa s8 ewa => ?_
    have a7 := s8
    have a6 := s7.trans a7
    have a5 := s6.trans a6
    have a4 := s5.trans a5
    have a3 := s4.trans a4
    have a2 := s3.trans a3
    have a1 := s2.trans a2
    refine q wa _ H8 ((s1.trans (s2.trans (s3.trans (s4.trans (s5.trans (s6.trans s7)))))).free nwa) (s1.trans a1) ewa ?_
    have d : ∀ (b : Bool), b = b := fun _ => rfl
    refine .cons ⟨t1, _, rfl, st_of (a1 _ _ e1), by decide +kernel, by decide +kernel, by decide +kernel, by decide +kernel⟩ (.cons ⟨t2, _, rfl, st_of (a2 _ _ e2), by decide +kernel, by decide +kernel, by decide +kernel, by decide +kernel⟩ (.cons ⟨t3, _, rfl, st_of (a3 _ _ e3), by decide +kernel, by decide +kernel, by decide +kernel, by decide +kernel⟩ (.cons ⟨t4, _, rfl, st_of (a4 _ _ e4), by decide +kernel, by decide +kernel, by decide +kernel, by decide +kernel⟩ (.cons ⟨t5, _, rfl, st_of (a5 _ _ e5), by decide +kernel, by decide +kernel, by decide +kernel, by decide +kernel⟩ (.cons ⟨t6, _, rfl, st_of (a6 _ _ e6), by decide +kernel, by decide +kernel, by decide +kernel, by decide +kernel⟩ (.cons ⟨t7, _, rfl, st_of (a7 _ _ e7), by decide +kernel, by decide +kernel, by decide +kernel, by decide +kernel⟩ .nil))))))
theorem idx_brk : ∀ c ∈ BRK, Txt.find (S BRK) (S [c]) = ((BRK.idxOf c : Nat) : Int) ∧ BRK.idxOf c < 8 ∧ atI BRK (((BRK.idxOf c : Nat) : Int) + 1 - 2 * (((BRK.idxOf c : Nat) : Int) % 2)) = some (oth c) := by decide +kernel
/-! _law_turned -/
def sp_law_turned : Sp := fun vs H Q _ => ∃ l : List Nat, vs = [Tx l] ∧ l.length ≤ 100 ∧ (∀ c ∈ l, isSg c) ∧ ∀ H', Same H H' → Q (Tx (abt l)) H'
theorem ok_law_turned (T : Facts K mg) : C8.Cal P w K mg base 1 "_law_turned" sp_law_turned [] := by
  refine calD T.f_law_turned sc_law_turned (fun vs H Q E h => ?_) (fun f cdv A outer s H vs Q E hr h => ?_)
  · obtain ⟨l, rfl, hl, hs, q⟩ := h; rfl
  · obtain ⟨l, rfl, hl, hs, q⟩ := h
    refine ⟨_, (pss_cons (ps_set (i := 1) sc_law_turned.nd rfl (Or.inl rfl) (pe_strS (l := []) (by decide +kernel)))
       (pss_cons (ps_for PassesOwn.never rfl (pi_str (pe_revS (pv 0))) (pg_name (i := 2) sc_law_turned.nd rfl (Or.inl rfl))
       (C8.pss_cut (ps_if (pt_cmpR op_inT (pv 2) (pe_strS (l := BRK) (by decide +kernel)) (by rfl))
       (pss_cons (ps_set (i := 3) sc_law_turned.nd rfl (Or.inl rfl) (pe_m1 PySem.F.slot_str_index PySem.F.type_str_index mt_idxT (pe_strS (l := BRK) (by decide +kernel)) (pv 2)))
       (pss_one (ps_set (i := 2) sc_law_turned.nd rfl (Or.inl rfl) (pe_ix ix_txt (pe_strS (l := BRK) (by decide +kernel)) (pe_op op_sub (pe_op op_add (pv 3) pe_int) (pe_op op_mul pe_int (pe_op op_mod (pv 3) pe_int))) (fun _ _ => rfl)))))
       pss_nil)
       (pss_one (ps_set (i := 1) sc_law_turned.nd rfl (Or.inl rfl) (pe_op op_addT (pv 1) (pv 2))))))
       (pss_one (ps_ret (pv 1))))), ?_⟩
    rw [st_law_turned]
    wtm_at "unf"
    wtm_at "gx"
    refine g_revT (by omega) ?_
    refine ⟨_, rfl, for_txt (fun pre σ H' => ∃ y2 y3, σ = [some (Tx l), some (Tx (pre.map tn)), y2, y3] ∧ H' = H) ⟨_, _, rfl, rfl⟩ (fun pre c post σ H' e hv => ?_) (fun σ H' hv => ?_)⟩
    · obtain ⟨y2, y3, rfl, rfl⟩ := hv
      have hl2 : pre.length + 1 ≤ 100 := by have h := congrArg List.length e; rw [List.length_reverse] at h; simp at h; omega
      wtm_at "unf"
      refine ⟨fun σ' H'' => ∃ y3, σ' = [some (Tx l), some (Tx (pre.map tn)), some (Tx [tn c]), y3] ∧ H'' = H', ?_, ?_⟩
      · wtm_at "gx"
        refine g_test (fun h => ?_) (fun h => ?_)
        · obtain ⟨i1, i2, i3⟩ := idx_brk c h
          wtm_at "gx"
          refine g_idxT1 i1 ?_
          wtm_at "unf"
          wtm_at "gx"
          refine g_ixT (c := oth c) (by decide) (by rw [← i3]) ?_
          exact ⟨_, by rw [tn_brk h], rfl⟩
        · exact ⟨_, by rw [show tn c = c by unfold tn; rw [if_neg h]], rfl⟩
      · rintro σ' H'' ⟨y3', rfl, rfl⟩
        wtm_at "gx"
        exact ⟨_, _, by rw [List.map_append]; rfl, rfl⟩
    · obtain ⟨y2, y3, rfl, rfl⟩ := hv
      wtm_at "unf"
      wtm_at "gx"
      have := q H' (Same.refl _)
      unfold abt at this
      rw [← List.map_reverse] at this
      exact this
def pairV (c : Nat) : V := Tx [c, oth c]
def ordF (o : List Nat) (c : Nat) : Nat := if c ∈ BRK then (o.flatMap fun x => [x, oth x]).getD (BRK.idxOf c) 0 else c
def ordOk (o : List Nat) : Prop := (∀ a ∈ BRK, ∀ b ∈ BRK, ordF o a = ordF o b → a = b) ∧ (∀ c ∈ OPN, ordF o c ∈ OPN) ∧ (∀ c ∈ CLO, ordF o c ∈ CLO) ∧ (∀ c ∈ OPN, ordF o (oth c) = oth (ordF o c)) ∧ (∀ c ∈ BRK, (o.flatMap fun x => [x, oth x])[BRK.idxOf c]? = some (ordF o c))
instance (o : List Nat) : Decidable (ordOk o) := by unfold ordOk; infer_instance
theorem ordOk_all : ∀ a ∈ OPN, ∀ b ∈ OPN, ∀ c ∈ OPN, ∀ d ∈ OPN, [a, b, c, d].Nodup → ordOk [a, b, c, d] := by decide +kernel
theorem ordOk_of {o : List Nat} (h : o.Perm OPN) : ordOk o := by
  have hl := h.length_eq
  have hn : o.Nodup := h.nodup_iff.mpr (by decide)
  have hm : ∀ c ∈ o, c ∈ OPN := fun c hc => h.mem_iff.mp hc
  match o, hl, hn, hm with
  | [a, b, c, d], _, hn, hm => exact ordOk_all a (hm a (by simp)) b (hm b (by simp)) c (hm c (by simp)) d (hm d (by simp)) hn
theorem ordF_let {o : List Nat} {c : Nat} (h : c ∉ BRK) : ordF o c = c := by unfold ordF; rw [if_neg h]
theorem ordF_ren {o : List Nat} (h : o.Perm OPN) : Ren (ordF o) := by
  obtain ⟨g1, g2, g3, g4, _⟩ := ordOk_of h
  have hb : ∀ {c}, ordF o c ∈ BRK ↔ c ∈ BRK := fun {c} => by
    constructor
    · intro h
      by_cases hb : c ∈ BRK
      · exact hb
      · rw [ordF_let hb] at h; exact h
    · intro h
      rcases brk_or.mp h with h | h
      · exact brk_or.mpr (.inl (g2 c h))
      · exact brk_or.mpr (.inr (g3 c h))
  refine ⟨fun {a b} e => ?_, fun {c} => ⟨fun h => ?_, g2 c⟩, fun {c} => ⟨fun h => ?_, g3 c⟩, fun {c} h => g4 c h⟩
  · by_cases ha : a ∈ BRK
    · have : b ∈ BRK := hb.mp (by rw [← e]; exact hb.mpr ha)
      exact g1 a ha b this e
    · have hb' : b ∉ BRK := fun hb' => ha (hb.mp (by rw [e]; exact hb.mpr hb'))
      rw [ordF_let ha, ordF_let hb'] at e
      exact e
  · rcases brk_or.mp (hb.mp (brk_or.mpr (.inl h))) with h' | h'
    · exact h'
    · exact absurd (g3 c h') (opn_clo _ h)
  · rcases brk_or.mp (hb.mp (brk_or.mpr (.inr h))) with h' | h'
    · exact absurd h (opn_clo _ (g2 c h'))
    · exact h'
/-! _law_otherwise -/
def sp_law_otherwise : Sp := fun vs H Q _ => ∃ (p : Addr) (P0 : Rw) (l : List Nat), vs = [.ref p, Tx l] ∧ H p = some P0.o ∧ l.length ≤ 100 ∧ (∀ c ∈ l, isSg c) ∧ ∀ (f : Nat → Nat) (P1 : Rw) (H' : Hp), Ren f → But p H H' → H' p = some P1.o → Q (Tx (l.map f)) H'
theorem ok_law_otherwise (T : Facts K mg) : C8.Cal P w K mg base 2 "_law_otherwise" sp_law_otherwise [] := by
  refine calD T.f_law_otherwise sc_law_otherwise (fun vs H Q E h => ?_) (fun f cdv A outer s H vs Q E hr h => ?_)
  · obtain ⟨p, P0, l, rfl, hp, hl, hs, q⟩ := h; rfl
  · obtain ⟨p, P0, l, rfl, hp, hl, hs, q⟩ := h
    refine ⟨_, (pss_cons (ps_set (i := 2) sc_law_otherwise.nd rfl (Or.inr rfl) (pe_lst (pa_cons (pe_strS (l := [40, 41]) (by decide +kernel)) (pa_cons (pe_strS (l := [60, 62]) (by decide +kernel)) (pa_cons (pe_strS (l := [91, 93]) (by decide +kernel)) (pa_cons (pe_strS (l := [123, 125]) (by decide +kernel)) pa_nil))))))
       (pss_cons (ps_set (i := 3) sc_law_otherwise.nd rfl (Or.inl rfl) (pe_m1 PySem.F.slot_str_join PySem.F.type_str_join mt_joinT (pe_strS (l := []) (by decide +kernel)) (pe_lc (own := [("k", 6)]) (by rfl) sc_law_otherwise.nd (pi_range1 rfl T.b_range (pa_cons pe_int pa_nil)) (blkOk_by (own := [("k", 6)]) (N := N_law_otherwise) (sc := defScope s_law_otherwise) (by decide +kernel)) (fun _ _ _ _ _ => (pg_name (i := 6) sc_law_otherwise.nd rfl (Or.inl rfl))) (fun _ _ _ _ _ => pts_nil) (fun _ _ _ _ _ => (pe_bmK (K := K) rfl PySem.F.plainAttrs_list PySem.F.slot_list_pop PySem.F.type_list_pop mt_popAt (pv 2) (pa_cons (pe_own (ok_law_take T) hr (by omega) rfl (pa_cons (pv 0) (pa_cons (pe_callB (r := rLenL K) call_lenL rfl T.b_len PySem.boot_len (pa_cons (pv 2) pa_nil)) pa_nil))) pa_nil))))))
       (pss_cons (ps_set (i := 4) sc_law_otherwise.nd rfl (Or.inl rfl) (pe_strS (l := []) (by decide +kernel)))
       (pss_cons (ps_for PassesOwn.never rfl (pi_str (pv 1)) (pg_name (i := 5) sc_law_otherwise.nd rfl (Or.inl rfl))
       (C8.pss_cut (ps_if (pt_cmpR op_inT (pv 5) (pe_strS (l := BRK) (by decide +kernel)) (by rfl))
       (pss_one (ps_set (i := 5) sc_law_otherwise.nd rfl (Or.inl rfl) (pe_ix ix_txt (pv 3) (pe_m1 PySem.F.slot_str_index PySem.F.type_str_index mt_idxT (pe_strS (l := BRK) (by decide +kernel)) (pv 5)) (fun _ _ => rfl))))
       pss_nil)
       (pss_one (ps_set (i := 4) sc_law_otherwise.nd rfl (Or.inl rfl) (pe_op op_addT (pv 4) (pv 5))))))
       (pss_one (ps_ret (pv 4))))))), ?_⟩
    rw [st_law_otherwise]
    wtm_at "unf"
    wtm_at "gx"
    refine g_lst (by show 4 ≤ 100000; decide) fun la H1 nla s1 ela => ?_
    have hlap : la ≠ p := Ne.symm (ne_new nla hp)
    refine ⟨⟨_, rfl⟩, _, rfl, by omega, by omega, lc_rng fun d H5 nd s5 ed => ⟨fun i H' => ∃ (o left : List Nat) (P6 : Rw), H' d = some (.lst (o.map pairV)) ∧ H' la = some (.lst (left.map pairV)) ∧ o.length = i ∧ (o ++ left).Perm OPN ∧ But p H H' ∧ H' p = some P6.o, ⟨[], OPN, P0, ed, s5 _ _ ela, rfl, List.Perm.refl _, Same.toBut (s1.trans s5), s5 _ _ (s1 _ _ hp)⟩, fun i H' hi hv => ?_, fun H' hv => ?_⟩⟩
    · obtain ⟨o, left, P6, eo, el, hol, hper, bH, eH⟩ := hv
      have hlen : o.length + left.length = 4 := by have := hper.length_eq; rw [List.length_append] at this; exact this
      have hi' : i < 4 := hi
      have hdp : d ≠ p := Ne.symm (ne_new nd (s1 _ _ hp))
      have hdl : d ≠ la := Ne.symm (ne_new nd ela)
      wtm_at "unf"
      refine ⟨rfl, ?_⟩
      wtm_at "gx"
      refine ⟨p, P6, _, rfl, eH, by rw [List.length_map]; omega, by rw [List.length_map]; omega, fun r P7 H6 r0 r1 b6 e6 => ?_⟩
      rw [List.length_map] at r1
      obtain ⟨j, rfl⟩ := Int.eq_ofNat_of_zero_le r0
      have hjl : j < left.length := by omega
      refine g_popAt (v := pairV left[j]) (b6 _ _ hlap el) (by rw [List.getElem?_map, List.getElem?_eq_getElem hjl]; rfl) (by rw [List.length_map]; omega) fun H7 b7 e7 => ?_
      rw [erase_map] at e7
      refine lc_put (b7 _ _ hdl (b6 _ _ hdp eo)) (by rw [List.length_map]; omega) fun H8 b8 e8 => ?_
      refine ⟨o ++ [left[j]], left.eraseIdx j, P7, by rw [e8, List.map_append]; rfl, b8 _ _ (Ne.symm hdl) e7, by simp [hol], ?_, But.b0 b8 (But.b0 b7 (But.tr b6 bH) nla) (s1.free nd), b8 _ _ (Ne.symm hdp) (b7 _ _ (Ne.symm hlap) e6)⟩
      refine List.Perm.trans ?_ hper
      rw [List.append_assoc]
      exact List.Perm.append_left o (erase_perm left j hjl)
    obtain ⟨o, left, P6, eo, el, hol, hper, bH, eH⟩ := hv
    have hol4 : o.length = 4 := hol
    have hleft : left = [] := by
      have := hper.length_eq
      rw [List.length_append, hol4] at this
      have e4 : OPN.length = 4 := rfl
      exact List.length_eq_zero_iff.mp (by omega)
    subst hleft
    rw [List.append_nil] at hper
    obtain ⟨g1, g2, g3, g4, g5⟩ := ordOk_of hper
    refine g_joinT (ps := o.map fun x => [x, oth x]) (by rw [List.map_map]; exact sq_of eo) ?_ ?_
    · match o, hol4 with
      | [a, b, c, e], _ => exact (show 8 + 4 * 0 ≤ 100000 by decide)
    rw [joinL_nil, show (o.map fun x => [x, oth x]).flatten = o.flatMap fun x => [x, oth x] from rfl]
    have hfl : (o.flatMap fun x => [x, oth x]).length ≤ 100 := by
      match o, hol4 with
      | [a, b, c, e], _ => show 8 ≤ 100; decide
    wtm_at "gx"
    refine ⟨_, rfl, for_txt (fun pre σ G => ∃ y5 y6, σ = [some (V.ref p), some (Tx l), some (V.ref la), some (Tx (o.flatMap fun x => [x, oth x])), some (Tx (pre.map (ordF o))), y5, y6] ∧ G = H') ⟨_, _, rfl, rfl⟩ (fun pre c post σ G e hv => ?_) (fun σ G hv => ?_)⟩
    · obtain ⟨y5, y6, rfl, rfl⟩ := hv
      have hl2 : pre.length + 1 ≤ 100 := by have h := congrArg List.length e; simp at h; omega
      wtm_at "unf"
      refine ⟨fun σ' G' => σ' = [some (V.ref p), some (Tx l), some (V.ref la), some (Tx (o.flatMap fun x => [x, oth x])), some (Tx (pre.map (ordF o))), some (Tx [ordF o c]), y6] ∧ G' = G, ?_, ?_⟩
      · wtm_at "gx"
        refine g_test (fun h => ?_) (fun h => ?_)
        · obtain ⟨i1, i2, i3⟩ := idx_brk c h
          wtm_at "gx"
          refine g_idxT1 i1 ?_
          refine g_ixT (c := ordF o c) (by omega) (atI_of (g5 c h)) ?_
          exact ⟨rfl, rfl⟩
        · exact ⟨by rw [ordF_let h], rfl⟩
      · rintro σ' G' ⟨rfl, rfl⟩
        wtm_at "gx"
        exact ⟨_, _, by rw [List.map_append]; rfl, rfl⟩
    · obtain ⟨y5, y6, rfl, rfl⟩ := hv
      wtm_at "unf"
      wtm_at "gx"
      exact q (ordF o) P6 _ (ordF_ren hper) bH eH
/-! _law_numbers -/
def sp_law_numbers (K : PySem.W.Frag) : Sp := fun vs H Q _ => ∃ l : List Nat, vs = [Tx l] ∧ l.length ≤ 100 ∧ ∀ (fa : Addr) (ts : List Addr) (H' : Hp), H fa = none → Same H H' → H' fa = some (.lst (ts.map V.ref)) → Paired (fun t W => H' t = some (.tup [cV (mcN l W 0 l.length), .int (cnt (mcN l W 0 l.length))])) ts WS → Q (.ref fa) H'
theorem ok_law_numbers (T : Facts K mg) : C8.Cal P w K mg base 9 "_law_numbers" (sp_law_numbers K) [] := by
  refine calD T.f_law_numbers sc_law_numbers (fun vs H Q E h => ?_) (fun f cdv A outer s H vs Q E hr h => ?_)
  · obtain ⟨l, rfl, hl, q⟩ := h; rfl
  · obtain ⟨l, rfl, hl, q⟩ := h
    refine ⟨_, (pss_one (ps_ret (pe_lc (own := [("words", 1)]) (by rfl) sc_law_numbers.nd (pi_list (pe_own0 (ok_law_words T) hr (by omega) rfl)) (blkOk_by (own := [("words", 1)]) (N := N_law_numbers) (sc := defScope s_law_numbers) (by decide +kernel)) (fun _ _ _ _ _ => (pg_name (i := 1) sc_law_numbers.nd rfl (Or.inl rfl))) (fun _ _ _ _ _ => pts_nil) (fun _ _ _ _ _ => (pe_tup (pa_cons (pe_own (ok_least_by T) hr (by omega) rfl (pa_cons (pv 0) (pa_cons (pv 1) pa_nil))) (pa_cons (pe_own (ok_many_by T) hr (by omega) rfl (pa_cons (pv 0) (pa_cons (pv 1) pa_nil))) pa_nil))))))), ?_⟩
    rw [st_law_numbers]
    wtm_at "unf"
    wtm_at "gx"
    refine ⟨rfl, fun wa ws H1 nwa s1 ewa hP => ?_⟩
    have hwl : ws.length = 7 := pd_len hP
    refine ⟨wa, rfl, ⟨_, sq_of ewa⟩, lc_lst ws fun d H3 nd s3 ed => ⟨fun pre G => ∃ ts : List Addr, G d = some (.lst (ts.map V.ref)) ∧ Paired (fun t W => G t = some (.tup [cV (mcN l W 0 l.length), .int (cnt (mcN l W 0 l.length))])) ts (WS.take pre.length) ∧ Same H1 G, ⟨[], ed, .nil, s3⟩, fun pre post G e hv => ?_, fun pre x post G e hv => ?_, fun G hv => ?_⟩⟩
    · obtain ⟨ts, k1, k2, k3⟩ := hv
      exact sq_of (k3 _ _ ewa)
    · obtain ⟨ts, k1, k2, k3⟩ := hv
      obtain ⟨W, hW, hmem, etk⟩ := pd_turn hP e
      have htl : ts.length ≤ 7 := by rw [pd_len k2, List.length_take]; exact Nat.min_le_right _ _
      wtm_at "unf"
      refine ⟨rfl, ?_⟩
      wtm_at "gx"
      refine ⟨l, x, W, rfl, hW.same k3, by omega, fun G1 g1 => ?_⟩
      wtm_at "gx"
      refine ⟨l, x, W, rfl, hW.same (k3.trans g1), by omega, fun G2 g2 => ?_⟩
      wtm_at "gx"
      refine g_tup (by show 2 ≤ 100000; decide) fun t G3 nt g3 et => ?_
      have k13 := (g1.trans (g2.trans g3)) _ _ k1
      refine lc_put k13 (by rw [List.length_map]; omega) fun G4 b4 e4 => ⟨ts ++ [t], by rw [e4, List.map_append]; rfl, ?_, Same.b0 b4 (k3.trans (g1.trans (g2.trans g3))) nd⟩
      rw [etk]
      have hnt : ∀ zs, G3 d ≠ some (.tup zs) := fun zs q => by rw [k13] at q; cases q
      exact pd_imp (fun t' W' h => b4 _ _ (fun q => hnt _ (q ▸ h)) h) (pd_app (pd_imp (fun t' W' h => (g1.trans (g2.trans g3)) _ _ h) k2) (pd_one et))
    obtain ⟨ts, k1, k2, k3⟩ := hv
    rw [hwl] at k2
    exact q d ts G (s1.free nd) (s1.trans k3) k1 k2
/-! _law_more -/
def sp_law_more : Sp := fun vs H Q _ => ∃ (a b : Addr) (x y : MC), vs = [.ref a, .ref b] ∧ H a = some (.tup [cV x, .int (cnt x)]) ∧ H b = some (.tup [cV y, .int (cnt y)]) ∧ (∀ p, x = some p → ∃ p', y = some p' ∧ (p'.1 < p.1 ∨ p'.1 = p.1 ∧ p.2 ≤ p'.2)) ∧ Q (.bl true) H
theorem ok_law_more (T : Facts K mg) : C8.Cal P w K mg base 1 "_law_more" sp_law_more [] := by
  refine calD T.f_law_more sc_law_more (fun vs H Q E h => ?_) (fun f cdv A outer s H vs Q E hr h => ?_)
  · obtain ⟨a, b, x, y, rfl, ha, hb, hxy, q⟩ := h; rfl
  · obtain ⟨a, b, x, y, rfl, ha, hb, hxy, q⟩ := h
    refine ⟨_, (pss_one (ps_ret (pe_or (pe_cmpR op_isN (pe_ix ix_tup (pv 0) pe_int (fun _ _ => rfl)) pe_non (nomark _)) (pe_or (pe_cmpR op_gt (pe_ix ix_tup (pv 0) pe_int (fun _ _ => rfl)) (pe_ix ix_tup (pv 1) pe_int (fun _ _ => rfl)) (nomark _)) (pe_one (pe_and (pe_cmpR op_eq (pe_ix ix_tup (pv 0) pe_int (fun _ _ => rfl)) (pe_ix ix_tup (pv 1) pe_int (fun _ _ => rfl)) (nomark _)) (pe_one (pe_cmpR op_le (pe_ix ix_tup (pv 0) pe_int (fun _ _ => rfl)) (pe_ix ix_tup (pv 1) pe_int (fun _ _ => rfl)) (nomark _))))))))), ?_⟩
    rw [st_law_more]
    wtm_at "unf"
    wtm_at "gx"
    cases x with
    | none =>
      refine ⟨true, rfl, ?_⟩
      rw [if_pos rfl]
      exact q
    | some p =>
      obtain ⟨p', rfl, hpp⟩ := hxy p rfl
      change H a = some (.tup [V.int p.1, V.int p.2]) at ha
      change H b = some (.tup [V.int p'.1, V.int p'.2]) at hb
      refine ⟨false, rfl, ?_⟩
      rw [if_neg Bool.false_ne_true]
      wtm_at "gx"
      refine g_test (fun _ => q) (fun h => ?_)
      have hpq : p'.1 = p.1 ∧ p.2 ≤ p'.2 := by
        rcases hpp with h1 | h1
        · omega
        · exact h1
      wtm_at "gx"
      rw [decide_eq_true (by have := hpq.2; omega)]
      exact q
def cD : MC → PyData
  | none => .none
  | some p => .int p.1
def nmD (x : MC) : PyData := .tuple [cD x, .int (cnt x)]
theorem dp_nm {K : PySem.W.Frag} {H : Hp} {t : Addr} {x : MC} (h : H t = some (.tup [cV x, .int (cnt x)])) : Dp K H (.ref t) (nmD x) := by
  refine .tup (st_of h) (.cons ?_ (.cons (.int _) .nil))
  cases x with
  | none => exact .non
  | some p => exact .int _
theorem dp_nms {K : PySem.W.Frag} {H : Hp} {F : Wd → MC} : ∀ {ts : List Addr} {Ws : List Wd}, Paired (fun t W => H t = some (.tup [cV (F W), .int (cnt (F W))])) ts Ws → DpAll K H (ts.map V.ref) (Ws.map fun W => nmD (F W))
  | _, _, .nil => .nil
  | _, _, .cons h r => .cons (dp_nm h) (dp_nms r)
theorem nms_shaped (F : Wd → MC) (Ws : List Wd) : SeqAt.shaped (.list (Ws.map fun W => nmD (F W))) = true := by
  have h1 : PyData.canLayAll0 (Ws.map fun W => nmD (F W)) = true ∧ PyData.depthAll (Ws.map fun W => nmD (F W)) ≤ 2 := by
    induction Ws with
    | nil => exact ⟨rfl, Nat.zero_le _⟩
    | cons W Ws ih =>
      have e1 : PyData.canLay0 (nmD (F W)) = true ∧ PyData.depth (nmD (F W)) ≤ 2 := by
        unfold nmD
        cases F W with
        | none => exact ⟨rfl, (by show 1 ≤ 2; decide)⟩
        | some p => exact ⟨rfl, (by show 1 ≤ 2; decide)⟩
      constructor
      · show (PyData.canLay0 (nmD (F W)) && PyData.canLayAll0 (Ws.map fun W => nmD (F W))) = true
        rw [e1.1, ih.1]; rfl
      · show max (PyData.depth (nmD (F W))) (PyData.depthAll (Ws.map fun W => nmD (F W))) ≤ 2
        omega
  unfold SeqAt.shaped
  rw [Bool.and_eq_true]
  refine ⟨h1.1, decide_eq_true ?_⟩
  show PyData.depthAll (Ws.map fun W => nmD (F W)) + 1 ≤ 64
  omega
/-! _law_right -/
def sp_law_right : Sp := fun vs H Q _ => ∃ (p : Addr) (P0 : Rw) (l : List Nat), vs = [.ref p, Tx l] ∧ H p = some P0.o ∧ l.length ≤ 100 ∧ (∀ c ∈ l, isSg c) ∧ ∀ (P1 : Rw) (H' : Hp), But p H H' → H' p = some P1.o → Q (.bl true) H'
theorem ok_law_right (T : Facts K mg) : C8.Cal P w K mg base 10 "_law_right" sp_law_right [] := by
  refine calD T.f_law_right sc_law_right (fun vs H Q E h => ?_) (fun f cdv A outer s H vs Q E hr h => ?_)
  · obtain ⟨p, P0, l, rfl, hp, hl, hs, q⟩ := h; rfl
  · obtain ⟨p, P0, l, rfl, hp, hl, hs, q⟩ := h
    refine ⟨_, (pss_cons (ps_set (i := 2) sc_law_right.nd rfl (Or.inl rfl) (pe_own (ok_law_numbers T) hr (by omega) rfl (pa_cons (pv 1) pa_nil)))
       (pss_cons (ps_asg (pv 2) (pg_lst rfl (pgs_cons (pg_name (i := 3) sc_law_right.nd rfl (Or.inl rfl)) (pgs_cons (pg_name (i := 4) sc_law_right.nd rfl (Or.inl rfl)) (pgs_cons (pg_name (i := 5) sc_law_right.nd rfl (Or.inl rfl)) (pgs_cons (pg_name (i := 6) sc_law_right.nd rfl (Or.inl rfl)) (pgs_cons (pg_name (i := 7) sc_law_right.nd rfl (Or.inl rfl)) (pgs_cons (pg_name (i := 8) sc_law_right.nd rfl (Or.inl rfl)) (pgs_cons (pg_name (i := 9) sc_law_right.nd rfl (Or.inl rfl)) pgs_nil)))))))))
       (pss_cons (ps_ifC (PW.pt (pw_or (pt_cmpR op_ne (pe_ix ix_tup (pv 3) pe_int (fun _ _ => rfl)) (pe_ix ix_tup (pv 4) pe_int (fun _ _ => rfl)) (nomark _)) (pw_or (pt_cmpR op_ne (pe_ix ix_tup (pv 3) pe_int (fun _ _ => rfl)) (pe_ix ix_tup (pv 6) pe_int (fun _ _ => rfl)) (nomark _)) (pw_or (pt_cmpR op_ne (pe_ix ix_tup (pv 7) pe_int (fun _ _ => rfl)) (pe_ix ix_tup (pv 8) pe_int (fun _ _ => rfl)) (nomark _)) (pw_or1 (pt_cmpR op_ne (pe_ix ix_tup (pv 7) pe_int (fun _ _ => rfl)) (pe_ix ix_tup (pv 9) pe_int (fun _ _ => rfl)) (nomark _)))))))
       (pss_one (ps_ret pe_bl))
       pss_nil)
       (pss_cons (ps_if (pt_not (pt_chain op_le op_le (pe_ix ix_tup (pv 9) pe_int (fun _ _ => rfl)) (pe_ix ix_tup (pv 3) pe_int (fun _ _ => rfl)) (pe_op op_mul pe_int (pe_ix ix_tup (pv 9) pe_int (fun _ _ => rfl)))))
       (pss_one (ps_ret pe_bl))
       pss_nil)
       (pss_cons (ps_setLc (i := 10) (own := [("sign", 11)]) (by rfl) sc_law_right.nd rfl rfl (sw_true rfl rfl rfl (by decide +kernel)) (pi_str (pv 1)) (blkOk_by (own := [("sign", 11)]) (N := N_law_right) (sc := defScope s_law_right) (by decide +kernel)) (fun _ _ _ _ _ => (pg_name (i := 11) sc_law_right.nd rfl (Or.inl rfl))) (fun _ _ _ _ _ => (pts_one (pt_cmpR op_inT (pv 11) (pe_strS (l := BRK) (by decide +kernel)) (by rfl)))) (fun _ _ _ _ _ => (pv 11)))
       (pss_cons (ps_ifC (PW.pt (pw_or (pt_cmpR op_ne (pe_cmpR op_isN (pe_ix ix_tup (pv 5) pe_int (fun _ _ => rfl)) pe_non (nomark _)) (pe_cmpR op_eq (pe_op op_mod (pe_callB call_lenL rfl T.b_len PySem.boot_len (pa_cons (pv 10) pa_nil)) pe_int) pe_int (nomark _)) (nomark _)) (pw_or1 (PW.pt (pw_and (pt_cmpR op_isN (pe_ix ix_tup (pv 5) pe_int (fun _ _ => rfl)) pe_non (nomark _)) (pw_and1 (pt_cmpR op_ne (pe_ix ix_tup (pv 5) pe_int (fun _ _ => rfl)) pe_int (nomark _))))))))
       (pss_one (ps_ret pe_bl))
       pss_nil)
       (pss_cons (ps_if (pt_cmpR (op_neD hr.units) (pe_lc (own := [("one", 12)]) (by rfl) sc_law_right.nd (pi_list (pv 2)) (blkOk_by (own := [("one", 12)]) (N := N_law_right) (sc := defScope s_law_right) (by decide +kernel)) (fun _ _ _ _ _ => (pg_name (i := 12) sc_law_right.nd rfl (Or.inl rfl))) (fun _ _ _ _ _ => (pts_one (PW.pt (pw_and (pt_cmpR op_notN (pe_ix (r := rIxT K) ix_tup (pv 12) pe_int (fun _ _ => rfl)) pe_non (nomark _)) (pw_and1 (pt_cmpR op_lt (pe_ix (r := rIxT K) ix_tup (pv 12) pe_int (fun _ _ => rfl)) pe_int (nomark _))))))) (fun _ _ _ _ _ => (pv 12))) (pe_lst pa_nil) (nomark _))
       (pss_one (ps_ret pe_bl))
       pss_nil)
       (pss_cons (ps_if (pt_not (pt_val (pe_callB (cr_all rfl) rfl T.b_all (by decide +kernel) (pa_cons (pe_lst (pa_cons (pe_own (ok_law_more T) hr (by omega) rfl (pa_cons (pv 3) (pa_cons (pv 6) pa_nil))) (pa_cons (pe_own (ok_law_more T) hr (by omega) rfl (pa_cons (pv 4) (pa_cons (pv 6) pa_nil))) (pa_cons (pe_own (ok_law_more T) hr (by omega) rfl (pa_cons (pv 5) (pa_cons (pv 7) pa_nil))) (pa_cons (pe_own (ok_law_more T) hr (by omega) rfl (pa_cons (pv 6) (pa_cons (pv 9) pa_nil))) pa_nil))))) pa_nil))))
       (pss_one (ps_ret pe_bl))
       pss_nil)
       (pss_cons (ps_if (pt_not (pt_val (pe_callB (cr_all rfl) rfl T.b_all (by decide +kernel) (pa_cons (pe_lst (pa_cons (pe_own (ok_law_more T) hr (by omega) rfl (pa_cons (pv 7) (pa_cons (pv 9) pa_nil))) (pa_cons (pe_own (ok_law_more T) hr (by omega) rfl (pa_cons (pv 8) (pa_cons (pv 9) pa_nil))) (pa_cons (pe_own (ok_law_more T) hr (by omega) rfl (pa_cons (pv 5) (pa_cons (pv 8) pa_nil))) (pa_cons (pe_own (ok_law_more T) hr (by omega) rfl (pa_cons (pv 3) (pa_cons (pv 7) pa_nil))) pa_nil))))) pa_nil))))
       (pss_one (ps_ret pe_bl))
       pss_nil)
       (pss_one (ps_ret (pe_and (pe_cmpR (op_eqD hr.units) (pe_own (ok_law_numbers T) hr (by omega) rfl (pa_cons (pe_own (ok_law_turned T) hr (by omega) rfl (pa_cons (pv 1) pa_nil)) pa_nil)) (pv 2) (nomark _)) (pe_one (pe_cmpR (op_eqD hr.units) (pe_own (ok_law_numbers T) hr (by omega) rfl (pa_cons (pe_own (ok_law_otherwise T) hr (by omega) rfl (pa_cons (pv 0) (pa_cons (pv 1) pa_nil))) pa_nil)) (pv 2) (nomark _))))))))))))))), ?_⟩
    rw [st_law_right]
    wtm_at "unf"
    wtm_at "gx"
    refine ⟨l, rfl, by omega, fun fa ts H1 nfa s1 efa hT => ?_⟩
    obtain ⟨c, e, a1, a2, a3, b1, b2, b3, m1, m2, m3, m4, m5, m6, hec, hce⟩ := mc_words l
    have hT0 := hT
    cases hT with
    | cons h1 hT =>
    cases hT with
    | cons h2 hT =>
    cases hT with
    | cons h3 hT =>
    cases hT with
    | cons h4 hT =>
    cases hT with
    | cons h5 hT =>
    cases hT with
    | cons h6 hT =>
    cases hT with
    | cons h7 hT =>
    cases hT
    rename_i t1 t2 t3 t4 t5 t6 t7
    have h1o := h1
    have h2o := h2
    have h4o := h4
    have h5o := h5
    have h6o := h6
    have h7o := h7
    rw [m1] at h1
    rw [m2] at h2
    rw [m3] at h4
    rw [m4] at h5
    rw [m5] at h6
    rw [m6] at h7
    change H1 t1 = some (.tup [V.int c, V.int a1]) at h1
    change H1 t2 = some (.tup [V.int c, V.int a2]) at h2
    change H1 t4 = some (.tup [V.int c, V.int a3]) at h4
    change H1 t5 = some (.tup [V.int e, V.int b1]) at h5
    change H1 t6 = some (.tup [V.int e, V.int b2]) at h6
    change H1 t7 = some (.tup [V.int e, V.int b3]) at h7
    wtm_at "unf"
    wtm_at "gx"
    refine ⟨fa, _, rfl, sq_of efa, rfl, _, _, rfl, _, _, rfl, _, _, rfl, _, _, rfl, _, _, rfl, _, _, rfl, _, _, rfl, rfl, ?_⟩
    refine g_ifC (b := false) (fun Q' q' => ?_) (fun h => by cases h) (fun _ => ?_)
    · wtm_at "unf"
      wtm_at "gx"
      exact q'
    wtm_at "unf"
    wtm_at "gx"
    refine ⟨_, rfl, lc_txt fun d H3 nd s3 ed => ⟨fun pre G => G d = some (.lst (sgV (brks pre))) ∧ Same H1 G, ⟨ed, s3⟩, fun pre x post G e' hv => ?_, fun G hv => ?_⟩⟩
    · obtain ⟨k1, k3⟩ := hv
      have hpl : (brks pre).length ≤ 100 := by
        have h9 : (brks pre).length ≤ pre.length := List.length_filter_le _ _
        have h8 := congrArg List.length e'
        simp at h8
        omega
      have hap : ∀ c, brks (pre ++ [c]) = brks pre ++ (if c ∈ BRK then [c] else []) := fun c => by
        unfold brks
        rw [List.filter_append]
        congr 1
        by_cases hc : c ∈ BRK
        · rw [if_pos hc, List.filter_cons_of_pos (by simpa using hc), List.filter_nil]
        · rw [if_neg hc, List.filter_cons_of_neg (by simpa using hc), List.filter_nil]
      wtm_at "unf"
      refine ⟨rfl, ?_⟩
      wtm_at "gx"
      refine g_test (fun h => ?_) (fun h => ?_)
      · wtm_at "gx"
        refine lc_put k1 (by rw [sgV_len]; omega) fun G5 b5 e5 => ⟨?_, Same.b0 b5 k3 nd⟩
        rw [e5, hap, if_pos h, sgV_snoc]
      · refine ⟨?_, k3⟩
        rw [hap, if_neg h, List.append_nil]
        exact k1
    obtain ⟨k1, k3⟩ := hv
    have hX3 := mc_turn l
    have hpos3 : ∀ p, mcN l wTrn 0 l.length = some p → p.2 ≠ 0 := fun p hp' => mc_pos hp'
    have hmo3 : ∀ (W' : Wd), W'.tn = true → ∀ p, mcN l wTrn 0 l.length = some p → ∃ p', mcN l W' 0 l.length = some p' ∧ (p'.1 < p.1 ∨ p'.1 = p.1 ∧ p.2 ≤ p'.2) := fun W' hW p hp' => mc_more (W := wTrn) (W' := W') ⟨fun h => (by cases h), fun h => (by cases h), fun _ => hW⟩ hp'
    have h3' : H1 t3 = some (.tup [cV (mcN l wTrn 0 l.length), .int (cnt (mcN l wTrn 0 l.length))]) := h3
    have h3G := k3 _ _ h3'
    have hsl := sgV_len (brks l)
    refine g_ifC (b := false) (fun Q' q' => ?_) (fun h => by cases h) (fun _ => ?_)
    · wtm_at "unf"
      wtm_at "gx"
      have ht : (!decide (V.bl (decide (cV (mcN l wTrn 0 l.length) = V.non)) = V.bl (decide (V.int (((sgV (brks l)).length : Int) % 2) = V.int 1)))) = false := by
        rw [hsl]
        cases hm : mcN l wTrn 0 l.length with
        | none =>
          have := hX3.mp hm
          rw [decide_eq_true (show cV none = V.non from rfl), decide_eq_true (show V.int (((brks l).length : Int) % 2) = V.int 1 from congrArg V.int (by omega))]
          simp
        | some p =>
          have : ¬ (brks l).length % 2 = 1 := fun h => by rw [hX3.mpr h] at hm; cases hm
          rw [decide_eq_false (show ¬ cV (some p) = V.non from fun h => by cases h), decide_eq_false (show ¬ V.int (((brks l).length : Int) % 2) = V.int 1 from fun h => this (by have := V.int.inj h; omega))]
          simp
      refine ⟨false, by rw [ht], ?_⟩
      rw [if_neg Bool.false_ne_true]
      cases hm : mcN l wTrn 0 l.length with
      | none =>
        rw [hm] at h3G
        change G t3 = some (.tup [V.non, V.int 0]) at h3G
        wtm_at "gx"
        exact q'
      | some p =>
        rw [hm] at h3G
        change G t3 = some (.tup [V.int p.1, V.int p.2]) at h3G
        wtm_at "gx"
        exact q'
    have hAll : ∀ t ∈ [t1, t2, t3, t4, t5, t6, t7], ∃ W, H1 t = some (.tup [cV (mcN l W 0 l.length), .int (cnt (mcN l W 0 l.length))]) := fun t ht => by
      simp only [List.mem_cons, List.not_mem_nil, or_false] at ht
      rcases ht with rfl | rfl | rfl | rfl | rfl | rfl | rfl
      · exact ⟨_, h1o⟩
      · exact ⟨_, h2o⟩
      · exact ⟨_, h3'⟩
      · exact ⟨_, h4o⟩
      · exact ⟨_, h5o⟩
      · exact ⟨_, h6o⟩
      · exact ⟨_, h7o⟩
    wtm_at "unf"
    wtm_at "gx"
    refine ⟨fa, rfl, ⟨_, sq_of (k3 _ _ efa)⟩, lc_lst ([t1, t2, t3, t4, t5, t6, t7].map V.ref) fun d2 H4 nd2 s4 ed2 => ⟨fun pre G' => G' d2 = some (.lst []) ∧ Same G G', ⟨ed2, s4⟩, fun pre post G' e' hv => ?_, fun pre x post G' e' hv => ?_, fun G' hv => ?_⟩⟩
    · exact sq_of (hv.2 _ _ (k3 _ _ efa))
    · obtain ⟨k21, k23⟩ := hv
      obtain ⟨t, ht, rfl⟩ : ∃ t, t ∈ [t1, t2, t3, t4, t5, t6, t7] ∧ V.ref t = x := List.mem_map.mp (by rw [e']; simp)
      obtain ⟨W, hW⟩ := hAll t ht
      have hWG := k23 _ _ (k3 _ _ hW)
      wtm_at "unf"
      refine ⟨rfl, ?_⟩
      cases hm : mcN l W 0 l.length with
      | none =>
        rw [hm] at hWG
        change G' t = some (.tup [V.non, V.int 0]) at hWG
        wtm_at "gx"
        exact ⟨k21, k23⟩
      | some p =>
        have hp2 := mc_pos hm
        rw [hm] at hWG
        change G' t = some (.tup [V.int p.1, V.int p.2]) at hWG
        wtm_at "gx"
        exact ⟨k21, k23⟩
    obtain ⟨k21, k23⟩ := hv
    wtm_at "gx"
    refine g_lst (by show 0 ≤ 100000; decide) fun en G1 nen g1 een => ?_
    refine g_neDp (d := .list []) (.lst (sq_of (g1 _ _ k21)) .nil) (.lst (sq_of een) .nil) (by decide +kernel) ?_
    wtm_at "unf"
    wtm_at "gx"
    have gA : Same H1 G1 := k3.trans (k23.trans g1)
    have mo : ∀ {W W' : Wd}, wLe W W' → ∀ p, mcN l W 0 l.length = some p → ∃ p', mcN l W' 0 l.length = some p' ∧ (p'.1 < p.1 ∨ p'.1 = p.1 ∧ p.2 ≤ p'.2) := fun h p hp' => mc_more h hp'
    refine ⟨t1, t4, _, _, rfl, gA _ _ h1o, gA _ _ h4o, mo (by unfold wLe; decide), ?_⟩
    wtm_at "gx"
    refine ⟨t2, t4, _, _, rfl, gA _ _ h2o, gA _ _ h4o, mo (by unfold wLe; decide), ?_⟩
    wtm_at "gx"
    refine ⟨t3, t5, _, _, rfl, gA _ _ h3, gA _ _ h5o, mo (by unfold wLe; decide), ?_⟩
    wtm_at "gx"
    refine ⟨t4, t7, _, _, rfl, gA _ _ h4o, gA _ _ h7o, mo (by unfold wLe; decide), ?_⟩
    refine g_lst (by show 4 ≤ 100000; decide) fun q1 G2 nq1 g2 eq1 => ?_
    refine ⟨q1, [true, true, true, true], rfl, sq_of eq1, ?_⟩
    refine ⟨true, rfl, ?_⟩
    rw [if_neg (by decide)]
    have gB := gA.trans g2
    wtm_at "gx"
    refine ⟨t5, t7, _, _, rfl, gB _ _ h5o, gB _ _ h7o, mo (by unfold wLe; decide), ?_⟩
    wtm_at "gx"
    refine ⟨t6, t7, _, _, rfl, gB _ _ h6o, gB _ _ h7o, mo (by unfold wLe; decide), ?_⟩
    wtm_at "gx"
    refine ⟨t3, t6, _, _, rfl, gB _ _ h3, gB _ _ h6o, mo (by unfold wLe; decide), ?_⟩
    wtm_at "gx"
    refine ⟨t1, t5, _, _, rfl, gB _ _ h1o, gB _ _ h5o, mo (by unfold wLe; decide), ?_⟩
    refine g_lst (by show 4 ≤ 100000; decide) fun q2 G3 nq2 g3 eq2 => ?_
    refine ⟨q2, [true, true, true, true], rfl, sq_of eq2, ?_⟩
    refine ⟨true, rfl, ?_⟩
    rw [if_neg (by decide)]
    have gC := gB.trans g3
    have sG3 : Same H G3 := s1.trans gC
    wtm_at "gx"
    refine ⟨l, rfl, hl, hs, fun G4 g4 => ?_⟩
    refine ⟨abt l, rfl, by rw [abt_len]; exact hl, fun fa2 ts2 G5 nfa2 g5 efa2 hT2 => ?_⟩
    simp only [mc_abt] at hT2
    have gD := gC.trans (g4.trans g5)
    have hp5 := (s1.trans gD) _ _ hp
    wtm_at "gx"
    refine g_eqDp (d := .list (WS.map fun W => nmD (mcN l W 0 l.length))) (.lst (sq_of efa2) (dp_nms (F := fun W => mcN l W 0 l.length) hT2)) (.lst (sq_of (gD _ _ efa)) (dp_nms (F := fun W => mcN l W 0 l.length) (pd_imp (fun t W h => gD _ _ h) hT0))) (nms_shaped _ _) ?_
    refine ⟨true, rfl, ?_⟩
    rw [if_pos rfl]
    wtm_at "gx"
    refine ⟨p, P0, l, rfl, hp5, hl, hs, fun f P1 G6 R b6 e6 => ?_⟩
    refine ⟨l.map f, rfl, by rw [List.length_map]; exact hl, fun fa3 ts3 G7 nfa3 g7 efa3 hT3 => ?_⟩
    simp only [mc_ren R] at hT3
    wtm_at "gx"
    have fap : fa ≠ p := Ne.symm (ne_new nfa hp)
    have tne : ∀ (t : Addr) (zs : List V), G5 t = some (.tup zs) → t ≠ p := fun t zs h q' => by
      subst q'
      have := h.symm.trans hp5
      cases this
    refine g_eqDp (d := .list (WS.map fun W => nmD (mcN l W 0 l.length))) (.lst (sq_of efa3) (dp_nms (F := fun W => mcN l W 0 l.length) hT3)) (.lst (sq_of (g7 _ _ (b6 _ _ fap (gD _ _ efa)))) (dp_nms (F := fun W => mcN l W 0 l.length) (pd_imp (fun t W h => g7 _ _ (b6 _ _ (tne t _ (gD _ _ h)) (gD _ _ h))) hT0))) (nms_shaped _ _) ?_
    exact q P1 G7 (But.tr (Same.toBut g7) (But.tr b6 (Same.toBut (s1.trans gD)))) (g7 _ _ e6)
/-! law -/
def spLaw (K : PySem.W.Frag) : Sp := fun vs H Q _ => ∃ (a : Addr) (ns : List Int), vs = [.ref a] ∧ SqL K H a (ns.map V.int) ∧ ns.length ≤ 63 ∧ ∀ H', Q (.bl true) H'
theorem ok_law {f : Addr} {fd : FuncData} (T : Facts K mg) (F : FunD K "law" "law" (defArgs s_law) (defBody s_law) (defScope s_law) [] [] f fd) : FnOk P w K mg base C8.CX0 11 f fd ["script"] (spLaw K) := by
  refine fnD F sc_law (fun vs H Q E h => ?_) (fun cdv A outer s H vs Q E hr h => ?_)
  · obtain ⟨a, ns, rfl, hS, hlen, q⟩ := h; rfl
  · obtain ⟨a, ns, rfl, hS, hlen, q⟩ := h
    refine ⟨_, (pss_cons (ps_for PassesOwn.never rfl (pi_list (pe_op op_cat (pe_lst (pa_cons pe_int pa_nil)) (pe_slice sl_list (pv 0) po_none (po_some pe_int)))) (pg_name (i := 1) sc_law.nd rfl (Or.inl rfl))
       (pss_cons (ps_set (i := 2) sc_law.nd rfl (Or.inl rfl) (pe_own (ok_law_stream T) hr (by omega) rfl (pa_cons (pv 1) pa_nil)))
       (pss_one (ps_if (pt_not (pt_val (pe_own (ok_law_right T) hr (by omega) rfl (pa_cons (pv 2) (pa_cons (pe_own (ok_law_text T) hr (by omega) rfl (pa_cons (pv 2) (pa_cons pe_int pa_nil))) pa_nil)))))
       (pss_one (ps_ret pe_bl))
       pss_nil))))
       (pss_one (ps_ret pe_bl))), ?_⟩
    rw [st_law]
    wtm_at "unf"
    wtm_at "gx"
    refine g_lst (by show 1 ≤ 100000; decide) fun c1 H1 n1 s1 e1 => ?_
    wtm_at "gx"
    refine g_slL (Same.seq s1 hS) fun c2 H2 n2 s2 e2 => ?_
    obtain ⟨ms, ems, hms⟩ := cut_ints ns none (some 3)
    rw [ems] at e2
    refine g_cat (s2 _ _ e1) e2 (by simp; omega) fun c3 H3 n3 s3 e3 => ?_
    obtain ⟨zs, ezs⟩ : ∃ zs : List Int, [V.int 0] ++ ms.map V.int = zs.map V.int := ⟨0 :: ms, rfl⟩
    rw [ezs] at e3
    refine ⟨c3, rfl, ⟨_, sq_of e3⟩, for_lst (zs.map V.int) (fun pre σ H' => ∃ y1 y2, σ = [some (V.ref a), y1, y2] ∧ Same H3 H') ⟨_, _, rfl, Same.refl _⟩ (fun pre post σ H' e hv => ?_) (fun pre x post σ H' e hv => ?_) (fun σ H' hv => ?_)⟩
    · obtain ⟨y1, y2, rfl, sH⟩ := hv
      exact sq_of (sH _ _ e3)
    · obtain ⟨y1, y2, rfl, sH⟩ := hv
      obtain ⟨z, rfl⟩ : ∃ z, x = V.int z := by
        have hm : x ∈ zs.map V.int := by rw [e]; simp
        obtain ⟨z, _, hz⟩ := List.mem_map.mp hm
        exact ⟨z, hz.symm⟩
      wtm_at "unf"
      wtm_at "gx"
      refine ⟨z, rfl, fun p P1 H5 np s5 e5 => ?_⟩
      have np3 : H3 p = none := sH.free np
      wtm_at "gx"
      refine ⟨p, P1, 10, rfl, e5, by decide, fun l P3 H8 hll hls b8 e8 => ?_⟩
      wtm_at "gx"
      refine ⟨p, P3, l, rfl, e8, by omega, hls, fun P4 H9 b9 e9 => ?_⟩
      wtm_at "unf"
      wtm_at "gx"
      exact ⟨_, _, rfl, Same.b0 (But.tr b9 b8) (sH.trans s5) np3⟩
    · obtain ⟨y1, y2, rfl, sH⟩ := hv
      wtm_at "unf"
      wtm_at "gx"
      exact q _
end
end K32

set_option maxHeartbeats 0
namespace K32
open PySem PySem.Spec PyProof.Rows L2 SX Ly
/-! ### the head -/
def d_wall : He.DefD := ⟨("_wall", none), "_wall", "_wall", defArgs s_wall, defBody s_wall, defScope s_wall, [], []⟩
def d_kind_of : He.DefD := ⟨("kind_of", none), "kind_of", "kind_of", defArgs s_kind_of, defBody s_kind_of, defScope s_kind_of, [], []⟩
def d_is_letter : He.DefD := ⟨("is_letter", none), "is_letter", "is_letter", defArgs s_is_letter, defBody s_is_letter, defScope s_is_letter, [], []⟩
def d_fewest_turns : He.DefD := ⟨("fewest_turns", none), "fewest_turns", "fewest_turns", defArgs s_fewest_turns, defBody s_fewest_turns, defScope s_fewest_turns, [], []⟩
def d_least_by : He.DefD := ⟨("least_by", none), "least_by", "least_by", defArgs s_least_by, defBody s_least_by, defScope s_least_by, [], []⟩
def d_many_by : He.DefD := ⟨("many_by", none), "many_by", "many_by", defArgs s_many_by, defBody s_many_by, defScope s_many_by, [], []⟩
def d_law_stream : He.DefD := ⟨("_law_stream", none), "_law_stream", "_law_stream", defArgs s_law_stream, defBody s_law_stream, defScope s_law_stream, [], []⟩
def d_law_take : He.DefD := ⟨("_law_take", none), "_law_take", "_law_take", defArgs s_law_take, defBody s_law_take, defScope s_law_take, [], []⟩
def d_law_bracket : He.DefD := ⟨("_law_bracket", none), "_law_bracket", "_law_bracket", defArgs s_law_bracket, defBody s_law_bracket, defScope s_law_bracket, [], []⟩
def d_law_clean : He.DefD := ⟨("_law_clean", none), "_law_clean", "_law_clean", defArgs s_law_clean, defBody s_law_clean, defScope s_law_clean, [], []⟩
def d_law_text : He.DefD := ⟨("_law_text", none), "_law_text", "_law_text", defArgs s_law_text, defBody s_law_text, defScope s_law_text, [], []⟩
def d_law_words : He.DefD := ⟨("_law_words", none), "_law_words", "_law_words", defArgs s_law_words, defBody s_law_words, defScope s_law_words, [], []⟩
def d_law_turned : He.DefD := ⟨("_law_turned", none), "_law_turned", "_law_turned", defArgs s_law_turned, defBody s_law_turned, defScope s_law_turned, [], []⟩
def d_law_otherwise : He.DefD := ⟨("_law_otherwise", none), "_law_otherwise", "_law_otherwise", defArgs s_law_otherwise, defBody s_law_otherwise, defScope s_law_otherwise, [], []⟩
def d_law_numbers : He.DefD := ⟨("_law_numbers", none), "_law_numbers", "_law_numbers", defArgs s_law_numbers, defBody s_law_numbers, defScope s_law_numbers, [], []⟩
def d_law_more : He.DefD := ⟨("_law_more", none), "_law_more", "_law_more", defArgs s_law_more, defBody s_law_more, defScope s_law_more, [], []⟩
def d_law_right : He.DefD := ⟨("_law_right", none), "_law_right", "_law_right", defArgs s_law_right, defBody s_law_right, defScope s_law_right, [], []⟩
def d_law : He.DefD := ⟨("law", none), "law", "law", defArgs s_law, defBody s_law, defScope s_law, [], []⟩
def d_Ways_init : He.DefD := ⟨("Ways", some "__init__"), "__init__", "Ways.__init__", defArgs s_Ways_init, defBody s_Ways_init, defScope s_Ways_init, [], []⟩
def d_Ways_cost : He.DefD := ⟨("Ways", some "cost"), "cost", "Ways.cost", defArgs s_Ways_cost, defBody s_Ways_cost, defScope s_Ways_cost, [], []⟩
def d_Ways_count : He.DefD := ⟨("Ways", some "count"), "count", "Ways.count", defArgs s_Ways_count, defBody s_Ways_count, defScope s_Ways_count, [], []⟩
def d_Ways_grow : He.DefD := ⟨("Ways", some "grow"), "grow", "Ways.grow", defArgs s_Ways_grow, defBody s_Ways_grow, defScope s_Ways_grow, [], []⟩
def d_Ways_reckoned : He.DefD := ⟨("Ways", some "reckoned"), "reckoned", "Ways.reckoned", defArgs s_Ways_reckoned, defBody s_Ways_reckoned, defScope s_Ways_reckoned, [], []⟩
def d_Ways_numbers : He.DefD := ⟨("Ways", some "numbers"), "numbers", "Ways.numbers", defArgs s_Ways_numbers, defBody s_Ways_numbers, defScope s_Ways_numbers, [], []⟩
def d_Ways_note : He.DefD := ⟨("Ways", some "note"), "note", "Ways.note", defArgs s_Ways_note, defBody s_Ways_note, defScope s_Ways_note, [], []⟩
def d_Ways_note_puts : He.DefD := ⟨("Ways", some "note_puts"), "note_puts", "Ways.note_puts", defArgs s_Ways_note_puts, defBody s_Ways_note_puts, defScope s_Ways_note_puts, [], []⟩
def fn : List He.DefD := [d_wall, d_kind_of, d_is_letter, d_fewest_turns, d_least_by, d_many_by, d_law_stream, d_law_take, d_law_bracket, d_law_clean, d_law_text, d_law_words, d_law_turned, d_law_otherwise, d_law_numbers, d_law_more, d_law_right, d_law, d_Ways_init, d_Ways_cost, d_Ways_count, d_Ways_grow, d_Ways_reckoned, d_Ways_numbers, d_Ways_note, d_Ways_note_puts]
def exL (K : PySem.W.Frag) : List Bool := []
def ex (K : PySem.W.Frag) : Bool := (exL K).all id
def fa : List He.Fa := [.glo "_wall", .glo "kind_of", .glo "is_letter", .glo "fewest_turns", .glo "least_by", .glo "many_by", .glo "_law_stream", .glo "_law_take", .glo "_law_bracket", .glo "_law_clean", .glo "_law_text", .glo "_law_words", .glo "_law_turned", .glo "_law_otherwise", .glo "_law_numbers", .glo "_law_more", .glo "_law_right", .glo "law", .str "OPENING" (S OPN), .str "CLOSING" (S CLO), .free "len", .free "int", .free "range", .free "min", .free "all", .glo "Ways", .cls "Ways", .noat "Ways" "signs", .noat "Ways" "words", .noat "Ways" "costs", .noat "Ways" "counts", .mkr "Ways", .meth "Ways" "cost", .meth "Ways" "count", .meth "Ways" "grow", .meth "Ways" "reckoned", .meth "Ways" "numbers", .meth "Ways" "note", .meth "Ways" "note_puts"]
abbrev R : PySem.W.OpenRow := PySem.W.OpenLaw.row PySem.Challenge.rw_nestmend_k32_whole_words_together
abbrev hk : PySem.W.Hook := hookE 4 fa fn ex
def ob (s : PySem.W.SharedT) : AlE := obsEG 4 fa fn ex (HandSHeadRun.getT s)
theorem ob_eq (s : PySem.W.SharedT) : ob s = hk.obs s.abs := obsEG_eq (HandSHeadRun.getT_eq s)
def loose : List Str := ["_wall", "OPENING", "CLOSING", "kind_of", "is_letter", "fewest_turns", "Ways", "least_by", "many_by", "_law_stream", "_law_take", "_law_bracket", "_law_clean", "_law_text", "_law_words", "_law_turned", "_law_otherwise", "_law_numbers", "_law_more", "_law_right"]
theorem run (w : World) : HandSHeadRun.RunEq R (PySem.W.view R.prog [24]) hk ob 6000 loose w := by
  intro os
  kernel_rfl
theorem facts {K : PySem.W.Frag} {h : Heap} {mg : Str → Option Value} (X : K.In h) (G : h.Ns mainGlobals mg) (c : He.SaysD fa fn K) (cx : ex K = true) : Facts K mg where
  f_wall := by
    obtain ⟨fd, F⟩ := c.def_ 0 (d := d_wall) rfl
    exact ⟨_, fd, F, He.glo_ok X G (c.fact 0 (f := .glo "_wall") rfl), FunD.bindsN F fun _ _ _ _ _ _ us hl => match us, hl with | [_], _ => rfl⟩
  f_kind_of := by
    obtain ⟨fd, F⟩ := c.def_ 1 (d := d_kind_of) rfl
    exact ⟨_, fd, F, He.glo_ok X G (c.fact 1 (f := .glo "kind_of") rfl), FunD.bindsN F fun _ _ _ _ _ _ us hl => match us, hl with | [_], _ => rfl⟩
  f_is_letter := by
    obtain ⟨fd, F⟩ := c.def_ 2 (d := d_is_letter) rfl
    exact ⟨_, fd, F, He.glo_ok X G (c.fact 2 (f := .glo "is_letter") rfl), FunD.bindsN F fun _ _ _ _ _ _ us hl => match us, hl with | [_], _ => rfl⟩
  f_fewest_turns := by
    obtain ⟨fd, F⟩ := c.def_ 3 (d := d_fewest_turns) rfl
    exact ⟨_, fd, F, He.glo_ok X G (c.fact 3 (f := .glo "fewest_turns") rfl), FunD.bindsN F fun _ _ _ _ _ _ us hl => match us, hl with | [_, _], _ => rfl⟩
  f_least_by := by
    obtain ⟨fd, F⟩ := c.def_ 4 (d := d_least_by) rfl
    exact ⟨_, fd, F, He.glo_ok X G (c.fact 4 (f := .glo "least_by") rfl), FunD.bindsN F fun _ _ _ _ _ _ us hl => match us, hl with | [_, _], _ => rfl⟩
  f_many_by := by
    obtain ⟨fd, F⟩ := c.def_ 5 (d := d_many_by) rfl
    exact ⟨_, fd, F, He.glo_ok X G (c.fact 5 (f := .glo "many_by") rfl), FunD.bindsN F fun _ _ _ _ _ _ us hl => match us, hl with | [_, _], _ => rfl⟩
  f_law_stream := by
    obtain ⟨fd, F⟩ := c.def_ 6 (d := d_law_stream) rfl
    exact ⟨_, fd, F, He.glo_ok X G (c.fact 6 (f := .glo "_law_stream") rfl), FunD.bindsN F fun _ _ _ _ _ _ us hl => match us, hl with | [_], _ => rfl⟩
  f_law_take := by
    obtain ⟨fd, F⟩ := c.def_ 7 (d := d_law_take) rfl
    exact ⟨_, fd, F, He.glo_ok X G (c.fact 7 (f := .glo "_law_take") rfl), FunD.bindsN F fun _ _ _ _ _ _ us hl => match us, hl with | [_, _], _ => rfl⟩
  f_law_bracket := by
    obtain ⟨fd, F⟩ := c.def_ 8 (d := d_law_bracket) rfl
    exact ⟨_, fd, F, He.glo_ok X G (c.fact 8 (f := .glo "_law_bracket") rfl), FunD.bindsN F fun _ _ _ _ _ _ us hl => match us, hl with | [_, _], _ => rfl⟩
  f_law_clean := by
    obtain ⟨fd, F⟩ := c.def_ 9 (d := d_law_clean) rfl
    exact ⟨_, fd, F, He.glo_ok X G (c.fact 9 (f := .glo "_law_clean") rfl), FunD.bindsN F fun _ _ _ _ _ _ us hl => match us, hl with | [_, _, _], _ => rfl⟩
  f_law_text := by
    obtain ⟨fd, F⟩ := c.def_ 10 (d := d_law_text) rfl
    exact ⟨_, fd, F, He.glo_ok X G (c.fact 10 (f := .glo "_law_text") rfl), FunD.bindsN F fun _ _ _ _ _ _ us hl => match us, hl with | [_, _], _ => rfl⟩
  f_law_words := by
    obtain ⟨fd, F⟩ := c.def_ 11 (d := d_law_words) rfl
    exact ⟨_, fd, F, He.glo_ok X G (c.fact 11 (f := .glo "_law_words") rfl), FunD.bindsN F fun _ _ _ _ _ _ us hl => match us, hl with | [], _ => rfl⟩
  f_law_turned := by
    obtain ⟨fd, F⟩ := c.def_ 12 (d := d_law_turned) rfl
    exact ⟨_, fd, F, He.glo_ok X G (c.fact 12 (f := .glo "_law_turned") rfl), FunD.bindsN F fun _ _ _ _ _ _ us hl => match us, hl with | [_], _ => rfl⟩
  f_law_otherwise := by
    obtain ⟨fd, F⟩ := c.def_ 13 (d := d_law_otherwise) rfl
    exact ⟨_, fd, F, He.glo_ok X G (c.fact 13 (f := .glo "_law_otherwise") rfl), FunD.bindsN F fun _ _ _ _ _ _ us hl => match us, hl with | [_, _], _ => rfl⟩
  f_law_numbers := by
    obtain ⟨fd, F⟩ := c.def_ 14 (d := d_law_numbers) rfl
    exact ⟨_, fd, F, He.glo_ok X G (c.fact 14 (f := .glo "_law_numbers") rfl), FunD.bindsN F fun _ _ _ _ _ _ us hl => match us, hl with | [_], _ => rfl⟩
  f_law_more := by
    obtain ⟨fd, F⟩ := c.def_ 15 (d := d_law_more) rfl
    exact ⟨_, fd, F, He.glo_ok X G (c.fact 15 (f := .glo "_law_more") rfl), FunD.bindsN F fun _ _ _ _ _ _ us hl => match us, hl with | [_, _], _ => rfl⟩
  f_law_right := by
    obtain ⟨fd, F⟩ := c.def_ 16 (d := d_law_right) rfl
    exact ⟨_, fd, F, He.glo_ok X G (c.fact 16 (f := .glo "_law_right") rfl), FunD.bindsN F fun _ _ _ _ _ _ us hl => match us, hl with | [_, _], _ => rfl⟩
  c_OPENING := by
    obtain ⟨t, e⟩ := He.str_ok X G (c.fact 18 (f := .str "OPENING" (S OPN)) rfl)
    exact ⟨_, e, ⟨t, rfl⟩⟩
  c_CLOSING := by
    obtain ⟨t, e⟩ := He.str_ok X G (c.fact 19 (f := .str "CLOSING" (S CLO)) rfl)
    exact ⟨_, e, ⟨t, rfl⟩⟩
  b_len := He.free_ok X G (c.fact 20 (f := .free "len") rfl)
  b_int := He.free_ok X G (c.fact 21 (f := .free "int") rfl)
  b_range := He.free_ok X G (c.fact 22 (f := .free "range") rfl)
  b_min := He.free_ok X G (c.fact 23 (f := .free "min") rfl)
  b_all := He.free_ok X G (c.fact 24 (f := .free "all") rfl)
  cl_Ways := He.cls_ok (c.fact 26 (f := .cls "Ways") rfl)
  n_Ways_signs := He.noat_ok (c.fact 27 (f := .noat "Ways" "signs") rfl)
  n_Ways_words := He.noat_ok (c.fact 28 (f := .noat "Ways" "words") rfl)
  n_Ways_costs := He.noat_ok (c.fact 29 (f := .noat "Ways" "costs") rfl)
  n_Ways_counts := He.noat_ok (c.fact 30 (f := .noat "Ways" "counts") rfl)
  k_Ways_init := by
    obtain ⟨fd, F⟩ := c.def_ 18 (d := d_Ways_init) rfl
    exact ⟨fd, F, He.mkr_ok (c.fact 31 (f := .mkr "Ways") rfl), He.glo_ok X G (c.fact 25 (f := .glo "Ways") rfl), FunD.bindsN F fun _ _ _ _ _ _ us hl => match us, hl with | [_, _, _], _ => rfl⟩
  m_Ways_cost := by
    obtain ⟨fd, F⟩ := c.def_ 19 (d := d_Ways_cost) rfl
    exact ⟨fd, F, He.cls_ok (c.fact 26 (f := .cls "Ways") rfl), He.meth_ok (c.fact 32 (f := .meth "Ways" "cost") rfl), FunD.bindsN F fun _ _ _ _ _ _ us hl => match us, hl with | [_, _, _], _ => rfl⟩
  m_Ways_count := by
    obtain ⟨fd, F⟩ := c.def_ 20 (d := d_Ways_count) rfl
    exact ⟨fd, F, He.cls_ok (c.fact 26 (f := .cls "Ways") rfl), He.meth_ok (c.fact 33 (f := .meth "Ways" "count") rfl), FunD.bindsN F fun _ _ _ _ _ _ us hl => match us, hl with | [_, _, _], _ => rfl⟩
  m_Ways_grow := by
    obtain ⟨fd, F⟩ := c.def_ 21 (d := d_Ways_grow) rfl
    exact ⟨fd, F, He.cls_ok (c.fact 26 (f := .cls "Ways") rfl), He.meth_ok (c.fact 34 (f := .meth "Ways" "grow") rfl), FunD.bindsN F fun _ _ _ _ _ _ us hl => match us, hl with | [_, _], _ => rfl⟩
  m_Ways_reckoned := by
    obtain ⟨fd, F⟩ := c.def_ 22 (d := d_Ways_reckoned) rfl
    exact ⟨fd, F, He.cls_ok (c.fact 26 (f := .cls "Ways") rfl), He.meth_ok (c.fact 35 (f := .meth "Ways" "reckoned") rfl), FunD.bindsN F fun _ _ _ _ _ _ us hl => match us, hl with | [_, _, _], _ => rfl⟩
  m_Ways_numbers := by
    obtain ⟨fd, F⟩ := c.def_ 23 (d := d_Ways_numbers) rfl
    exact ⟨fd, F, He.cls_ok (c.fact 26 (f := .cls "Ways") rfl), He.meth_ok (c.fact 36 (f := .meth "Ways" "numbers") rfl), FunD.bindsN F fun _ _ _ _ _ _ us hl => match us, hl with | [_, _, _], _ => rfl⟩
  m_Ways_note := by
    obtain ⟨fd, F⟩ := c.def_ 24 (d := d_Ways_note) rfl
    exact ⟨fd, F, He.cls_ok (c.fact 26 (f := .cls "Ways") rfl), He.meth_ok (c.fact 37 (f := .meth "Ways" "note") rfl), FunD.bindsN F fun _ _ _ _ _ _ us hl => match us, hl with | [_, _, _, _, _, _, _], _ => rfl⟩
  m_Ways_note_puts := by
    obtain ⟨fd, F⟩ := c.def_ 25 (d := d_Ways_note_puts) rfl
    exact ⟨fd, F, He.cls_ok (c.fact 26 (f := .cls "Ways") rfl), He.meth_ok (c.fact 38 (f := .meth "Ways" "note_puts") rfl), FunD.bindsN F fun _ _ _ _ _ _ us hl => match us, hl with | [_, _, _, _], _ => rfl⟩
theorem law_at {K : PySem.W.Frag} {h : Heap} {mg : Str → Option Value} {f : Addr} (X : K.In h) (G : h.Ns mainGlobals mg) (hfa : mg ("law" : Str) = some (.ref f)) (c : He.SaysD fa fn K) :
    ∃ fd : FuncData, (∀ (s : Shared) (v : Value), BindsTo s fd ⟨[v], []⟩ [("script", v)]) ∧ FunD K "law" "law" (defArgs s_law) (defBody s_law) (defScope s_law) [] [] f fd := by
  obtain ⟨fd, F⟩ := c.def_ 17 (d := d_law) rfl
  have e := hfa.symm.trans (He.glo_ok X G (c.fact 17 (f := .glo "law") rfl))
  cases e
  have b := FunD.bindsA (ps := ["script"]) F fun _ _ _ _ _ _ us hl => match us, hl with | [_], _ => rfl
  exact ⟨fd, fun s v => b s [v] rfl, F⟩

end K32
open PySem PySem.W PySem.Calls PyProof.Rows
theorem PySem.Challenge.cw_nestmend_k32_whole_words_together_holds : PySem.Challenge.rw_nestmend_k32_whole_words_together.Holds := by
  w_on; o_law
  refine HandSHeadRun.head_any (r := OpenLaw.row PySem.Challenge.rw_nestmend_k32_whole_words_together) (q := view (OpenLaw.row PySem.Challenge.rw_nestmend_k32_whole_words_together).prog [24]) (H := K32.hk) (ob := K32.ob) (M := 6000) (loose := K32.loose) (d := HandSHeadRun.topDef (OpenLaw.row PySem.Challenge.rw_nestmend_k32_whole_words_together).prog 24) (kwd := []) K32.ob_eq
    (by kernel_rfl) (fun s => by kernel_rfl) K32.run (by kernel_rfl) (by kernel_rfl) (by kernel_rfl) (by rfl) (by first | assumption | decide +kernel) (by decide +kernel) ⟨rfl, rfl, rfl, rfl, rfl, by decide +kernel⟩ ?hw ?hc
  case hw => w_witness2
  case hc =>
    refine L2.walk_ofE (l := PySem.Challenge.rw_nestmend_k32_whole_words_together) (n := 63) (k := 11) (x := "script") (CX := C8.CX0) rfl (by decide) (by kernel_rfl) ⟨rfl, by decide, by decide⟩ ?F (fun _ _ _ _ z => z)
    intro w mg fa h Y G hmg0
    obtain ⟨K, KX, c, cx⟩ := Y
    have hmg : mg ("law" : PySem.Str) = some (.ref fa) := by
      have e : (HandSHeadRun.topDef (OpenLaw.row PySem.Challenge.rw_nestmend_k32_whole_words_together).prog 24).name = ("law" : PySem.Str) := by kernel_rfl
      rw [← e]
      exact hmg0
    obtain ⟨fd, hb, F⟩ := K32.law_at KX G hmg c
    exact ⟨K, fd, K32.spLaw K, KX, hb, fun H a ns hl _ hS => ⟨a, ns, rfl, hS, hl, fun _ => rfl⟩, fun base _ _ => K32.ok_law (K32.facts KX G c cx) F⟩
