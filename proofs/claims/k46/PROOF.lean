import PyProof.Rows.All
import Wide.All
import OpenK.AllK
import Wide.FinOn
import HandS.ForMost
import HandS.Codes
import HandS.Style
import HandS.Walk
import HandS.IsInst
import HandS.Wide
import HandS.Defaults
import HandS.Flow
import HandS.Replace
import KE.GoesMore
import KE.GoesZip
import KE.GoesEnum
import PyProof.ListStr
import PyProof.StrBlock2
import HandS.Conv
import HandS.ReplaceLit
import HandS.ReplaceList
import HandS.SortInts
import PyProof.Rows.SortShellAny
import PyProof.Rows.StrRev
import PyProof.Rows.SeqMore
import HandS.HeadHook1
import HandS.HeadHook2
import HandS.More
import HandS.ExcOwn
import HandS.ExcIs
import HandS.TryOnly
import HandS.WordsExc
import HandS.HeadEnd
import HandS.TupSets
import HandS.Deep
import KE.LtData
import HandS.Zip
import KE.KDictPairs
import HandS.SetFor
import HandS.Strs
import PyProof.Rows.StrFirst
import HandS.Dict
import HandS.List
import PyProof.ReprRoads
import PyProof.StrLawsRepr
import PyProof.ReprLen
import HandS.DeepEq
import HandS.StrMore
import KE.KIntText
import KE.IntTextLaws
import PySem.Challenge.RW_nestmend_k46_deeds_written
import HandS.Head0
import HandS.Head1
import HandS.Head2
set_option Elab.async false
set_option linter.all false
set_option maxRecDepth 100000
set_option maxHeartbeats 4000000
namespace Ly
open PySem PySem.Spec PyProof.Rows L2 SX

/-- a text by its codes -/
abbrev Tx (l : List Nat) : V := V.str (S l)
theorem Tx_inj {a b : List Nat} : Tx a = Tx b ↔ a = b := ⟨fun h => S_inj (V.str.inj h), fun h => by rw [h]⟩
def OPN : List Nat := [40, 60, 91, 123]
def CLO : List Nat := [41, 62, 93, 125]
def BRK : List Nat := [40, 41, 60, 62, 91, 93, 123, 125]
def LET : List Nat := [97, 98, 99, 100, 101, 102, 103, 104, 105, 106, 107, 108, 109, 110, 111, 112, 113, 114, 115, 116, 117, 118, 119, 120, 121, 122]

/-! ### rules -/
section
variable {X : Cx} {k j : Nat} {x : Str} {sp : Sp} {p pos : Pos} {e : Expr} {es : List Expr} {t : TA} {ta tb : TE}
def tOwn (sp : Sp) (t : TA) : TE := fun σ H Q => t σ H fun vs H1 => sp vs H1 Q C8.E0
theorem pe_own (c : C8.Cal X.prog X.w X.K X.mg X.base k x sp []) (hr : Room j X.A) (hk : k ≤ j) (hg : Gl X x) (ha : PA X (e :: es) t)
    (hdb : (x == ("__debug__" : Str)) = false := by decide) (he : starEach (e :: es) X.env = (false, eval e X.env) :: starEach es X.env := by rfl) (hpl : (backTo pos (starEach es X.env)).any (·.1) = false := by rfl) :
    PE X (.Call (.Name x p) (e :: es) [] pos) (tOwn sp t) := by
  have h := C8.pe_c (p := p) c hr hk hg ha hdb he hpl
  have e : tCall sp [] C8.E0 t = tOwn sp t := by
    funext σ H Q
    show (t σ H fun vs H1 => sp (vs ++ []) H1 Q C8.E0) = _
    simp only [List.append_nil]
    rfl
  rw [← e]
  exact h
theorem pe_strS {z : Str} {jj : Nat} {l : List Nat} (h : z = S l) : PE X (.Constant (.str z) jj pos) (tC (Tx l)) := by
  subst h
  exact pe_str
/-- operators by names -/
def rAddT : R2 := fun x y H Q => ∃ a b : List Nat, x = Tx a ∧ y = Tx b ∧ a.length + b.length ≤ 100000 ∧ Q (Tx (a ++ b)) H
theorem op_addT : OpR X (binaryOp .Add) rAddT := fun pins s σ H x y v u Q I rx ry h => by
  obtain ⟨a, b, rfl, rfl, hl, q⟩ := h
  refine op_add_str pins s σ H _ _ v u Q I rx ry ⟨_, _, rfl, rfl, ?_, ?_⟩
  · rw [S_len, S_len]
    exact Nat.le_trans hl (by decide)
  · rw [S_cat]
    exact q
theorem iop_addT : PIp X .Add rAddT := fun pins s σ H x y v u Q I rx ry h => by
  obtain ⟨a, b, rfl, rfl, hl, q⟩ := h
  refine iop_add_str pins s σ H _ _ v u Q I rx ry ⟨_, _, rfl, rfl, ?_, ?_⟩
  · rw [S_len, S_len]
    exact Nat.le_trans hl (by decide)
  · rw [S_cat]
    exact q
def rInT (neg : Bool) : R2 := fun x y H Q => ∃ (c : Nat) (l : List Nat), x = Tx [c] ∧ y = Tx l ∧ Q (.bl (if neg then !decide (c ∈ l) else decide (c ∈ l))) H
theorem op_inT : OpR X (compareOp .In) (rInT false) := fun pins s σ H x y v u Q I rx ry h => by
  obtain ⟨c, l, rfl, rfl, q⟩ := h
  exact op_in_sign pins s σ H _ _ v u Q I rx ry ⟨c, S l, rfl, rfl, q⟩
theorem op_notInT : OpR X (compareOp .NotIn) (rInT true) := fun pins s σ H x y v u Q I rx ry h => by
  obtain ⟨c, l, rfl, rfl, q⟩ := h
  exact op_notIn_sign pins s σ H _ _ v u Q I rx ry ⟨c, S l, rfl, rfl, q⟩
def rIxT1 : R2 := fun x y H Q => ∃ (l : List Nat) (i : Int) (c : Nat), x = Tx l ∧ y = .int i ∧ l.length ≤ 100000 ∧ atI l i = some c ∧ Q (Tx [c]) H
theorem ix_txt : IxR X rIxT1 := fun value slice pins s σ H x y v u Q I rx ry h hs => by
  obtain ⟨l, i, c, rfl, rfl, hl, h1, q⟩ := h
  refine ix_str value slice pins s σ H _ _ v u Q I rx ry ⟨S l, i, c, rfl, rfl, ?_, h1, q⟩ hs
  rw [S_len]
  exact Nat.le_trans hl (by decide)
def rLenT : List V → Hp → VK → Prop := fun xs H Q => ∃ l : List Nat, xs = [Tx l] ∧ l.length ≤ 100000 ∧ Q (.int l.length) H
theorem call_lenT : CallR X (.builtin "len") rLenT := fun pins s σ H xs us Q I r h => by
  obtain ⟨l, rfl, hl, q⟩ := h
  refine call_len_str pins s σ H _ us Q I r ⟨S l, rfl, ?_, ?_⟩
  · rw [S_len]
    exact Nat.le_trans hl (by decide)
  · rw [S_len]
    exact q
def rIntB : List V → Hp → VK → Prop := fun xs H Q => ∃ b : Bool, xs = [.bl b] ∧ Q (.int (if b then 1 else 0)) H
theorem call_intB : CallR X (.type "int") rIntB := fun pins s σ H xs us Q I r h => by
  obtain ⟨b, rfl, q⟩ := h
  exact call_int1 pins s σ H _ us Q I r (.inr ⟨b, rfl, q⟩)
def rLenL (K : PySem.W.Frag) : List V → Hp → VK → Prop := fun xs H Q => ∃ p ys, xs = [.ref p] ∧ (SqL K H p ys ∨ SqT K H p ys) ∧ Q (.int ys.length) H
theorem call_lenL : CallR X (.builtin "len") (rLenL X.K) := call_len_seq
def rFindT : V → List V → Hp → VK → Prop := fun x xs H Q => ∃ a b : List Nat, x = Tx a ∧ xs = [Tx b] ∧ Q (.int (Txt.find (S a) (S b))) H
theorem mt_findT : MtR X "str.find" rFindT := fun pins s σ H x xs v us Q I rx rs h => by
  obtain ⟨a, b, h1, h2, q⟩ := h
  exact mt_find pins s σ H x xs v us Q I rx rs ⟨S a, S b, h1, h2, q⟩
def rIdxT : V → List V → Hp → VK → Prop := fun x xs H Q => ∃ (a b : List Nat) (i : Nat), x = Tx a ∧ xs = [Tx b] ∧ Txt.find (S a) (S b) = (i : Int) ∧ Q (.int i) H
theorem mt_idxT : MtR X "str.index" rIdxT := fun pins s σ H x xs v us Q I rx rs h => by
  obtain ⟨a, b, i, h1, h2, h3, q⟩ := h
  unfold Txt.find at h3
  cases ho : Builtin.Str.occurrences (S a) (S b) 0 (S a).length 1 with
  | nil =>
    rw [ho] at h3
    exact absurd h3 (by show ¬ ((-1 : Int) = (i : Int)); omega)
  | cons j r =>
    rw [ho] at h3
    have e : (j : Int) = (i : Int) := h3
    have e2 : j = i := by omega
    subst e2
    exact mt_sindex pins s σ H x xs v us Q I rx rs ⟨S a, S b, j, r, h1, h2, ho, q⟩
def rSlTx : V → Option Int → Option Int → Hp → VK → Prop := fun x lo hi H Q => ∃ l : List Nat, x = Tx l ∧ l.length ≤ 100000 ∧ Q (.str (Txt.slice (S l) lo hi)) H
theorem sl_tx : SlR X rSlTx := by
  intro pins s σ H x v vl vu lo hi sl Q I rx hs pl pu h
  obtain ⟨l, hx, hz, q⟩ := h
  refine C8.sl_txt pins s σ H x v vl vu lo hi sl Q I rx hs pl pu ⟨S l, hx, ?_, q⟩
  rw [S_len]
  exact Nat.le_trans hz (by decide)
end

/-! ### heaps -/
def But (p : Addr) (H H' : Hp) : Prop := ∀ b o, b ≠ p → H b = some o → H' b = some o
section
variable {H H' H1 H2 : Hp} {a b p : Addr} {o u : HO}
theorem upd_old (h : H a = some o) (n : a ≠ p) : upd H p u a = some o := by
  rw [upd_ne n]
  exact h
theorem Same.new (h : H p = none) : Same H (upd H p u) := fun b x e => by
  rw [upd_ne (ne_of_none e h)]
  exact e
theorem Same.mut (s : Same H H') (h : H p = none) : Same H (upd H' p u) := fun b x e => by
  rw [upd_ne (ne_of_none e h)]
  exact s b x e
theorem But.refl : But p H H := fun _ _ _ h => h
theorem But.set : But p H (upd H p u) := fun b x n e => by
  rw [upd_ne n]
  exact e
theorem But.trans (x : But p H H1) (y : But p H1 H2) : But p H H2 := fun b o n h => y b o n (x b o n h)
theorem But.same (x : But p H H1) (y : Same H1 H2) : But p H H2 := fun b o n h => y b o (x b o n h)
theorem Same.but (x : Same H H1) (y : But p H1 H2) : But p H H2 := fun b o n h => y b o n (x b o h)
theorem Same.toBut (x : Same H H1) : But p H H1 := fun b o _ h => x b o h
/-- p is new since H -/
theorem Same.but0 (x : Same H H1) (y : But p H1 H2) (n : H p = none) : Same H H2 := fun b o h => y b o (ne_of_none h n) (x b o h)
theorem But.mut (x : But p H H1) (n : H a = none) : But p H (upd H1 a u) := fun b o m h => by
  rw [upd_ne (ne_of_none h n)]
  exact x b o m h
theorem But.mutP (x : But p H H1) : But p H (upd H1 p u) := fun b o m h => by
  rw [upd_ne m]
  exact x b o m h
theorem But.free (x : But p H H1) (n : a ≠ p) (h : H1 a = none) : H a = none := by
  cases q : H a with
  | none => rfl
  | some o =>
    rw [x a o n q] at h
    cases h
theorem But.but0 {q : Addr} (x : But p H H1) (y : But q H1 H2) (n : H q = none) : But p H H2 := fun b o m h => y b o (ne_of_none h n) (x b o m h)
theorem Same.get (s : Same H H1) (h : H a = some o) : H1 a = some o := s a o h
theorem But.get (s : But p H H1) (n : a ≠ p) (h : H a = some o) : H1 a = some o := s a o n h
theorem ne_new (n : H b = none) (h : H a = some o) : a ≠ b := ne_of_none h n
theorem ne_kind (h : H a = some o) (h' : H b = some u) (n : o ≠ u) : a ≠ b := ne_of h h' n
theorem Same.fr (n : H1 a = none) (x : Same H H1) : H a = none := x.free n
theorem But.fr (n : H1 a = none) (x : But p H H1) (m : a ≠ p) : H a = none := x.free m n
theorem Same.tr (y : Same H1 H2) (x : Same H H1) : Same H H2 := x.trans y
theorem Same.b0 (y : But p H1 H2) (x : Same H H1) (n : H p = none) : Same H H2 := Same.but0 x y n
theorem But.sa (y : Same H1 H2) (x : But p H H1) : But p H H2 := But.same x y
theorem But.tr (y : But p H1 H2) (x : But p H H1) : But p H H2 := x.trans y
theorem But.b0 {q : Addr} (y : But q H1 H2) (x : But p H H1) (n : H q = none) : But p H H2 := But.but0 x y n
theorem upd_free (h : upd H p u a = none) : H a = none := by
  by_cases e : a = p
  · rw [e, upd_same] at h
    cases h
  · rw [upd_ne e] at h
    exact h
theorem sq_of {K : PySem.W.Frag} {xs : List V} (h : H a = some (.lst xs)) : SqL K H a xs := .inl (.inl h)
theorem st_of {K : PySem.W.Frag} {xs : List V} (h : H a = some (.tup xs)) : SqT K H a xs := .inl (.inl h)
theorem But.sq {K : PySem.W.Frag} {xs : List V} (x : But p H H1) (n : a ≠ p) (h : SqL K H a xs) : SqL K H1 a xs := by
  rcases h with (h | ⟨o, h⟩) | h
  · exact .inl (.inl (x _ _ n h))
  · exact .inl (.inr ⟨o, x _ _ n h⟩)
  · exact .inr h
end

/-! ### readings, step by step -/
theorem cx_K {CX : CXT} {P : Program} {w : World} {K : PySem.W.Frag} {mg : Str → Option Value} {base : Heap} {N : List Str} {q : Str} {sc : Scope} {f : Addr} {cd : Value} {A : Around} {outer : List Env} {s : Shared} {H : Hp} {E : XK} : (cxOf CX P w K mg base N q sc f cd A outer s H E).K = K := rfl
section
variable {K : PySem.W.Frag} {σ : L2.St} {H : Hp} {Q : VK} {R : Hp → Prop} {i j : Int} {n : Nat} {v : V} {a p : Addr} {l m : List Nat} {xs ys : List V}
theorem g_var (h : σ[n]? = some (some v)) (q : Q v H) : tVar n σ H Q := ⟨v, h, q⟩
theorem g_I0 {g : Int → Int → V} (q : Q (g i j) H) : rI0 g (.int i) (.int j) H Q := ⟨i, j, rfl, rfl, q⟩
theorem g_I {C : Int → Int → Prop} {g : Int → Int → V} (c : C i j) (q : Q (g i j) H) : rI C g (.int i) (.int j) H Q := ⟨i, j, rfl, rfl, c, q⟩
theorem g_U {g : Int → V} (q : Q (g i) H) : rU g (.int i) H Q := ⟨i, rfl, q⟩
theorem g_ipI {g : Int → Int → Int} (q : Q (.int (g i j)) H) : ipI g (.int i) (.int j) H Q := ⟨i, j, rfl, rfl, q⟩
theorem g_addT (h : l.length + m.length ≤ 100000) (q : Q (Tx (l ++ m)) H) : rAddT (Tx l) (Tx m) H Q := ⟨l, m, rfl, rfl, h, q⟩
theorem g_inT {c : Nat} (q : Q (.bl (decide (c ∈ l))) H) : rInT false (Tx [c]) (Tx l) H Q := ⟨c, l, rfl, rfl, q⟩
theorem g_ninT {c : Nat} (q : Q (.bl (!decide (c ∈ l))) H) : rInT true (Tx [c]) (Tx l) H Q := ⟨c, l, rfl, rfl, q⟩
theorem g_ixT {c : Nat} (h : l.length ≤ 100000) (h1 : atI l i = some c) (q : Q (Tx [c]) H) : rIxT1 (Tx l) (.int i) H Q := ⟨l, i, c, rfl, rfl, h, h1, q⟩
theorem g_ixL (h : SqL K H p xs) (h1 : atI xs i = some v) (q : Q v H) : rIxL K (.ref p) (.int i) H Q := ⟨p, xs, i, v, rfl, rfl, h, h1, q⟩
theorem g_ixU (h : SqT K H p xs) (h1 : atI xs i = some v) (q : Q v H) : rIxT K (.ref p) (.int i) H Q := ⟨p, xs, i, v, rfl, rfl, h, h1, q⟩
theorem g_lenT (h : l.length ≤ 100000) (q : Q (.int l.length) H) : rLenT [Tx l] H Q := ⟨l, rfl, h, q⟩
theorem g_lenL (h : SqL K H p xs) (q : Q (.int xs.length) H) : rLenL K [.ref p] H Q := ⟨p, xs, rfl, .inl h, q⟩
theorem g_lenU (h : SqT K H p xs) (q : Q (.int xs.length) H) : rLenL K [.ref p] H Q := ⟨p, xs, rfl, .inr h, q⟩
theorem g_findT (q : Q (.int (Txt.find (S l) (S m))) H) : (∃ z, Tx l = .str z) ∧ rFindT (Tx l) [Tx m] H Q := ⟨⟨_, rfl⟩, l, m, rfl, rfl, q⟩
theorem g_findT1 (q : Q (.int (Txt.find (S l) (S m))) H) : rFindT (Tx l) [Tx m] H Q := ⟨l, m, rfl, rfl, q⟩
theorem g_idxT1 {k : Nat} (h : Txt.find (S l) (S m) = (k : Int)) (q : Q (.int k) H) : rIdxT (Tx l) [Tx m] H Q := ⟨l, m, k, rfl, rfl, h, q⟩
theorem g_str {A : Prop} (q : A) : (∃ z, Tx l = .str z) ∧ A := ⟨⟨_, rfl⟩, q⟩
theorem g_intB {b : Bool} (q : Q (.int (if b then 1 else 0)) H) : rIntB [.bl b] H Q := ⟨b, rfl, q⟩
theorem g_eq {x y : V} (h : scal x y = true) (q : Q (.bl (decide (x = y))) H) : rEq x y H Q := ⟨h, q⟩
theorem g_ne {x y : V} (h : scal x y = true) (q : Q (.bl (!decide (x = y))) H) : rNe x y H Q := ⟨h, q⟩
theorem g_tyL (h : SqL K H p xs) : tyV K "list" (.ref p) H := .inl ⟨rfl, _, h⟩
/-! new objects, changed ones -/
def rLstN (xs : List V) (H : Hp) (Q : VK) : Prop := xs.length ≤ sizeLine ∧ ∀ p, H p = none → Q (.ref p) (upd H p (.lst xs))
def rTupN (xs : List V) (H : Hp) (Q : VK) : Prop := xs.length ≤ sizeLine ∧ ∀ p, H p = none → Q (.ref p) (upd H p (.tup xs))
def rRevN (K : PySem.W.Frag) (x : V) (H : Hp) (Q : VK) : Prop := ∃ a xs, x = .ref a ∧ SqL K H a xs ∧ ∀ p, H p = none → Q (.ref p) (upd H p (.lst xs.reverse))
theorem tLst_eq {t : TA} : tLst t σ H Q = t σ H fun xs H1 => rLstN xs H1 Q := rfl
theorem tTup_eq {t : TA} : tTup t σ H Q = t σ H fun xs H1 => rTupN xs H1 Q := rfl
theorem tRevL_eq {t : TE} : tRevL K t σ H Q = t σ H fun x H1 => rRevN K x H1 Q := rfl
def rPart (x : V) (H : Hp) (Q : Option Int → Hp → Prop) : Prop := ∃ i, x = .int i ∧ Q (some i) H
theorem tPart_eq {t : TE} {Q : Option Int → Hp → Prop} : tPart t σ H Q = t σ H fun x H1 => rPart x H1 Q := rfl
theorem g_part {Q : Option Int → Hp → Prop} (q : Q (some i) H) : rPart (.int i) H Q := ⟨i, rfl, q⟩
theorem g_lst (h : xs.length ≤ 100000) (q : ∀ p H1, H p = none → Same H H1 → H1 p = some (.lst xs) → Q (.ref p) H1) : rLstN xs H Q :=
  ⟨Nat.le_trans h (by decide), fun p np => q p _ np (Same.new np) upd_same⟩
theorem g_tup (h : xs.length ≤ 100000) (q : ∀ p H1, H p = none → Same H H1 → H1 p = some (.tup xs) → Q (.ref p) H1) : rTupN xs H Q :=
  ⟨Nat.le_trans h (by decide), fun p np => q p _ np (Same.new np) upd_same⟩
theorem g_new {o : HO} (q : ∀ p H1, H p = none → Same H H1 → H1 p = some o → Q (.ref p) H1) : ∀ p, H p = none → Q (.ref p) (upd H p o) := fun p np => q p _ np (Same.new np) upd_same
theorem g_setL (h : H p = some (.lst xs)) (h1 : ixN xs.length i = some n) (q : ∀ H1, But p H H1 → H1 p = some (.lst (xs.set n v)) → R H1) : rSetL (.ref p) (.int i) v H R := ⟨p, xs, i, n, rfl, rfl, h, h1, q _ But.set upd_same⟩
theorem g_append (h : H p = some (.lst xs)) (hl : xs.length < 100000) (q : ∀ H1, But p H H1 → H1 p = some (.lst (xs ++ [v])) → Q .non H1) : tyV K "list" (.ref p) H ∧ rAppend (.ref p) [v] H Q :=
  ⟨g_tyL (sq_of h), p, xs, v, rfl, rfl, h, Nat.lt_of_lt_of_le hl (by decide), q _ But.set upd_same⟩
theorem g_append1 (h : H p = some (.lst xs)) (hl : xs.length < 100000) (q : ∀ H1, But p H H1 → H1 p = some (.lst (xs ++ [v])) → Q .non H1) : rAppend (.ref p) [v] H Q :=
  ⟨p, xs, v, rfl, rfl, h, Nat.lt_of_lt_of_le hl (by decide), q _ But.set upd_same⟩
theorem g_pop (h : H p = some (.lst (xs ++ [v]))) (q : ∀ H1, But p H H1 → H1 p = some (.lst xs) → Q v H1) : tyV K "list" (.ref p) H ∧ rPop (.ref p) [] H Q := by
  refine ⟨g_tyL (sq_of h), p, xs ++ [v], v, rfl, rfl, h, ?_, ?_⟩
  · simp
  · rw [List.dropLast_concat]
    exact q _ But.set upd_same
theorem g_slL {lo hi : Option Int} (h : SqL K H p xs) (q : ∀ p H1, H p = none → Same H H1 → H1 p = some (.lst (cutV xs lo hi)) → Q (.ref p) H1) : rSlL K (.ref p) lo hi H Q := ⟨p, xs, rfl, h, g_new q⟩
theorem g_revL (h : SqL K H p xs) (q : ∀ p H1, H p = none → Same H H1 → H1 p = some (.lst xs.reverse) → Q (.ref p) H1) : rRevN K (.ref p) H Q := ⟨p, xs, rfl, h, g_new q⟩
theorem g_cat (h : H a = some (.lst xs)) (h2 : H p = some (.lst ys)) (hl : xs.length + ys.length ≤ 100000) (q : ∀ p H1, H p = none → Same H H1 → H1 p = some (.lst (xs ++ ys)) → Q (.ref p) H1) : rCat (.ref a) (.ref p) H Q := ⟨a, p, xs, ys, rfl, rfl, h, h2, Nat.le_trans hl (by decide), g_new q⟩
theorem g_slTo (h : l.length ≤ 100000) (hi : 0 ≤ i) (q : Q (Tx (l.take i.toNat)) H) : rSlTx (Tx l) none (some i) H Q := ⟨l, rfl, h, by rw [slice_to hi]; exact q⟩
theorem g_slFrom (h : l.length ≤ 100000) (hi : 0 ≤ i) (q : Q (Tx (l.drop i.toNat)) H) : rSlTx (Tx l) (some i) none H Q := ⟨l, rfl, h, by rw [slice_from hi]; exact q⟩
/-! tests -/
theorem g_test {c : Prop} [Decidable c] {A B : Prop} (h1 : c → A) (h2 : ¬ c → B) : ∃ k, V.bl (decide c) = V.bl k ∧ if k = true then A else B := by
  refine ⟨_, rfl, ?_⟩
  by_cases h : c
  · rw [decide_eq_true h, if_pos rfl]
    exact h1 h
  · rw [decide_eq_false h, if_neg Bool.false_ne_true]
    exact h2 h
theorem g_testN {c : Prop} [Decidable c] {A B : Prop} (h1 : ¬ c → A) (h2 : c → B) : ∃ k, V.bl (!decide c) = V.bl k ∧ if k = true then A else B := by
  refine ⟨_, rfl, ?_⟩
  by_cases h : c
  · rw [decide_eq_true h]
    exact h2 h
  · rw [decide_eq_false h]
    exact h1 h
theorem g_testB {b : Bool} {A B : Prop} (h1 : b = true → A) (h2 : b = false → B) : ∃ k, V.bl b = V.bl k ∧ if k = true then A else B := by
  refine ⟨_, rfl, ?_⟩
  cases b with
  | true => exact h1 rfl
  | false => exact h2 rfl
theorem g_testS {b : Bool} {R : Bool → Hp → Prop} (q : R b H) : ∃ k, V.bl b = V.bl k ∧ R k H := ⟨_, rfl, q⟩
end

/-! ### loops -/
def ForR (J : It) (g : TG) (tb : TS) (D : Ends) (σ : L2.St) (H : Hp) : Prop := ∃ W : Nat → Nat → L2.St → Hp → Prop, (∃ m, W 0 m σ H) ∧ ∀ i m σ H, W i m σ H →
  (J.stop i H ∧ D.nx σ H) ∨ (J.go i H ∧ ∃ N : L2.St → Hp → Prop, (∀ σ' H', N σ' H' → ∃ m', m' < m ∧ W (i + 1) m' σ' H') ∧ ∀ x H', J.yld i H x H' → g x σ H' fun σ2 H2 => tb { D with nx := N, ct := N, bk := D.nx } σ2 H2)
theorem tFor_eq {wi : TI} {g : TG} {tb : TS} {D : Ends} {σ : L2.St} {H : Hp} : tFor wi g tb D σ H = wi σ H fun J H1 => ForR J g tb D σ H1 := rfl
def LcR (J : It) (g : TG) (tt : TT) (te : TE) (vs : List Nat) (σ : L2.St) (H1 : Hp) (Q : VK) : Prop := ∀ D, H1 D = none → ∃ W : Nat → Nat → Hp → Prop, (∃ m, W 0 m (upd H1 D (.lst []))) ∧ ∀ i m H, W i m H →
  (J.stop i H ∧ Q (.ref D) H) ∨ (J.go i H ∧ ∃ Nx : Hp → Prop, (∀ H', Nx H' → ∃ m', m' < m ∧ W (i + 1) m' H') ∧ ∀ x H', J.yld i H x H' → g x (wipe σ vs) H' fun σ2 H2 => wipe σ2 vs = wipe σ vs ∧ tt σ2 H2 fun b H3 =>
    if b = true then te σ2 H3 fun y H4 => ∃ acc, H4 D = some (.lst acc) ∧ acc.length < sizeLine ∧ Nx (upd H4 D (.lst (acc ++ [y]))) else Nx H3)
theorem tLc_eq {wi : TI} {g : TG} {tt : TT} {te : TE} {vs : List Nat} {σ : L2.St} {H : Hp} {Q : VK} : tLc wi g tt te vs σ H Q = wi σ H fun J H1 => LcR J g tt te vs σ H1 Q := rfl
section
variable {K : PySem.W.Frag} {σ : L2.St} {H : Hp} {g : TG} {tb : TS} {D : Ends} {l : List Nat} {xs : List V} {a : Addr} {tt : TT} {te : TE} {vs : List Nat} {Q : VK} {n : Nat} {lo : Int}
/-- for c in text, by what is gone through -/
theorem for_txt (Pv : List Nat → L2.St → Hp → Prop) (h0 : Pv [] σ H)
    (hs : ∀ pre c post σ H, l = pre ++ c :: post → Pv pre σ H → g (Tx [c]) σ H fun σ2 H2 => tb { D with nx := Pv (pre ++ [c]), ct := Pv (pre ++ [c]), bk := D.nx } σ2 H2) (hd : ∀ σ H, Pv l σ H → D.nx σ H) : ForR (Its (S l)) g tb D σ H := by
  refine ⟨fun i m σ H => m = l.length - i ∧ i ≤ l.length ∧ Pv (l.take i) σ H, ⟨l.length, by simp, Nat.zero_le _, by simpa using h0⟩, ?_⟩
  rintro i m σ H ⟨rfl, hi, p⟩
  have sz : (S l).cps.size = l.length := by simp
  by_cases hlt : i < l.length
  · have e : l.take (i + 1) = l.take i ++ [l[i]] := by rw [List.take_succ_eq_append_getElem hlt]
    have e2 : l = l.take i ++ l[i] :: l.drop (i + 1) := by rw [← List.drop_eq_getElem_cons hlt, List.take_append_drop]
    refine .inr ⟨by show i < (S l).cps.size; rw [sz]; exact hlt, Pv (l.take (i + 1)), fun σ' H' p' => ⟨l.length - (i + 1), by omega, rfl, hlt, p'⟩, fun x H' y => ?_⟩
    obtain ⟨e1, c, hc, rfl⟩ := y
    subst e1
    have ec : c = l[i] := by
      have : (S l).cps[i]? = some l[i] := by simp [hlt]
      rw [this] at hc
      exact (Option.some.inj hc).symm
    subst ec
    rw [e]
    exact hs (l.take i) l[i] (l.drop (i + 1)) σ _ e2 p
  · have e : i = l.length := by omega
    subst e
    rw [List.take_length] at p
    exact .inl ⟨by show (S l).cps.size ≤ l.length; rw [sz]; exact Nat.le_refl _, hd σ H p⟩
theorem cut_at {α : Type} {xs : List α} {i : Nat} {x : α} (hx : xs[i]? = some x) : xs.take (i + 1) = xs.take i ++ [x] ∧ xs = xs.take i ++ x :: xs.drop (i + 1) := by
  obtain ⟨hlt, ex⟩ := List.getElem?_eq_some_iff.mp hx
  subst ex
  exact ⟨by rw [List.take_succ_eq_append_getElem hlt], by rw [← List.drop_eq_getElem_cons hlt, List.take_append_drop]⟩
/-- for x in list, by what is gone through; the list stays -/
theorem for_lst (xs : List V) (Pv : List V → L2.St → Hp → Prop) (h0 : Pv [] σ H) (hl : ∀ pre post σ H, xs = pre ++ post → Pv pre σ H → SqL K H a xs)
    (hs : ∀ pre x post σ H, xs = pre ++ x :: post → Pv pre σ H → g x σ H fun σ2 H2 => tb { D with nx := Pv (pre ++ [x]), ct := Pv (pre ++ [x]), bk := D.nx } σ2 H2) (hd : ∀ σ H, Pv xs σ H → D.nx σ H) : ForR (Itl K a) g tb D σ H := by
  refine for_list (xs := xs) (fun i σ H => Pv (xs.take i) σ H) (by simpa using h0) (fun i σ H _ p => hl _ (xs.drop i) σ H (List.take_append_drop i xs).symm p) (fun i x σ H hx p => ?_) (fun σ H p => hd σ H (by simpa using p))
  obtain ⟨e, e2⟩ := cut_at hx
  have z := hs (xs.take i) x (xs.drop (i + 1)) σ H e2 p
  rw [← e] at z
  exact z
/-- for i, x in enumerate(list), by what is gone through -/
theorem for_enum (xs : List V) (Pv : List V → L2.St → Hp → Prop) (h0 : Pv [] σ H) (hl : ∀ pre post σ H, xs = pre ++ post → Pv pre σ H → SqL K H a xs)
    (hs : ∀ pre x post σ H t H1, xs = pre ++ x :: post → Pv pre σ H → H t = none → Same H H1 → H1 t = some (.tup [.int pre.length, x]) → g (.ref t) σ H1 fun σ2 H2 => tb { D with nx := Pv (pre ++ [x]), ct := Pv (pre ++ [x]), bk := D.nx } σ2 H2) (hd : ∀ σ H, Pv xs σ H → D.nx σ H) : ForR (Ite K a) g tb D σ H := by
  refine for_it (walk_enum (xs := xs)) (fun i σ H => Pv (xs.take i) σ H) (by simpa using h0) (fun i σ H _ p => hl _ (xs.drop i) σ H (List.take_append_drop i xs).symm p) (fun i v σ H H' hi p y => ?_) (fun σ H p => hd σ H (by simpa using p))
  obtain ⟨t, x1, x2, rfl, nt, rfl, e1, e2⟩ := y
  cases e1
  obtain ⟨e, e3⟩ := cut_at e2
  have z := hs (xs.take i) x2 (xs.drop (i + 1)) σ H t _ e3 p nt (Same.new nt) (by
    rw [upd_same, List.length_take, Nat.min_eq_left (Nat.le_of_lt hi)])
  rw [← e] at z
  exact z
/-- for i in range -/
theorem for_rng (Pv : Nat → L2.St → Hp → Prop) (h0 : Pv 0 σ H)
    (hs : ∀ i σ H, i < n → Pv i σ H → g (.int (lo + i)) σ H fun σ2 H2 => tb { D with nx := Pv (i + 1), ct := Pv (i + 1), bk := D.nx } σ2 H2) (hd : ∀ σ H, Pv n σ H → D.nx σ H) : ForR (Itr lo n) g tb D σ H := for_range Pv h0 hs hd
/-- what a comprehension's turn is to reach: y put behind the new list at d -/
def LcPut (d : Addr) (R : Hp → Prop) (y : V) (H : Hp) : Prop := ∃ acc, H d = some (.lst acc) ∧ acc.length < sizeLine ∧ R (upd H d (.lst (acc ++ [y])))
theorem lc_put {d : Addr} {R : Hp → Prop} {y : V} {acc : List V} (h : H d = some (.lst acc)) (hl : acc.length < 100000) (q : ∀ H5, But d H H5 → H5 d = some (.lst (acc ++ [y])) → R H5) : LcPut d R y H := ⟨acc, h, Nat.lt_of_lt_of_le hl (by decide), q _ But.set upd_same⟩
theorem lc_w {J : It} {G : Hp → Prop} {Y : Nat → Hp → V → Hp → Prop} (w : Walk J n G Y)
    (h : ∀ d H1, H d = none → Same H H1 → H1 d = some (.lst []) → ∃ Pv : Nat → Hp → Prop, Pv 0 H1 ∧ (∀ i H, i ≤ n → Pv i H → G H) ∧
      (∀ i x H H', i < n → Pv i H → Y i H x H' → g x (wipe σ vs) H' fun σ2 H2 => wipe σ2 vs = wipe σ vs ∧ tt σ2 H2 fun b H3 => if b = true then te σ2 H3 fun y H4 => LcPut d (Pv (i + 1)) y H4 else Pv (i + 1) H3) ∧ ∀ H, Pv n H → Q (.ref d) H) : LcR J g tt te vs σ H Q := by
  intro d nd
  obtain ⟨Pv, h0, hG, hs, hd⟩ := h d _ nd (Same.new nd) upd_same
  exact lc_it w Pv h0 hG hs hd
theorem lc_rng (h : ∀ d H1, H d = none → Same H H1 → H1 d = some (.lst []) → ∃ Pv : Nat → Hp → Prop, Pv 0 H1 ∧
      (∀ (i : Nat) H, i < n → Pv i H → g (.int (lo + i)) (wipe σ vs) H fun σ2 H2 => wipe σ2 vs = wipe σ vs ∧ tt σ2 H2 fun b H3 => if b = true then te σ2 H3 fun y H4 => LcPut d (Pv (i + 1)) y H4 else Pv (i + 1) H3) ∧ ∀ H, Pv n H → Q (.ref d) H) : LcR (Itr lo n) g tt te vs σ H Q := by
  refine lc_w walk_range fun d H1 nd s e => ?_
  obtain ⟨Pv, h0, hs, hd⟩ := h d H1 nd s e
  refine ⟨Pv, h0, fun _ _ _ _ => trivial, fun i x H H' hi p y => ?_, hd⟩
  obtain ⟨rfl, rfl⟩ := y
  exact hs i _ hi p
theorem lc_txt (h : ∀ d H1, H d = none → Same H H1 → H1 d = some (.lst []) → ∃ Pv : List Nat → Hp → Prop, Pv [] H1 ∧
      (∀ pre c post H, l = pre ++ c :: post → Pv pre H → g (Tx [c]) (wipe σ vs) H fun σ2 H2 => wipe σ2 vs = wipe σ vs ∧ tt σ2 H2 fun b H3 => if b = true then te σ2 H3 fun y H4 => LcPut d (Pv (pre ++ [c])) y H4 else Pv (pre ++ [c]) H3) ∧ ∀ H, Pv l H → Q (.ref d) H) : LcR (Its (S l)) g tt te vs σ H Q := by
  refine lc_w walk_str fun d H1 nd s e => ?_
  obtain ⟨Pv, h0, hs, hd⟩ := h d H1 nd s e
  have sz : (S l).cps.size = l.length := by simp
  refine ⟨fun i => Pv (l.take i), by simpa using h0, fun _ _ _ _ => trivial, fun i x H H' hi p y => ?_, fun H p => hd H (by rw [sz, List.take_length] at p; exact p)⟩
  obtain ⟨rfl, c, hc, rfl⟩ := y
  have hc2 : l[i]? = some c := by simpa using hc
  obtain ⟨e1, e2⟩ := cut_at hc2
  have z := hs (l.take i) c (l.drop (i + 1)) _ e2 p
  rw [← e1] at z
  exact z
theorem lc_lst (xs : List V) (h : ∀ d H1, H d = none → Same H H1 → H1 d = some (.lst []) → ∃ Pv : List V → Hp → Prop, Pv [] H1 ∧ (∀ pre post H, xs = pre ++ post → Pv pre H → SqL K H a xs) ∧
      (∀ pre x post H, xs = pre ++ x :: post → Pv pre H → g x (wipe σ vs) H fun σ2 H2 => wipe σ2 vs = wipe σ vs ∧ tt σ2 H2 fun b H3 => if b = true then te σ2 H3 fun y H4 => LcPut d (Pv (pre ++ [x])) y H4 else Pv (pre ++ [x]) H3) ∧ ∀ H, Pv xs H → Q (.ref d) H) : LcR (Itl K a) g tt te vs σ H Q := by
  refine lc_w (walk_list (xs := xs)) fun d H1 nd s e => ?_
  obtain ⟨Pv, h0, hl, hs, hd⟩ := h d H1 nd s e
  refine ⟨fun i => Pv (xs.take i), by simpa using h0, fun i H _ p => hl _ (xs.drop i) H (List.take_append_drop i xs).symm p, fun i x H H' hi p y => ?_, fun H p => hd H (by simpa using p)⟩
  obtain ⟨rfl, hc⟩ := y
  obtain ⟨e1, e2⟩ := cut_at hc
  have z := hs (xs.take i) x (xs.drop (i + 1)) _ e2 p
  rw [← e1] at z
  exact z
end

/-! ### a def of the text -/
def DefAt (K : PySem.W.Frag) (mg : Str → Option Value) (x : Str) (st : Stmt) (ps : List Str) : Prop := ∃ (f : Addr) (fd : FuncData), FunD K x x (defArgs st) (defBody st) (defScope st) [] [] f fd ∧ mg x = some (.ref f) ∧ Binds K fd ps []
section
variable {P : Program} {w : World} {K : PySem.W.Frag} {mg : Str → Option Value} {base : Heap}
theorem fnD {x : Str} {st : Stmt} {f : Addr} {fd : FuncData} {N ps : List Str} {k : Nat} {sp : Sp} (F : FunD K x x (defArgs st) (defBody st) (defScope st) [] [] f fd) (S : FnScope N ps (defScope st)) (len : ∀ vs H Q E, sp vs H Q E → vs.length = ps.length)
    (hbody : ∀ (cdv : Value) (A : Around) (outer : List Env) (s : Shared) (H : Hp) (vs : List V) (Q : VK) (E : XK), Room k (A.deeper (envOfC x (defScope st) s.heap.objs.size f cdv)) → sp vs H Q E →
      ∃ t, PSs (cxOf C8.CX0 P w K mg base N x (defScope st) f cdv A outer s H E).nox (defBody st) t ∧ t { nx := fun _ H' => Q .non H', rt := Q } (start N vs) H) : FnOk P w K mg base C8.CX0 (k + 1) f fd ps sp := by
  refine F.ok S len fun cdv A outer s H vs Q E hr hsp => ?_
  obtain ⟨t, h, q⟩ := hbody cdv A outer s H vs Q E hr hsp
  exact ⟨t, h.nox, q⟩
theorem calD {x : Str} {st : Stmt} {N ps : List Str} {k : Nat} {sp : Sp} (D : DefAt K mg x st ps) (S : FnScope N ps (defScope st)) (len : ∀ vs H Q E, sp vs H Q E → vs.length = ps.length)
    (hbody : ∀ (f : Addr) (cdv : Value) (A : Around) (outer : List Env) (s : Shared) (H : Hp) (vs : List V) (Q : VK) (E : XK), Room k (A.deeper (envOfC x (defScope st) s.heap.objs.size f cdv)) → sp vs H Q E →
      ∃ t, PSs (cxOf C8.CX0 P w K mg base N x (defScope st) f cdv A outer s H E).nox (defBody st) t ∧ t { nx := fun _ H' => Q .non H', rt := Q } (start N vs) H) : C8.Cal P w K mg base (k + 1) x sp [] := by
  obtain ⟨f, fd, F, hm, b⟩ := D
  exact ⟨f, fd, ps, [], fnD F S len (hbody f), hm, F.kp, b, .nil⟩
end
end Ly

set_option maxHeartbeats 4000000
namespace Ly
open PySem SX
/-! ### signs -/
def isSg (c : Nat) : Prop := c ∈ LET ∨ c ∈ BRK
/-- the number of a bracket's kind -/
def knd (c : Nat) : Nat := if c ∈ OPN then OPN.idxOf c else CLO.idxOf c
/-- the other bracket of a bracket's kind -/
def oth (c : Nat) : Nat := if c ∈ OPN then CLO.getD (OPN.idxOf c) 0 else OPN.getD (CLO.idxOf c) 0
theorem find_opn : ∀ c ∈ OPN, Txt.find (S OPN) (S [c]) = (knd c : Int) := by decide +kernel
theorem find_clo : ∀ c ∈ CLO, Txt.find (S CLO) (S [c]) = (knd c : Int) := by decide +kernel
theorem brk_or {c : Nat} : c ∈ BRK ↔ c ∈ OPN ∨ c ∈ CLO := by
  unfold BRK OPN CLO
  simp
  omega
theorem knd_lt : ∀ c ∈ BRK, knd c < 4 := by decide
theorem at_clo : ∀ c ∈ OPN, CLO[knd c]? = some (oth c) := by decide
theorem at_opn : ∀ c ∈ CLO, OPN[knd c]? = some (oth c) := by decide
theorem oth_clo : ∀ c ∈ OPN, oth c ∈ CLO := by decide
theorem oth_opn : ∀ c ∈ CLO, oth c ∈ OPN := by decide
theorem oth_brk : ∀ c ∈ BRK, oth c ∈ BRK := by decide
theorem oth_oth : ∀ c ∈ BRK, oth (oth c) = c := by decide
theorem opn_clo : ∀ c ∈ OPN, c ∉ CLO := by decide
theorem atI_of {α : Type} {l : List α} {k : Nat} {c : α} (h : l[k]? = some c) : L2.atI l (k : Int) = some c := L2.atI_nat h

/-! ### clean texts, by a pile of awaited closing brackets -/
def stp (s : Option (List Nat)) (c : Nat) : Option (List Nat) := match s with
  | none => none
  | some st => if c ∈ OPN then some (oth c :: st) else if c ∈ CLO then (match st with
    | d :: r => if d = c then some r else none
    | [] => none) else some st
def run (l : List Nat) : Option (List Nat) := l.foldl stp (some [])
def clean (l : List Nat) : Prop := run l = some []
instance (l : List Nat) : Decidable (clean l) := inferInstanceAs (Decidable (run l = some []))
theorem run_app (a b : List Nat) : run (a ++ b) = b.foldl stp (run a) := by
  unfold run
  rw [List.foldl_append]
theorem run_snoc (a : List Nat) (c : Nat) : run (a ++ [c]) = stp (run a) c := by
  rw [run_app]
  rfl
theorem stp_let {s : Option (List Nat)} {c : Nat} (h1 : c ∉ OPN) (h2 : c ∉ CLO) : stp s c = s := by
  cases s with
  | none => rfl
  | some st => unfold stp; simp only [h1, h2, if_false]
theorem stp_opn {st : List Nat} {c : Nat} (h1 : c ∈ OPN) : stp (some st) c = some (oth c :: st) := by
  unfold stp
  simp only [h1, if_true]
theorem stp_clo {st : List Nat} {c : Nat} (h2 : c ∈ CLO) : stp (some (c :: st)) c = some st := by
  have h1 : c ∉ OPN := fun h => opn_clo c h h2
  unfold stp
  simp only [h1, h2, if_true, if_false]
theorem let_opn : ∀ c ∈ LET, c ∉ OPN := by decide
theorem let_clo : ∀ c ∈ LET, c ∉ CLO := by decide
theorem sg_lt {c : Nat} (h : isSg c) : c < 1114112 := by
  have a : ∀ c ∈ LET, c < 1114112 := by decide
  have b : ∀ c ∈ BRK, c < 1114112 := by decide
  exact h.elim (a c) (b c)
/-- what is waited for, closed -/
theorem fold_clo : ∀ st : List Nat, (∀ c ∈ st, c ∈ CLO) → st.foldl stp (some st) = some []
  | [], _ => rfl
  | c :: st, h => by
    rw [List.foldl_cons, stp_clo (h c (List.mem_cons_self ..))]
    exact fold_clo st fun d hd => h d (List.mem_cons_of_mem _ hd)
theorem opn_at {z : Nat} (h : z < 4) : ∃ c, OPN[z]? = some c ∧ CLO[z]? = some (oth c) ∧ c ∈ OPN ∧ oth c ∈ CLO := by
  have e : z = 0 ∨ z = 1 ∨ z = 2 ∨ z = 3 := by omega
  rcases e with rfl | rfl | rfl | rfl
  · exact ⟨40, rfl, rfl, by decide, by decide⟩
  · exact ⟨60, rfl, rfl, by decide, by decide⟩
  · exact ⟨91, rfl, rfl, by decide, by decide⟩
  · exact ⟨123, rfl, rfl, by decide, by decide⟩
theorem brk_at {z : Nat} (h : z < 8) : ∃ c, BRK[z]? = some c ∧ c ∈ BRK := ⟨BRK[z]'h, List.getElem?_eq_getElem h, List.getElem_mem h⟩
theorem let_at {z : Nat} (h : z < 26) : ∃ c, LET[z]? = some c ∧ c ∈ LET := ⟨LET[z]'h, List.getElem?_eq_getElem h, List.getElem_mem h⟩
theorem ixN_nat {n j : Nat} (h : j < n) : L2.ixN n (j : Int) = some j := by
  unfold L2.ixN
  rw [if_pos (by omega), if_pos (by omega), Int.toNat_natCast]
theorem erase_map {α β : Type} (f : α → β) : ∀ (l : List α) (j : Nat), (l.map f).eraseIdx j = (l.eraseIdx j).map f
  | [], _ => rfl
  | _ :: _, 0 => rfl
  | a :: l, j + 1 => by
    show f a :: (l.map f).eraseIdx j = f a :: (l.eraseIdx j).map f
    rw [erase_map f l j]
theorem erase_perm {α : Type} : ∀ (l : List α) (j : Nat) (h : j < l.length), (l[j] :: l.eraseIdx j).Perm l
  | [], j, h => absurd h (Nat.not_lt_zero _)
  | a :: l, 0, _ => List.Perm.refl _
  | a :: l, j + 1, h => by
    have hl : j < l.length := Nat.lt_of_succ_lt_succ h
    have ih := erase_perm l j hl
    show (l[j] :: a :: l.eraseIdx j).Perm (a :: l)
    exact (List.Perm.swap a l[j] (l.eraseIdx j)).trans (List.Perm.cons a ih)
end Ly

set_option maxHeartbeats 4000000
namespace Ly
open PySem PySem.Spec PyProof.Rows L2 SX

/-! ### list(text) -/
def sgV (l : List Nat) : List V := l.map fun c => Tx [c]
section
variable {X : Cx}
def rListT : List V → Hp → VK → Prop := fun xs H Q => ∃ l : List Nat, xs = [Tx l] ∧ l.length ≤ 100000 ∧ ∀ p, H p = none → Q (.ref p) (upd H p (.lst (sgV l)))
theorem vals_signs {l : List Nat} {acc : Array Value} (h : ItemsOf (SignAt (S l)) acc (S l).cps.size) : Vals (sgV l) acc.toList := by
  have hsz : acc.size = l.length := by rw [h.1]; simp
  have key : ∀ (l2 : List Nat) (us : List Value), us.length = l2.length → (∀ j, j < l2.length → ∃ c u, l2[j]? = some c ∧ us[j]? = some (.str ⟨#[c]⟩ u)) → Vals (sgV l2) us := by
    intro l2
    induction l2 with
    | nil =>
      intro us hl _
      cases us with
      | nil => exact .nil
      | cons a b => simp at hl
    | cons c l2 ih =>
      intro us hl hj
      cases us with
      | nil => simp at hl
      | cons a b =>
        obtain ⟨c', u, e1, e2⟩ := hj 0 (by simp)
        simp at e1 e2
        subst e1 e2
        refine .cons ⟨u, rfl⟩ (ih b (by simpa using hl) fun j hlt => ?_)
        obtain ⟨c2, u2, e3, e4⟩ := hj (j + 1) (by simp; omega)
        exact ⟨c2, u2, by simpa using e3, by simpa using e4⟩
  refine key l acc.toList (by simpa using hsz) fun j hj => ?_
  have hj2 : j < acc.size := by omega
  obtain ⟨c, u, e1, e2⟩ := h.2 j acc[j] (by simp [hj2])
  refine ⟨c, u, by simpa using e1, ?_⟩
  rw [← e2]
  simp [hj2]
theorem call_listT (hc : X.calm = true) : CallR X (.type "list") rListT := by
  intro pins s σ H xs us Q I r h
  obtain ⟨l, rfl, hl, q⟩ := h
  obtain ⟨u, rfl, t, rfl⟩ := vals1 r
  have hs : (S l).cps.size ≤ sizeLine := by
    have e : (S l).cps.size = l.length := by simp
    rw [e]
    exact Nat.le_trans hl (by decide)
  refine call_list_str (I.ok.hd hc) (S l) t (fun h' tk acc c' kp e it => ?_) hs
  refine ⟨.ref s.heap.objs.size, _, I.laid (t' := tk) kp (Nat.le_refl _) (show ObjOk X.prog X.w _ h' _ (.lst (sgV l)) from ⟨?_, acc.toList, c', vals_signs it, by simpa using e⟩), rfl, q _ (I.hok.fresh (Nat.le_refl _))⟩
  unfold sgV
  rw [List.length_map]
  exact Nat.le_trans hl (by decide)

/-! ### joins of texts -/
def rJoinT (K : PySem.W.Frag) : V → List V → Hp → VK → Prop := fun x xs H Q => ∃ (a : List Nat) (p : Addr) (ps : List (List Nat)), x = Tx a ∧ xs = [.ref p] ∧ SqL K H p (ps.map Tx) ∧ (ps.map (·.length)).sum + ps.length * a.length ≤ 100000 ∧ Q (Tx (TL.joinL a ps)) H
theorem mt_joinT : MtR X "str.join" (rJoinT X.K) := fun pins s σ H x xs v us Q I rx rs h => by
  obtain ⟨a, p, ps, h1, h2, h3, h4, q⟩ := h
  refine mt_join pins s σ H x xs v us Q I rx rs ⟨S a, p, ps.map S, h1, h2, .inl ?_, ?_, ?_⟩
  · rw [List.map_map]
    exact h3
  · rw [lens, List.length_map, S_len]
    exact Nat.le_trans h4 (by decide)
  · rw [join_S]
    exact q

/-! ### text * n -/
def repT (n : Nat) (l : List Nat) : List Nat := (List.replicate n l).flatten
theorem fold_cat (n : Nat) (x : Array Nat) : ∀ acc : Array Nat, ((List.replicate n x).foldl (· ++ ·) acc).toList = acc.toList ++ repT n x.toList := by
  induction n with
  | zero => intro acc; simp [repT]
  | succ n ih =>
    intro acc
    rw [List.replicate_succ, List.foldl_cons, ih]
    simp [repT, List.replicate_succ]
theorem mul_S (l : List Nat) (n : Nat) : Txt.mul (S l) (n : Int) = S (repT n l) := by
  refine TL.ext_tl ?_
  show (Txt.mul (S l) (n : Int)).cps.toList = repT n l
  unfold Txt.mul
  by_cases h1 : (n : Int) < 1
  · rw [if_pos h1]
    have : n = 0 := by omega
    subst this
    rfl
  · rw [if_neg h1]
    by_cases h2 : ((n : Int) == 1 || (S l).length == 0) = true
    · rw [if_pos h2]
      rw [Bool.or_eq_true] at h2
      rcases h2 with h2 | h2
      · have : n = 1 := by
          have := eq_of_beq h2
          omega
        subst this
        simp [repT]
      · have : l = [] := by
          have := eq_of_beq h2
          rw [S_len] at this
          exact List.eq_nil_of_length_eq_zero this
        subst this
        simp [repT]
    · rw [if_neg h2]
      show ((List.replicate (n : Int).toNat (S l).cps).foldl (· ++ ·) #[]).toList = _
      rw [Int.toNat_natCast, fold_cat]
      rfl
theorem repT_len (n : Nat) (l : List Nat) : (repT n l).length = n * l.length := by
  unfold repT
  simp
def rMulT : R2 := fun x y H Q => ∃ (l : List Nat) (n : Nat), x = Tx l ∧ y = .int (n : Int) ∧ n ≤ 100000 ∧ n * l.length ≤ 100000 ∧ Q (Tx (repT n l)) H
theorem op_mulT : OpR X (binaryOp .Mult) rMulT := fun pins s σ H x y v u Q I rx ry h => by
  obtain ⟨l, n, rfl, rfl, hn, hl, q⟩ := h
  obtain ⟨t, rfl⟩ := rx
  obtain ⟨t', rfl⟩ := ry
  refine SB.mul ⟨?_, ?_, ?_⟩ fun t'' k => ⟨Tx (repT n l), H, I.tok _, ⟨t'', by rw [mul_S]⟩, q⟩
  · have e1 : decide ((n : Int) < -(2 ^ 63 : Int)) = false := decide_eq_false (by omega)
    have e2 : decide ((n : Int) ≥ 2 ^ 63) = false := decide_eq_false (by omega)
    rw [e1, e2]
    rfl
  · intro h1 _
    rw [S_len]
    have h2 : (0 : Int) < n := by omega
    have h3 : (l.length : Int) * n ≤ 100000 := by
      have : ((n * l.length : Nat) : Int) ≤ 100000 := by omega
      rw [Int.natCast_mul, Int.mul_comm] at this
      exact this
    have h4 : (l.length : Int) ≤ (2 ^ 63 - 1) / n := by
      rw [Int.le_ediv_iff_mul_le h2]
      omega
    omega
  · intro _ _
    rw [S_len, Int.toNat_natCast, Nat.mul_comm]
    exact decide_eq_false (Nat.not_lt.mpr (Nat.le_trans hl (by decide)))
end

/-! ### enumerate(text) -/
def IteS (x : Str) : It := ⟨fun i _ => i < x.cps.size, fun i H v H' => ∃ T c, v = .ref T ∧ H T = none ∧ H' = upd H T (.tup [.int (i : Nat), .str ⟨#[c]⟩]) ∧ x.cps[i]? = some c, fun i _ => i = x.cps.size⟩
theorem turn_enumS {P : Program} {w : World} {K : PySem.W.Frag} {elts : List Expr} {kk : Nat} {tpos : Pos} (x : Str) (t : Tok) (e it : Addr) :
    Turn P w K (.Tuple elts kk tpos) (IteS x) [e, it] e (fun i h => (∃ old, IsEnum h e it ((i : Nat) : Int) old) ∧ h.IsStrIter it (strIterType x) x t i ∧ e ≠ it) where
  mem := by simp
  obj := fun i h st b hb => by
    obtain ⟨⟨old, he⟩, ⟨o, ho, hc, hd⟩, _⟩ := st
    have e' : b = e ∨ b = it := by simpa using hb
    rcases e' with z | z
    · rw [z]; exact ⟨_, he, fun v q => nomatch q⟩
    · rw [z]; exact ⟨o, ho, fun v q => by rw [hd] at q; cases q⟩
  keep := fun i h h' st k => let ⟨⟨old, he⟩, ⟨o, ho, r⟩, hne⟩ := st; ⟨⟨old, k e (by simp) _ he⟩, ⟨o, k it (by simp) o ho, r⟩, hne⟩
  item := by
    intro X hP hw hK hc i pins s σ H E I hf st hg
    subst hP hw hK
    obtain ⟨⟨old, he⟩, hit, hne⟩ := st
    have hel : e < s.heap.objs.size := Heap.lt_size he
    have hil : it < s.heap.objs.size := by obtain ⟨_, q, _⟩ := hit; exact Heap.lt_size q
    refine wpAny_pyNext_enum_itemD (Draws.text (A := X.A.in1) (I.ok.hd hc) it x t) he hit hg hne (by simpa using hne) fun u h' tk hP ho hit' hT hsz hk => ?_
    obtain ⟨c, tu, hcx, rfl⟩ := hP
    refine ⟨_, rfl, wpAny_letOwnedTupleGo_enum (s := { s with heap := h', toks := tk + 1 }) ho fun h'' he' sb => ?_⟩
    have hT2 : h''.get? s.heap.objs.size = some { cls := .type "tuple", data := .seq #[.int i tk, .str ⟨#[c]⟩ tu] } := (sb.2 _ (Nat.ne_of_gt hel)).trans hT
    have new : ObjOk X.prog X.w (upd H s.heap.objs.size (.tup [.int (i : Nat), .str ⟨#[c]⟩])) h'' s.heap.objs.size (.tup [.int (i : Nat), .str ⟨#[c]⟩]) :=
      ⟨by show 2 ≤ sizeLine; decide, [.int i tk, .str ⟨#[c]⟩ tu], .cons ⟨_, rfl⟩ (.cons ⟨_, rfl⟩ .nil), ⟨_, hT2, rfl, _, rfl⟩⟩
    have I1 : Inv X pins σ (upd H s.heap.objs.size (.tup [.int (i : Nat), .str ⟨#[c]⟩])) { s with heap := h'', toks := tk + 1 } :=
      I.turnedNew (ch := [e, it]) (fun b ob hb q => (sb.2 b (fun z => hb (by simp [z]))).trans (hk b ob (fun z => hb (by simp [z])) (fun z => hb (by simp [z])) q)) hf (Nat.le_refl _) new
    refine ⟨.ref s.heap.objs.size, _, I1, rfl, ⟨_, c, rfl, I.hok.fresh (Nat.le_refl _), rfl, hcx⟩, ⟨⟨.str ⟨#[c]⟩ tu, ?_⟩, ?_, hne⟩, fun b hb => ?_⟩
    · have e1 : ((i + 1 : Nat) : Int) = (i : Int) + 1 := by omega
      rw [e1]; exact he'
    · obtain ⟨o, ho', r⟩ := hit'
      exact ⟨o, (sb.2 it (Ne.symm hne)).trans ho', r⟩
    · have hb' : b < s.heap.objs.size := by
        have e' : b = e ∨ b = it := by simpa using hb
        rcases e' with z | z
        · rw [z]; exact hel
        · rw [z]; exact hil
      rw [upd_ne (Nat.ne_of_lt hb')]
      exact (hf b hb).1
  done := by
    intro X hP hw hK hc i pins s σ H E I hf st hg
    subst hP hw hK
    obtain ⟨⟨old, he⟩, hit, hne⟩ := st
    obtain ⟨f0, f1, f2, f3, f4, f5⟩ := hf it (by simp)
    have hg2 : i = x.cps.size := hg
    subst hg2
    exact wpAny_pyNext_enum_endD (Draws.text (A := X.A.in1) (I.ok.hd hc) it x t) he hit fun h' eb => ⟨rfl, I.turned (t' := s.toks) (fun b o hb q => eb b o hb q) f0 f1 f3 f4 f5⟩
  self := fun A i s Q E st h => let ⟨⟨_, he⟩, _⟩ := st; wpAny_pyIter_enum he h
def iEnumS (ta : TA) : TI := fun σ H R => ta σ H fun vs H1 => ∃ l : List Nat, vs = [Tx l] ∧ R (IteS (S l)) H1
theorem pi_enumS {X : Cx} {e : Expr} {ta : TA} {p pos tpos : Pos} {elts : List Expr} {kk : Nat} (hg : Gl X "enumerate") (hm : X.mg "enumerate" = none) (ha : PA X [e] ta) (hs : starEach [e] X.env = [(false, eval e X.env)] := by rfl) :
    PI X (.Tuple elts kk tpos) (.Call (.Name "enumerate" p) [e] [] pos) (iEnumS ta) := by
  refine ⟨fun pins s σ H R I h => ?_⟩
  refine Call_ (ld_blt I hg hm boot_enumerate (PyProof.Rows.callWith_type1 (thn (ha.run pos pins s σ H _ I h) fun us s1 ⟨vs, H1, I1, r1, q1⟩ => ?_) hs rfl))
  obtain ⟨l, ex, q⟩ := q1
  subst ex
  obtain ⟨u, rfl, t, rfl⟩ := vals1 r1
  refine call_enumerate_str fun h' he hit hsz hk => wpAny_pyIter_enum he ?_
  have I2 : Inv X pins σ H1 { s1 with heap := h' } := I1.kept (t' := s1.toks) hk
  refine ⟨s1.heap.objs.size + 1, [s1.heap.objs.size + 1, s1.heap.objs.size], _, _, H1, rfl, I2, turn_enumS (S l) t (s1.heap.objs.size + 1) s1.heap.objs.size, ⟨⟨.none, he⟩, hit, Nat.succ_ne_self _⟩, fun b hb => ?_, q⟩
  have e' : b = s1.heap.objs.size + 1 ∨ b = s1.heap.objs.size := by simpa using hb
  have hle : s1.heap.objs.size ≤ b := by
    rcases e' with z | z
    · rw [z]; exact Nat.le_add_right _ _
    · rw [z]; exact Nat.le_refl _
  exact I1.fpOk hle (I1.hok.fresh hle)
theorem walk_enumS {l : List Nat} : Walk (IteS (S l)) l.length (fun _ => True) (fun i H v H' => ∃ T c, v = .ref T ∧ H T = none ∧ H' = upd H T (.tup [.int (i : Nat), Tx [c]]) ∧ l[i]? = some c) :=
  ⟨fun _ _ hi _ => by show _ < (S l).cps.size; simpa using hi, fun _ _ => by show _ = (S l).cps.size; simp, fun i _ _ _ _ _ y => by
    obtain ⟨T, c, h1, h2, h3, h4⟩ := y
    exact ⟨T, c, h1, h2, h3, by simpa using h4⟩⟩
section
variable {K : PySem.W.Frag} {σ : L2.St} {H : Hp} {g : TG} {tb : TS} {D : Ends} {l : List Nat} {xs : List V} {a : Addr}
/-- for i, c in enumerate(text), by what is gone through -/
theorem for_enumS (Pv : List Nat → L2.St → Hp → Prop) (h0 : Pv [] σ H)
    (hs : ∀ pre c post σ H t H1, l = pre ++ c :: post → Pv pre σ H → H t = none → Same H H1 → H1 t = some (.tup [.int pre.length, Tx [c]]) → g (.ref t) σ H1 fun σ2 H2 => tb { D with nx := Pv (pre ++ [c]), ct := Pv (pre ++ [c]), bk := D.nx } σ2 H2) (hd : ∀ σ H, Pv l σ H → D.nx σ H) : ForR (IteS (S l)) g tb D σ H := by
  refine for_it (walk_enumS (l := l)) (fun i σ H => Pv (l.take i) σ H) (by simpa using h0) (fun _ _ _ _ _ => trivial) (fun i v σ H H' hi p y => ?_) (fun σ H p => hd σ H (by simpa using p))
  obtain ⟨t, c, rfl, nt, rfl, e2⟩ := y
  obtain ⟨e, e3⟩ := cut_at e2
  have z := hs (l.take i) c (l.drop (i + 1)) σ H t _ e3 p nt (Same.new nt) (by
    rw [upd_same, List.length_take, Nat.min_eq_left (Nat.le_of_lt hi)])
  rw [← e] at z
  exact z
/-! readings -/
variable {Q : VK} {p : Addr} {m : List Nat} {n : Nat}
theorem g_listT (h : l.length ≤ 100000) (q : ∀ p H1, H p = none → Same H H1 → H1 p = some (.lst (sgV l)) → Q (.ref p) H1) : rListT [Tx l] H Q := ⟨l, rfl, h, g_new q⟩
theorem g_joinT {ps : List (List Nat)} (h : SqL K H p (ps.map Tx)) (hl : (ps.map (·.length)).sum + ps.length * m.length ≤ 100000) (q : Q (Tx (TL.joinL m ps)) H) : rJoinT K (Tx m) [.ref p] H Q := ⟨m, p, ps, rfl, rfl, h, hl, q⟩
theorem g_mulT (h : n ≤ 100000) (h2 : n * l.length ≤ 100000) (q : Q (Tx (repT n l)) H) : rMulT (Tx l) (.int (n : Int)) H Q := ⟨l, n, rfl, rfl, h, h2, q⟩
theorem joinL_nil : ∀ ps : List (List Nat), TL.joinL [] ps = ps.flatten
  | [] => rfl
  | [p] => by simp [TL.joinL]
  | p :: q :: r => by
    show p ++ ([] ++ TL.joinL [] (q :: r)) = _
    rw [joinL_nil (q :: r)]
    simp
/-- ''.join of signs -/
theorem g_join0 (h : SqL K H p (sgV l)) (hl : l.length ≤ 100000) (q : Q (Tx l) H) : rJoinT K (Tx []) [.ref p] H Q := by
  refine g_joinT (ps := l.map fun c => [c]) ?_ ?_ ?_
  · rw [List.map_map]
    exact h
  · rw [List.map_map]
    have : ((fun x : List Nat => x.length) ∘ fun c : Nat => [c]) = fun _ => 1 := rfl
    rw [this]
    have e : ∀ l : List Nat, (l.map fun _ => 1).sum = l.length := by
      intro l
      induction l with
      | nil => rfl
      | cons c l ih => simp [ih]; omega
    rw [e]
    simpa using hl
  · rw [joinL_nil]
    have : ∀ l : List Nat, (l.map fun c => [c]).flatten = l := by
      intro l
      induction l with
      | nil => rfl
      | cons c l ih => simp [ih]
    rw [this]
    exact q
end

/-! ### an if whose test is told once -/
def tIfC (c : TT) (t u : TS) : TS := tIfS c t u
theorem ps_ifC {X : Cx} {pos : Pos} {c : Expr} {a b : List Stmt} {tc : TT} {t u : TS} (hc : PT X c tc) (ha : PSs X a t) (hb : PSs X b u) : PS X (.If c a b pos) (tIfC tc t u) := ps_if hc ha hb
/-- the test c comes out as b and leaves the heap -/
def Tst (c : TT) (σ : L2.St) (H : Hp) (b : Bool) : Prop := ∀ Q : Bool → Hp → Prop, Q b H → c σ H Q
theorem g_ifC {c : TT} {t u : TS} {D : Ends} {σ : L2.St} {H : Hp} {b : Bool} (hA : Tst c σ H b) (h1 : b = true → t D σ H) (h2 : b = false → u D σ H) : tIfC c t u D σ H := by
  refine hA _ ?_
  cases b with
  | true => exact h1 rfl
  | false => exact h2 rfl
/-- the test changes the heap as G says -/
def TstH (c : TT) (σ : L2.St) (H : Hp) (b : Bool) (G : Hp → Prop) : Prop := ∀ Q : Bool → Hp → Prop, (∀ H1, G H1 → Q b H1) → c σ H Q
theorem g_ifH {c : TT} {t u : TS} {D : Ends} {σ : L2.St} {H : Hp} {b : Bool} {G : Hp → Prop} (hA : TstH c σ H b G) (h1 : ∀ H1, G H1 → b = true → t D σ H1) (h2 : ∀ H1, G H1 → b = false → u D σ H1) : tIfC c t u D σ H := by
  refine hA _ fun H1 g => ?_
  cases b with
  | true => exact h1 H1 g rfl
  | false => exact h2 H1 g rfl
/-! ### while -/
section
variable {c : TT} {tb : TS} {D : Ends} {σ : L2.St} {H : Hp}
def WhB (tb : TS) (D : Ends) (W : Nat → L2.St → Hp → Prop) (m : Nat) (σ : L2.St) (H : Hp) : Prop := ∃ N : L2.St → Hp → Prop, (∀ σ' H', N σ' H' → ∃ m', m' < m ∧ W m' σ' H') ∧ tb { D with nx := N, ct := N, bk := D.nx } σ H
theorem g_while (W : Nat → L2.St → Hp → Prop) (m : Nat) (h0 : W m σ H) (hs : ∀ m σ H, W m σ H → c σ H fun b H1 => if b = true then WhB tb D W m σ H1 else D.nx σ H1) : tWhile c tb D σ H := ⟨W, ⟨m, h0⟩, hs⟩
theorem g_whb {W : Nat → L2.St → Hp → Prop} {m : Nat} (q : tb { D with nx := fun σ' H' => ∃ m', m' < m ∧ W m' σ' H', ct := fun σ' H' => ∃ m', m' < m ∧ W m' σ' H', bk := D.nx } σ H) : WhB tb D W m σ H := ⟨_, fun _ _ h => h, q⟩
end
/-! ### data: == and != -/
def txD (l : List Nat) : PyData := .str (S l)
section
variable {K : PySem.W.Frag} {H : Hp} {Q : VK} {p a : Addr} {X : Cx}
theorem dp_txs : ∀ ps : List (List Nat), DpAll K H (ps.map Tx) (ps.map txD)
  | [] => .nil
  | l :: ps => .cons (.str _) (dp_txs ps)
theorem can_tx {l : List Nat} (h : ∀ c ∈ l, c < 1114112) : PyData.canLay0 (txD l) = true := by
  show PyData.strOk (S l) = true
  unfold PyData.strOk
  rw [← Array.all_toList]
  exact List.all_eq_true.mpr fun c hc => decide_eq_true (h c hc)
theorem can_txs : ∀ ps : List (List Nat), (∀ l ∈ ps, ∀ c ∈ l, c < 1114112) → PyData.canLayAll0 (ps.map txD) = true
  | [], _ => rfl
  | l :: ps, h => by
    show (PyData.canLay0 (txD l) && PyData.canLayAll0 (ps.map txD)) = true
    rw [can_tx (h l (List.mem_cons_self ..)), can_txs ps fun m hm => h m (List.mem_cons_of_mem _ hm)]
    rfl
theorem depth_txs : ∀ ps : List (List Nat), PyData.depthAll (ps.map txD) = 0
  | [] => rfl
  | l :: ps => by
    show max 0 (PyData.depthAll (ps.map txD)) = 0
    rw [depth_txs ps]
    rfl
theorem shaped_txs {ps : List (List Nat)} (h : ∀ l ∈ ps, ∀ c ∈ l, c < 1114112) : SeqAt.shaped (.list (ps.map txD)) = true := by
  unfold SeqAt.shaped
  rw [show PyData.canLay0 (.list (ps.map txD)) = PyData.canLayAll0 (ps.map txD) from rfl, can_txs ps h, show PyData.depth (.list (ps.map txD)) = PyData.depthAll (ps.map txD) + 1 from rfl, depth_txs]
  rfl
theorem g_neNilT {ps : List (List Nat)} (h : SqL K H p (ps.map Tx)) (hc : ∀ l ∈ ps, ∀ c ∈ l, c < 1114112) (h2 : SqL K H a []) (q : Q (.bl (!decide (ps = []))) H) : rNeD K (.ref p) (.ref a) H Q := by
  refine ⟨.list (ps.map txD), .list [], .lst h (dp_txs ps), .lst h2 .nil, shaped_txs hc, rfl, ?_⟩
  have e : PyData.eqv (.list (ps.map txD)) (.list []) = decide (ps = []) := by
    cases ps with
    | nil => rfl
    | cons l ps => rfl
  rw [e]
  exact q
theorem sgV_eq (l : List Nat) : sgV l = (l.map fun c => [c]).map Tx := by
  unfold sgV
  rw [List.map_map]
  rfl
/-- a list of signs against [] -/
theorem g_neNilS {l : List Nat} (h : SqL K H p (sgV l)) (hc : ∀ c ∈ l, c < 1114112) (h2 : SqL K H a []) (q : Q (.bl (!decide (l = []))) H) : rNeD K (.ref p) (.ref a) H Q := by
  rw [sgV_eq] at h
  refine g_neNilT h (fun m hm c hcm => ?_) h2 ?_
  · obtain ⟨d, hd, rfl⟩ := List.mem_map.mp hm
    rw [List.mem_singleton] at hcm
    subst hcm
    exact hc _ hd
  · have e : ((l.map fun c => [c]) = []) ↔ l = [] := by simp
    rw [decide_eq_decide.mpr e]
    exact q
end
theorem sgV_snoc (l : List Nat) (c : Nat) : sgV (l ++ [c]) = sgV l ++ [Tx [c]] := by
  unfold sgV
  rw [List.map_append]
  rfl
theorem sgV_rev (l : List Nat) : (sgV l).reverse = sgV l.reverse := by
  unfold sgV
  rw [List.map_reverse]
theorem sgV_len (l : List Nat) : (sgV l).length = l.length := by
  unfold sgV
  rw [List.length_map]

section
variable {K : PySem.W.Frag} {H : Hp} {Q : VK} {p a : Addr} {xs : List V} {v : V} {i : Nat}
theorem g_popAt (h : H p = some (.lst xs)) (hi : xs[i]? = some v) (hl : xs.length ≤ 100000) (q : ∀ H1, But p H H1 → H1 p = some (.lst (xs.eraseIdx i)) → Q v H1) : rPopAt (.ref p) [.int (i : Int)] H Q := by
  obtain ⟨hlt, _⟩ := List.getElem?_eq_some_iff.mp hi
  refine ⟨p, xs, i, i, v, rfl, rfl, h, by omega, by omega, ?_, hi, q _ But.set upd_same⟩
  unfold seqIndex?
  simp
  omega
theorem g_isi {x : V} {t u : String} {b : Bool} (ty : TyX K H x (.type t)) (h : kitB t u = some b) (q : Q (.bl b) H) : rIsi K [x, .ty u] H Q := ⟨x, .ty u, .type t, .type u, b, rfl, .ty u, ty, kit_ty h, q⟩
theorem ty_str {x : Str} : TyX K H (.str x) (.type "str") := .base (.str x)
theorem ty_int {n : Int} : TyX K H (.int n) (.type "int") := .base (.int n)
theorem ty_bl {b : Bool} : TyX K H (.bl b) (.type "bool") := .base (.bl b)
theorem ty_lst (h : H p = some (.lst xs)) : TyX K H (.ref p) (.type "list") := .base (.lst h)
theorem ty_tup (h : H p = some (.tup xs)) : TyX K H (.ref p) (.type "tuple") := .base (.tup h)
theorem cut_ints (ns : List Int) (lo hi : Option Int) : ∃ ms : List Int, cutV (ns.map V.int) lo hi = ms.map V.int ∧ ms.length ≤ ns.length := by
  unfold cutV
  refine ⟨(ns.drop (HT.sIx (ns.map V.int).length 0 lo)).take (HT.sIx (ns.map V.int).length (ns.map V.int).length hi - HT.sIx (ns.map V.int).length 0 lo), ?_, ?_⟩
  · rw [List.map_take, List.map_drop]
  · rw [List.length_take, List.length_drop]
    omega
theorem find_no {l : List Nat} {c : Nat} (h : c ∉ l) : Txt.find (S l) (S [c]) = -1 := by
  have e := in_one l c
  rw [decide_eq_false h] at e
  unfold Txt.find
  cases ho : Builtin.Str.occurrences (S l) (S [c]) 0 (S l).length 1 with
  | nil => rfl
  | cons a b =>
    rw [ho] at e
    cases e
theorem mid_at {α : Type} {xs pre post : List α} {x : α} (e : xs = pre ++ x :: post) : xs[pre.length]? = some x := by
  rw [e]
  simp
end
end Ly

set_option maxHeartbeats 4000000
namespace Ly
open PySem PySem.Spec PyProof.Rows L2 SX
/-! ### zip(text, list) -/
def ItzS (K : PySem.W.Frag) (x : Str) (b : Addr) : It :=
  ⟨fun i H => ∃ (ys : List V) (y : V), i < x.cps.size ∧ SqL K H b ys ∧ ys[i]? = some y,
    fun i H v H' => ∃ T c y, v = .ref T ∧ H T = none ∧ H' = upd H T (.tup [.str ⟨#[c]⟩, y]) ∧ x.cps[i]? = some c ∧ ∀ ys, SqL K H b ys → ys[i]? = some y,
    fun i H => ∃ ys : List V, SqL K H b ys ∧ (i = x.cps.size ∨ i = ys.length) ∧ i ≤ x.cps.size ∧ i ≤ ys.length⟩
theorem turn_zipS {P : Program} {w : World} {K : PySem.W.Frag} {elts : List Expr} {kk : Nat} {tpos : Pos} {x : Str} {t : Tok} {b z TI TO i1 i2 : Addr} (D : ZipSep2 z TI TO i1 i2 [i1] [i2, b]) (hb : b ≠ i2) :
    Turn P w K (.Tuple elts kk tpos) (ItzS K x b) [z, TI, TO, i1, i2] z (fun i h => IsZip h z TI TO .none ∧ IsTupOf2 h TI (.ref i1) (.ref i2) ∧ (∃ x y, IsTupOf2 h TO x y) ∧ h.IsStrIter i1 (strIterType x) x t i ∧ h.IsListIter i2 b i) where
  mem := by simp
  obj := fun i h st c hc => by
    obtain ⟨hz, hTI, ⟨x, y, hTO⟩, ⟨o1, e1, _, d1⟩, ⟨o2, e2, _, d2⟩⟩ := st
    have e' : c = z ∨ c = TI ∨ c = TO ∨ c = i1 ∨ c = i2 := by simpa using hc
    rcases e' with q | q | q | q | q
    · rw [q]; exact ⟨_, hz, fun v q => nomatch q⟩
    · rw [q]; exact ⟨_, hTI, fun v q => nomatch q⟩
    · rw [q]; exact ⟨_, hTO, fun v q => nomatch q⟩
    · rw [q]; exact ⟨o1, e1, fun v q => by rw [d1] at q; cases q⟩
    · rw [q]; exact ⟨o2, e2, fun v q => by rw [d2] at q; cases q⟩
  keep := fun i h h' st k => by
    obtain ⟨hz, hTI, ⟨x, y, hTO⟩, ⟨o1, e1, r1⟩, h2⟩ := st
    exact ⟨k z (by simp) _ hz, k TI (by simp) _ hTI, ⟨x, y, k TO (by simp) _ hTO⟩, ⟨o1, k i1 (by simp) o1 e1, r1⟩, h2.at fun o q => k i2 (by simp) o q⟩
  item := by
    intro X hP hw hK hc i pins s σ H E I hf st hg
    subst hP hw hK
    obtain ⟨hz, hTI, ⟨x0, y0, hTO⟩, h1, h2⟩ := st
    obtain ⟨ys, y, hlt, hqy, hy⟩ := hg
    obtain ⟨its2, rv2, p2, _⟩ := I.list hqy
    obtain ⟨u2, hu2, ru2⟩ := rv2.get hy
    have hzl : z < s.heap.objs.size := Heap.lt_size hz
    have hi2 : i < its2.toArray.size := by
      obtain ⟨h, _⟩ := List.getElem?_eq_some_iff.mp hu2
      simpa using h
    refine wpAny_pyNext_zipD2_item D (Draws.text (A := X.A.in1) (I.ok.hd hc) i1 x t) (Draws.list (A := X.A.in1) (I.ok.hd hc) i2 b hb its2.toArray) hz hTI hTO h1 ⟨h2, p2.isList⟩ hlt hi2 fun x1 x2 h' tk hP1 hP2 z' TO' h1' h2' hT hsz hk => ?_
    obtain ⟨c, tu, hcx, rfl⟩ := hP1
    have ex2 : x2 = u2 := by
      have e : its2.toArray[i]? = some u2 := by simpa using hu2
      rw [e] at hP2
      exact (Option.some.inj hP2).symm
    subst ex2
    refine ⟨_, rfl, wpAny_letOwnedTupleGo_zip (s := { s with heap := h', toks := tk }) z' fun h'' z'' sb => ?_⟩
    have hT2 : h''.get? s.heap.objs.size = some { cls := .type "tuple", data := .seq #[.str ⟨#[c]⟩ tu, x2] } := (sb.2 _ (Nat.ne_of_gt hzl)).trans hT
    have new : ObjOk X.prog X.w (upd H s.heap.objs.size (.tup [.str ⟨#[c]⟩, y])) h'' s.heap.objs.size (.tup [.str ⟨#[c]⟩, y]) :=
      ⟨by show 2 ≤ sizeLine; decide, [.str ⟨#[c]⟩ tu, x2], .cons ⟨_, rfl⟩ (.cons ru2 .nil), ⟨_, hT2, rfl, _, rfl⟩⟩
    have I1 : Inv X pins σ (upd H s.heap.objs.size (.tup [.str ⟨#[c]⟩, y])) { s with heap := h'', toks := tk } :=
      I.turnedNew (ch := [z, TI, TO, i1, i2]) (fun c o hb q => (sb.2 c (fun q' => hb (by simp [q']))).trans (hk c o (fun q' => hb (by simp [q'])) (fun q' => hb (by simp [q'])) (fun q' => hb (by simp [q'])) (fun q' => hb (by simp [q'])) q)) hf (Nat.le_refl _) new
    refine ⟨.ref s.heap.objs.size, _, I1, rfl, ⟨_, c, y, rfl, I.hok.fresh (Nat.le_refl _), rfl, hcx, fun l hl => by rw [I.list_inj hl hqy]; exact hy⟩, ⟨z'', ?_, ⟨.str ⟨#[c]⟩ tu, x2, ?_⟩, ?_, ?_⟩, fun c hcm => ?_⟩
    · exact (sb.2 _ D.TIz).trans (hk _ _ D.TIz D.TITO D.TIi1 D.TIi2 hTI)
    · exact (sb.2 _ D.TOz).trans TO'
    · obtain ⟨o, ho', r⟩ := h1'
      exact ⟨o, (sb.2 _ (Ne.symm D.zi1)).trans ho', r⟩
    · exact h2'.1.at fun o q => (sb.2 _ (Ne.symm D.zi2)).trans q
    · have hlt : c < s.heap.objs.size := by
        have e' : c = z ∨ c = TI ∨ c = TO ∨ c = i1 ∨ c = i2 := by simpa using hcm
        rcases e' with q | q | q | q | q
        · rw [q]; exact hzl
        · rw [q]; exact Heap.lt_size hTI
        · rw [q]; exact Heap.lt_size hTO
        · rw [q]; obtain ⟨_, e1, _⟩ := h1; exact Heap.lt_size e1
        · rw [q]; obtain ⟨_, e2, _⟩ := h2; exact Heap.lt_size e2
      rw [upd_ne (Nat.ne_of_lt hlt)]
      exact (hf c hcm).1
  done := by
    intro X hP hw hK hc i pins s σ H E I hf st hg
    subst hP hw hK
    obtain ⟨hz, hTI, ⟨x0, y0, hTO⟩, h1, h2⟩ := st
    obtain ⟨ys, hqy, hend, l1, l2⟩ := hg
    obtain ⟨its2, rv2, p2, _⟩ := I.list hqy
    have ll := rv2.length
    exact wpAny_pyNext_zipD2_end D (Draws.text (A := X.A.in1) (I.ok.hd hc) i1 x t) (Draws.list (A := X.A.in1) (I.ok.hd hc) i2 b hb its2.toArray) hz hTI hTO h1 ⟨h2, p2.isList⟩ l1 (by simp; omega) (by simp; omega)
      fun h' tk hk => ⟨rfl, I.turnedL (t' := tk) (ch := [z, TI, TO, i1, i2]) (fun c o hb q =>
        hk c o (fun q' => hb (by simp [q'])) (fun q' => hb (by simp [q'])) (fun q' => hb (by simp [q'])) (fun q' => hb (by simp [q'])) q) hf⟩
  self := fun A i s Q E st h => wpAny_pyIter_zip st.1 h
def iZipS (K : PySem.W.Frag) (ta : TA) : TI := fun σ H R => ta σ H fun vs H1 => ∃ (l : List Nat) (b : Addr) (ys : List V), vs = [Tx l, .ref b] ∧ SqL K H1 b ys ∧ R (ItzS K (S l) b) H1
theorem pi_zipS {X : Cx} {e e2 : Expr} {ta : TA} {p pos tpos : Pos} {elts : List Expr} {kk : Nat} (hg : Gl X "zip") (hm : X.mg "zip" = none) (ha : PA X [e, e2] ta)
    (hs : starEach [e, e2] X.env = (false, eval e X.env) :: starEach [e2] X.env := by rfl) (hpl : (backTo pos (starEach [e2] X.env)).any (·.1) = false := by rfl) :
    PI X (.Tuple elts kk tpos) (.Call (.Name "zip" p) [e, e2] [] pos) (iZipS X.K ta) := by
  refine ⟨fun pins s σ H R I h => ?_⟩
  refine Call_ (ld_blt I hg hm PyProof.Rows.boot_zip (PyProof.Rows.callWith_type1 (thn (ha.run pos pins s σ H _ I h) fun us s1 ⟨vs, H1, I1, r1, q1⟩ => ?_) hs hpl))
  obtain ⟨l, b, ys, ex, hqy, q⟩ := q1
  subst ex
  obtain ⟨u1, u2, rfl, ⟨t, rfl⟩, r2⟩ := vals2 r1
  cases r2
  obtain ⟨its2, rv2, p2, _⟩ := I1.list hqy
  have lb : b < s1.heap.objs.size := p2.lt
  refine zip_begins2 (begins_text (S l) t) (begins_list b its2.toArray) trivial p2.isList fun h' hz hTI hTO h1 h2 hsz hk => wpAny_pyIter_zip hz ?_
  have I2 : Inv X pins σ H1 { s1 with heap := h' } := I1.kept (t' := s1.toks) hk
  refine ⟨s1.heap.objs.size + 4, [s1.heap.objs.size + 4, s1.heap.objs.size + 2, s1.heap.objs.size + 3, s1.heap.objs.size, s1.heap.objs.size + 1], _, _, H1, rfl, I2,
    turn_zipS (x := S l) (t := t) (b := b) (zip_sep2 (N := s1.heap.objs.size) (fp1 := []) (fp2 := [b]) (by simp) (by simpa using lb)) (Nat.ne_of_lt (Nat.lt_succ_of_lt lb)), ⟨hz, hTI, ⟨_, _, hTO⟩, ⟨_, h1, rfl, rfl⟩, ⟨_, h2, rfl, rfl⟩⟩, fun c hcm => ?_, q⟩
  have e' : c = s1.heap.objs.size + 4 ∨ c = s1.heap.objs.size + 2 ∨ c = s1.heap.objs.size + 3 ∨ c = s1.heap.objs.size ∨ c = s1.heap.objs.size + 1 := by simpa using hcm
  have hle : s1.heap.objs.size ≤ c := by
    rcases e' with z | z | z | z | z
    · rw [z]; exact Nat.le_add_right _ _
    · rw [z]; exact Nat.le_add_right _ _
    · rw [z]; exact Nat.le_add_right _ _
    · rw [z]; exact Nat.le_refl _
    · rw [z]; exact Nat.le_add_right _ _
  exact I1.fpOk hle (I1.hok.fresh hle)
theorem walk_zipS {K : PySem.W.Frag} {l : List Nat} {b : Addr} {ys : List V} (hl : l.length = ys.length) : Walk (ItzS K (S l) b) l.length (fun H => SqL K H b ys) (fun i H v H' => ∃ T c y, v = .ref T ∧ H T = none ∧ H' = upd H T (.tup [Tx [c], y]) ∧ l[i]? = some c ∧ ys[i]? = some y) := by
  have sz : (S l).cps.size = l.length := by simp
  refine ⟨fun i H hi g => ⟨ys, ys[i]'(by omega), by rw [sz]; exact hi, g, by simp [show i < ys.length by omega]⟩, fun H g => ⟨ys, g, .inl sz.symm, by rw [sz]; exact Nat.le_refl _, by omega⟩, fun i H v H' hi g y => ?_⟩
  obtain ⟨T, c, y, h1, h2, h3, h4, h5⟩ := y
  exact ⟨T, c, y, h1, h2, h3, by simpa using h4, h5 ys g⟩

/-! ### flat data -/
def Flat (v : V) : Prop := ∃ d : PyData, (∀ K H, Dp K H v d) ∧ d.canLay0 = true ∧ d.depth = 0
theorem flat_int (i : Int) : Flat (.int i) := ⟨.int i, fun _ _ => .int i, rfl, rfl⟩
theorem flat_non : Flat .non := ⟨.none, fun _ _ => .non, rfl, rfl⟩
theorem flat_bl (b : Bool) : Flat (.bl b) := ⟨.bool b, fun _ _ => .bl b, rfl, rfl⟩
theorem flat_tx {l : List Nat} (h : ∀ c ∈ l, c < 1114112) : Flat (Tx l) := ⟨txD l, fun _ _ => .str _, can_tx h, rfl⟩
theorem flat_all {xs : List V} (h : ∀ v ∈ xs, Flat v) : ∃ ds : List PyData, ds.length = xs.length ∧ (∀ K H, DpAll K H xs ds) ∧ PyData.canLayAll0 ds = true ∧ PyData.depthAll ds = 0 := by
  induction xs with
  | nil => exact ⟨[], rfl, fun _ _ => .nil, rfl, rfl⟩
  | cons v xs ih =>
    obtain ⟨d, h1, h2, h3⟩ := h v (List.mem_cons_self ..)
    obtain ⟨ds, hl, h4, h5, h6⟩ := ih fun x hx => h x (List.mem_cons_of_mem _ hx)
    refine ⟨d :: ds, by simp [hl], fun K H => .cons (h1 K H) (h4 K H), ?_, ?_⟩
    · show (d.canLay0 && PyData.canLayAll0 ds) = true
      rw [h2, h5]
      rfl
    · show max d.depth (PyData.depthAll ds) = 0
      rw [h3, h6]
      rfl
section
variable {K : PySem.W.Frag} {H : Hp} {Q : VK} {p a : Addr} {xs : List V}
theorem nil_eqv {ds : List PyData} : PyData.eqv (.list ds) (.list []) = ds.isEmpty := by cases ds <;> rfl
theorem g_neNil (h : SqL K H p xs) (hf : ∀ v ∈ xs, Flat v) (h2 : SqL K H a []) (q : Q (.bl (!xs.isEmpty)) H) : rNeD K (.ref p) (.ref a) H Q := by
  obtain ⟨ds, hl, h4, h5, h6⟩ := flat_all hf
  refine ⟨.list ds, .list [], .lst h (h4 K H), .lst h2 .nil, ?_, rfl, ?_⟩
  · unfold SeqAt.shaped
    rw [show PyData.canLay0 (.list ds) = PyData.canLayAll0 ds from rfl, h5, show PyData.depth (.list ds) = PyData.depthAll ds + 1 from rfl, h6]
    rfl
  · have e : ds.isEmpty = xs.isEmpty := by
      cases ds <;> cases xs <;> simp at hl ⊢
    rw [nil_eqv, e]
    exact q
theorem g_eqNil (h : SqL K H p xs) (hf : ∀ v ∈ xs, Flat v) (h2 : SqL K H a []) (q : Q (.bl xs.isEmpty) H) : rEqD K (.ref p) (.ref a) H Q := by
  obtain ⟨ds, hl, h4, h5, h6⟩ := flat_all hf
  refine ⟨.list ds, .list [], .lst h (h4 K H), .lst h2 .nil, ?_, rfl, ?_⟩
  · unfold SeqAt.shaped
    rw [show PyData.canLay0 (.list ds) = PyData.canLayAll0 ds from rfl, h5, show PyData.depth (.list ds) = PyData.depthAll ds + 1 from rfl, h6]
    rfl
  · have e : ds.isEmpty = xs.isEmpty := by
      cases ds <;> cases xs <;> simp at hl ⊢
    rw [nil_eqv, e]
    exact q
theorem g_rep {n : Nat} (h : H p = some (.lst xs)) (hl : xs.length * n ≤ 100000) (hn : n ≤ 100000) (q : ∀ p H1, H p = none → Same H H1 → H1 p = some (.lst (List.replicate n xs).flatten) → Q (.ref p) H1) : rRep (.ref p) (.int (n : Int)) H Q := by
  refine ⟨p, n, xs, rfl, rfl, h, by omega, by omega, Nat.le_trans (by rw [Int.toNat_natCast]; exact hl) (by decide), ?_⟩
  rw [Int.toNat_natCast]
  exact g_new q
end

/-! ### downward ranges -/
theorem rgc_dn {n : Nat} (h : n ≤ 100000) : RgC ((n : Int) - 1) (-1) (-1) n := by
  have e := RgC.neg (i := (n : Int) - 1) (j := -1) (by omega) (by omega) (by omega) (by omega)
  rw [show ((n : Int) - 1 - -1).toNat = n by omega] at e
  exact e
section
variable {σ : L2.St} {H : Hp} {g : TG} {tb : TS} {D : Ends} {n : Nat}
/-- for k in range(n - 1, -1, -1): Pv k: those from k on are gone through -/
theorem for_dn (Pv : Nat → L2.St → Hp → Prop) (h0 : Pv n σ H)
    (hs : ∀ (k : Nat) σ H, k < n → Pv (k + 1) σ H → g (.int (k : Int)) σ H fun σ2 H2 => tb { D with nx := Pv k, ct := Pv k, bk := D.nx } σ2 H2) (hd : ∀ σ H, Pv 0 σ H → D.nx σ H) : ForR (Itc ((n : Int) - 1) (-1) n) g tb D σ H := by
  refine for_it walk_rangeC (fun i σ H => Pv (n - i) σ H) h0 (fun _ _ _ _ _ => trivial) (fun i x σ H H' hi p y => ?_) (fun σ H p => hd σ H (by rw [Nat.sub_self] at p; exact p))
  obtain ⟨rfl, rfl⟩ := y
  have e : ((n : Int) - 1 + (i : Nat) * -1) = ((n - (i + 1) : Nat) : Int) := by omega
  show g (V.int ((n : Int) - 1 + (i : Nat) * -1)) σ H' fun σ2 H2 => tb { D with nx := Pv (n - (i + 1)), ct := Pv (n - (i + 1)), bk := D.nx } σ2 H2
  rw [e]
  refine hs (n - (i + 1)) σ _ (by omega) ?_
  rw [show n - (i + 1) + 1 = n - i by omega]
  exact p
end
/-! ### a promise that nobody asks -/
theorem cal_false {P : Program} {w : World} {K : PySem.W.Frag} {mg : Str → Option Value} {base : Heap} {x : Str} {st : Stmt} {N ps : List Str} {k : Nat} {sp : Sp} (D : DefAt K mg x st ps) (S : FnScope N ps (defScope st)) (hf : ∀ vs H Q E, ¬ sp vs H Q E) : C8.Cal P w K mg base (k + 1) x sp [] :=
  calD D S (fun vs H Q E h => (hf vs H Q E h).elim) (fun _ _ _ _ _ H vs Q E _ h => (hf vs H Q E h).elim)
end Ly

set_option maxHeartbeats 4000000
namespace Ly
/-! ### stretches, partners -/
/-- the signs from a on and below b -/
def seg (l : List Nat) (a b : Nat) : List Nat := (l.take b).drop a
theorem seg_snoc {l : List Nat} {a n : Nat} (h : a ≤ n) (hn : n < l.length) : seg l a (n + 1) = seg l a n ++ [l[n]] := by
  unfold seg
  rw [List.take_succ_eq_append_getElem hn, List.drop_append_of_le_length (by rw [List.length_take]; omega)]
theorem seg_self {l : List Nat} {a : Nat} : seg l a a = [] := by
  unfold seg
  exact List.drop_eq_nil_of_le (by rw [List.length_take]; omega)
theorem seg_app {l : List Nat} {a b c : Nat} (h1 : a ≤ b) (h2 : b ≤ c) (h3 : b ≤ l.length) : seg l a c = seg l a b ++ seg l b c := by
  unfold seg
  have e : (l.take c).drop a = ((l.take c).take b ++ (l.take c).drop b).drop a := by rw [List.take_append_drop]
  rw [e, List.take_take, Nat.min_eq_left h2, List.drop_append_of_le_length (by rw [List.length_take]; omega)]
theorem seg_len {l : List Nat} {a b : Nat} (h : b ≤ l.length) : (seg l a b).length = b - a := by
  unfold seg
  rw [List.length_drop, List.length_take]
  omega
theorem seg_all {l : List Nat} : seg l 0 l.length = l := by
  unfold seg
  rw [List.take_length, List.drop_zero]
/-- i an opening bracket, j its partner -/
def ptn (l : List Nat) (i j : Nat) : Prop := i < j ∧ ∃ c, l[i]? = some c ∧ c ∈ OPN ∧ l[j]? = some (oth c) ∧ clean (seg l (i + 1) j)
/-! the pile from any begin -/
theorem fold_none : ∀ l : List Nat, l.foldl stp none = none
  | [] => rfl
  | c :: l => by
    rw [List.foldl_cons]
    exact fold_none l
/-- what lies deeper in the pile stays -/
theorem fold_deep : ∀ (l : List Nat) (st r : List Nat) (t : List Nat), l.foldl stp (some st) = some r → l.foldl stp (some (st ++ t)) = some (r ++ t)
  | [], st, r, t, h => by
    cases h
    rfl
  | c :: l, st, r, t, h => by
    rw [List.foldl_cons] at h ⊢
    by_cases h1 : c ∈ OPN
    · rw [stp_opn h1] at h ⊢
      exact fold_deep l (oth c :: st) r t h
    · by_cases h2 : c ∈ CLO
      · cases st with
        | nil =>
          have e : stp (some []) c = none := by unfold stp; simp only [h1, h2, if_true, if_false]
          rw [e, fold_none] at h
          cases h
        | cons d st =>
          by_cases hd : d = c
          · subst hd
            rw [stp_clo h2] at h
            rw [List.cons_append, stp_clo h2]
            exact fold_deep l st r t h
          · have e : stp (some (d :: st)) c = none := by unfold stp; simp only [h1, h2, hd, if_true, if_false]
            rw [e, fold_none] at h
            cases h
      · rw [stp_let h1 h2] at h ⊢
        exact fold_deep l st r t h
theorem run_clean_app {a b : List Nat} (h : clean a) : run (a ++ b) = run b := by
  rw [run_app, h]
  rfl
theorem fold_run {l : List Nat} {st r : List Nat} (h : run l = some r) : l.foldl stp (some st) = some (r ++ st) := by
  have := fold_deep l [] r st h
  simpa using this
/-- a clean text leaves each pile -/
theorem fold_clean {l : List Nat} (h : clean l) (st : Option (List Nat)) : l.foldl stp st = st := by
  cases st with
  | none => exact fold_none l
  | some st => simpa using fold_run (st := st) h
theorem clean_app {a b : List Nat} (h1 : clean a) (h2 : clean b) : clean (a ++ b) := by
  unfold clean
  rw [run_clean_app h1]
  exact h2
theorem clean_nil : clean [] := rfl
theorem clean_pair {c : Nat} {a : List Nat} (hc : c ∈ OPN) (h : clean a) : clean (c :: (a ++ [oth c])) := by
  show (c :: (a ++ [oth c])).foldl stp (some []) = some []
  rw [List.foldl_cons, stp_opn hc, List.foldl_append, fold_clean h]
  exact stp_clo (oth_clo c hc)
/-! ### the program's way -/
def pstep (l : List Nat) (s : List (Option Nat) × List Nat) (i c : Nat) : List (Option Nat) × List Nat :=
  if c ∈ OPN then (s.1, i :: s.2) else if c ∈ CLO then (match s.2 with
    | j :: w => if l[j]? = some (oth c) then ((s.1.set i (some j)).set j (some i), w) else (s.1, [])
    | [] => (s.1, [])) else s
def pst (l pre : List Nat) : List (Option Nat) × List Nat := pre.zipIdx.foldl (fun s ci => pstep l s ci.2 ci.1) (List.replicate l.length none, [])
theorem pst_snoc (l pre : List Nat) (c : Nat) : pst l (pre ++ [c]) = pstep l (pst l pre) pre.length c := by
  unfold pst
  rw [List.zipIdx_append, List.foldl_append]
  simp
def mates (l : List Nat) : List (Option Nat) := (pst l l).1
/-- what holds of both lists when the signs below n are gone over -/
structure PInv (l : List Nat) (n : Nat) (f : List (Option Nat)) (ws : List Nat) : Prop where
  len : f.length = l.length
  fnd : ∀ i j, f[i]? = some (some j) ↔ (ptn l i j ∧ j < n) ∨ (ptn l j i ∧ i < n)
  opn : ∀ j ∈ ws, j < n ∧ ∃ c, l[j]? = some c ∧ c ∈ OPN
  pile : ∀ k j, ws[k]? = some j → run (seg l (j + 1) n) = some ((ws.take k).map fun j => oth (l.getD j 0))
  all : ∀ i c, i < n → l[i]? = some c → c ∈ OPN → (run (seg l (i + 1) n)).isSome = true → i ∈ ws
  good : ∀ st, run (l.take n) = some st → ws.map (fun j => oth (l.getD j 0)) = st ∧ ∀ i c, i < n → l[i]? = some c → c ∈ BRK → f[i]? = some none → i ∈ ws
  bad : run (l.take n) = none → ∃ i c, i < n ∧ l[i]? = some c ∧ c ∈ CLO ∧ ∀ j, ¬ ptn l j i
theorem getD_of {l : List Nat} {j c : Nat} (h : l[j]? = some c) : l.getD j 0 = c := by
  rw [List.getD_eq_getElem?_getD, h]
  rfl
theorem ptn_lt {l : List Nat} {i j : Nat} (h : ptn l i j) : j < l.length := by
  obtain ⟨_, c, _, _, h2, _⟩ := h
  exact (List.getElem?_eq_some_iff.mp h2).1
theorem seg_run_snoc {l : List Nat} {a n c : Nat} (h : a ≤ n) (hc : l[n]? = some c) : run (seg l a (n + 1)) = stp (run (seg l a n)) c := by
  obtain ⟨hn, e⟩ := List.getElem?_eq_some_iff.mp hc
  rw [seg_snoc h hn, e, run_snoc]
theorem take_run_snoc {l : List Nat} {n c : Nat} (hc : l[n]? = some c) : run (l.take (n + 1)) = stp (run (l.take n)) c := by
  obtain ⟨hn, e⟩ := List.getElem?_eq_some_iff.mp hc
  rw [List.take_succ_eq_append_getElem hn, e, run_snoc]
/-- one closing bracket closes at most the last that waits -/
theorem PInv.top {l : List Nat} {n c : Nat} {f : List (Option Nat)} {ws : List Nat} (I : PInv l n f ws) (hc : l[n]? = some c) (h2 : c ∈ CLO) {i : Nat} (h : ptn l i n) : ∃ w, ws = i :: w ∧ l[i]? = some (oth c) := by
  obtain ⟨hlt, d, hd, hdo, hnd, hcl⟩ := h
  rw [hnd] at hc
  have ed : oth d = c := Option.some.inj hc
  have hi : i ∈ ws := I.all i d hlt hd hdo (by rw [hcl]; rfl)
  obtain ⟨k, hk⟩ := List.mem_iff_getElem?.mp hi
  have hp := I.pile k i hk
  rw [hcl] at hp
  have hk0 : ws.take k = [] := by
    have := Option.some.inj hp
    exact List.map_eq_nil_iff.mp this.symm
  have hk00 : k = 0 := by
    rcases Nat.eq_zero_or_pos k with h | h
    · exact h
    · exfalso
      have hlen : k < ws.length := (List.getElem?_eq_some_iff.mp hk).1
      have := congrArg List.length hk0
      rw [List.length_take, List.length_nil] at this
      omega
  subst hk00
  cases ws with
  | nil => cases hk
  | cons a w =>
    have : a = i := Option.some.inj hk
    subst this
    refine ⟨w, rfl, ?_⟩
    rw [hd, ← ed, oth_oth d (brk_or.mpr (.inl hdo))]
theorem pinv_step {l : List Nat} {n c : Nat} {f : List (Option Nat)} {ws : List Nat} (I : PInv l n f ws) (hc : l[n]? = some c) : PInv l (n + 1) (pstep l (f, ws) n c).1 (pstep l (f, ws) n c).2 := by
  have hn : n < l.length := (List.getElem?_eq_some_iff.mp hc).1
  by_cases h1 : c ∈ OPN
  · -- an opening bracket waits
    have e : pstep l (f, ws) n c = (f, n :: ws) := by unfold pstep; simp only [h1, if_true]
    rw [e]
    have hnc : c ∉ CLO := opn_clo c h1
    refine ⟨I.len, fun i j => ?_, fun j hj => ?_, fun k j hk => ?_, fun i d hi hd hdo hs => ?_, fun st hst => ?_, fun hb => ?_⟩
    · rw [I.fnd i j]
      have key : ∀ i, ¬ ptn l i n := by
        rintro i ⟨_, d, _, hdo, hnd, _⟩
        rw [hnd] at hc
        have : oth d = c := Option.some.inj hc
        exact hnc (this ▸ oth_clo d hdo)
      constructor
      · rintro (⟨p, h⟩ | ⟨p, h⟩)
        · exact .inl ⟨p, by omega⟩
        · exact .inr ⟨p, by omega⟩
      · rintro (⟨p, h⟩ | ⟨p, h⟩)
        · refine .inl ⟨p, ?_⟩
          rcases Nat.lt_or_ge j n with h' | h'
          · exact h'
          · have : j = n := by omega
            subst this
            exact absurd p (key i)
        · refine .inr ⟨p, ?_⟩
          rcases Nat.lt_or_ge i n with h' | h'
          · exact h'
          · have : i = n := by omega
            subst this
            exact absurd p (key j)
    · rcases List.mem_cons.mp hj with rfl | hj
      · exact ⟨by omega, c, hc, h1⟩
      · obtain ⟨a, b⟩ := I.opn j hj
        exact ⟨by omega, b⟩
    · cases k with
      | zero =>
        have : n = j := Option.some.inj hk
        subst this
        rw [seg_self]
        rfl
      | succ k =>
        have hk' : ws[k]? = some j := hk
        have hj := (I.opn j (List.mem_of_getElem? hk')).1
        rw [seg_run_snoc (by omega) hc, I.pile k j hk', stp_opn h1]
        show some (oth c :: _) = some (oth (l.getD n 0) :: _)
        rw [getD_of hc]
    · rcases Nat.lt_or_ge i n with h' | h'
      · refine List.mem_cons_of_mem _ (I.all i d h' hd hdo ?_)
        rw [seg_run_snoc (by omega) hc] at hs
        cases hr : run (seg l (i + 1) n) with
        | none => rw [hr] at hs; cases hs
        | some st => rfl
      · have : i = n := by omega
        subst this
        exact List.mem_cons_self ..
    · rw [take_run_snoc hc] at hst
      cases hr : run (l.take n) with
      | none => rw [hr] at hst; cases hst
      | some st0 =>
        rw [hr, stp_opn h1] at hst
        cases hst
        obtain ⟨a, b⟩ := I.good st0 hr
        refine ⟨?_, fun i d hi hd hdb hfi => ?_⟩
        · show oth (l.getD n 0) :: _ = oth c :: st0
          rw [a, getD_of hc]
        · rcases Nat.lt_or_ge i n with h' | h'
          · exact List.mem_cons_of_mem _ (b i d h' hd hdb hfi)
          · have : i = n := by omega
            subst this
            exact List.mem_cons_self ..
    · rw [take_run_snoc hc] at hb
      cases hr : run (l.take n) with
      | none =>
        obtain ⟨i, d, a, b⟩ := I.bad hr
        exact ⟨i, d, by omega, b⟩
      | some st0 =>
        rw [hr, stp_opn h1] at hb
        cases hb
  · by_cases h2 : c ∈ CLO
    · by_cases hm : ∃ j w, ws = j :: w ∧ l[j]? = some (oth c)
      · -- the last that waits is closed
        obtain ⟨j, w, rfl, hj⟩ := hm
        have e : pstep l (f, j :: w) n c = ((f.set n (some j)).set j (some n), w) := by unfold pstep; simp only [h1, h2, hj, if_true, if_false]
        rw [e]
        have hjn : j < n := (I.opn j (List.mem_cons_self ..)).1
        have hp0 := I.pile 0 j rfl
        have hclj : clean (seg l (j + 1) n) := hp0
        have hcc : oth (oth c) = c := oth_oth c (brk_or.mpr (.inr h2))
        have hpt : ptn l j n := ⟨hjn, oth c, hj, oth_opn c h2, by rw [hcc]; exact hc, hclj⟩
        have uniq : ∀ i, ptn l i n → i = j := fun i hi => by
          obtain ⟨w', ew, _⟩ := I.top hc h2 hi
          cases ew
          rfl
        have uniq2 : ∀ k, ptn l j k → k < n + 1 → k = n := fun k hk hkn => by
          rcases Nat.lt_or_ge k n with h' | h'
          · exfalso
            obtain ⟨hjk, d, hd, hdo, hkd, hcl⟩ := hk
            have hk2 : run (seg l (j + 1) (k + 1)) = none := by
              rw [seg_run_snoc (by omega) hkd, hcl]
              have a1 : oth d ∉ OPN := fun h => opn_clo _ h (oth_clo d hdo)
              unfold stp
              simp only [a1, oth_clo d hdo, if_true, if_false]
            have : run (seg l (j + 1) n) = none := by
              rw [seg_app (b := k + 1) (by omega) (by omega) (by omega), run_app, hk2, fold_none]
            rw [hclj] at this
            cases this
          · omega
        refine ⟨by simp [I.len], fun i k => ?_, fun i hi => ?_, fun k i hk => ?_, fun i d hi hd hdo hs => ?_, fun st hst => ?_, fun hb => ?_⟩
        · have hjl : j < f.length := by rw [I.len]; omega
          have hnl : n < f.length := by rw [I.len]; exact hn
          by_cases hij : i = j
          · subst hij
            rw [List.getElem?_set_self (by simp [hjl])]
            constructor
            · intro h
              cases h
              exact .inl ⟨hpt, by omega⟩
            · rintro (⟨p, h⟩ | ⟨p, h⟩)
              · rw [uniq2 k p h]
              · exfalso
                obtain ⟨_, d, _, hdo, hid, _⟩ := p
                rw [hj] at hid
                have : oth c = oth d := Option.some.inj hid
                exact opn_clo _ (oth_opn c h2) (this ▸ oth_clo d hdo)
          · rw [List.getElem?_set_ne (Ne.symm hij)]
            by_cases hin : i = n
            · subst hin
              rw [List.getElem?_set_self hnl]
              constructor
              · intro h
                cases h
                exact .inr ⟨hpt, by omega⟩
              · rintro (⟨p, h⟩ | ⟨p, h⟩)
                · have := p.1
                  omega
                · rw [uniq k p]
            · rw [List.getElem?_set_ne (Ne.symm hin), I.fnd i k]
              constructor
              · rintro (⟨p, h⟩ | ⟨p, h⟩)
                · exact .inl ⟨p, by omega⟩
                · exact .inr ⟨p, by omega⟩
              · rintro (⟨p, h⟩ | ⟨p, h⟩)
                · refine .inl ⟨p, ?_⟩
                  rcases Nat.lt_or_ge k n with h' | h'
                  · exact h'
                  · have : k = n := by omega
                    subst this
                    exact absurd (uniq i p) hij
                · exact .inr ⟨p, by omega⟩
        · obtain ⟨a, b⟩ := I.opn i (List.mem_cons_of_mem _ hi)
          exact ⟨by omega, b⟩
        · have hk' : (j :: w)[k + 1]? = some i := hk
          have hin := (I.opn i (List.mem_of_getElem? hk')).1
          have hpk := I.pile (k + 1) i hk'
          rw [seg_run_snoc (by omega) hc, hpk]
          show stp (some (oth (l.getD j 0) :: _)) c = _
          rw [getD_of hj, hcc, stp_clo h2]
        · have hin : i < n := by
            rcases Nat.lt_or_ge i n with h' | h'
            · exact h'
            · have : i = n := by omega
              subst this
              rw [hc] at hd
              cases hd
              exact absurd hdo h1
          rw [seg_run_snoc (by omega) hc] at hs
          have hmem : i ∈ j :: w := I.all i d hin hd hdo (by
            cases hr : run (seg l (i + 1) n) with
            | none => rw [hr] at hs; cases hs
            | some st => rfl)
          rcases List.mem_cons.mp hmem with rfl | h'
          · exfalso
            rw [hclj] at hs
            have : stp (some []) c = none := by unfold stp; simp only [h1, h2, if_true, if_false]
            rw [this] at hs
            cases hs
          · exact h'
        · rw [take_run_snoc hc] at hst
          cases hr : run (l.take n) with
          | none => rw [hr] at hst; cases hst
          | some st0 =>
            obtain ⟨a, b⟩ := I.good st0 hr
            have a' : oth (l.getD j 0) :: w.map (fun j => oth (l.getD j 0)) = st0 := a
            rw [getD_of hj, hcc] at a'
            rw [hr, ← a', stp_clo h2] at hst
            have hst' := Option.some.inj hst
            refine ⟨hst', fun i d hi hd hdb hfi => ?_⟩
            have hjl : j < f.length := by rw [I.len]; omega
            have hnl : n < f.length := by rw [I.len]; exact hn
            by_cases hij : i = j
            · subst hij
              rw [List.getElem?_set_self (by simp [hjl])] at hfi
              cases hfi
            · rw [List.getElem?_set_ne (Ne.symm hij)] at hfi
              by_cases hin : i = n
              · subst hin
                rw [List.getElem?_set_self hnl] at hfi
                cases hfi
              · rw [List.getElem?_set_ne (Ne.symm hin)] at hfi
                rcases List.mem_cons.mp (b i d (by omega) hd hdb hfi) with rfl | h'
                · exact absurd rfl hij
                · exact h'
        · rw [take_run_snoc hc] at hb
          cases hr : run (l.take n) with
          | none =>
            obtain ⟨i, d, a, b⟩ := I.bad hr
            exact ⟨i, d, by omega, b⟩
          | some st0 =>
            obtain ⟨a, b⟩ := I.good st0 hr
            have a' : oth (l.getD j 0) :: w.map (fun j => oth (l.getD j 0)) = st0 := a
            rw [getD_of hj, hcc] at a'
            rw [hr, ← a', stp_clo h2] at hb
            cases hb
      · -- nothing is closed: all is forgotten
        have e : pstep l (f, ws) n c = (f, []) := by
          unfold pstep
          simp only [h1, h2, if_true, if_false]
          cases ws with
          | nil => rfl
          | cons j w =>
            have : ¬ l[j]? = some (oth c) := fun h => hm ⟨j, w, rfl, h⟩
            simp only [this, if_false]
        rw [e]
        have none_n : ∀ i, ¬ ptn l i n := fun i hi => by
          obtain ⟨w, ew, hl⟩ := I.top hc h2 hi
          exact hm ⟨i, w, ew, hl⟩
        refine ⟨I.len, fun i j => ?_, fun j hj => (by cases hj), fun k j hk => (by cases hk), fun i d hi hd hdo hs => ?_, fun st hst => ?_, fun hb => ⟨n, c, by omega, hc, h2, none_n⟩⟩
        · rw [I.fnd i j]
          constructor
          · rintro (⟨p, h⟩ | ⟨p, h⟩)
            · exact .inl ⟨p, by omega⟩
            · exact .inr ⟨p, by omega⟩
          · rintro (⟨p, h⟩ | ⟨p, h⟩)
            · refine .inl ⟨p, ?_⟩
              rcases Nat.lt_or_ge j n with h' | h'
              · exact h'
              · have : j = n := by omega
                subst this
                exact absurd p (none_n i)
            · refine .inr ⟨p, ?_⟩
              rcases Nat.lt_or_ge i n with h' | h'
              · exact h'
              · have : i = n := by omega
                subst this
                exact absurd p (none_n j)
        · exfalso
          have hin : i < n := by
            rcases Nat.lt_or_ge i n with h' | h'
            · exact h'
            · have : i = n := by omega
              subst this
              rw [hc] at hd
              cases hd
              exact absurd hdo h1
          rw [seg_run_snoc (by omega) hc] at hs
          cases hr : run (seg l (i + 1) n) with
          | none => rw [hr] at hs; cases hs
          | some st =>
            have hmem : i ∈ ws := I.all i d hin hd hdo (by rw [hr]; rfl)
            obtain ⟨k, hk⟩ := List.mem_iff_getElem?.mp hmem
            have hp := I.pile k i hk
            rw [hr] at hs
            rw [hr] at hp
            have hp' := Option.some.inj hp
            subst hp'
            cases k with
            | zero =>
              have : stp (some []) c = none := by unfold stp; simp only [h1, h2, if_true, if_false]
              rw [List.take_zero, List.map_nil, this] at hs
              cases hs
            | succ k =>
              cases ws with
              | nil => cases hk
              | cons j w =>
                obtain ⟨hjn, cj, hcj, hcjo⟩ := I.opn j (List.mem_cons_self ..)
                rw [List.take_succ_cons, List.map_cons, getD_of hcj] at hs
                have hne : oth cj ≠ c := fun h => hm ⟨j, w, rfl, by rw [hcj, ← h, oth_oth cj (brk_or.mpr (.inl hcjo))]⟩
                have : stp (some (oth cj :: (w.take k).map fun j => oth (l.getD j 0))) c = none := by unfold stp; simp only [h1, h2, hne, if_true, if_false]
                rw [this] at hs
                cases hs
        · exfalso
          rw [take_run_snoc hc] at hst
          cases hr : run (l.take n) with
          | none => rw [hr] at hst; cases hst
          | some st0 =>
            obtain ⟨a, b⟩ := I.good st0 hr
            subst a
            rw [hr] at hst
            cases ws with
            | nil =>
              have : stp (some []) c = none := by unfold stp; simp only [h1, h2, if_true, if_false]
              rw [List.map_nil, this] at hst
              cases hst
            | cons j w =>
              obtain ⟨hjn, cj, hcj, hcjo⟩ := I.opn j (List.mem_cons_self ..)
              rw [List.map_cons, getD_of hcj] at hst
              have hne : oth cj ≠ c := fun h => hm ⟨j, w, rfl, by rw [hcj, ← h, oth_oth cj (brk_or.mpr (.inl hcjo))]⟩
              have : stp (some (oth cj :: w.map fun j => oth (l.getD j 0))) c = none := by unfold stp; simp only [h1, h2, hne, if_true, if_false]
              rw [this] at hst
              cases hst
    · -- a letter
      have e : pstep l (f, ws) n c = (f, ws) := by unfold pstep; simp only [h1, h2, if_false]
      rw [e]
      have none_n : ∀ i, ¬ ptn l i n := by
        rintro i ⟨_, d, _, hdo, hnd, _⟩
        rw [hnd] at hc
        have : oth d = c := Option.some.inj hc
        exact h2 (this ▸ oth_clo d hdo)
      refine ⟨I.len, fun i j => ?_, fun j hj => ?_, fun k j hk => ?_, fun i d hi hd hdo hs => ?_, fun st hst => ?_, fun hb => ?_⟩
      · rw [I.fnd i j]
        constructor
        · rintro (⟨p, h⟩ | ⟨p, h⟩)
          · exact .inl ⟨p, by omega⟩
          · exact .inr ⟨p, by omega⟩
        · rintro (⟨p, h⟩ | ⟨p, h⟩)
          · refine .inl ⟨p, ?_⟩
            rcases Nat.lt_or_ge j n with h' | h'
            · exact h'
            · have : j = n := by omega
              subst this
              exact absurd p (none_n i)
          · refine .inr ⟨p, ?_⟩
            rcases Nat.lt_or_ge i n with h' | h'
            · exact h'
            · have : i = n := by omega
              subst this
              exact absurd p (none_n j)
      · obtain ⟨a, b⟩ := I.opn j hj
        exact ⟨by omega, b⟩
      · have hj := (I.opn j (List.mem_of_getElem? hk)).1
        rw [seg_run_snoc (by omega) hc, I.pile k j hk, stp_let h1 h2]
      · have hin : i < n := by
          rcases Nat.lt_or_ge i n with h' | h'
          · exact h'
          · have : i = n := by omega
            subst this
            rw [hc] at hd
            cases hd
            exact absurd hdo h1
        rw [seg_run_snoc (by omega) hc, stp_let h1 h2] at hs
        exact I.all i d hin hd hdo hs
      · rw [take_run_snoc hc, stp_let h1 h2] at hst
        obtain ⟨a, b⟩ := I.good st hst
        refine ⟨a, fun i d hi hd hdb hfi => ?_⟩
        rcases Nat.lt_or_ge i n with h' | h'
        · exact b i d h' hd hdb hfi
        · have : i = n := by omega
          subst this
          rw [hc] at hd
          cases hd
          exact absurd (brk_or.mp hdb) (by simp [h1, h2])
      · rw [take_run_snoc hc, stp_let h1 h2] at hb
        obtain ⟨i, d, a, b⟩ := I.bad hb
        exact ⟨i, d, by omega, b⟩
theorem pinv_start (l : List Nat) : PInv l 0 (List.replicate l.length none) [] := by
  refine ⟨by simp, fun i j => ⟨fun h => ?_, fun h => ?_⟩, fun j hj => (by cases hj), fun k j hk => (by cases hk), fun i d hi => absurd hi (Nat.not_lt_zero _), fun st hst => ?_, fun hb => ?_⟩
  · rw [List.getElem?_replicate] at h
    split at h <;> cases h
  · rcases h with ⟨_, h⟩ | ⟨_, h⟩ <;> exact absurd h (Nat.not_lt_zero _)
  · rw [List.take_zero] at hst
    cases hst
    exact ⟨rfl, fun i d hi => absurd hi (Nat.not_lt_zero _)⟩
  · rw [List.take_zero] at hb
    cases hb
theorem pinv_all (l : List Nat) : ∀ n, n ≤ l.length → PInv l n (pst l (l.take n)).1 (pst l (l.take n)).2
  | 0, _ => by
    rw [List.take_zero]
    exact pinv_start l
  | n + 1, h => by
    have hn : n < l.length := h
    have ih := pinv_all l n (Nat.le_of_lt hn)
    rw [List.take_succ_eq_append_getElem hn, pst_snoc, List.length_take, Nat.min_eq_left (Nat.le_of_lt hn)]
    exact pinv_step ih (List.getElem?_eq_getElem hn)
theorem pinv_end (l : List Nat) : PInv l l.length (mates l) (pst l l).2 := by
  have h := pinv_all l l.length (Nat.le_refl _)
  rw [List.take_length] at h
  exact h
/-- POINT 5: the told partners -/
theorem mates_ptn (l : List Nat) (i j : Nat) : (mates l)[i]? = some (some j) ↔ ptn l i j ∨ ptn l j i := by
  rw [(pinv_end l).fnd i j]
  constructor
  · rintro (⟨p, _⟩ | ⟨p, _⟩)
    · exact .inl p
    · exact .inr p
  · rintro (p | p)
    · exact .inl ⟨p, ptn_lt p⟩
    · exact .inr ⟨p, ptn_lt p⟩
theorem mates_len (l : List Nat) : (mates l).length = l.length := (pinv_end l).len
/-- clean just where each bracket has a partner -/
theorem clean_mates (l : List Nat) : clean l ↔ ∀ (i c : Nat), l[i]? = some c → c ∈ BRK → (mates l)[i]? ≠ some none := by
  have I := pinv_end l
  constructor
  · intro h i c hi hc hn
    have hr : run (l.take l.length) = some [] := by rw [List.take_length]; exact h
    obtain ⟨a, b⟩ := I.good [] hr
    have hw : (pst l l).2 = [] := List.map_eq_nil_iff.mp a
    have := b i c (List.getElem?_eq_some_iff.mp hi).1 hi hc hn
    rw [hw] at this
    cases this
  · intro h
    cases hr : run (l.take l.length) with
    | none =>
      exfalso
      obtain ⟨i, c, hi, hc, hcc, hp⟩ := I.bad hr
      have hi' : i < (mates l).length := by rw [mates_len]; exact hi
      have hm : (mates l)[i]? = some (mates l)[i] := List.getElem?_eq_getElem hi'
      refine h i c hc (brk_or.mpr (.inr hcc)) ?_
      cases hv : (mates l)[i] with
      | none => rw [hm, hv]
      | some j =>
        exfalso
        rw [hv] at hm
        rcases (mates_ptn l i j).mp hm with p | p
        · obtain ⟨_, d, hd, hdo, _⟩ := p
          rw [hc] at hd
          cases hd
          exact opn_clo _ hdo hcc
        · exact hp j p
    | some st =>
      obtain ⟨a, _⟩ := I.good st hr
      rw [List.take_length] at hr
      cases hw : (pst l l).2 with
      | nil =>
        rw [hw] at a
        show run l = some []
        rw [hr, ← a]
        rfl
      | cons j w =>
        exfalso
        have hj : j ∈ (pst l l).2 := by rw [hw]; exact List.mem_cons_self ..
        obtain ⟨hjl, c, hc, hco⟩ := I.opn j hj
        have hj' : j < (mates l).length := by rw [mates_len]; exact hjl
        have hm : (mates l)[j]? = some (mates l)[j] := List.getElem?_eq_getElem hj'
        refine h j c hc (brk_or.mpr (.inl hco)) ?_
        cases hv : (mates l)[j] with
        | none => rw [hm, hv]
        | some k =>
          exfalso
          rw [hv] at hm
          rcases (mates_ptn l j k).mp hm with p | p
          · obtain ⟨m, hmm⟩ := List.mem_iff_getElem?.mp hj
            have hp := I.pile m j hmm
            have hkl := ptn_lt p
            obtain ⟨hjk, d, hd, hdo, hkd, hcl⟩ := p
            have hk2 : run (seg l (j + 1) (k + 1)) = none := by
              rw [seg_run_snoc (by omega) hkd, hcl]
              have a1 : oth d ∉ OPN := fun h => opn_clo _ h (oth_clo d hdo)
              unfold stp
              simp only [a1, oth_clo d hdo, if_true, if_false]
            rw [seg_app (b := k + 1) (by omega) (by omega) (by omega), run_app, hk2, fold_none] at hp
            cases hp
          · obtain ⟨_, d, hd, hdo, hkd, _⟩ := p
            rw [hc] at hkd
            have : c = oth d := Option.some.inj hkd
            exact opn_clo _ hco (this ▸ oth_clo d hdo)
end Ly

set_option maxHeartbeats 4000000
namespace Ly
/-- the first place at which the pile is as it was below d -/
theorem fold_split : ∀ (n : Nat) (r d st t), r.length ≤ n → d ∈ CLO → r.foldl stp (some (d :: st)) = some t → t.length ≤ st.length → ∃ a b, r = a ++ d :: b ∧ clean a ∧ b.foldl stp (some st) = some t
  | n, [], d, st, t, _, _, h, hl => by
    cases h
    simp at hl
    omega
  | 0, e :: r, d, st, t, hn, _, _, _ => by simp at hn
  | n + 1, e :: r, d, st, t, hn, hd, h, hl => by
    have hn' : r.length ≤ n := by simpa using hn
    rw [List.foldl_cons] at h
    by_cases h1 : e ∈ OPN
    · rw [stp_opn h1] at h
      obtain ⟨a1, b1, e1, c1, f1⟩ := fold_split n r (oth e) (d :: st) t hn' (oth_clo e h1) h (by simp; omega)
      have hb1 : b1.length ≤ n := by
        rw [e1] at hn'
        simp at hn'
        omega
      obtain ⟨a2, b2, e2, c2, f2⟩ := fold_split n b1 d st t hb1 hd f1 hl
      refine ⟨e :: (a1 ++ [oth e]) ++ a2, b2, by rw [e1, e2]; simp, clean_app (clean_pair h1 c1) c2, f2⟩
    · by_cases h2 : e ∈ CLO
      · by_cases hde : d = e
        · subst hde
          rw [stp_clo h2] at h
          exact ⟨[], r, rfl, clean_nil, h⟩
        · exfalso
          have : stp (some (d :: st)) e = none := by unfold stp; simp only [h1, h2, hde, if_true, if_false]
          rw [this, fold_none] at h
          cases h
      · rw [stp_let h1 h2] at h
        obtain ⟨a, b, e1, c1, f1⟩ := fold_split n r d st t hn' hd h hl
        refine ⟨e :: a, b, by rw [e1]; rfl, ?_, f1⟩
        show (e :: a).foldl stp (some []) = some []
        rw [List.foldl_cons, stp_let h1 h2]
        exact c1
/-- a clean text that begins with an opening bracket -/
theorem clean_opn {c : Nat} {r : List Nat} (hc : c ∈ OPN) (h : clean (c :: r)) : ∃ a b, r = a ++ oth c :: b ∧ clean a ∧ clean b := by
  have h' : (c :: r).foldl stp (some []) = some [] := h
  rw [List.foldl_cons, stp_opn hc] at h'
  obtain ⟨a, b, e, c1, f1⟩ := fold_split r.length r (oth c) [] [] (Nat.le_refl _) (oth_clo c hc) h' (Nat.le_refl _)
  exact ⟨a, b, e, c1, f1⟩
theorem clean_let {c : Nat} {r : List Nat} (h1 : c ∉ OPN) (h2 : c ∉ CLO) : clean (c :: r) ↔ clean r := by
  show (c :: r).foldl stp (some []) = some [] ↔ _
  rw [List.foldl_cons, stp_let h1 h2]
  rfl
theorem clean_clo {c : Nat} {r : List Nat} (h2 : c ∈ CLO) : ¬ clean (c :: r) := by
  intro h
  have h' : (c :: r).foldl stp (some []) = some [] := h
  have h1 : c ∉ OPN := fun h => opn_clo c h h2
  have : stp (some []) c = none := by unfold stp; simp only [h1, h2, if_true, if_false]
  rw [List.foldl_cons, this, fold_none] at h'
  cases h'
theorem clean_cancel {a b : List Nat} (h : clean a) : clean (a ++ b) ↔ clean b := by
  unfold clean
  rw [run_clean_app h]
/-! ### by places -/
theorem seg_cons {l : List Nat} {a b c : Nat} (h : l[a]? = some c) (hb : a < b) (hl : b ≤ l.length) : seg l a b = c :: seg l (a + 1) b := by
  obtain ⟨ha, e⟩ := List.getElem?_eq_some_iff.mp h
  rw [seg_app (b := a + 1) (by omega) (by omega) (by omega), seg_snoc (Nat.le_refl a) ha, seg_self, e]
  rfl
/-- a clean stretch from an opening bracket on holds its partner -/
theorem seg_opn {l : List Nat} {a b c : Nat} (h : l[a]? = some c) (hc : c ∈ OPN) (hb : a < b) (hl : b ≤ l.length) (hcl : clean (seg l a b)) : ∃ k, ptn l a k ∧ k < b ∧ clean (seg l (k + 1) b) := by
  rw [seg_cons h hb hl] at hcl
  obtain ⟨x, y, e, cx, cy⟩ := clean_opn hc hcl
  have hlen := congrArg List.length e
  rw [seg_len hl] at hlen
  simp at hlen
  have hk : a + 1 + x.length < b := by omega
  have hx : seg l (a + 1) (a + 1 + x.length) = x := by
    have e1 := seg_app (l := l) (a := a + 1) (b := a + 1 + x.length) (c := b) (by omega) (by omega) (by omega)
    rw [e] at e1
    exact ((List.append_inj e1 (by rw [seg_len (by omega)]; omega)).1).symm
  have hy : seg l (a + 1 + x.length) b = oth c :: y := by
    have e1 := seg_app (l := l) (a := a + 1) (b := a + 1 + x.length) (c := b) (by omega) (by omega) (by omega)
    rw [e] at e1
    exact ((List.append_inj e1 (by rw [seg_len (by omega)]; omega)).2).symm
  have hlk : l[a + 1 + x.length]? = some (oth c) := by
    have hlt : a + 1 + x.length < l.length := by omega
    have e2 := List.getElem?_eq_getElem hlt
    have e3 := seg_cons e2 hk hl
    rw [hy] at e3
    rw [e2]
    exact congrArg some (List.cons.inj e3).1.symm
  refine ⟨a + 1 + x.length, ⟨by omega, c, h, hc, hlk, by rw [hx]; exact cx⟩, hk, ?_⟩
  have e3 := seg_cons hlk hk hl
  rw [hy] at e3
  rw [← (List.cons.inj e3).2]
  exact cy
theorem seg_let {l : List Nat} {a b c : Nat} (h : l[a]? = some c) (h1 : c ∉ OPN) (h2 : c ∉ CLO) (hb : a < b) (hl : b ≤ l.length) : clean (seg l a b) ↔ clean (seg l (a + 1) b) := by
  rw [seg_cons h hb hl]
  exact clean_let h1 h2
theorem seg_clo {l : List Nat} {a b c : Nat} (h : l[a]? = some c) (h2 : c ∈ CLO) (hb : a < b) (hl : b ≤ l.length) : ¬ clean (seg l a b) := by
  rw [seg_cons h hb hl]
  exact clean_clo h2
/-- the pair itself is clean -/
theorem ptn_clean {l : List Nat} {i j : Nat} (h : ptn l i j) : clean (seg l i (j + 1)) := by
  have hj := ptn_lt h
  obtain ⟨hij, c, hc, hco, hd, hcl⟩ := h
  have e : seg l i (j + 1) = c :: (seg l (i + 1) j ++ [oth c]) := by
    rw [seg_cons hc (by omega) (by omega), seg_snoc (by omega) hj, (List.getElem?_eq_some_iff.mp hd).2]
  rw [e]
  exact clean_pair hco hcl
theorem ptn_fun {l : List Nat} {i j k : Nat} (h1 : ptn l i j) (h2 : ptn l i k) : j = k := by
  have a := (mates_ptn l i j).mpr (.inl h1)
  have b := (mates_ptn l i k).mpr (.inl h2)
  rw [a] at b
  exact Option.some.inj (Option.some.inj b)
theorem ptn_inj {l : List Nat} {i j k : Nat} (h1 : ptn l i k) (h2 : ptn l j k) : i = j := by
  have a := (mates_ptn l k i).mpr (.inr h1)
  have b := (mates_ptn l k j).mpr (.inr h2)
  rw [a] at b
  exact Option.some.inj (Option.some.inj b)
end Ly

set_option maxHeartbeats 4000000
namespace Ly
/-! ### partners found from behind -/
def over (l : List Nat) (m : List (Option Nat)) (s : Nat) : Bool := match l[s]? with
  | none => false
  | some c => if c ∈ CLO then false else if c ∈ OPN then (match m[s]? with | some (some _) => true | _ => false) else true
/-- the opening brackets from k on have their partners -/
def Beh (l : List Nat) (m : List (Option Nat)) (k : Nat) : Prop := m.length = l.length ∧ ∀ i j, m[i]? = some (some j) ↔ k ≤ i ∧ ptn l i j
/-- the way of the inner loop -/
def Spt (l : List Nat) (a s : Nat) : Prop := a < s ∧ s ≤ l.length ∧ clean (seg l (a + 1) s) ∧ ∀ j, ptn l a j → s ≤ j
theorem beh_start (l : List Nat) : Beh l (List.replicate l.length none) l.length := by
  refine ⟨by simp, fun i j => ?_⟩
  constructor
  · intro h
    rw [List.getElem?_replicate] at h
    split at h <;> cases h
  · rintro ⟨h1, h2⟩
    have := ptn_lt h2
    have := h2.1
    omega
theorem spt_start {l : List Nat} {a : Nat} (h : a < l.length) : Spt l a (a + 1) := ⟨by omega, by omega, by rw [seg_self]; exact clean_nil, fun j hj => hj.1⟩
theorem spt_rest {l : List Nat} {a s j : Nat} (S : Spt l a s) (h : ptn l a j) : clean (seg l s j) := by
  have hj := ptn_lt h
  have h2 := S.2.2.2 j h
  obtain ⟨h1, c, _, _, _, hc⟩ := h
  rw [seg_app (b := s) (by have := S.1; omega) h2 S.2.1] at hc
  exact (clean_cancel S.2.2.1).mp hc
theorem seg_one {l : List Nat} {a c : Nat} (h : l[a]? = some c) : seg l a (a + 1) = [c] := by
  obtain ⟨hl, e⟩ := List.getElem?_eq_some_iff.mp h
  rw [seg_snoc (Nat.le_refl a) hl, seg_self, e]
  rfl
theorem spt_let {l : List Nat} {a s c : Nat} (S : Spt l a s) (h : l[s]? = some c) (h1 : c ∉ OPN) (h2 : c ∉ CLO) : Spt l a (s + 1) := by
  obtain ⟨hl, e⟩ := List.getElem?_eq_some_iff.mp h
  refine ⟨by have := S.1; omega, hl, ?_, fun j hj => ?_⟩
  · rw [seg_app (b := s) (by have := S.1; omega) (by omega) (by omega), clean_cancel S.2.2.1, seg_one h]
    exact (clean_let h1 h2).mpr clean_nil
  · have := S.2.2.2 j hj
    rcases Nat.lt_or_ge s j with h' | h'
    · exact h'
    · exfalso
      have : s = j := by omega
      subst this
      obtain ⟨_, d, _, hd, he, _⟩ := hj
      rw [h] at he
      cases he
      exact h2 (oth_clo d hd)
theorem spt_opn {l : List Nat} {a s c k : Nat} (S : Spt l a s) (h : l[s]? = some c) (h1 : c ∈ OPN) (hk : ptn l s k) : Spt l a (k + 1) := by
  obtain ⟨hl, e⟩ := List.getElem?_eq_some_iff.mp h
  have hkl := ptn_lt hk
  have hsk := hk.1
  refine ⟨by have := S.1; omega, hkl, ?_, fun j hj => ?_⟩
  · rw [seg_app (b := s) (by have := S.1; omega) (by omega) (by omega), clean_cancel S.2.2.1]
    exact ptn_clean hk
  · have h3 := S.2.2.2 j hj
    have hjl := ptn_lt hj
    rcases Nat.lt_or_ge s j with h' | h'
    · obtain ⟨k', p', q', _⟩ := seg_opn h h1 h' (by omega) (spt_rest S hj)
      have := ptn_fun hk p'
      omega
    · exfalso
      have : s = j := by omega
      subst this
      obtain ⟨_, d, _, hd, he, _⟩ := hj
      rw [h] at he
      cases he
      exact opn_clo _ h1 (oth_clo d hd)
theorem spt_end {l : List Nat} {m : List (Option Nat)} {a s j : Nat} (S : Spt l a s) (B : Beh l m (a + 1)) (ho : over l m s = false) (h : ptn l a j) : s = j := by
  have h3 := S.2.2.2 j h
  have hjl := ptn_lt h
  rcases Nat.lt_or_ge s j with h' | h'
  · exfalso
    have hs : s < l.length := by omega
    have e := List.getElem?_eq_getElem hs
    have r := spt_rest S h
    have h2 : l[s] ∉ CLO := fun h2 => seg_clo e h2 h' (by omega) r
    unfold over at ho
    simp only [e, h2, if_false] at ho
    by_cases h1 : l[s] ∈ OPN
    · obtain ⟨k', p', q', _⟩ := seg_opn e h1 h' (by omega) r
      have hm := (B.2 s k').mpr ⟨S.1, p'⟩
      simp only [h1, if_true, hm] at ho
      cases ho
    · simp only [h1, if_false] at ho
      cases ho
  · omega
theorem spt_ptn {l : List Nat} {a s c : Nat} (S : Spt l a s) (h : l[a]? = some c) (h1 : c ∈ OPN) (he : l[s]? = some (oth c)) : ptn l a s := ⟨S.1, c, h, h1, he, S.2.2.1⟩
theorem beh_other {l : List Nat} {m : List (Option Nat)} {a : Nat} (B : Beh l m (a + 1)) (h : ∀ j, ¬ ptn l a j) : Beh l m a := by
  refine ⟨B.1, fun i j => ?_⟩
  rw [B.2]
  constructor
  · rintro ⟨x, y⟩
    exact ⟨by omega, y⟩
  · rintro ⟨x, y⟩
    rcases Nat.lt_or_ge a i with h' | h'
    · exact ⟨h', y⟩
    · have : i = a := by omega
      subst this
      exact absurd y (h j)
theorem beh_set {l : List Nat} {m : List (Option Nat)} {a s : Nat} (B : Beh l m (a + 1)) (h : ptn l a s) : Beh l (m.set a (some s)) a := by
  have hal : a < m.length := by rw [B.1]; have := ptn_lt h; have := h.1; omega
  refine ⟨by rw [List.length_set]; exact B.1, fun i j => ?_⟩
  by_cases e : i = a
  · subst e
    rw [List.getElem?_set_self hal]
    constructor
    · intro h'
      have : s = j := Option.some.inj (Option.some.inj h')
      subst this
      exact ⟨Nat.le_refl _, h⟩
    · rintro ⟨_, h'⟩
      rw [ptn_fun h h']
  · rw [List.getElem?_set_ne (fun h => e h.symm), B.2]
    constructor
    · rintro ⟨x, y⟩
      exact ⟨by omega, y⟩
    · rintro ⟨x, y⟩
      exact ⟨by omega, y⟩
/-- the closing brackets whose partners lie below k have them too -/
def Bot (l : List Nat) (m : List (Option Nat)) (k : Nat) : Prop := m.length = l.length ∧ ∀ i j, m[i]? = some (some j) ↔ ptn l i j ∨ (ptn l j i ∧ j < k)
theorem bot_start {l : List Nat} {m : List (Option Nat)} (B : Beh l m 0) : Bot l m 0 := by
  refine ⟨B.1, fun i j => ?_⟩
  rw [B.2]
  constructor
  · rintro ⟨_, y⟩
    exact .inl y
  · rintro (y | ⟨_, y⟩)
    · exact ⟨Nat.zero_le _, y⟩
    · omega
theorem ptn_not {l : List Nat} {i j k : Nat} (h : ptn l i j) : ¬ ptn l j k := by
  rintro ⟨_, c, h1, h2, _⟩
  obtain ⟨_, d, _, h3, h4, _⟩ := h
  rw [h1] at h4
  cases h4
  exact opn_clo _ h2 (oth_clo d h3)
theorem bot_set {l : List Nat} {m : List (Option Nat)} {k j : Nat} (B : Bot l m k) (h : m[k]? = some (some j)) (hj : k < j) : Bot l (m.set j (some k)) (k + 1) := by
  have hp : ptn l k j := by
    rcases (B.2 k j).mp h with h | ⟨h, h2⟩
    · exact h
    · have := h.1
      omega
  have hjl : j < m.length := by rw [B.1]; exact ptn_lt hp
  refine ⟨by rw [List.length_set]; exact B.1, fun i x => ?_⟩
  by_cases e : i = j
  · subst e
    rw [List.getElem?_set_self hjl]
    constructor
    · intro h'
      have : k = x := Option.some.inj (Option.some.inj h')
      subst this
      exact .inr ⟨hp, by omega⟩
    · rintro (h' | ⟨h', _⟩)
      · exact absurd h' (ptn_not hp)
      · rw [ptn_inj hp h']
  · rw [List.getElem?_set_ne (fun h => e h.symm), B.2]
    constructor
    · rintro (h' | ⟨h', h2⟩)
      · exact .inl h'
      · exact .inr ⟨h', by omega⟩
    · rintro (h' | ⟨h', h2⟩)
      · exact .inl h'
      · refine .inr ⟨h', ?_⟩
        rcases Nat.lt_or_ge x k with h3 | h3
        · exact h3
        · have : x = k := by omega
          subst this
          exact absurd (ptn_fun hp h') (fun h => e h.symm)
theorem bot_keep {l : List Nat} {m : List (Option Nat)} {k : Nat} (B : Bot l m k) (h : ∀ j, m[k]? = some (some j) → j ≤ k) : Bot l m (k + 1) := by
  refine ⟨B.1, fun i x => ?_⟩
  rw [B.2]
  constructor
  · rintro (h' | ⟨h', h2⟩)
    · exact .inl h'
    · exact .inr ⟨h', by omega⟩
  · rintro (h' | ⟨h', h2⟩)
    · exact .inl h'
    · refine .inr ⟨h', ?_⟩
      rcases Nat.lt_or_ge x k with h3 | h3
      · exact h3
      · have : x = k := by omega
        subst this
        have h4 := h i ((B.2 x i).mpr (.inl h'))
        have := h'.1
        omega
theorem bot_end {l : List Nat} {m : List (Option Nat)} (B : Bot l m l.length) : m = mates l := by
  have key : ∀ i j : Nat, m[i]? = some (some j) ↔ (mates l)[i]? = some (some j) := by
    intro i j
    rw [B.2, mates_ptn]
    constructor
    · rintro (h | ⟨h, _⟩)
      · exact .inl h
      · exact .inr h
    · rintro (h | h)
      · exact .inl h
      · exact .inr ⟨h, by have := ptn_lt h; have := h.1; omega⟩
  apply List.ext_getElem?
  intro i
  have hlen : m.length = (mates l).length := by rw [B.1, mates_len]
  rcases Nat.lt_or_ge i m.length with h | h
  · have e1 := List.getElem?_eq_getElem h
    have e2 := List.getElem?_eq_getElem (l := mates l) (by rw [← hlen]; exact h)
    cases hx : m[i] with
    | some j =>
      rw [hx] at e1
      rw [e1, (key i j).mp e1]
    | none =>
      cases hy : (mates l)[i]'(by rw [← hlen]; exact h) with
      | none => rw [e1, e2, hx, hy]
      | some j =>
        rw [hy] at e2
        have := (key i j).mpr e2
        rw [e1, hx] at this
        cases this
  · rw [List.getElem?_eq_none h, List.getElem?_eq_none (by omega)]
end Ly

set_option maxHeartbeats 4000000
namespace Ly
/-! ### clean texts put together -/
theorem run_mid {a m b : List Nat} (h : clean m) : run (a ++ m ++ b) = run (a ++ b) := by
  rw [run_app, run_app, fold_clean h, ← run_app]
theorem clean_mid {a m b : List Nat} (h : clean m) : clean (a ++ m ++ b) ↔ clean (a ++ b) := by
  unfold clean
  rw [run_mid h]
theorem clean_both {m t : List Nat} (h : clean m) : clean (m ++ t ++ m) ↔ clean t := by
  have e : m ++ t ++ m = (m ++ t) ++ m ++ [] := by simp
  rw [e, clean_mid h, List.append_nil]
  exact clean_cancel h
theorem fold_only : ∀ (l : List Nat) (st : Option (List Nat)), (l.filter fun c => decide (c ∈ BRK)).foldl stp st = l.foldl stp st
  | [], st => rfl
  | c :: l, st => by
    by_cases h : c ∈ BRK
    · rw [List.filter_cons_of_pos (by simpa using h), List.foldl_cons, List.foldl_cons, fold_only l]
    · rw [List.filter_cons_of_neg (by simpa using h), List.foldl_cons, fold_only l, stp_let (fun h' => h (brk_or.mpr (.inl h'))) (fun h' => h (brk_or.mpr (.inr h')))]
theorem clean_only (l : List Nat) : clean (l.filter fun c => decide (c ∈ BRK)) ↔ clean l := by
  unfold clean run
  rw [fold_only]
def cntO (l : List Nat) : Nat := l.countP fun c => decide (c ∈ OPN)
def cntC (l : List Nat) : Nat := l.countP fun c => decide (c ∈ CLO)
theorem fold_cnt : ∀ (l st r : List Nat), l.foldl stp (some st) = some r → cntC l + r.length = cntO l + st.length
  | [], st, r, h => by
    cases h
    simp [cntC, cntO]
  | c :: l, st, r, h => by
    rw [List.foldl_cons] at h
    have eC : cntC (c :: l) = cntC l + if c ∈ CLO then 1 else 0 := by
      unfold cntC
      rw [List.countP_cons]
      simp
    have eO : cntO (c :: l) = cntO l + if c ∈ OPN then 1 else 0 := by
      unfold cntO
      rw [List.countP_cons]
      simp
    by_cases h1 : c ∈ OPN
    · have h2 : c ∉ CLO := opn_clo c h1
      rw [stp_opn h1] at h
      have := fold_cnt l _ r h
      rw [eC, eO, if_pos h1, if_neg h2]
      simp at this
      omega
    · by_cases h2 : c ∈ CLO
      · cases st with
        | nil =>
          have e : stp (some []) c = none := by unfold stp; simp only [h1, h2, if_true, if_false]
          rw [e, fold_none] at h
          cases h
        | cons d st =>
          by_cases hd : d = c
          · subst hd
            rw [stp_clo h2] at h
            have := fold_cnt l _ r h
            rw [eC, eO, if_neg h1, if_pos h2]
            simp
            omega
          · have e : stp (some (d :: st)) c = none := by unfold stp; simp only [h1, h2, hd, if_true, if_false]
            rw [e, fold_none] at h
            cases h
      · rw [stp_let h1 h2] at h
        have := fold_cnt l _ r h
        rw [eC, eO, if_neg h1, if_neg h2]
        omega
theorem clean_cnt {l : List Nat} (h : clean l) : cntC l = cntO l := by
  have := fold_cnt l [] [] h
  simpa using this
/-- one bracket more is not clean -/
theorem clean_alone {a b : List Nat} {c : Nat} (h : clean (a ++ b)) (hc : c ∈ BRK) : ¬ clean (a ++ [c] ++ b) := by
  intro h'
  have e1 := clean_cnt h
  have e2 := clean_cnt h'
  have x1 : cntC (a ++ b) = cntC a + cntC b := List.countP_append
  have x2 : cntO (a ++ b) = cntO a + cntO b := List.countP_append
  have x3 : cntC (a ++ [c] ++ b) = cntC a + cntC [c] + cntC b := by
    unfold cntC
    rw [List.countP_append, List.countP_append]
  have x4 : cntO (a ++ [c] ++ b) = cntO a + cntO [c] + cntO b := by
    unfold cntO
    rw [List.countP_append, List.countP_append]
  have x5 : cntC [c] ≠ cntO [c] := by
    have : ∀ c ∈ BRK, cntC [c] ≠ cntO [c] := by decide
    exact this c hc
  omega
theorem seg_drop {l : List Nat} {a b : Nat} : seg l a b = (l.take b).drop a := rfl
/-- the partner of a bracket put before -/
theorem mates_around {c : Nat} {t : List Nat} (hc : c ∈ OPN) : (mates (c :: (t ++ [oth c])))[0]? = some (some (t.length + 1)) ↔ clean t := by
  have hs : seg (c :: (t ++ [oth c])) (0 + 1) (t.length + 1) = t := by
    unfold seg
    simp
  rw [mates_ptn]
  constructor
  · rintro (⟨_, d, _, _, _, h⟩ | ⟨h, _⟩)
    · rw [hs] at h
      exact h
    · omega
  · intro h
    refine .inl ⟨by omega, c, rfl, hc, by simp, ?_⟩
    rw [hs]
    exact h
/-- what the partners say of a pair -/
theorem mate_sym {l : List Nat} {i j : Nat} (h : (mates l)[i]? = some (some j)) : (mates l)[j]? = some (some i) := by
  rw [mates_ptn] at h ⊢
  exact h.symm
theorem mate_brk {l : List Nat} {i j c : Nat} (h : (mates l)[i]? = some (some j)) (hc : l[i]? = some c) : c ∈ BRK := by
  rw [mates_ptn] at h
  rcases h with ⟨_, d, h1, h2, _⟩ | ⟨_, d, _, h2, h1, _⟩
  · rw [hc] at h1
    cases h1
    exact brk_or.mpr (.inl h2)
  · rw [hc] at h1
    cases h1
    exact brk_or.mpr (.inr (oth_clo d h2))
theorem mate_fwd {l : List Nat} {i j : Nat} (h : (mates l)[i]? = some (some j)) (hj : i < j) : ptn l i j := by
  rw [mates_ptn] at h
  rcases h with h | h
  · exact h
  · have := h.1
    omega
end Ly

set_option maxHeartbeats 4000000
namespace Ly
open PySem PySem.Spec PyProof.Rows L2 SX
/-! ### text[i:j] -/
theorem slice_both {a : List Nat} {i j : Nat} (h1 : i ≤ j) (h2 : j ≤ a.length) : Txt.slice (S a) (some (i : Int)) (some (j : Int)) = S ((a.take j).drop i) := by
  have hl : ((S a).length : Int) = (a.length : Int) := by rw [S_len]
  have e := beq_iff_eq.mp (PyProof.Rows.slice_closesL (x := S a) (i := (i : Int)) (j := (j : Int)) (by omega) (by omega) (by omega))
  refine e.trans (TL.ext_tl ?_)
  show (a.drop (i : Int).toNat).take ((j : Int) - i).toNat = (a.take j).drop i
  rw [Int.toNat_natCast, show ((j : Int) - i).toNat = j - i by omega, List.drop_take]
theorem g_slBoth {H : Hp} {Q : VK} {l : List Nat} {i j : Nat} (h : l.length ≤ 100000) (h1 : i ≤ j) (h2 : j ≤ l.length) (q : Q (Tx ((l.take j).drop i)) H) : rSlTx (Tx l) (some (i : Int)) (some (j : Int)) H Q := ⟨l, rfl, h, by rw [slice_both h1 h2]; exact q⟩
theorem inV_pair : ∀ c ∈ OPN, inV (Tx [c, oth c]) [Tx [40, 41], Tx [60, 62], Tx [91, 93], Tx [123, 125]] = true := by decide +kernel
section
variable {K : PySem.W.Frag} {H : Hp} {Q : VK} {p a : Addr} {xs : List V}
theorem shaped_flat {ds : List PyData} (h5 : PyData.canLayAll0 ds = true) (h6 : PyData.depthAll ds = 0) : SeqAt.shaped (.list ds) = true := by
  unfold SeqAt.shaped
  rw [show PyData.canLay0 (.list ds) = PyData.canLayAll0 ds from rfl, h5, show PyData.depth (.list ds) = PyData.depthAll ds + 1 from rfl, h6]
  rfl
theorem g_neSame (h : SqL K H p xs) (h2 : SqL K H a xs) (hf : ∀ v ∈ xs, Flat v) (q : Q (.bl false) H) : rNeD K (.ref p) (.ref a) H Q := by
  obtain ⟨ds, hl, h4, h5, h6⟩ := flat_all hf
  refine ⟨.list ds, .list ds, .lst h (h4 K H), .lst h2 (h4 K H), shaped_flat h5 h6, shaped_flat h5 h6, ?_⟩
  rw [SeqAt.eqv_refl (.list ds) h5]
  exact q
theorem g_neSameT (h : SqT K H p xs) (h2 : SqT K H a xs) (hf : ∀ v ∈ xs, Flat v) (q : Q (.bl false) H) : rNeD K (.ref p) (.ref a) H Q := by
  obtain ⟨ds, hl, h4, h5, h6⟩ := flat_all hf
  have sh : SeqAt.shaped (.tuple ds) = true := by
    unfold SeqAt.shaped
    rw [show PyData.canLay0 (.tuple ds) = PyData.canLayAll0 ds from rfl, h5, show PyData.depth (.tuple ds) = PyData.depthAll ds + 1 from rfl, h6]
    rfl
  refine ⟨.tuple ds, .tuple ds, .tup h (h4 K H), .tup h2 (h4 K H), sh, sh, ?_⟩
  rw [SeqAt.eqv_refl (.tuple ds) h5]
  exact q
theorem g_eqSame (h : SqL K H p xs) (h2 : SqL K H a xs) (hf : ∀ v ∈ xs, Flat v) (q : Q (.bl true) H) : rEqD K (.ref p) (.ref a) H Q := by
  obtain ⟨ds, hl, h4, h5, h6⟩ := flat_all hf
  refine ⟨.list ds, .list ds, .lst h (h4 K H), .lst h2 (h4 K H), shaped_flat h5 h6, shaped_flat h5 h6, ?_⟩
  rw [SeqAt.eqv_refl (.list ds) h5]
  exact q
end
end Ly

set_option maxHeartbeats 4000000
namespace Ly
/-- lists of the same length that name the same are the same -/
theorem opt_ext {m n : List (Option Nat)} (hl : m.length = n.length) (key : ∀ i j : Nat, m[i]? = some (some j) ↔ n[i]? = some (some j)) : m = n := by
  apply List.ext_getElem?
  intro i
  rcases Nat.lt_or_ge i m.length with h | h
  · have e1 := List.getElem?_eq_getElem h
    have e2 := List.getElem?_eq_getElem (l := n) (by rw [← hl]; exact h)
    cases hx : m[i] with
    | some j =>
      rw [hx] at e1
      rw [e1, (key i j).mp e1]
    | none =>
      cases hy : n[i]'(by rw [← hl]; exact h) with
      | none => rw [e1, e2, hx, hy]
      | some j =>
        rw [hy] at e2
        have := (key i j).mpr e2
        rw [e1, hx] at this
        cases this
  · rw [List.getElem?_eq_none h, List.getElem?_eq_none (by omega)]
/-! ### kinds renamed -/
/-- a renaming of the kinds -/
structure Ren (f : Nat → Nat) : Prop where
  inj : ∀ {a b}, f a = f b → a = b
  opn : ∀ {c}, f c ∈ OPN ↔ c ∈ OPN
  clo : ∀ {c}, f c ∈ CLO ↔ c ∈ CLO
  oth : ∀ {c}, c ∈ OPN → f (oth c) = oth (f c)
theorem ren_fold {f : Nat → Nat} (R : Ren f) : ∀ (l : List Nat) (st : Option (List Nat)), (l.map f).foldl stp (st.map (List.map f)) = (l.foldl stp st).map (List.map f)
  | [], st => rfl
  | c :: l, st => by
    rw [List.map_cons, List.foldl_cons, List.foldl_cons, ← ren_fold R l]
    congr 1
    cases st with
    | none => rfl
    | some st =>
      show stp (some (st.map f)) (f c) = (stp (some st) c).map (List.map f)
      by_cases h1 : c ∈ OPN
      · rw [stp_opn h1, stp_opn (R.opn.mpr h1)]
        show some (Ly.oth (f c) :: st.map f) = some (f (Ly.oth c) :: st.map f)
        rw [R.oth h1]
      · have h1' : f c ∉ OPN := fun h => h1 (R.opn.mp h)
        by_cases h2 : c ∈ CLO
        · have h2' := R.clo.mpr h2
          cases st with
          | nil =>
            have e : stp (some []) c = none := by unfold stp; simp only [h1, h2, if_true, if_false]
            have e' : stp (some []) (f c) = none := by unfold stp; simp only [h1', h2', if_true, if_false]
            rw [e]
            exact e'
          | cons d st =>
            by_cases hd : d = c
            · subst hd
              rw [stp_clo h2, List.map_cons, stp_clo h2']
              rfl
            · have hd' : ¬ f d = f c := fun h => hd (R.inj h)
              have e : stp (some (d :: st)) c = none := by unfold stp; simp only [h1, h2, hd, if_true, if_false]
              have e' : stp (some (f d :: st.map f)) (f c) = none := by unfold stp; simp only [h1', h2', hd', if_true, if_false]
              rw [e]
              exact e'
        · rw [stp_let h1 h2, stp_let h1' (fun h => h2 (R.clo.mp h))]
          rfl
theorem ren_clean {f : Nat → Nat} (R : Ren f) (l : List Nat) : clean (l.map f) ↔ clean l := by
  have e := ren_fold R l (some [])
  show (l.map f).foldl stp (Option.map (List.map f) (some [])) = some [] ↔ l.foldl stp (some []) = some []
  rw [e]
  generalize l.foldl stp (some []) = r
  cases r with
  | none => simp
  | some r => simp
theorem ren_seg {f : Nat → Nat} (l : List Nat) (a b : Nat) : seg (l.map f) a b = (seg l a b).map f := by
  unfold seg
  rw [← List.map_take, ← List.map_drop]
theorem ren_ptn {f : Nat → Nat} (R : Ren f) (l : List Nat) (i j : Nat) : ptn (l.map f) i j ↔ ptn l i j := by
  unfold ptn
  rw [ren_seg, ren_clean R, List.getElem?_map, List.getElem?_map]
  constructor
  · rintro ⟨h, c', h1, h2, h3, h4⟩
    cases hi : l[i]? with
    | none => rw [hi] at h1; cases h1
    | some c =>
      rw [hi] at h1
      have h1' : f c = c' := Option.some.inj h1
      subst h1'
      have hc := R.opn.mp h2
      cases hj : l[j]? with
      | none => rw [hj] at h3; cases h3
      | some d =>
        rw [hj] at h3
        have h3' : f d = Ly.oth (f c) := Option.some.inj h3
        rw [← R.oth hc] at h3'
        exact ⟨h, c, rfl, hc, by rw [R.inj h3'], h4⟩
  · rintro ⟨h, c, h1, h2, h3, h4⟩
    refine ⟨h, f c, by rw [h1]; rfl, R.opn.mpr h2, ?_, h4⟩
    rw [h3, ← R.oth h2]
    rfl
theorem ren_mates {f : Nat → Nat} (R : Ren f) (l : List Nat) : mates (l.map f) = mates l := by
  refine opt_ext (by rw [mates_len, mates_len, List.length_map]) fun i j => ?_
  rw [mates_ptn, mates_ptn, ren_ptn R, ren_ptn R]
/-! ### turned about -/
/-- the sign turned -/
def tn (c : Nat) : Nat := if c ∈ BRK then oth c else c
def abt (l : List Nat) : List Nat := (l.map tn).reverse
theorem tn_brk {c : Nat} (h : c ∈ BRK) : tn c = oth c := by unfold tn; rw [if_pos h]
theorem tn_tn (c : Nat) : tn (tn c) = c := by
  by_cases h : c ∈ BRK
  · rw [tn_brk h, tn_brk (oth_brk c h), oth_oth c h]
  · have e : tn c = c := by unfold tn; rw [if_neg h]
    rw [e, e]
theorem abt_abt (l : List Nat) : abt (abt l) = l := by
  unfold abt
  rw [List.map_reverse, List.reverse_reverse, List.map_map]
  have : tn ∘ tn = id := funext tn_tn
  rw [this, List.map_id]
theorem abt_app (a b : List Nat) : abt (a ++ b) = abt b ++ abt a := by
  unfold abt
  rw [List.map_append, List.reverse_append]
theorem abt_len (l : List Nat) : (abt l).length = l.length := by
  unfold abt
  rw [List.length_reverse, List.length_map]
theorem abt_cons (c : Nat) (l : List Nat) : abt (c :: l) = abt l ++ [tn c] := by
  unfold abt
  rw [List.map_cons, List.reverse_cons]
theorem abt_clean1 : ∀ (n : Nat) (l : List Nat), l.length ≤ n → clean l → clean (abt l)
  | n, [], _, _ => clean_nil
  | 0, c :: l, hn, _ => by simp at hn
  | n + 1, c :: l, hn, h => by
    have hn' : l.length ≤ n := by simpa using hn
    by_cases h1 : c ∈ OPN
    · obtain ⟨a, b, e, ca, cb⟩ := clean_opn h1 h
      have hb : c ∈ BRK := brk_or.mpr (.inl h1)
      rw [e] at hn'
      simp at hn'
      have ia := abt_clean1 n a (by omega) ca
      have ib := abt_clean1 n b (by omega) cb
      rw [abt_cons, e, abt_app, abt_cons, tn_brk hb, tn_brk (oth_brk c hb), oth_oth c hb]
      have e2 : abt b ++ [c] ++ abt a ++ [oth c] = abt b ++ (c :: (abt a ++ [oth c])) := by simp
      rw [e2]
      exact clean_app ib (clean_pair h1 ia)
    · by_cases h2 : c ∈ CLO
      · exact absurd h (clean_clo h2)
      · have hb : c ∉ BRK := fun hb => by rcases brk_or.mp hb with h | h; exact h1 h; exact h2 h
        have e : tn c = c := by unfold tn; rw [if_neg hb]
        rw [abt_cons, e]
        exact clean_app (abt_clean1 n l hn' ((clean_let h1 h2).mp h)) ((clean_let h1 h2).mpr clean_nil)
theorem abt_clean (l : List Nat) : clean (abt l) ↔ clean l :=
  ⟨fun h => by have := abt_clean1 _ _ (Nat.le_refl _) h; rw [abt_abt] at this; exact this, abt_clean1 _ _ (Nat.le_refl _)⟩
theorem abt_seg (l : List Nat) {a b : Nat} (h : a ≤ b) (hb : b ≤ l.length) : seg (abt l) a b = abt (seg l (l.length - b) (l.length - a)) := by
  unfold seg abt
  rw [List.take_reverse, List.drop_reverse, List.length_map, List.length_drop, List.length_map, List.map_drop, List.map_take, List.drop_take]
  congr 2
  omega
theorem abt_at (l : List Nat) {i : Nat} (h : i < l.length) : (abt l)[i]? = (l[l.length - 1 - i]?).map tn := by
  unfold abt
  rw [List.getElem?_reverse (by rw [List.length_map]; exact h), List.length_map, List.getElem?_map]
theorem abt_ptn1 {l : List Nat} {i j : Nat} (h : ptn l i j) : ptn (abt l) (l.length - 1 - j) (l.length - 1 - i) := by
  have hj := ptn_lt h
  obtain ⟨hij, c, h1, h2, h3, h4⟩ := h
  have hb : c ∈ BRK := brk_or.mpr (.inl h2)
  refine ⟨by omega, c, ?_, h2, ?_, ?_⟩
  · rw [abt_at l (by omega), show l.length - 1 - (l.length - 1 - j) = j by omega, h3]
    show some (tn (oth c)) = some c
    rw [tn_brk (oth_brk c hb), oth_oth c hb]
  · rw [abt_at l (by omega), show l.length - 1 - (l.length - 1 - i) = i by omega, h1]
    show some (tn c) = some (oth c)
    rw [tn_brk hb]
  · rw [abt_seg l (by omega) (by omega), abt_clean, show l.length - (l.length - 1 - i) = i + 1 by omega, show l.length - (l.length - 1 - j + 1) = j by omega]
    exact h4
theorem abt_ptn {l : List Nat} {i j : Nat} (hi : i < l.length) (hj : j < l.length) : ptn (abt l) i j ↔ ptn l (l.length - 1 - j) (l.length - 1 - i) := by
  constructor
  · intro h
    have := abt_ptn1 h
    rw [abt_abt, abt_len] at this
    exact this
  · intro h
    have := abt_ptn1 h
    rw [show l.length - 1 - (l.length - 1 - i) = i by omega, show l.length - 1 - (l.length - 1 - j) = j by omega] at this
    exact this
/-- the partners counted from behind -/
def matesB (m : List (Option Nat)) : List (Option Nat) := m.reverse.map fun x => x.map fun j => m.length - 1 - j
theorem matesB_len (m : List (Option Nat)) : (matesB m).length = m.length := by
  unfold matesB
  rw [List.length_map, List.length_reverse]
theorem ptn_lt2 {l : List Nat} {i j : Nat} (h : ptn l i j) : i < l.length ∧ j < l.length := ⟨by have := ptn_lt h; have := h.1; omega, ptn_lt h⟩
theorem abt_mates (l : List Nat) : mates (abt l) = matesB (mates l) := by
  refine opt_ext (by rw [mates_len, matesB_len, mates_len, abt_len]) fun i j => ?_
  rcases Nat.lt_or_ge i l.length with hi | hi
  · have e : (matesB (mates l))[i]? = ((mates l)[l.length - 1 - i]?).map fun x => x.map fun j => l.length - 1 - j := by
      unfold matesB
      rw [List.getElem?_map, List.getElem?_reverse (by rw [mates_len]; exact hi), mates_len]
    rw [e, mates_ptn]
    constructor
    · intro h
      have hj : j < l.length := by
        rcases h with h | h
        · have := ptn_lt h; rw [abt_len] at this; exact this
        · have := (ptn_lt2 h).1; rw [abt_len] at this; exact this
      have h2 : (mates l)[l.length - 1 - i]? = some (some (l.length - 1 - j)) := by
        rw [mates_ptn]
        rcases h with h | h
        · exact .inr ((abt_ptn hi hj).mp h)
        · exact .inl ((abt_ptn hj hi).mp h)
      rw [h2]
      show some (some (l.length - 1 - (l.length - 1 - j))) = some (some j)
      rw [show l.length - 1 - (l.length - 1 - j) = j by omega]
    · intro h
      cases hm : (mates l)[l.length - 1 - i]? with
      | none => rw [hm] at h; cases h
      | some x =>
        cases x with
        | none => rw [hm] at h; cases h
        | some k =>
          rw [hm] at h
          have hk : l.length - 1 - k = j := Option.some.inj (Option.some.inj h)
          rw [mates_ptn] at hm
          have hkl : k < l.length := by
            rcases hm with hm | hm
            · exact (ptn_lt2 hm).2
            · exact (ptn_lt2 hm).1
          have hk2 : k = l.length - 1 - j := by omega
          subst hk2
          have hj : j < l.length := by omega
          rcases hm with hm | hm
          · exact .inr ((abt_ptn hj hi).mpr hm)
          · exact .inl ((abt_ptn hi hj).mpr hm)
  · rw [List.getElem?_eq_none (by rw [mates_len, abt_len]; exact hi), List.getElem?_eq_none (by rw [matesB_len, mates_len]; exact hi)]
end Ly

set_option maxHeartbeats 4000000
namespace Ly
/-! ### clean stretches counted -/
/-- how many begins of l that are not empty are clean -/
def cp (l : List Nat) : Nat := (List.range l.length).countP fun k => decide (clean (l.take (k + 1)))
def many : List Nat → Nat
  | [] => 0
  | c :: r => cp (c :: r) + many r
theorem cp_nil : cp [] = 0 := rfl
theorem range_add (a b : Nat) : List.range (a + b) = List.range a ++ (List.range b).map (a + ·) := List.range_add
/-- in general -/
theorem cp_two (s b : List Nat) : cp (s ++ b) = cp s + (List.range b.length).countP fun k => decide (clean (s ++ b.take (k + 1))) := by
  unfold cp
  rw [List.length_append, range_add, List.countP_append, List.countP_map]
  congr 1
  · apply List.countP_congr
    intro k hk
    have hk' : k < s.length := List.mem_range.mp hk
    rw [List.take_append_of_le_length (by omega)]
  · apply List.countP_congr
    intro k hk
    show (decide (clean ((s ++ b).take (s.length + k + 1))) = true ↔ _)
    rw [show s.length + k + 1 = s.length + (k + 1) by omega, List.take_append, List.take_of_length_le (by omega), show s.length + (k + 1) - s.length = k + 1 by omega]
theorem cp_app {a b : List Nat} (h : clean a) : cp (a ++ b) = cp a + cp b := by
  rw [cp_two]
  congr 1
  unfold cp
  apply List.countP_congr
  intro k hk
  rw [decide_eq_true_iff, decide_eq_true_iff, clean_cancel h]
theorem run_pre {p s r : List Nat} (h : run (p ++ s) = some r) : ∃ q, run p = some q := by
  cases e : run p with
  | none => rw [run_app, e, fold_none] at h; cases h
  | some q => exact ⟨q, rfl⟩
theorem cnt_pre {p s : List Nat} (h : clean (p ++ s)) : cntC p ≤ cntO p := by
  obtain ⟨q, e⟩ := run_pre h
  have := fold_cnt p [] q e
  simp at this
  omega
theorem cntC_app (a b : List Nat) : cntC (a ++ b) = cntC a + cntC b := List.countP_append
theorem cntO_app (a b : List Nat) : cntO (a ++ b) = cntO a + cntO b := List.countP_append
theorem cnt_suf {p s : List Nat} (h : clean (p ++ s)) : cntO s ≤ cntC s := by
  have h1 := cnt_pre h
  have h2 := clean_cnt h
  rw [cntC_app, cntO_app] at h2
  omega
/-- a begin of a clean text with as many opened as closed is clean -/
theorem pre_clean {p s : List Nat} (h : clean (p ++ s)) (hc : cntO p ≤ cntC p) : clean p := by
  obtain ⟨q, e⟩ := run_pre h
  have := fold_cnt p [] q e
  simp at this
  have hq : q = [] := List.eq_nil_of_length_eq_zero (by omega)
  rw [hq] at e
  exact e
theorem cp_clo {c : Nat} {r : List Nat} (h : c ∈ CLO) : cp (c :: r) = 0 := by
  unfold cp
  rw [List.countP_eq_zero]
  intro k hk hd
  rw [decide_eq_true_iff, List.take_succ_cons] at hd
  exact clean_clo h hd
theorem cp_let {c : Nat} {r : List Nat} (h1 : c ∉ OPN) (h2 : c ∉ CLO) : cp (c :: r) = 1 + cp r := by
  have h : clean [c] := (clean_let h1 h2).mpr clean_nil
  have e : c :: r = [c] ++ r := rfl
  rw [e, cp_app h]
  congr 1
  unfold cp
  simp only [List.length_singleton, List.range_one, List.countP_cons, List.countP_nil, List.take_succ_cons, List.take_zero]
  simp [h]
theorem cp_pair {c : Nat} {x : List Nat} (hc : c ∈ OPN) (hx : clean x) : cp (c :: (x ++ [oth c])) = 1 := by
  have e : c :: (x ++ [oth c]) = (c :: x) ++ [oth c] := rfl
  have hcl : clean ((c :: x) ++ [oth c]) := clean_pair hc hx
  rw [e, cp_two]
  have h0 : cp (c :: x) = 0 := by
    unfold cp
    rw [List.countP_eq_zero]
    intro k hk hd
    have hk' : k < x.length + 1 := by simpa using List.mem_range.mp hk
    rw [decide_eq_true_iff, List.take_succ_cons] at hd
    have h1 := clean_cnt hd
    have h2 : cntC (x.take k) ≤ cntO (x.take k) := cnt_pre (s := x.drop k) (by rw [List.take_append_drop]; exact hx)
    have e1 : cntC (c :: x.take k) = cntC [c] + cntC (x.take k) := cntC_app [c] _
    have e2 : cntO (c :: x.take k) = cntO [c] + cntO (x.take k) := cntO_app [c] _
    have e3 : cntC [c] = 0 ∧ cntO [c] = 1 := by
      have : ∀ c ∈ OPN, cntC [c] = 0 ∧ cntO [c] = 1 := by decide
      exact this c hc
    omega
  rw [h0]
  simp [hcl]
  exact hcl
theorem cp_none {l : List Nat} {c : Nat} {r : List Nat} (e : l = c :: r) (h : ∀ a b, r = a ++ oth c :: b → ¬ clean a) (hc : c ∈ OPN) : cp l = 0 := by
  subst e
  unfold cp
  rw [List.countP_eq_zero]
  intro k hk hd
  rw [decide_eq_true_iff, List.take_succ_cons] at hd
  obtain ⟨a, b, e1, ca, cb⟩ := clean_opn hc hd
  refine h a (b ++ r.drop k) ?_ ca
  have e2 : r.take k ++ r.drop k = r := List.take_append_drop k r
  rw [e1] at e2
  exact e2.symm.trans (by simp)
/-! sums -/
theorem many_pair1 {c : Nat} (hc : c ∈ CLO) : ∀ (p s : List Nat), clean (p ++ s) → many (s ++ [c]) = many s
  | p, [], _ => by
    show cp [c] + many [] = 0
    rw [cp_clo hc]
    rfl
  | p, d :: r, h => by
    have ih := many_pair1 hc (p ++ [d]) r (by simpa using h)
    show cp ((d :: r) ++ [c]) + many (r ++ [c]) = cp (d :: r) + many r
    rw [ih, cp_two]
    have h0 : ¬ clean ((d :: r) ++ [c]) := by
      intro h'
      have h1 := clean_cnt h'
      have h2 := cnt_suf h
      rw [cntC_app, cntO_app] at h1
      have e3 : cntC [c] = 1 ∧ cntO [c] = 0 := by
        have : ∀ c ∈ CLO, cntC [c] = 1 ∧ cntO [c] = 0 := by decide
        exact this c hc
      omega
    simp only [List.length_singleton, List.range_one, List.countP_cons, List.countP_nil, List.take_succ_cons, List.take_zero]
    simp only [h0, decide_false]
    simp
theorem many_pair {c : Nat} {x : List Nat} (hc : c ∈ OPN) (hx : clean x) : many (c :: (x ++ [oth c])) = many x + 1 := by
  show cp (c :: (x ++ [oth c])) + many (x ++ [oth c]) = _
  rw [cp_pair hc hx, many_pair1 (oth_clo c hc) [] x hx]
  omega
/-- how many ends of l that are not empty are clean -/
def dn : List Nat → Nat
  | [] => 0
  | c :: r => (if clean (c :: r) then 1 else 0) + dn r
theorem many_two {b : List Nat} (hb : clean b) : ∀ (p s : List Nat), clean (p ++ s) → many (s ++ b) = many s + many b + dn s * cp b
  | p, [], _ => by
    show many b = 0 + many b + 0 * cp b
    omega
  | p, d :: r, h => by
    have ih := many_two hb (p ++ [d]) r (by simpa using h)
    show cp ((d :: r) ++ b) + many (r ++ b) = cp (d :: r) + many r + many b + ((if clean (d :: r) then 1 else 0) + dn r) * cp b
    rw [ih]
    by_cases hc : clean (d :: r)
    · rw [cp_app hc, if_pos hc, Nat.add_mul, Nat.one_mul]
      omega
    · have h0 : (List.range b.length).countP (fun k => decide (clean ((d :: r) ++ b.take (k + 1)))) = 0 := by
        rw [List.countP_eq_zero]
        intro k hk hd
        rw [decide_eq_true_iff] at hd
        exact hc (pre_clean hd (cnt_suf h))
      rw [cp_two, h0, if_neg hc, Nat.zero_add]
      omega
theorem dn_rng (l : List Nat) : dn l = (List.range l.length).countP fun i => decide (clean (l.drop i)) := by
  induction l with
  | nil => rfl
  | cons c r ih =>
    rw [List.length_cons, List.range_succ_eq_map, List.countP_cons, List.countP_map]
    show (if clean (c :: r) then 1 else 0) + dn r = _
    rw [ih, Nat.add_comm]
    congr 1
    simp
theorem drop_clean {l : List Nat} (h : clean l) (i : Nat) : clean (l.drop i) ↔ clean (l.take i) := by
  have e := List.take_append_drop i l
  constructor
  · intro h2
    have h' := h
    rw [← e] at h'
    unfold clean at h'
    rw [run_app, fold_clean h2] at h'
    exact h'
  · intro h2
    have h' := h
    rw [← e] at h'
    exact (clean_cancel h2).mp h'
theorem dn_cp {l : List Nat} (h : clean l) : dn l = cp l := by
  rw [dn_rng]
  have e1 : (List.range l.length).countP (fun i => decide (clean (l.drop i))) = (List.range l.length).countP fun i => decide (clean (l.take i)) := by
    apply List.countP_congr
    intro k hk
    rw [decide_eq_true_iff, decide_eq_true_iff, drop_clean h]
  rw [e1]
  unfold cp
  have a1 : (List.range (l.length + 1)).countP (fun i => decide (clean (l.take i))) = (List.range l.length).countP (fun i => decide (clean (l.take i))) + 1 := by
    rw [List.range_succ, List.countP_append]
    simp [h]
  have a2 : (List.range (l.length + 1)).countP (fun i => decide (clean (l.take i))) = (List.range l.length).countP (fun i => decide (clean (l.take (i + 1)))) + 1 := by
    rw [List.range_succ_eq_map, List.countP_cons, List.countP_map]
    simp [clean_nil]
    rfl
  omega
theorem many_app {a b : List Nat} (ha : clean a) (hb : clean b) : many (a ++ b) = many a + many b + cp a * cp b := by
  rw [many_two hb [] a ha, dn_cp ha]
/-! ### by places -/
/-- where the first clean piece from i on ends -/
def aft (l : List Nat) (i : Nat) : Option Nat := match l[i]? with
  | none => none
  | some c => if c ∈ CLO then none else if c ∈ OPN then (((mates l)[i]?).join).map (· + 1) else some (i + 1)
theorem drop_at {l : List Nat} {i c : Nat} (h : l[i]? = some c) : l.drop i = c :: l.drop (i + 1) := by
  obtain ⟨hl, e⟩ := List.getElem?_eq_some_iff.mp h
  rw [List.drop_eq_getElem_cons hl, e]
theorem aft_clo {l : List Nat} {i c : Nat} (h : l[i]? = some c) (hc : c ∈ CLO) : aft l i = none := by
  unfold aft
  simp only [h, hc, if_true]
theorem aft_let {l : List Nat} {i c : Nat} (h : l[i]? = some c) (h1 : c ∉ OPN) (h2 : c ∉ CLO) : aft l i = some (i + 1) := by
  unfold aft
  simp only [h, h1, h2, if_false]
theorem aft_opn {l : List Nat} {i c : Nat} {x : Option Nat} (h : l[i]? = some c) (h1 : c ∈ OPN) (hm : (mates l)[i]? = some x) : aft l i = x.map (· + 1) := by
  unfold aft
  simp only [h, h1, opn_clo c h1, if_true, if_false, hm, Option.join_some]
/-- what aft says -/
theorem aft_spec {l : List Nat} {i : Nat} (hi : i < l.length) : (aft l i = none ∧ ∃ c, l[i]? = some c ∧ (c ∈ CLO ∨ (c ∈ OPN ∧ ∀ k, ¬ ptn l i k))) ∨ (∃ c, l[i]? = some c ∧ c ∉ OPN ∧ c ∉ CLO ∧ aft l i = some (i + 1)) ∨ ∃ c k, l[i]? = some c ∧ c ∈ OPN ∧ ptn l i k ∧ aft l i = some (k + 1) := by
  obtain ⟨c, hc⟩ : ∃ c, l[i]? = some c := ⟨_, List.getElem?_eq_getElem hi⟩
  by_cases h2 : c ∈ CLO
  · exact .inl ⟨aft_clo hc h2, c, hc, .inl h2⟩
  by_cases h1 : c ∈ OPN
  · obtain ⟨x, hx⟩ : ∃ x, (mates l)[i]? = some x := ⟨_, List.getElem?_eq_getElem (by rw [mates_len]; exact hi)⟩
    have e := aft_opn hc h1 hx
    cases x with
    | none =>
      refine .inl ⟨e, c, hc, .inr ⟨h1, fun k hk => ?_⟩⟩
      have := (mates_ptn l i k).mpr (.inl hk)
      rw [hx] at this
      cases this
    | some k =>
      refine .inr (.inr ⟨c, k, hc, h1, ?_, e⟩)
      rcases (mates_ptn l i k).mp hx with h | h
      · exact h
      · obtain ⟨_, d, _, h3, h4, _⟩ := h
        rw [hc] at h4
        cases h4
        exact absurd (oth_clo d h3) h2
  · exact .inr (.inl ⟨c, hc, h1, h2, aft_let hc h1 h2⟩)
theorem ptn_drop {l : List Nat} {i k c : Nat} (h : ptn l i k) (hc : l[i]? = some c) : l.drop i = (c :: (seg l (i + 1) k ++ [oth c])) ++ l.drop (k + 1) ∧ clean (seg l (i + 1) k) := by
  have hk := ptn_lt h
  obtain ⟨hik, c', h1, h2, h3, h4⟩ := h
  rw [hc] at h1
  cases h1
  refine ⟨?_, h4⟩
  rw [drop_at hc, List.cons_append, List.append_assoc]
  congr 1
  have e1 : l.drop (i + 1) = seg l (i + 1) k ++ l.drop k := by
    unfold seg
    have e2 : l.drop (i + 1) = (l.take k ++ l.drop k).drop (i + 1) := by rw [List.take_append_drop]
    rw [e2, List.drop_append_of_le_length (by rw [List.length_take]; omega)]
  rw [e1, drop_at h3]
  rfl
theorem cp_aft {l : List Nat} {i : Nat} (hi : i < l.length) : (aft l i = none ∧ cp (l.drop i) = 0) ∨ ∃ k, aft l i = some k ∧ i < k ∧ k ≤ l.length ∧ cp (l.drop i) = 1 + cp (l.drop k) := by
  rcases aft_spec hi with ⟨e, c, hc, h⟩ | ⟨c, hc, h1, h2, e⟩ | ⟨c, k, hc, h1, hk, e⟩
  · refine .inl ⟨e, ?_⟩
    rcases h with h | ⟨h1, h⟩
    · rw [drop_at hc, cp_clo h]
    · refine cp_none (drop_at hc) (fun a b eab ca => ?_) h1
      have hlen := congrArg List.length eab
      simp at hlen
      have e3 : l[i + 1 + a.length]? = some (oth c) := by
        have : (l.drop (i + 1))[a.length]? = some (oth c) := by rw [eab]; simp
        rw [List.getElem?_drop] at this
        exact this
      have e4 : seg l (i + 1) (i + 1 + a.length) = a := by
        unfold seg
        rw [List.drop_take, eab, show i + 1 + a.length - (i + 1) = a.length by omega, List.take_left]
      exact h (i + 1 + a.length) ⟨by omega, c, hc, h1, e3, by rw [e4]; exact ca⟩
  · exact .inr ⟨i + 1, e, by omega, hi, by rw [drop_at hc, cp_let h1 h2]⟩
  · have hkl := ptn_lt hk
    obtain ⟨e2, hcl⟩ := ptn_drop hk hc
    refine .inr ⟨k + 1, e, by have := hk.1; omega, hkl, ?_⟩
    rw [e2, cp_app (clean_pair h1 hcl), cp_pair h1 hcl]
/-- e is where the longest clean stretch from i on ends -/
def Lng (l : List Nat) (i e : Nat) : Prop := i ≤ e ∧ e ≤ l.length ∧ ∀ j, i ≤ j → j ≤ l.length → clean (seg l i j) → j ≤ e
theorem lng_aft {l : List Nat} {i : Nat} (hi : i < l.length) : (aft l i = none ∧ Lng l i i) ∨ ∃ k, aft l i = some k ∧ i < k ∧ k ≤ l.length ∧ ∀ e, Lng l k e → Lng l i e := by
  rcases aft_spec hi with ⟨e, c, hc, h⟩ | ⟨c, hc, h1, h2, e⟩ | ⟨c, k, hc, h1, hk, e⟩
  · refine .inl ⟨e, Nat.le_refl _, by omega, fun j h1 h2 h3 => ?_⟩
    rcases Nat.lt_or_ge i j with hij | hij
    · exfalso
      rcases h with h | ⟨h4, h⟩
      · exact seg_clo hc h hij h2 h3
      · obtain ⟨k, hk, _⟩ := seg_opn hc h4 hij h2 h3
        exact h k hk
    · exact hij
  · refine .inr ⟨i + 1, e, by omega, hi, fun e' h => ⟨by have := h.1; omega, h.2.1, fun j a b d => ?_⟩⟩
    rcases Nat.lt_or_ge i j with hij | hij
    · exact h.2.2 j hij b ((seg_let hc h1 h2 hij b).mp d)
    · have := h.1; omega
  · have hkl := ptn_lt hk
    have hik := hk.1
    refine .inr ⟨k + 1, e, by omega, hkl, fun e' h => ⟨by have := h.1; omega, h.2.1, fun j a b d => ?_⟩⟩
    rcases Nat.lt_or_ge i j with hij | hij
    · obtain ⟨k', hk', h3, h4⟩ := seg_opn hc h1 hij b d
      have := ptn_fun hk hk'
      subst this
      exact h.2.2 j h3 b h4
    · have := h.1; omega
theorem lng_end (l : List Nat) : Lng l l.length l.length := ⟨Nat.le_refl _, Nat.le_refl _, fun j _ h _ => h⟩
theorem lng_clean {l : List Nat} {e : Nat} (h : Lng l 0 e) (hc : clean l) : e = l.length := by
  have := h.2.2 l.length (Nat.zero_le _) (Nat.le_refl _) (by rw [seg_all]; exact hc)
  have := h.2.1
  omega
def cps (l : List Nat) : List Nat := (List.range (l.length + 1)).map fun i => cp (l.drop i)
theorem cps_sum (l : List Nat) : (cps l).sum = many l := by
  induction l with
  | nil => rfl
  | cons c r ih =>
    have e : cps (c :: r) = cp (c :: r) :: cps r := by
      unfold cps
      rw [List.length_cons, List.range_succ_eq_map, List.map_cons, List.map_map]
      rfl
    rw [e, List.sum_cons, ih]
    rfl
/-! ### texts of one kind -/
def repL (n : Nat) (u : List Nat) : List Nat := (List.replicate n u).flatten
theorem repL_succ (n : Nat) (u : List Nat) : repL (n + 1) u = u ++ repL n u := by
  unfold repL
  rw [List.replicate_succ, List.flatten_cons]
theorem rep_unit {u : List Nat} (hu : clean u) (h1 : cp u = 1) (h2 : many u = 1) : ∀ n, clean (repL n u) ∧ cp (repL n u) = n ∧ 2 * many (repL n u) = n * (n + 1)
  | 0 => ⟨clean_nil, rfl, rfl⟩
  | n + 1 => by
    obtain ⟨a, b, c⟩ := rep_unit hu h1 h2 n
    rw [repL_succ]
    refine ⟨clean_app hu a, by rw [cp_app hu, h1, b]; omega, ?_⟩
    rw [many_app hu a, h1, h2, b]
    simp only [Nat.mul_add, Nat.add_mul, Nat.mul_one, Nat.one_mul] at c ⊢
    omega
theorem rep_snoc (n : Nat) (d : Nat) : repL (n + 1) [d] = repL n [d] ++ [d] := by
  induction n with
  | zero => rfl
  | succ n ih =>
    rw [repL_succ, ih, ← List.append_assoc, ← repL_succ, ih]
theorem rep_deep {c : Nat} (hc : c ∈ OPN) : ∀ n, clean (repL n [c] ++ repL n [oth c]) ∧ many (repL n [c] ++ repL n [oth c]) = n
  | 0 => ⟨clean_nil, rfl⟩
  | n + 1 => by
    obtain ⟨a, b⟩ := rep_deep hc n
    have e : repL (n + 1) [c] ++ repL (n + 1) [oth c] = c :: ((repL n [c] ++ repL n [oth c]) ++ [oth c]) := by
      rw [repL_succ, rep_snoc, List.append_assoc, List.append_assoc]
      rfl
    rw [e]
    exact ⟨clean_pair hc a, by rw [many_pair hc a, b]⟩
theorem unit_let {c : Nat} (h1 : c ∉ OPN) (h2 : c ∉ CLO) : clean [c] ∧ cp [c] = 1 ∧ many [c] = 1 := by
  have e : cp [c] = 1 := by rw [cp_let h1 h2]; rfl
  exact ⟨(clean_let h1 h2).mpr clean_nil, e, by show cp [c] + 0 = 1; rw [e]⟩
theorem unit_pair {c : Nat} (h : c ∈ OPN) : clean [c, oth c] ∧ cp [c, oth c] = 1 ∧ many [c, oth c] = 1 :=
  ⟨clean_pair (a := []) h clean_nil, cp_pair (x := []) h clean_nil, many_pair (x := []) h clean_nil⟩
/-! ### units -/
theorem unit_step {l pre post : List Nat} {c : Nat} (hl : clean l) (e : l = pre ++ c :: post) : (List.range (pre.length + 1)).countP (fun k => decide (clean (l.take (k + 1)))) = (List.range pre.length).countP (fun k => decide (clean (l.take (k + 1)))) + if cntO (pre ++ [c]) = cntC (pre ++ [c]) then 1 else 0 := by
  rw [List.range_succ, List.countP_append]
  congr 1
  have e2 : l.take (pre.length + 1) = pre ++ [c] := by
    rw [e, show pre ++ c :: post = (pre ++ [c]) ++ post by simp]
    exact List.take_left' (by simp)
  have hcl : clean ((pre ++ [c]) ++ post) := by rw [e] at hl; simpa using hl
  simp only [List.countP_cons, List.countP_nil, e2]
  by_cases h : cntO (pre ++ [c]) = cntC (pre ++ [c])
  · simp [pre_clean hcl (by omega), h]
  · have : ¬ clean (pre ++ [c]) := fun h' => h (clean_cnt h').symm
    simp [this, h]
end Ly

set_option maxHeartbeats 4000000
namespace Ly
open PySem PySem.Spec PyProof.Rows L2 SX
/-! ### texts with their tokens: for y in [texts]: x = x.replace(y, z) -/
/-- what a local name holds, as it is -/
def Raw (X : Cx) (s : Shared) (x : Str) (u : Value) : Prop := ∃ m, s.heap.Ns X.env.locals m ∧ m x = some u
section
variable {X : Cx} {pins : List (Addr × Obj)} {σ : L2.St} {H : Hp} {s : Shared}
/-- a local name is stored: its value is known, a token is out -/
theorem store_raw {M : Model} {A : Around} {E : Value → Shared → Prop} {i : Nat} {x : Str} {v : V} {u : Value} {Q : Unit → Shared → Prop} (I : Inv X pins σ H s) (hN : X.N.Nodup) (hi : X.N[i]? = some x) (hk : X.env.scope.names.lookup x = some .local) (r : RelV v u)
    (h : ∀ s', Inv X pins (σ.set i (some v)) H s' → Raw X s' x u → s'.toks = s.toks + 1 → (∃ a, Heap.SameBut a s.heap s'.heap ∧ a = X.env.locals) → Q () s') : wpAny M A (storeName X.env x u) Q E s := by
  obtain ⟨m, hn, hl⟩ := id I.loc
  have hcls : (X.env.scope.kind == .class || (X.env.scope.kind == .module && X.env.locals != X.env.globals)) = false := by rw [I.ok.kind]; rfl
  have hiσ : i < σ.length := by rw [I.len]; exact (List.getElem?_eq_some_iff.mp hi).1
  have cne := I.cne
  refine wpAny_storeName_local hk hn (fun h' hn' hs => ?_) hcls
  obtain ⟨oL, _, _, hoL, _⟩ := id hn
  have old : ∀ b o, X.s_0.heap.get? b = some o → h'.get? b = s.heap.get? b := fun b o e => hs.2 b (Nat.ne_of_lt (Nat.lt_of_lt_of_le (Heap.lt_size e) I.ok.above))
  refine h _ ⟨I.ok, I.os, I.bare, ⟨fun b o e n hb hx => (old b o e).trans (I.base.keep b o e n hb hx), fun b o e n hb hx => ?_, I.base.free, fun b o e hx => ?_, I.base.tups, I.base.frzs, I.base.tbls⟩, ⟨_, hn', fun j y v' e1 e2 e3 => ?_⟩, fun y c e => ?_, I.free, I.freeC, fun p hp => ?_, fun b ob e => ?_, by simpa using I.len⟩ ⟨_, hn', by simp⟩ rfl ⟨_, hs, rfl⟩
  · obtain ⟨sl, e1⟩ := I.base.slot b o e n hb hx
    exact ⟨sl, (old b o e).trans e1⟩
  · obtain ⟨o', e1⟩ := I.base.there b o e hx
    exact ⟨o', (old b o e).trans e1⟩
  · by_cases hj : j = i
    · subst hj
      rw [hi] at e1; cases e1
      rw [List.getElem?_set_self hiσ] at e2
      cases e2
      exact ⟨u, r, .inl ⟨hk, by simp⟩⟩
    · rw [List.getElem?_set_ne (Ne.symm hj)] at e2
      obtain ⟨u', r', q⟩ := hl j y v' e1 e2 e3
      refine ⟨u', r', ?_⟩
      rcases q with ⟨k, e⟩ | ⟨k, c, e, z⟩
      · have : y ≠ x := fun e => hj (nodup_ix hN e1 (e ▸ hi))
        exact .inl ⟨k, by simp [this, e]⟩
      · exact .inr ⟨k, c, e, z.sameBut hs (cne y c e)⟩
  · obtain ⟨w', z⟩ := I.cell y c e
    exact ⟨w', z.sameBut hs (cne y c e)⟩
  · obtain ⟨e, n, ne, nf, d⟩ := I.pin p hp
    exact ⟨(hs.2 p.1 ne).trans e, n, ne, nf, d⟩
  · refine (I.hok b ob e).stay (fun c w' hc q => (hs.2 c ?_).trans q) (fun _ q => q) fun _ _ q => q
    rintro rfl
    rcases hc with rfl | hc
    · rw [I.free] at e; cases e
    · rw [I.free] at hc; cases hc
/-- behind a store a token is out -/
theorem pss_asgT {i : Nat} {x : Str} {e : Expr} {te : TE} {rest : List Stmt} {u : TS} {pos' pos : Pos} (hN : X.N.Nodup) (hi : X.N[i]? = some x) (hk : X.env.scope.names.lookup x = some .local) (he : PE X e te) (h2 : PSsT X rest u)
    (hs : swapsWith e (some (.Name x pos')) pos.line X.env = pure false := by rfl) : PSs X (.Assign [.Name x pos'] e pos :: rest) (tSeq (tAsg te (gName i)) u) := by
  refine ⟨fun pins s σ H D I h => ?_⟩
  refine wpAny_execs_cons (wpAny_Assign_Name (thn (he.run pins s σ H _ I h) fun v s1 ⟨y, H1, I1, r1, q1⟩ => ?_) hs)
  exact store_raw I1 hN hi hk r1 fun s2 I2 _ ht _ => h2 pins s2 _ H1 D (by omega) I2 q1
theorem raw_load {x : Str} {u : Value} {pos : Pos} {Q E : Value → Shared → Prop} (hk : X.env.scope.names.lookup x = some .local) (I : Inv X pins σ H s) (h : Raw X s x u) (fin : Q u s)
    (hd : (x == ("__debug__" : Str)) = false) : wpAny (model X.prog X.w) X.A (eval (.Name x pos) X.env) Q E s := by
  obtain ⟨m, hn, hm⟩ := h
  exact wpAny_Name (wpAny_loadName_local I.ok.kind hk hn hm fin) hd
end
section
variable {X : Cx} {ik ip : Nat} {kx px z : Str} {y1 y2 y3 y4 : Str}
def yAt (y1 y2 y3 y4 : Str) (i : Nat) : Str := match i with | 0 => y1 | 1 => y2 | 2 => y3 | _ => y4
/-- the reading: F i is the state ahead of turn i, xs i the text there -/
def tRepl (ik ip : Nat) (y1 y2 y3 y4 z : Str) : TS := fun D σ H => ∃ (F : Nat → L2.St) (xs : Nat → Str), F 0 = σ ∧ (∀ i, i < 4 → (F i)[ik]? = some (some (.str (xs i))) ∧ (xs i).length + ((xs i).length + 1) * z.length ≤ 16777216 ∧ F (i + 1) = ((F i).set ip (some (.str (yAt y1 y2 y3 y4 i)))).set ik (some (.str (Txt.replace (xs i) (yAt y1 y2 y3 y4 i) z)))) ∧
  ∀ a o, H a = none → D.nx (F 4) (upd H a (.frz o (.lst [.str y1, .str y2, .str y3, .str y4])))
theorem pst_repl {j1 j2 j3 j4 jz : Nat} {p0 c1 c2 c3 c4 pl pa p1 apos p2 cz pos pos2 pos3 : Pos} (hp : PassesOwn (model X.prog X.w) X.A X.env X.xe) (hc : X.calm = true) (hN : X.N.Nodup) (hNk : X.N[ik]? = some kx) (hvk : X.env.scope.names.lookup kx = some .local)
    (hNp : X.N[ip]? = some px) (hvp : X.env.scope.names.lookup px = some .local) (hne : ik ≠ ip) (hy : ∀ i, (yAt y1 y2 y3 y4 i == z) = false)
    (hdk : (kx == ("__debug__" : Str)) = false) (hck : (kx == ("__classdict__" : Str)) = false) (hdp : (px == ("__debug__" : Str)) = false)
    (hs : ∀ x, foldedSetIterable (.List [.Constant (.str y1) j1 c1, .Constant (.str y2) j2 c2, .Constant (.str y3) j3 c3, .Constant (.str y4) j4 c4] pl) X.env x = pure x := by intro _; rfl)
    (hst : starEach [.Name px p2, .Constant (.str z) jz cz] X.env = [(false, eval (.Name px p2) X.env), (false, eval (.Constant (.str z) jz cz) X.env)] := by rfl)
    (hbase : attributeBase (.Name kx p1) "replace" X.env (eval (.Name kx p1) X.env) = eval (.Name kx p1) X.env := by rfl) (hline : (apos.endLine == pos.line) = true := by rfl)
    (hsw : swapsWith (.Call (.Attribute (.Name kx p1) "replace" apos) [.Name px p2, .Constant (.str z) jz cz] [] pos) (some (.Name kx pa)) pos2.line X.env = pure false := by rfl) :
    PST X (.For (.Name px p0) (.List [.Constant (.str y1) j1 c1, .Constant (.str y2) j2 c2, .Constant (.str y3) j3 c3, .Constant (.str y4) j4 c4] pl)
      [.Assign [.Name kx pa] (.Call (.Attribute (.Name kx p1) "replace" apos) [.Name px p2, .Constant (.str z) jz cz] [] pos) pos2] [] pos3) (tRepl ik ip y1 y2 y3 y4 z) := by
  intro pins s σ H D h0 I h
  obtain ⟨F, xs, F0, hF, fin⟩ := h
  refine wpAny_For ?_ hs
  refine wpAny_List_spliced ?_
  show wpAny _ _ (spliced ((false, eval (.Constant (.str y1) j1 c1) X.env) :: backTo pl (starEach [.Constant (.str y2) j2 c2, .Constant (.str y3) j3 c3, .Constant (.str y4) j4 c4] X.env))) _ _ s
  refine Calls.spliced_cons (Calls.Constant_str ?_)
  show wpAny _ _ (spliced ((false, eval (.Constant (.str y2) j2 c2) X.env) :: backTo pl (starEach [.Constant (.str y3) j3 c3, .Constant (.str y4) j4 c4] X.env))) _ _ _
  refine Calls.spliced_cons (Calls.Constant_str ?_)
  show wpAny _ _ (spliced ((false, eval (.Constant (.str y3) j3 c3) X.env) :: backTo pl (starEach [.Constant (.str y4) j4 c4] X.env))) _ _ _
  refine Calls.spliced_cons (Calls.Constant_str ?_)
  show wpAny _ _ (spliced ((false, eval (.Constant (.str y4) j4 c4) X.env) :: backTo pl (starEach [] X.env))) _ _ _
  refine Calls.spliced_cons (Calls.Constant_str (Calls.spliced_nil ?_))
  have h4 : (4 : Nat) ≤ sizeLine := by decide
  refine ⟨h4, ?_⟩
  have nfr : H s.heap.objs.size = none := I.hok.fresh (Nat.le_refl _)
  have I1 : Inv X pins σ (upd H s.heap.objs.size (.frz { cls := .type "list", data := .seq #[.str y1 s.toks, .str y2 (s.toks + 1), .str y3 (s.toks + 1 + 1), .str y4 (s.toks + 1 + 1 + 1)] 0 } (.lst [.str y1, .str y2, .str y3, .str y4]))) { s with heap := s.heap.push { cls := .type "list", data := .seq #[.str y1 s.toks, .str y2 (s.toks + 1), .str y3 (s.toks + 1 + 1), .str y4 (s.toks + 1 + 1 + 1)] 0 }, toks := s.toks + 1 + 1 + 1 + 1 } :=
    I.laid (t' := s.toks + 1 + 1 + 1 + 1) (fun b u e => Heap.get?_push_of_some _ e) (Nat.le_refl _) ⟨Heap.get?_push_size _ rfl, h4, [.str y1 s.toks, .str y2 (s.toks + 1), .str y3 (s.toks + 1 + 1), .str y4 (s.toks + 1 + 1 + 1)], 0, .cons ⟨_, rfl⟩ (.cons ⟨_, rfl⟩ (.cons ⟨_, rfl⟩ (.cons ⟨_, rfl⟩ .nil))), Heap.get?_push_size _ rfl⟩
  obtain ⟨T0, hT0⟩ : ∃ T0, T0 = s.toks := ⟨_, rfl⟩
  rw [← hT0] at I1 h0 ⊢
  obtain ⟨o, ho⟩ : ∃ o : Obj, o = { cls := .type "list", data := .seq #[.str y1 T0, .str y2 (T0 + 1), .str y3 (T0 + 1 + 1), .str y4 (T0 + 1 + 1 + 1)] 0 } := ⟨_, rfl⟩
  rw [← ho] at I1
  obtain ⟨a, ha⟩ : ∃ a, a = s.heap.objs.size := ⟨_, rfl⟩
  rw [← ha] at nfr I1
  have isL : ∀ {pins' : List (Addr × Obj)} {σ' : L2.St} {s' : Shared}, Inv X pins' σ' (upd H a (.frz o (.lst [.str y1, .str y2, .str y3, .str y4]))) s' → s'.heap.IsList a #[.str y1 T0, .str y2 (T0 + 1), .str y3 (T0 + 1 + 1), .str y4 (T0 + 1 + 1 + 1)] := by
    intro pins' σ' s' I'
    obtain ⟨h5, _⟩ := I'.hok a _ upd_same
    exact ⟨o, h5, by rw [ho], 0, by rw [ho]⟩
  have sq : SqL X.K (upd H a (.frz o (.lst [.str y1, .str y2, .str y3, .str y4]))) a [.str y1, .str y2, .str y3, .str y4] := .inl (.inr ⟨o, upd_same⟩)
  have itAt : ∀ i, i < 4 → ∃ t, (#[Value.str y1 T0, Value.str y2 (T0 + 1), Value.str y3 (T0 + 1 + 1), Value.str y4 (T0 + 1 + 1 + 1)] : Array Value)[i]? = some (.str (yAt y1 y2 y3 y4 i) t) ∧ 1 ≤ t ∧ t < T0 + 4 := by
    intro i hi
    have hc : i = 0 ∨ i = 1 ∨ i = 2 ∨ i = 3 := by omega
    rcases hc with rfl | rfl | rfl | rfl
    · exact ⟨T0, rfl, by omega, by omega⟩
    · exact ⟨T0 + 1, rfl, by omega, by omega⟩
    · exact ⟨T0 + 1 + 1, rfl, by omega, by omega⟩
    · exact ⟨T0 + 1 + 1 + 1, rfl, by omega, by omega⟩
  have vAt : ∀ i, i < 4 → ([.str y1, .str y2, .str y3, .str y4] : List V)[i]? = some (.str (yAt y1 y2 y3 y4 i)) := by
    intro i hi
    have hc : i = 0 ∨ i = 1 ∨ i = 2 ∨ i = 3 := by omega
    rcases hc with rfl | rfl | rfl | rfl <;> rfl
  generalize hH1 : upd H a (.frz o (.lst [.str y1, .str y2, .str y3, .str y4])) = H1 at I1 isL sq
  rw [← ha, ← ho]
  generalize hs1 : ({ s with heap := s.heap.push o, toks := T0 + 1 + 1 + 1 + 1 } : Shared) = s1 at I1
  have ht1 : T0 + 4 ≤ s1.toks := by rw [← hs1]; exact Nat.le_refl _
  refine thn (show wpAny _ _ (pyIter (.ref a)) (fun itv s2 => ∃ it, itv = .ref it ∧ Inv X pins σ H1 s2 ∧ s2.heap.IsListIter it a 0 ∧ (∀ b ∈ [it], FpOk X pins H1 b) ∧ T0 + 4 ≤ s2.toks) _ s1 from ?_) fun itv s2 h2 => ?_
  · refine wpAny_pyIter_list (isL I1) ?_
    refine ⟨s1.heap.objs.size, rfl, I1.kept (t' := s1.toks) fun b o e => Heap.get?_push_of_some _ e, ⟨_, Heap.get?_push_size _ rfl, rfl, rfl⟩, fun b hb => ?_, ht1⟩
    have e : b = s1.heap.objs.size := by simpa using hb
    subst e
    exact I1.fpOk (Nat.le_refl _) (I1.hok.fresh (Nat.le_refl _))
  obtain ⟨it, rfl, I2, st2, f2, ht2⟩ := h2
  have T := turn_list (P := X.prog) (w := X.w) (K := X.K) (tg := .Name px p0) a it
  have stat : ∀ {H' : Hp}, (∀ b ∈ [it], H' b = none) → ∀ b ∈ [it], FpOk X pins H' b := fun hn b hb => ⟨hn b hb, (f2 b hb).2⟩
  have fr2 : ∀ b ∈ [it], H1 b = none := fun b hb => (f2 b hb).1
  refine codeAny_forLoop_any (fun n s' => ∃ i, i + n = 4 ∧ Inv X pins (F i) H1 s' ∧ s'.heap.IsListIter it a i ∧ T0 + 4 ≤ s'.toks) ?_ 4 ⟨0, rfl, by rw [F0]; exact I2, st2, ht2⟩
  rintro n s3 ⟨i, hin, I3, st3, ht3⟩
  by_cases hi : i < 4
  · obtain ⟨t, hu, t1, t2⟩ := itAt i hi
    obtain ⟨hx, hb, hFi⟩ := hF i hi
    obtain ⟨f0, f1, f2', f3, f4, f5⟩ := stat fr2 it (by simp)
    refine wpAny_passesOwn hp (wpAny_pyNext_list_item st3 (isL I3) hu fun h' st' sb => ?_)
    have I4 : Inv X pins (F i) H1 { s3 with heap := h' } := I3.turned (t' := s3.toks) (fun b o hb e => (sb.2 b hb).trans e) f0 f1 f3 f4 f5
    obtain ⟨oi, e, c, d⟩ := id st'
    refine wpAny_passesOwn hp (go_of (s := { s3 with heap := h' }) e c d (by decide) ?_)
    have I4' := I4.pinned (stat fr2) (T.obj _ _ st')
    refine wpAny_passesOwn hp (wpAny_assign_Name (store_raw (v := V.str (yAt y1 y2 y3 y4 i)) I4' hN hNp hvp ⟨t, rfl⟩ fun s6 I6 raw6 ht6 _ => ?_))
    have ht6' : T0 + 4 ≤ s6.toks := by rw [ht6]; exact Nat.le_trans ht3 (Nat.le_add_right _ _)
    refine wpAny_passesOwn hp (thn (show wpAny (model X.prog X.w) X.A (execs [.Assign [.Name kx pa] (.Call (.Attribute (.Name kx p1) "replace" apos) [.Name px p2, .Constant (.str z) jz cz] [] pos) pos2] X.env) (fun f s7 => f = .next ∧ Inv X (pins ++ pinsAt [it] h') (F (i + 1)) H1 s7 ∧ T0 + 4 ≤ s7.toks) X.xe s6 from ?_) fun f s7 q7 => ?_)
    · refine wpAny_execs_cons (wpAny_Assign_Name (PySem.Call_method2 hbase hst hline ?_) hsw)
      have hx6 : ((F i).set ip (some (V.str (yAt y1 y2 y3 y4 i))))[ik]? = some (some (.str (xs i))) := by
        rw [List.getElem?_set_ne (Ne.symm hne)]
        exact hx
      refine raw_name hNk (.inl hvk) I6 hx6 (fun v r => ?_) hdk hck
      obtain ⟨tx, ev⟩ := r
      subst ev
      refine ⟨"str", _, PySem.F.plainAttrs_str, PySem.F.slot_str_replace, PySem.F.type_str_replace, typeIs_str _ _ _, (fun _ e => nomatch e), Calls.callWith_builtin rfl (Calls.evalArgs_plain (Calls.spliced_cons ?_))⟩
      refine raw_load hvp I6 raw6 ?_ hdp
      refine Calls.spliced_cons (Calls.Constant_str (Calls.spliced_nil ?_))
      refine wpAny_mono (PySem.wpAny_toks_of (n := T0 + 4) (Nat.le_trans ht6' (Nat.le_add_right _ 1)) (PySem.SC.replace (Q := fun v s8 => ∃ t', v = Value.str (Txt.replace (xs i) (yAt y1 y2 y3 y4 i) z) t' ∧ Inv X (pins ++ pinsAt [it] h') ((F i).set ip (some (V.str (yAt y1 y2 y3 y4 i)))) H1 s8) (by show t ≠ 0; omega) (by show s6.toks ≠ 0; omega) (by show t ≠ s6.toks; omega) (hy i) hb fun t' k => ⟨t', rfl, I6.tok k⟩)) (fun v s8 q8 => ?_) fun _ _ q => q.2
      obtain ⟨ht8, t', rfl, I8⟩ := q8
      refine store_raw (v := V.str (Txt.replace (xs i) (yAt y1 y2 y3 y4 i) z)) I8 hN hNk hvk ⟨t', rfl⟩ fun s9 I9 _ ht9 _ => ?_
      refine wpAny_execs_nil ⟨rfl, by rw [hFi]; exact I9, by omega⟩
    · obtain ⟨rfl, I7, ht7⟩ := q7
      refine ⟨n - 1, by omega, i + 1, by omega, I7.unpinned, T.keep _ _ _ st' fun b hb o e => (I7.pin (b, o) (List.mem_append_right _ (List.mem_append_right _ (mem_pinsAt hb e)))).1, ht7⟩
  · have hi4 : i = 4 := by omega
    subst hi4
    refine wpAny_passesOwn hp (thn (T.done X rfl rfl rfl hc 4 pins s3 (F 4) H1 X.xe I3 (stat fr2) st3 ⟨_, sq, Nat.le_refl _⟩) fun r s4 ⟨hr, I4⟩ => ?_)
    subst hr
    exact wpAny_execs_nil ⟨F 4, H1, I4, by rw [← hH1]; exact fin a o nfr⟩
end
end Ly

set_option maxHeartbeats 4000000
namespace Ly
open PySem PySem.Spec PyProof.Rows L2 SX PySem.StrLaws
/-! ### pairs struck out -/
def rm (o : Nat) (l : List Nat) : List Nat := replL [o, oth o] [] l
theorem rm_nil (o : Nat) : rm o [] = [] := replL_nil
theorem rm_hit (o : Nat) (r : List Nat) : rm o (o :: oth o :: r) = rm o r := by
  unfold rm
  rw [replL_hit (by simp) rfl]
  rfl
theorem rm_miss {o c : Nat} {r : List Nat} (h : ¬ (c = o ∧ ∃ t, r = oth o :: t)) : rm o (c :: r) = c :: rm o r := by
  unfold rm
  refine replL_miss fun e => h ?_
  cases r with
  | nil => cases e
  | cons d t =>
    have e1 : c :: [d] = o :: [oth o] := e
    exact ⟨(List.cons.inj e1).1, t, by rw [(List.cons.inj (List.cons.inj e1).2).1]⟩
theorem rm_cases (o : Nat) : ∀ l : List Nat, l = [] ∨ (∃ r, l = o :: oth o :: r) ∨ ∃ c r, l = c :: r ∧ ¬ (c = o ∧ ∃ t, r = oth o :: t)
  | [] => .inl rfl
  | c :: r => by
    by_cases h : c = o ∧ ∃ t, r = oth o :: t
    · obtain ⟨rfl, t, rfl⟩ := h
      exact .inr (.inl ⟨t, rfl⟩)
    · exact .inr (.inr ⟨c, r, rfl, h⟩)
theorem rm_fold {o : Nat} (ho : o ∈ OPN) : ∀ (n : Nat) (l : List Nat) (st : Option (List Nat)), l.length ≤ n → (rm o l).foldl stp st = l.foldl stp st
  | n, l, st, hn => by
    rcases rm_cases o l with rfl | ⟨r, rfl⟩ | ⟨c, r, rfl, h⟩
    · rw [rm_nil]
    · cases n with
      | zero => simp at hn
      | succ n =>
        rw [rm_hit, rm_fold ho n r st (by simp at hn; omega), List.foldl_cons, List.foldl_cons]
        congr 1
        cases st with
        | none => rfl
        | some st => rw [stp_opn ho, stp_clo (oth_clo o ho)]
    · cases n with
      | zero => simp at hn
      | succ n => rw [rm_miss h, List.foldl_cons, List.foldl_cons, rm_fold ho n r _ (by simpa using hn)]
theorem rm_clean {o : Nat} (ho : o ∈ OPN) (l : List Nat) : clean (rm o l) ↔ clean l := by
  unfold clean run
  rw [rm_fold ho _ l _ (Nat.le_refl _)]
theorem rm_le (o : Nat) : ∀ (n : Nat) (l : List Nat), l.length ≤ n → (rm o l).length ≤ l.length ∧ ((rm o l).length = l.length → rm o l = l) ∧ ∀ c ∈ rm o l, c ∈ l
  | n, l, hn => by
    rcases rm_cases o l with rfl | ⟨r, rfl⟩ | ⟨c, r, rfl, h⟩
    · rw [rm_nil]
      exact ⟨Nat.le_refl _, fun _ => rfl, fun _ h => h⟩
    · cases n with
      | zero => simp at hn
      | succ n =>
        obtain ⟨h1, h2, h3⟩ := rm_le o n r (by simp at hn; omega)
        rw [rm_hit]
        refine ⟨by simp; omega, fun e => ?_, fun c hc => List.mem_cons_of_mem _ (List.mem_cons_of_mem _ (h3 c hc))⟩
        simp at e
        omega
    · cases n with
      | zero => simp at hn
      | succ n =>
        obtain ⟨h1, h2, h3⟩ := rm_le o n r (by simpa using hn)
        rw [rm_miss h]
        refine ⟨by simp; omega, fun e => ?_, fun d hd => ?_⟩
        · rw [h2 (by simpa using e)]
        · rcases List.mem_cons.mp hd with rfl | hd
          · exact List.mem_cons_self ..
          · exact List.mem_cons_of_mem _ (h3 d hd)
theorem rm_lt (o : Nat) : ∀ (u v : List Nat), (rm o (u ++ o :: oth o :: v)).length < (u ++ o :: oth o :: v).length
  | [], v => by
    have := (rm_le o v.length v (Nat.le_refl _)).1
    show (rm o (o :: oth o :: v)).length < (o :: oth o :: v).length
    rw [rm_hit]
    simp
    omega
  | c :: u, v => by
    have ih := rm_lt o u v
    rcases rm_cases o (c :: u ++ o :: oth o :: v) with h | ⟨r, h⟩ | ⟨d, r, h, hn⟩
    · cases h
    · rw [h, rm_hit]
      have := (rm_le o r.length r (Nat.le_refl _)).1
      simp
      omega
    · have e := List.cons.inj h
      rw [h, rm_miss hn, ← e.2]
      simp at ih ⊢
      omega
def allB (l : List Nat) : Prop := ∀ c ∈ l, c ∈ BRK
/-- a clean text of brackets that is not empty has a pair side by side -/
theorem clean_side : ∀ (n : Nat) (l : List Nat), l.length ≤ n → clean l → allB l → l ≠ [] → ∃ u o v, o ∈ OPN ∧ l = u ++ o :: oth o :: v
  | n, [], _, _, _, h => absurd rfl h
  | 0, c :: l, hn, _, _, _ => by simp at hn
  | n + 1, c :: r, hn, h, hb, _ => by
    have hcb := hb c (List.mem_cons_self ..)
    rcases brk_or.mp hcb with h1 | h2
    · obtain ⟨a, b, e, ca, cb⟩ := clean_opn h1 h
      subst e
      cases a with
      | nil => exact ⟨[], c, b, h1, rfl⟩
      | cons d a =>
        obtain ⟨u, o, v, ho, e⟩ := clean_side n (d :: a) (by simp at hn ⊢; omega) ca (fun x hx => hb x (List.mem_cons_of_mem _ (List.mem_append_left _ hx))) (by simp)
        refine ⟨c :: u, o, v ++ oth c :: b, ho, ?_⟩
        rw [e]
        simp
    · exact absurd h (clean_clo h2)
/-- all four kinds, one behind the other -/
def rm4 (l : List Nat) : List Nat := rm 123 (rm 91 (rm 60 (rm 40 l)))
theorem rm4_le (l : List Nat) : (rm4 l).length ≤ l.length ∧ ((rm4 l).length = l.length → ∀ o ∈ OPN, rm o l = l) ∧ ∀ c ∈ rm4 l, c ∈ l := by
  obtain ⟨a1, a2, a3⟩ := rm_le 40 _ l (Nat.le_refl _)
  obtain ⟨b1, b2, b3⟩ := rm_le 60 _ (rm 40 l) (Nat.le_refl _)
  obtain ⟨c1, c2, c3⟩ := rm_le 91 _ (rm 60 (rm 40 l)) (Nat.le_refl _)
  obtain ⟨d1, d2, d3⟩ := rm_le 123 _ (rm 91 (rm 60 (rm 40 l))) (Nat.le_refl _)
  refine ⟨by unfold rm4; omega, fun e => ?_, fun c hc => a3 c (b3 c (c3 c (d3 c hc)))⟩
  have e' : (rm 123 (rm 91 (rm 60 (rm 40 l)))).length = l.length := e
  have x1 := a2 (by omega)
  rw [x1] at b1 b2 c1 c2 d1 d2 e'
  have x2 := b2 (by omega)
  rw [x2] at c1 c2 d1 d2 e'
  have x3 := c2 (by omega)
  rw [x3] at d1 d2 e'
  have x4 := d2 (by omega)
  intro o ho
  have : o = 40 ∨ o = 60 ∨ o = 91 ∨ o = 123 := by simpa [OPN] using ho
  rcases this with rfl | rfl | rfl | rfl
  · exact x1
  · exact x2
  · exact x3
  · exact x4
theorem rm4_clean (l : List Nat) : clean (rm4 l) ↔ clean l := by
  unfold rm4
  rw [rm_clean (by decide), rm_clean (by decide), rm_clean (by decide), rm_clean (by decide)]
/-- nothing more to strike: clean just where nothing is left -/
theorem rm4_end {l : List Nat} (hb : allB l) (h : (rm4 l).length = l.length) : clean l ↔ l = [] := by
  constructor
  · intro hc
    by_cases e : l = []
    · exact e
    · exfalso
      obtain ⟨u, o, v, ho, e2⟩ := clean_side _ l (Nat.le_refl _) hc hb e
      have x := (rm4_le l).2.1 h o ho
      have y := rm_lt o u v
      rw [← e2, x] at y
      omega
  · rintro rfl
    exact clean_nil
/-! the program's texts -/
theorem replace_rm {o : Nat} {l : List Nat} : Txt.replace (S l) (S [o, oth o]) (S []) = S (rm o l) := by
  have e := replace_list (x := S l) (y := S [o, oth o]) (z := S []) (by rw [S_len]; exact Nat.le_succ_of_le (Nat.le_refl 1))
  refine TL.ext_tl ?_
  exact e
end Ly

set_option maxHeartbeats 4000000
namespace Ly
open PySem PySem.Spec PyProof.Rows L2 SX
/-- pairs struck out of the text at ik, all four kinds -/
def tRm (ik ip : Nat) : TS := fun D σ H => ∃ l : List Nat, σ[ik]? = some (some (Tx l)) ∧ l.length ≤ 1000 ∧ ∀ H', Same H H' → D.nx ((σ.set ip (some (Tx [123, 125]))).set ik (some (Tx (rm4 l)))) H'
theorem set_again {α : Type} {A : List α} {p k : Nat} {a b c d : α} (h : k ≠ p) : (((A.set p a).set k b).set p c).set k d = (A.set p c).set k d := by
  rw [List.set_comm b c h, List.set_set, List.set_set]
def rmF (σ : L2.St) (ik ip : Nat) (l : List Nat) : Nat → L2.St
  | 0 => σ
  | 1 => (σ.set ip (some (Tx [40, 41]))).set ik (some (Tx (rm 40 l)))
  | 2 => (σ.set ip (some (Tx [60, 62]))).set ik (some (Tx (rm 60 (rm 40 l))))
  | 3 => (σ.set ip (some (Tx [91, 93]))).set ik (some (Tx (rm 91 (rm 60 (rm 40 l)))))
  | _ => (σ.set ip (some (Tx [123, 125]))).set ik (some (Tx (rm4 l)))
def rmX (l : List Nat) : Nat → List Nat
  | 0 => l
  | 1 => rm 40 l
  | 2 => rm 60 (rm 40 l)
  | _ => rm 91 (rm 60 (rm 40 l))
theorem rep_one {l : List Nat} {o c : Nat} (h : oth o = c) : Txt.replace (S l) (S [o, c]) (S []) = S (rm o l) := by
  rw [← h]
  exact replace_rm
theorem tRm_repl {ik ip : Nat} (hne : ik ≠ ip) {D : Ends} {σ : L2.St} {H : Hp} (h : tRm ik ip D σ H) : tRepl ik ip (S [40, 41]) (S [60, 62]) (S [91, 93]) (S [123, 125]) (S []) D σ H := by
  obtain ⟨l, hk, hl, q⟩ := h
  have a1 := (rm_le 40 _ l (Nat.le_refl _)).1
  have a2 := (rm_le 60 _ (rm 40 l) (Nat.le_refl _)).1
  have a3 := (rm_le 91 _ (rm 60 (rm 40 l)) (Nat.le_refl _)).1
  have hik : ik < σ.length := (List.getElem?_eq_some_iff.mp hk).1
  have bound : ∀ x : List Nat, x.length ≤ 1000 → (S x).length + ((S x).length + 1) * (S []).length ≤ 16777216 := by
    intro x hx
    rw [S_len, S_len]
    simp
    omega
  have at_ : ∀ (A : L2.St) (v : Option V), A.length = σ.length → (A.set ik v)[ik]? = some v := fun A v hA => List.getElem?_set_self (by omega)
  refine ⟨rmF σ ik ip l, fun i => S (rmX l i), rfl, fun i hi => ?_, fun a o na => q _ (Same.new na)⟩
  have hc : i = 0 ∨ i = 1 ∨ i = 2 ∨ i = 3 := by omega
  rcases hc with rfl | rfl | rfl | rfl
  · refine ⟨hk, bound _ hl, ?_⟩
    show (σ.set ip (some (Tx [40, 41]))).set ik (some (Tx (rm 40 l))) = _
    rw [show Tx (rm 40 l) = V.str (Txt.replace (S l) (S [40, 41]) (S [])) by rw [rep_one (by decide)]]
    rfl
  · refine ⟨at_ _ _ (by simp), bound _ (by show (rm 40 l).length ≤ 1000; omega), ?_⟩
    show (σ.set ip (some (Tx [60, 62]))).set ik (some (Tx (rm 60 (rm 40 l)))) = (((σ.set ip (some (Tx [40, 41]))).set ik (some (Tx (rm 40 l)))).set ip (some (Tx [60, 62]))).set ik (some (V.str (Txt.replace (S (rm 40 l)) (S [60, 62]) (S []))))
    rw [rep_one (by decide), set_again hne]
  · refine ⟨at_ _ _ (by simp), bound _ (by show (rm 60 (rm 40 l)).length ≤ 1000; omega), ?_⟩
    show (σ.set ip (some (Tx [91, 93]))).set ik (some (Tx (rm 91 (rm 60 (rm 40 l))))) = (((σ.set ip (some (Tx [60, 62]))).set ik (some (Tx (rm 60 (rm 40 l))))).set ip (some (Tx [91, 93]))).set ik (some (V.str (Txt.replace (S (rm 60 (rm 40 l))) (S [91, 93]) (S []))))
    rw [rep_one (by decide), set_again hne]
  · refine ⟨at_ _ _ (by simp), bound _ (by show (rm 91 (rm 60 (rm 40 l))).length ≤ 1000; omega), ?_⟩
    show (σ.set ip (some (Tx [123, 125]))).set ik (some (Tx (rm4 l))) = (((σ.set ip (some (Tx [91, 93]))).set ik (some (Tx (rm 91 (rm 60 (rm 40 l)))))).set ip (some (Tx [123, 125]))).set ik (some (V.str (Txt.replace (S (rm 91 (rm 60 (rm 40 l)))) (S [123, 125]) (S []))))
    rw [rep_one (by decide), set_again hne]
    rfl
section
variable {X : Cx} {ik ip : Nat} {kx px z : Str} {y1 y2 y3 y4 : Str}
theorem pst_rm {j1 j2 j3 j4 jz : Nat} {p0 c1 c2 c3 c4 pl pa p1 apos p2 cz pos pos2 pos3 : Pos} (hp : PassesOwn (model X.prog X.w) X.A X.env X.xe) (hc : X.calm = true) (hN : X.N.Nodup) (hNk : X.N[ik]? = some kx) (hvk : X.env.scope.names.lookup kx = some .local)
    (hNp : X.N[ip]? = some px) (hvp : X.env.scope.names.lookup px = some .local) (hne : ik ≠ ip) (e1 : y1 = S [40, 41]) (e2 : y2 = S [60, 62]) (e3 : y3 = S [91, 93]) (e4 : y4 = S [123, 125]) (ez : z = S [])
    (hdk : (kx == ("__debug__" : Str)) = false) (hck : (kx == ("__classdict__" : Str)) = false) (hdp : (px == ("__debug__" : Str)) = false)
    (hs : ∀ x, foldedSetIterable (.List [.Constant (.str y1) j1 c1, .Constant (.str y2) j2 c2, .Constant (.str y3) j3 c3, .Constant (.str y4) j4 c4] pl) X.env x = pure x := by intro _; rfl)
    (hst : starEach [.Name px p2, .Constant (.str z) jz cz] X.env = [(false, eval (.Name px p2) X.env), (false, eval (.Constant (.str z) jz cz) X.env)] := by rfl)
    (hbase : attributeBase (.Name kx p1) "replace" X.env (eval (.Name kx p1) X.env) = eval (.Name kx p1) X.env := by rfl) (hline : (apos.endLine == pos.line) = true := by rfl)
    (hsw : swapsWith (.Call (.Attribute (.Name kx p1) "replace" apos) [.Name px p2, .Constant (.str z) jz cz] [] pos) (some (.Name kx pa)) pos2.line X.env = pure false := by rfl) :
    PST X (.For (.Name px p0) (.List [.Constant (.str y1) j1 c1, .Constant (.str y2) j2 c2, .Constant (.str y3) j3 c3, .Constant (.str y4) j4 c4] pl)
      [.Assign [.Name kx pa] (.Call (.Attribute (.Name kx p1) "replace" apos) [.Name px p2, .Constant (.str z) jz cz] [] pos) pos2] [] pos3) (tRm ik ip) := by
  have hy : ∀ i, (yAt y1 y2 y3 y4 i == z) = false := by
    subst e1 e2 e3 e4 ez
    intro i
    unfold yAt
    split <;> decide +kernel
  intro pins s σ H D h0 I h
  refine pst_repl (y1 := y1) (y2 := y2) (y3 := y3) (y4 := y4) (z := z) hp hc hN hNk hvk hNp hvp hne hy hdk hck hdp hs hst hbase hline hsw pins s σ H D h0 I ?_
  subst e1 e2 e3 e4 ez
  exact tRm_repl hne h
end
end Ly

set_option maxHeartbeats 4000000
namespace Ly
/-! ### from piece to piece -/
theorem seg_clean1 {l : List Nat} {i k : Nat} (h : ptn l i k) : clean (seg l i (k + 1)) := ptn_clean h
theorem aft_chain {l : List Nat} {i : Nat} (hi : i < l.length) : (aft l i = none ∧ ∀ j, i < j → j ≤ l.length → ¬ clean (seg l i j)) ∨ ∃ k, aft l i = some k ∧ i < k ∧ k ≤ l.length ∧ clean (seg l i k) ∧ ∀ j, i < j → j ≤ l.length → clean (seg l i j) → k ≤ j := by
  rcases aft_spec hi with ⟨e, c, hc, h⟩ | ⟨c, hc, h1, h2, e⟩ | ⟨c, k, hc, h1, hk, e⟩
  · refine .inl ⟨e, fun j hij h2 h3 => ?_⟩
    rcases h with h | ⟨h4, h⟩
    · exact seg_clo hc h hij h2 h3
    · obtain ⟨k, hk, _⟩ := seg_opn hc h4 hij h2 h3
      exact h k hk
  · refine .inr ⟨i + 1, e, by omega, hi, ?_, fun j hij _ _ => hij⟩
    rw [seg_one hc]
    exact (clean_let h1 h2).mpr clean_nil
  · have hkl := ptn_lt hk
    have hik := hk.1
    refine .inr ⟨k + 1, e, by omega, hkl, ptn_clean hk, fun j hij hj hc2 => ?_⟩
    obtain ⟨k', hk', h3, _⟩ := seg_opn hc h1 hij hj hc2
    have := ptn_fun hk hk'
    omega
/-- on the way from b to e, at a -/
def Chn (l : List Nat) (b e a : Nat) : Prop := b < a ∧ a ≤ l.length ∧ clean (seg l b a) ∧ (clean (seg l b e) → a ≤ e)
theorem chn_step {l : List Nat} {b e a : Nat} (C : Chn l b e a) (ha : a < e) (he : e ≤ l.length) : (aft l a = none ∧ ¬ clean (seg l b e)) ∨ ∃ k, aft l a = some k ∧ a < k ∧ Chn l b e k := by
  obtain ⟨c1, c2, c3, c4⟩ := C
  have app : ∀ j, a ≤ j → seg l b j = seg l b a ++ seg l a j := fun j hj => seg_app (by omega) hj c2
  rcases aft_chain (l := l) (i := a) (by omega) with ⟨h1, h2⟩ | ⟨k, h1, h2, h3, h4, h5⟩
  · refine .inl ⟨h1, fun h => ?_⟩
    rw [app e (by omega), clean_cancel c3] at h
    exact h2 e ha he h
  · refine .inr ⟨k, h1, h2, by omega, h3, ?_, fun h => ?_⟩
    · rw [app k (by omega)]
      exact clean_app c3 h4
    · rw [app e (by omega), clean_cancel c3] at h
      exact h5 e ha he h
theorem chn_end {l : List Nat} {b e a : Nat} (C : Chn l b e a) (ha : e ≤ a) : a = e ↔ clean (seg l b e) := by
  constructor
  · rintro rfl
    exact C.2.2.1
  · intro h
    have := C.2.2.2 h
    omega
/-! ### sums -/
def sumTo (l : List Nat) (b : Nat) : Nat := ((List.range b).map fun i => cp (l.drop i)).sum
theorem sumTo_succ (l : List Nat) (b : Nat) : sumTo l (b + 1) = sumTo l b + cp (l.drop b) := by
  unfold sumTo
  rw [List.range_succ, List.map_append, List.sum_append]
  simp
theorem sumTo_all (l : List Nat) : sumTo l l.length = many l := by
  rw [← cps_sum]
  have : (cps l).sum = sumTo l (l.length + 1) := rfl
  rw [this, sumTo_succ, List.drop_length]
  rfl
def cpTo (l : List Nat) (b j : Nat) : Nat := (List.range j).countP fun k => decide (clean (seg l b (b + 1 + k)))
theorem cpTo_succ (l : List Nat) (b j : Nat) : cpTo l b (j + 1) = cpTo l b j + if clean (seg l b (b + 1 + j)) then 1 else 0 := by
  unfold cpTo
  rw [List.range_succ, List.countP_append]
  simp [List.countP_cons]
theorem cpTo_all (l : List Nat) (b : Nat) : cpTo l b (l.length - b) = cp (l.drop b) := by
  unfold cpTo cp
  rw [List.length_drop]
  apply List.countP_congr
  intro k _
  unfold seg
  rw [List.drop_take, show b + 1 + k - b = k + 1 by omega]
end Ly

set_option maxHeartbeats 4000000
namespace Ly
open PySem PySem.Spec PyProof.Rows L2 SX
/-! ### nests in the heap: each inner list is one of its own -/
inductive Nd where
  | let_ (c : Nat)
  | num (i : Int)
  | br (o : Nat) (ds : List Nd)
mutual
inductive TrI (H : Hp) : V → Nd → List Addr → Prop
  | let_ (c : Nat) : TrI H (Tx [c]) (.let_ c) []
  | num (i : Int) : TrI H (.int i) (.num i) []
  | br {t b : Addr} {o : Nat} {xs : List V} {ds : List Nd} {A : List Addr} : H t = some (.tup [Tx [o], .ref b]) → H b = some (.lst xs) → TrIs H xs ds A → TrI H (.ref t) (.br o ds) (b :: A)
inductive TrIs (H : Hp) : List V → List Nd → List Addr → Prop
  | nil : TrIs H [] [] []
  | cons {v : V} {vs : List V} {d : Nd} {ds : List Nd} {A B : List Addr} : TrI H v d A → TrIs H vs ds B → TrIs H (v :: vs) (d :: ds) (A ++ B)
end
/-- all but the lists in C stay -/
def ButS (C : List Addr) (H H' : Hp) : Prop := (∀ x ∈ C, ∃ ys, H x = some (.lst ys)) ∧ ∀ x o, H x = some o → x ∉ C → H' x = some o
theorem ButS.refl (H : Hp) : ButS [] H H := ⟨by simp, fun _ _ h _ => h⟩
theorem ButS.of_same {H H' : Hp} (s : Same H H') : ButS [] H H' := ⟨by simp, fun x o h _ => s x o h⟩
mutual
theorem TrI.frame {H H' : Hp} {C : List Addr} (s : ButS C H H') : ∀ {v : V} {d : Nd} {A : List Addr}, TrI H v d A → (∀ x ∈ A, x ∉ C) → TrI H' v d A
  | _, _, _, .let_ c, _ => .let_ c
  | _, _, _, .num i, _ => .num i
  | _, _, _, @TrI.br _ t b o xs ds A ht hb hs, h => .br (s.2 _ _ ht fun hc => by obtain ⟨ys, e⟩ := s.1 _ hc; rw [ht] at e; cases e) (s.2 _ _ hb (h b (List.mem_cons_self ..))) (TrIs.frame s hs fun x hx => h x (List.mem_cons_of_mem _ hx))
theorem TrIs.frame {H H' : Hp} {C : List Addr} (s : ButS C H H') : ∀ {vs : List V} {ds : List Nd} {A : List Addr}, TrIs H vs ds A → (∀ x ∈ A, x ∉ C) → TrIs H' vs ds A
  | _, _, _, .nil, _ => .nil
  | _, _, _, .cons hi hs, h => .cons (TrI.frame s hi fun x hx => h x (List.mem_append_left _ hx)) (TrIs.frame s hs fun x hx => h x (List.mem_append_right _ hx))
end
mutual
theorem TrI.lsts {H : Hp} : ∀ {v : V} {d : Nd} {A : List Addr}, TrI H v d A → ∀ x ∈ A, ∃ ys, H x = some (.lst ys)
  | _, _, _, .let_ c, x, hx => by simp at hx
  | _, _, _, .num i, x, hx => by simp at hx
  | _, _, _, .br ht hb hs, x, hx => by
    rcases List.mem_cons.mp hx with rfl | hx
    · exact ⟨_, hb⟩
    · exact TrIs.lsts hs x hx
theorem TrIs.lsts {H : Hp} : ∀ {vs : List V} {ds : List Nd} {A : List Addr}, TrIs H vs ds A → ∀ x ∈ A, ∃ ys, H x = some (.lst ys)
  | _, _, _, .nil, x, hx => by simp at hx
  | _, _, _, .cons hi hs, x, hx => by
    rcases List.mem_append.mp hx with hx | hx
    · exact TrI.lsts hi x hx
    · exact TrIs.lsts hs x hx
end
theorem TrIs.len {H : Hp} : ∀ {vs : List V} {ds : List Nd} {A : List Addr}, TrIs H vs ds A → vs.length = ds.length
  | _, _, _, .nil => rfl
  | _, _, _, .cons _ hs => by simp [TrIs.len hs]
theorem TrIs.app {H : Hp} : ∀ {vs ws : List V} {ds es : List Nd} {A B : List Addr}, TrIs H vs ds A → TrIs H ws es B → TrIs H (vs ++ ws) (ds ++ es) (A ++ B)
  | _, _, _, _, _, _, .nil, h => h
  | _, _, _, _, _, _, .cons hi hs, h => by
    rw [List.append_assoc]
    exact .cons hi (TrIs.app hs h)
theorem TrIs.snoc {H : Hp} {vs : List V} {v : V} {ds : List Nd} {d : Nd} {A B : List Addr} (h : TrIs H vs ds A) (h1 : TrI H v d B) : TrIs H (vs ++ [v]) (ds ++ [d]) (A ++ B) := by
  have := TrIs.app h (.cons h1 .nil)
  simpa using this
theorem TrIs.split {H : Hp} : ∀ {vs ws : List V} {ds : List Nd} {A : List Addr}, TrIs H (vs ++ ws) ds A → ∃ ds1 ds2 A1 A2, ds = ds1 ++ ds2 ∧ A = A1 ++ A2 ∧ TrIs H vs ds1 A1 ∧ TrIs H ws ds2 A2
  | [], ws, ds, A, h => ⟨[], ds, [], A, rfl, rfl, .nil, h⟩
  | v :: vs, ws, _, _, .cons hi hs => by
    obtain ⟨ds1, ds2, A1, A2, rfl, rfl, h1, h2⟩ := TrIs.split hs
    exact ⟨_ :: ds1, ds2, _ ++ A1, A2, rfl, by rw [List.append_assoc], .cons hi h1, h2⟩
/-! depth, size -/
mutual
def Nd.deep : Nd → Nat
  | .br _ ds => Nd.deeps ds + 1
  | _ => 0
def Nd.deeps : List Nd → Nat
  | [] => 0
  | d :: ds => max (Nd.deep d) (Nd.deeps ds)
end
/-! ### numbered -/
mutual
def numI : Nd → Int → Nd × Int
  | .br o ds, n => (.br o ((numLs ds n).1 ++ [.num (numLs ds n).2]), (numLs ds n).2 + 1)
  | .let_ c, n => (.let_ c, n)
  | .num i, n => (.num i, n)
def numLs : List Nd → Int → List Nd × Int
  | [], n => ([], n)
  | d :: ds, n => ((numI d n).1 :: (numLs ds (numI d n).2).1, (numLs ds (numI d n).2).2)
end
theorem numLs_app : ∀ (ds es : List Nd) (n : Int), numLs (ds ++ es) n = ((numLs ds n).1 ++ (numLs es (numLs ds n).2).1, (numLs es (numLs ds n).2).2)
  | [], es, n => by simp [numLs]
  | d :: ds, es, n => by
    rw [List.cons_append, numLs, numLs_app ds es, numLs]
    rfl
theorem deeps_app : ∀ (ds es : List Nd), Nd.deeps (ds ++ es) = max (Nd.deeps ds) (Nd.deeps es)
  | [], es => by simp [Nd.deeps]
  | d :: ds, es => by
    rw [List.cons_append, Nd.deeps, deeps_app ds es, Nd.deeps]
    omega
end Ly
namespace Ly
open PySem PySem.Spec PyProof.Rows L2 SX
mutual
def Nd.wide : Nd → Nat
  | .br _ ds => Nd.wides ds
  | _ => 0
def Nd.wides : List Nd → Nat
  | [] => 0
  | d :: ds => max (Nd.wide d) (max (ds.length + 1) (Nd.wides ds))
end
theorem len_wides : ∀ ds : List Nd, ds.length ≤ Nd.wides ds
  | [] => Nat.le_refl _
  | d :: ds => by
    rw [Nd.wides, List.length_cons]
    omega
theorem mem_wides : ∀ {ds : List Nd} {d : Nd}, d ∈ ds → Nd.wide d ≤ Nd.wides ds
  | e :: ds, d, h => by
    rw [Nd.wides]
    rcases List.mem_cons.mp h with rfl | h
    · omega
    · have := mem_wides h
      omega
theorem mem_deeps : ∀ {ds : List Nd} {d : Nd}, d ∈ ds → Nd.deep d ≤ Nd.deeps ds
  | e :: ds, d, h => by
    rw [Nd.deeps]
    rcases List.mem_cons.mp h with rfl | h
    · omega
    · have := mem_deeps h
      omega
theorem ButS.trans {C D : List Addr} {H H1 H2 : Hp} (x : ButS C H H1) (y : ButS D H1 H2) (hD : ∀ a ∈ D, ∃ ys, H a = some (.lst ys)) : ButS (C ++ D) H H2 := by
  refine ⟨fun a ha => ?_, fun a o h hn => ?_⟩
  · rcases List.mem_append.mp ha with ha | ha
    · exact x.1 a ha
    · exact hD a ha
  · rw [List.mem_append, not_or] at hn
    exact y.2 a o (x.2 a o h hn.1) hn.2
theorem ButS.but {b : Addr} {xs : List V} {H H1 : Hp} (h : H b = some (.lst xs)) (y : But b H H1) : ButS [b] H H1 := by
  refine ⟨fun a ha => ?_, fun a o h hn => y a o (fun e => hn (by rw [e]; simp)) h⟩
  rw [List.mem_singleton] at ha
  rw [ha]
  exact ⟨_, h⟩
theorem ButS.perm {C D : List Addr} {H H1 : Hp} (x : ButS C H H1) (h : ∀ a, a ∈ C ↔ a ∈ D) : ButS D H H1 := ⟨fun a ha => x.1 a ((h a).mpr ha), fun a o e hn => x.2 a o e fun hc => hn ((h a).mp hc)⟩
theorem TrI.same {H H' : Hp} (s : Same H H') {v : V} {d : Nd} {A : List Addr} (h : TrI H v d A) : TrI H' v d A := TrI.frame (ButS.of_same s) h (by simp)
theorem TrIs.same {H H' : Hp} (s : Same H H') {v : List V} {d : List Nd} {A : List Addr} (h : TrIs H v d A) : TrIs H' v d A := TrIs.frame (ButS.of_same s) h (by simp)
end Ly

set_option maxHeartbeats 4000000
namespace Ly
open PySem PySem.Spec PyProof.Rows L2 SX
/-! ### a nest being made: the list b hangs in open frames -/
inductive Ctx (H : Hp) : Addr → List Addr → List (List Nd × Nat) → List Addr → Prop
  | nil (b : Addr) : Ctx H b [] [] []
  | cons {b b0 t : Addr} {bs : List Addr} {fs : List (List Nd × Nat)} {A A0 : List Addr} {xs0 : List V} {ds0 : List Nd} {o : Nat} : H b0 = some (.lst (xs0 ++ [.ref t])) → TrIs H xs0 ds0 A0 → H t = some (.tup [Tx [o], .ref b]) → Ctx H b0 bs fs A → Ctx H b (b0 :: bs) ((ds0, o) :: fs) (b0 :: (A0 ++ A))
theorem Ctx.frame {H H' : Hp} {C : List Addr} (s : ButS C H H') : ∀ {b : Addr} {bs : List Addr} {fs : List (List Nd × Nat)} {A : List Addr}, Ctx H b bs fs A → (∀ x ∈ A, x ∉ C) → Ctx H' b bs fs A
  | _, _, _, _, .nil b, _ => .nil b
  | _, _, _, _, .cons h1 h2 h3 h4, h => .cons (s.2 _ _ h1 (h _ (List.mem_cons_self ..))) (TrIs.frame s h2 fun x hx => h x (List.mem_cons_of_mem _ (List.mem_append_left _ hx))) (s.2 _ _ h3 fun hc => by obtain ⟨ys, e⟩ := s.1 _ hc; rw [h3] at e; cases e) (Ctx.frame s h4 fun x hx => h x (List.mem_cons_of_mem _ (List.mem_append_right _ hx)))
theorem Ctx.lsts {H : Hp} : ∀ {b : Addr} {bs : List Addr} {fs : List (List Nd × Nat)} {A : List Addr}, Ctx H b bs fs A → ∀ x ∈ A, ∃ ys, H x = some (.lst ys)
  | _, _, _, _, .nil b, x, hx => by simp at hx
  | _, _, _, _, .cons h1 h2 h3 h4, x, hx => by
    rcases List.mem_cons.mp hx with rfl | hx
    · exact ⟨_, h1⟩
    · rcases List.mem_append.mp hx with hx | hx
      · exact TrIs.lsts h2 x hx
      · exact Ctx.lsts h4 x hx
theorem Ctx.len {H : Hp} : ∀ {b : Addr} {bs : List Addr} {fs : List (List Nd × Nat)} {A : List Addr}, Ctx H b bs fs A → bs.length = fs.length
  | _, _, _, _, .nil b => rfl
  | _, _, _, _, .cons _ _ _ h4 => by simp [Ctx.len h4]
/-- the whole state: the open list, its frames, all lists unlike and new since H0 -/
structure Bld (N : Addr → Prop) (H : Hp) (b : Addr) (bs : List Addr) (fs : List (List Nd × Nat)) (cur : List Nd) : Prop where
  ex : ∃ xs A1 A, H b = some (.lst xs) ∧ TrIs H xs cur A1 ∧ Ctx H b bs fs A ∧ (b :: (A1 ++ A)).Nodup ∧ ∀ x ∈ b :: (A1 ++ A), N x
theorem Bld.start {N : Addr → Prop} {H : Hp} {b : Addr} (h : H b = some (.lst [])) (n : N b) : Bld N H b [] [] [] := ⟨[], [], [], h, .nil, .nil b, by simp, by simpa using n⟩
/-- nothing of it is touched -/
theorem Bld.same {N : Addr → Prop} {H H' : Hp} {b : Addr} {bs : List Addr} {fs : List (List Nd × Nat)} {cur : List Nd} (B : Bld N H b bs fs cur) (s : Same H H') : Bld N H' b bs fs cur := by
  obtain ⟨xs, A1, A, h1, h2, h3, h4, h5⟩ := B.ex
  exact ⟨xs, A1, A, s _ _ h1, TrIs.same s h2, Ctx.frame (ButS.of_same s) h3 (by simp), h4, h5⟩
theorem Bld.but {N : Addr → Prop} {H H' : Hp} {b p : Addr} {bs : List Addr} {fs : List (List Nd × Nat)} {cur : List Nd} {ys : List V} (B : Bld N H b bs fs cur) (s : But p H H') (hp : H p = some (.lst ys)) (hn : ¬ N p) : Bld N H' b bs fs cur := by
  obtain ⟨xs, A1, A, h1, h2, h3, h4, h5⟩ := B.ex
  have bs := ButS.but hp s
  have hno : ∀ x ∈ b :: (A1 ++ A), x ∉ [p] := fun x hx hc => by
    rw [List.mem_singleton] at hc
    rw [hc] at hx
    exact hn (h5 p hx)
  exact ⟨xs, A1, A, bs.2 _ _ h1 (hno b (List.mem_cons_self ..)), TrIs.frame bs h2 fun x hx => hno x (List.mem_cons_of_mem _ (List.mem_append_left _ hx)), Ctx.frame bs h3 fun x hx => hno x (List.mem_cons_of_mem _ (List.mem_append_right _ hx)), h4, h5⟩
theorem Bld.cur {N : Addr → Prop} {H : Hp} {b : Addr} {bs : List Addr} {fs : List (List Nd × Nat)} {cur : List Nd} (B : Bld N H b bs fs cur) : ∃ xs, H b = some (.lst xs) ∧ xs.length = cur.length ∧ N b ∧ bs.length = fs.length := by
  obtain ⟨xs, A1, A, h1, h2, h3, h4, h5⟩ := B.ex
  exact ⟨xs, h1, TrIs.len h2, h5 b (List.mem_cons_self ..), Ctx.len h3⟩
/-- a letter behind -/
theorem Bld.letter {N : Addr → Prop} {H H' : Hp} {b : Addr} {bs : List Addr} {fs : List (List Nd × Nat)} {cur : List Nd} {xs : List V} {c : Nat} (B : Bld N H b bs fs cur) (hb : H b = some (.lst xs)) (s : But b H H') (e : H' b = some (.lst (xs ++ [Tx [c]]))) : Bld N H' b bs fs (cur ++ [.let_ c]) := by
  obtain ⟨xs', A1, A, h1, h2, h3, h4, h5⟩ := B.ex
  rw [hb] at h1
  cases h1
  have bs := ButS.but hb s
  have hn := List.nodup_cons.mp h4
  have hno : ∀ x ∈ A1 ++ A, x ∉ [b] := fun x hx hc => by
    rw [List.mem_singleton] at hc
    rw [hc] at hx
    exact hn.1 hx
  have h2' := TrIs.snoc (TrIs.frame bs h2 fun x hx => hno x (List.mem_append_left _ hx)) (TrI.let_ (H := H') c)
  rw [List.append_nil] at h2'
  exact ⟨_, A1, A, e, h2', Ctx.frame bs h3 fun x hx => hno x (List.mem_append_right _ hx), h4, h5⟩
/-- a bracket opened: i the new list, t the tuple -/
theorem Bld.open_ {N : Addr → Prop} {Hp0 H H' : Hp} {b i t : Addr} {bs : List Addr} {fs : List (List Nd × Nat)} {cur : List Nd} {xs : List V} {o : Nat} (B0 : Bld N Hp0 b bs fs cur) (s0 : Same Hp0 H) (hb : H b = some (.lst xs)) (s : But b H H') (hi : H i = some (.lst [])) (ht : H t = some (.tup [Tx [o], .ref i])) (ni : Hp0 i = none) (hN : N i)
    (e : H' b = some (.lst (xs ++ [.ref t]))) : Bld N H' i (b :: bs) ((cur, o) :: fs) [] := by
  obtain ⟨xs', A1, A, h1, h2, h3, h4, h5⟩ := B0.ex
  have hi' : i ∉ b :: (A1 ++ A) := by
    intro hx
    have : ∃ ys, Hp0 i = some (.lst ys) := by
      rcases List.mem_cons.mp hx with rfl | hx
      · exact ⟨_, h1⟩
      · rcases List.mem_append.mp hx with hx | hx
        · exact TrIs.lsts h2 _ hx
        · exact Ctx.lsts h3 _ hx
    obtain ⟨ys, ey⟩ := this
    rw [ni] at ey
    cases ey
  have h1 := s0 _ _ h1
  have h2 := TrIs.same s0 h2
  have h3 := Ctx.frame (ButS.of_same s0) h3 (by simp)
  rw [hb] at h1
  cases h1
  have bS := ButS.but hb s
  have hn := List.nodup_cons.mp h4
  have hib : i ≠ b := fun e => hi' (by rw [e]; exact List.mem_cons_self ..)
  have htb : t ≠ b := fun e => by rw [e, hb] at ht; cases ht
  have hno : ∀ x ∈ A1 ++ A, x ∉ [b] := fun x hx hc => by
    rw [List.mem_singleton] at hc
    rw [hc] at hx
    exact hn.1 hx
  refine ⟨[], [], b :: (A1 ++ A), s _ _ hib hi, .nil, .cons e (TrIs.frame bS h2 fun x hx => hno x (List.mem_append_left _ hx)) (s _ _ htb ht) (Ctx.frame bS h3 fun x hx => hno x (List.mem_append_right _ hx)), ?_, ?_⟩
  · exact List.nodup_cons.mpr ⟨hi', h4⟩
  · intro x hx
    rcases List.mem_cons.mp hx with rfl | hx
    · exact hN
    · exact h5 x hx
/-- a bracket closed -/
theorem Bld.close {N : Addr → Prop} {H : Hp} {b : Addr} {bs : List Addr} {fs : List (List Nd × Nat)} {cur ds0 : List Nd} {o : Nat} (B : Bld N H b bs ((ds0, o) :: fs) cur) : ∃ b0 bs0, bs = b0 :: bs0 ∧ Bld N H b0 bs0 fs (ds0 ++ [.br o cur]) := by
  obtain ⟨xs, A1, A, h1, h2, h3, h4, h5⟩ := B.ex
  cases h3 with
  | @cons _ b0 t bs0 _ A' A0 xs0 _ _ k1 k2 k3 k4 =>
    refine ⟨b0, bs0, rfl, ⟨xs0 ++ [.ref t], A0 ++ (b :: A1), A', k1, TrIs.snoc k2 (.br k3 h1 h2), k4, ?_, ?_⟩⟩
    · refine List.Perm.nodup (List.perm_iff_count.mpr fun a => ?_) h4
      simp only [List.count_cons, List.count_append]
      omega
    · intro x hx
      refine h5 x ?_
      simp only [List.mem_cons, List.mem_append] at hx ⊢
      rcases hx with rfl | ((hx | rfl | hx) | hx)
      · exact .inr (.inr (.inl rfl))
      · exact .inr (.inr (.inr (.inl hx)))
      · exact .inl rfl
      · exact .inr (.inl hx)
      · exact .inr (.inr (.inr (.inr hx)))
/-! ### what the text tells -/
def nstep (s : List (List Nd × Nat) × List Nd) (c : Nat) : List (List Nd × Nat) × List Nd :=
  if c ∈ CLO then (match s.1 with | (ds, o) :: fs => (fs, ds ++ [.br o s.2]) | [] => s) else if c ∈ OPN then ((s.2, c) :: s.1, []) else (s.1, s.2 ++ [.let_ c])
def nst (l : List Nat) : List (List Nd × Nat) × List Nd := l.foldl nstep ([], [])
def nestD (l : List Nat) : List Nd := (nst l).2
theorem nst_snoc (l : List Nat) (c : Nat) : nst (l ++ [c]) = nstep (nst l) c := by
  unfold nst
  rw [List.foldl_append]
  rfl
/-- the frames are the pile -/
theorem fold_nst : ∀ (l st : List Nat) (fs : List (List Nd × Nat)) (cur : List Nd) (r : List Nat), st = fs.map (fun p => oth p.2) → l.foldl stp (some st) = some r → r = (l.foldl nstep (fs, cur)).1.map fun p => oth p.2
  | [], st, fs, cur, r, h, e => by
    cases e
    exact h
  | c :: l, st, fs, cur, r, h, e => by
    rw [List.foldl_cons] at e ⊢
    by_cases h1 : c ∈ OPN
    · have h2 : c ∉ CLO := opn_clo c h1
      rw [stp_opn h1] at e
      have en : nstep (fs, cur) c = ((cur, c) :: fs, []) := by unfold nstep; rw [if_neg h2, if_pos h1]
      rw [en]
      exact fold_nst l _ _ _ r (by rw [h]; rfl) e
    · by_cases h2 : c ∈ CLO
      · cases fs with
        | nil =>
          subst h
          have e0 : stp (some (List.map (fun p : List Nd × Nat => oth p.2) [])) c = none := by
            show stp (some []) c = none
            unfold stp
            simp only [h1, h2, if_true, if_false]
          rw [e0, fold_none] at e
          cases e
        | cons f fs =>
          obtain ⟨ds, o⟩ := f
          subst h
          by_cases hd : oth o = c
          · have e0 : stp (some (List.map (fun p : List Nd × Nat => oth p.2) ((ds, o) :: fs))) c = some (fs.map fun p => oth p.2) := by
              show stp (some (oth o :: fs.map fun p => oth p.2)) c = _
              rw [hd, stp_clo h2]
            rw [e0] at e
            have en : nstep ((ds, o) :: fs, cur) c = (fs, ds ++ [.br o cur]) := by unfold nstep; rw [if_pos h2]
            rw [en]
            exact fold_nst l _ _ _ r rfl e
          · have e0 : stp (some (List.map (fun p : List Nd × Nat => oth p.2) ((ds, o) :: fs))) c = none := by
              show stp (some (oth o :: fs.map fun p => oth p.2)) c = none
              unfold stp
              simp only [h1, h2, hd, if_true, if_false]
            rw [e0, fold_none] at e
            cases e
      · rw [stp_let h1 h2] at e
        have en : nstep (fs, cur) c = (fs, cur ++ [.let_ c]) := by unfold nstep; rw [if_neg h2, if_neg h1]
        rw [en]
        exact fold_nst l _ _ _ r h e
theorem nst_run {l st : List Nat} (h : run l = some st) : st = (nst l).1.map fun p => oth p.2 := fold_nst l [] [] [] st rfl h
theorem nst_clean {l : List Nat} (h : clean l) : (nst l).1 = [] := by
  have := nst_run h
  exact List.map_eq_nil_iff.mp this.symm
/-- a closing bracket in a clean text closes one -/
theorem nst_clo {l pre post : List Nat} {c : Nat} (h : clean l) (e : l = pre ++ c :: post) (hc : c ∈ CLO) : ∃ ds o fs, (nst pre).1 = (ds, o) :: fs ∧ oth o = c := by
  have h1 : c ∉ OPN := fun h1 => opn_clo c h1 hc
  have h' : run (pre ++ c :: post) = some [] := by rw [← e]; exact h
  rw [run_app, List.foldl_cons] at h'
  cases hr : run pre with
  | none =>
    rw [hr] at h'
    have : stp none c = none := rfl
    rw [this, fold_none] at h'
    cases h'
  | some st =>
    have hst := nst_run hr
    rw [hr] at h'
    cases hf : (nst pre).1 with
    | nil =>
      rw [hf] at hst
      subst hst
      have e0 : stp (some (List.map (fun p : List Nd × Nat => oth p.2) [])) c = none := by
        show stp (some []) c = none
        unfold stp
        simp only [h1, hc, if_true, if_false]
      rw [e0, fold_none] at h'
      cases h'
    | cons f fs =>
      obtain ⟨ds, o⟩ := f
      rw [hf] at hst
      refine ⟨ds, o, fs, rfl, ?_⟩
      by_cases hd : oth o = c
      · exact hd
      · exfalso
        subst hst
        have e0 : stp (some (List.map (fun p : List Nd × Nat => oth p.2) ((ds, o) :: fs))) c = none := by
          show stp (some (oth o :: fs.map fun p => oth p.2)) c = none
          unfold stp
          simp only [h1, hc, hd, if_true, if_false]
        rw [e0, fold_none] at h'
        cases h'
end Ly
namespace Ly
theorem wides_snoc (ds : List Nd) (d : Nd) : Nd.wides (ds ++ [d]) ≤ max (Nd.wides ds) (max (ds.length + 1) (Nd.wide d)) := by
  induction ds with
  | nil =>
    have e0 : Nd.wides [] = 0 := by rw [Nd.wides]
    have e1 : Nd.wides [d] = max d.wide (max (0 + 1) 0) := by rw [Nd.wides, e0]; rfl
    rw [List.nil_append, e0, e1]
    simp only [List.length_nil]
    omega
  | cons e ds ih =>
    rw [List.cons_append, Nd.wides, Nd.wides, List.length_append]
    simp only [List.length_cons, List.length_nil]
    omega
/-- sizes -/
def nbd (s : List (List Nd × Nat) × List Nd) (n : Nat) : Prop := s.2.length ≤ n ∧ s.1.length ≤ n ∧ Nd.wides s.2 ≤ n ∧ ∀ f ∈ s.1, f.1.length ≤ n ∧ Nd.wides f.1 ≤ n
theorem nbd_step {s : List (List Nd × Nat) × List Nd} {n c : Nat} (h : nbd s n) : nbd (nstep s c) (n + 1) := by
  obtain ⟨fs, cur⟩ := s
  obtain ⟨h1, h2, h3, h4⟩ := h
  have h1' : cur.length ≤ n := h1
  have h2' : fs.length ≤ n := h2
  have h3' : Nd.wides cur ≤ n := h3
  unfold nstep
  by_cases hc : c ∈ CLO
  · rw [if_pos hc]
    cases fs with
    | nil => exact ⟨by show cur.length ≤ _; omega, by simp, by show Nd.wides cur ≤ _; omega, by simp⟩
    | cons f fs =>
      obtain ⟨ds, o⟩ := f
      have hf := h4 (ds, o) (List.mem_cons_self ..)
      have hf1 : ds.length ≤ n := hf.1
      have hf2 : Nd.wides ds ≤ n := hf.2
      have hw := wides_snoc ds (.br o cur)
      rw [Nd.wide] at hw
      simp at h2'
      refine ⟨by simp; omega, by show fs.length ≤ _; omega, by show Nd.wides (ds ++ [.br o cur]) ≤ _; omega, fun g hg => ?_⟩
      have := h4 g (List.mem_cons_of_mem _ hg)
      omega
  · rw [if_neg hc]
    by_cases ho : c ∈ OPN
    · rw [if_pos ho]
      refine ⟨by simp, by simp; omega, by show Nd.wides [] ≤ _; rw [Nd.wides]; omega, fun g hg => ?_⟩
      rcases List.mem_cons.mp hg with rfl | hg
      · exact ⟨by show cur.length ≤ _; omega, by show Nd.wides cur ≤ _; omega⟩
      · have := h4 g hg
        omega
    · rw [if_neg ho]
      have hw := wides_snoc cur (.let_ c)
      have e0 : (Nd.let_ c).wide = 0 := by simp [Nd.wide]
      rw [e0] at hw
      refine ⟨by simp; omega, by show fs.length ≤ _; omega, by show Nd.wides (cur ++ [.let_ c]) ≤ _; omega, fun g hg => ?_⟩
      have := h4 g hg
      omega
theorem nbd_fold : ∀ (l : List Nat) (s : List (List Nd × Nat) × List Nd) (n : Nat), nbd s n → nbd (l.foldl nstep s) (n + l.length)
  | [], s, n, h => h
  | c :: l, s, n, h => by
    rw [List.foldl_cons, List.length_cons, show n + (l.length + 1) = (n + 1) + l.length by omega]
    exact nbd_fold l _ _ (nbd_step h)
theorem nst_bd (l : List Nat) : nbd (nst l) l.length := by
  have := nbd_fold l ([], []) 0 ⟨by simp, by simp, by rw [Nd.wides]; omega, by simp⟩
  rw [Nat.zero_add] at this
  exact this
/-- depths -/
def ndp (s : List (List Nd × Nat) × List Nd) (n : Nat) : Prop := Nd.deeps s.2 + s.1.length ≤ n ∧ ∀ j (f : List Nd × Nat), s.1[j]? = some f → Nd.deeps f.1 + (s.1.length - 1 - j) ≤ n
theorem deeps_snoc (ds : List Nd) (d : Nd) : Nd.deeps (ds ++ [d]) = max (Nd.deeps ds) (Nd.deep d) := by
  rw [deeps_app, Nd.deeps, Nd.deeps]
  omega
theorem ndp_step {s : List (List Nd × Nat) × List Nd} {n c : Nat} (h : ndp s n) : ndp (nstep s c) (n + if c ∈ OPN then 1 else 0) := by
  obtain ⟨fs, cur⟩ := s
  obtain ⟨h1, h4⟩ := h
  have h1' : Nd.deeps cur + fs.length ≤ n := h1
  unfold nstep
  by_cases hc : c ∈ CLO
  · rw [if_pos hc]
    cases fs with
    | nil => exact ⟨by show Nd.deeps cur + 0 ≤ _; simp at h1'; omega, fun j f hf => by cases hf⟩
    | cons f fs =>
      obtain ⟨ds, o⟩ := f
      have hf : Nd.deeps ds + (fs.length + 1 - 1 - 0) ≤ n := h4 0 (ds, o) rfl
      simp at h1'
      refine ⟨?_, fun j g hg => ?_⟩
      · show Nd.deeps (ds ++ [.br o cur]) + fs.length ≤ _
        rw [deeps_snoc, Nd.deep]
        omega
      · have hg' : Nd.deeps g.1 + (fs.length + 1 - 1 - (j + 1)) ≤ n := h4 (j + 1) g hg
        show Nd.deeps g.1 + (fs.length - 1 - j) ≤ _
        omega
  · rw [if_neg hc]
    by_cases ho : c ∈ OPN
    · rw [if_pos ho, if_pos ho]
      refine ⟨?_, fun j g hg => ?_⟩
      · show Nd.deeps [] + (fs.length + 1) ≤ _
        rw [Nd.deeps]
        omega
      · cases j with
        | zero =>
          have : g = (cur, c) := (Option.some.inj hg).symm
          subst this
          show Nd.deeps cur + (fs.length + 1 - 1 - 0) ≤ _
          omega
        | succ j =>
          have hg' : Nd.deeps g.1 + (fs.length - 1 - j) ≤ n := h4 j g hg
          show Nd.deeps g.1 + (fs.length + 1 - 1 - (j + 1)) ≤ _
          omega
    · rw [if_neg ho, if_neg ho]
      refine ⟨?_, fun j g hg => h4 j g hg⟩
      show Nd.deeps (cur ++ [.let_ c]) + fs.length ≤ _
      have e0 : (Nd.let_ c).deep = 0 := by simp [Nd.deep]
      rw [deeps_snoc, e0]
      omega
theorem ndp_fold : ∀ (l : List Nat) (s : List (List Nd × Nat) × List Nd) (n : Nat), ndp s n → ndp (l.foldl nstep s) (n + cntO l)
  | [], s, n, h => h
  | c :: l, s, n, h => by
    have e : cntO (c :: l) = (if c ∈ OPN then 1 else 0) + cntO l := by
      unfold cntO
      rw [List.countP_cons]
      simp
      omega
    rw [List.foldl_cons, e, ← Nat.add_assoc]
    exact ndp_fold l _ _ (ndp_step h)
/-- a clean text's nest is at most half as deep as it is long -/
theorem nest_deep {l : List Nat} (h : clean l) : 2 * Nd.deeps (nestD l) ≤ l.length := by
  have h1 := (ndp_fold l ([], []) 0 ⟨by show Nd.deeps [] + 0 ≤ 0; rw [Nd.deeps]; omega, fun j f hf => by cases hf⟩).1
  have h2 : Nd.deeps (nestD l) ≤ cntO l := by
    have : Nd.deeps (nst l).2 + (nst l).1.length ≤ 0 + cntO l := h1
    show Nd.deeps (nst l).2 ≤ _
    omega
  have h3 := clean_cnt h
  have h4 : cntO l + cntC l ≤ l.length := by
    have : ∀ l : List Nat, cntO l + cntC l ≤ l.length := by
      intro l
      induction l with
      | nil => simp [cntO, cntC]
      | cons c l ih =>
        have eO : cntO (c :: l) = cntO l + if c ∈ OPN then 1 else 0 := by unfold cntO; rw [List.countP_cons]; simp
        have eC : cntC (c :: l) = cntC l + if c ∈ CLO then 1 else 0 := by unfold cntC; rw [List.countP_cons]; simp
        rw [eO, eC, List.length_cons]
        by_cases h1 : c ∈ OPN
        · rw [if_pos h1, if_neg (opn_clo c h1)]
          omega
        · rw [if_neg h1]
          split <;> omega
    exact this l
  omega
theorem nest_wide (l : List Nat) : Nd.wides (nestD l) ≤ l.length := (nst_bd l).2.2.1
end Ly
namespace Ly
mutual
/-- the text of a nest -/
def txI : Nd → List Nat
  | .let_ c => [c]
  | .num _ => []
  | .br o ds => o :: (txN ds ++ [oth o])
def txN : List Nd → List Nat
  | [] => []
  | d :: ds => txI d ++ txN ds
end
theorem txN_app : ∀ ds es : List Nd, txN (ds ++ es) = txN ds ++ txN es
  | [], es => by rw [List.nil_append, txN, List.nil_append]
  | d :: ds, es => by rw [List.cons_append, txN, txN_app ds es, txN, List.append_assoc]
theorem txN_one (d : Nd) : txN [d] = txI d := by rw [txN, txN, List.append_nil]
/-- the text of a nest being made -/
def txF : List (List Nd × Nat) → List Nat
  | [] => []
  | (ds, o) :: fs => txF fs ++ txN ds ++ [o]
def txS (s : List (List Nd × Nat) × List Nd) : List Nat := txF s.1 ++ txN s.2
theorem fold_tx : ∀ (l st : List Nat) (fs : List (List Nd × Nat)) (cur : List Nd) (r : List Nat), st = fs.map (fun p => oth p.2) → l.foldl stp (some st) = some r → txS (l.foldl nstep (fs, cur)) = txS (fs, cur) ++ l
  | [], st, fs, cur, r, h, e => by rw [List.append_nil]; rfl
  | c :: l, st, fs, cur, r, h, e => by
    rw [List.foldl_cons] at e ⊢
    by_cases h1 : c ∈ OPN
    · have h2 : c ∉ CLO := opn_clo c h1
      rw [stp_opn h1] at e
      have en : nstep (fs, cur) c = ((cur, c) :: fs, []) := by unfold nstep; rw [if_neg h2, if_pos h1]
      rw [en, fold_tx l _ _ _ r (by rw [h]; rfl) e]
      show txF fs ++ txN cur ++ [c] ++ txN [] ++ l = txF fs ++ txN cur ++ c :: l
      rw [txN]
      simp
    · by_cases h2 : c ∈ CLO
      · cases fs with
        | nil =>
          subst h
          have e0 : stp (some (List.map (fun p : List Nd × Nat => oth p.2) [])) c = none := by
            show stp (some []) c = none
            unfold stp
            simp only [h1, h2, if_true, if_false]
          rw [e0, fold_none] at e
          cases e
        | cons f fs =>
          obtain ⟨ds, o⟩ := f
          subst h
          by_cases hd : oth o = c
          · have e0 : stp (some (List.map (fun p : List Nd × Nat => oth p.2) ((ds, o) :: fs))) c = some (fs.map fun p => oth p.2) := by
              show stp (some (oth o :: fs.map fun p => oth p.2)) c = _
              rw [hd, stp_clo h2]
            rw [e0] at e
            have en : nstep ((ds, o) :: fs, cur) c = (fs, ds ++ [.br o cur]) := by unfold nstep; rw [if_pos h2]
            rw [en, fold_tx l _ _ _ r rfl e]
            show txF fs ++ txN (ds ++ [.br o cur]) ++ l = txF fs ++ txN ds ++ [o] ++ txN cur ++ c :: l
            rw [txN_app, txN_one, txI, hd]
            simp
          · have e0 : stp (some (List.map (fun p : List Nd × Nat => oth p.2) ((ds, o) :: fs))) c = none := by
              show stp (some (oth o :: fs.map fun p => oth p.2)) c = none
              unfold stp
              simp only [h1, h2, hd, if_true, if_false]
            rw [e0, fold_none] at e
            cases e
      · rw [stp_let h1 h2] at e
        have en : nstep (fs, cur) c = (fs, cur ++ [.let_ c]) := by unfold nstep; rw [if_neg h2, if_neg h1]
        rw [en, fold_tx l _ _ _ r h e]
        show txF fs ++ txN (cur ++ [.let_ c]) ++ l = txF fs ++ txN cur ++ c :: l
        rw [txN_app, txN_one, txI]
        simp
theorem tx_nest {l : List Nat} (h : clean l) : txN (nestD l) = l := by
  have e := fold_tx l [] [] [] [] rfl h
  have e1 : txS (nst l) = txS ([], []) ++ l := e
  have e2 : txS (nst l) = txN (nestD l) := by
    unfold txS nestD
    rw [nst_clean h]
    rfl
  have e3 : txS ([], []) = [] := by
    show txF [] ++ txN [] = []
    rw [txN]
    rfl
  rw [← e2, e1, e3]
  rfl
end Ly

set_option maxHeartbeats 4000000
namespace Ly
open PySem PySem.Spec PyProof.Rows L2 SX
/-! ### == and != of deep data -/
theorem Room.wide {k : Nat} {A : Around} (r : Room k A) : A.units + 190 < cLine := by have := r.un; omega
def rNeW (K : PySem.W.Frag) : R2 := fun x y H Q => ∃ d e, Dp K H x d ∧ Dp K H y e ∧ PyData.canLay0 d = true ∧ PyData.canLay0 e = true ∧ d.depth ≤ 190 ∧ Q (.bl (!PyData.eqv d e)) H
def rEqW (K : PySem.W.Frag) : R2 := fun x y H Q => ∃ d e, Dp K H x d ∧ Dp K H y e ∧ PyData.canLay0 d = true ∧ PyData.canLay0 e = true ∧ d.depth ≤ 190 ∧ Q (.bl (PyData.eqv d e)) H
section
variable {X : Cx}
theorem op_neW (hu : X.A.units + 190 < cLine) : OpR X (compareOp .NotEq) (rNeW X.K) := by
  intro pins s σ H x y v u Q I rx ry h
  obtain ⟨d, e, hd, he, sd, se, hdp, q⟩ := h
  obtain ⟨as, r1⟩ := Dp.reads I d x v hd rx
  obtain ⟨bs, r2⟩ := Dp.reads I e y u he ry
  exact SeqAt.compareNe_reads r1 r2 sd se (by have := Nat.min_le_left d.depth e.depth; omega) ⟨.bl _, H, I, rfl, q⟩
theorem op_eqW (hu : X.A.units + 190 < cLine) : OpR X (compareOp .Eq) (rEqW X.K) := by
  intro pins s σ H x y v u Q I rx ry h
  obtain ⟨d, e, hd, he, sd, se, hdp, q⟩ := h
  obtain ⟨as, r1⟩ := Dp.reads I d x v hd rx
  obtain ⟨bs, r2⟩ := Dp.reads I e y u he ry
  exact SeqAt.compareEq_reads r1 r2 sd se (by have := Nat.min_le_left d.depth e.depth; omega) ⟨.bl _, H, I, rfl, q⟩
end
/-! nests as data -/
mutual
def ndD : Nd → PyData
  | .let_ c => .str (S [c])
  | .num i => .int i
  | .br o ds => .tuple [.str (S [o]), .list (ndDs ds)]
def ndDs : List Nd → List PyData
  | [] => []
  | d :: ds => ndD d :: ndDs ds
end
mutual
theorem TrI.dp {K : PySem.W.Frag} {H : Hp} : ∀ {v : V} {d : Nd} {A : List Addr}, TrI H v d A → Dp K H v (ndD d)
  | _, _, _, .let_ c => by rw [ndD]; exact .str _
  | _, _, _, .num i => by rw [ndD]; exact .int i
  | _, _, _, .br ht hb hs => by
    rw [ndD]
    exact .tup (st_of ht) (.cons (.str _) (.cons (.lst (sq_of hb) (TrIs.dp hs)) .nil))
theorem TrIs.dp {K : PySem.W.Frag} {H : Hp} : ∀ {vs : List V} {ds : List Nd} {A : List Addr}, TrIs H vs ds A → DpAll K H vs (ndDs ds)
  | _, _, _, .nil => by rw [ndDs]; exact .nil
  | _, _, _, .cons hi hs => by rw [ndDs]; exact .cons (TrI.dp hi) (TrIs.dp hs)
end
end Ly
namespace Ly
open PySem PySem.Spec PyProof.Rows L2 SX
mutual
/-- brackets are brackets, letters letters, no numbers -/
def ndOk1 : Nd → Prop
  | .br o ds => o ∈ OPN ∧ ndOk ds
  | .let_ c => c ∈ LET
  | .num _ => False
def ndOk : List Nd → Prop
  | [] => True
  | d :: ds => ndOk1 d ∧ ndOk ds
end
theorem ndOk_app : ∀ ds es : List Nd, ndOk ds → ndOk es → ndOk (ds ++ es)
  | [], es, _, h => h
  | d :: ds, es, h1, h2 => by
    rw [ndOk] at h1
    rw [List.cons_append, ndOk]
    exact ⟨h1.1, ndOk_app ds es h1.2 h2⟩
theorem ndOk_one {d : Nd} (h : ndOk1 d) : ndOk [d] := by
  rw [ndOk, ndOk]
  exact ⟨h, trivial⟩
theorem ndOk_step {s : List (List Nd × Nat) × List Nd} {c : Nat} (hc : isSg c) (h : ndOk s.2 ∧ ∀ f ∈ s.1, ndOk f.1 ∧ f.2 ∈ OPN) : ndOk (nstep s c).2 ∧ ∀ f ∈ (nstep s c).1, ndOk f.1 ∧ f.2 ∈ OPN := by
  obtain ⟨fs, cur⟩ := s
  obtain ⟨h1, h2⟩ := h
  unfold nstep
  by_cases hk : c ∈ CLO
  · rw [if_pos hk]
    cases fs with
    | nil => exact ⟨h1, by simp⟩
    | cons f fs =>
      obtain ⟨ds, o⟩ := f
      have hf := h2 (ds, o) (List.mem_cons_self ..)
      refine ⟨ndOk_app _ _ hf.1 (ndOk_one ?_), fun g hg => h2 g (List.mem_cons_of_mem _ hg)⟩
      rw [ndOk1]
      exact ⟨hf.2, h1⟩
  · rw [if_neg hk]
    by_cases ho : c ∈ OPN
    · rw [if_pos ho]
      refine ⟨by show ndOk []; rw [ndOk]; trivial, fun g hg => ?_⟩
      rcases List.mem_cons.mp hg with rfl | hg
      · exact ⟨h1, ho⟩
      · exact h2 g hg
    · rw [if_neg ho]
      refine ⟨ndOk_app _ _ h1 (ndOk_one ?_), h2⟩
      rw [ndOk1]
      rcases hc with hc | hc
      · exact hc
      · rcases brk_or.mp hc with h | h
        · exact absurd h ho
        · exact absurd h hk
theorem ndOk_fold : ∀ (l : List Nat) (s : List (List Nd × Nat) × List Nd), (∀ c ∈ l, isSg c) → (ndOk s.2 ∧ ∀ f ∈ s.1, ndOk f.1 ∧ f.2 ∈ OPN) → ndOk (l.foldl nstep s).2 ∧ ∀ f ∈ (l.foldl nstep s).1, ndOk f.1 ∧ f.2 ∈ OPN
  | [], s, _, h => h
  | c :: l, s, hs, h => ndOk_fold l _ (fun x hx => hs x (List.mem_cons_of_mem _ hx)) (ndOk_step (hs c (List.mem_cons_self ..)) h)
theorem nest_ok {l : List Nat} (hs : ∀ c ∈ l, isSg c) : ndOk (nestD l) := (ndOk_fold l ([], []) hs ⟨by show ndOk []; rw [ndOk]; trivial, by simp⟩).1
mutual
theorem nd_depth1 : ∀ d : Nd, (ndD d).depth ≤ 2 * d.deep
  | .let_ c => by
    rw [ndD]
    exact Nat.zero_le _
  | .num i => by
    rw [ndD]
    exact Nat.zero_le _
  | .br o ds => by
    rw [ndD, Nd.deep]
    have := nd_depth ds
    show max 0 (max (PyData.depthAll (ndDs ds) + 1) 0) + 1 ≤ _
    omega
theorem nd_depth : ∀ ds : List Nd, PyData.depthAll (ndDs ds) ≤ 2 * Nd.deeps ds
  | [] => by
    rw [ndDs]
    exact Nat.zero_le _
  | d :: ds => by
    rw [ndDs, Nd.deeps]
    have h1 := nd_depth1 d
    have h2 := nd_depth ds
    show max (ndD d).depth (PyData.depthAll (ndDs ds)) ≤ _
    omega
end
end Ly
namespace Ly
open PySem PySem.Spec PyProof.Rows L2 SX
theorem str_can {c : Nat} (h : c < 1114112) : PyData.canLay0 (.str (S [c])) = true := can_tx (l := [c]) (fun x hx => by rw [List.mem_singleton] at hx; rw [hx]; exact h)
mutual
theorem nd_can1 : ∀ d : Nd, ndOk1 d → PyData.canLay0 (ndD d) = true
  | .let_ c, h => by
    rw [ndOk1] at h
    rw [ndD]
    exact str_can (sg_lt (.inl h))
  | .num i, h => by
    rw [ndD]
    rfl
  | .br o ds, h => by
    rw [ndOk1] at h
    rw [ndD]
    have h1 := nd_can ds h.2
    have h2 := str_can (sg_lt (.inr (brk_or.mpr (.inl h.1))))
    show (PyData.canLay0 (.str (S [o])) && (PyData.canLayAll0 (ndDs ds) && true)) = true
    rw [h1, h2]
    rfl
theorem nd_can : ∀ ds : List Nd, ndOk ds → PyData.canLayAll0 (ndDs ds) = true
  | [], _ => by
    rw [ndDs]
    rfl
  | d :: ds, h => by
    rw [ndOk] at h
    rw [ndDs]
    show (PyData.canLay0 (ndD d) && PyData.canLayAll0 (ndDs ds)) = true
    rw [nd_can1 d h.1, nd_can ds h.2]
    rfl
end
theorem g_neNest {K : PySem.W.Frag} {H : Hp} {Q : VK} {a b : Addr} {xs ys : List V} {ds : List Nd} {A B : List Addr} (ha : H a = some (.lst xs)) (ta : TrIs H xs ds A) (hb : H b = some (.lst ys)) (tb : TrIs H ys ds B) (hk : ndOk ds) (hd : Nd.deeps ds ≤ 90) (q : Q (.bl false) H) : rNeW K (.ref a) (.ref b) H Q := by
  have h1 := nd_can ds hk
  have h2 := nd_depth ds
  refine ⟨.list (ndDs ds), .list (ndDs ds), .lst (sq_of ha) (TrIs.dp ta), .lst (sq_of hb) (TrIs.dp tb), h1, h1, ?_, ?_⟩
  · show PyData.depthAll (ndDs ds) + 1 ≤ 190
    omega
  · rw [SeqAt.eqv_refl (.list (ndDs ds)) h1]
    exact q
end Ly
namespace Ly
mutual
/-- how many lists that are not empty stand one within another -/
def hgI : Nd → Nat
  | .br _ ds => hgt ds
  | .let_ _ => 0
  | .num _ => 0
def hgt : List Nd → Nat
  | [] => 0
  | d :: ds => max (hgI d + 1) (hgt ds)
end
theorem hgt_snoc : ∀ (ds : List Nd) (d : Nd), hgt (ds ++ [d]) = max (hgt ds) (hgI d + 1)
  | [], d => by
    have e0 : hgt [] = 0 := by rw [hgt]
    have e1 : hgt [d] = max (hgI d + 1) 0 := by rw [hgt, e0]
    rw [List.nil_append, e1, e0]
    omega
  | e :: ds, d => by
    rw [List.cons_append, hgt, hgt_snoc ds d, hgt]
    omega
def nhg (s : List (List Nd × Nat) × List Nd) (n : Nat) : Prop := s.1.length ≤ n ∧ 2 * hgt s.2 + s.1.length ≤ n + 1 ∧ ∀ j (f : List Nd × Nat), s.1[j]? = some f → 2 * hgt f.1 + (s.1.length - 1 - j) ≤ n + 1
theorem nhg_step {s : List (List Nd × Nat) × List Nd} {n c : Nat} (h : nhg s n) : nhg (nstep s c) (n + 1) := by
  obtain ⟨fs, cur⟩ := s
  obtain ⟨h0, h1, h4⟩ := h
  have h0' : fs.length ≤ n := h0
  have h1' : 2 * hgt cur + fs.length ≤ n + 1 := h1
  have e0 : hgt [] = 0 := by rw [hgt]
  unfold nstep
  by_cases hc : c ∈ CLO
  · rw [if_pos hc]
    cases fs with
    | nil => exact ⟨by simp, by show 2 * hgt cur + 0 ≤ _; simp at h1'; omega, fun j f hf => by cases hf⟩
    | cons f fs =>
      obtain ⟨ds, o⟩ := f
      have hf : 2 * hgt ds + (fs.length + 1 - 1 - 0) ≤ n + 1 := h4 0 (ds, o) rfl
      simp at h1' h0'
      refine ⟨by show fs.length ≤ _; omega, ?_, fun j g hg => ?_⟩
      · show 2 * hgt (ds ++ [.br o cur]) + fs.length ≤ _
        rw [hgt_snoc, hgI]
        omega
      · have hg' : 2 * hgt g.1 + (fs.length + 1 - 1 - (j + 1)) ≤ n + 1 := h4 (j + 1) g hg
        show 2 * hgt g.1 + (fs.length - 1 - j) ≤ _
        omega
  · rw [if_neg hc]
    by_cases ho : c ∈ OPN
    · rw [if_pos ho]
      refine ⟨by show fs.length + 1 ≤ _; omega, ?_, fun j g hg => ?_⟩
      · show 2 * hgt [] + (fs.length + 1) ≤ _
        rw [e0]
        omega
      · cases j with
        | zero =>
          have : g = (cur, c) := (Option.some.inj hg).symm
          subst this
          show 2 * hgt cur + (fs.length + 1 - 1 - 0) ≤ _
          omega
        | succ j =>
          have hg' : 2 * hgt g.1 + (fs.length - 1 - j) ≤ n + 1 := h4 j g hg
          show 2 * hgt g.1 + (fs.length + 1 - 1 - (j + 1)) ≤ _
          omega
    · rw [if_neg ho]
      refine ⟨by show fs.length ≤ _; omega, ?_, fun j g hg => ?_⟩
      · show 2 * hgt (cur ++ [.let_ c]) + fs.length ≤ _
        rw [hgt_snoc, hgI]
        omega
      · have := h4 j g hg
        show 2 * hgt g.1 + (fs.length - 1 - j) ≤ _
        have h' : 2 * hgt g.1 + (fs.length - 1 - j) ≤ n + 1 := this
        omega
theorem nhg_fold : ∀ (l : List Nat) (s : List (List Nd × Nat) × List Nd) (n : Nat), nhg s n → nhg (l.foldl nstep s) (n + l.length)
  | [], s, n, h => h
  | c :: l, s, n, h => by
    rw [List.foldl_cons, List.length_cons, show n + (l.length + 1) = (n + 1) + l.length by omega]
    exact nhg_fold l _ _ (nhg_step h)
theorem nest_hgt (l : List Nat) : 2 * hgt (nestD l) ≤ l.length + 1 := by
  have e0 : hgt [] = 0 := by rw [hgt]
  have h := (nhg_fold l ([], []) 0 ⟨by simp, by show 2 * hgt [] + 0 ≤ 1; rw [e0]; omega, fun j f hf => by cases hf⟩).2.1
  have h' : 2 * hgt (nst l).2 + (nst l).1.length ≤ 0 + l.length + 1 := h
  show 2 * hgt (nst l).2 ≤ _
  omega
end Ly

set_option maxHeartbeats 4000000
namespace Ly
open PySem PySem.Spec PyProof.Rows L2 SX
/-! ### more steps -/
theorem kb_str_str : kitB "str" "str" = some true := by decide +kernel
theorem kb_str_int : kitB "str" "int" = some false := by decide +kernel
theorem kb_str_bool : kitB "str" "bool" = some false := by decide +kernel
theorem kb_str_list : kitB "str" "list" = some false := by decide +kernel
theorem kb_str_tuple : kitB "str" "tuple" = some false := by decide +kernel
theorem kb_int_str : kitB "int" "str" = some false := by decide +kernel
theorem kb_int_int : kitB "int" "int" = some true := by decide +kernel
theorem kb_int_bool : kitB "int" "bool" = some false := by decide +kernel
theorem kb_int_list : kitB "int" "list" = some false := by decide +kernel
theorem kb_int_tuple : kitB "int" "tuple" = some false := by decide +kernel
theorem kb_bool_str : kitB "bool" "str" = some false := by decide +kernel
theorem kb_bool_int : kitB "bool" "int" = some true := by decide +kernel
theorem kb_bool_bool : kitB "bool" "bool" = some true := by decide +kernel
theorem kb_bool_list : kitB "bool" "list" = some false := by decide +kernel
theorem kb_bool_tuple : kitB "bool" "tuple" = some false := by decide +kernel
theorem kb_list_str : kitB "list" "str" = some false := by decide +kernel
theorem kb_list_int : kitB "list" "int" = some false := by decide +kernel
theorem kb_list_bool : kitB "list" "bool" = some false := by decide +kernel
theorem kb_list_list : kitB "list" "list" = some true := by decide +kernel
theorem kb_list_tuple : kitB "list" "tuple" = some false := by decide +kernel
theorem kb_tuple_str : kitB "tuple" "str" = some false := by decide +kernel
theorem kb_tuple_int : kitB "tuple" "int" = some false := by decide +kernel
theorem kb_tuple_bool : kitB "tuple" "bool" = some false := by decide +kernel
theorem kb_tuple_list : kitB "tuple" "list" = some false := by decide +kernel
theorem kb_tuple_tuple : kitB "tuple" "tuple" = some true := by decide +kernel
theorem kb_NoneType_str : kitB "NoneType" "str" = some false := by decide +kernel
theorem kb_NoneType_int : kitB "NoneType" "int" = some false := by decide +kernel
theorem kb_NoneType_bool : kitB "NoneType" "bool" = some false := by decide +kernel
theorem kb_NoneType_list : kitB "NoneType" "list" = some false := by decide +kernel
theorem kb_NoneType_tuple : kitB "NoneType" "tuple" = some false := by decide +kernel
theorem kb_dict_str : kitB "dict" "str" = some false := by decide +kernel
theorem kb_dict_int : kitB "dict" "int" = some false := by decide +kernel
theorem kb_dict_bool : kitB "dict" "bool" = some false := by decide +kernel
theorem kb_dict_list : kitB "dict" "list" = some false := by decide +kernel
theorem kb_dict_tuple : kitB "dict" "tuple" = some false := by decide +kernel
section
variable {K : PySem.W.Frag} {σ : L2.St} {H : Hp} {Q : VK} {A B : Prop} {p a : Addr} {xs : List V} {v : V} {i : Int}
theorem g_T (q : A) : ∃ k, V.bl true = V.bl k ∧ if k = true then A else B := ⟨true, rfl, by rw [if_pos rfl]; exact q⟩
theorem g_F (q : B) : ∃ k, V.bl false = V.bl k ∧ if k = true then A else B := ⟨false, rfl, by rw [if_neg Bool.false_ne_true]; exact q⟩
theorem g_NT (q : B) : ∃ k, V.bl true = V.bl k ∧ if (!k) = true then A else B := ⟨true, rfl, q⟩
theorem g_NF (q : A) : ∃ k, V.bl false = V.bl k ∧ if (!k) = true then A else B := ⟨false, rfl, q⟩
theorem g_nT (q : A) : ∃ k, V.bl (!true) = V.bl k ∧ if k = true then B else A := ⟨false, rfl, q⟩
theorem g_nF (q : B) : ∃ k, V.bl (!false) = V.bl k ∧ if k = true then B else A := ⟨true, rfl, q⟩
theorem g_Td {c : Prop} [Decidable c] (h : c) (q : A) : ∃ k, V.bl (decide c) = V.bl k ∧ if k = true then A else B := by rw [decide_eq_true h]; exact g_T q
theorem g_Fd {c : Prop} [Decidable c] (h : ¬ c) (q : B) : ∃ k, V.bl (decide c) = V.bl k ∧ if k = true then A else B := by rw [decide_eq_false h]; exact g_F q
theorem g_NTd {c : Prop} [Decidable c] (h : c) (q : B) : ∃ k, V.bl (decide c) = V.bl k ∧ if (!k) = true then A else B := by rw [decide_eq_true h]; exact g_NT q
theorem g_NFd {c : Prop} [Decidable c] (h : ¬ c) (q : A) : ∃ k, V.bl (decide c) = V.bl k ∧ if (!k) = true then A else B := by rw [decide_eq_false h]; exact g_NF q
theorem g_nTd {c : Prop} [Decidable c] (h : c) (q : B) : ∃ k, V.bl (!decide c) = V.bl k ∧ if k = true then A else B := by rw [decide_eq_true h]; exact g_F q
theorem g_nFd {c : Prop} [Decidable c] (h : ¬ c) (q : A) : ∃ k, V.bl (!decide c) = V.bl k ∧ if k = true then A else B := by rw [decide_eq_false h]; exact g_T q
/-- a test that is told as a truth R of its answer -/
theorem g_RT {R : Bool → Hp → Prop} (q : R true H) : ∃ k, V.bl true = V.bl k ∧ R k H := ⟨_, rfl, q⟩
theorem g_RF {R : Bool → Hp → Prop} (q : R false H) : ∃ k, V.bl false = V.bl k ∧ R k H := ⟨_, rfl, q⟩
theorem g_RTd {c : Prop} [Decidable c] {R : Bool → Hp → Prop} (h : c) (q : R true H) : ∃ k, V.bl (decide c) = V.bl k ∧ R k H := ⟨_, rfl, by rw [decide_eq_true h]; exact q⟩
theorem g_RFd {c : Prop} [Decidable c] {R : Bool → Hp → Prop} (h : ¬ c) (q : R false H) : ∃ k, V.bl (decide c) = V.bl k ∧ R k H := ⟨_, rfl, by rw [decide_eq_false h]; exact q⟩
theorem g_eqS {x : V} (h : scal x x = true) (q : Q (.bl true) H) : rEq x x H Q := ⟨h, by rw [decide_eq_true rfl]; exact q⟩
theorem g_neS {x : V} (h : scal x x = true) (q : Q (.bl false) H) : rNe x x H Q := ⟨h, by rw [decide_eq_true rfl]; exact q⟩
theorem g_ixAU3 (h : H p = some (.tup xs)) (h1 : atI xs i = some v) (q : Q v H) : rIx K (.ref p) (.int i) H Q := .inr (.inl (g_ixU (st_of h) h1 q))
theorem g_ixAL3 (h : H p = some (.lst xs)) (h1 : atI xs i = some v) (q : Q v H) : rIx K (.ref p) (.int i) H Q := .inl (g_ixL (sq_of h) h1 q)
theorem g_ixU3 (h : H p = some (.tup xs)) (h1 : atI xs i = some v) (q : Q v H) : rIxT K (.ref p) (.int i) H Q := g_ixU (st_of h) h1 q
theorem g_lenL3 (h : H p = some (.lst xs)) (q : Q (.int xs.length) H) : rLenL K [.ref p] H Q := g_lenL (sq_of h) q
theorem g_lenU3 (h : H p = some (.tup xs)) (q : Q (.int xs.length) H) : rLenL K [.ref p] H Q := g_lenU (st_of h) q
theorem ty_non : TyX K H .non (.type "NoneType") := .base .non
theorem g_tyL3 (h : H p = some (.lst xs)) (q : A) : tyV K "list" (.ref p) H ∧ A := ⟨g_tyL (sq_of h), q⟩
end
end Ly

set_option maxHeartbeats 4000000
namespace Ly
open PySem PySem.Spec PyProof.Rows L2 SX
/-! ### outlines -/
def blk (k : Nat) : List Nat := repT k [32]
theorem blk_len (k : Nat) : (blk k).length = k := by
  unfold blk repT
  rw [List.length_flatten, List.map_replicate, List.sum_replicate_nat]
  simp
theorem blk_mem {k c : Nat} (h : c ∈ blk k) : c = 32 := by
  unfold blk repT at h
  obtain ⟨l, h1, h2⟩ := List.mem_flatten.mp h
  rw [List.mem_replicate] at h1
  rw [h1.2, List.mem_singleton] at h2
  exact h2
mutual
def lnI : Nd → Nat → List (List Nat)
  | .let_ c, k => [blk k ++ [c]]
  | .num _, k => []
  | .br o ds, k => (blk k ++ [o]) :: lnN ds (k + 1)
def lnN : List Nd → Nat → List (List Nat)
  | [], k => []
  | d :: ds, k => lnI d k ++ lnN ds k
end
theorem lnN_app : ∀ (ds es : List Nd) (k : Nat), lnN (ds ++ es) k = lnN ds k ++ lnN es k
  | [], es, k => by rw [List.nil_append, lnN, List.nil_append]
  | d :: ds, es, k => by rw [List.cons_append, lnN, lnN_app ds es, lnN, List.append_assoc]
theorem lnN_one (d : Nd) (k : Nat) : lnN [d] k = lnI d k := by rw [lnN, lnN, List.append_nil]
def lnF : List (List Nd × Nat) → List (List Nat)
  | [] => []
  | (ds, o) :: fs => lnF fs ++ lnN ds fs.length ++ [blk fs.length ++ [o]]
def lnS (s : List (List Nd × Nat) × List Nd) : List (List Nat) := lnF s.1 ++ lnN s.2 s.1.length
theorem lnS_let {s : List (List Nd × Nat) × List Nd} {c : Nat} (h1 : c ∉ OPN) (h2 : c ∉ CLO) : lnS (nstep s c) = lnS s ++ [blk s.1.length ++ [c]] := by
  unfold nstep
  rw [if_neg h2, if_neg h1]
  show lnF s.1 ++ lnN (s.2 ++ [.let_ c]) s.1.length = lnF s.1 ++ lnN s.2 s.1.length ++ _
  rw [lnN_app, lnN_one, lnI, List.append_assoc]
theorem lnS_opn {s : List (List Nd × Nat) × List Nd} {c : Nat} (h1 : c ∈ OPN) : lnS (nstep s c) = lnS s ++ [blk s.1.length ++ [c]] := by
  unfold nstep
  rw [if_neg (opn_clo c h1), if_pos h1]
  show lnF s.1 ++ lnN s.2 s.1.length ++ [blk s.1.length ++ [c]] ++ lnN [] _ = _
  rw [lnN, List.append_nil]
  rfl
theorem lnS_clo {s : List (List Nd × Nat) × List Nd} {c o : Nat} {ds : List Nd} {fs : List (List Nd × Nat)} (h1 : c ∈ CLO) (h : s.1 = (ds, o) :: fs) : lnS (nstep s c) = lnS s := by
  obtain ⟨s1, s2⟩ := s
  have h' : s1 = (ds, o) :: fs := h
  subst h'
  unfold nstep
  rw [if_pos h1]
  show lnF fs ++ lnN (ds ++ [.br o s2]) fs.length = lnF fs ++ lnN ds fs.length ++ [blk fs.length ++ [o]] ++ lnN s2 (fs.length + 1)
  rw [lnN_app, lnN_one, lnI]
  simp
theorem lnS_not {s : List (List Nd × Nat) × List Nd} {c : Nat} (h2 : c ∉ CLO) : lnS (nstep s c) = lnS s ++ [blk s.1.length ++ [c]] := by
  by_cases h1 : c ∈ OPN
  · exact lnS_opn h1
  · exact lnS_let h1 h2
theorem lnS_step {l pre post : List Nat} {c : Nat} (hc : clean l) (e : l = pre ++ c :: post) : lnS (nst (pre ++ [c])) = lnS (nst pre) ++ if c ∈ CLO then [] else [blk (nst pre).1.length ++ [c]] := by
  rw [nst_snoc]
  by_cases h : c ∈ CLO
  · obtain ⟨ds, o, fs, hf, _⟩ := nst_clo hc e h
    rw [if_pos h, lnS_clo h hf, List.append_nil]
  · rw [if_neg h, lnS_not h]
theorem lnS_more {l : List Nat} (hc : clean l) : ∀ (post pre : List Nat), l = pre ++ post → ∃ more, lnS (nst l) = lnS (nst pre) ++ more
  | [], pre, e => ⟨[], by rw [e, List.append_nil, List.append_nil]⟩
  | c :: post, pre, e => by
    obtain ⟨more, h⟩ := lnS_more hc post (pre ++ [c]) (by rw [e]; simp)
    rw [lnS_step hc e] at h
    exact ⟨_, by rw [h, List.append_assoc]⟩
/-- the next line comes of the next sign that closes nothing -/
theorem next_line {l : List Nat} (hc : clean l) {ln : List Nat} {rest : List (List Nat)} : ∀ (post pre : List Nat), l = pre ++ post → lnS (nst l) = lnS (nst pre) ++ ln :: rest →
    ∃ cl c post', post = cl ++ c :: post' ∧ (∀ d ∈ cl, d ∈ CLO) ∧ c ∉ CLO ∧ ln = blk (nst (pre ++ cl)).1.length ++ [c] ∧ lnS (nst (pre ++ cl ++ [c])) = lnS (nst pre) ++ [ln]
  | [], pre, e, h => by
    rw [e, List.append_nil] at h
    have := congrArg List.length h
    simp at this
  | d :: post, pre, e, h => by
    have hst := lnS_step hc e
    by_cases hd : d ∈ CLO
    · rw [if_pos hd, List.append_nil] at hst
      obtain ⟨cl, c, post', h1, h2, h3, h4, h5⟩ := next_line hc post (pre ++ [d]) (by rw [e]; simp) (by rw [h, hst])
      refine ⟨d :: cl, c, post', by rw [h1]; rfl, fun x hx => ?_, h3, ?_, ?_⟩
      · rcases List.mem_cons.mp hx with rfl | hx
        · exact hd
        · exact h2 x hx
      · rw [h4]; simp
      · rw [← hst, ← h5]; simp
    · rw [if_neg hd] at hst
      obtain ⟨more, hm⟩ := lnS_more hc post (pre ++ [d]) (by rw [e]; simp)
      have e2 : ln = blk (nst pre).1.length ++ [d] := by
        rw [hm, hst, List.append_assoc] at h
        have := List.append_cancel_left h
        exact (List.cons.inj this).1.symm
      exact ⟨[], d, post, rfl, by simp, hd, by rw [List.append_nil]; exact e2, by rw [List.append_nil, hst, e2]⟩
/-- where no line is left there are but closing ones -/
theorem no_line {l : List Nat} (hc : clean l) : ∀ (post pre : List Nat), l = pre ++ post → lnS (nst l) = lnS (nst pre) → ∀ d ∈ post, d ∈ CLO
  | [], pre, e, h, d, hd => by cases hd
  | c :: post, pre, e, h, d, hd => by
    have hst := lnS_step hc e
    obtain ⟨more, hm⟩ := lnS_more hc post (pre ++ [c]) (by rw [e]; simp)
    by_cases hk : c ∈ CLO
    · rw [if_pos hk, List.append_nil] at hst
      rcases List.mem_cons.mp hd with rfl | hd
      · exact hk
      · exact no_line hc post (pre ++ [c]) (by rw [e]; simp) (by rw [h, hst]) d hd
    · rw [if_neg hk] at hst
      rw [hm, hst] at h
      have := congrArg List.length h
      simp at this
theorem lnS_nest {l : List Nat} (hc : clean l) : lnS (nst l) = lnN (nestD l) 0 := by
  unfold lnS nestD
  rw [nst_clean hc]
  rfl
theorem lnS_nil : lnS (nst []) = [] := by
  show lnF [] ++ lnN [] 0 = []
  rw [lnN]
  rfl
theorem lines_none {l : List Nat} (hc : clean l) (h : lnN (nestD l) 0 = []) : l = [] := by
  cases l with
  | nil => rfl
  | cons c r =>
    have hn := no_line hc (c :: r) [] rfl (by rw [lnS_nest hc, h, lnS_nil])
    exact absurd hc (clean_clo (hn c (List.mem_cons_self ..)))
/-- closers come off one by one -/
theorem nst_closers {l : List Nat} (hc : clean l) : ∀ (cl pre post : List Nat), l = pre ++ (cl ++ post) → (∀ d ∈ cl, d ∈ CLO) → (nst (pre ++ cl)).1.length + cl.length = (nst pre).1.length
  | [], pre, post, e, h => by rw [List.append_nil]; rfl
  | c :: cl, pre, post, e, h => by
    have hk := h c (List.mem_cons_self ..)
    obtain ⟨ds, o, fs, hf, _⟩ := nst_clo (post := cl ++ post) hc e hk
    have ih := nst_closers hc cl (pre ++ [c]) post (by rw [e]; simp) fun d hd => h d (List.mem_cons_of_mem _ hd)
    have en : (nst (pre ++ [c])).1 = fs := by
      rw [nst_snoc]
      unfold nstep
      rw [if_pos hk, hf]
    rw [en] at ih
    rw [hf, List.length_cons, List.length_cons, ← ih, show pre ++ c :: cl = pre ++ [c] ++ cl by simp]
    omega
theorem Bld.closes {N : Addr → Prop} {H : Hp} {l : List Nat} (hc : clean l) : ∀ (cl pre post : List Nat) (b : Addr) (bs : List Addr), l = pre ++ (cl ++ post) → (∀ d ∈ cl, d ∈ CLO) → Bld N H b bs (nst pre).1 (nst pre).2 →
    ∃ b' bs', (b :: bs).drop cl.length = b' :: bs' ∧ Bld N H b' bs' (nst (pre ++ cl)).1 (nst (pre ++ cl)).2
  | [], pre, post, b, bs, e, h, B => ⟨b, bs, rfl, by rw [List.append_nil]; exact B⟩
  | c :: cl, pre, post, b, bs, e, h, B => by
    have hk := h c (List.mem_cons_self ..)
    obtain ⟨ds, o, fs, hf, _⟩ := nst_clo (post := cl ++ post) hc e hk
    rw [hf] at B
    obtain ⟨b0, bs0, rfl, B0⟩ := B.close
    have en : nst (pre ++ [c]) = (fs, ds ++ [.br o (nst pre).2]) := by
      rw [nst_snoc]
      unfold nstep
      rw [if_pos hk, hf]
    obtain ⟨b', bs', h1, h2⟩ := Bld.closes hc cl (pre ++ [c]) post b0 bs0 (by rw [e]; simp) (fun d hd => h d (List.mem_cons_of_mem _ hd)) (by rw [en]; exact B0)
    refine ⟨b', bs', by simpa using h1, ?_⟩
    rw [show pre ++ c :: cl = pre ++ [c] ++ cl by simp]
    exact h2
/-- how deep a sign can stand -/
theorem deep_half {l pre post : List Nat} {c : Nat} (hc : clean l) (e : l = pre ++ c :: post) (h : c ∉ CLO) : 2 * (nst pre).1.length + 1 ≤ l.length := by
  have hr : run (pre ++ c :: post) = some [] := by rw [← e]; exact hc
  obtain ⟨st, hst⟩ := run_pre hr
  have h1 := fold_cnt pre [] st hst
  have h2 := nst_run hst
  have h3 : st.length = (nst pre).1.length := by rw [h2, List.length_map]
  have h4 := clean_cnt hc
  rw [e, cntC_app, cntO_app] at h4
  have e1 : cntC (c :: post) = cntC post := by
    unfold cntC
    rw [List.countP_cons]
    simp [h]
  have e2 : cntO (c :: post) ≥ 0 := Nat.zero_le _
  have l1 : cntO pre ≤ pre.length := List.countP_le_length
  have l2 : cntC post ≤ post.length := List.countP_le_length
  rw [e, List.length_append, List.length_cons]
  simp at h1
  omega
mutual
theorem lnI_len : ∀ (d : Nd) (k : Nat) (x : List Nat), x ∈ lnI d k → k < x.length ∧ x.length ≤ k + d.deep + 1
  | .let_ c, k, x, h => by
    rw [lnI, List.mem_singleton] at h
    rw [h, List.length_append, blk_len]
    simp
  | .num i, k, x, h => by
    rw [lnI] at h
    cases h
  | .br o ds, k, x, h => by
    rw [lnI] at h
    rw [Nd.deep]
    rcases List.mem_cons.mp h with rfl | h
    · rw [List.length_append, blk_len]
      simp
    · have := lnN_len ds (k + 1) x h
      omega
theorem lnN_len : ∀ (ds : List Nd) (k : Nat) (x : List Nat), x ∈ lnN ds k → k < x.length ∧ x.length ≤ k + Nd.deeps ds + 1
  | [], k, x, h => by
    rw [lnN] at h
    cases h
  | d :: ds, k, x, h => by
    rw [lnN] at h
    rw [Nd.deeps]
    rcases List.mem_append.mp h with h | h
    · have := lnI_len d k x h
      omega
    · have := lnN_len ds k x h
      omega
end
mutual
theorem lnI_many : ∀ (d : Nd) (k : Nat), (lnI d k).length ≤ (txI d).length
  | .let_ c, k => by rw [lnI, txI]; simp
  | .num i, k => by rw [lnI]; simp
  | .br o ds, k => by
    have := lnN_many ds (k + 1)
    rw [lnI, txI]
    simp
    omega
theorem lnN_many : ∀ (ds : List Nd) (k : Nat), (lnN ds k).length ≤ (txN ds).length
  | [], k => by rw [lnN]; simp
  | d :: ds, k => by
    have h1 := lnI_many d k
    have h2 := lnN_many ds k
    rw [lnN, txN, List.length_append, List.length_append]
    omega
end
mutual
theorem lnI_sgn : ∀ (d : Nd) (k : Nat), ndOk1 d → ∀ x ∈ lnI d k, ∀ c ∈ x, c = 32 ∨ isSg c
  | .let_ c, k, h, x, hx, e, he => by
    rw [ndOk1] at h
    rw [lnI, List.mem_singleton] at hx
    rw [hx, List.mem_append] at he
    rcases he with he | he
    · exact .inl (blk_mem he)
    · rw [List.mem_singleton] at he
      rw [he]
      exact .inr (.inl h)
  | .num i, k, h, x, hx, e, he => by
    rw [lnI] at hx
    cases hx
  | .br o ds, k, h, x, hx, e, he => by
    rw [ndOk1] at h
    rw [lnI] at hx
    rcases List.mem_cons.mp hx with rfl | hx
    · rcases List.mem_append.mp he with he | he
      · exact .inl (blk_mem he)
      · rw [List.mem_singleton] at he
        rw [he]
        exact .inr (.inr (brk_or.mpr (.inl h.1)))
    · exact lnN_sgn ds (k + 1) h.2 x hx e he
theorem lnN_sgn : ∀ (ds : List Nd) (k : Nat), ndOk ds → ∀ x ∈ lnN ds k, ∀ c ∈ x, c = 32 ∨ isSg c
  | [], k, h, x, hx, e, he => by
    rw [lnN] at hx
    cases hx
  | d :: ds, k, h, x, hx, e, he => by
    rw [ndOk] at h
    rw [lnN] at hx
    rcases List.mem_append.mp hx with hx | hx
    · exact lnI_sgn d k h.1 x hx e he
    · exact lnN_sgn ds k h.2 x hx e he
end
theorem sum_le {n : Nat} : ∀ ls : List (List Nat), (∀ x ∈ ls, x.length ≤ n) → (ls.map (·.length)).sum ≤ ls.length * n
  | [], _ => by simp
  | x :: ls, h => by
    have h1 := h x (List.mem_cons_self ..)
    have h2 := sum_le ls fun y hy => h y (List.mem_cons_of_mem _ hy)
    simp only [List.map_cons, List.sum_cons, List.length_cons, Nat.succ_mul]
    omega
/-! ### text.split(sign) -/
section
variable {X : Cx}
def rSplitT : V → List V → Hp → VK → Prop := fun x xs H Q => ∃ (a b : List Nat), x = Tx a ∧ xs = [Tx b] ∧ b ≠ [] ∧ b.all (· < 256) = true ∧ a.length ≤ 100000 ∧ ∀ p H1, H p = none → Same H H1 → H1 p = some (.lst ((TL.spl b 0 [] a).map Tx)) → Q (.ref p) H1
theorem mt_splitT : MtR X "str.split" rSplitT := fun pins s σ H x xs v us Q I rx rs h => by
  obtain ⟨a, b, h1, h2, h3, h4, h5, q⟩ := h
  refine mt_split pins s σ H x xs v us Q I rx rs ⟨S a, S b, h1, h2, ?_, ?_, fun p np => ?_⟩
  · rw [S_len]
    cases b with
    | nil => exact absurd rfl h3
    | cons c b => rfl
  · rw [S_len]
    exact Nat.le_trans (Nat.add_le_add_right h5 2) (by decide)
  · rw [split_S h3 h4]
    refine q p _ np (Same.new np) ?_
    rw [upd_same, List.map_map]
    rfl
theorem g_splitT {a b : List Nat} {H : Hp} {Q : VK} (h3 : b ≠ []) (h4 : b.all (· < 256) = true) (h5 : a.length ≤ 100000) (q : ∀ p H1, H p = none → Same H H1 → H1 p = some (.lst ((TL.spl b 0 [] a).map Tx)) → Q (.ref p) H1) : rSplitT (Tx a) [Tx b] H Q := ⟨a, b, rfl, rfl, h3, h4, h5, q⟩
end
theorem cut_to {xs : List V} {n : Nat} : cutV xs none (some (n : Int)) = xs.take n := by
  unfold cutV
  rw [HT.sIx_none, HT.sIx_nat, List.drop_zero, Nat.sub_zero]
  rcases Nat.le_total n xs.length with h | h
  · rw [Nat.min_eq_left h]
  · rw [Nat.min_eq_right h, List.take_length, List.take_of_length_le h]
theorem cut_from {xs : List V} {n : Nat} : cutV xs (some (n : Int)) none = xs.drop n := by
  unfold cutV
  rw [HT.sIx_none, HT.sIx_nat]
  rcases Nat.le_total n xs.length with h | h
  · rw [Nat.min_eq_left h]
    exact List.take_of_length_le (by rw [List.length_drop]; omega)
  · rw [Nat.min_eq_right h, List.drop_length, List.drop_of_length_le h]
    simp
end Ly

set_option maxHeartbeats 4000000
namespace Ly
open PySem PySem.Spec PyProof.Rows L2 SX
/-! ### sorted(text) -/
section
variable {prog : Program} {w : World} {A : Around} {E : Value → Shared → Prop} {s : Shared}
theorem collect_signs {Q : List Value → Shared → Prop} (hh : A.handled = none) (x : Str) (t : Tok) (hn : x.cps.size ≤ sizeLine)
    (hQ : ∀ (h' : Heap) (tk : Nat) (acc : Array Value), (∀ b o, s.heap.get? b = some o → h'.get? b = some o) → s.heap.objs.size ≤ h'.objs.size → ItemsOf (SignAt x) acc x.cps.size → Q acc.toList { s with heap := h', toks := tk }) :
    wpAny (model prog w) A (collect (.str x t)) Q E s := by
  unfold collect
  refine wpAny_bind (wpAny_runValue (codeAny_builtin F.entry_proto_collect ?_))
  rw [Around.under_plainId F.plain_proto_collect _]
  show wpAny _ A.in1 (newList [] >>= fun l => again (.builtin "list.__iadd__" ⟨[l, .str x t], []⟩)) _ _ s
  refine wpAny_bind (wpAny_newObj_type ?_)
  refine wpAny_pure ⟨plainId_quiet F.plain_list_iadd _, codeAny_builtin F.entry_list_iadd ?_⟩
  rw [Around.under_plainId F.plain_list_iadd _]
  show wpAny _ A.in1 (Builtin.List.listExtendWith (.ref s.heap.objs.size) (.str x t) (.ref s.heap.objs.size)) _ _ _
  have hS : (s.heap.push { cls := .type "list", data := .seq ([] : List Value).toArray }).get? s.heap.objs.size = some { cls := .type "list", data := .seq #[] 0 } := Heap.get?_push_size _ rfl
  refine wpAny_mono (wpAny_extend_str (A := A) (R := fun rr s' => rr = .ok (.ret (.ref s.heap.objs.size)) ∧ ∃ (h' : Heap) (tk : Nat) (acc : Array Value) (c' : Nat), s' = { s with heap := h', toks := tk } ∧
      (∀ b o, s.heap.get? b = some o → h'.get? b = some o) ∧ h'.get? s.heap.objs.size = some { cls := .type "list", dict := none, data := .seq acc c', slots := #[] } ∧ ItemsOf (SignAt x) acc x.cps.size)
    (s := { s with heap := s.heap.push { cls := .type "list", data := .seq ([] : List Value).toArray } }) hh x t _ _ 0 hS
    (fun h' tk acc c' hk e hi => ⟨rfl, h', tk, acc, c', rfl, fun b o q => hk b o (Nat.ne_of_lt (Heap.lt_size q)) (Heap.get?_push_of_some _ q), e, hi⟩) hn) (fun fin s' h => ?_) (fun e s' h => ?_)
  · cases fin with
    | done f =>
      obtain ⟨e, h', tk, acc, c', rfl, hk, hS', hi⟩ := h
      cases e
      show wpAny _ A (load s.heap.objs.size >>= _) _ _ _
      exact wpAny_bind (wpAny_load hS' (wpAny_pure (hQ h' tk acc hk (Nat.le_of_lt (Heap.lt_size hS')) hi)))
    | again c' =>
      refine ⟨h.1, codeAny_mono h.2 fun rr s'' hr' => ?_⟩
      obtain ⟨rfl, h', tk, acc, c', rfl, hk, hS', hi⟩ := hr'
      show wpAny _ A (load s.heap.objs.size >>= _) _ _ _
      exact wpAny_bind (wpAny_load hS' (wpAny_pure (hQ h' tk acc hk (Nat.le_of_lt (Heap.lt_size hS')) hi)))
  · exact absurd h.1 (by simp)
theorem sorted_signs {Q : Value → Shared → Prop} (hh : A.handled = none) (x : Str) (t : Tok) (hn : x.cps.size ≤ sizeLine)
    (h : ∀ (h' : Heap) (tk : Nat) (a : Addr) (acc out : Array Value) (e : Nat), (∀ b o, s.heap.get? b = some o → h'.get? b = some o) → s.heap.objs.size ≤ a → ItemsOf (SignAt x) acc x.cps.size → (∃ ss ss', StrsAre acc.toList ss ∧ StrsAre out.toList ss' ∧ ss'.Perm ss) → h'.get? a = some (seqObj "list" out e) → Q (.ref a) { s with heap := h', toks := tk }) :
    wpAny (model prog w) A (call (.builtin "sorted") [.str x t]) Q E s := by
  refine Calls.call_function_entry kind_sorted plain_sorted entry_sorted (args_sorted1 _) ?_
  unfold Builtin.«sorted»
  refine wpAny_bind (m := checkCount "sorted" 1 1 _) (wpAny_pure ?_)
  refine wpAny_bind (collect_signs (by exact hh) x t hn fun h1 tk acc hk hlt hi => ?_)
  have hL : acc.toList.length ≤ sizeLine := by rw [Array.length_toList, hi.1]; exact hn
  refine wpAny_bind (wpAny_newList ?_ hL)
  have hoL : (h1.push (seqObj "list" acc.toList.toArray 0)).get? h1.objs.size = some (seqObj "list" acc.toList.toArray 0) := Heap.get?_push_size _ rfl
  have hall : ∀ v, v ∈ acc.toList → ∃ x t, v = .str x t := by
    intro v hv
    obtain ⟨j, hj⟩ := List.getElem?_of_mem hv
    obtain ⟨c, u, e1, e2⟩ := hi.2 j v (by simpa using hj)
    exact ⟨_, _, e2⟩
  have hS := strsAre_map acc.toList hall
  refine wpAny_bind (wpAny_holding (wpAny_call_entry slot_list_sort ⟨_, hoL, rfl⟩ entry_list_sort (list_sort_treeKAny strKind_oneLt hoL hS.keysOf (fun v₁ v₂ rest e => keyKind_strs (by rw [← e]; exact hS)) hL fun st' hp hs => ⟨_, rfl, ?_⟩) (args_list_sort _)))
  obtain ⟨ss', h1', h2', h3'⟩ := sorted_out_str hS hp hs
  obtain ⟨e, he⟩ := sortedHeap_at (vs := acc.toList) (out := (arrOf st').map (·.2)) hoL
  refine wpAny_pure ⟨_, rfl, h _ tk h1.objs.size acc _ e (fun b o q => ?_) hlt hi ⟨_, ss', hS, h1', h2'⟩ he⟩
  rw [sortedHeap_old (Nat.ne_of_lt (Heap.lt_size (hk b o q))) (by rw [size_push']; exact Nat.lt_succ_of_lt (Heap.lt_size (hk b o q))), Heap.get?_push_of_some _ (hk b o q)]
end
section
variable {X : Cx}
def rSortedT : List V → Hp → VK → Prop := fun xs H Q => ∃ l : List Nat, xs = [Tx l] ∧ l.length ≤ 100000 ∧ ∀ (l' : List Nat) (p : Addr) (H1 : Hp), l'.Perm l → H p = none → Same H H1 → H1 p = some (.lst (sgV l')) → Q (.ref p) H1
theorem sgV_str (l : List Nat) : sgV l = (l.map fun c => S [c]).map V.str := by
  unfold sgV
  rw [List.map_map]
  rfl
theorem call_sortedT (hc : X.calm = true) : CallR X (.builtin "sorted") rSortedT := by
  intro pins s σ H xs us Q I r h
  obtain ⟨l, rfl, hl, q⟩ := h
  obtain ⟨u, rfl, t, rfl⟩ := vals1 r
  have hs : (S l).cps.size ≤ sizeLine := by
    have e : (S l).cps.size = l.length := by simp
    rw [e]
    exact Nat.le_trans hl (by decide)
  refine sorted_signs (I.ok.hd hc) (S l) t hs fun h' tk a acc out e hk hle hi hss he => ?_
  obtain ⟨ss, ss', h1, h2, h3⟩ := hss
  have hv := vals_signs hi
  rw [sgV_str] at hv
  have e1 : ss = l.map fun c => S [c] := by
    rw [← StrsAre.strs h1, ← StrsAre.strs hv.strs]
  subst e1
  have e2 : ss' = (ss'.map fun z => z.cps.toList.headD 0).map fun c => S [c] := by
    rw [List.map_map]
    refine (List.map_id' ss').symm.trans (List.map_congr_left fun z hz => ?_)
    obtain ⟨c, _, rfl⟩ := List.mem_map.mp (h3.mem_iff.mp hz)
    rfl
  have h4 : (ss'.map fun z => z.cps.toList.headD 0).Perm l := by
    have := h3.map fun z => z.cps.toList.headD 0
    rw [List.map_map] at this
    refine this.trans (List.Perm.of_eq ?_)
    refine (List.map_congr_left (g := id) fun c hc => rfl).trans (List.map_id l)
  have hvo := vals_of_strs h2
  rw [e2, ← sgV_str] at hvo
  refine ⟨.ref a, upd H a (.lst (sgV (ss'.map fun z => z.cps.toList.headD 0))), I.laid (t' := tk) hk hle (show ObjOk X.prog X.w _ h' _ (.lst (sgV _)) from ⟨?_, out.toList, e, hvo, by simpa using he⟩), rfl, q _ a _ h4 (I.hok.fresh hle) (Same.new (I.hok.fresh hle)) upd_same⟩
  unfold sgV
  rw [List.length_map, h4.length_eq]
  exact Nat.le_trans hl (by decide)
theorem g_sortedT {l : List Nat} {H : Hp} {Q : VK} (h : l.length ≤ 100000) (q : ∀ (l' : List Nat) (p : Addr) (H1 : Hp), l'.Perm l → H p = none → Same H H1 → H1 p = some (.lst (sgV l')) → Q (.ref p) H1) : rSortedT [Tx l] H Q := ⟨l, rfl, h, q⟩
end
end Ly

set_option maxHeartbeats 4000000
namespace Ly
open PySem PySem.Spec PyProof.Rows L2 SX
/-! ### text[::-1] -/
section
variable {X : Cx}
def rRevT (x : V) (H : Hp) (Q : VK) : Prop := ∃ l : List Nat, x = Tx l ∧ l.length ≤ 100000 ∧ Q (Tx l.reverse) H
def tRevS (te : TE) : TE := fun σ H Q => te σ H fun x H1 => rRevT x H1 Q
theorem g_revT {l : List Nat} {H : Hp} {Q : VK} (h : l.length ≤ 100000) (q : Q (Tx l.reverse) H) : rRevT (Tx l) H Q := ⟨l, rfl, h, q⟩
theorem rev_pick (l : List Nat) : (⟨((Builtin.Str.strSliceIndices none none (-1) (S l).length).filterMap ((S l).cps[·]?)).toArray⟩ : Str) = S l.reverse := by
  rw [S_len, picked_rev]
  have h1 : (List.range l.length).map (fun k => l.length - 1 - k) = (List.range l.length).reverse := by
    refine List.ext_getElem? fun i => ?_
    by_cases hi : i < l.length
    · rw [List.getElem?_map, List.getElem?_range hi, List.getElem?_reverse (by simpa using hi), List.length_range, List.getElem?_range (by omega)]
      rfl
    · rw [List.getElem?_eq_none (by simpa using hi), List.getElem?_eq_none (by simpa using hi)]
  have h2 : (List.range l.length).filterMap (fun i => (S l).cps[i]?) = l := by
    have : ∀ n, n ≤ l.length → (List.range n).filterMap (fun i => (S l).cps[i]?) = l.take n := by
      intro n
      induction n with
      | zero => intro _; rfl
      | succ n ih =>
        intro hn
        rw [List.range_succ, List.filterMap_append, ih (by omega), List.take_succ_eq_append_getElem (by omega)]
        have e : (S l).cps[n]? = some l[n] := by simp [show n < l.length by omega]
        rw [List.filterMap_cons, e]
        rfl
    rw [this l.length (Nat.le_refl _), List.take_length]
  rw [h1, List.filterMap_reverse, h2]
theorem pe_revS {e : Expr} {te : TE} {k : Nat} {p1 p2 p3 pos : Pos} (he : PE X e te) : PE X (.Subscript e (.Slice none none (some (.UnaryOp .USub (.Constant (.int 1) k p1) p2)) p3) pos) (tRevS te) := by
  refine ⟨fun pins s σ H Q I h => ?_⟩
  refine Subscript_ (thn (he.run pins s σ H _ I h) fun v s1 ⟨x, H1, I1, r1, q1⟩ => ?_)
  obtain ⟨l, ex, hx, q⟩ := q1
  subst ex
  obtain ⟨t, rfl⟩ := r1
  have hst : PO X (some (.UnaryOp .USub (.Constant (.int 1) k p1) p2)) (tPart (tUn (rU fun i => .int (-i)) (tC (.int 1)))) := po_some (pe_un un_neg pe_int)
  refine wpAny_Slice (thn (po_none.run pins s1 σ H1 (fun o H2 => o = none ∧ H2 = H1) I1 ⟨rfl, rfl⟩) fun vl s2 ⟨l1, H2, I2, pl, el, e2⟩ => ?_)
  subst el e2
  refine thn (po_none.run pins s2 σ H2 (fun o H3 => o = none ∧ H3 = H2) I2 ⟨rfl, rfl⟩) fun vu s3 ⟨u, H3, I3, pu, eu, e3⟩ => ?_
  subst eu e3
  refine thn (hst.run pins s3 σ H3 (fun o H4 => o = some (-1) ∧ H4 = H3) I3 ⟨1, rfl, -1, rfl, rfl, rfl⟩) fun vs s4 ⟨o, H4, I4, ps, eo, e4⟩ => ?_
  subst eo e4
  have I5 : Inv X pins σ H4 { s4 with heap := s4.heap.push { cls := .type "slice", data := .fields #[vl, vu, vs] } } := I4.kept (t' := s4.toks) fun b ob q => Heap.get?_push_of_some _ q
  obtain ⟨a1, rfl, ea1⟩ := IsPart.raw pl
  obtain ⟨a2, rfl, ea2⟩ := IsPart.raw pu
  obtain ⟨a3, rfl, ea3⟩ := IsPart.raw ps
  show wpAny (model X.prog X.w) X.A (subscriptTail e (.Slice none none (some (.UnaryOp .USub (.Constant (.int 1) k p1) p2)) p3) (.str (S l) t) (.ref s4.heap.objs.size)) (EP X pins σ Q) X.xe { s4 with heap := s4.heap.push { cls := .type "slice", data := .fields #[partValue a1, partValue a2, partValue a3] } }
  refine tail_any (ops := [.str (S l) t, .ref s4.heap.objs.size]) (typeIs_str _ _ _) (F.slot_str_getitem.lookup) ?_ (by with_unfolding_all rfl)
  refine wpAny_getItem_str_slice (l := a1) (u := a2) (st := a3) ⟨_, Heap.get?_push_size _ rfl, rfl, rfl⟩ ?_ ?_
  · rw [ea3]; rfl
  unfold sliceMade slicePicked
  rw [ea1, ea2, ea3]
  have e1 : ((some (-1) : Option Int).getD 1 == 1) = false := rfl
  rw [e1, Bool.false_and, if_neg Bool.false_ne_true]
  show Made.post (Made.str ⟨((Builtin.Str.strSliceIndices none none (-1) (S l).length).filterMap ((S l).cps[·]?)).toArray⟩) (EP X pins σ Q) _
  rw [rev_pick]
  refine ⟨?_, Tx l.reverse, H4, I5.tok _, ⟨_, rfl⟩, q⟩
  show (S l.reverse).length ≤ sizeLine
  rw [S_len, List.length_reverse]
  exact Nat.le_trans hx (by decide)
/-- a[b] where a wants a token -/
theorem pet_ix {a b : Expr} {ta tb : TE} {pos : Pos} {r : R2} (hr : IxR X r) (ha : PET X a ta) (hb : PE X b tb) (hs : PlainIx b) : PET X (.Subscript a b pos) (tOp r ta tb) := by
  intro pins s σ H Q h0 I h
  exact Subscript_ (thn (ha pins s σ H _ h0 I h) fun v s1 ⟨x, H1, I1, r1, q1⟩ => thn (hb.run pins s1 σ H1 _ I1 q1) fun u s2 ⟨y, H2, I2, r2, q2⟩ => hr a b pins s2 σ H2 x y v u Q I2 r1 r2 q2 (hs _ _))
def rReplT (y z : List Nat) (x : V) (H : Hp) (Q : VK) : Prop := ∃ l : List Nat, x = Tx l ∧ l.length ≤ 1000 ∧ z.length ≤ 10 ∧ Q (.str (Txt.replace (S l) (S y) (S z))) H
def tReplT (to : TE) (y z : List Nat) : TE := fun σ H Q => to σ H fun v H1 => rReplT y z v H1 Q
theorem pet_replL {o : Expr} {to : TE} {j k : Nat} {c0 c1 apos pos : Pos} {y z : Str} {ly lz : List Nat} (ey : y = S ly) (ez : z = S lz) (ho : PE X o to) (hyz : (y == z) = false)
    (hst : starEach [.Constant (.str y) j c0, .Constant (.str z) k c1] X.env = [(false, eval (.Constant (.str y) j c0) X.env), (false, eval (.Constant (.str z) k c1) X.env)] := by rfl)
    (hbase : attributeBase o "replace" X.env (eval o X.env) = eval o X.env := by rfl) (hline : (apos.endLine == pos.line) = true := by rfl) :
    PET X (.Call (.Attribute o "replace" apos) [.Constant (.str y) j c0, .Constant (.str z) k c1] [] pos) (tReplT to ly lz) := by
  subst ey ez
  intro pins s σ H Q h0 I h
  refine PySem.Call_method2 hbase hst hline (wpAny_mono (PySem.wpAny_toks (ho.run pins s σ H _ I h)) (fun v s1 q => ?_) fun _ _ z => z.2)
  obtain ⟨hk, v', H1, I1, r1, l, e1, hb1, hb2, q⟩ := q
  subst e1
  obtain ⟨tx, e2⟩ := r1
  subst e2
  refine ⟨"str", _, PySem.F.plainAttrs_str, PySem.F.slot_str_replace, PySem.F.type_str_replace, typeIs_str _ _ _, (fun _ e => nomatch e), Calls.callWith_builtin rfl (Calls.evalArgs_plain (Calls.spliced_cons ?_))⟩
  refine Calls.Constant_str (Calls.spliced_cons (Calls.Constant_str (Calls.spliced_nil ?_)))
  have hb : (S l).length + ((S l).length + 1) * (S lz).length ≤ 16777216 := by
    rw [S_len, S_len]
    have : (l.length + 1) * lz.length ≤ 1001 * 10 := Nat.mul_le_mul (by omega) hb2
    omega
  exact PySem.SC.replace (by show s1.toks ≠ 0; omega) (by show s1.toks + 1 ≠ 0; omega) (by show s1.toks ≠ s1.toks + 1; omega) hyz hb fun t' k => ⟨.str (Txt.replace (S l) (S ly) (S lz)), H1, I1.tok k, ⟨t', rfl⟩, q⟩
end
end Ly
namespace Ly
open PySem PySem.Spec PyProof.Rows L2 SX PySem.StrLaws
theorem replL_one {a b : Nat} : ∀ l : List Nat, replL [a] [b] l = l.map fun c => if c = a then b else c
  | [] => replL_nil
  | c :: r => by
    by_cases h : c = a
    · rw [replL_hit (by simp) (by simp [h]), List.map_cons, if_pos h]
      show [b] ++ replL [a] [b] r = _
      rw [replL_one r]
      rfl
    · rw [replL_miss (by simpa using h), replL_one r, List.map_cons, if_neg h]
theorem replace_one {a b : Nat} {l : List Nat} : Txt.replace (S l) (S [a]) (S [b]) = S (l.map fun c => if c = a then b else c) := by
  refine TL.ext_tl ?_
  have e := replace_list (x := S l) (y := S [a]) (z := S [b]) (by rw [S_len]; exact Nat.le_refl 1)
  exact e.trans (replL_one l)
end Ly

set_option maxHeartbeats 4000000
namespace Ly
/-! ### least numbers of deeds: strikes and turns -/
/-- how many of two brackets are to be turned -/
def tns (c d : Nat) : Nat := if c ∈ CLO ∨ d ∈ OPN then (if c ∈ CLO then 1 else 0) + (if d ∈ OPN then 1 else 0) else if knd c = knd d then 0 else 1
inductive Mn (l : List Nat) : Nat → Nat → Nat → Prop
  | nil (i : Nat) : Mn l i i 0
  | let_ {i j n c : Nat} : l[i]? = some c → c ∉ BRK → Mn l (i + 1) j n → Mn l i j n
  | str {i j n c : Nat} : l[i]? = some c → c ∈ BRK → Mn l (i + 1) j n → Mn l i j (n + 1)
  | pair {i m j a b c d : Nat} : l[i]? = some c → c ∈ BRK → l[m]? = some d → d ∈ BRK → Mn l (i + 1) m a → Mn l (m + 1) j b → Mn l i j (tns c d + a + b)
theorem Mn.le {l : List Nat} {i j n : Nat} (h : Mn l i j n) : i ≤ j := by
  induction h with
  | nil i => exact Nat.le_refl _
  | let_ _ _ _ ih => omega
  | str _ _ _ ih => omega
  | pair _ _ _ _ _ _ ih1 ih2 => omega
theorem Mn.self {l : List Nat} {i n : Nat} (h : Mn l i i n) : n = 0 := by
  cases h with
  | nil => rfl
  | let_ _ _ h => have := h.le; omega
  | str _ _ h => have := h.le; omega
  | pair _ _ _ _ h1 h2 => have := h1.le; have := h2.le; omega
theorem Mn.app {l : List Nat} {i m j a b : Nat} (h : Mn l i m a) (h2 : Mn l m j b) : Mn l i j (a + b) := by
  induction h with
  | nil i => rw [Nat.zero_add]; exact h2
  | let_ e1 e2 _ ih => exact .let_ e1 e2 (ih h2)
  | @str i j n c e1 e2 _ ih =>
    rw [show n + 1 + b = n + b + 1 by omega]
    exact .str e1 e2 (ih h2)
  | @pair i m j a b' c d e1 e2 e3 e4 h3 _ _ ih =>
    rw [Nat.add_assoc]
    exact .pair e1 e2 e3 e4 h3 (ih h2)
theorem Mn.one_let {l : List Nat} {i c : Nat} (e : l[i]? = some c) (h : c ∉ BRK) : Mn l i (i + 1) 0 := .let_ e h (.nil _)
theorem Mn.one_str {l : List Nat} {i c : Nat} (e : l[i]? = some c) (h : c ∈ BRK) : Mn l i (i + 1) 1 := .str e h (.nil _)
theorem Mn.last {l : List Nat} {i j n : Nat} (h : Mn l i j n) : i < j → ∃ c, l[j - 1]? = some c ∧ ((c ∉ BRK ∧ Mn l i (j - 1) n) ∨ (c ∈ BRK ∧ ((∃ n', n = n' + 1 ∧ Mn l i (j - 1) n') ∨ ∃ m d a b, i ≤ m ∧ m < j - 1 ∧ l[m]? = some d ∧ d ∈ BRK ∧ Mn l i m a ∧ Mn l (m + 1) (j - 1) b ∧ n = tns d c + a + b))) := by
  induction h with
  | nil i => intro h; omega
  | @let_ i j n c e1 e2 h ih =>
    intro hij
    by_cases hj : i + 1 = j
    · subst hj
      have := h.self
      subst this
      exact ⟨c, by simpa using e1, .inl ⟨e2, .nil _⟩⟩
    · obtain ⟨c', h1, h2⟩ := ih (by have := h.le; omega)
      refine ⟨c', h1, ?_⟩
      rcases h2 with ⟨h2, h3⟩ | ⟨h2, ⟨n', rfl, h3⟩ | ⟨m, d, a, b, g1, g2, g3, g4, g5, g6, rfl⟩⟩
      · exact .inl ⟨h2, .let_ e1 e2 h3⟩
      · exact .inr ⟨h2, .inl ⟨n', rfl, .let_ e1 e2 h3⟩⟩
      · exact .inr ⟨h2, .inr ⟨m, d, a, b, by omega, g2, g3, g4, .let_ e1 e2 g5, g6, rfl⟩⟩
  | @str i j n c e1 e2 h ih =>
    intro hij
    by_cases hj : i + 1 = j
    · subst hj
      have := h.self
      subst this
      exact ⟨c, by simpa using e1, .inr ⟨e2, .inl ⟨0, rfl, .nil _⟩⟩⟩
    · obtain ⟨c', h1, h2⟩ := ih (by have := h.le; omega)
      refine ⟨c', h1, ?_⟩
      rcases h2 with ⟨h2, h3⟩ | ⟨h2, ⟨n', rfl, h3⟩ | ⟨m, d, a, b, g1, g2, g3, g4, g5, g6, rfl⟩⟩
      · exact .inl ⟨h2, .str e1 e2 h3⟩
      · exact .inr ⟨h2, .inl ⟨n' + 1, rfl, .str e1 e2 h3⟩⟩
      · exact .inr ⟨h2, .inr ⟨m, d, a + 1, b, by omega, g2, g3, g4, .str e1 e2 g5, g6, by omega⟩⟩
  | @pair i m j a b c d e1 e2 e3 e4 h1 h2 ih1 ih2 =>
    intro hij
    by_cases hj : m + 1 = j
    · subst hj
      have := h2.self
      subst this
      have hm := h1.le
      exact ⟨d, by simpa using e3, .inr ⟨e4, .inr ⟨i, c, 0, a, Nat.le_refl _, by omega, e1, e2, .nil _, by simpa using h1, by omega⟩⟩⟩
    · have hm := h1.le
      obtain ⟨c', g1, g2⟩ := ih2 (by have := h2.le; omega)
      refine ⟨c', g1, ?_⟩
      rcases g2 with ⟨g2, g3⟩ | ⟨g2, ⟨n', rfl, g3⟩ | ⟨m', d', a', b', k1, k2, k3, k4, k5, k6, rfl⟩⟩
      · exact .inl ⟨g2, .pair e1 e2 e3 e4 h1 g3⟩
      · exact .inr ⟨g2, .inl ⟨tns c d + a + n', by omega, .pair e1 e2 e3 e4 h1 g3⟩⟩
      · exact .inr ⟨g2, .inr ⟨m', d', tns c d + a + a', b', by omega, k2, k3, k4, .pair e1 e2 e3 e4 h1 k5, k6, by omega⟩⟩
/-- the least that is so -/
def Lst (P : Nat → Prop) (n : Nat) : Prop := P n ∧ ∀ m, P m → n ≤ m
theorem Lst.ex {P : Nat → Prop} : ∀ n, P n → ∃ n, Lst P n := by
  intro n
  induction n using Nat.strongRecOn with
  | ind n ih =>
    intro h
    by_cases hm : ∃ m, m < n ∧ P m
    · obtain ⟨m, h1, h2⟩ := hm
      exact ih m h1 h2
    · exact ⟨n, h, fun m hp => Nat.le_of_not_lt fun hlt => hm ⟨m, hlt, hp⟩⟩
theorem Lst.uniq {P : Nat → Prop} {n m : Nat} (h1 : Lst P n) (h2 : Lst P m) : n = m := Nat.le_antisymm (h1.2 m h2.1) (h2.2 n h1.1)
open Classical in
noncomputable def lstN (l : List Nat) (i j : Nat) : Nat := if h : ∃ n, Lst (Mn l i j) n then Classical.choose h else 0
theorem Mn.ex (l : List Nat) : ∀ (k i : Nat), i + k ≤ l.length → ∃ n, Mn l i (i + k) n
  | 0, i, _ => ⟨0, .nil _⟩
  | k + 1, i, h => by
    obtain ⟨n, hn⟩ := Mn.ex l k (i + 1) (by omega)
    rw [show i + 1 + k = i + (k + 1) by omega] at hn
    have e : l[i]? = some l[i] := List.getElem?_eq_getElem (by omega)
    by_cases hb : l[i] ∈ BRK
    · exact ⟨n + 1, .str e hb hn⟩
    · exact ⟨n, .let_ e hb hn⟩
theorem lstN_spec {l : List Nat} {i j : Nat} (h1 : i ≤ j) (h2 : j ≤ l.length) : Lst (Mn l i j) (lstN l i j) := by
  have hx : ∃ n, Lst (Mn l i j) n := by
    obtain ⟨n, hn⟩ := Mn.ex l (j - i) i (by omega)
    rw [show i + (j - i) = j by omega] at hn
    exact Lst.ex n hn
  unfold lstN
  rw [dif_pos hx]
  exact Classical.choose_spec hx
theorem lstN_of {l : List Nat} {i j n : Nat} (h1 : i ≤ j) (h2 : j ≤ l.length) (h : Lst (Mn l i j) n) : lstN l i j = n := (lstN_spec h1 h2).uniq h
theorem lstN_self {l : List Nat} {i : Nat} (h : i ≤ l.length) : lstN l i i = 0 := (lstN_spec (Nat.le_refl _) h).1.self
/-! by the first sign -/
/-- what the first sign makes of the entries e -/
def stepL (l : List Nat) (e : Nat → Nat → Int) (i j : Nat) : List Int :=
  match l[i]? with
  | none => []
  | some c => if c ∈ BRK then (1 + e (i + 1) j) :: (List.range (j - i - 1)).filterMap (fun t => match l[i + 1 + t]? with
      | none => none
      | some d => if d ∈ BRK then some (tns c d + e (i + 1) (i + 1 + t) + e (i + 1 + t + 1) j) else none)
    else [e (i + 1) j]
theorem lst_first {l : List Nat} {i j : Nat} (hi : i < j) (hj : j ≤ l.length) : (lstN l i j : Int) ∈ stepL l (fun a b => lstN l a b) i j ∧ ∀ x ∈ stepL l (fun a b => lstN l a b) i j, (lstN l i j : Int) ≤ x := by
  have e : l[i]? = some l[i] := List.getElem?_eq_getElem (by omega)
  have sp := lstN_spec (l := l) (show i ≤ j by omega) hj
  have sp1 := lstN_spec (l := l) (show i + 1 ≤ j by omega) hj
  unfold stepL
  rw [e]
  dsimp only
  by_cases hb : l[i] ∈ BRK
  · rw [if_pos hb]
    generalize hN : lstN l i j = N at sp ⊢
    constructor
    · cases sp.1 with
      | nil => omega
      | let_ e1 e2 _ => rw [e] at e1; exact absurd (Option.some.inj e1 ▸ hb) e2
      | @str _ _ n c e1 e2 h =>
        have h1 := sp1.2 _ h
        have h2 := sp.2 _ (.str e1 e2 sp1.1)
        have : n = lstN l (i + 1) j := by omega
        rw [List.mem_cons]
        left
        omega
      | @pair _ m _ a b c d e1 e2 e3 e4 h1 h2 =>
        have l1 := h1.le
        have l2 := h2.le
        have s1 := lstN_spec (l := l) (show i + 1 ≤ m by omega) (by omega)
        have s2 := lstN_spec (l := l) (show m + 1 ≤ j by omega) hj
        have m1 := s1.2 _ h1
        have m2 := s2.2 _ h2
        have m3 := sp.2 _ (.pair e1 e2 e3 e4 s1.1 s2.1)
        rw [e] at e1
        have ec : l[i] = c := Option.some.inj e1
        rw [List.mem_cons]
        right
        rw [List.mem_filterMap]
        refine ⟨m - (i + 1), List.mem_range.mpr (by omega), ?_⟩
        rw [show i + 1 + (m - (i + 1)) = m by omega, e3]
        dsimp only
        rw [if_pos e4, ec]
        congr 1
        omega
    · intro x hx
      rw [List.mem_cons] at hx
      rcases hx with rfl | hx
      · have := sp.2 _ (.str e hb sp1.1)
        omega
      · rw [List.mem_filterMap] at hx
        obtain ⟨t, ht, hx⟩ := hx
        rw [List.mem_range] at ht
        have e3 : l[i + 1 + t]? = some l[i + 1 + t] := List.getElem?_eq_getElem (by omega)
        rw [e3] at hx
        dsimp only at hx
        by_cases hd : l[i + 1 + t] ∈ BRK
        · rw [if_pos hd] at hx
          have hx' := Option.some.inj hx
          have s1 := lstN_spec (l := l) (show i + 1 ≤ i + 1 + t by omega) (by omega)
          have s2 := lstN_spec (l := l) (show i + 1 + t + 1 ≤ j by omega) hj
          have := sp.2 _ (.pair e hb e3 hd s1.1 s2.1)
          omega
        · rw [if_neg hd] at hx
          cases hx
  · rw [if_neg hb]
    have : lstN l i j = lstN l (i + 1) j := by
      refine lstN_of (by omega) hj ⟨.let_ e hb sp1.1, fun m hm => ?_⟩
      cases hm with
      | nil => omega
      | let_ _ _ h => exact sp1.2 _ h
      | str e1 e2 _ => rw [e] at e1; exact absurd (Option.some.inj e1 ▸ e2) hb
      | pair e1 e2 _ _ _ _ => rw [e] at e1; exact absurd (Option.some.inj e1 ▸ e2) hb
    rw [this]
    exact ⟨List.mem_singleton.mpr rfl, fun x hx => by rw [List.mem_singleton] at hx; omega⟩
/-! by the last sign -/
theorem lst_lastL {l : List Nat} {i j c : Nat} (hi : i ≤ j) (hj : j < l.length) (e : l[j]? = some c) (hb : c ∉ BRK) : lstN l i (j + 1) = lstN l i j := by
  have sp := lstN_spec (l := l) hi (by omega)
  refine lstN_of (by omega) (by omega) ⟨sp.1.app (.one_let e hb), fun m hm => ?_⟩
  obtain ⟨c', h1, h2⟩ := hm.last (by omega)
  rw [Nat.add_sub_cancel, e] at h1
  have := Option.some.inj h1
  subst this
  rcases h2 with ⟨_, h3⟩ | ⟨h2, _⟩
  · exact sp.2 _ h3
  · exact absurd h2 hb
/-- the numbers that are looked at for a last bracket: the least one so far -/
def LwB (l : List Nat) (i j c k n : Nat) : Prop := Mn l i (j + 1) n ∧ n ≤ lstN l i j + 1 ∧ ∀ m d, i ≤ m → m < i + k → m < j → l[m]? = some d → d ∈ BRK → n ≤ lstN l i m + lstN l (m + 1) j + tns d c
theorem LwB.start {l : List Nat} {i j c : Nat} (hi : i ≤ j) (hj : j < l.length) (e : l[j]? = some c) (hb : c ∈ BRK) : LwB l i j c 0 (lstN l i j + 1) :=
  ⟨(lstN_spec hi (by omega)).1.app (.one_str e hb), Nat.le_refl _, fun m d h1 h2 => by omega⟩
theorem LwB.skip {l : List Nat} {i j c k n d : Nat} (h : LwB l i j c k n) (e : l[i + k]? = some d) (hd : d ∉ BRK) : LwB l i j c (k + 1) n := by
  refine ⟨h.1, h.2.1, fun m d' h1 h2 h3 h4 h5 => ?_⟩
  by_cases hm : m < i + k
  · exact h.2.2 m d' h1 hm h3 h4 h5
  · have : m = i + k := by omega
    subst this
    rw [e] at h4
    exact absurd (Option.some.inj h4 ▸ h5) hd
theorem LwB.step {l : List Nat} {i j c k n d : Nat} (h : LwB l i j c k n) (hj : j < l.length) (ec : l[j]? = some c) (hc : c ∈ BRK) (hk : i + k < j) (e : l[i + k]? = some d) (hd : d ∈ BRK) : LwB l i j c (k + 1) (min n (lstN l i (i + k) + lstN l (i + k + 1) j + tns d c)) := by
  have s1 := lstN_spec (l := l) (show i ≤ i + k by omega) (by omega)
  have s2 := lstN_spec (l := l) (show i + k + 1 ≤ j by omega) (by omega)
  refine ⟨?_, by have := h.2.1; omega, fun m d' h1 h2 h3 h4 h5 => ?_⟩
  · rcases Nat.le_total n (lstN l i (i + k) + lstN l (i + k + 1) j + tns d c) with hq | hq
    · rw [Nat.min_eq_left hq]
      exact h.1
    · rw [Nat.min_eq_right hq]
      have := s1.1.app (Mn.pair e hd ec hc s2.1 (.nil _))
      rw [show lstN l i (i + k) + lstN l (i + k + 1) j + tns d c = lstN l i (i + k) + (tns d c + lstN l (i + k + 1) j + 0) by omega]
      exact this
  · by_cases hm : m < i + k
    · have := h.2.2 m d' h1 hm h3 h4 h5
      omega
    · have : m = i + k := by omega
      subst this
      rw [e] at h4
      have := Option.some.inj h4
      subst this
      exact Nat.min_le_right _ _
theorem LwB.fin {l : List Nat} {i j c n : Nat} (hi : i ≤ j) (hj : j < l.length) (ec : l[j]? = some c) (hc : c ∈ BRK) (h : LwB l i j c (j - i) n) : lstN l i (j + 1) = n := by
  refine lstN_of (by omega) (by omega) ⟨h.1, fun x hx => ?_⟩
  obtain ⟨c', h1, h2⟩ := hx.last (by omega)
  rw [Nat.add_sub_cancel] at h1 h2
  rw [ec] at h1
  have := Option.some.inj h1
  subst this
  rcases h2 with ⟨h2, _⟩ | ⟨_, ⟨n', rfl, h3⟩ | ⟨m, d, a, b, g1, g2, g3, g4, g5, g6, rfl⟩⟩
  · exact absurd hc h2
  · have := (lstN_spec (l := l) hi (by omega)).2 _ h3
    have := h.2.1
    omega
  · have k1 := (lstN_spec (l := l) g1 (by omega)).2 _ g5
    have k2 := (lstN_spec (l := l) (show m + 1 ≤ j by omega) (by omega)).2 _ g6
    have := h.2.2 m d g1 (by omega) g2 g3 g4
    omega
theorem lstN_le {l : List Nat} : ∀ (k i : Nat), i + k ≤ l.length → lstN l i (i + k) ≤ k
  | 0, i, h => by rw [Nat.add_zero, lstN_self (l := l) (by omega)]; exact Nat.le_refl _
  | k + 1, i, h => by
    have ih := lstN_le (l := l) k (i + 1) (by omega)
    rw [show i + 1 + k = i + (k + 1) by omega] at ih
    have sp := lstN_spec (l := l) (show i ≤ i + (k + 1) by omega) h
    have sp1 := lstN_spec (l := l) (show i + 1 ≤ i + (k + 1) by omega) h
    have e : l[i]? = some l[i] := List.getElem?_eq_getElem (by omega)
    by_cases hb : l[i] ∈ BRK
    · have := sp.2 _ (.str e hb sp1.1)
      omega
    · have := sp.2 _ (.let_ e hb sp1.1)
      omega
/-! reckoned -/
def minL : List Int → Int
  | [] => 0
  | [x] => x
  | x :: y :: r => min x (minL (y :: r))
theorem minL_spec : ∀ {xs : List Int}, xs ≠ [] → minL xs ∈ xs ∧ ∀ y ∈ xs, minL xs ≤ y
  | [], h => absurd rfl h
  | [x], _ => ⟨List.mem_singleton.mpr rfl, fun y hy => by rw [List.mem_singleton] at hy; rw [hy]; exact Int.le_refl _⟩
  | x :: y :: r, _ => by
    obtain ⟨h1, h2⟩ := minL_spec (xs := y :: r) (by simp)
    have e : minL (x :: y :: r) = min x (minL (y :: r)) := rfl
    rw [e]
    constructor
    · rcases Int.le_total x (minL (y :: r)) with h | h
      · rw [show min x (minL (y :: r)) = x by omega]
        exact List.mem_cons_self ..
      · rw [show min x (minL (y :: r)) = minL (y :: r) by omega]
        exact List.mem_cons_of_mem _ h1
    · intro z hz
      rcases List.mem_cons.mp hz with rfl | hz
      · omega
      · have := h2 z hz
        omega
theorem stepL_congr {l : List Nat} {e e' : Nat → Nat → Int} {i j : Nat} (hi : i < j) (h : ∀ a b, i < a → a ≤ b → b ≤ j → e a b = e' a b) : stepL l e i j = stepL l e' i j := by
  unfold stepL
  cases l[i]? with
  | none => rfl
  | some c =>
    dsimp only
    rw [h (i + 1) j (by omega) (by omega) (Nat.le_refl _)]
    have hF : ∀ t, t < j - i - 1 → (match l[i + 1 + t]? with
      | none => none
      | some d => if d ∈ BRK then some (tns c d + e (i + 1) (i + 1 + t) + e (i + 1 + t + 1) j) else none : Option Int) = (match l[i + 1 + t]? with
      | none => none
      | some d => if d ∈ BRK then some (tns c d + e' (i + 1) (i + 1 + t) + e' (i + 1 + t + 1) j) else none) := fun t ht => by
      cases l[i + 1 + t]? with
      | none => rfl
      | some d =>
        dsimp only
        rw [h (i + 1) (i + 1 + t) (by omega) (by omega) (by omega), h (i + 1 + t + 1) j (by omega) (by omega) (Nat.le_refl _)]
    have hL : ∀ (xs : List Nat) (f g : Nat → Option Int), (∀ t ∈ xs, f t = g t) → xs.filterMap f = xs.filterMap g := by
      intro xs f g
      induction xs with
      | nil => intro _; rfl
      | cons x xs ih =>
        intro hx
        rw [List.filterMap_cons, List.filterMap_cons, hx x (List.mem_cons_self ..), ih fun t ht => hx t (List.mem_cons_of_mem _ ht)]
    rw [hL (List.range (j - i - 1)) _ _ fun t ht => hF t (List.mem_range.mp ht)]
def lstF (l : List Nat) : Nat → Nat → Nat → Int
  | 0, _, _ => 0
  | n + 1, i, j => if j ≤ i then 0 else minL (stepL l (lstF l n) i j)
theorem lstF_eq {l : List Nat} : ∀ (n i j : Nat), j - i ≤ n → i ≤ j → j ≤ l.length → lstF l n i j = (lstN l i j : Int)
  | 0, i, j, h, h1, h2 => by
    have : i = j := by omega
    subst this
    rw [lstN_self (l := l) h2]
    rfl
  | n + 1, i, j, h, h1, h2 => by
    rw [lstF]
    by_cases hij : j ≤ i
    · have : i = j := by omega
      subst this
      rw [if_pos hij, lstN_self (l := l) h2]
      rfl
    · rw [if_neg hij, stepL_congr (e' := fun a b => (lstN l a b : Int)) (by omega) fun a b g1 g2 g3 => lstF_eq n a b (by omega) g2 (by omega)]
      have lf := lst_first (l := l) (i := i) (j := j) (by omega) h2
      have hm := minL_spec (xs := stepL l (fun a b => lstN l a b) i j) (fun hq => by rw [hq] at lf; cases lf.1)
      exact Int.le_antisymm (hm.2 _ lf.1) (lf.2 _ hm.1)
theorem lstN_val {l : List Nat} {n : Nat} (h : lstF l l.length 0 l.length = (n : Int)) : lstN l 0 l.length = n := by
  have := lstF_eq (l := l) l.length 0 l.length (by omega) (Nat.zero_le _) (Nat.le_refl _)
  omega
end Ly

set_option maxHeartbeats 4000000
namespace Ly
open PySem PySem.Spec PyProof.Rows L2 SX
/-! ### dicts whose keys are pairs of whole numbers -/
section
variable {K : PySem.W.Frag} {σ : L2.St} {H H1 : Hp} {Q : VK} {R : Hp → Prop} {a b p : Addr} {i j : Int} {v : V} {n : Nat} {td ty tv : TE} {D : Ends} {xs : List V}
def rDGet (x y : V) (H : Hp) (Q : VK) : Prop := ∃ a v, x = .ref a ∧ DGet H a y (some v) ∧ Q v H
def rDPut (x y v : V) (H : Hp) (R : Hp → Prop) : Prop := ∃ a H4, x = .ref a ∧ DPut H a y v H4 ∧ R H4
def rDNewT (H : Hp) (Q : VK) : Prop := ∀ p, H p = none → Q (.ref p) (upd H p (.dT []))
theorem tDGet_eq : tDGet td ty σ H Q = td σ H fun x H1 => ty σ H1 fun y H2 => rDGet x y H2 Q := rfl
theorem sDPut_eq : sDPut td ty tv D σ H = tv σ H fun v H1 => td σ H1 fun x H2 => ty σ H2 fun y H3 => rDPut x y v H3 (D.nx σ) := rfl
theorem tDNewT_eq : tDNewT σ H Q = rDNewT H Q := rfl
/-- at a stands a dict of pairs, f tells what it holds, at most n entries -/
def DTab (H : Hp) (a : Addr) (f : Int → Int → Option V) (n : Nat) : Prop := ∃ kvs : List (List Key × V), H a = some (.dT kvs) ∧ kvs.length ≤ n ∧ ∀ i j, valV kvs [.inl i, .inl j] = f i j
theorem DTab.same {f : Int → Int → Option V} (h : DTab H a f n) (s : Same H H1) : DTab H1 a f n := by
  obtain ⟨kvs, h1, h2⟩ := h
  exact ⟨kvs, s _ _ h1, h2⟩
theorem DTab.but {f : Int → Int → Option V} (h : DTab H a f n) (s : But p H H1) (hn : a ≠ p) : DTab H1 a f n := by
  obtain ⟨kvs, h1, h2⟩ := h
  exact ⟨kvs, s _ _ hn h1, h2⟩
theorem DTab.ne {f : Int → Int → Option V} (h : DTab H a f n) (hb : H b = none) : a ≠ b := by
  obtain ⟨kvs, h1, h2⟩ := h
  exact ne_new hb h1
theorem g_dnewT (q : ∀ p H1, H p = none → Same H H1 → DTab H1 p (fun _ _ => none) 0 → Q (.ref p) H1) : rDNewT H Q := fun p np => q p _ np (Same.new np) ⟨[], upd_same, Nat.le_refl _, fun _ _ => rfl⟩
theorem g_dgetT {f : Int → Int → Option V} (h : DTab H a f n) (hb : H b = some (.tup [.int i, .int j])) (hv : f i j = some v) (q : Q v H) : rDGet (.ref a) (.ref b) H Q := by
  obtain ⟨kvs, h1, h2, h3⟩ := h
  refine ⟨a, v, rfl, ?_, q⟩
  have e := DGet.t (k := [.inl i, .inl j]) h1 hb
  rw [h3, hv] at e
  exact e
theorem g_dputT {f : Int → Int → Option V} (h : DTab H a f n) (hb : H b = some (.tup [.int i, .int j])) (hn : n < 100000) (q : ∀ H1, But a H H1 → DTab H1 a (fun x y => if x = i ∧ y = j then some v else f x y) (n + 1) → R H1) : rDPut (.ref a) (.ref b) v H R := by
  obtain ⟨kvs, h1, h2, h3⟩ := h
  refine ⟨a, _, rfl, DPut.t (k := [.inl i, .inl j]) h1 hb (Nat.lt_of_lt_of_le (Nat.lt_of_le_of_lt h2 hn) (by decide)), q _ But.set ⟨_, upd_same, ?_, fun x y => ?_⟩⟩
  · unfold putK
    split
    · rw [List.length_map]; omega
    · rw [List.length_append, List.length_singleton]; omega
  · rw [valV_put, h3]
    show _ = if x = i ∧ y = j then some v else f x y
    by_cases e : x = i ∧ y = j
    · obtain ⟨rfl, rfl⟩ := e
      rw [if_pos rfl, if_pos ⟨rfl, rfl⟩]
    · rw [if_neg e, if_neg fun q => e ?_]
      injection q with q1 q2
      injection q2 with q2 _
      exact ⟨Sum.inl.inj q1, Sum.inl.inj q2⟩
/-! ### places told as natural numbers -/
theorem g_ixLn {x : Int} (k : Nat) (h : SqL K H p xs) (hk : x = (k : Int)) (h1 : xs[k]? = some v) (q : Q v H) : rIxL K (.ref p) (.int x) H Q := by
  subst hk
  exact g_ixL h (atI_of h1) q
theorem g_ixTn {l : List Nat} {x : Int} {c : Nat} (k : Nat) (h : l.length ≤ 100000) (hk : x = (k : Int)) (h1 : l[k]? = some c) (q : Q (Tx [c]) H) : rIxT1 (Tx l) (.int x) H Q := by
  subst hk
  exact g_ixT h (atI_of h1) q
theorem g_setLn {x : Int} (k : Nat) (h : H p = some (.lst xs)) (hk : x = (k : Int)) (h1 : k < xs.length) (q : ∀ H1, But p H H1 → H1 p = some (.lst (xs.set k v)) → R H1) : rSetL (.ref p) (.int x) v H R := by
  subst hk
  exact g_setL h (ixN_nat h1) q
/-! ### min, max -/
theorem g_minL {ns : List Int} (h : SqL K H p (ns.map V.int)) (hn : ns ≠ []) (q : ∀ m, m ∈ ns → (∀ y, y ∈ ns → m ≤ y) → Q (.int m) H) : rMin K [.ref p] H Q := ⟨p, ns, rfl, h, List.length_pos_iff.mpr hn, q⟩
theorem g_maxL {ns : List Int} (h : SqL K H p (ns.map V.int)) (hn : ns ≠ []) (q : ∀ m, m ∈ ns → (∀ y, y ∈ ns → y ≤ m) → Q (.int m) H) : rMax K [.ref p] H Q := ⟨p, ns, rfl, h, List.length_pos_iff.mpr hn, q⟩
end
section
variable {X : Cx}
def rMin2 : List V → Hp → VK → Prop := fun xs H Q => ∃ i j : Int, xs = [.int i, .int j] ∧ Q (.int (min i j)) H
def rMax2 : List V → Hp → VK → Prop := fun xs H Q => ∃ i j : Int, xs = [.int i, .int j] ∧ Q (.int (max i j)) H
theorem call_min2' (hc : X.calm = true) : CallR X (.builtin "min") rMin2 := fun pins s σ H xs us Q I r h => by
  obtain ⟨i, j, rfl, q⟩ := h
  refine call_min2 hc pins s σ H _ us Q I r ⟨i, j, rfl, ?_⟩
  have e : (if j < i then j else i) = min i j := by split <;> omega
  rw [e]
  exact q
theorem call_max2' (hc : X.calm = true) : CallR X (.builtin "max") rMax2 := fun pins s σ H xs us Q I r h => by
  obtain ⟨i, j, rfl, q⟩ := h
  refine call_max2 hc pins s σ H _ us Q I r ⟨i, j, rfl, ?_⟩
  have e : (if j > i then j else i) = max i j := by split <;> omega
  rw [e]
  exact q
theorem g_min2 {H : Hp} {Q : VK} {i j : Int} (q : Q (.int (min i j)) H) : rMin2 [.int i, .int j] H Q := ⟨i, j, rfl, q⟩
theorem g_max2 {H : Hp} {Q : VK} {i j : Int} (q : Q (.int (max i j)) H) : rMax2 [.int i, .int j] H Q := ⟨i, j, rfl, q⟩
end
/-! ### a list of lists, each its own -/
/-- at d the list of the lists rs; the k-th holds f k -/
structure Tab (H : Hp) (d : Addr) (rs : List Addr) (f : Nat → List V) : Prop where
  hd : H d = some (.lst (rs.map V.ref))
  r : ∀ k r, rs[k]? = some r → H r = some (.lst (f k))
  nd : rs.Nodup
  nin : d ∉ rs
theorem Tab.same {H H' : Hp} {d : Addr} {rs : List Addr} {f : Nat → List V} (T : Tab H d rs f) (s : Same H H') : Tab H' d rs f := ⟨s _ _ T.hd, fun k r h => s _ _ (T.r k r h), T.nd, T.nin⟩
theorem Tab.but {H H' : Hp} {d p : Addr} {rs : List Addr} {f : Nat → List V} (T : Tab H d rs f) (s : But p H H') (h1 : p ≠ d) (h2 : p ∉ rs) : Tab H' d rs f :=
  ⟨s _ _ (Ne.symm h1) T.hd, fun k r h => s _ _ (fun e => h2 (by rw [← e]; exact List.mem_of_getElem? h)) (T.r k r h), T.nd, T.nin⟩
theorem Tab.fresh {H : Hp} {d p : Addr} {rs : List Addr} {f : Nat → List V} (T : Tab H d rs f) (h : H p = none) : p ≠ d ∧ p ∉ rs := by
  refine ⟨fun e => ?_, fun e => ?_⟩
  · have := T.hd
    rw [← e, h] at this
    cases this
  · obtain ⟨k, hk⟩ := List.getElem?_of_mem e
    have := T.r k p hk
    rw [h] at this
    cases this
/-- one row set -/
theorem Tab.set {H H' : Hp} {d r : Addr} {rs : List Addr} {f : Nat → List V} {k : Nat} {xs : List V} (T : Tab H d rs f) (hk : rs[k]? = some r) (s : But r H H') (h : H' r = some (.lst xs)) : Tab H' d rs (fun i => if i = k then xs else f i) := by
  have hr : r ∈ rs := List.mem_of_getElem? hk
  refine ⟨s _ _ (fun e => T.nin (by rw [e]; exact hr)) T.hd, fun i q hi => ?_, T.nd, T.nin⟩
  by_cases e : i = k
  · subst e
    rw [hk] at hi
    have := Option.some.inj hi
    subst this
    rw [if_pos rfl]
    exact h
  · rw [if_neg e]
    refine s _ _ (fun e2 => e ?_) (T.r i q hi)
    subst e2
    obtain ⟨h1, e1⟩ := List.getElem?_eq_some_iff.mp hi
    obtain ⟨h2, e2⟩ := List.getElem?_eq_some_iff.mp hk
    exact (List.getElem_inj T.nd).mp (e1.trans e2.symm)
theorem Tab.congr {H : Hp} {d : Addr} {rs : List Addr} {f g : Nat → List V} (T : Tab H d rs f) (h : ∀ k, k < rs.length → f k = g k) : Tab H d rs g :=
  ⟨T.hd, fun k r hk => by rw [← h k (List.getElem?_eq_some_iff.mp hk).1]; exact T.r k r hk, T.nd, T.nin⟩
theorem Tab.row {H : Hp} {d : Addr} {rs : List Addr} {f : Nat → List V} (T : Tab H d rs f) {k : Nat} (hk : k < rs.length) : ∃ r, rs[k]? = some r ∧ (rs.map V.ref)[k]? = some (V.ref r) ∧ H r = some (.lst (f k)) := by
  refine ⟨rs[k], List.getElem?_eq_getElem hk, by simp [hk], T.r k _ (List.getElem?_eq_getElem hk)⟩
theorem Tab.snoc {H H' : Hp} {d r : Addr} {rs : List Addr} {f : Nat → List V} {xs : List V} (T : Tab H d rs f) (hr : H' r = some (.lst xs)) (hd : H' d = some (.lst ((rs ++ [r]).map V.ref))) (h1 : r ∉ rs) (h2 : d ≠ r) (hk : ∀ q ∈ rs, ∀ o, H q = some o → H' q = some o) : Tab H' d (rs ++ [r]) (fun i => if i = rs.length then xs else f i) := by
  refine ⟨hd, fun i q hi => ?_, ?_, ?_⟩
  · by_cases e : i < rs.length
    · rw [List.getElem?_append_left e] at hi
      rw [if_neg (by omega)]
      exact hk q (List.mem_of_getElem? hi) _ (T.r i q hi)
    · rw [List.getElem?_append_right (by omega)] at hi
      have e2 : i = rs.length := by
        have := (List.getElem?_eq_some_iff.mp hi).1
        simp at this
        omega
      subst e2
      rw [Nat.sub_self] at hi
      have := Option.some.inj hi
      subst this
      rw [if_pos rfl]
      exact hr
  · rw [List.nodup_append]
    refine ⟨T.nd, by simp, fun a ha b hb => ?_⟩
    rw [List.mem_singleton] at hb
    subst hb
    exact fun e => h1 (by rw [← e]; exact ha)
  · rw [List.mem_append, List.mem_singleton]
    rintro (h | h)
    · exact T.nin h
    · exact h2 h
end Ly

set_option maxHeartbeats 4000000
namespace Ly
open PySem PySem.Spec PyProof.Rows L2 SX
theorem g_ET {R : Bool → Prop} (q : R true) : ∃ k, V.bl true = V.bl k ∧ R k := ⟨_, rfl, q⟩
theorem g_EF {R : Bool → Prop} (q : R false) : ∃ k, V.bl false = V.bl k ∧ R k := ⟨_, rfl, q⟩
theorem g_EnT {R : Bool → Prop} (q : R false) : ∃ k, V.bl (!true) = V.bl k ∧ R k := ⟨_, rfl, q⟩
theorem g_EnF {R : Bool → Prop} (q : R true) : ∃ k, V.bl (!false) = V.bl k ∧ R k := ⟨_, rfl, q⟩
/-- the scope of a statement's comprehension -/
def lcScS : Stmt → Scope
  | .Assign _ (.ListComp _ _ sc _) _ => sc
  | .Return (some (.ListComp _ _ sc _)) _ => sc
  | _ => default
/-- as it is met within a function of the scope sc -/
def rlSc (scope sc : Scope) : Scope := relabel scope { scope := sc, locals := 0, globals := 0, cells := [], qual := "", func := none, code := .none, frame := none, builtins := 0 }
/-! ### list + list, where one may be the script -/
section
variable {X : Cx}
def rCatQ (K : PySem.W.Frag) : R2 := fun x y H Q => ∃ l b xs zs, x = .ref l ∧ y = .ref b ∧ SqL K H l xs ∧ SqL K H b zs ∧ xs.length + zs.length ≤ 100000 ∧ ∀ p H1, H p = none → Same H H1 → H1 p = some (.lst (xs ++ zs)) → Q (.ref p) H1
theorem op_catQ : OpR X (binaryOp .Add) (rCatQ X.K) := by
  intro pins s σ H x y v u Q I rx ry h
  obtain ⟨l, b, xs, zs, rfl, rfl, hH, hB, hz, q⟩ := h
  cases rx
  cases ry
  obtain ⟨its, r, hl, _⟩ := I.list hH
  obtain ⟨its2, r2, hl2, _⟩ := I.list hB
  have e1 := r.length
  have e2 := r2.length
  obtain ⟨⟨cls, dd, data, sl⟩, ho, hc, n, hd⟩ := id hl.isList
  obtain ⟨⟨cls2, dd2, data2, sl2⟩, ho2, hc2, n2, hd2⟩ := id hl2.isList
  simp only at hc hd hc2 hd2
  subst hc hd hc2 hd2
  have e : its.toArray ++ its2.toArray = (its ++ its2).toArray := by simp
  have hs : its.length + its2.length ≤ sizeLine := by
    rw [← e1, ← e2]
    exact Nat.le_trans hz (by decide)
  refine concat_meets ⟨_, ho, rfl⟩ ⟨_, ho2, rfl⟩ noFill_list_add seq_list_add PySem.F.slot_list_add PySem.F.entry_list_add (PySem.F.args_list_add_2 _ _) (list_addW l b its.toArray its2.toArray n n2 dd dd2 sl sl2 (by simpa using hs)) ⟨ho, ho2, ?_⟩
  rw [e]
  exact ⟨.ref _, _, I.lnew (t' := s.toks) (r.append r2) (by rw [List.length_append, e1, e2]; exact hs), rfl, q _ _ I.fresh (Same.new I.fresh) upd_same⟩
theorem g_catQ {K : PySem.W.Frag} {H : Hp} {Q : VK} {l b : Addr} {xs zs : List V} (h1 : SqL K H l xs) (h2 : SqL K H b zs) (hl : xs.length + zs.length ≤ 100000) (q : ∀ p H1, H p = none → Same H H1 → H1 p = some (.lst (xs ++ zs)) → Q (.ref p) H1) : rCatQ K (.ref l) (.ref b) H Q := ⟨l, b, xs, zs, rfl, rfl, h1, h2, hl, q⟩
end
section
variable {K : PySem.W.Frag} {σ : L2.St} {H : Hp} {g : TG} {tb : TS} {D : Ends} {a b : Addr} {xs ys : List V}
/-- for x, y in zip(xs, ys), two lists of one length, by how many are gone through -/
theorem for_zip (Pv : Nat → L2.St → Hp → Prop) (hl : xs.length = ys.length) (h0 : Pv 0 σ H) (hq : ∀ i σ H, i ≤ xs.length → Pv i σ H → SqL K H a xs ∧ SqL K H b ys)
    (hs : ∀ i x y σ H t H1, xs[i]? = some x → ys[i]? = some y → Pv i σ H → H t = none → Same H H1 → H1 t = some (.tup [x, y]) → g (.ref t) σ H1 fun σ2 H2 => tb { D with nx := Pv (i + 1), ct := Pv (i + 1), bk := D.nx } σ2 H2) (hd : ∀ σ H, Pv xs.length σ H → D.nx σ H) : ForR (Itz K a b) g tb D σ H := by
  refine for_it (walk_zip (xs := xs) (ys := ys) (n := xs.length) (by omega)) (fun i σ H => Pv i σ H) h0 (fun i σ H hi p => hq i σ H hi p) (fun i v σ H H' hi p y => ?_) (fun σ H p => hd σ H p)
  obtain ⟨t, x1, x2, rfl, nt, rfl, e1, e2⟩ := y
  exact hs i x1 x2 σ H t _ e1 e2 p nt (Same.new nt) upd_same
end
end Ly

namespace Ly
/-! ### least numbers with how often they are met -/
/-- a number of deeds and in how many ways; none: in no way -/
abbrev MC := Option (Nat × Nat)
def mAdd : MC → MC → MC
  | none, y => y
  | some p, none => some p
  | some p, some q => if p.1 < q.1 then some p else if q.1 < p.1 then some q else some (p.1, p.2 + q.2)
def mMul : MC → MC → MC
  | some p, some q => some (p.1 + q.1, p.2 * q.2)
  | _, _ => none
def mOne : MC := some (0, 1)
theorem mAdd_none (x : MC) : mAdd x none = x := by cases x <;> rfl
theorem none_mAdd (x : MC) : mAdd none x = x := rfl
theorem mAdd_comm (x y : MC) : mAdd x y = mAdd y x := by
  cases x with
  | none => rw [mAdd_none]; rfl
  | some p =>
    cases y with
    | none => rfl
    | some q =>
      unfold mAdd
      dsimp only
      by_cases h1 : p.1 < q.1
      · rw [if_pos h1, if_neg (by omega), if_pos h1]
      · rw [if_neg h1]
        by_cases h2 : q.1 < p.1
        · rw [if_pos h2, if_pos h2]
        · rw [if_neg h2, if_neg h2, if_neg h1, show p.1 = q.1 by omega, Nat.add_comm]
theorem mAdd_assoc (x y z : MC) : mAdd (mAdd x y) z = mAdd x (mAdd y z) := by
  cases x with
  | none => rfl
  | some p =>
    cases y with
    | none => rfl
    | some q =>
      cases z with
      | none => rw [mAdd_none, mAdd_none]
      | some r =>
        obtain ⟨a, m⟩ := p
        obtain ⟨b, n⟩ := q
        obtain ⟨c, k⟩ := r
        unfold mAdd
        dsimp only
        by_cases h1 : a < b <;> by_cases h2 : b < a <;> by_cases h3 : b < c <;> by_cases h4 : c < b <;> by_cases h5 : a < c <;> by_cases h6 : c < a <;>
          first | (exfalso; omega) | (simp only [h1, h2, h3, h4, h5, h6, if_true, if_false]; try (first | rfl | (rw [Nat.add_assoc]) | (congr 1 <;> omega)))
theorem mMul_comm (x y : MC) : mMul x y = mMul y x := by
  cases x with
  | none => cases y <;> rfl
  | some p =>
    cases y with
    | none => rfl
    | some q =>
      unfold mMul
      dsimp only
      rw [Nat.add_comm, Nat.mul_comm]
theorem mMul_none (x : MC) : mMul x none = none := by cases x <;> rfl
theorem mMul_assoc (x y z : MC) : mMul (mMul x y) z = mMul x (mMul y z) := by
  cases x with
  | none => rfl
  | some p =>
    cases y with
    | none => rfl
    | some q =>
      cases z with
      | none => rfl
      | some r =>
        unfold mMul
        dsimp only
        rw [Nat.add_assoc, Nat.mul_assoc]
theorem mOne_mul (x : MC) : mMul mOne x = x := by
  cases x with
  | none => rfl
  | some p =>
    unfold mMul mOne
    dsimp only
    rw [Nat.zero_add, Nat.one_mul]
theorem mMul_one (x : MC) : mMul x mOne = x := by rw [mMul_comm, mOne_mul]
theorem mMul_add (x y z : MC) : mMul x (mAdd y z) = mAdd (mMul x y) (mMul x z) := by
  cases x with
  | none => rfl
  | some p =>
    cases y with
    | none => rfl
    | some q =>
      cases z with
      | none => rw [mAdd_none, mMul_none, mAdd_none]
      | some r =>
        obtain ⟨a, m⟩ := p
        obtain ⟨b, n⟩ := q
        obtain ⟨c, k⟩ := r
        by_cases h1 : b < c
        · have e1 : mAdd (some (b, n)) (some (c, k)) = some (b, n) := by unfold mAdd; exact if_pos h1
          have e2 : mAdd (mMul (some (a, m)) (some (b, n))) (mMul (some (a, m)) (some (c, k))) = some (a + b, m * n) := by unfold mMul mAdd; exact if_pos (by show a + b < a + c; omega)
          rw [e1, e2]
          rfl
        · by_cases h2 : c < b
          · have e1 : mAdd (some (b, n)) (some (c, k)) = some (c, k) := by unfold mAdd; exact (if_neg h1).trans (if_pos h2)
            have e2 : mAdd (mMul (some (a, m)) (some (b, n))) (mMul (some (a, m)) (some (c, k))) = some (a + c, m * k) := by unfold mMul mAdd; exact (if_neg (by show ¬ a + b < a + c; omega)).trans (if_pos (by show a + c < a + b; omega))
            rw [e1, e2]
            rfl
          · have e1 : mAdd (some (b, n)) (some (c, k)) = some (b, n + k) := by unfold mAdd; exact (if_neg h1).trans (if_neg h2)
            have e2 : mAdd (mMul (some (a, m)) (some (b, n))) (mMul (some (a, m)) (some (c, k))) = some (a + b, m * n + m * k) := by unfold mMul mAdd; exact (if_neg (by show ¬ a + b < a + c; omega)).trans (if_neg (by show ¬ a + c < a + b; omega))
            rw [e1, e2, ← Nat.mul_add]
            rfl
theorem mAdd_mul (x y z : MC) : mMul (mAdd x y) z = mAdd (mMul x z) (mMul y z) := by
  rw [mMul_comm, mMul_add, mMul_comm z x, mMul_comm z y]
/-! sums -/
def sm (f : Nat → MC) : Nat → MC
  | 0 => none
  | n + 1 => mAdd (sm f n) (f n)
theorem sm_congr {f g : Nat → MC} : ∀ {n : Nat}, (∀ k, k < n → f k = g k) → sm f n = sm g n
  | 0, _ => rfl
  | n + 1, h => by
    rw [sm, sm, sm_congr (fun k hk => h k (by omega)), h n (by omega)]
theorem sm_add (f g : Nat → MC) : ∀ n : Nat, sm (fun k => mAdd (f k) (g k)) n = mAdd (sm f n) (sm g n)
  | 0 => rfl
  | n + 1 => by
    rw [sm, sm, sm, sm_add f g n, mAdd_assoc, mAdd_assoc, ← mAdd_assoc (sm g n), mAdd_comm (sm g n) (f n), mAdd_assoc (f n)]
theorem sm_mul (x : MC) (f : Nat → MC) : ∀ n : Nat, mMul x (sm f n) = sm (fun k => mMul x (f k)) n
  | 0 => by rw [sm, sm, mMul_none]
  | n + 1 => by rw [sm, sm, mMul_add, sm_mul x f n]
theorem sm_mulR (x : MC) (f : Nat → MC) (n : Nat) : mMul (sm f n) x = sm (fun k => mMul (f k) x) n := by
  rw [mMul_comm, sm_mul]
  exact sm_congr fun k _ => mMul_comm _ _
theorem sm_head (f : Nat → MC) : ∀ n : Nat, sm f (n + 1) = mAdd (f 0) (sm (fun k => f (k + 1)) n)
  | 0 => by rw [sm, sm, sm, none_mAdd, mAdd_none]
  | n + 1 => by rw [sm, sm_head f n, sm, mAdd_assoc]
theorem sm_none : ∀ n : Nat, sm (fun _ => none) n = none
  | 0 => rfl
  | n + 1 => by rw [sm, sm_none n]; rfl
theorem sm_tri (f : Nat → Nat → MC) : ∀ n : Nat, sm (fun a => sm (fun b => f a (a + b)) (n - a)) n = sm (fun c => sm (fun a => f a c) (c + 1)) n
  | 0 => rfl
  | n + 1 => by
    have h1 : sm (fun a => sm (fun b => f a (a + b)) (n + 1 - a)) (n + 1) = mAdd (sm (fun a => sm (fun b => f a (a + b)) (n - a)) n) (sm (fun a => f a n) (n + 1)) := by
      have e : sm (fun a => sm (fun b => f a (a + b)) (n + 1 - a)) (n + 1) = sm (fun a => mAdd (sm (fun b => f a (a + b)) (n - a)) (f a n)) (n + 1) := by
        refine sm_congr fun a ha => ?_
        rw [show n + 1 - a = (n - a) + 1 by omega, sm, show a + (n - a) = n by omega]
      rw [e, sm_add]
      congr 1
      rw [sm, show n - n = 0 by omega, sm, mAdd_none]
    rw [h1, sm_tri f n]
    rfl
/-! ### tilings: by the first item, by the last one -/
theorem first_last {n0 : Nat} {F G : Nat → Nat → MC} (h0 : ∀ i, F i i = mOne) (h1 : ∀ i n, i + n + 1 ≤ n0 → F i (i + n + 1) = sm (fun k => mMul (G i (i + k + 1)) (F (i + k + 1) (i + n + 1))) (n + 1)) :
    ∀ n i, i + n + 1 ≤ n0 → F i (i + n + 1) = sm (fun k => mMul (F i (i + k)) (G (i + k) (i + n + 1))) (n + 1) := by
  intro n
  induction n using Nat.strongRecOn with
  | ind n ih =>
    intro i hi
    rw [h1 i n hi, sm, h0, mMul_one, sm_head, show i + 0 = i from rfl, h0, mOne_mul, mAdd_comm]
    congr 1
    have e1 : sm (fun k => mMul (G i (i + k + 1)) (F (i + k + 1) (i + n + 1))) n = sm (fun k => sm (fun b => mMul (G i (i + k + 1)) (mMul (F (i + k + 1) (i + (k + b) + 1)) (G (i + (k + b) + 1) (i + n + 1)))) (n - k)) n := by
      refine sm_congr fun k hk => ?_
      have e := ih (n - k - 1) (by omega) (i + k + 1) (by omega)
      rw [show i + k + 1 + (n - k - 1) + 1 = i + n + 1 by omega, show n - k - 1 + 1 = n - k by omega] at e
      rw [e, sm_mul]
      refine sm_congr fun b hb => ?_
      rw [show i + k + 1 + b = i + (k + b) + 1 by omega]
    rw [e1, sm_tri (fun k c => mMul (G i (i + k + 1)) (mMul (F (i + k + 1) (i + c + 1)) (G (i + c + 1) (i + n + 1)))) n]
    refine sm_congr fun c hc => ?_
    have e2 := h1 i c (by omega)
    rw [show i + (c + 1) = i + c + 1 by omega, e2, sm_mulR]
    refine sm_congr fun k hk => ?_
    rw [mMul_assoc]
end Ly

set_option maxHeartbeats 4000000
namespace Ly
open PySem PySem.Spec PyProof.Rows L2 SX
/-! ### classes: their methods, their making -/
def MetAt (K : PySem.W.Frag) (c m q : Str) (st : Stmt) (ps : List Str) : Prop := ∃ fd : FuncData, FunD K m q (defArgs st) (defBody st) (defScope st) [] [] (He.ma K (He.ga K c) m) fd ∧ Cls K (He.ga K c) ∧ Meth K (He.ga K c) m (He.ma K (He.ga K c) m) ∧ Binds K fd ps []
def MakAt (K : PySem.W.Frag) (mg : Str → Option Value) (c q : Str) (st : Stmt) (ps : List Str) : Prop := ∃ fd : FuncData, FunD K "__init__" q (defArgs st) (defBody st) (defScope st) [] [] (He.ma K (He.ga K c) "__init__") fd ∧ Mk K (He.ga K c) (He.ma K (He.ga K c) "__init__") ∧ mg c = some (.ref (He.ga K c)) ∧ Binds K fd ps []
section
variable {P : Program} {w : World} {K : PySem.W.Frag} {mg : Str → Option Value} {base : Heap}
theorem fnDq {x q : Str} {st : Stmt} {f : Addr} {fd : FuncData} {N ps : List Str} {k : Nat} {sp : Sp} (F : FunD K x q (defArgs st) (defBody st) (defScope st) [] [] f fd) (S : FnScope N ps (defScope st)) (len : ∀ vs H Q E, sp vs H Q E → vs.length = ps.length)
    (hbody : ∀ (cdv : Value) (A : Around) (outer : List Env) (s : Shared) (H : Hp) (vs : List V) (Q : VK) (E : XK), Room k (A.deeper (envOfC q (defScope st) s.heap.objs.size f cdv)) → sp vs H Q E →
      ∃ t, PSs (cxOf C8.CX0 P w K mg base N q (defScope st) f cdv A outer s H E).nox (defBody st) t ∧ t { nx := fun _ H' => Q .non H', rt := Q } (start N vs) H) : FnOk P w K mg base C8.CX0 (k + 1) f fd ps sp := by
  refine F.ok S len fun cdv A outer s H vs Q E hr hsp => ?_
  obtain ⟨t, h, q⟩ := hbody cdv A outer s H vs Q E hr hsp
  exact ⟨t, h.nox, q⟩
theorem metD {c m q : Str} {st : Stmt} {N ps : List Str} {k : Nat} {sp : Sp} (D : MetAt K c m q st ps) (S : FnScope N ps (defScope st)) (len : ∀ vs H Q E, sp vs H Q E → vs.length = ps.length)
    (hbody : ∀ (f : Addr) (cdv : Value) (A : Around) (outer : List Env) (s : Shared) (H : Hp) (vs : List V) (Q : VK) (E : XK), Room k (A.deeper (envOfC q (defScope st) s.heap.objs.size f cdv)) → sp vs H Q E →
      ∃ t, PSs (cxOf C8.CX0 P w K mg base N q (defScope st) f cdv A outer s H E).nox (defBody st) t ∧ t { nx := fun _ H' => Q .non H', rt := Q } (start N vs) H) : C8.Met P w K mg base (k + 1) (He.ga K c) m sp [] := by
  obtain ⟨fd, F, cl, me, b⟩ := D
  exact ⟨_, fd, ps, [], cl, me, fnDq F S len (hbody _), b, .nil⟩
theorem makD {c q : Str} {st : Stmt} {N ps : List Str} {k : Nat} {sp : Sp} (D : MakAt K mg c q st ps) (S : FnScope N ps (defScope st)) (len : ∀ vs H Q E, sp vs H Q E → vs.length = ps.length)
    (hbody : ∀ (f : Addr) (cdv : Value) (A : Around) (outer : List Env) (s : Shared) (H : Hp) (vs : List V) (Q : VK) (E : XK), Room k (A.deeper (envOfC q (defScope st) s.heap.objs.size f cdv)) → sp vs H Q E →
      ∃ t, PSs (cxOf C8.CX0 P w K mg base N q (defScope st) f cdv A outer s H E).nox (defBody st) t ∧ t { nx := fun _ H' => Q .non H', rt := Q } (start N vs) H) : C8.Mak P w K mg base (k + 1) c (He.ga K c) sp [] := by
  obtain ⟨fd, F, mk, hm, b⟩ := D
  exact ⟨_, fd, ps, [], mk, fnDq F S len (hbody _), hm, b, .nil⟩
end
def rMetO (C : Addr) (m : Str) (x : V) (H : Hp) (A : Prop) : Prop := (∃ a dx fs, x = .ref a ∧ H a = some (.ins C dx fs) ∧ fs.lookup m = none) ∧ A
def tMet (C : Addr) (m : Str) (sp : Sp) (ta : TE) (t : TA) : TE := fun σ H Q => ta σ H fun x H1 => rMetO C m x H1 (t σ H1 fun vs H2 => sp (x :: vs) H2 Q C8.E0)
theorem tMet_eq {C : Addr} {m : Str} {sp : Sp} {ta : TE} {t : TA} : tMeth C m sp [] C8.E0 ta t = tMet C m sp ta t := by
  funext σ H Q
  show (ta σ H fun x H1 => ∃ a dx fs, x = .ref a ∧ H1 a = some (.ins C dx fs) ∧ fs.lookup m = none ∧ t σ H1 fun vs H2 => sp (x :: (vs ++ [])) H2 Q C8.E0) = ta σ H _
  congr 1
  funext x H1
  simp only [List.append_nil]
  refine propext ⟨fun ⟨a, dx, fs, h1, h2, h3, h4⟩ => ⟨⟨a, dx, fs, h1, h2, h3⟩, h4⟩, fun ⟨⟨a, dx, fs, h1, h2, h3⟩, h4⟩ => ⟨a, dx, fs, h1, h2, h3, h4⟩⟩
def rMak (C : Addr) (sp : Sp) (vs : List V) (H : Hp) (Q : VK) : Prop := ∀ x dx, H x = none → H dx = none → dx ≠ x → sp (.ref x :: vs) (upd (upd H dx (.own x)) x (.ins C dx [])) (fun v H2 => v = .non ∧ Q (.ref x) H2) C8.E0
def tMak (C : Addr) (sp : Sp) (t : TA) : TE := fun σ H Q => t σ H fun vs H1 => rMak C sp vs H1 Q
theorem tMak_eq {C : Addr} {sp : Sp} {t : TA} : tMake C sp [] C8.E0 t = tMak C sp t := by
  funext σ H Q
  show (t σ H fun vs H1 => ∀ x dx, H1 x = none → H1 dx = none → dx ≠ x → sp (.ref x :: (vs ++ [])) _ _ C8.E0) = t σ H _
  simp only [List.append_nil]
  rfl
section
variable {X : Cx} {k j : Nat} {C : Addr} {x m : Str} {sp : Sp} {p pos apos : Pos} {e o : Expr} {es : List Expr} {ta : TE} {t : TA}
theorem pe_met {pl : Sem Bool} (c : C8.Met X.prog X.w X.K X.mg X.base k C m sp []) (hr : Room j X.A) (hk : k ≤ j) (he : PE X o ta) (ha : PA X (e :: es) t)
    (hst : starEach (e :: es) X.env = (false, eval e X.env) :: starEach es X.env := by rfl) (hpl : (backTo pos (starEach es X.env)).any (·.1) = false := by rfl)
    (ht : eval (.Call (.Attribute o m apos) (e :: es) [] pos) X.env = (do
      let ov ← eval o X.env
      standAt apos.atName
      let (f, first) ← holding [ov] (getMethod ov m pl)
      callWith pos f first (backTo pos (starEach (e :: es) X.env)) (backToKw pos (keywordEach [] X.env))) := by rfl) :
    PE X (.Call (.Attribute o m apos) (e :: es) [] pos) (tMet C m sp ta t) := by
  rw [← tMet_eq]
  exact C8.pe_mt (pl := pl) c hr hk he ha hst hpl ht
theorem pe_met0 {pl : Sem Bool} (c : C8.Met X.prog X.w X.K X.mg X.base k C m sp []) (hr : Room j X.A) (hk : k ≤ j) (he : PE X o ta)
    (ht : eval (.Call (.Attribute o m apos) [] [] pos) X.env = (do
      let ov ← eval o X.env
      standAt apos.atName
      let (f, first) ← holding [ov] (getMethod ov m pl)
      callWith pos f first (backTo pos (starEach [] X.env)) (backToKw pos (keywordEach [] X.env))) := by rfl) :
    PE X (.Call (.Attribute o m apos) [] [] pos) (tMet C m sp ta tNil) := by
  rw [← tMet_eq]
  exact C8.pe_mt0 (pl := pl) c hr hk he ht
theorem pe_mak (c : C8.Mak X.prog X.w X.K X.mg X.base k x C sp []) (hr : Room j X.A) (hk : k + 1 ≤ j) (hg : Gl X x) (ha : PA X (e :: es) t)
    (hdb : (x == ("__debug__" : Str)) = false := by decide) (he : starEach (e :: es) X.env = (false, eval e X.env) :: starEach es X.env := by rfl) (hpl : (backTo pos (starEach es X.env)).any (·.1) = false := by rfl) :
    PE X (.Call (.Name x p) (e :: es) [] pos) (tMak C sp t) := by
  rw [← tMak_eq]
  exact C8.pe_mk c hr hk hg ha hdb he hpl
end
section
variable {K : PySem.W.Frag} {σ : L2.St} {H : Hp} {Q : VK} {A : Prop} {a dx C : Addr} {fs : List (Str × V)} {m f : Str} {v y : V} {ta tv : TE} {D : Ends} {R : Hp → Prop} {sp : Sp} {vs : List V}
theorem g_met (h : H a = some (.ins C dx fs)) (hl : fs.lookup m = none) (q : A) : rMetO C m (.ref a) H A := ⟨⟨a, dx, fs, rfl, h, hl⟩, q⟩
theorem g_mak (q : ∀ x dx H1, H x = none → Same H H1 → H1 x = some (.ins C dx []) → sp (.ref x :: vs) H1 (fun v H2 => v = .non ∧ Q (.ref x) H2) C8.E0) : rMak C sp vs H Q := fun x dx nx ndx hne =>
  q x dx _ nx (fun b o e => by rw [upd_ne (ne_of_none e nx), upd_ne (ne_of_none e ndx)]; exact e) upd_same
def rFld (K : PySem.W.Frag) (f : Str) (x : V) (H : Hp) (Q : VK) : Prop := ∃ a C dx fs v, x = .ref a ∧ H a = some (.ins C dx fs) ∧ Cls K C ∧ NoAttr K C f ∧ fs.lookup f = some v ∧ Q v H
def rSFld (K : PySem.W.Frag) (f : Str) (y x : V) (H : Hp) (R : Hp → Prop) : Prop := ∃ a C dx fs, x = .ref a ∧ H a = some (.ins C dx fs) ∧ Cls K C ∧ NoAttr K C f ∧ fs.length < 1000 ∧ R (upd H a (.ins C dx (putF f y fs)))
theorem tFld_eq : tFld K ta f σ H Q = ta σ H fun x H1 => rFld K f x H1 Q := rfl
theorem sFld_eq : sFld K ta tv f D σ H = tv σ H fun y H1 => ta σ H1 fun x H2 => rSFld K f y x H2 (D.nx σ) := rfl
theorem g_fld (h : H a = some (.ins C dx fs)) (cl : Cls K C) (na : NoAttr K C f) (hl : fs.lookup f = some v) (q : Q v H) : rFld K f (.ref a) H Q := ⟨a, C, dx, fs, v, rfl, h, cl, na, hl, q⟩
theorem g_sfld (h : H a = some (.ins C dx fs)) (cl : Cls K C) (na : NoAttr K C f) (hl : fs.length < 1000) (q : ∀ H1, But a H H1 → H1 a = some (.ins C dx (putF f y fs)) → R H1) : rSFld K f y (.ref a) H R := ⟨a, C, dx, fs, rfl, h, cl, na, hl, q _ But.set upd_same⟩
end
end Ly

namespace Ly
open PySem
/-! ### the head's facts with one truth more -/
abbrev AlE : Type := He.AlD × Bool
def obsEG (n : Nat) (fa : List He.Fa) (fn : List He.DefD) (ex : PySem.W.Frag → Bool) (g : Addr → Option Obj) : AlE := (He.obsDG n fa fn g, ex (He.frG g (He.asD g n)))
def hookE (n : Nat) (fa : List He.Fa) (fn : List He.DefD) (ex : PySem.W.Frag → Bool) : PySem.W.Hook where
  α := AlE
  obs := fun s => obsEG n fa fn ex s.heap.get?
  val := fun _ => (He.valD fn, true)
  says := fun _ h => ∃ K : PySem.W.Frag, K.In h ∧ He.SaysD fa fn K ∧ ex K = true
  of := fun _ _ e => ⟨_, He.frG_in, congrArg Prod.fst e, congrArg Prod.snd e⟩
  keeps := fun _ _ _ ⟨K, hK, c, cx⟩ k => ⟨K, PySem.W.Frag.In.keeps hK k, c, cx⟩
theorem obsEG_eq {n : Nat} {fa : List He.Fa} {fn : List He.DefD} {ex : PySem.W.Frag → Bool} {g : Addr → Option Obj} {s : Shared} (h : ∀ a, g a = s.heap.get? a) : obsEG n fa fn ex g = (hookE n fa fn ex).obs s := by
  have e : g = s.heap.get? := funext h
  rw [e] <;> rfl
end Ly

set_option maxHeartbeats 4000000
namespace Ly
/-! ### least numbers with how many, by words -/
structure Wd where
  pt : Bool
  st : Bool
  tn : Bool
def few (c d : Nat) : Nat × Nat := if c ∈ OPN ∧ d ∈ CLO then (if knd c = knd d then (0, 1) else (1, 2)) else if c ∈ CLO ∧ d ∈ OPN then (2, 4) else (1, 1)
def w1 : MC := some (1, 1)
/-- a pair of the text's signs at i and m -/
def prM (l : List Nat) (W : Wd) (i m : Nat) : MC := match l[i]?, l[m]? with
  | some c, some d => if c ∈ BRK ∧ d ∈ BRK ∧ ((few c d).1 = 0 ∨ W.tn = true) then some (few c d) else none
  | _, _ => none
def opM (l : List Nat) (W : Wd) (i : Nat) : MC := match l[i]? with
  | some c => if c ∈ OPN ∧ W.pt = true then w1 else none
  | none => none
def clM (l : List Nat) (W : Wd) (m : Nat) : MC := match l[m]? with
  | some c => if c ∈ CLO ∧ W.pt = true then w1 else none
  | none => none
/-- the sign alone: a letter, or a struck bracket -/
def sgM (l : List Nat) (W : Wd) (i : Nat) : MC := match l[i]? with
  | some c => if c ∈ BRK then (if W.st = true then w1 else none) else mOne
  | none => none
def m3 (x y z : MC) : MC := mMul (mMul x y) z
theorem m3_none (y z : MC) : m3 none y z = none := rfl
/-- by the first sign -/
def stM (l : List Nat) (W : Wd) (F : Nat → Nat → MC) (i j : Nat) : MC :=
  mAdd (mMul (sgM l W i) (F (i + 1) j)) (mAdd (sm (fun t => m3 (prM l W i (i + 1 + t)) (F (i + 1) (i + 1 + t)) (F (i + 1 + t + 1) j)) (j - i - 1))
    (mAdd (sm (fun t => m3 (opM l W i) (F (i + 1) (i + 1 + t)) (F (i + 1 + t) j)) (j - i)) (sm (fun t => m3 (clM l W (i + t)) (F i (i + t)) (F (i + t + 1) j)) (j - i))))
theorem stM_congr {l l' : List Nat} {W : Wd} {F F' : Nat → Nat → MC} {i j : Nat} (hi : i < j) (hl : ∀ k, k < j → l[k]? = l'[k]?) (h : ∀ a b, a ≤ b → b ≤ j → b - a < j - i → i ≤ a → F a b = F' a b) : stM l W F i j = stM l' W F' i j := by
  unfold stM
  have e1 : sgM l W i = sgM l' W i := by unfold sgM; rw [hl i hi]
  have e2 : ∀ m, m < j → prM l W i m = prM l' W i m := fun m hm => by unfold prM; rw [hl i hi, hl m hm]
  have e3 : opM l W i = opM l' W i := by unfold opM; rw [hl i hi]
  have e4 : ∀ m, m < j → clM l W m = clM l' W m := fun m hm => by unfold clM; rw [hl m hm]
  rw [e1, h (i + 1) j (by omega) (by omega) (by omega) (by omega), e3]
  congr 1
  congr 1
  · refine sm_congr fun t ht => ?_
    rw [e2 _ (by omega), h (i + 1) (i + 1 + t) (by omega) (by omega) (by omega) (by omega), h (i + 1 + t + 1) j (by omega) (by omega) (by omega) (by omega)]
  · congr 1
    · refine sm_congr fun t ht => ?_
      rw [h (i + 1) (i + 1 + t) (by omega) (by omega) (by omega) (by omega), h (i + 1 + t) j (by omega) (by omega) (by omega) (by omega)]
    · refine sm_congr fun t ht => ?_
      rw [e4 _ (by omega), h i (i + t) (by omega) (by omega) (by omega) (by omega), h (i + t + 1) j (by omega) (by omega) (by omega) (by omega)]
def mcF (l : List Nat) (W : Wd) : Nat → Nat → Nat → MC
  | 0, _, _ => mOne
  | n + 1, i, j => if j ≤ i then mOne else stM l W (mcF l W n) i j
theorem mcF_eq (l l' : List Nat) (W : Wd) : ∀ (n m i j : Nat), j - i ≤ n → j - i ≤ m → (∀ k, k < j → l[k]? = l'[k]?) → mcF l W n i j = mcF l' W m i j
  | 0, 0, i, j, _, _, _ => rfl
  | 0, m + 1, i, j, h1, h2, _ => by rw [mcF, mcF, if_pos (by omega)]
  | n + 1, 0, i, j, h1, h2, _ => by rw [mcF, mcF, if_pos (by omega)]
  | n + 1, m + 1, i, j, h1, h2, hl => by
    rw [mcF, mcF]
    by_cases h : j ≤ i
    · rw [if_pos h, if_pos h]
    · rw [if_neg h, if_neg h]
      exact stM_congr (by omega) hl fun a b g1 g2 g3 g4 => mcF_eq l l' W n m a b (by omega) (by omega) fun k hk => hl k (by omega)
def mcN (l : List Nat) (W : Wd) (i j : Nat) : MC := mcF l W (j - i) i j
theorem mcN_self (l : List Nat) (W : Wd) (i : Nat) : mcN l W i i = mOne := by unfold mcN; rw [Nat.sub_self]; rfl
theorem mcN_step {l : List Nat} {W : Wd} {i j : Nat} (h : i < j) : mcN l W i j = stM l W (mcN l W) i j := by
  have e : mcN l W i j = mcF l W (j - i - 1 + 1) i j := mcF_eq l l W _ _ i j (Nat.le_refl _) (by omega) fun _ _ => rfl
  rw [e, mcF, if_neg (by omega)]
  exact stM_congr h (fun _ _ => rfl) fun a b g1 g2 g3 g4 => mcF_eq l l W _ _ a b (by omega) (Nat.le_refl _) fun _ _ => rfl
theorem mcN_text {l l' : List Nat} {W : Wd} {i j : Nat} (hl : ∀ k, k < j → l[k]? = l'[k]?) : mcN l W i j = mcN l' W i j := mcF_eq l l' W _ _ i j (Nat.le_refl _) (Nat.le_refl _) hl
/-! by the last sign -/
/-- all items from a place to another one -/
def itM (l : List Nat) (W : Wd) (F : Nat → Nat → MC) (i m : Nat) : MC :=
  mAdd (if m = i + 1 then sgM l W i else none) (mAdd (if i + 2 ≤ m then mMul (prM l W i (m - 1)) (F (i + 1) (m - 1)) else none) (mAdd (mMul (opM l W i) (F (i + 1) m)) (mMul (clM l W (m - 1)) (F i (m - 1)))))
theorem mc_first {l : List Nat} {W : Wd} (i n : Nat) : mcN l W i (i + n + 1) = sm (fun k => mMul (itM l W (mcN l W) i (i + k + 1)) (mcN l W (i + k + 1) (i + n + 1))) (n + 1) := by
  rw [mcN_step (by omega)]
  unfold stM itM
  have e0 : (fun k => mMul (mAdd (if i + k + 1 = i + 1 then sgM l W i else none) (mAdd (if i + 2 ≤ i + k + 1 then mMul (prM l W i (i + k + 1 - 1)) (mcN l W (i + 1) (i + k + 1 - 1)) else none) (mAdd (mMul (opM l W i) (mcN l W (i + 1) (i + k + 1))) (mMul (clM l W (i + k + 1 - 1)) (mcN l W i (i + k + 1 - 1)))))) (mcN l W (i + k + 1) (i + n + 1)))
      = fun k => mAdd (mMul (if i + k + 1 = i + 1 then sgM l W i else none) (mcN l W (i + k + 1) (i + n + 1))) (mAdd (mMul (if i + 2 ≤ i + k + 1 then mMul (prM l W i (i + k + 1 - 1)) (mcN l W (i + 1) (i + k + 1 - 1)) else none) (mcN l W (i + k + 1) (i + n + 1))) (mAdd (m3 (opM l W i) (mcN l W (i + 1) (i + k + 1)) (mcN l W (i + k + 1) (i + n + 1))) (m3 (clM l W (i + k)) (mcN l W i (i + k)) (mcN l W (i + k + 1) (i + n + 1))))) := by
    funext k
    rw [mAdd_mul, mAdd_mul, mAdd_mul]
    rfl
  rw [e0, sm_add, sm_add, sm_add]
  congr 1
  · rw [sm_head, if_pos rfl]
    have : sm (fun k => mMul (if i + (k + 1) + 1 = i + 1 then sgM l W i else none) (mcN l W (i + (k + 1) + 1) (i + n + 1))) n = none := by
      refine (sm_congr (g := fun _ => none) fun k hk => ?_).trans (sm_none n)
      rw [if_neg (by omega)]
      rfl
    rw [this, mAdd_none]
  · congr 1
    · rw [sm_head, if_neg (by omega), show mMul none (mcN l W (i + 0 + 1) (i + n + 1)) = none from rfl, none_mAdd, show i + n + 1 - i - 1 = n by omega]
      refine sm_congr fun k hk => ?_
      rw [if_pos (by omega), show i + (k + 1) + 1 - 1 = i + 1 + k by omega, show i + (k + 1) + 1 = i + 1 + k + 1 by omega]
      rfl
    · congr 1
      · rw [show i + n + 1 - i = n + 1 by omega]
        refine sm_congr fun k hk => ?_
        rw [show i + 1 + k = i + k + 1 by omega]
      · rw [show i + n + 1 - i = n + 1 by omega]
theorem mc_lastI {l : List Nat} {W : Wd} (i n : Nat) : mcN l W i (i + n + 1) = sm (fun k => mMul (mcN l W i (i + k)) (itM l W (mcN l W) (i + k) (i + n + 1))) (n + 1) :=
  first_last (n0 := i + n + 1) (F := mcN l W) (G := itM l W (mcN l W)) (mcN_self l W) (fun i n _ => mc_first i n) n i (Nat.le_refl _)
/-- by the last sign, at j -/
theorem mc_last {l : List Nat} {W : Wd} {i j : Nat} (h : i ≤ j) : mcN l W i (j + 1) = mAdd (mMul (sgM l W j) (mcN l W i j)) (mAdd (sm (fun t => m3 (prM l W (i + t) j) (mcN l W i (i + t)) (mcN l W (i + t + 1) j)) (j - i))
    (mAdd (sm (fun t => m3 (opM l W (i + t)) (mcN l W i (i + t)) (mcN l W (i + t + 1) (j + 1))) (j - i + 1)) (sm (fun t => m3 (clM l W j) (mcN l W i (i + t)) (mcN l W (i + t) j)) (j - i + 1)))) := by
  have e := mc_lastI (l := l) (W := W) i (j - i)
  rw [show i + (j - i) + 1 = j + 1 by omega] at e
  rw [e]
  unfold itM
  have e0 : (fun k => mMul (mcN l W i (i + k)) (mAdd (if j + 1 = i + k + 1 then sgM l W (i + k) else none) (mAdd (if i + k + 2 ≤ j + 1 then mMul (prM l W (i + k) (j + 1 - 1)) (mcN l W (i + k + 1) (j + 1 - 1)) else none) (mAdd (mMul (opM l W (i + k)) (mcN l W (i + k + 1) (j + 1))) (mMul (clM l W (j + 1 - 1)) (mcN l W (i + k) (j + 1 - 1)))))))
      = fun k => mAdd (mMul (mcN l W i (i + k)) (if j + 1 = i + k + 1 then sgM l W (i + k) else none)) (mAdd (mMul (mcN l W i (i + k)) (if i + k + 2 ≤ j + 1 then mMul (prM l W (i + k) j) (mcN l W (i + k + 1) j) else none)) (mAdd (m3 (opM l W (i + k)) (mcN l W i (i + k)) (mcN l W (i + k + 1) (j + 1))) (m3 (clM l W j) (mcN l W i (i + k)) (mcN l W (i + k) j)))) := by
    funext k
    rw [mMul_add, mMul_add, mMul_add, Nat.add_sub_cancel]
    unfold m3
    rw [← mMul_assoc (mcN l W i (i + k)) (opM l W (i + k)), mMul_comm (mcN l W i (i + k)) (opM l W (i + k)), ← mMul_assoc (mcN l W i (i + k)) (clM l W j), mMul_comm (mcN l W i (i + k)) (clM l W j)]
  rw [e0, sm_add, sm_add, sm_add]
  congr 1
  · rw [sm, if_pos (by omega), show i + (j - i) = j by omega, mMul_comm]
    have : sm (fun k => mMul (mcN l W i (i + k)) (if j + 1 = i + k + 1 then sgM l W (i + k) else none)) (j - i) = none := by
      refine (sm_congr (g := fun _ => none) fun k hk => ?_).trans (sm_none (j - i))
      rw [if_neg (by omega), mMul_none]
    rw [this, none_mAdd]
  · congr 1
    rw [sm, if_neg (by omega), mMul_none, mAdd_none]
    refine sm_congr fun k hk => ?_
    rw [if_pos (by omega)]
    unfold m3
    rw [← mMul_assoc, mMul_comm (mcN l W i (i + k)) (prM l W (i + k) j)]
/-! there is always one, where striking is a word -/
theorem mAdd_some {x y : MC} (h : x ≠ none ∨ y ≠ none) : mAdd x y ≠ none := by
  cases x with
  | none => rcases h with h | h
            · exact absurd rfl h
            · exact h
  | some p =>
    cases y with
    | none => exact fun e => nomatch e
    | some q =>
      unfold mAdd
      dsimp only
      split
      · exact fun e => nomatch e
      · split <;> exact fun e => nomatch e
theorem mMul_some {x y : MC} (h1 : x ≠ none) (h2 : y ≠ none) : mMul x y ≠ none := by
  cases x with
  | none => exact absurd rfl h1
  | some p =>
    cases y with
    | none => exact absurd rfl h2
    | some q => exact fun e => nomatch e
theorem mcN_some {l : List Nat} {W : Wd} (hs : W.st = true) : ∀ (n i : Nat), i + n ≤ l.length → mcN l W i (i + n) ≠ none
  | 0, i, _ => by rw [Nat.add_zero, mcN_self]; exact fun e => nomatch e
  | n + 1, i, h => by
    rw [mcN_step (by omega)]
    refine mAdd_some (.inl (mMul_some ?_ ?_))
    · have e : l[i]? = some l[i] := List.getElem?_eq_getElem (by omega)
      unfold sgM
      rw [e]
      dsimp only
      by_cases hb : l[i] ∈ BRK
      · rw [if_pos hb, if_pos hs]; exact fun e => nomatch e
      · rw [if_neg hb]; exact fun e => nomatch e
    · have := mcN_some (l := l) hs n (i + 1) (by omega)
      rw [show i + 1 + n = i + (n + 1) by omega] at this
      exact this
/-! sums of lists -/
def totL (xs : List (Nat × Nat)) : MC := xs.foldl (fun a x => mAdd a (some x)) none
theorem totL_snoc (xs : List (Nat × Nat)) (x : Nat × Nat) : totL (xs ++ [x]) = mAdd (totL xs) (some x) := by
  unfold totL
  rw [List.foldl_append]
  rfl
theorem totL_app : ∀ (ys xs : List (Nat × Nat)), totL (xs ++ ys) = mAdd (totL xs) (totL ys)
  | [], xs => by rw [List.append_nil]; exact (mAdd_none _).symm
  | y :: ys, xs => by
    have e1 := totL_app ys (xs ++ [y])
    have e2 := totL_app ys [y]
    rw [show xs ++ y :: ys = xs ++ [y] ++ ys by simp, e1, totL_snoc, mAdd_assoc, show y :: ys = [y] ++ ys from rfl, e2]
    rfl
theorem totL_opt (xs : List (Nat × Nat)) (y : MC) : totL (xs ++ y.toList) = mAdd (totL xs) y := by
  cases y with
  | none => rw [Option.toList_none, List.append_nil, mAdd_none]
  | some p => exact totL_snoc xs p
end Ly

set_option maxHeartbeats 4000000
namespace Ly
open PySem PySem.Spec PyProof.Rows L2 SX
/-! ### how great the counts can be -/
def cnt : MC → Nat
  | none => 0
  | some p => p.2
theorem cnt_add (x y : MC) : cnt (mAdd x y) ≤ cnt x + cnt y := by
  cases x with
  | none => exact Nat.le_add_left _ _
  | some p =>
    cases y with
    | none => exact Nat.le_add_right _ _
    | some q =>
      unfold mAdd
      dsimp only
      split
      · exact Nat.le_add_right _ _
      · split
        · exact Nat.le_add_left _ _
        · exact Nat.le_refl _
theorem cnt_mul (x y : MC) : cnt (mMul x y) = cnt x * cnt y := by
  cases x with
  | none => exact (Nat.zero_mul _).symm
  | some p =>
    cases y with
    | none => exact (Nat.mul_zero _).symm
    | some q => rfl
theorem cnt_sm {f : Nat → MC} {b : Nat} : ∀ n, (∀ k, k < n → cnt (f k) ≤ b) → cnt (sm f n) ≤ n * b
  | 0, _ => by rw [sm]; exact Nat.zero_le _
  | n + 1, h => by
    have h1 := cnt_sm n fun k hk => h k (by omega)
    have h2 := h n (by omega)
    have h3 := cnt_add (sm f n) (f n)
    rw [sm, Nat.succ_mul]
    omega
theorem cnt_few (c d : Nat) : (few c d).2 ≤ 4 := by
  unfold few
  split
  · split <;> decide
  · split <;> decide
theorem cnt_pr (l : List Nat) (W : Wd) (i m : Nat) : cnt (prM l W i m) ≤ 4 := by
  unfold prM
  split
  · split
    · exact cnt_few _ _
    · exact Nat.zero_le _
  · exact Nat.zero_le _
theorem cnt_op (l : List Nat) (W : Wd) (i : Nat) : cnt (opM l W i) ≤ 4 := by
  unfold opM
  split
  · split
    · show 1 ≤ 4; decide
    · exact Nat.zero_le _
  · exact Nat.zero_le _
theorem cnt_cl (l : List Nat) (W : Wd) (i : Nat) : cnt (clM l W i) ≤ 4 := by
  unfold clM
  split
  · split
    · show 1 ≤ 4; decide
    · exact Nat.zero_le _
  · exact Nat.zero_le _
theorem cnt_sg (l : List Nat) (W : Wd) (i : Nat) : cnt (sgM l W i) ≤ 4 := by
  unfold sgM
  split
  · split
    · split
      · show 1 ≤ 4; decide
      · exact Nat.zero_le _
    · show 1 ≤ 4; decide
  · exact Nat.zero_le _
theorem cnt_m3 {x y z : MC} {n a b : Nat} (hx : cnt x ≤ 4) (hy : cnt y ≤ 2 ^ a) (hz : cnt z ≤ 2 ^ b) (h : a + b ≤ n) : cnt (m3 x y z) ≤ 2 ^ (n + 2) := by
  unfold m3
  rw [cnt_mul, cnt_mul]
  refine Nat.le_trans (Nat.mul_le_mul (Nat.mul_le_mul hx hy) hz) ?_
  rw [show (4 : Nat) = 2 ^ 2 from rfl, ← Nat.pow_add, ← Nat.pow_add]
  exact Nat.pow_le_pow_right (by decide) (by omega)
theorem mcN_cnt {l : List Nat} {W : Wd} : ∀ (n i : Nat), n ≤ 1000 → cnt (mcN l W i (i + n)) ≤ 2 ^ (16 * n) := by
  intro n
  induction n using Nat.strongRecOn with
  | ind n ih =>
    intro i hn
    cases n with
    | zero => rw [Nat.add_zero, mcN_self]; show 1 ≤ 2 ^ 0; decide
    | succ n =>
      have ih' : ∀ a b, a ≤ b → b - a ≤ n → cnt (mcN l W a b) ≤ 2 ^ (16 * (b - a)) := fun a b h1 h2 => by
        have := ih (b - a) (by omega) a (by omega)
        rw [show a + (b - a) = b by omega] at this
        exact this
      rw [mcN_step (by omega)]
      unfold stM
      have k1 : cnt (mMul (sgM l W i) (mcN l W (i + 1) (i + (n + 1)))) ≤ 2 ^ (16 * n + 2) := by
        rw [cnt_mul]
        refine Nat.le_trans (Nat.mul_le_mul (cnt_sg l W i) (ih' _ _ (by omega) (by omega))) ?_
        rw [show (4 : Nat) = 2 ^ 2 from rfl, ← Nat.pow_add]
        exact Nat.pow_le_pow_right (by decide) (by omega)
      have k2 := cnt_sm (f := fun t => m3 (prM l W i (i + 1 + t)) (mcN l W (i + 1) (i + 1 + t)) (mcN l W (i + 1 + t + 1) (i + (n + 1)))) (b := 2 ^ (16 * n + 2)) (i + (n + 1) - i - 1) fun k hk => cnt_m3 (cnt_pr _ _ _ _) (ih' _ _ (by omega) (by omega)) (ih' _ _ (by omega) (by omega)) (by omega)
      have k3 := cnt_sm (f := fun t => m3 (opM l W i) (mcN l W (i + 1) (i + 1 + t)) (mcN l W (i + 1 + t) (i + (n + 1)))) (b := 2 ^ (16 * n + 2)) (i + (n + 1) - i) fun k hk => cnt_m3 (cnt_op _ _ _) (ih' _ _ (by omega) (by omega)) (ih' _ _ (by omega) (by omega)) (by omega)
      have k4 := cnt_sm (f := fun t => m3 (clM l W (i + t)) (mcN l W i (i + t)) (mcN l W (i + t + 1) (i + (n + 1)))) (b := 2 ^ (16 * n + 2)) (i + (n + 1) - i) fun k hk => cnt_m3 (cnt_cl _ _ _) (ih' _ _ (by omega) (by omega)) (ih' _ _ (by omega) (by omega)) (by omega)
      have a1 := cnt_add (mMul (sgM l W i) (mcN l W (i + 1) (i + (n + 1)))) (mAdd (sm (fun t => m3 (prM l W i (i + 1 + t)) (mcN l W (i + 1) (i + 1 + t)) (mcN l W (i + 1 + t + 1) (i + (n + 1)))) (i + (n + 1) - i - 1))
        (mAdd (sm (fun t => m3 (opM l W i) (mcN l W (i + 1) (i + 1 + t)) (mcN l W (i + 1 + t) (i + (n + 1)))) (i + (n + 1) - i)) (sm (fun t => m3 (clM l W (i + t)) (mcN l W i (i + t)) (mcN l W (i + t + 1) (i + (n + 1)))) (i + (n + 1) - i))))
      have a2 := cnt_add (sm (fun t => m3 (prM l W i (i + 1 + t)) (mcN l W (i + 1) (i + 1 + t)) (mcN l W (i + 1 + t + 1) (i + (n + 1)))) (i + (n + 1) - i - 1))
        (mAdd (sm (fun t => m3 (opM l W i) (mcN l W (i + 1) (i + 1 + t)) (mcN l W (i + 1 + t) (i + (n + 1)))) (i + (n + 1) - i)) (sm (fun t => m3 (clM l W (i + t)) (mcN l W i (i + t)) (mcN l W (i + t + 1) (i + (n + 1)))) (i + (n + 1) - i)))
      have a3 := cnt_add (sm (fun t => m3 (opM l W i) (mcN l W (i + 1) (i + 1 + t)) (mcN l W (i + 1 + t) (i + (n + 1)))) (i + (n + 1) - i)) (sm (fun t => m3 (clM l W (i + t)) (mcN l W i (i + t)) (mcN l W (i + t + 1) (i + (n + 1)))) (i + (n + 1) - i))
      have e : (2 : Nat) ^ (16 * (n + 1)) = 16384 * 2 ^ (16 * n + 2) := by
        rw [show (16384 : Nat) = 2 ^ 14 from rfl, ← Nat.pow_add]
        congr 1
        omega
      rw [e]
      generalize (2 : Nat) ^ (16 * n + 2) = B at k1 k2 k3 k4 ⊢
      have q2 : (i + (n + 1) - i - 1) * B ≤ 1000 * B := Nat.mul_le_mul_right _ (by omega)
      have q3 : (i + (n + 1) - i) * B ≤ 1000 * B := Nat.mul_le_mul_right _ (by omega)
      omega
theorem mcN_big {l : List Nat} {W : Wd} {i j : Nat} (h : i ≤ j) (h2 : j - i ≤ 1000) : cnt (mcN l W i j) < 2 ^ 16001 := by
  have := mcN_cnt (l := l) (W := W) (j - i) i h2
  rw [show i + (j - i) = j by omega] at this
  exact Nat.lt_of_le_of_lt this (Nat.pow_lt_pow_right (by decide) (by omega))
/-! ### values -/
def cV : MC → V
  | none => .non
  | some p => .int p.1
def nV : MC → V
  | none => .int 0
  | some p => .int p.2
theorem nV_cnt (x : MC) : nV x = .int (cnt x) := by cases x <;> rfl
def colV (g : MC → V) (F : Nat → Nat → MC) (j n : Nat) : List V := (List.range n).map fun i => g (F i j)
theorem colV_len (g : MC → V) (F : Nat → Nat → MC) (j n : Nat) : (colV g F j n).length = n := by unfold colV; rw [List.length_map, List.length_range]
theorem colV_at {g : MC → V} {F : Nat → Nat → MC} {j n i : Nat} (h : i < n) : (colV g F j n)[i]? = some (g (F i j)) := by
  unfold colV
  rw [List.getElem?_map, List.getElem?_range h]
  rfl
theorem colV_congr {g : MC → V} {F F' : Nat → Nat → MC} {j n : Nat} (h : ∀ i, i < n → F i j = F' i j) : colV g F j n = colV g F' j n := by
  unfold colV
  exact List.map_congr_left fun i hi => by rw [h i (List.mem_range.mp hi)]
/-! ### lists of pairs of whole numbers -/
def Prs (H : Hp) (a : Addr) (xs : List (Nat × Nat)) : Prop := ∃ rs : List Addr, H a = some (.lst (rs.map V.ref)) ∧ rs.length = xs.length ∧ ∀ (k : Nat) (r : Addr) (x : Nat × Nat), rs[k]? = some r → xs[k]? = some x → H r = some (.tup [.int x.1, .int x.2])
theorem Prs.same {H H' : Hp} {a : Addr} {xs : List (Nat × Nat)} (h : Prs H a xs) (s : Same H H') : Prs H' a xs := by
  obtain ⟨rs, h1, h2, h3⟩ := h
  exact ⟨rs, s _ _ h1, h2, fun k r x q1 q2 => s _ _ (h3 k r x q1 q2)⟩
theorem Prs.lst {H : Hp} {a : Addr} {xs : List (Nat × Nat)} (h : Prs H a xs) : ∃ ys, H a = some (.lst ys) ∧ ys.length = xs.length := by
  obtain ⟨rs, h1, h2, h3⟩ := h
  exact ⟨_, h1, by rw [List.length_map]; exact h2⟩
theorem Prs.but {H H' : Hp} {a p : Addr} {xs : List (Nat × Nat)} {ys : List V} (h : Prs H a xs) (s : But p H H') (hp : H p = some (.lst ys)) (hn : a ≠ p) : Prs H' a xs := by
  obtain ⟨rs, h1, h2, h3⟩ := h
  refine ⟨rs, s _ _ hn h1, h2, fun k r x q1 q2 => s _ _ (fun e => ?_) (h3 k r x q1 q2)⟩
  have := h3 k r x q1 q2
  rw [e, hp] at this
  cases this
theorem Prs.snoc {H H' : Hp} {a t : Addr} {xs : List (Nat × Nat)} {x : Nat × Nat} (h : Prs H a xs) (ht : H t = some (.tup [.int x.1, .int x.2])) (s : But a H H') (h2 : ∀ rs : List Addr, H a = some (.lst (rs.map V.ref)) → H' a = some (.lst (rs.map V.ref ++ [.ref t]))) : Prs H' a (xs ++ [x]) := by
  obtain ⟨rs, h1, hl, h3⟩ := h
  have ne : ∀ r ys, H r = some (.tup ys) → r ≠ a := fun r ys e q => by rw [q, h1] at e; cases e
  refine ⟨rs ++ [t], by rw [h2 rs h1, List.map_append]; rfl, by simp [hl], fun k r y q1 q2 => ?_⟩
  by_cases e : k < rs.length
  · rw [List.getElem?_append_left e] at q1
    rw [List.getElem?_append_left (by omega)] at q2
    have := h3 k r y q1 q2
    exact s _ _ (ne _ _ this) this
  · have hk : k = rs.length := by
      have := (List.getElem?_eq_some_iff.mp q1).1
      simp at this
      omega
    rw [List.getElem?_append_right (by omega), hk, Nat.sub_self] at q1
    rw [List.getElem?_append_right (by omega), hk, hl, Nat.sub_self] at q2
    have e1 : t = r := Option.some.inj q1
    have e2 : x = y := Option.some.inj q2
    subst e1 e2
    exact s _ _ (ne _ _ ht) ht
/-! ### tuples that stay -/
theorem SqT.same {K : PySem.W.Frag} {H H' : Hp} {a : Addr} {xs : List V} (s : Same H H') (h : SqT K H a xs) : SqT K H' a xs := by
  rcases h with (h | ⟨o, h⟩) | h
  · exact .inl (.inl (s _ _ h))
  · exact .inl (.inr ⟨o, s _ _ h⟩)
  · exact .inr h
theorem SqT.but {K : PySem.W.Frag} {H H' : Hp} {a p : Addr} {xs : List V} {u : HO} (s : But p H H') (h : SqT K H a xs) (hp : H p = some u) (hu : (∀ ys, u ≠ .tup ys) ∧ ∀ o ys, u ≠ .frz o (.tup ys)) : SqT K H' a xs := by
  rcases h with (h | ⟨o, h⟩) | h
  · exact .inl (.inl (s _ _ (fun e => by rw [e, hp] at h; exact hu.1 _ (Option.some.inj h)) h))
  · exact .inl (.inr ⟨o, s _ _ (fun e => by rw [e, hp] at h; exact hu.2 _ _ (Option.some.inj h)) h⟩)
  · exact .inr h
/-- the words: a tuple of texts -/
def WdIs (K : PySem.W.Frag) (H : Hp) (v : V) (W : Wd) : Prop := ∃ a xs, v = .ref a ∧ SqT K H a xs ∧ xs.all flatV = true ∧ inV (Tx [112, 117, 116]) xs = W.pt ∧ inV (Tx [115, 116, 114, 105, 107, 101]) xs = W.st ∧ inV (Tx [116, 117, 114, 110]) xs = W.tn
theorem WdIs.same {K : PySem.W.Frag} {H H' : Hp} {v : V} {W : Wd} (h : WdIs K H v W) (s : Same H H') : WdIs K H' v W := by
  obtain ⟨a, xs, h1, h2, h3⟩ := h
  exact ⟨a, xs, h1, SqT.same s h2, h3⟩
theorem WdIs.but {K : PySem.W.Frag} {H H' : Hp} {v : V} {W : Wd} {p : Addr} {ys : List V} (h : WdIs K H v W) (s : But p H H') (hp : H p = some (.lst ys)) : WdIs K H' v W := by
  obtain ⟨a, xs, h1, h2, h3⟩ := h
  exact ⟨a, xs, h1, SqT.but s h2 hp ⟨(fun _ e => nomatch e), (fun _ _ e => nomatch e)⟩, h3⟩
theorem WdIs.butI {K : PySem.W.Frag} {H H' : Hp} {v : V} {W : Wd} {p C dx : Addr} {fs : List (Str × V)} (h : WdIs K H v W) (s : But p H H') (hp : H p = some (.ins C dx fs)) : WdIs K H' v W := by
  obtain ⟨a, xs, h1, h2, h3⟩ := h
  exact ⟨a, xs, h1, SqT.but s h2 hp ⟨(fun _ e => nomatch e), (fun _ _ e => nomatch e)⟩, h3⟩
/-! ### the object -/
def wfl (l : List Nat) (wd : V) (cd kd : Addr) : List (Str × V) := [("signs", Tx l), ("words", wd), ("costs", .ref cd), ("counts", .ref kd)]
theorem wfl_signs (l : List Nat) (wd : V) (cd kd : Addr) : (wfl l wd cd kd).lookup ("signs" : Str) = some (Tx l) := rfl
theorem wfl_words (l : List Nat) (wd : V) (cd kd : Addr) : (wfl l wd cd kd).lookup ("words" : Str) = some wd := rfl
theorem wfl_costs (l : List Nat) (wd : V) (cd kd : Addr) : (wfl l wd cd kd).lookup ("costs" : Str) = some (.ref cd) := rfl
theorem wfl_counts (l : List Nat) (wd : V) (cd kd : Addr) : (wfl l wd cd kd).lookup ("counts" : Str) = some (.ref kd) := rfl
theorem wfl_put (l l' : List Nat) (wd : V) (cd kd : Addr) : putF "signs" (Tx l') (wfl l wd cd kd) = wfl l' wd cd kd := rfl
end Ly

set_option maxHeartbeats 4000000
namespace Ly
def alW : Wd := ⟨true, true, true⟩
/-! ### alike opening brackets: Catalan's numbers -/
def geM (k : Nat) (x : MC) : Prop := ∀ p, x = some p → k ≤ p.1
def cnk (k : Nat) : MC → Nat
  | none => 0
  | some p => if p.1 = k then p.2 else 0
theorem ge_none (k : Nat) : geM k none := fun _ e => nomatch e
theorem ge_add {k : Nat} {x y : MC} (hx : geM k x) (hy : geM k y) : geM k (mAdd x y) := by
  cases x with
  | none => exact hy
  | some p =>
    cases y with
    | none => exact hx
    | some q =>
      unfold mAdd
      dsimp only
      have h1 := hx p rfl
      have h2 := hy q rfl
      split
      · exact hx
      · split
        · exact hy
        · intro r hr
          cases hr
          exact h1
theorem ge_mul {a b k : Nat} {x y : MC} (hx : geM a x) (hy : geM b y) (h : k ≤ a + b) : geM k (mMul x y) := by
  cases x with
  | none => exact ge_none k
  | some p =>
    cases y with
    | none => exact ge_none k
    | some q =>
      intro r hr
      have h1 := hx p rfl
      have h2 := hy q rfl
      cases hr
      show k ≤ p.1 + q.1
      omega
theorem ge_sm {k : Nat} {f : Nat → MC} : ∀ n, (∀ t, t < n → geM k (f t)) → geM k (sm f n)
  | 0, _ => ge_none k
  | n + 1, h => ge_add (ge_sm n fun t ht => h t (by omega)) (h n (by omega))
theorem cnk_add {k : Nat} {x y : MC} (hx : geM k x) (hy : geM k y) : cnk k (mAdd x y) = cnk k x + cnk k y := by
  cases x with
  | none => exact (Nat.zero_add _).symm
  | some p =>
    cases y with
    | none => exact (Nat.add_zero _).symm
    | some q =>
      have h1 := hx p rfl
      have h2 := hy q rfl
      unfold mAdd
      dsimp only
      split
      · rw [show cnk k (some q) = 0 from if_neg (by omega), Nat.add_zero]
      · split
        · rw [show cnk k (some p) = 0 from if_neg (by omega), Nat.zero_add]
        · have e : p.1 = q.1 := by omega
          unfold cnk
          dsimp only
          by_cases h : p.1 = k
          · rw [if_pos h, if_pos h, if_pos (by omega)]
          · rw [if_neg h, if_neg h, if_neg (by omega)]
theorem cnk_mul {a b k : Nat} {x y : MC} (hk : k = a + b) (hx : geM a x) (hy : geM b y) : cnk k (mMul x y) = cnk a x * cnk b y := by
  subst hk
  cases x with
  | none => exact (Nat.zero_mul _).symm
  | some p =>
    cases y with
    | none => exact (Nat.mul_zero _).symm
    | some q =>
      have h1 := hx p rfl
      have h2 := hy q rfl
      show (if p.1 + q.1 = a + b then p.2 * q.2 else 0) = (if p.1 = a then p.2 else 0) * (if q.1 = b then q.2 else 0)
      by_cases g1 : p.1 = a
      · by_cases g2 : q.1 = b
        · rw [if_pos g1, if_pos g2, if_pos (by omega)]
        · rw [if_neg g2, if_neg (by omega), Nat.mul_zero]
      · rw [if_neg g1, if_neg (by omega), Nat.zero_mul]
theorem cnk_hi {k : Nat} {x : MC} (h : geM (k + 1) x) : cnk k x = 0 := by
  cases x with
  | none => rfl
  | some p =>
    have := h p rfl
    exact if_neg (by omega)
def sN (f : Nat → Nat) : Nat → Nat
  | 0 => 0
  | n + 1 => sN f n + f n
theorem sN_congr {f g : Nat → Nat} : ∀ n, (∀ t, t < n → f t = g t) → sN f n = sN g n
  | 0, _ => rfl
  | n + 1, h => by rw [sN, sN, sN_congr n fun t ht => h t (by omega), h n (by omega)]
theorem cnk_sm {k : Nat} {f : Nat → MC} : ∀ n, (∀ t, t < n → geM k (f t)) → cnk k (sm f n) = sN (fun t => cnk k (f t)) n
  | 0, _ => rfl
  | n + 1, h => by rw [sm, cnk_add (ge_sm n fun t ht => h t (by omega)) (h n (by omega)), cnk_sm n fun t ht => h t (by omega), sN]
theorem ge_w1 : geM 1 w1 := fun p e => by cases e; exact Nat.le_refl _
section
variable {m c : Nat} (hc : c ∈ OPN)
include hc
theorem al_at {i : Nat} (h : i < m) : (List.replicate m c)[i]? = some c := by rw [List.getElem?_replicate, if_pos h]
theorem al_brk : c ∈ BRK := by
  have : ∀ c ∈ OPN, c ∈ BRK := by decide
  exact this c hc
theorem al_sg {i : Nat} (h : i < m) : sgM (List.replicate m c) alW i = w1 := by
  unfold sgM
  rw [al_at hc h]
  exact (if_pos (al_brk hc)).trans (if_pos rfl)
theorem al_pr {i j : Nat} (h : i < m) (h2 : j < m) : prM (List.replicate m c) alW i j = w1 := by
  have : ∀ c ∈ OPN, few c c = (1, 1) := by decide
  unfold prM
  rw [al_at hc h, al_at hc h2]
  refine (if_pos ⟨al_brk hc, al_brk hc, .inr rfl⟩).trans ?_
  rw [this c hc]
  rfl
theorem al_op {i : Nat} (h : i < m) : opM (List.replicate m c) alW i = w1 := by
  unfold opM
  rw [al_at hc h]
  exact if_pos ⟨hc, rfl⟩
theorem al_cl {i : Nat} (h : i < m) : clM (List.replicate m c) alW i = none := by
  have : ∀ c ∈ OPN, c ∉ CLO := by decide
  unfold clM
  rw [al_at hc h]
  exact if_neg fun z => this c hc z.1
theorem al_st {i s : Nat} (h : i + s + 1 ≤ m) (F : Nat → Nat → MC) : stM (List.replicate m c) alW F i (i + s + 1) = mAdd (mMul w1 (F (i + 1) (i + s + 1))) (mAdd (sm (fun t => m3 w1 (F (i + 1) (i + 1 + t)) (F (i + 1 + t + 1) (i + s + 1))) s) (sm (fun t => m3 w1 (F (i + 1) (i + 1 + t)) (F (i + 1 + t) (i + s + 1))) (s + 1))) := by
  unfold stM
  rw [al_sg hc (by omega), show i + s + 1 - i - 1 = s by omega, show i + s + 1 - i = s + 1 by omega]
  congr 1
  congr 1
  · refine sm_congr fun t ht => ?_
    rw [al_pr hc (by omega) (by omega)]
  · have : sm (fun t => m3 (clM (List.replicate m c) alW (i + t)) (F i (i + t)) (F (i + t + 1) (i + s + 1))) (s + 1) = none := by
      refine (sm_congr (g := fun _ => none) fun t ht => ?_).trans (sm_none _)
      rw [al_cl hc (by omega), m3_none]
    rw [this, mAdd_none]
    refine sm_congr fun t ht => ?_
    rw [al_op hc (by omega)]
theorem al_ge : ∀ s i, i + s ≤ m → geM ((s + 1) / 2) (mcN (List.replicate m c) alW i (i + s)) := by
  intro s
  induction s using Nat.strongRecOn with
  | ind s ih =>
    intro i h
    cases s with
    | zero =>
      intro p hp
      exact Nat.zero_le _
    | succ s =>
      have ih' : ∀ a b, a ≤ b → b - a ≤ s → b ≤ m → geM ((b - a + 1) / 2) (mcN (List.replicate m c) alW a b) := fun a b h1 h2 h3 => by
        have := ih (b - a) (by omega) a (by omega)
        rw [show a + (b - a) = b by omega] at this
        exact this
      rw [show i + (s + 1) = i + s + 1 by omega, mcN_step (by omega), al_st hc (by omega)]
      refine ge_add (ge_mul ge_w1 (ih' _ _ (by omega) (by omega) (by omega)) (by omega)) (ge_add (ge_sm _ fun t ht => ?_) (ge_sm _ fun t ht => ?_))
      · exact ge_mul (k := (s + 1 + 1) / 2) (ge_mul ge_w1 (ih' _ _ (by omega) (by omega) (by omega)) (Nat.le_refl _)) (ih' _ _ (by omega) (by omega) (by omega)) (by omega)
      · exact ge_mul (k := (s + 1 + 1) / 2) (ge_mul ge_w1 (ih' _ _ (by omega) (by omega) (by omega)) (Nat.le_refl _)) (ih' _ _ (by omega) (by omega) (by omega)) (by omega)
end
/-- as the law reckons it -/
def duC : Nat → Nat
  | 0 => 1
  | k + 1 => duC k * (4 * k + 2) / (k + 2)
theorem duC_rec : ∀ n, n < 20 → sN (fun t => if t % 2 = 0 then duC (t / 2) * duC (n - t / 2) else 0) (2 * n + 1) = duC (n + 1) := by
  decide +kernel
theorem duC_small : ∀ n, n ≤ 20 → 0 < duC n ∧ duC n < 2 ^ 40 := by decide +kernel
theorem al_cnk {m c : Nat} (hc : c ∈ OPN) : ∀ n, n ≤ 20 → ∀ i, i + 2 * n ≤ m → cnk n (mcN (List.replicate m c) alW i (i + 2 * n)) = duC n := by
  intro n
  induction n using Nat.strongRecOn with
  | ind n ih =>
    intro hn i h
    cases n with
    | zero => rw [show i + 2 * 0 = i by omega, mcN_self]; rfl
    | succ n =>
      have hg : ∀ k a b, a ≤ b → b ≤ m → k ≤ (b - a + 1) / 2 → geM k (mcN (List.replicate m c) alW a b) := fun k a b h1 h2 h3 p hp => by
        have := al_ge (m := m) hc (b - a) a (by omega)
        rw [show a + (b - a) = b by omega] at this
        have := this p hp
        omega
      rw [show i + 2 * (n + 1) = i + (2 * n + 1) + 1 by omega, mcN_step (by omega), al_st hc (by omega)]
      have g1 : geM (n + 1 + 1) (mMul w1 (mcN (List.replicate m c) alW (i + 1) (i + (2 * n + 1) + 1))) := ge_mul (b := n + 1) ge_w1 (hg _ _ _ (by omega) (by omega) (by omega)) (by omega)
      have g2 : ∀ t, t < 2 * n + 1 → geM (n + 1) (m3 w1 (mcN (List.replicate m c) alW (i + 1) (i + 1 + t)) (mcN (List.replicate m c) alW (i + 1 + t + 1) (i + (2 * n + 1) + 1))) := fun t ht =>
        ge_mul (ge_mul ge_w1 (hg ((t + 1) / 2) _ _ (by omega) (by omega) (by omega)) (Nat.le_refl _)) (hg ((2 * n - t + 1) / 2) _ _ (by omega) (by omega) (by omega)) (by omega)
      have g3 : ∀ t, t < 2 * n + 1 + 1 → geM (n + 1 + 1) (m3 w1 (mcN (List.replicate m c) alW (i + 1) (i + 1 + t)) (mcN (List.replicate m c) alW (i + 1 + t) (i + (2 * n + 1) + 1))) := fun t ht =>
        ge_mul (ge_mul ge_w1 (hg ((t + 1) / 2) _ _ (by omega) (by omega) (by omega)) (Nat.le_refl _)) (hg ((2 * n + 1 - t + 1) / 2) _ _ (by omega) (by omega) (by omega)) (by omega)
      have lo : ∀ {x : MC}, geM (n + 1 + 1) x → geM (n + 1) x := fun hx p hp => by have := hx p hp; omega
      rw [cnk_add (lo g1) (ge_add (ge_sm _ g2) (lo (ge_sm _ g3))), cnk_hi g1, Nat.zero_add, cnk_add (ge_sm _ g2) (lo (ge_sm _ g3)), cnk_hi (ge_sm _ g3), Nat.add_zero, cnk_sm _ g2, ← duC_rec n (by omega)]
      refine sN_congr _ fun t ht => ?_
      by_cases e : t % 2 = 0
      · rw [if_pos e]
        have k1 := ih (t / 2) (by omega) (by omega) (i + 1) (by omega)
        have k2 := ih (n - t / 2) (by omega) (by omega) (i + 1 + t + 1) (by omega)
        rw [show i + 1 + 2 * (t / 2) = i + 1 + t by omega] at k1
        rw [show i + 1 + t + 1 + 2 * (n - t / 2) = i + (2 * n + 1) + 1 by omega] at k2
        unfold m3
        rw [cnk_mul (a := 1 + t / 2) (b := n - t / 2) (by omega) (ge_mul ge_w1 (hg (t / 2) _ _ (by omega) (by omega) (by omega)) (Nat.le_refl _)) (hg _ _ _ (by omega) (by omega) (by omega)), cnk_mul (a := 1) (b := t / 2) rfl ge_w1 (hg _ _ _ (by omega) (by omega) (by omega)), k1, k2, show cnk 1 w1 = 1 from rfl, Nat.one_mul]
      · rw [if_neg e]
        exact cnk_hi (ge_mul (ge_mul ge_w1 (hg ((t + 1) / 2) _ _ (by omega) (by omega) (by omega)) (Nat.le_refl _)) (hg ((2 * n - t + 1) / 2) _ _ (by omega) (by omega) (by omega)) (by omega))
theorem al_cnt {c n : Nat} (hc : c ∈ OPN) (hn : n ≤ 20) : cnt (mcN (List.replicate (2 * n) c) alW 0 (2 * n)) = duC n := by
  have h := al_cnk (m := 2 * n) hc n hn 0 (by omega)
  rw [Nat.zero_add] at h
  have hp := (duC_small n hn).1
  rw [← h] at hp
  rw [← h]
  generalize mcN (List.replicate (2 * n) c) alW 0 (2 * n) = x at hp
  cases x with
  | none => exact absurd hp (Nat.lt_irrefl _)
  | some p =>
    show p.2 = if p.1 = n then p.2 else 0
    split
    · rfl
    · rename_i g
      rw [show cnk n (some p) = 0 from if_neg g] at hp
      exact absurd hp (Nat.lt_irrefl _)
end Ly

set_option maxHeartbeats 4000000
namespace Ly
open PySem PySem.Spec PyProof.Rows L2 SX
section
variable {X : Cx} {k j : Nat} {C : Addr} {x m : Str} {sp : Sp} {p pos : Pos}
theorem pe_mak0 (c : C8.Mak X.prog X.w X.K X.mg X.base k x C sp []) (hr : Room j X.A) (hk : k + 1 ≤ j) (hg : Gl X x)
    (hdb : (x == ("__debug__" : Str)) = false := by decide) : PE X (.Call (.Name x p) [] [] pos) (tMak C sp tNil) := by
  rw [← tMak_eq]
  obtain ⟨f, fd, ps, ds, M, F, hm, b, d⟩ := c.ex
  exact pe_make0 M F (hr.mono hk) hg hm b d C8.pass0 hdb
theorem pe_fldK {K : PySem.W.Frag} {e : Expr} {f : Str} {ta : TE} (hK : X.K = K) (he : PE X e ta) (hb : attributeBase e f X.env (eval e X.env) = eval e X.env) : PE X (.Attribute e f pos) (tFld K ta f) := by
  subst hK
  exact pe_fld he hb
end
end Ly

set_option maxHeartbeats 4000000
namespace Ly
/-! ### the least number with how many is the least number -/
def lo (x : MC) (n : Nat) : Prop := ∀ y, x = some y → n ≤ y.1
def hi (x : MC) (n : Nat) : Prop := ∃ y, x = some y ∧ y.1 ≤ n
theorem lo_add {x y : MC} {n : Nat} (h1 : lo x n) (h2 : lo y n) : lo (mAdd x y) n := by
  intro z hz
  cases x with
  | none => exact h2 z hz
  | some p =>
    cases y with
    | none => exact h1 z hz
    | some q =>
      have a := h1 p rfl
      have b := h2 q rfl
      unfold mAdd at hz
      dsimp only at hz
      split at hz
      · rw [← Option.some.inj hz]; exact a
      · split at hz
        · rw [← Option.some.inj hz]; exact b
        · rw [← Option.some.inj hz]; exact a
theorem hi_addL {x y : MC} {n : Nat} (h : hi x n) : hi (mAdd x y) n := by
  obtain ⟨p, rfl, hp⟩ := h
  cases y with
  | none => exact ⟨p, rfl, hp⟩
  | some q =>
    unfold mAdd
    dsimp only
    split
    · exact ⟨_, rfl, hp⟩
    · split
      · exact ⟨_, rfl, by omega⟩
      · exact ⟨_, rfl, hp⟩
theorem hi_addR {x y : MC} {n : Nat} (h : hi y n) : hi (mAdd x y) n := by
  rw [mAdd_comm]
  exact hi_addL h
theorem lo_sm {f : Nat → MC} {n : Nat} : ∀ k, (∀ i, i < k → lo (f i) n) → lo (sm f k) n
  | 0, _ => fun y hy => by cases hy
  | k + 1, h => lo_add (lo_sm k fun i hi => h i (by omega)) (h k (by omega))
theorem hi_sm {f : Nat → MC} {n i : Nat} : ∀ k, i < k → hi (f i) n → hi (sm f k) n
  | 0, h, _ => by omega
  | k + 1, h, hf => by
    by_cases e : i = k
    · subst e
      exact hi_addR hf
    · exact hi_addL (hi_sm k (by omega) hf)
theorem lo_mul {x y : MC} {a b n : Nat} (h1 : lo x a) (h2 : lo y b) (hn : n ≤ a + b) : lo (mMul x y) n := by
  intro z hz
  cases x with
  | none => cases hz
  | some p =>
    cases y with
    | none => cases hz
    | some q =>
      have a := h1 p rfl
      have b := h2 q rfl
      rw [← Option.some.inj hz]
      show n ≤ p.1 + q.1
      omega
theorem hi_mul {x y : MC} {a b n : Nat} (h1 : hi x a) (h2 : hi y b) (hn : a + b ≤ n) : hi (mMul x y) n := by
  obtain ⟨p, rfl, hp⟩ := h1
  obtain ⟨q, rfl, hq⟩ := h2
  exact ⟨_, rfl, by show p.1 + q.1 ≤ n; omega⟩
theorem few_tns : ∀ c ∈ BRK, ∀ d ∈ BRK, (few c d).1 = tns c d := by decide
theorem mcN_lo {l : List Nat} {W : Wd} : ∀ (n i j : Nat), j - i ≤ n → i ≤ j → j ≤ l.length → lo (mcN l W i j) (lstN l i j)
  | 0, i, j, h, h1, h2 => by
    have : i = j := by omega
    subst this
    rw [mcN_self, lstN_self h2]
    intro y _
    omega
  | n + 1, i, j, h, h1, h2 => by
    by_cases e : i = j
    · subst e
      rw [mcN_self, lstN_self h2]
      intro y _
      omega
    · have ih : ∀ a b, i ≤ a → a ≤ b → b ≤ j → b - a ≤ n → lo (mcN l W a b) (lstN l a b) := fun a b k1 k2 k3 k4 => mcN_lo n a b k4 k2 (by omega)
      have hM : ∀ a b, i ≤ a → a ≤ b → b ≤ j → Mn l a b (lstN l a b) := fun a b k1 k2 k3 => (lstN_spec k2 (by omega)).1
      have up : ∀ m, Mn l i j m → lstN l i j ≤ m := fun m hm => (lstN_spec h1 h2).2 m hm
      rw [mcN_step (by omega)]
      obtain ⟨c, hc⟩ : ∃ c, l[i]? = some c := ⟨_, List.getElem?_eq_getElem (by omega)⟩
      unfold stM
      refine lo_add ?_ (lo_add ?_ (lo_add ?_ ?_))
      · unfold sgM
        rw [hc]
        dsimp only
        by_cases hb : c ∈ BRK
        · rw [if_pos hb]
          split
          · exact lo_mul (a := 1) (b := lstN l (i + 1) j) (fun y hy => by rw [← Option.some.inj hy]; exact Nat.le_refl _) (ih _ _ (by omega) (by omega) (by omega) (by omega)) (by have := up _ (.str hc hb (hM (i + 1) j (by omega) (by omega) (by omega))); omega)
          · intro y hy; cases hy
        · rw [if_neg hb]
          exact lo_mul (a := 0) (b := lstN l (i + 1) j) (fun y _ => Nat.zero_le _) (ih _ _ (by omega) (by omega) (by omega) (by omega)) (by have := up _ (.let_ hc hb (hM (i + 1) j (by omega) (by omega) (by omega))); omega)
      · refine lo_sm _ fun t ht => ?_
        obtain ⟨d, hd⟩ : ∃ d, l[i + 1 + t]? = some d := ⟨_, List.getElem?_eq_getElem (by omega)⟩
        unfold m3 prM
        rw [hc, hd]
        dsimp only
        split
        · rename_i hq
          refine lo_mul (a := tns c d + lstN l (i + 1) (i + 1 + t)) (b := lstN l (i + 1 + t + 1) j) (lo_mul (a := tns c d) (b := lstN l (i + 1) (i + 1 + t)) (fun y hy => ?_) (ih _ _ (by omega) (by omega) (by omega) (by omega)) (Nat.le_refl _)) (ih _ _ (by omega) (by omega) (by omega) (by omega)) ?_
          · rw [← Option.some.inj hy, few_tns c hq.1 d hq.2.1]
            exact Nat.le_refl _
          · have := up _ (.pair hc hq.1 hd hq.2.1 (hM (i + 1) (i + 1 + t) (by omega) (by omega) (by omega)) (hM (i + 1 + t + 1) j (by omega) (by omega) (by omega)))
            omega
        · intro y hy; cases hy
      · refine lo_sm _ fun t ht => ?_
        unfold m3 opM
        rw [hc]
        dsimp only
        split
        · rename_i hq
          refine lo_mul (a := 1 + lstN l (i + 1) (i + 1 + t)) (b := lstN l (i + 1 + t) j) (lo_mul (a := 1) (b := lstN l (i + 1) (i + 1 + t)) (fun y hy => by rw [← Option.some.inj hy]; exact Nat.le_refl _) (ih _ _ (by omega) (by omega) (by omega) (by omega)) (Nat.le_refl _)) (ih _ _ (by omega) (by omega) (by omega) (by omega)) ?_
          have := up _ (.str hc (brk_or.mpr (.inl hq.1)) ((hM (i + 1) (i + 1 + t) (by omega) (by omega) (by omega)).app (hM (i + 1 + t) j (by omega) (by omega) (by omega))))
          omega
        · intro y hy; cases hy
      · refine lo_sm _ fun t ht => ?_
        obtain ⟨d, hd⟩ : ∃ d, l[i + t]? = some d := ⟨_, List.getElem?_eq_getElem (by omega)⟩
        unfold m3 clM
        rw [hd]
        dsimp only
        split
        · rename_i hq
          refine lo_mul (a := 1 + lstN l i (i + t)) (b := lstN l (i + t + 1) j) (lo_mul (a := 1) (b := lstN l i (i + t)) (fun y hy => by rw [← Option.some.inj hy]; exact Nat.le_refl _) (ih _ _ (by omega) (by omega) (by omega) (by omega)) (Nat.le_refl _)) (ih _ _ (by omega) (by omega) (by omega) (by omega)) ?_
          have := up _ ((hM i (i + t) (by omega) (by omega) (by omega)).app (.str hd (brk_or.mpr (.inr hq.1)) (hM (i + t + 1) j (by omega) (by omega) (by omega))))
          omega
        · intro y hy; cases hy
theorem mcN_hi {l : List Nat} {W : Wd} (hs : W.st = true) (ht : W.tn = true) {i j n : Nat} (h : Mn l i j n) : hi (mcN l W i j) n := by
  induction h with
  | nil i => exact ⟨_, mcN_self l W i, Nat.le_refl _⟩
  | @let_ i j n c e hb h ih =>
    have hij := h.le
    rw [mcN_step (by omega)]
    refine hi_addL (hi_mul (a := 0) ?_ ih (by omega))
    unfold sgM
    rw [e]
    dsimp only
    rw [if_neg hb]
    exact ⟨_, rfl, Nat.le_refl _⟩
  | @str i j n c e hb h ih =>
    have hij := h.le
    rw [mcN_step (by omega)]
    refine hi_addL (hi_mul (a := 1) ?_ ih (by omega))
    unfold sgM
    rw [e]
    dsimp only
    rw [if_pos hb, if_pos hs]
    exact ⟨_, rfl, Nat.le_refl _⟩
  | @pair i m j a b c d e1 hc e2 hd h1 h2 ih1 ih2 =>
    have k1 := h1.le
    have k2 := h2.le
    rw [mcN_step (by omega)]
    refine hi_addR (hi_addL (hi_sm (i := m - (i + 1)) _ (by omega) ?_))
    rw [show i + 1 + (m - (i + 1)) = m by omega]
    refine hi_mul (a := tns c d + a) (b := b) (hi_mul (a := tns c d) (b := a) ?_ ih1 (Nat.le_refl _)) ih2 (Nat.le_refl _)
    unfold prM
    rw [e1, e2]
    dsimp only
    rw [if_pos ⟨hc, hd, .inr ht⟩]
    exact ⟨_, rfl, by rw [few_tns c hc d hd]; exact Nat.le_refl _⟩
theorem mcN_cost {l : List Nat} {W : Wd} (hs : W.st = true) (ht : W.tn = true) {i j : Nat} (h1 : i ≤ j) (h2 : j ≤ l.length) : ∃ c, mcN l W i j = some (lstN l i j, c) := by
  obtain ⟨y, hy, hle⟩ := mcN_hi hs ht (lstN_spec h1 h2).1
  have := mcN_lo (W := W) (j - i) i j (Nat.le_refl _) h1 h2 y hy
  refine ⟨y.2, ?_⟩
  rw [hy, show lstN l i j = y.1 by omega]
end Ly

set_option maxHeartbeats 4000000
namespace Ly
open PySem PySem.Spec PyProof.Rows L2 SX
/-! ### data in heaps -/
mutual
theorem dp_same {K : PySem.W.Frag} {H H' : Hp} (s : Same H H') : ∀ {v : V} {d : PyData}, Dp K H v d → Dp K H' v d
  | _, _, .non => .non
  | _, _, .bl b => .bl b
  | _, _, .int i => .int i
  | _, _, .str l => .str l
  | _, _, .lst h hs => .lst (Same.seq s h) (dps_same s hs)
  | _, _, .tup h hs => .tup (SqT.same s h) (dps_same s hs)
theorem dps_same {K : PySem.W.Frag} {H H' : Hp} (s : Same H H') : ∀ {vs : List V} {ds : List PyData}, DpAll K H vs ds → DpAll K H' vs ds
  | _, _, .nil => .nil
  | _, _, .cons h hs => .cons (dp_same s h) (dps_same s hs)
end
section
variable {K : PySem.W.Frag} {H : Hp} {Q : VK} {x y : V} {d e : PyData}
theorem g_neDp (h1 : Dp K H x d) (h2 : Dp K H y d) (hs : SeqAt.shaped d = true) (q : Q (.bl false) H) : rNeD K x y H Q := by
  refine ⟨d, d, h1, h2, hs, hs, ?_⟩
  rw [SeqAt.eqv_refl d (by unfold SeqAt.shaped at hs; rw [Bool.and_eq_true] at hs; exact hs.1)]
  exact q
theorem g_eqDp (h1 : Dp K H x d) (h2 : Dp K H y d) (hs : SeqAt.shaped d = true) (q : Q (.bl true) H) : rEqD K x y H Q := by
  refine ⟨d, d, h1, h2, hs, hs, ?_⟩
  rw [SeqAt.eqv_refl d (by unfold SeqAt.shaped at hs; rw [Bool.and_eq_true] at hs; exact hs.1)]
  exact q
end
theorem dpi {K : PySem.W.Frag} {H : Hp} : ∀ xs : List Int, DpAll K H (xs.map V.int) (xs.map PyData.int)
  | [] => .nil
  | x :: xs => .cons (.int x) (dpi xs)
theorem cani (xs : List Int) : PyData.canLayAll0 (xs.map PyData.int) = true := by
  induction xs with
  | nil => rfl
  | cons x xs ih => rw [List.map_cons]; show (true && PyData.canLayAll0 _) = true; rw [ih]; rfl
theorem depi (xs : List Int) : PyData.depthAll (xs.map PyData.int) = 0 := by
  induction xs with
  | nil => rfl
  | cons x xs ih => rw [List.map_cons]; show max 0 (PyData.depthAll _) = 0; rw [ih]; rfl
theorem shaped_ints (xs : List Int) : SeqAt.shaped (.list (xs.map PyData.int)) = true := by
  unfold SeqAt.shaped
  rw [show PyData.canLay0 (.list (xs.map PyData.int)) = PyData.canLayAll0 (xs.map PyData.int) from rfl, cani, show PyData.depth (.list (xs.map PyData.int)) = PyData.depthAll (xs.map PyData.int) + 1 from rfl, depi]
  rfl
end Ly

set_option maxHeartbeats 4000000
namespace Ly
open PySem PySem.Spec PyProof.Rows L2 SX
/-! ### deeds -/
inductive Dw where
  | put (c : Nat)
  | str
  | trn (c : Nat)
  deriving DecidableEq
abbrev Deed := Nat × Dw
def Dw.w : Dw → List Nat
  | .put _ => [112, 117, 116]
  | .str => [115, 116, 114, 105, 107, 101]
  | .trn _ => [116, 117, 114, 110]
def Dw.s : Dw → List Nat
  | .put c => [c]
  | .str => []
  | .trn c => [c]
def Dw.isPut : Dw → Bool
  | .put _ => true
  | _ => false
def ddV (d : Deed) : List V := [.int (d.1 : Nat), Tx d.2.w, Tx d.2.s]
def okB (l : List Nat) (d : Deed) : Bool := match d.2 with
  | .put c => decide (d.1 ≤ l.length) && decide (c ∈ BRK)
  | .str => match l[d.1]? with
    | some x => decide (x ∈ BRK)
    | none => false
  | .trn c => match l[d.1]? with
    | some x => decide (x ∈ BRK) && (decide (c ∈ BRK) && !decide (c = x))
    | none => false
def nxB (d e : Deed) : Bool := decide (d.1 < e.1) || (decide (d.1 = e.1) && d.2.isPut)
def chB : List Deed → Bool
  | d :: e :: r => nxB d e && chB (e :: r)
  | _ => true
def okDs (l : List Nat) (ds : List Deed) : Bool := ds.all (okB l) && chB ds
def putc (p : Nat) (d : Deed) : List Nat := if d.1 = p then (match d.2 with | .put c => [c] | _ => []) else []
def puts (ds : List Deed) (p : Nat) : List Nat := (ds.map (putc p)).flatten
def othD : List Deed → Nat → Option Dw
  | [], _ => none
  | d :: r, p => match othD r p with
    | some w => some w
    | none => if d.1 = p ∧ d.2.isPut = false then some d.2 else none
theorem puts_snoc (ds : List Deed) (d : Deed) (p : Nat) : puts (ds ++ [d]) p = puts ds p ++ putc p d := by
  unfold puts
  rw [List.map_append, List.flatten_append]
  simp
theorem puts_cons (ds : List Deed) (d : Deed) (p : Nat) : puts (d :: ds) p = putc p d ++ puts ds p := rfl
theorem othD_snoc (d : Deed) (p : Nat) : ∀ ds : List Deed, othD (ds ++ [d]) p = if d.1 = p ∧ d.2.isPut = false then some d.2 else othD ds p
  | [] => rfl
  | e :: ds => by
    rw [List.cons_append, othD, othD_snoc d p ds]
    by_cases h : d.1 = p ∧ d.2.isPut = false
    · rw [if_pos h, if_pos h]
    · rw [if_neg h, if_neg h]
      rfl
def mid (o : Option Dw) (x : List Nat) : List Nat := match o with
  | none => x
  | some w => w.s
def piece (l : List Nat) (ds : List Deed) (p : Nat) : List Nat := puts ds p ++ mid (othD ds p) ((l.drop p).take 1)
def doneTo (l : List Nat) (ds : List Deed) (n : Nat) : List Nat := ((List.range n).map (piece l ds)).flatten
def doneL (l : List Nat) (ds : List Deed) : List Nat := doneTo l ds (l.length + 1)
theorem doneTo_succ (l : List Nat) (ds : List Deed) (n : Nat) : doneTo l ds (n + 1) = doneTo l ds n ++ piece l ds n := by
  unfold doneTo
  rw [List.range_succ, List.map_append, List.flatten_append]
  simp
def doneAt (ds : List Deed) : Nat → List Nat → List Nat
  | p, [] => puts ds p ++ mid (othD ds p) []
  | p, c :: r => puts ds p ++ mid (othD ds p) [c] ++ doneAt ds (p + 1) r
theorem doneAt_rng (l : List Nat) (ds : List Deed) : ∀ (r : List Nat) (p : Nat), l.drop p = r → ((List.range' p (r.length + 1)).map (piece l ds)).flatten = doneAt ds p r
  | [], p, h => by
    show (piece l ds p ++ _) = _
    unfold piece
    rw [h]
    simp [doneAt]
  | c :: r, p, h => by
    rw [List.length_cons, List.range'_succ, List.map_cons, List.flatten_cons, doneAt, doneAt_rng l ds r (p + 1) (by rw [← List.drop_drop, h]; rfl)]
    unfold piece
    rw [h]
    rfl
theorem doneL_at (l : List Nat) (ds : List Deed) : doneL l ds = doneAt ds 0 l := by
  unfold doneL doneTo
  rw [List.range_eq_range']
  exact doneAt_rng l ds l 0 (by simp)
def low (q : Nat) (ds : List Deed) : Prop := ∀ d ∈ ds, q ≤ d.1
theorem low_cons {q : Nat} {d : Deed} {ds : List Deed} : low q (d :: ds) ↔ q ≤ d.1 ∧ low q ds := by
  unfold low
  simp
theorem puts_low {p : Nat} : ∀ {ds : List Deed}, low (p + 1) ds → puts ds p = []
  | [], _ => rfl
  | d :: ds, h => by
    rw [low_cons] at h
    rw [puts_cons, puts_low h.2, putc, if_neg (by omega)]
    rfl
theorem oth_low {p : Nat} : ∀ {ds : List Deed}, low (p + 1) ds → othD ds p = none
  | [], _ => rfl
  | d :: ds, h => by
    rw [low_cons] at h
    rw [othD, oth_low h.2]
    dsimp only
    rw [if_neg (by omega)]
theorem doneAt_skip (ds : List Deed) : ∀ (l r : List Nat) (p : Nat), low (p + l.length) ds → doneAt ds p (l ++ r) = l ++ doneAt ds (p + l.length) r
  | [], r, p, _ => rfl
  | c :: l, r, p, h => by
    have h1 : low (p + 1) ds := fun d hd => by have := h d hd; simp at this; omega
    rw [List.cons_append, doneAt, puts_low h1, oth_low h1, doneAt_skip ds l r (p + 1) (by rw [show p + 1 + l.length = p + (c :: l).length by simp; omega]; exact h)]
    rw [show p + 1 + l.length = p + (c :: l).length by simp; omega]
    rfl
theorem doneAt_past {d : Deed} (ds : List Deed) : ∀ (r : List Nat) (p : Nat), d.1 < p → doneAt (d :: ds) p r = doneAt ds p r
  | [], p, h => by
    rw [doneAt, doneAt, puts_cons, putc, if_neg (by omega), othD]
    cases othD ds p with
    | some w => rfl
    | none => dsimp only; rw [if_neg (by omega)]; rfl
  | c :: r, p, h => by
    rw [doneAt, doneAt, puts_cons, putc, if_neg (by omega), othD, doneAt_past ds r (p + 1) (by omega)]
    cases othD ds p with
    | some w => rfl
    | none => dsimp only; rw [if_neg (by omega)]; rfl
def app (d : Deed) (s : List Nat) : List Nat := match d.2 with
  | .put c => s.take d.1 ++ [c] ++ s.drop d.1
  | .str => s.eraseIdx d.1
  | .trn c => s.set d.1 c
def behind (l : List Nat) (ds : List Deed) : List Nat := ds.foldr app l
theorem chB_low : ∀ {ds : List Deed} {d : Deed}, chB (d :: ds) = true → low d.1 ds ∧ (d.2.isPut = false → low (d.1 + 1) ds) ∧ chB ds = true
  | [], d, _ => ⟨(fun e he => by cases he), (fun _ e he => by cases he), rfl⟩
  | e :: ds, d, h => by
    rw [chB, Bool.and_eq_true] at h
    obtain ⟨h1, h2, h3⟩ := chB_low h.2
    unfold nxB at h
    have hn := h.1
    rw [Bool.or_eq_true, Bool.and_eq_true] at hn
    refine ⟨low_cons.mpr ⟨?_, fun x hx => ?_⟩, fun hp => low_cons.mpr ⟨?_, fun x hx => ?_⟩, h.2⟩
    · rcases hn with hn | hn
      · have := of_decide_eq_true hn; omega
      · have := of_decide_eq_true hn.1; omega
    · have := h1 x hx
      rcases hn with hn | hn
      · have := of_decide_eq_true hn; omega
      · have := of_decide_eq_true hn.1; omega
    · rcases hn with hn | hn
      · have := of_decide_eq_true hn; omega
      · rw [hp] at hn; cases hn.2
    · have := h1 x hx
      rcases hn with hn | hn
      · have := of_decide_eq_true hn; omega
      · rw [hp] at hn; cases hn.2
theorem okB_le {l : List Nat} {d : Deed} (h : okB l d = true) : d.1 ≤ l.length ∧ (d.2.isPut = false → d.1 < l.length) := by
  unfold okB at h
  obtain ⟨q, w⟩ := d
  cases w with
  | put c =>
    rw [Bool.and_eq_true] at h
    exact ⟨of_decide_eq_true h.1, fun e => by cases e⟩
  | str =>
    dsimp only at h
    cases e : l[q]? with
    | none => rw [e] at h; cases h
    | some x =>
      have := (List.getElem?_eq_some_iff.mp e).1
      exact ⟨by show q ≤ _; omega, fun _ => this⟩
  | trn c =>
    dsimp only at h
    cases e : l[q]? with
    | none => rw [e] at h; cases h
    | some x =>
      have := (List.getElem?_eq_some_iff.mp e).1
      exact ⟨by show q ≤ _; omega, fun _ => this⟩
theorem done_cons {l : List Nat} {d : Deed} {ds : List Deed} (hd : okB l d = true) (hc : chB (d :: ds) = true) : doneL l (d :: ds) = app d (doneL l ds) := by
  obtain ⟨h1, h2, h3⟩ := chB_low hc
  obtain ⟨k1, k2⟩ := okB_le hd
  rw [doneL_at, doneL_at]
  obtain ⟨q, w⟩ := d
  have hl : l = l.take q ++ l.drop q := (List.take_append_drop q l).symm
  have hlen : (l.take q).length = q := by rw [List.length_take]; exact Nat.min_eq_left k1
  have e1 : doneAt ds 0 l = l.take q ++ doneAt ds q (l.drop q) := by
    conv => lhs; rw [hl]
    rw [doneAt_skip ds (l.take q) (l.drop q) 0 (by rw [Nat.zero_add, hlen]; exact h1), Nat.zero_add, hlen]
  have e2 : doneAt ((q, w) :: ds) 0 l = l.take q ++ doneAt ((q, w) :: ds) q (l.drop q) := by
    conv => lhs; rw [hl]
    rw [doneAt_skip ((q, w) :: ds) (l.take q) (l.drop q) 0 (by rw [Nat.zero_add, hlen]; exact low_cons.mpr ⟨Nat.le_refl _, h1⟩), Nat.zero_add, hlen]
  rw [e1, e2]
  cases w with
  | put c =>
    have e3 : doneAt ((q, Dw.put c) :: ds) q (l.drop q) = c :: doneAt ds q (l.drop q) := by
      have e4 : othD ((q, Dw.put c) :: ds) q = othD ds q := by
        rw [othD]
        cases othD ds q with
        | some w => rfl
        | none => dsimp only; rw [if_neg (by intro h; cases h.2)]
      cases l.drop q with
      | nil => rw [doneAt, doneAt, puts_cons, putc, if_pos rfl, e4]; rfl
      | cons x r => rw [doneAt, doneAt, puts_cons, putc, if_pos rfl, e4, doneAt_past ds r (q + 1) (by show q < q + 1; omega)]; rfl
    rw [e3]
    show _ = (l.take q ++ doneAt ds q (l.drop q)).take q ++ [c] ++ (l.take q ++ doneAt ds q (l.drop q)).drop q
    clear e1 e2 e3 hl
    generalize doneAt ds q (l.drop q) = X
    generalize l.take q = A at hlen
    subst hlen
    simp
  | str =>
    have hq := k2 rfl
    have hq' : q < l.length := hq
    have hlo := h2 rfl
    have hlo' : low (q + 1) ds := hlo
    rw [List.drop_eq_getElem_cons hq', doneAt, doneAt, puts_cons, putc, if_pos rfl, puts_low hlo', othD, oth_low hlo', doneAt_past ds _ (q + 1) (by show q < q + 1; omega)]
    show _ = (l.take q ++ _).eraseIdx q
    rw [List.eraseIdx_append_of_length_le (by rw [hlen]; exact Nat.le_refl _), hlen, Nat.sub_self]
    dsimp only
    rw [if_pos ⟨rfl, rfl⟩]
    rfl
  | trn c =>
    have hq' : q < l.length := k2 rfl
    have hlo' : low (q + 1) ds := h2 rfl
    rw [List.drop_eq_getElem_cons hq', doneAt, doneAt, puts_cons, putc, if_pos rfl, puts_low hlo', othD, oth_low hlo', doneAt_past ds _ (q + 1) (by show q < q + 1; omega)]
    show _ = (l.take q ++ _).set q c
    rw [List.set_append_right _ _ (by rw [hlen]; exact Nat.le_refl _), hlen, Nat.sub_self]
    dsimp only
    rw [if_pos ⟨rfl, rfl⟩]
    rfl
theorem done_nil (l : List Nat) : doneL l [] = l := by
  rw [doneL_at]
  have := doneAt_skip [] l [] 0 (fun d hd => by cases hd)
  rw [List.append_nil] at this
  rw [this]
  show l ++ [] = l
  simp
theorem okDs_cons {l : List Nat} {d : Deed} {ds : List Deed} (h : okDs l (d :: ds) = true) : okB l d = true ∧ chB (d :: ds) = true ∧ okDs l ds = true := by
  unfold okDs at h ⊢
  rw [List.all_cons, Bool.and_eq_true, Bool.and_eq_true] at h
  exact ⟨h.1.1, h.2, by rw [h.1.2, (chB_low h.2).2.2]; rfl⟩
theorem done_behind {l : List Nat} : ∀ {ds : List Deed}, okDs l ds = true → doneL l ds = behind l ds
  | [], _ => done_nil l
  | d :: ds, h => by
    obtain ⟨h1, h2, h3⟩ := okDs_cons h
    rw [done_cons h1 h2, done_behind h3]
    rfl
theorem behind_take {l : List Nat} {q : Nat} (hq : q ≤ l.length) : ∀ {ds : List Deed}, low q ds → (behind l ds).take q = l.take q ∧ q ≤ (behind l ds).length
  | [], _ => ⟨rfl, hq⟩
  | d :: ds, h => by
    rw [low_cons] at h
    obtain ⟨h1, h2⟩ := behind_take hq h.2
    show (app d (behind l ds)).take q = _ ∧ q ≤ (app d (behind l ds)).length
    rw [← h1]
    generalize behind l ds = s at h2
    obtain ⟨p, w⟩ := d
    have hp : q ≤ p := h.1
    cases w with
    | put c =>
      show (s.take p ++ [c] ++ s.drop p).take q = s.take q ∧ q ≤ (s.take p ++ [c] ++ s.drop p).length
      constructor
      · rw [List.append_assoc, List.take_append_of_le_length (by rw [List.length_take]; omega), List.take_take, Nat.min_eq_left hp]
      · simp only [List.length_append, List.length_take, List.length_drop, List.length_singleton]; omega
    | str =>
      show (s.eraseIdx p).take q = s.take q ∧ q ≤ (s.eraseIdx p).length
      constructor
      · rw [List.eraseIdx_eq_take_drop_succ, List.take_append]
        by_cases hps : p ≤ s.length
        · rw [List.length_take, Nat.min_eq_left hps, List.take_take, Nat.min_eq_left hp, show q - p = 0 by omega]
          simp
        · rw [List.drop_eq_nil_of_le (by omega), List.take_take, Nat.min_eq_left hp]
          simp
      · rw [List.length_eraseIdx]
        split <;> omega
    | trn c =>
      show (s.set p c).take q = s.take q ∧ q ≤ (s.set p c).length
      rw [List.length_set]
      exact ⟨by rw [List.take_set_of_le hp], h2⟩
/-! ### lists of deeds in heaps -/
def ddD (d : Deed) : PyData := .tuple [.int (d.1 : Nat), .str (S d.2.w), .str (S d.2.s)]
def ddsD (ds : List Deed) : PyData := .list (ds.map ddD)
structure Dds (H : Hp) (a : Addr) (rs : List Addr) (ds : List Deed) : Prop where
  hd : H a = some (.lst (rs.map V.ref))
  len : rs.length = ds.length
  it : ∀ (k : Nat) (r : Addr) (d : Deed), rs[k]? = some r → ds[k]? = some d → H r = some (.tup (ddV d))
theorem Dds.same {H H' : Hp} {a : Addr} {rs : List Addr} {ds : List Deed} (h : Dds H a rs ds) (s : Same H H') : Dds H' a rs ds := ⟨s _ _ h.hd, h.len, fun k r d h1 h2 => s _ _ (h.it k r d h1 h2)⟩
theorem Dds.but {H H' : Hp} {a p : Addr} {rs : List Addr} {ds : List Deed} {ys : List V} (h : Dds H a rs ds) (s : But p H H') (hp : H p = some (.lst ys)) (hn : a ≠ p) : Dds H' a rs ds := by
  refine ⟨s _ _ hn h.hd, h.len, fun k r d h1 h2 => ?_⟩
  have := h.it k r d h1 h2
  exact s _ _ (fun e => by rw [e, hp] at this; cases this) this
theorem Dds.dp {K : PySem.W.Frag} {H : Hp} {a : Addr} {rs : List Addr} {ds : List Deed} (h : Dds H a rs ds) : Dp K H (.ref a) (ddsD ds) := by
  refine .lst (sq_of h.hd) ?_
  have key : ∀ (rs : List Addr) (ds : List Deed), rs.length = ds.length → (∀ (k : Nat) (r : Addr) (d : Deed), rs[k]? = some r → ds[k]? = some d → H r = some (.tup (ddV d))) → DpAll K H (rs.map V.ref) (ds.map ddD) := by
    intro rs
    induction rs with
    | nil =>
      intro ds hl _
      cases ds with
      | nil => exact .nil
      | cons x xs => simp at hl
    | cons r rs ih =>
      intro ds hl h
      cases ds with
      | nil => simp at hl
      | cons d ds => exact .cons (.tup (st_of (h 0 r d rfl rfl)) (.cons (.int _) (.cons (.str _) (.cons (.str _) .nil)))) (ih ds (by simpa using hl) fun i q y h3 h4 => h (i + 1) q y h3 h4)
  exact key rs ds h.len h.it
def sgD (ds : List Deed) : Prop := ∀ d ∈ ds, ∀ c ∈ d.2.s, c < 1114112
theorem dw_lt (w : Dw) : ∀ c ∈ w.w, c < 1114112 := by
  cases w with
  | put c => show ∀ c ∈ [112, 117, 116], c < 1114112; decide
  | str => decide
  | trn c => show ∀ c ∈ [116, 117, 114, 110], c < 1114112; decide
theorem dds_shaped {ds : List Deed} (h : sgD ds) : SeqAt.shaped (ddsD ds) = true := by
  have h1 : ∀ ds : List Deed, sgD ds → PyData.canLayAll0 (ds.map ddD) = true ∧ PyData.depthAll (ds.map ddD) ≤ 1 := by
    intro ds
    induction ds with
    | nil => intro _; exact ⟨rfl, Nat.zero_le _⟩
    | cons d ds ih =>
      intro h
      obtain ⟨i1, i2⟩ := ih fun x hx => h x (List.mem_cons_of_mem _ hx)
      constructor
      · show (PyData.canLay0 (ddD d) && PyData.canLayAll0 (ds.map ddD)) = true
        have : PyData.canLay0 (ddD d) = true := by
          show (true && (PyData.canLay0 (txD d.2.w) && (PyData.canLay0 (txD d.2.s) && true))) = true
          rw [can_tx (dw_lt d.2), can_tx (h d (List.mem_cons_self ..))]
          rfl
        rw [this, i1]
        rfl
      · show max (PyData.depth (ddD d)) (PyData.depthAll (ds.map ddD)) ≤ 1
        have : PyData.depth (ddD d) = 1 := rfl
        omega
  obtain ⟨i1, i2⟩ := h1 ds h
  unfold SeqAt.shaped
  have e1 : PyData.canLay0 (ddsD ds) = true := i1
  have e2 : PyData.depth (ddsD ds) = PyData.depthAll (ds.map ddD) + 1 := rfl
  rw [e1, e2, Bool.true_and]
  exact decide_eq_true (by omega)
theorem Dds.row {H : Hp} {a : Addr} {rs : List Addr} {ds : List Deed} (h : Dds H a rs ds) {k : Nat} (hk : k < ds.length) : ∃ r d, rs[k]? = some r ∧ ds[k]? = some d ∧ (rs.map V.ref)[k]? = some (V.ref r) ∧ H r = some (.tup (ddV d)) := by
  have e1 : rs[k]? = some (rs[k]'(by rw [h.len]; exact hk)) := List.getElem?_eq_getElem (by rw [h.len]; exact hk)
  have e2 : ds[k]? = some ds[k] := List.getElem?_eq_getElem hk
  exact ⟨_, _, e1, e2, by rw [List.getElem?_map, e1]; rfl, h.it k _ _ e1 e2⟩
theorem Dds.snoc {H H' : Hp} {a t : Addr} {rs : List Addr} {ds : List Deed} {d : Deed} (h : Dds H a rs ds) (ht : H t = some (.tup (ddV d))) (s : But a H H') (e : H' a = some (.lst (rs.map V.ref ++ [.ref t]))) : Dds H' a (rs ++ [t]) (ds ++ [d]) := by
  have ne : ∀ r ys, H r = some (.tup ys) → r ≠ a := fun r ys e q => by rw [q, h.hd] at e; cases e
  refine ⟨by rw [e, List.map_append]; rfl, by simp [h.len], fun k r y q1 q2 => ?_⟩
  by_cases hk : k < rs.length
  · rw [List.getElem?_append_left hk] at q1
    rw [List.getElem?_append_left (by rw [← h.len]; exact hk)] at q2
    have := h.it k r y q1 q2
    exact s _ _ (ne _ _ this) this
  · have hk : k = rs.length := by
      have := (List.getElem?_eq_some_iff.mp q1).1
      simp at this
      omega
    rw [List.getElem?_append_right (by omega), hk, Nat.sub_self] at q1
    rw [List.getElem?_append_right (by rw [← h.len]; omega), hk, h.len, Nat.sub_self] at q2
    have e1 : t = r := Option.some.inj q1
    have e2 : d = y := Option.some.inj q2
    subst e1 e2
    exact s _ _ (ne _ _ ht) ht
/-! ### one sign of a text by a slice -/
theorem slice_any {l : List Nat} {i j : Nat} (h1 : i ≤ j) (hi : i ≤ l.length) : Txt.slice (S l) (some (i : Int)) (some (j : Int)) = S ((l.take j).drop i) := by
  by_cases hj : j ≤ l.length
  · exact slice_both h1 hj
  · have e2 : Txt.slice (S l) (some (i : Int)) (some (j : Int)) = Txt.slice (S l) (some (i : Int)) (some (l.length : Int)) := by
      unfold Txt.slice
      rw [S_len, idx_hi (by omega)]
    rw [e2, List.take_of_length_le (by omega), slice_both hi (Nat.le_refl _), List.take_length]
theorem g_slAny {H : Hp} {Q : VK} {l : List Nat} {i j : Nat} (h : l.length ≤ 100000) (h1 : i ≤ j) (hi : i ≤ l.length) (q : Q (Tx ((l.take j).drop i)) H) : rSlTx (Tx l) (some (i : Int)) (some (j : Int)) H Q := ⟨l, rfl, h, by rw [slice_any h1 hi]; exact q⟩
theorem g_slOne {H : Hp} {Q : VK} {l : List Nat} {i : Nat} {x y : Int} (hx : x = (i : Int)) (hy : y = ((i + 1 : Nat) : Int)) (h : l.length ≤ 100000) (hi : i ≤ l.length) (q : Q (Tx ((l.drop i).take 1)) H) : rSlTx (Tx l) (some x) (some y) H Q := by
  subst hx hy
  refine g_slAny h (by omega) hi ?_
  rw [List.drop_take, show i + 1 - i = 1 by omega]
  exact q
section
variable {K : PySem.W.Frag} {σ : L2.St} {H : Hp} {g : TG} {tb : TS} {D : Ends} {a b : Addr} {xs ys : List V}
/-- for x, y in zip(xs, ys) -/
theorem for_zipN (n : Nat) (Pv : Nat → L2.St → Hp → Prop) (hl : n = min xs.length ys.length) (h0 : Pv 0 σ H) (hq : ∀ i σ H, i ≤ n → Pv i σ H → SqL K H a xs ∧ SqL K H b ys)
    (hs : ∀ i x y σ H t H1, xs[i]? = some x → ys[i]? = some y → Pv i σ H → H t = none → Same H H1 → H1 t = some (.tup [x, y]) → g (.ref t) σ H1 fun σ2 H2 => tb { D with nx := Pv (i + 1), ct := Pv (i + 1), bk := D.nx } σ2 H2) (hd : ∀ σ H, Pv n σ H → D.nx σ H) : ForR (Itz K a b) g tb D σ H := by
  refine for_it (walk_zip (xs := xs) (ys := ys) (n := n) hl) (fun i σ H => Pv i σ H) h0 (fun i σ H hi p => hq i σ H hi p) (fun i v σ H H' hi p y => ?_) (fun σ H p => hd σ H p)
  obtain ⟨t, x1, x2, rfl, nt, rfl, e1, e2⟩ := y
  exact hs i x1 x2 σ H t _ e1 e2 p nt (Same.new nt) upd_same
end
theorem cutV_from {xs : List V} {i : Nat} : cutV xs (some (i : Int)) none = xs.drop i := by
  unfold cutV
  have e1 : HT.sIx xs.length 0 (some (i : Int)) = min i xs.length := by unfold HT.sIx; simp; omega
  have e2 : HT.sIx xs.length xs.length none = xs.length := by unfold HT.sIx; simp
  rw [e1, e2, List.take_of_length_le (by rw [List.length_drop]; exact Nat.le_refl _)]
  by_cases h : i ≤ xs.length
  · rw [Nat.min_eq_left h]
  · rw [List.drop_eq_nil_of_le (by omega), List.drop_eq_nil_of_le (by omega)]
theorem chB_iff : ∀ {ds : List Deed}, chB ds = true ↔ ∀ (k : Nat) (d e : Deed), ds[k]? = some d → ds[k + 1]? = some e → nxB d e = true
  | [] => ⟨fun _ k d e h => by simp at h, fun _ => rfl⟩
  | [d] => ⟨fun _ k d e _ h => by simp at h, fun _ => rfl⟩
  | d :: e :: r => by
    rw [chB, Bool.and_eq_true, chB_iff (ds := e :: r)]
    constructor
    · rintro ⟨h1, h2⟩ k x y hx hy
      cases k with
      | zero =>
        have a := Option.some.inj hx
        have b := Option.some.inj hy
        rw [← a, ← b]
        exact h1
      | succ k => exact h2 k x y hx hy
    · intro h
      exact ⟨h 0 d e rfl rfl, fun k x y hx hy => h (k + 1) x y hx hy⟩
theorem okDs_snoc {l : List Nat} {ds : List Deed} {d : Deed} (h : okDs l ds = true) (hd : okB l d = true) (hn : ∀ e ∈ ds, nxB e d = true) : okDs l (ds ++ [d]) = true := by
  unfold okDs at h ⊢
  rw [Bool.and_eq_true] at h ⊢
  refine ⟨by rw [List.all_append, h.1]; simp [hd], chB_iff.mpr fun k x y hx hy => ?_⟩
  have hk : k + 1 < ds.length + 1 := by have := (List.getElem?_eq_some_iff.mp hy).1; simpa using this
  rw [List.getElem?_append_left (by omega)] at hx
  by_cases hk2 : k + 1 < ds.length
  · rw [List.getElem?_append_left hk2] at hy
    exact chB_iff.mp h.2 k x y hx hy
  · rw [List.getElem?_append_right (by omega), show k + 1 - ds.length = 0 by omega] at hy
    rw [← Option.some.inj hy]
    exact hn x (List.mem_of_getElem? hx)
theorem nxB_lt {d e : Deed} (h : d.1 < e.1) : nxB d e = true := by
  unfold nxB
  rw [decide_eq_true h]
  rfl
theorem nxB_put {d e : Deed} (h : d.1 ≤ e.1) (hp : d.2.isPut = true) : nxB d e = true := by
  unfold nxB
  rw [hp]
  by_cases h1 : d.1 < e.1
  · rw [decide_eq_true h1]; rfl
  · rw [decide_eq_true (show d.1 = e.1 by omega)]; simp
theorem okDs_nil (l : List Nat) : okDs l [] = true := rfl
theorem brk_find : ∀ c ∈ BRK, Txt.find (S BRK) (S [c]) = ((BRK.idxOf c : Nat) : Int) := by decide +kernel
theorem brk_oth : ∀ c ∈ BRK, ∀ r, r < 7 → BRK.getD ((BRK.idxOf c + 1 + r) % 8) 0 ∈ BRK ∧ BRK.getD ((BRK.idxOf c + 1 + r) % 8) 0 ≠ c := by decide
theorem brk_getD {k : Nat} (h : k < 8) : BRK[k]? = some (BRK.getD k 0) := by
  rw [List.getD_eq_getElem?_getD, List.getElem?_eq_getElem (show k < BRK.length from h)]
  rfl
theorem okDs_sg {l : List Nat} {ds : List Deed} (h : okDs l ds = true) : sgD ds := by
  intro d hd c hc
  unfold okDs at h
  rw [Bool.and_eq_true] at h
  have hb := List.all_eq_true.mp h.1 d hd
  have hlt : ∀ c ∈ BRK, c < 1114112 := by decide
  obtain ⟨p, w⟩ := d
  cases w with
  | put x =>
    have hc' : c = x := List.mem_singleton.mp hc
    have hb' : (decide (p ≤ l.length) && decide (x ∈ BRK)) = true := hb
    rw [Bool.and_eq_true] at hb'
    rw [hc']
    exact hlt x (of_decide_eq_true hb'.2)
  | str => cases hc
  | trn x =>
    have hc' : c = x := List.mem_singleton.mp hc
    unfold okB at hb
    dsimp only at hb
    cases e : l[p]? with
    | none => rw [e] at hb; cases hb
    | some y =>
      rw [e] at hb
      dsimp only at hb
      rw [Bool.and_eq_true, Bool.and_eq_true] at hb
      rw [hc']
      exact hlt x (of_decide_eq_true hb.2.1)
end Ly

set_option maxHeartbeats 4000000
namespace Ly
/-! ### deeds as rows of steps -/
inductive Stp where
  | kp (c : Nat)
  | st (c : Nat)
  | tn (c d : Nat)
  | pt (d : Nat)
  deriving DecidableEq
def Stp.i : Stp → List Nat
  | .kp c => [c]
  | .st c => [c]
  | .tn c _ => [c]
  | .pt _ => []
def Stp.o : Stp → List Nat
  | .kp c => [c]
  | .st _ => []
  | .tn _ d => [d]
  | .pt d => [d]
def Stp.ok : Stp → Prop
  | .kp _ => True
  | .st c => c ∈ BRK
  | .tn c d => c ∈ BRK ∧ d ∈ BRK ∧ d ≠ c
  | .pt d => d ∈ BRK
def Stp.inv : Stp → Stp
  | .kp c => .kp c
  | .st c => .pt c
  | .tn c d => .tn d c
  | .pt d => .st d
def inS (α : List Stp) : List Nat := (α.map Stp.i).flatten
def outS (α : List Stp) : List Nat := (α.map Stp.o).flatten
def okS (α : List Stp) : Prop := ∀ s ∈ α, s.ok
def invS (α : List Stp) : List Stp := α.map Stp.inv
def ddS : Nat → List Stp → List Deed
  | _, [] => []
  | p, .kp _ :: α => ddS (p + 1) α
  | p, .st _ :: α => (p, .str) :: ddS (p + 1) α
  | p, .tn _ d :: α => (p, .trn d) :: ddS (p + 1) α
  | p, .pt d :: α => (p, .put d) :: ddS p α
theorem inS_cons (s : Stp) (α : List Stp) : inS (s :: α) = s.i ++ inS α := rfl
theorem outS_cons (s : Stp) (α : List Stp) : outS (s :: α) = s.o ++ outS α := rfl
theorem inv_inv (α : List Stp) : invS (invS α) = α := by
  unfold invS
  rw [List.map_map]
  have : (Stp.inv ∘ Stp.inv) = id := by funext s; cases s <;> rfl
  rw [this, List.map_id]
theorem inv_in (α : List Stp) : inS (invS α) = outS α := by
  unfold inS outS invS
  rw [List.map_map]
  congr 1
  apply List.map_congr_left
  intro s _
  cases s <;> rfl
theorem inv_out (α : List Stp) : outS (invS α) = inS α := by
  unfold inS outS invS
  rw [List.map_map]
  congr 1
  apply List.map_congr_left
  intro s _
  cases s <;> rfl
theorem okS_inv {α : List Stp} (h : okS α) : okS (invS α) := by
  intro s hs
  obtain ⟨t, ht, rfl⟩ := List.mem_map.mp hs
  have := h t ht
  cases t with
  | kp c => trivial
  | st c => exact this
  | tn c d => exact ⟨this.2.1, this.1, Ne.symm this.2.2⟩
  | pt d => exact this
theorem dd_low : ∀ (α : List Stp) (p : Nat), low p (ddS p α)
  | [], p => fun d hd => by cases hd
  | .kp c :: α, p => fun d hd => by have := dd_low α (p + 1) d hd; omega
  | .st c :: α, p => low_cons.mpr ⟨Nat.le_refl _, fun d hd => by have := dd_low α (p + 1) d hd; omega⟩
  | .tn c e :: α, p => low_cons.mpr ⟨Nat.le_refl _, fun d hd => by have := dd_low α (p + 1) d hd; omega⟩
  | .pt c :: α, p => low_cons.mpr ⟨Nat.le_refl _, dd_low α p⟩
theorem doneAt_put {c p : Nat} (ds : List Deed) (r : List Nat) : doneAt ((p, Dw.put c) :: ds) p r = c :: doneAt ds p r := by
  have e4 : othD ((p, Dw.put c) :: ds) p = othD ds p := by
    rw [othD]
    cases othD ds p with
    | some w => rfl
    | none => dsimp only; rw [if_neg (by intro h; cases h.2)]
  cases r with
  | nil => rw [doneAt, doneAt, puts_cons, putc, if_pos rfl, e4]; rfl
  | cons x r => rw [doneAt, doneAt, puts_cons, putc, if_pos rfl, e4, doneAt_past ds r (p + 1) (by show p < p + 1; omega)]; rfl
theorem doneAt_oth {w : Dw} {p x : Nat} {ds : List Deed} (hw : w.isPut = false) (hl : low (p + 1) ds) (r : List Nat) : doneAt ((p, w) :: ds) p (x :: r) = w.s ++ doneAt ds (p + 1) r := by
  rw [doneAt, puts_cons, putc, if_pos rfl, puts_low hl, othD, oth_low hl, doneAt_past ds _ (p + 1) (by show p < p + 1; omega)]
  dsimp only
  rw [if_pos ⟨rfl, hw⟩]
  cases w with
  | put c => cases hw
  | str => rfl
  | trn c => rfl
theorem doneAt_none {p x : Nat} {ds : List Deed} (hl : low (p + 1) ds) (r : List Nat) : doneAt ds p (x :: r) = x :: doneAt ds (p + 1) r := by
  rw [doneAt, puts_low hl, oth_low hl]
  rfl
theorem done_out : ∀ (α : List Stp) (p : Nat), doneAt (ddS p α) p (inS α) = outS α
  | [], p => rfl
  | .kp c :: α, p => by
    show doneAt (ddS (p + 1) α) p (c :: inS α) = c :: outS α
    rw [doneAt_none (dd_low α (p + 1)), done_out α (p + 1)]
  | .st c :: α, p => by
    show doneAt ((p, .str) :: ddS (p + 1) α) p (c :: inS α) = outS α
    rw [doneAt_oth rfl (dd_low α (p + 1)), done_out α (p + 1)]
    rfl
  | .tn c d :: α, p => by
    show doneAt ((p, .trn d) :: ddS (p + 1) α) p (c :: inS α) = d :: outS α
    rw [doneAt_oth rfl (dd_low α (p + 1)), done_out α (p + 1)]
    rfl
  | .pt d :: α, p => by
    show doneAt ((p, .put d) :: ddS p α) p (inS α) = d :: outS α
    rw [doneAt_put, done_out α p]
/-! the row of steps of deeds -/
def alS : Nat → List Nat → List Deed → Nat → List Stp
  | _, [], [], _ => []
  | _, x :: l, [], 0 => []
  | p, x :: l, [], n + 1 => .kp x :: alS (p + 1) l [] n
  | _, _, _ :: _, 0 => []
  | p, l, (q, .put c) :: r, n + 1 => if q = p then .pt c :: alS p l r n else (match l with
    | [] => []
    | x :: l' => .kp x :: alS (p + 1) l' ((q, .put c) :: r) n)
  | p, [], (q, .str) :: r, n + 1 => []
  | p, x :: l, (q, .str) :: r, n + 1 => if q = p then .st x :: alS (p + 1) l r n else .kp x :: alS (p + 1) l ((q, .str) :: r) n
  | p, [], (q, .trn d) :: r, n + 1 => []
  | p, x :: l, (q, .trn d) :: r, n + 1 => if q = p then .tn x d :: alS (p + 1) l r n else .kp x :: alS (p + 1) l ((q, .trn d) :: r) n
/-- valid by itself, the text standing from place p on -/
def okP (p : Nat) (l : List Nat) (d : Deed) : Prop := p ≤ d.1 ∧ okB l (d.1 - p, d.2) = true
theorem okP_skip {p x : Nat} {l : List Nat} {d : Deed} (h : okP p (x :: l) d) (hp : p + 1 ≤ d.1) : okP (p + 1) l d := by
  obtain ⟨h1, h2⟩ := h
  obtain ⟨q, w⟩ := d
  have e : q - p = (q - (p + 1)) + 1 := by have : p + 1 ≤ q := hp; omega
  refine ⟨hp, ?_⟩
  unfold okB at h2 ⊢
  cases w with
  | put c =>
    dsimp only at h2 ⊢
    rw [Bool.and_eq_true] at h2 ⊢
    refine ⟨decide_eq_true ?_, h2.2⟩
    have := of_decide_eq_true h2.1
    rw [e, List.length_cons] at this
    omega
  | str =>
    dsimp only at h2 ⊢
    rw [e, List.getElem?_cons_succ] at h2
    exact h2
  | trn c =>
    dsimp only at h2 ⊢
    rw [e, List.getElem?_cons_succ] at h2
    exact h2
theorem al_all : ∀ (n p : Nat) (l : List Nat) (ds : List Deed), l.length + ds.length ≤ n → (∀ d ∈ ds, okP p l d) → chB ds = true → ddS p (alS p l ds n) = ds ∧ inS (alS p l ds n) = l ∧ okS (alS p l ds n)
  | n, p, [], [], _, _, _ => by
    rw [alS]
    exact ⟨rfl, rfl, fun s hs => by cases hs⟩
  | 0, p, x :: l, [], h, _, _ => by simp at h
  | n + 1, p, x :: l, [], h, _, _ => by
    rw [alS]
    obtain ⟨h1, h2, h3⟩ := al_all n (p + 1) l [] (by simp at h ⊢; omega) (fun d hd => by cases hd) rfl
    refine ⟨h1, by rw [inS_cons, h2]; rfl, fun s hs => ?_⟩
    rcases List.mem_cons.mp hs with rfl | hs
    · trivial
    · exact h3 s hs
  | 0, p, l, d :: ds, h, _, _ => by simp at h
  | n + 1, p, l, (q, .put c) :: r, h, hv, hc => by
    obtain ⟨c1, c2, c3⟩ := chB_low hc
    have hd := hv _ (List.mem_cons_self ..)
    have hal : alS p l ((q, .put c) :: r) (n + 1) = if q = p then .pt c :: alS p l r n else (match l with
      | [] => []
      | x :: l' => .kp x :: alS (p + 1) l' ((q, .put c) :: r) n) := by cases l <;> simp only [alS]
    rw [hal]
    by_cases e : q = p
    · rw [if_pos e]
      obtain ⟨h1, h2, h3⟩ := al_all n p l r (by simp at h ⊢; omega) (fun d hd => hv d (List.mem_cons_of_mem _ hd)) c3
      refine ⟨by rw [ddS, h1, e], by rw [inS_cons, h2]; rfl, fun s hs => ?_⟩
      rcases List.mem_cons.mp hs with rfl | hs
      · have := hd.2
        unfold okB at this
        dsimp only at this
        rw [Bool.and_eq_true] at this
        show c ∈ BRK
        exact of_decide_eq_true this.2
      · exact h3 s hs
    · rw [if_neg e]
      have hq : p + 1 ≤ q := by have : p ≤ q := hd.1; omega
      cases l with
      | nil =>
        have := (okB_le hd.2).1
        simp at this
        omega
      | cons x l =>
        obtain ⟨h1, h2, h3⟩ := al_all n (p + 1) l ((q, .put c) :: r) (by simp at h ⊢; omega) (fun d hd => okP_skip (hv d hd) (by
          rcases List.mem_cons.mp hd with rfl | hd
          · exact hq
          · have := c1 d hd; have : q ≤ d.1 := this; omega)) hc
        refine ⟨h1, by rw [inS_cons, h2]; rfl, fun s hs => ?_⟩
        rcases List.mem_cons.mp hs with rfl | hs
        · trivial
        · exact h3 s hs
  | n + 1, p, [], (q, .str) :: r, h, hv, hc => by
    have := (okB_le (hv _ (List.mem_cons_self ..)).2).2 rfl
    simp at this
  | n + 1, p, x :: l, (q, .str) :: r, h, hv, hc => by
    obtain ⟨c1, c2, c3⟩ := chB_low hc
    have hd := hv _ (List.mem_cons_self ..)
    have c2' : low (q + 1) r := c2 rfl
    rw [alS]
    by_cases e : q = p
    · rw [if_pos e]
      obtain ⟨h1, h2, h3⟩ := al_all n (p + 1) l r (by simp at h ⊢; omega) (fun d hd => okP_skip (hv d (List.mem_cons_of_mem _ hd)) (by have := c2' d hd; omega)) c3
      refine ⟨by rw [ddS, h1, e], by rw [inS_cons, h2]; rfl, fun s hs => ?_⟩
      rcases List.mem_cons.mp hs with rfl | hs
      · have := hd.2
        unfold okB at this
        dsimp only at this
        rw [show q - p = 0 by omega] at this
        show x ∈ BRK
        exact of_decide_eq_true this
      · exact h3 s hs
    · rw [if_neg e]
      have hq : p + 1 ≤ q := by have : p ≤ q := hd.1; omega
      obtain ⟨h1, h2, h3⟩ := al_all n (p + 1) l ((q, .str) :: r) (by simp at h ⊢; omega) (fun d hd => okP_skip (hv d hd) (by
          rcases List.mem_cons.mp hd with rfl | hd
          · exact hq
          · have := c1 d hd; have : q ≤ d.1 := this; omega)) hc
      refine ⟨h1, by rw [inS_cons, h2]; rfl, fun s hs => ?_⟩
      rcases List.mem_cons.mp hs with rfl | hs
      · trivial
      · exact h3 s hs
  | n + 1, p, [], (q, .trn c) :: r, h, hv, hc => by
    have := (okB_le (hv _ (List.mem_cons_self ..)).2).2 rfl
    simp at this
  | n + 1, p, x :: l, (q, .trn c) :: r, h, hv, hc => by
    obtain ⟨c1, c2, c3⟩ := chB_low hc
    have hd := hv _ (List.mem_cons_self ..)
    have c2' : low (q + 1) r := c2 rfl
    rw [alS]
    by_cases e : q = p
    · rw [if_pos e]
      obtain ⟨h1, h2, h3⟩ := al_all n (p + 1) l r (by simp at h ⊢; omega) (fun d hd => okP_skip (hv d (List.mem_cons_of_mem _ hd)) (by have := c2' d hd; omega)) c3
      refine ⟨by rw [ddS, h1, e], by rw [inS_cons, h2]; rfl, fun s hs => ?_⟩
      rcases List.mem_cons.mp hs with rfl | hs
      · have := hd.2
        unfold okB at this
        dsimp only at this
        rw [show q - p = 0 by omega] at this
        dsimp only [List.getElem?_cons_zero] at this
        rw [Bool.and_eq_true, Bool.and_eq_true] at this
        exact ⟨of_decide_eq_true this.1, of_decide_eq_true this.2.1, by simpa using this.2.2⟩
      · exact h3 s hs
    · rw [if_neg e]
      have hq : p + 1 ≤ q := by have : p ≤ q := hd.1; omega
      obtain ⟨h1, h2, h3⟩ := al_all n (p + 1) l ((q, .trn c) :: r) (by simp at h ⊢; omega) (fun d hd => okP_skip (hv d hd) (by
          rcases List.mem_cons.mp hd with rfl | hd
          · exact hq
          · have := c1 d hd; have : q ≤ d.1 := this; omega)) hc
      refine ⟨h1, by rw [inS_cons, h2]; rfl, fun s hs => ?_⟩
      rcases List.mem_cons.mp hs with rfl | hs
      · trivial
      · exact h3 s hs
/-- deeds of a text are a row of steps -/
theorem row_of {l : List Nat} {ds : List Deed} (h : okDs l ds = true) : ∃ α, ddS 0 α = ds ∧ inS α = l ∧ okS α ∧ outS α = doneL l ds := by
  unfold okDs at h
  rw [Bool.and_eq_true] at h
  obtain ⟨h1, h2, h3⟩ := al_all (l.length + ds.length) 0 l ds (Nat.le_refl _) (fun d hd => ⟨Nat.zero_le _, List.all_eq_true.mp h.1 d hd⟩) h.2
  generalize alS 0 l ds (l.length + ds.length) = α at h1 h2 h3
  refine ⟨α, h1, h2, h3, ?_⟩
  rw [doneL_at, ← h1, ← h2, done_out]
theorem dd_chain : ∀ (α : List Stp) (p : Nat), chB (ddS p α) = true
  | [], p => rfl
  | .kp c :: α, p => dd_chain α (p + 1)
  | .st c :: α, p => by
    have h := dd_chain α (p + 1)
    have hl := dd_low α (p + 1)
    rw [ddS]
    cases e : ddS (p + 1) α with
    | nil => rfl
    | cons d ds =>
      rw [e] at h hl
      rw [chB, h, Bool.and_true]
      exact nxB_lt (by have := (low_cons.mp hl).1; show p < d.1; omega)
  | .tn c x :: α, p => by
    have h := dd_chain α (p + 1)
    have hl := dd_low α (p + 1)
    rw [ddS]
    cases e : ddS (p + 1) α with
    | nil => rfl
    | cons d ds =>
      rw [e] at h hl
      rw [chB, h, Bool.and_true]
      exact nxB_lt (by have := (low_cons.mp hl).1; show p < d.1; omega)
  | .pt c :: α, p => by
    have h := dd_chain α p
    have hl := dd_low α p
    rw [ddS]
    cases e : ddS p α with
    | nil => rfl
    | cons d ds =>
      rw [e] at h hl
      rw [chB, h, Bool.and_true]
      exact nxB_put (by have := (low_cons.mp hl).1; show p ≤ d.1; omega) rfl
theorem okB_app {pre l : List Nat} {d : Deed} (h : okB l d = true) : okB (pre ++ l) (pre.length + d.1, d.2) = true := by
  obtain ⟨q, w⟩ := d
  unfold okB at h ⊢
  cases w with
  | put c =>
    dsimp only at h ⊢
    rw [Bool.and_eq_true] at h ⊢
    refine ⟨decide_eq_true ?_, h.2⟩
    have := of_decide_eq_true h.1
    rw [List.length_append]
    omega
  | str =>
    dsimp only at h ⊢
    rw [List.getElem?_append_right (by omega), show pre.length + q - pre.length = q by omega]
    exact h
  | trn c =>
    dsimp only at h ⊢
    rw [List.getElem?_append_right (by omega), show pre.length + q - pre.length = q by omega]
    exact h
theorem dd_ok : ∀ (α : List Stp) (pre : List Nat), okS α → ∀ d ∈ ddS pre.length α, okB (pre ++ inS α) d = true
  | [], pre, _, d, hd => by cases hd
  | .kp c :: α, pre, h, d, hd => by
    have := dd_ok α (pre ++ [c]) (fun s hs => h s (List.mem_cons_of_mem _ hs)) d (by rw [List.length_append]; exact hd)
    rw [List.append_assoc] at this
    exact this
  | .st c :: α, pre, h, d, hd => by
    rcases List.mem_cons.mp hd with rfl | hd
    · have hb : c ∈ BRK := h _ (List.mem_cons_self ..)
      have := okB_app (pre := pre) (l := inS (.st c :: α)) (d := (0, .str)) (by show decide (c ∈ BRK) = true; exact decide_eq_true hb)
      exact this
    · have := dd_ok α (pre ++ [c]) (fun s hs => h s (List.mem_cons_of_mem _ hs)) d (by rw [List.length_append]; exact hd)
      rw [List.append_assoc] at this
      exact this
  | .tn c e :: α, pre, h, d, hd => by
    rcases List.mem_cons.mp hd with rfl | hd
    · have hb : c ∈ BRK ∧ e ∈ BRK ∧ e ≠ c := h _ (List.mem_cons_self ..)
      have := okB_app (pre := pre) (l := inS (.tn c e :: α)) (d := (0, .trn e)) (by
        show (decide (c ∈ BRK) && (decide (e ∈ BRK) && !decide (e = c))) = true
        rw [decide_eq_true hb.1, decide_eq_true hb.2.1, decide_eq_false hb.2.2]
        rfl)
      exact this
    · have := dd_ok α (pre ++ [c]) (fun s hs => h s (List.mem_cons_of_mem _ hs)) d (by rw [List.length_append]; exact hd)
      rw [List.append_assoc] at this
      exact this
  | .pt c :: α, pre, h, d, hd => by
    rcases List.mem_cons.mp hd with rfl | hd
    · have hb : c ∈ BRK := h _ (List.mem_cons_self ..)
      have := okB_app (pre := pre) (l := inS (.pt c :: α)) (d := (0, .put c)) (by
        show (decide (0 ≤ (inS (Stp.pt c :: α)).length) && decide (c ∈ BRK)) = true
        rw [decide_eq_true (Nat.zero_le _), decide_eq_true hb]
        rfl)
      exact this
    · exact dd_ok α pre (fun s hs => h s (List.mem_cons_of_mem _ hs)) d hd
theorem row_ok {α : List Stp} (h : okS α) : okDs (inS α) (ddS 0 α) = true := by
  unfold okDs
  rw [dd_chain, Bool.and_true]
  exact List.all_eq_true.mpr fun d hd => dd_ok α [] h d hd
theorem row_done (α : List Stp) : doneL (inS α) (ddS 0 α) = outS α := by rw [doneL_at, done_out]
/-! ### deeds that lead back -/
def strk : Nat → Nat → List Deed
  | _, 0 => []
  | s, k + 1 => (s, .str) :: strk (s + 1) k
def bpc (x : List Nat) (o : Option Dw) (s : Nat) : List Deed × Nat := match x, o with
  | [c], some .str => ([(s, .put c)], s)
  | [c], some _ => ([(s, .trn c)], s + 1)
  | _, _ => ([], s + 1)
def bst (l : List Nat) (ds : List Deed) : Nat → List Deed × Nat
  | 0 => ([], 0)
  | n + 1 => let b := bst l ds n
    let k := (puts ds n).length
    let c := bpc ((l.drop n).take 1) (othD ds n) (b.2 + k)
    (b.1 ++ strk b.2 k ++ c.1, c.2)
def backL (l : List Nat) (ds : List Deed) : List Deed := (bst l ds (l.length + 1)).1
def backAt (ds : List Deed) : Nat → List Nat → Nat → List Deed
  | p, [], s => strk s (puts ds p).length ++ (bpc [] (othD ds p) (s + (puts ds p).length)).1
  | p, x :: r, s => strk s (puts ds p).length ++ (bpc [x] (othD ds p) (s + (puts ds p).length)).1 ++ backAt ds (p + 1) r (bpc [x] (othD ds p) (s + (puts ds p).length)).2
theorem bst_at (l : List Nat) (ds : List Deed) : ∀ (r : List Nat) (n : Nat), l.drop n = r → n + r.length = l.length → (bst l ds (l.length + 1)).1 = (bst l ds n).1 ++ backAt ds n r (bst l ds n).2
  | [], n, h, hl => by
    have : n = l.length := by simpa using hl
    subst this
    rw [bst, backAt]
    dsimp only
    rw [h]
    simp
  | x :: r, n, h, hl => by
    rw [bst_at l ds r (n + 1) (by rw [← List.drop_drop, h]; rfl) (by simp at hl; omega), backAt, bst]
    dsimp only
    rw [h]
    simp
theorem backL_at (l : List Nat) (ds : List Deed) : backL l ds = backAt ds 0 l 0 := by
  unfold backL
  rw [bst_at l ds l 0 (by simp) (by simp)]
  rfl
theorem backAt_past {d : Deed} (ds : List Deed) : ∀ (r : List Nat) (p s : Nat), d.1 < p → backAt (d :: ds) p r s = backAt ds p r s
  | r, p, s, h => by
    have e1 : puts (d :: ds) p = puts ds p := by rw [puts_cons, putc, if_neg (by omega)]; rfl
    have e2 : othD (d :: ds) p = othD ds p := by
      rw [othD]
      cases othD ds p with
      | some w => rfl
      | none => dsimp only; rw [if_neg (by omega)]
    cases r with
    | nil => rw [backAt, backAt, e1, e2]
    | cons x r => rw [backAt, backAt, e1, e2, backAt_past ds r (p + 1) _ (by omega)]
theorem backAt_put {c p : Nat} (ds : List Deed) (r : List Nat) (s : Nat) : backAt ((p, Dw.put c) :: ds) p r s = (s, .str) :: backAt ds p r (s + 1) := by
  have e4 : othD ((p, Dw.put c) :: ds) p = othD ds p := by
    rw [othD]
    cases othD ds p with
    | some w => rfl
    | none => dsimp only; rw [if_neg (by intro h; cases h.2)]
  have e5 : (puts ((p, Dw.put c) :: ds) p).length = (puts ds p).length + 1 := by rw [puts_cons, putc, if_pos rfl]; simp [Nat.add_comm]
  have e6 : s + ((puts ds p).length + 1) = s + 1 + (puts ds p).length := by omega
  cases r with
  | nil => rw [backAt, backAt, e4, e5, strk, e6]; rfl
  | cons x r => rw [backAt, backAt, e4, e5, strk, e6, backAt_past ds r (p + 1) _ (by show p < p + 1; omega)]; rfl
theorem back_row : ∀ (α : List Stp) (p s : Nat), backAt (ddS p α) p (inS α) s = ddS s (invS α)
  | [], p, s => rfl
  | .kp c :: α, p, s => by
    have hl := dd_low α (p + 1)
    show backAt (ddS (p + 1) α) p (c :: inS α) s = ddS (s + 1) (invS α)
    rw [backAt, puts_low hl, oth_low hl]
    exact back_row α (p + 1) (s + 1)
  | .st c :: α, p, s => by
    have hl := dd_low α (p + 1)
    show backAt ((p, .str) :: ddS (p + 1) α) p (c :: inS α) s = (s, .put c) :: ddS s (invS α)
    rw [backAt, puts_cons, putc, if_pos rfl, puts_low hl, othD, oth_low hl, backAt_past _ _ (p + 1) _ (by show p < p + 1; omega)]
    dsimp only
    rw [if_pos ⟨rfl, rfl⟩, ← back_row α (p + 1) s]
    rfl
  | .tn c d :: α, p, s => by
    have hl := dd_low α (p + 1)
    show backAt ((p, .trn d) :: ddS (p + 1) α) p (c :: inS α) s = (s, .trn c) :: ddS (s + 1) (invS α)
    rw [backAt, puts_cons, putc, if_pos rfl, puts_low hl, othD, oth_low hl, backAt_past _ _ (p + 1) _ (by show p < p + 1; omega)]
    dsimp only
    rw [if_pos ⟨rfl, rfl⟩, ← back_row α (p + 1) (s + 1)]
    rfl
  | .pt d :: α, p, s => by
    show backAt ((p, .put d) :: ddS p α) p (inS α) s = (s, .str) :: ddS (s + 1) (invS α)
    rw [backAt_put, back_row α p (s + 1)]
theorem row_back (α : List Stp) : backL (inS α) (ddS 0 α) = ddS 0 (invS α) := by rw [backL_at, back_row]
theorem back_all {l : List Nat} {ds : List Deed} (h : okDs l ds = true) : okDs (doneL l ds) (backL l ds) = true ∧ doneL (doneL l ds) (backL l ds) = l ∧ backL (doneL l ds) (backL l ds) = ds := by
  obtain ⟨α, h1, h2, h3, h4⟩ := row_of h
  have hb : backL l ds = ddS 0 (invS α) := by rw [← h1, ← h2, row_back]
  have hi : doneL l ds = inS (invS α) := by rw [inv_in, h4]
  rw [hb, hi]
  exact ⟨row_ok (okS_inv h3), by rw [row_done, inv_out, h2], by rw [row_back, inv_inv, h1]⟩
def cntW (w : List Nat) (ds : List Deed) : Nat := ds.countP fun d => decide (d.2.w = w)
theorem dd_cnt : ∀ (α : List Stp) (p s : Nat), cntW [112, 117, 116] (ddS s (invS α)) = cntW [115, 116, 114, 105, 107, 101] (ddS p α) ∧ cntW [115, 116, 114, 105, 107, 101] (ddS s (invS α)) = cntW [112, 117, 116] (ddS p α) ∧ cntW [116, 117, 114, 110] (ddS s (invS α)) = cntW [116, 117, 114, 110] (ddS p α)
  | [], p, s => ⟨rfl, rfl, rfl⟩
  | .kp c :: α, p, s => dd_cnt α (p + 1) (s + 1)
  | .st c :: α, p, s => by
    obtain ⟨h1, h2, h3⟩ := dd_cnt α (p + 1) s
    unfold cntW at h1 h2 h3 ⊢
    show (((s, Dw.put c) :: ddS s (invS α)).countP _ = ((p, Dw.str) :: ddS (p + 1) α).countP _) ∧ (((s, Dw.put c) :: ddS s (invS α)).countP _ = ((p, Dw.str) :: ddS (p + 1) α).countP _) ∧ (((s, Dw.put c) :: ddS s (invS α)).countP _ = ((p, Dw.str) :: ddS (p + 1) α).countP _)
    simp only [List.countP_cons, h1, h2, h3]
    exact ⟨rfl, rfl, rfl⟩
  | .tn c d :: α, p, s => by
    obtain ⟨h1, h2, h3⟩ := dd_cnt α (p + 1) (s + 1)
    unfold cntW at h1 h2 h3 ⊢
    show (((s, Dw.trn c) :: ddS (s + 1) (invS α)).countP _ = ((p, Dw.trn d) :: ddS (p + 1) α).countP _) ∧ (((s, Dw.trn c) :: ddS (s + 1) (invS α)).countP _ = ((p, Dw.trn d) :: ddS (p + 1) α).countP _) ∧ (((s, Dw.trn c) :: ddS (s + 1) (invS α)).countP _ = ((p, Dw.trn d) :: ddS (p + 1) α).countP _)
    simp only [List.countP_cons, h1, h2, h3]
    exact ⟨rfl, rfl, rfl⟩
  | .pt d :: α, p, s => by
    obtain ⟨h1, h2, h3⟩ := dd_cnt α p (s + 1)
    unfold cntW at h1 h2 h3 ⊢
    show (((s, Dw.str) :: ddS (s + 1) (invS α)).countP _ = ((p, Dw.put d) :: ddS p α).countP _) ∧ (((s, Dw.str) :: ddS (s + 1) (invS α)).countP _ = ((p, Dw.put d) :: ddS p α).countP _) ∧ (((s, Dw.str) :: ddS (s + 1) (invS α)).countP _ = ((p, Dw.put d) :: ddS p α).countP _)
    simp only [List.countP_cons, h1, h2, h3]
    exact ⟨rfl, rfl, rfl⟩
theorem back_cnt {l : List Nat} {ds : List Deed} (h : okDs l ds = true) : cntW [112, 117, 116] (backL l ds) = cntW [115, 116, 114, 105, 107, 101] ds ∧ cntW [115, 116, 114, 105, 107, 101] (backL l ds) = cntW [112, 117, 116] ds ∧ cntW [116, 117, 114, 110] (backL l ds) = cntW [116, 117, 114, 110] ds := by
  obtain ⟨α, h1, h2, h3, h4⟩ := row_of h
  have hb : backL l ds = ddS 0 (invS α) := by rw [← h1, ← h2, row_back]
  rw [hb, ← h1]
  exact dd_cnt α 0 0
theorem dd_len : ∀ (α : List Stp) (p s : Nat), (ddS s (invS α)).length = (ddS p α).length
  | [], p, s => rfl
  | .kp c :: α, p, s => dd_len α (p + 1) (s + 1)
  | .st c :: α, p, s => congrArg (· + 1) (dd_len α (p + 1) s)
  | .tn c d :: α, p, s => congrArg (· + 1) (dd_len α (p + 1) (s + 1))
  | .pt d :: α, p, s => congrArg (· + 1) (dd_len α p (s + 1))
theorem back_len {l : List Nat} {ds : List Deed} (h : okDs l ds = true) : (backL l ds).length = ds.length := by
  obtain ⟨α, h1, h2, h3, h4⟩ := row_of h
  rw [show backL l ds = ddS 0 (invS α) by rw [← h1, ← h2, row_back], ← h1]
  exact dd_len α 0 0
/-! ### rows of old and new signs -/
def othL (ds : List Deed) (p : Nat) : List (List Nat) := (ds.filter fun d => decide (d.1 = p) && !d.2.isPut).map fun d => d.2.s
theorem othL_nil {ds : List Deed} {p : Nat} (h : low (p + 1) ds) : othL ds p = [] := by
  unfold othL
  rw [List.filter_eq_nil_iff.mpr fun d hd => by have := h d hd; simp; omega]
  rfl
theorem othL_mid {x : Nat} {p : Nat} : ∀ {ds : List Deed}, chB ds = true → (othL ds p ++ [[x]])[0]? = some (mid (othD ds p) [x])
  | [], _ => rfl
  | (q, w) :: ds, h => by
    obtain ⟨h1, h2, h3⟩ := chB_low h
    have ih := othL_mid (x := x) (p := p) h3
    by_cases e : q = p ∧ w.isPut = false
    · have hl : low (p + 1) ds := by rw [← e.1]; exact h2 e.2
      have e1 : othL ((q, w) :: ds) p = [w.s] := by
        have := othL_nil hl
        unfold othL at this ⊢
        rw [List.filter_cons_of_pos (by simp [e.1, e.2]), List.map_cons, this]
      rw [e1, othD, oth_low hl]
      dsimp only
      rw [if_pos e]
      rfl
    · have e1 : othL ((q, w) :: ds) p = othL ds p := by
        unfold othL
        rw [List.filter_cons_of_neg]
        intro hc
        rw [Bool.and_eq_true] at hc
        exact e ⟨of_decide_eq_true hc.1, by simpa using hc.2⟩
      have e2 : othD ((q, w) :: ds) p = othD ds p := by
        rw [othD]
        cases othD ds p with
        | some w => rfl
        | none => dsimp only; rw [if_neg e]
      rw [e1, e2]
      exact ih
theorem othD_ok {p : Nat} {w : Dw} : ∀ {ds : List Deed}, othD ds p = some w → (p, w) ∈ ds ∧ w.isPut = false
  | [], h => by cases h
  | (q, v) :: ds, h => by
    rw [othD] at h
    cases e : othD ds p with
    | some u =>
      rw [e] at h
      have := Option.some.inj h
      subst this
      obtain ⟨h1, h2⟩ := othD_ok e
      exact ⟨List.mem_cons_of_mem _ h1, h2⟩
    | none =>
      rw [e] at h
      dsimp only at h
      split at h
      · rename_i hc
        have := Option.some.inj h
        subst this
        rw [← hc.1]
        exact ⟨List.mem_cons_self .., hc.2⟩
      · cases h
abbrev Rw := Option Nat × List Nat
def oldT : Option Nat → List Nat
  | none => []
  | some c => [c]
def mrkP (l : List Nat) (ds : List Deed) (p : Nat) : List Rw := (puts ds p).map (fun c => ((none, [c]) : Rw)) ++ (match l[p]? with
  | some x => [((some x, mid (othD ds p) [x]) : Rw)]
  | none => [])
def mrkTo (l : List Nat) (ds : List Deed) (n : Nat) : List Rw := ((List.range n).map (mrkP l ds)).flatten
theorem mrkTo_succ (l : List Nat) (ds : List Deed) (n : Nat) : mrkTo l ds (n + 1) = mrkTo l ds n ++ mrkP l ds n := by
  unfold mrkTo
  rw [List.range_succ, List.map_append, List.flatten_append]
  simp
def dstep (b : List Deed × Nat) (r : Rw) : List Deed × Nat := match r.1 with
  | none => (b.1 ++ [(b.2, .str)], b.2 + r.2.length)
  | some c => if r.2 = [] then (b.1 ++ [(b.2, .put c)], b.2 + r.2.length) else if r.2 = [c] then (b.1, b.2 + r.2.length) else (b.1 ++ [(b.2, .trn c)], b.2 + r.2.length)
def dueL (rs : List Rw) : List Deed × Nat := rs.foldl dstep ([], 0)
theorem due_puts : ∀ (cs : List Nat) (b : List Deed × Nat), (cs.map (fun c => ((none, [c]) : Rw))).foldl dstep b = (b.1 ++ strk b.2 cs.length, b.2 + cs.length)
  | [], b => by simp [strk]
  | c :: cs, b => by
    rw [List.map_cons, List.foldl_cons, due_puts cs]
    show ((b.1 ++ [(b.2, Dw.str)]) ++ strk (b.2 + 1) cs.length, b.2 + 1 + cs.length) = (b.1 ++ strk b.2 (cs.length + 1), b.2 + (cs.length + 1))
    rw [strk, List.append_assoc]
    congr 1
    omega
theorem due_bst {l : List Nat} {ds : List Deed} (h : okDs l ds = true) : ∀ n, n ≤ l.length → dueL (mrkTo l ds n) = bst l ds n
  | 0, _ => rfl
  | n + 1, hn => by
    have hx : l[n]? = some l[n] := List.getElem?_eq_getElem (by omega)
    have hd : (l.drop n).take 1 = [l[n]] := by rw [List.drop_eq_getElem_cons (by omega)]; rfl
    unfold dueL
    rw [mrkTo_succ, List.foldl_append]
    have ih := due_bst h n (by omega)
    unfold dueL at ih
    rw [ih, mrkP, List.foldl_append, due_puts, hx, bst, hd]
    dsimp only
    generalize l[n] = x at hx
    cases e : othD ds n with
    | none =>
      show dstep _ ((some x, [x]) : Rw) = _
      unfold dstep
      dsimp only
      rw [if_neg (by simp), if_pos rfl]
      show (_, _) = (_ ++ [], _)
      rw [List.append_nil]
      rfl
    | some w =>
      obtain ⟨hm, hp⟩ := othD_ok e
      have hok : okB l (n, w) = true := by
        unfold okDs at h
        rw [Bool.and_eq_true] at h
        exact List.all_eq_true.mp h.1 _ hm
      cases w with
      | put c => cases hp
      | str => rfl
      | trn d =>
        have hne : d ≠ x := by
          unfold okB at hok
          dsimp only at hok
          rw [hx] at hok
          dsimp only at hok
          rw [Bool.and_eq_true, Bool.and_eq_true] at hok
          simpa using hok.2.2
        show dstep _ ((some x, [d]) : Rw) = _
        unfold dstep
        dsimp only
        rw [if_neg (by simp), if_neg (by simpa using hne)]
        rfl
theorem due_back {l : List Nat} {ds : List Deed} (h : okDs l ds = true) : (dueL (mrkTo l ds (l.length + 1))).1 = backL l ds := by
  unfold dueL
  have ih := due_bst h l.length (Nat.le_refl _)
  unfold dueL at ih
  rw [mrkTo_succ, List.foldl_append, ih, mrkP, List.foldl_append, due_puts, List.getElem?_eq_none (Nat.le_refl _)]
  unfold backL
  rw [bst]
  dsimp only
  rw [List.drop_eq_nil_of_le (Nat.le_refl _)]
  show _ = _ ++ (bpc [] (othD ds l.length) _).1
  have : ∀ o s, (bpc [] o s).1 = [] := fun o s => by cases o <;> rfl
  rw [this, List.append_nil]
  rfl
theorem bpc_len (x : List Nat) (o : Option Dw) (s : Nat) : (bpc x o s).1.length ≤ 1 ∧ (bpc x o s).2 ≤ s + 1 := by
  unfold bpc
  split <;> simp
theorem strk_len : ∀ (k s : Nat), (strk s k).length = k
  | 0, _ => rfl
  | k + 1, s => by rw [strk, List.length_cons, strk_len k]
theorem bst_len {l : List Nat} {ds : List Deed} : ∀ n, (bst l ds n).1.length ≤ n * (ds.length + 1) ∧ (bst l ds n).2 ≤ n * (ds.length + 1)
  | 0 => ⟨Nat.zero_le _, Nat.zero_le _⟩
  | n + 1 => by
    obtain ⟨h1, h2⟩ := bst_len (l := l) (ds := ds) n
    have hp : (puts ds n).length ≤ ds.length := by
      unfold puts
      rw [List.length_flatten, List.map_map]
      have : ∀ ds : List Deed, (ds.map (List.length ∘ putc n)).sum ≤ ds.length := by
        intro ds
        induction ds with
        | nil => exact Nat.le_refl _
        | cons d ds ih =>
          rw [List.map_cons, List.sum_cons, List.length_cons]
          have : (putc n d).length ≤ 1 := by
            unfold putc
            split
            · split <;> simp
            · simp
          show (putc n d).length + _ ≤ _
          omega
      exact this ds
    rw [bst, Nat.succ_mul]
    dsimp only
    obtain ⟨k1, k2⟩ := bpc_len ((l.drop n).take 1) (othD ds n) ((bst l ds n).2 + (puts ds n).length)
    constructor
    · rw [List.length_append, List.length_append, strk_len]
      omega
    · omega
theorem behind_len (l : List Nat) : ∀ ds : List Deed, (behind l ds).length ≤ l.length + ds.length
  | [] => Nat.le_refl _
  | d :: ds => by
    have ih := behind_len l ds
    show (app d (behind l ds)).length ≤ _
    unfold app
    split
    · simp; omega
    · rw [List.length_eraseIdx]; split <;> simp <;> omega
    · rw [List.length_set]; simp; omega
theorem done_len {l : List Nat} {ds : List Deed} (h : okDs l ds = true) : (doneL l ds).length ≤ l.length + ds.length := by
  rw [done_behind h]
  exact behind_len l ds
theorem done_sg {l : List Nat} {ds : List Deed} (h : okDs l ds = true) (hl : ∀ c ∈ l, isSg c) : ∀ c ∈ doneL l ds, isSg c := by
  obtain ⟨α, h1, h2, h3, h4⟩ := row_of h
  rw [← h4]
  rw [← h2] at hl
  intro c hc
  obtain ⟨x, hx, hcx⟩ := List.mem_flatten.mp hc
  obtain ⟨s, hs, rfl⟩ := List.mem_map.mp hx
  have hok := h3 s hs
  cases s with
  | kp d =>
    have : c = d := List.mem_singleton.mp hcx
    rw [this]
    exact hl d (List.mem_flatten.mpr ⟨[d], List.mem_map.mpr ⟨_, hs, rfl⟩, List.mem_singleton.mpr rfl⟩)
  | st d => cases hcx
  | tn d e =>
    have : c = e := List.mem_singleton.mp hcx
    rw [this]
    exact .inr hok.2.1
  | pt d =>
    have : c = d := List.mem_singleton.mp hcx
    rw [this]
    exact .inr hok
section
open PySem PySem.Spec PyProof.Rows L2 SX
variable {X : Cx} {tg : Expr}
theorem pi_listK {K : PySem.W.Frag} {l : Expr} {tl : TE} (hK : X.K = K) (hl : PE X l tl) : PI X tg l (iList K tl) := by
  subst hK
  exact pi_list hl
theorem pi_tupK {K : PySem.W.Frag} {l : Expr} {tl : TE} (hK : X.K = K) (hl : PE X l tl) : PI X tg l (iTup K tl) := by
  subst hK
  exact pi_tup hl
end
end Ly

set_option maxHeartbeats 4000000
namespace Ly
open PySem PySem.Spec PyProof.Rows L2 SX
/-! ### exceptions that are caught and kept -/
/-- an exception of the class at D that was caught, kept at a -/
def ExK (D a : Addr) : HO := .ext fun h => ∃ (oe : Obj) (vs : Array Value), h.get? a = some oe ∧ Zc (.ref D) none oe ∧ oe.data = .fields vs
theorem exK_ok {P : Program} {w : World} {H : Hp} {h : Heap} {D a : Addr} {oe : Obj} {vs : Array Value} (e : h.get? a = some oe) (z : Zc (.ref D) none oe) (d : oe.data = .fields vs) : ObjOk P w H h a (ExK D a) :=
  ⟨⟨oe, vs, e, z, d⟩, ⟨oe, e⟩, fun _ _ ⟨o, v, q, r⟩ k => ⟨o, v, k o q, r⟩⟩
section
variable {X : Cx} {pins : List (Addr × Obj)} {σ : L2.St} {H : Hp} {s : Shared}
theorem inv_track {a : Addr} {φ : Heap → Prop} (I : Inv X pins σ H s) (na : H a = none) (n0 : X.s_0.heap.get? a = none) (nL : a ≠ X.env.locals) (nC : ∀ x c, X.env.cells.lookup x = some c → c ≠ a) (np : ∀ p ∈ X.pn ++ pins, p.1 ≠ a)
    (new : ObjOk X.prog X.w (upd H a (.ext φ)) s.heap a (.ext φ)) : Inv X pins σ (upd H a (.ext φ)) s := by
  have ne0 : ∀ b o, X.s_0.heap.get? b = some o → b ≠ a := fun b o e z => by rw [z, n0] at e; cases e
  refine ⟨I.ok, I.os, I.bare, ⟨I.base.keep, I.base.slot, fun b o e n hb => ?_, I.base.there, fun b xs e => ?_, fun b o u e => ?_, fun b ps e => ?_⟩, I.loc, I.cell, ?_, fun x c e => ?_, fun p hp => ?_, fun b u e => ?_, I.len⟩
  · rw [upd_ne (ne0 b o e)]
    exact I.base.free b o e n hb
  · have q := I.base.tups b xs e
    rw [upd_ne (ne_of_none q na)]
    exact q
  · have q := I.base.frzs b o u e
    rw [upd_ne (ne_of_none q na)]
    exact q
  · obtain ⟨m, q⟩ := I.base.tbls b ps e
    refine ⟨m, ?_⟩
    rw [upd_ne (ne_of_none q na)]
    exact q
  · rw [upd_ne (Ne.symm nL)]
    exact I.free
  · rw [upd_ne (nC x c e)]
    exact I.freeC x c e
  · obtain ⟨h1, h2, h3⟩ := I.pin p hp
    refine ⟨h1, ?_, h3⟩
    rw [upd_ne (np p hp)]
    exact h2
  · by_cases hb : b = a
    · subst hb
      rw [upd_same] at e
      cases e
      exact new
    · rw [upd_ne hb] at e
      exact (I.hok b u e).stay (fun c v _ q => q) (fun c q => by rw [upd_ne (ne_of_none q na)]; exact q) fun c xs q => by rw [upd_ne (ne_of_none q na)]; exact q
end
/-- what the clause 'except x as n' wishes of an exception of the body that is kept behind the suite: slot i is n's -/
def wKp (K : PySem.W.Frag) (c : Value) (i : Nat) (ts : Addr → Value → Option Addr → TS) (Wout : WX) (D : Ends) : WX := fun cls d σ H =>
  ∃ b, PySem.W.exmOne K cls c = some b ∧ (b = true → ∃ C : Addr, cls = .ref C ∧ d = none ∧ ∀ a, H a = none → ts a cls d { nx := fun σ' H' => ∀ H2, H' a = none → Same H' H2 → H2 a = some (ExK C a) → D.nx (σ'.set i none) H2, rt := D.rt, bk := fun σ' H' => D.bk (σ'.set i none) H', ct := fun σ' H' => D.ct (σ'.set i none) H' } (σ.set i (some (.ref a))) H) ∧
    (b = false → Wout cls d σ H)
section
variable {X : Cx} {x n : Str} {c : Value} {i : Nat} {body suite : List Stmt} {b₀ : Stmt} {np pos pos' : Pos} {tb : WX → TS} {ts : Addr → Value → Option Addr → TS} {Wout : WX}
theorem ps_try_keep (hs : X.stack = X.env :: X.outer) (hf : X.env.frame = some X.env.locals) (hx : X.ex = []) (hN : X.N.Nodup) (hi : X.N[i]? = some n) (hln : X.env.kindOf n = some .local) (hc : Names X x c) (tk : Takes X Wout)
    (hb : ∀ (W : WX) (pn : List (Addr × Obj)) (xe : Value → Shared → Prop), Takes (X.tr pn xe) W → PassesOwn (model X.prog X.w) X.A X.env xe → PSs (X.tr pn xe) body (tb W))
    (hsu : ∀ (a : Addr) (oe : Obj) (cls : Value) (d : Option Addr) (pn : List (Addr × Obj)), Zc cls d oe → (∃ vs, oe.data = .fields vs) → PSs (X.suite a ((a, oe) :: pn)) (b₀ :: suite) (ts a cls d)) :
    PS X (.Try body [.ExceptHandler (some (.Name x np)) (some n) (b₀ :: suite) pos'] [] [] pos) (fun D σ H => tb (wKp X.K c i ts Wout D) D σ H) := by
  refine ⟨fun pins s σ H D I h => ?_⟩
  have ok := I.ok
  have hfr : X.A.frames = some (X.env :: X.outer) := by rw [ok.frames, hs]
  have hloc : Loc X.env.scope n := .inl hln
  refine wpAny_Try_except ?_
  refine wpAny_mono ((hb (wKp X.K c i ts Wout D) (X.pn ++ pins) (fun e s₁ => wpAny (model X.prog X.w) X.A (noteFrame e X.env) (fun _ s₂ => wpAny (model X.prog X.w) X.A (setFlight e none) (fun _ s₃ =>
    wpAny (model X.prog X.w) X.A (handleBy e X.env [.ExceptHandler (some (.Name x np)) (some n) (b₀ :: suite) pos']) (SP X pins D) X.xe s₃) X.xe s₂) X.xe s₁) (fun u s' xx => ?_) PassesOwn.looking).run [] s σ H D (I.toTry _) h) (fun f s1 hsp => ?_) (fun e s1 he => he)
  · obtain ⟨a, B, sI, pins', σ', H', cls, d, rfl, J', nb, up, sky, na, os, ag, b, hb1, hyes, hno⟩ := xx
    have J : Inv X pins σ' H' sI := J'.ofTry ok
    have sky' : Sky B (X.env :: X.outer) a (Zc cls d) X.env.locals s'.heap := by rw [← hs]; exact sky
    show wpAny (model X.prog X.w) X.A (noteFrame (.ref a) X.env) _ _ _
    refine Sky.land Zc.steady hfr hf sky' fun h3 fl3 up3 => ?_
    have J3 : Inv X pins σ' H' { s' with heap := h3 } := J.landed nb fl3.1 (up.trans up3) os ag
    obtain ⟨oe3, vs3, he3, hz3, hd3⟩ := fl3.there
    have notFr : ∀ {h : Heap} {o : Obj} {vs : Array Value}, h.FunFrames B (X.env :: X.outer) → h.get? a = some o → o.data = .fields vs → a ∉ frs (X.env :: X.outer) := fun {h o vs} ff e dd hm => by
      obtain ⟨_, o', e', hnf⟩ := ff.mem hm
      rw [e] at e'; cases e'
      exact hnf _ dd
    have nfr := notFr fl3.2.2.1 he3 hd3
    have nL : a ≠ X.env.locals := fun z => nfr (List.mem_filterMap.mpr ⟨X.env, List.mem_cons_self, by rw [hf, z]⟩)
    have nF : a ∉ X.fs := fun hm => by
      obtain ⟨e, he, q⟩ := List.mem_filterMap.mp hm
      exact nfr (List.mem_filterMap.mpr ⟨e, List.mem_cons_of_mem _ he, q⟩)
    have nI : sI.heap.get? a = none := by
      cases e : sI.heap.get? a with
      | none => rfl
      | some o =>
        have := nb a o e (by rw [hs]; exact nfr)
        rw [fl3.2.1] at this
        cases this
    have n0 : X.s_0.heap.get? a = none := by
      cases e : X.s_0.heap.get? a with
      | none => rfl
      | some o =>
        obtain ⟨o', e'⟩ := J.base.there a o e (by rw [hx]; exact fun z => nomatch z)
        rw [nI] at e'
        cases e'
    have nC : ∀ x c, X.env.cells.lookup x = some c → c ≠ a := fun x c e z => by
      obtain ⟨v, o, ho, _⟩ := J.cell x c e
      rw [z, nI] at ho
      cases ho
    have nP : ∀ p ∈ X.pn ++ pins, p.1 ≠ a := fun p hp z => by
      have := (J.pin p hp).1
      rw [z, nI] at this
      cases this
    have S3 := J3.suite he3 hd3 na nL nF
    refine wpAny_handleBy_cons (codeAny_handlers_test ?_) (by intro q; cases q)
    have LT : PySem.W.Looks (model X.prog X.w) h3 (typeOf (.ref a)) cls := fun A Q E s k q => wpAny_typeOf_ref (k _ _ he3) (by rw [hz3.1]; exact q)
    have LM := PySem.W.exm_one (M := model X.prog X.w) (J3.kIn) LT hb1
    have test : ∀ {Q : Value → Shared → Prop} {E : Value → Shared → Prop}, Q c { s' with heap := h3 } → wpAny (model X.prog X.w) (X.A.mark (some (.ref a))) (eval (.Name x np) X.env) Q E { s' with heap := h3 } := fun {Q E} q => by
      obtain ⟨hg, hdbg, hm | ⟨hm, hv, hnn⟩⟩ := hc
      · exact ld_glob (X := X.suite a ((a, oe3) :: (X.pn ++ pins))) S3 hg hm q hdbg
      · exact ld_blt (X := X.suite a ((a, oe3) :: (X.pn ++ pins))) S3 hg hm hv q hnn hdbg
    refine test (LM.here ?_)
    cases b with
    | true =>
      obtain ⟨C, rfl, rfl, hyes⟩ := hyes rfl
      refine codeAny_handlers_suite_as ?_
      refine HandSPX.lands_againZ fl3 fun h4 fl4 up4 => ?_
      have J4 : Inv X pins σ' H' { s' with heap := h4 } := J.landed nb fl4.1 ((up.trans up3).trans up4) os ag
      obtain ⟨oe4, vs4, he4, hz4, hd4⟩ := fl4.there
      have S4 := J4.suite he4 hd4 na nL nF
      refine store_ok (X := X.suite a ((a, oe4) :: (X.pn ++ pins))) (v := .ref a) S4 hN hi hloc rfl (fun s5 S5 => ?_) (.inr hln)
      refine wpAny_mono ((hsu a oe4 (.ref C) none (X.pn ++ pins) hz4 ⟨_, hd4⟩).run [] s5 _ H' _ S5 (hyes a na)) (fun f s6 hsp => ?_) (fun _ _ z => False.elim z)
      have end_ : ∀ {σ6 : L2.St} {H6 : Hp} {Q : Shared → Prop}, Inv (X.suite a ((a, oe4) :: (X.pn ++ pins))) [] σ6 H6 s6 → (∀ s7, Inv X pins (σ6.set i none) H6 s7 → Q s7) →
          wpAny (model X.prog X.w) X.A (do bindName X.env n .none; unbindBehindTheSuite X.env n pos') (fun _ s7 => Q s7) X.xe s6 := fun {σ6 H6 Q} S6 hq => gone_ok (S6.unsuite ok) hN hi hln hq
      cases f with
      | next =>
        obtain ⟨σ6, H6, S6, q6⟩ := hsp
        have K6 : Inv X ((a, oe4) :: pins) σ6 H6 s6 := ⟨ok, S6.os, S6.bare, S6.base, S6.loc, S6.cell, S6.free, S6.freeC, fun p hp => by
          refine S6.pin p (List.mem_append_left _ ?_)
          show p ∈ (a, oe4) :: (X.pn ++ pins)
          rcases List.mem_append.mp hp with hp | hp
          · exact List.mem_cons_of_mem _ (List.mem_append_left _ hp)
          · rcases List.mem_cons.mp hp with hp | hp
            · rw [hp]; exact List.mem_cons_self ..
            · exact List.mem_cons_of_mem _ (List.mem_append_right _ hp), S6.hok, S6.len⟩
        refine gone_ok K6 hN hi hln fun s7 J7 => ?_
        obtain ⟨p1, p2, _⟩ := J7.pin (a, oe4) (List.mem_append_right _ (List.mem_cons_self ..))
        have J7' : Inv X pins (σ6.set i none) H6 s7 := ⟨J7.ok, J7.os, J7.bare, J7.base, J7.loc, J7.cell, J7.free, J7.freeC, fun p hp => J7.pin p (by
          rcases List.mem_append.mp hp with hp | hp
          · exact List.mem_append_left _ hp
          · exact List.mem_append_right _ (List.mem_cons_of_mem _ hp)), J7.hok, J7.len⟩
        exact ⟨_, _, inv_track J7' p2 n0 nL nC nP (exK_ok p1 hz4 hd4), q6 _ p2 (Same.new p2) upd_same⟩
      | brk =>
        obtain ⟨σ6, H6, S6, q6⟩ := hsp
        exact end_ S6 fun s7 J7 => ⟨_, _, J7, q6⟩
      | cont =>
        obtain ⟨σ6, H6, S6, q6⟩ := hsp
        exact end_ S6 fun s7 J7 => ⟨_, _, J7, q6⟩
      | ret u =>
        obtain ⟨v6, σ6, H6, S6, r6, q6⟩ := hsp
        exact end_ S6 fun s7 J7 => ⟨_, _, _, J7, r6, q6⟩
    | false =>
      show wpAny _ X.A (handleBy (.ref a) X.env []) _ _ _
      refine wpAny_handleBy_nil ?_
      obtain ⟨k1, k2, k3, oe, vs, T, oT, ts', he, hz, hd, h1, hr⟩ := id fl3
      unfold PySem.passOn
      refine wpAny_bind (wpAny_field he hd h1 ?_)
      rw [if_neg (show ¬ ((Value.ref T == Value.none) = true) from by simp)]
      have fin : wpAny (model X.prog X.w) X.A (setFlight (.ref a) X.env.frame) (fun _ s4 => wpAny (model X.prog X.w) X.A (throw (.ref a) : Sem Flow) (SP X pins D) X.xe s4) X.xe { s' with heap := h3 } := by
        rw [hf]
        refine HandSPX.setFlight_upZ fl3 fun h4 hh4 up4 => wpAny_throw (tk _ _ ?_)
        exact ⟨a, B, sI, pins, σ', H', cls, d, rfl, J, nb, (up.trans up3).trans up4, .inr (.inr (by rw [hs]; exact hh4)), na, os, ag, hno rfl⟩
      first
        | exact wpAny_bind (wpAny_pure (wpAny_bind fin))
        | exact wpAny_bind fin
  · cases f with
    | next =>
      obtain ⟨σ', H', J', q⟩ := hsp
      exact wpAny_execs_nil ⟨σ', H', J'.ofTry ok, q⟩
    | brk =>
      obtain ⟨σ', H', J', q⟩ := hsp
      exact ⟨σ', H', J'.ofTry ok, q⟩
    | cont =>
      obtain ⟨σ', H', J', q⟩ := hsp
      exact ⟨σ', H', J'.ofTry ok, q⟩
    | ret u =>
      obtain ⟨v, σ', H', J', r, q⟩ := hsp
      exact ⟨v, σ', H', J'.ofTry ok, r, q⟩
end
/-! isinstance of a kept exception -/
def rIsK (K : PySem.W.Frag) : List V → Hp → VK → Prop := fun xs H Q => ∃ (a D : Addr) (c : V) (u : Value) (b : Bool), xs = [.ref a, c] ∧ ClsV c u ∧ H a = some (ExK D a) ∧ ExcC K D ∧ PySem.W.kitOne K (.ref D) u = some b ∧ Q (.bl b) H
def rIsKT (K : PySem.W.Frag) : List V → Hp → VK → Prop := fun xs H Q => ∃ (a D tp : Addr) (cs : List V) (us : List Value) (b : Bool), xs = [.ref a, .ref tp] ∧ H tp = some (.tup cs) ∧ Paired ClsV cs us ∧ H a = some (ExK D a) ∧ ExcC K D ∧ PySem.W.kitAny K (.ref D) us = some b ∧ Q (.bl b) H
section
variable {X : Cx}
theorem inst_of {pins : List (Addr × Obj)} {σ : L2.St} {H : Hp} {s : Shared} {a D : Addr} (I : Inv X pins σ H s) (h : H a = some (ExK D a)) : ∃ oe, PySem.W.InstAt s.heap a oe D none := by
  obtain ⟨⟨oe, vs, h1, h2, h3⟩, _⟩ := (show ObjOk X.prog X.w H s.heap a (ExK D a) from I.hok a _ h)
  refine ⟨oe, ?_⟩
  obtain ⟨oc, od, oda, osl⟩ := oe
  obtain ⟨z1, z2⟩ := h2
  dsimp only at z1 z2 h3
  subst z1 z2 h3
  exact ⟨h1, rfl, rfl, trivial⟩
theorem call_isK : CallR X (.builtin "isinstance") (rIsK X.K) := by
  intro pins s σ H xs us Q I r h
  obtain ⟨a, D, c, u, b, rfl, k, ha, C, e, q⟩ := h
  obtain ⟨u1, u2, rfl, r1, r2⟩ := vals2 r
  have e2 := k.eq r2
  subst e2
  cases (show u1 = Value.ref a from r1)
  obtain ⟨oe, J⟩ := inst_of I ha
  exact PySem.W.kia_one (PySem.W.handS_kitx_exc C.hg C.hk C.hs C.hd C.ha C.hn C.ht C.hm) I.kIn J e (fun z => nomatch z) fun tk => ⟨.bl b, H, I.tok tk, rfl, q⟩
theorem call_isKT : CallR X (.builtin "isinstance") (rIsKT X.K) := by
  intro pins s σ H xs us Q I r h
  obtain ⟨a, D, tp, cs, ws, b, rfl, hT, k, ha, C, e, q⟩ := h
  obtain ⟨u1, u2, rfl, r1, r2⟩ := vals2 r
  cases (show u1 = Value.ref a from r1)
  cases (show u2 = Value.ref tp from r2)
  obtain ⟨oe, J⟩ := inst_of I ha
  obtain ⟨_, its, rv, o, h1, h2, n, h3⟩ := (show ObjOk X.prog X.w H s.heap tp (.tup cs) from I.hok tp _ hT)
  have e3 := ClsV.all k rv
  subst e3
  obtain ⟨oc, od, dt, sl⟩ := o
  simp only at h2 h3
  subst h2 h3
  exact PySem.W.kia_tup (PySem.W.handS_kitx_exc C.hg C.hk C.hs C.hd C.ha C.hn C.ht C.hm) I.kIn J h1 e (fun z => nomatch z) fun tk => ⟨.bl b, H, I.tok tk, rfl, q⟩
end
/-! defs that raise -/
structure CalX (P : Program) (w : World) (K : PySem.W.Frag) (mg : Str → Option Value) (base : Heap) (k : Nat) (x : Str) (sp : Sp) : Prop where
  ex : ∃ (f : Addr) (fd : FuncData) (ps : List Str), FnOk P w K mg base (L2.CX P w) k f fd ps sp ∧ mg x = some (.ref f) ∧ PySem.W.keepIn K (.ref f) = true ∧ Binds K fd ps []
structure MetX (P : Program) (w : World) (K : PySem.W.Frag) (mg : Str → Option Value) (base : Heap) (k : Nat) (C : Addr) (m : Str) (sp : Sp) : Prop where
  ex : ∃ (f : Addr) (fd : FuncData) (ps : List Str), Cls K C ∧ Meth K C m f ∧ FnOk P w K mg base (L2.CX P w) k f fd ps sp ∧ Binds K fd ps []
section
variable {P : Program} {w : World} {K : PySem.W.Frag} {mg : Str → Option Value} {base : Heap}
theorem calDX {x : Str} {st : Stmt} {N ps : List Str} {k : Nat} {sp : Sp} (D : DefAt K mg x st ps) (S : FnScope N ps (defScope st)) (len : ∀ vs H Q E, sp vs H Q E → vs.length = ps.length)
    (hbody : ∀ (f : Addr) (cdv : Value) (A : Around) (outer : List Env) (s : Shared) (H : Hp) (vs : List V) (Q : VK) (E : XK), Room k (A.deeper (envOfC x (defScope st) s.heap.objs.size f cdv)) → sp vs H Q E →
      ∃ t, PSs (cxOf (L2.CX P w) P w K mg base N x (defScope st) f cdv A outer s H E) (defBody st) t ∧ t { nx := fun _ H' => Q .non H', rt := Q } (start N vs) H) : CalX P w K mg base (k + 1) x sp := by
  obtain ⟨f, fd, F, hm, b⟩ := D
  exact ⟨f, fd, ps, F.ok S len (hbody f), hm, F.kp, b⟩
theorem metDX {c m q : Str} {st : Stmt} {N ps : List Str} {k : Nat} {sp : Sp} (D : MetAt K c m q st ps) (S : FnScope N ps (defScope st)) (len : ∀ vs H Q E, sp vs H Q E → vs.length = ps.length)
    (hbody : ∀ (f : Addr) (cdv : Value) (A : Around) (outer : List Env) (s : Shared) (H : Hp) (vs : List V) (Q : VK) (E : XK), Room k (A.deeper (envOfC q (defScope st) s.heap.objs.size f cdv)) → sp vs H Q E →
      ∃ t, PSs (cxOf (L2.CX P w) P w K mg base N q (defScope st) f cdv A outer s H E) (defBody st) t ∧ t { nx := fun _ H' => Q .non H', rt := Q } (start N vs) H) : MetX P w K mg base (k + 1) (He.ga K c) m sp := by
  obtain ⟨fd, F, cl, me, b⟩ := D
  exact ⟨_, fd, ps, cl, me, F.ok S len (hbody _), b⟩
end
def tOwnX (sp : Sp) (W : WX) (t : TA) : TE := fun σ H Q => t σ H fun vs H1 => sp vs H1 Q (fun cls d H2 => W cls d σ H2)
def tMetX (C : Addr) (m : Str) (sp : Sp) (W : WX) (ta : TE) (t : TA) : TE := fun σ H Q => ta σ H fun x H1 => rMetO C m x H1 (t σ H1 fun vs H2 => sp (x :: vs) H2 Q (fun cls d H2 => W cls d σ H2))
section
variable {X : Cx} {k j : Nat} {C : Addr} {x m : Str} {sp : Sp} {p pos apos : Pos} {e o : Expr} {es : List Expr} {ta : TE} {t : TA} {W : WX}
theorem pe_ownX (c : CalX X.prog X.w X.K X.mg X.base k x sp) (hr : Room j X.A) (hk : k ≤ j) (hg : Gl X x) (tk : Takes X W) (ha : PA X (e :: es) t)
    (hdb : (x == ("__debug__" : Str)) = false := by decide) (he : starEach (e :: es) X.env = (false, eval e X.env) :: starEach es X.env := by rfl) (hpl : (backTo pos (starEach es X.env)).any (·.1) = false := by rfl) :
    PE X (.Call (.Name x p) (e :: es) [] pos) (tOwnX sp W t) := by
  obtain ⟨f, fd, ps, F, hm, hkp, b⟩ := c.ex
  exact pe_callS (E := WE W) F (hr.mono hk) hg hm hkp b (fun σ => passAt tk σ) ha hdb he hpl
theorem pe_metX {pl : Sem Bool} (c : MetX X.prog X.w X.K X.mg X.base k C m sp) (hr : Room j X.A) (hk : k ≤ j) (tk : Takes X W) (he : PE X o ta) (ha : PA X (e :: es) t)
    (hst : starEach (e :: es) X.env = (false, eval e X.env) :: starEach es X.env := by rfl) (hpl : (backTo pos (starEach es X.env)).any (·.1) = false := by rfl)
    (ht : eval (.Call (.Attribute o m apos) (e :: es) [] pos) X.env = (do
      let ov ← eval o X.env
      standAt apos.atName
      let (f, first) ← holding [ov] (getMethod ov m pl)
      callWith pos f first (backTo pos (starEach (e :: es) X.env)) (backToKw pos (keywordEach [] X.env))) := by rfl) :
    PE X (.Call (.Attribute o m apos) (e :: es) [] pos) (tMetX C m sp W ta t) := by
  obtain ⟨f, fd, ps, cl, hm, F, b⟩ := c.ex
  refine ⟨fun pins s σ H Q I h => ?_⟩
  refine PySem.W.methodCall_KW (pl := pl) (thn (he.run pins s σ H _ I h) fun u s1 ⟨x, H1, I1, rx, ⟨a, dx, fs, ex, ea, l⟩, q⟩ => ?_) ht
  subst ex
  obtain rfl : u = Value.ref a := rx
  refine getmeth_ok I1 ea cl hm l ?_
  refine PySem.W.callWith_K (first := [.ref a]) (h₀ := X.base) I.ok.mod.kin hm.kp (thn (ha.run pos pins s1 σ H1 _ I1 q) fun us s2 ⟨vs, H2, I2, r, q2⟩ => ⟨I2.kIn, ?_⟩) hst hpl
  exact run_fnS (E := WE W) (us := .ref a :: us) (vs := .ref a :: vs) F (hr.mono hk) b (passAt tk σ) I2 (.cons rfl r) q2
theorem pe_metX0 {pl : Sem Bool} (c : MetX X.prog X.w X.K X.mg X.base k C m sp) (hr : Room j X.A) (hk : k ≤ j) (tk : Takes X W) (he : PE X o ta)
    (ht : eval (.Call (.Attribute o m apos) [] [] pos) X.env = (do
      let ov ← eval o X.env
      standAt apos.atName
      let (f, first) ← holding [ov] (getMethod ov m pl)
      callWith pos f first (backTo pos (starEach [] X.env)) (backToKw pos (keywordEach [] X.env))) := by rfl) :
    PE X (.Call (.Attribute o m apos) [] [] pos) (tMetX C m sp W ta tNil) := by
  obtain ⟨f, fd, ps, cl, hm, F, b⟩ := c.ex
  refine ⟨fun pins s σ H Q I h => ?_⟩
  refine PySem.W.methodCall_KW (pl := pl) (thn (he.run pins s σ H _ I h) fun u s1 ⟨x, H1, I1, rx, ⟨a, dx, fs, ex, ea, l⟩, q⟩ => ?_) ht
  subst ex
  obtain rfl : u = Value.ref a := rx
  refine getmeth_ok I1 ea cl hm l ?_
  exact PySem.W.callWith_K0 (first := [.ref a]) I1.kIn hm.kp (run_fnS (E := WE W) (us := [.ref a]) (vs := [.ref a]) F (hr.mono hk) b (passAt tk σ) I1 (.cons rfl .nil) q)
end
/-! what is known of an error's class -/
structure ErrF (K : PySem.W.Frag) (C M : Addr) : Prop where
  x : PySem.W.excIn K C [.type "ValueError", .type "Exception", .type "BaseException", .type "object"] "ValueError.__new__" = true
  kp : PySem.W.keepIn K (.ref C) = true
  sb : PySem.W.subIn K (.ref C) (.type "BaseException") = some true
  ty : PySem.W.typeIn K (.ref C) = some (.type "type")
  ec : ExcC K C
  em : PySem.W.exmOne K (.ref C) (.ref M) = some true
def errB (K : PySem.W.Frag) (C M : Addr) : Bool := PySem.W.excIn K C [.type "ValueError", .type "Exception", .type "BaseException", .type "object"] "ValueError.__new__" && (PySem.W.keepIn K (.ref C) && (PySem.W.subIn K (.ref C) (.type "BaseException") == some true && (PySem.W.typeIn K (.ref C) == some (.type "type") &&
  (PySem.W.findIn K (.ref C) "__getattribute__" == some (some (.builtin "BaseException.__getattribute__")) && (PySem.W.findIn K (.ref C) "__getattr__" == some none && (PySem.W.hasDictIn K C && (PySem.W.findIn K (.ref C) "__class__" == some (some (.builtin "object.__class__")) &&
  (PySem.W.specialIn K (.builtin "object.__class__") "__get__" == some (some (.builtin "getset_descriptor.__get__")) && (PySem.W.takesIn K (.builtin "object.__class__") == some true && (PySem.W.mroIn K C (.type "object") == some true && PySem.W.exmOne K (.ref C) (.ref M) == some true))))))))))
theorem errB_ok {K : PySem.W.Frag} {C M : Addr} (h : errB K C M = true) : ErrF K C M := by
  unfold errB at h
  simp only [Bool.and_eq_true, beq_iff_eq] at h
  obtain ⟨h1, h2, h3, h4, h5, h6, h7, h8, h9, h10, h11, h12⟩ := h
  exact ⟨h1, h2, h3, h4, ⟨h5, h6, h3, h7, h8, h9, h10, h11⟩, h12⟩
theorem all_at {bs : List Bool} (h : bs.all id = true) {i : Nat} {b : Bool} (e : bs[i]? = some b) : b = true := List.all_eq_true.mp h b (List.mem_of_getElem? e)
/-! readings -/
section
variable {K : PySem.W.Frag} {H : Hp} {Q : VK} {a D : Addr}
theorem g_isK {c : V} {u : Value} {b : Bool} (k : ClsV c u) (h : H a = some (ExK D a)) (C : ExcC K D) (e : PySem.W.kitOne K (.ref D) u = some b) (q : Q (.bl b) H) : rIsK K [.ref a, c] H Q := ⟨a, D, c, u, b, rfl, k, h, C, e, q⟩
theorem g_isKT {tp : Addr} {cs : List V} {us : List Value} {b : Bool} (ht : H tp = some (.tup cs)) (k : Paired ClsV cs us) (h : H a = some (ExK D a)) (C : ExcC K D) (e : PySem.W.kitAny K (.ref D) us = some b) (q : Q (.bl b) H) : rIsKT K [.ref a, .ref tp] H Q := ⟨a, D, tp, cs, us, b, rfl, ht, k, h, C, e, q⟩
end
end Ly

set_option maxHeartbeats 4000000
namespace Ly
open PySem PySem.Spec PyProof.Rows L2 SX
/-! ### promises that stand where nothing is being shown: repr -/
structure FnG (P : Program) (w : World) (K : PySem.W.Frag) (mg : Str → Option Value) (base : Heap) (CX : CXT) (k : Nat) (f : Addr) (fd : FuncData) (ps : List Str) (sp : Sp) : Prop where
  len : ∀ vs H Q E, sp vs H Q E → vs.length = ps.length
  run : ∀ (A : Around) (outer : List Env) (s : Shared) (H : Hp) (args : Args) (us : List Value) (vs : List V) (Q : VK) (E : XK), Room k A → A.guards = some [] → Env0 P w K mg base A outer s H → BindsTo s fd args (ps.zip us) → Vals vs us → sp vs H Q E →
    codeAny (model P w) A (.call (.ref f) args) (CR CX outer P w H s Q E) s
section
variable {P : Program} {w : World} {K : PySem.W.Frag} {mg : Str → Option Value} {base : Heap}
theorem fnG_of {CX : CXT} {x q : Str} {st : Stmt} {f : Addr} {fd : FuncData} {N ps : List Str} {k : Nat} {sp : Sp} (F : FunD K x q (defArgs st) (defBody st) (defScope st) [] [] f fd) (S : FnScope N ps (defScope st)) (len : ∀ vs H Q E, sp vs H Q E → vs.length = ps.length)
    (hbody : ∀ (cdv : Value) (A : Around) (outer : List Env) (s : Shared) (H : Hp) (vs : List V) (Q : VK) (E : XK), Room k (A.deeper (envOfC q (defScope st) s.heap.objs.size f cdv)) → A.guards = some [] → sp vs H Q E →
      ∃ t, PSs (cxOf CX P w K mg base N q (defScope st) f cdv A outer s H E) (defBody st) t ∧ t { nx := fun _ H' => Q .non H', rt := Q } (start N vs) H) : FnG P w K mg base CX (k + 1) f fd ps sp := by
  obtain ⟨oc, od, dV, kV, doc, pm, an, cdv, ct, osl, rfl, lk, hcd, _, _⟩ := F.ex
  refine ⟨len, fun A outer s H args us vs Q E hr hg e0 hb r hsp => ?_⟩
  have stay : ∀ b o, base.get? b = some o → s.heap.get? b = some o := fun b o e => (e0.bs b o e).1
  have inK : K.In s.heap := e0.mod.kin.keeps stay
  have nl : s.heap.NoLimit := e0.mod.nolimit.keeps stay
  obtain ⟨t, ht, hq⟩ := hbody cdv A outer s H vs Q E (hr.deeper _) hg hsp
  refine codeAny_call_function hr.depth (inK _ _ lk) rfl S.co S.gen rfl (PySem.W.codeRec_of inK hcd) (hb _ _ _ _ (wpAny_newFunctionEnv_cells S.kind (fun y hy => (S.par y.1 (List.of_mem_zip hy).1).imp_right fun z => ⟨z, PySem.W.cellsFrom_some _ _ _ (.inl z)⟩) fun env he s1 new => ?_))
  subst he
  refine ⟨nl.keeps new.toInCall.keep, codeAny_func (wpAny_mono (ht.run [] s1 (start N vs) H _ (inv_start S hr.hd e0 (len _ _ _ _ hsp) r new) hq) (fun fl s' hs => ?_) fun e s' hs => hs)⟩
  match fl, hs with
  | .ret u, ⟨v, _, H', J, rv, z⟩ => exact ⟨v, H', J.os, J.bare, J.base, J.hok, rv, z⟩
  | .next, ⟨_, H', J, z⟩ => exact ⟨V.non, H', J.os, J.bare, J.base, J.hok, rfl, z⟩
  | .brk, ⟨_, _, _, z⟩ => exact False.elim z
  | .cont, ⟨_, _, _, z⟩ => exact False.elim z
theorem fnDG {x : Str} {st : Stmt} {f : Addr} {fd : FuncData} {N ps : List Str} {k : Nat} {sp : Sp} (F : FunD K x x (defArgs st) (defBody st) (defScope st) [] [] f fd) (S : FnScope N ps (defScope st)) (len : ∀ vs H Q E, sp vs H Q E → vs.length = ps.length)
    (hbody : ∀ (cdv : Value) (A : Around) (outer : List Env) (s : Shared) (H : Hp) (vs : List V) (Q : VK) (E : XK), Room k (A.deeper (envOfC x (defScope st) s.heap.objs.size f cdv)) → A.guards = some [] → sp vs H Q E →
      ∃ t, PSs (cxOf C8.CX0 P w K mg base N x (defScope st) f cdv A outer s H E).nox (defBody st) t ∧ t { nx := fun _ H' => Q .non H', rt := Q } (start N vs) H) : FnG P w K mg base C8.CX0 (k + 1) f fd ps sp := by
  refine fnG_of F S len fun cdv A outer s H vs Q E hr hg hsp => ?_
  obtain ⟨t, h, q⟩ := hbody cdv A outer s H vs Q E hr hg hsp
  exact ⟨t, h.nox, q⟩
/-- a def that may be called where nothing is being shown -/
structure CalG (P : Program) (w : World) (K : PySem.W.Frag) (mg : Str → Option Value) (base : Heap) (k : Nat) (x : Str) (sp : Sp) : Prop where
  ex : ∃ (f : Addr) (fd : FuncData) (ps : List Str), FnG P w K mg base C8.CX0 k f fd ps sp ∧ mg x = some (.ref f) ∧ PySem.W.keepIn K (.ref f) = true ∧ Binds K fd ps []
theorem calDG {x : Str} {st : Stmt} {N ps : List Str} {k : Nat} {sp : Sp} (D : DefAt K mg x st ps) (S : FnScope N ps (defScope st)) (len : ∀ vs H Q E, sp vs H Q E → vs.length = ps.length)
    (hbody : ∀ (f : Addr) (cdv : Value) (A : Around) (outer : List Env) (s : Shared) (H : Hp) (vs : List V) (Q : VK) (E : XK), Room k (A.deeper (envOfC x (defScope st) s.heap.objs.size f cdv)) → A.guards = some [] → sp vs H Q E →
      ∃ t, PSs (cxOf C8.CX0 P w K mg base N x (defScope st) f cdv A outer s H E).nox (defBody st) t ∧ t { nx := fun _ H' => Q .non H', rt := Q } (start N vs) H) : CalG P w K mg base (k + 1) x sp := by
  obtain ⟨f, fd, F, hm, b⟩ := D
  exact ⟨f, fd, ps, fnDG F S len (hbody f), hm, F.kp, b⟩
end
/-! ### the law's call -/
section
variable {P : Program} {w : World} {K : PySem.W.Frag} {mg mb : Str → Option Value} {k : Nat} {fa a : Addr} {fd : FuncData} {x : Str} {sp : Sp} {s₁ : Shared} {vs : List Value} {ns : List Int}
theorem callG {H : Hp} (KX : K.In s₁.heap) (hns : s₁.heap.Ns mainGlobals mg) (hb : s₁.heap.Ns builtinsNs mb) (hbb : ∀ x : Str, x ≠ "__name__" → mb x = bootBuiltins x) (hlim : s₁.heap.NoLimit) (hg : s₁.gens = #[]) (hr : Room k callerA)
    (F : ∀ base : Heap, K.In base → base.Ns mainGlobals mg → FnG P w K mg base C8.CX0 k fa fd [x] sp) (hbind : ∀ (s : Shared) (u : Value), BindsTo s fd ⟨[u], []⟩ [(x, u)])
    (hO : Only H) (hok : HOk P w H s₁.heap) (noD : ∀ (b : Addr) (o : Obj) (es : Array DictEntry) (ep : Nat), s₁.heap.get? b = some o → o.data = .dict es ep → H b = none) (noK : ∀ b o, K.lookup b = some o → H b = none)
    (hsp : sp [.ref a] H (fun v _ => v = .bl true) fun _ _ _ => False) :
    codeAny (model P w) callerA (.call (.ref fa) ⟨[.ref a], []⟩) (fun r s' => r = .ok (.ret (.bool true)) ∧ OldK s₁.heap s'.heap ∧ s'.os = s₁.os ∧ AllBare s'.gens) s₁ := by
  have ns2 : ∀ {b : Addr} {m : Str → Option Value}, s₁.heap.Ns b m → (hidT s₁.heap H).Ns b m := fun ⟨o, es, ep, e, d, r⟩ => ⟨o, es, ep, hidT_get e (noD _ _ _ _ e d), d, r⟩
  have inK : K.In (hidT s₁.heap H) := fun b o e => hidT_get (KX b o e) (noK b o e)
  have env : Env0 P w K mg (hidT s₁.heap H) callerA [] s₁ H := ⟨rfl, ⟨inK, ns2 hns, ⟨mb, ns2 hb, hbb⟩, hlim.imp fun mc z => ⟨ns2 z.1, z.2⟩⟩, fun b o e => of_hidT e, Nat.le_of_eq (hidT_size _ _), trivial, (fun b hb => nomatch hb), hok, .of_eq hg⟩
  refine codeAny_mono ((F _ inK (ns2 hns)).run callerA [] s₁ H ⟨[.ref a], []⟩ [.ref a] [.ref a] _ _ hr rfl env (hbind s₁ (.ref a)) (.cons rfl .nil) hsp) fun r s' h => ?_
  match r, h with
  | .error e, h => exact h.elim
  | .ok .next, h => exact h.elim
  | .ok .brk, h => exact h.elim
  | .ok .cont, h => exact h.elim
  | .ok (.ret u), ⟨v, H', os, bare, un, hok', r', q⟩ =>
    obtain rfl : v = .bl true := q
    obtain rfl : u = Value.bool true := r'
    refine ⟨rfl, OldK.of_keep fun b o e => ?_, os, bare⟩
    rcases hO b with z | ⟨ob, xs, z⟩
    · exact un.keep b o e z (fun hb => nomatch hb) (by simp)
    · have e1 := (hok b _ z).1
      rw [e] at e1
      cases e1
      exact (hok' b _ (un.frzs b _ _ z)).1
theorem law_callG (KX : K.In s₁.heap) (hns : s₁.heap.Ns mainGlobals mg) (hb : s₁.heap.Ns builtinsNs mb) (hbb : ∀ x : Str, x ≠ "__name__" → mb x = bootBuiltins x) (hlim : s₁.heap.NoLimit) (hg : s₁.gens = #[])
    (ha : s₁.heap.get? a = some { cls := .type "list", data := .seq vs.toArray }) (hi : IntsAre vs ns) (hl : ns.length ≤ sizeLine) (hr : Room k callerA)
    (F : ∀ base : Heap, K.In base → base.Ns mainGlobals mg → FnG P w K mg base C8.CX0 k fa fd [x] sp) (hbind : ∀ (s : Shared) (u : Value), BindsTo s fd ⟨[u], []⟩ [(x, u)])
    (hsp : ∀ H : Hp, Only H → SqL K H a (ns.map V.int) → sp [.ref a] H (fun v _ => v = .bl true) fun _ _ _ => False) :
    codeAny (model P w) callerA (.call (.ref fa) ⟨[.ref a], []⟩) (fun r s' => r = .ok (.ret (.bool true)) ∧ OldK s₁.heap s'.heap ∧ s'.os = s₁.os ∧ AllBare s'.gens) s₁ := by
  have go : ∀ {H : Hp}, Only H → HOk P w H s₁.heap → (∀ b, H b ≠ none → b = a) → (∀ b o, K.lookup b = some o → H b = none) → SqL K H a (ns.map V.int) → codeAny (model P w) callerA (.call (.ref fa) ⟨[.ref a], []⟩) (fun r s' => r = .ok (.ret (.bool true)) ∧ OldK s₁.heap s'.heap ∧ s'.os = s₁.os ∧ AllBare s'.gens) s₁ := by
    intro H hO hok hA noK sq
    refine callG KX hns hb hbb hlim hg hr F hbind hO hok (fun b o es ep e d => Classical.byContradiction fun z => ?_) noK (hsp H hO sq)
    cases hA b z
    rw [ha] at e
    cases e
    cases d
  cases hk : K.lookup a with
  | some o =>
    have e := KX a o hk
    rw [ha] at e
    cases e
    exact go (H := fun _ => none) (fun _ => .inl rfl) (fun b u z => nomatch z) (fun b z => absurd rfl z) (fun _ _ _ => rfl) (.inr ⟨_, vs.toArray, _, hk, rfl, rfl, rfl, by rw [List.size_toArray, hi.length]; exact hl, by simpa using vals_ints hi⟩)
  | none =>
    let o : Obj := { cls := .type "list", data := .seq vs.toArray }
    let H : Hp := fun b => if b = a then some (.frz o (.lst (ns.map V.int))) else none
    have at_ : H a = some (.frz o (.lst (ns.map V.int))) := if_pos rfl
    have off : ∀ {b}, b ≠ a → H b = none := fun h => if_neg h
    refine go (H := H) (fun b => (Classical.em (b = a)).elim (fun e => .inr ⟨_, _, e ▸ at_⟩) fun e => .inl (off e)) (fun b u z => ?_) (fun b z => Classical.byContradiction fun e => z (off e)) (fun b u z => off fun e => ?_) (.inl (.inr ⟨o, at_⟩))
    · rcases Classical.em (b = a) with e | e
      · subst e
        rw [at_] at z
        cases z
        exact ⟨ha, by rw [List.length_map]; exact hl, vs, _, vals_ints hi, ha⟩
      · rw [off e] at z
        cases z
    · subst e
      rw [hk] at z
      cases z
end
theorem walkG {l : PySem.W.OpenLaw} {n k : Nat} {q : Program} {loose : List Str} {XP : (Str → Option Value) → Heap → Prop} {YP : World → Heap → Prop} {d : DefRec} {x : Str}
    (hn : l.most = some n) (hn2 : n ≤ sizeLine) (hdf : d.params.defaults = []) (hr : Room k callerA)
    (F : ∀ (w : World) (mg : Str → Option Value) (fa : Addr) (h : Heap), YP w h → h.Ns mainGlobals mg → mg d.name = some (.ref fa) →
      ∃ (K : PySem.W.Frag) (fd : FuncData) (sp : Sp), K.In h ∧ (∀ (s : Shared) (u : Value), BindsTo s fd ⟨[u], []⟩ [(x, u)]) ∧
        (∀ (H : Hp) (a : Addr) (ns : List Int), ns.length ≤ n → Only H → SqL K H a (ns.map V.int) → sp [.ref a] H (fun v _ => v = .bl true) fun _ _ _ => False) ∧
        ∀ base : Heap, K.In base → base.Ns mainGlobals mg → FnG l.prog w K mg base C8.CX0 k fa fd [x] sp) :
    PySem.W.WalkO q loose XP YP l.row.toRowW d [] (fun f vs => PySem.call f vs) := by
  refine Att.attach_call hn hdf fun w s₀ s₁ mg mb fa o pm cd doc a vs ns G Y ho hd hcd hmg hobj hints hlen hg => ?_
  obtain ⟨K, fd, sp, KX, hb, hsp, hF⟩ := F w mg fa _ Y G.T.g hmg
  exact law_callG KX G.T.g G.T.b G.T.builtins G.T.nolimit hg hobj hints (Nat.le_trans hlen hn2) hr hF hb fun H hO hS => hsp H a ns hlen hO hS
/-! ### repr of data -/
def rRepr (K : PySem.W.Frag) (xs : List V) (H : Hp) (Q : VK) : Prop := ∃ a d, xs = [.ref a] ∧ Dp K H (.ref a) d ∧ d.showable = true ∧ d.hasDict = false ∧ d.depth ≤ 180 ∧ d.shown.length ≤ sizeLine ∧ Q (.str d.shown) H
section
variable {X : Cx}
theorem call_repr (hg : X.A.guards = some []) (hu : X.A.units + 190 < cLine) : CallR X (.builtin "repr") (rRepr X.K) := by
  intro pins s σ H xs us Q I r h
  obtain ⟨a, d, rfl, hd, sh, nd, dp, hz, q⟩ := h
  obtain ⟨u, rfl, ru⟩ := vals1 r
  obtain ⟨as, r1⟩ := Dp.reads I d (.ref a) u hd ru
  obtain rfl : u = Value.ref a := ru
  exact repr_of_reads' r1 sh (fun e => by rw [nd] at e; cases e) hg (by omega) (fun _ _ e => e) (fun h' u tk hk => ⟨.str _, H, I.kept hk, ⟨_, rfl⟩, q⟩) hz
end
/-! lists of small numbers -/
def shI (L : List Int) : Str := (PyData.list (L.map PyData.int)).shown
def SmL (L : List Int) : Prop := L.length ≤ 100 ∧ ∀ x ∈ L, ∃ n : Nat, n < 100 ∧ x = (n : Int)
theorem sm_len : ∀ n : Nat, n < 100 → (PyData.shown (.int (n : Int))).length ≤ 4 := by decide +kernel
theorem sm_log : ∀ n : Nat, n < 100 → decide ((n : Int).natAbs.log2 < 1920) = true := by decide +kernel
theorem sm_all : ∀ {L : List Int}, (∀ x ∈ L, ∃ n : Nat, n < 100 ∧ x = (n : Int)) → PyData.showableAll (L.map PyData.int) = true ∧ PyData.hasDictAll (L.map PyData.int) = false ∧ ((PyData.shownAll (L.map PyData.int)).map (·.length)).sum ≤ 4 * L.length ∧ (PyData.shownAll (L.map PyData.int)).length = L.length
  | [], _ => ⟨rfl, rfl, Nat.le_refl _, rfl⟩
  | x :: L, h => by
    obtain ⟨n, hn, rfl⟩ := h x List.mem_cons_self
    obtain ⟨h1, h2, h3, h4⟩ := sm_all (L := L) fun y hy => h y (List.mem_cons_of_mem _ hy)
    have a1 := sm_log n hn
    have a2 := sm_len n hn
    refine ⟨?_, ?_, ?_, ?_⟩
    · rw [List.map_cons, PyData.showableAll, h1, PyData.showable, a1]; rfl
    · rw [List.map_cons, PyData.hasDictAll, h2, PyData.hasDict]; rfl
    · rw [List.map_cons, PyData.shownAll, List.map_cons, List.sum_cons, List.length_cons]; omega
    · rw [List.map_cons, PyData.shownAll, List.length_cons, List.length_cons, h4]
theorem g_reprI {K : PySem.W.Frag} {H : Hp} {Q : VK} {a : Addr} {L : List Int} (h : H a = some (.lst (L.map V.int))) (hL : SmL L) (q : Q (.str (shI L)) H) : rRepr K [.ref a] H Q := by
  obtain ⟨h1, h2, h3, h4⟩ := sm_all hL.2
  refine ⟨a, .list (L.map PyData.int), rfl, .lst (sq_of h) (dpi L), by rw [PyData.showable]; exact h1, by rw [PyData.hasDict]; exact h2, ?_, ?_, q⟩
  · show PyData.depthAll (L.map PyData.int) + 1 ≤ 180
    rw [depi]
    decide
  · rw [PyData.shown]
    have z := listText_len_le (PyData.shownAll (L.map PyData.int))
    have z2 : sizeLine = 2 ^ 24 := rfl
    have := hL.1
    omega
end Ly

set_option maxHeartbeats 4000000
namespace Ly
open PySem PySem.Spec PyProof.Rows L2 SX
/-! ### paths, depths, the nests within a nest -/
mutual
def pthI : Nd → Nat → List (List Nat)
  | .br _ ds, k => [k] :: (pthN ds 0).map (k :: ·)
  | _, _ => []
def pthN : List Nd → Nat → List (List Nat)
  | [], _ => []
  | d :: ds, k => pthI d k ++ pthN ds (k + 1)
end
mutual
def subI : Nd → List Nd
  | .br o ds => .br o ds :: subN ds
  | _ => []
def subN : List Nd → List Nd
  | [] => []
  | d :: ds => subI d ++ subN ds
end
theorem pthN_app : ∀ (ds es : List Nd) (k : Nat), pthN (ds ++ es) k = pthN ds k ++ pthN es (k + ds.length)
  | [], es, k => by rw [List.nil_append, pthN]; rfl
  | d :: ds, es, k => by
    rw [List.cons_append, pthN, pthN_app ds es (k + 1), pthN, List.append_assoc, List.length_cons, show k + 1 + ds.length = k + (ds.length + 1) by omega]
theorem pthN_one (d : Nd) (k : Nat) : pthN [d] k = pthI d k := by rw [pthN, pthN, List.append_nil]
theorem subN_app : ∀ (ds es : List Nd), subN (ds ++ es) = subN ds ++ subN es
  | [], es => by rw [List.nil_append, subN]; rfl
  | d :: ds, es => by rw [List.cons_append, subN, subN_app ds es, subN, List.append_assoc]
mutual
theorem pth_subI : ∀ (d : Nd) (k : Nat), (pthI d k).length = (subI d).length
  | .br o ds, k => by rw [pthI, subI, List.length_cons, List.length_cons, List.length_map, pth_sub ds 0]
  | .let_ c, k => by rw [pthI, subI] <;> simp
  | .num c, k => by rw [pthI, subI] <;> simp
theorem pth_sub : ∀ (ds : List Nd) (k : Nat), (pthN ds k).length = (subN ds).length
  | [], k => by rw [pthN, subN]; rfl
  | d :: ds, k => by rw [pthN, subN, List.length_append, List.length_append, pth_subI d k, pth_sub ds (k + 1)]
end
/-! ways of the maker -/
/-- the places of the open ones -/
def pfx : List (List Nd × Nat) → List Nat
  | [] => []
  | (ds, _) :: fs => pfx fs ++ [ds.length]
def pthF : List (List Nd × Nat) → List (List Nat)
  | [] => []
  | (ds, _) :: fs => pthF fs ++ (pthN ds 0).map (pfx fs ++ ·) ++ [pfx fs ++ [ds.length]]
def pthS (s : List (List Nd × Nat) × List Nd) : List (List Nat) := pthF s.1 ++ (pthN s.2 0).map (pfx s.1 ++ ·)
def cnts (s : List (List Nd × Nat) × List Nd) : List Nat := pfx s.1 ++ [s.2.length]
def mxF : List (List Nd × Nat) → Nat
  | [] => 0
  | (ds, _) :: fs => max (mxF fs) (max (Nd.deeps ds + fs.length) (fs.length + 1))
def mxS (s : List (List Nd × Nat) × List Nd) : Nat := max (mxF s.1) (Nd.deeps s.2 + s.1.length)
theorem deep_let (c : Nat) : (Nd.let_ c).deep = 0 := by simp [Nd.deep]
theorem deep_br (o : Nat) (ds : List Nd) : (Nd.br o ds).deep = Nd.deeps ds + 1 := by rw [Nd.deep]
section
variable {fs : List (List Nd × Nat)} {cur ds : List Nd} {c o : Nat}
theorem st_let (h1 : c ∉ OPN) (h2 : c ∉ CLO) : nstep (fs, cur) c = (fs, cur ++ [.let_ c]) := by unfold nstep; rw [if_neg h2, if_neg h1]
theorem st_opn (h1 : c ∈ OPN) : nstep (fs, cur) c = ((cur, c) :: fs, []) := by unfold nstep; rw [if_neg (opn_clo c h1), if_pos h1]
theorem st_clo (h1 : c ∈ CLO) : nstep ((ds, o) :: fs, cur) c = (fs, ds ++ [.br o cur]) := by unfold nstep; rw [if_pos h1]
theorem pthS_let : pthS (fs, cur ++ [.let_ c]) = pthS (fs, cur) := by
  unfold pthS
  have : pthN (cur ++ [Nd.let_ c]) 0 = pthN cur 0 := by rw [pthN_app, pthN_one, pthI, List.append_nil] <;> simp
  show pthF fs ++ (pthN (cur ++ [Nd.let_ c]) 0).map _ = _
  rw [this]
theorem pthS_opn : pthS ((cur, c) :: fs, []) = pthS (fs, cur) ++ [cnts (fs, cur)] := by
  show pthF ((cur, c) :: fs) ++ (pthN [] 0).map _ = _
  rw [pthN, List.map_nil, List.append_nil, pthF]
  rfl
theorem pthS_clo : pthS (fs, ds ++ [.br o cur]) = pthS ((ds, o) :: fs, cur) := by
  show pthF fs ++ (pthN (ds ++ [.br o cur]) 0).map (pfx fs ++ ·) = pthF ((ds, o) :: fs) ++ (pthN cur 0).map (pfx ((ds, o) :: fs) ++ ·)
  rw [pthN_app, pthN_one, pthI, pthF, List.map_append, List.map_cons, List.map_map, Nat.zero_add]
  have : ((fun x => pfx fs ++ x) ∘ fun x => ds.length :: x) = fun x => pfx ((ds, o) :: fs) ++ x := by
    funext x
    show pfx fs ++ ds.length :: x = pfx fs ++ [ds.length] ++ x
    simp
  rw [this]
  simp
theorem cnts_let : cnts (fs, cur ++ [.let_ c]) = pfx fs ++ [cur.length + 1] := by simp [cnts]
theorem cnts_opn : cnts ((cur, c) :: fs, []) = cnts (fs, cur) ++ [0] := by simp [cnts, pfx]
theorem cnts_clo : cnts (fs, ds ++ [.br o cur]) = pfx fs ++ [ds.length + 1] := by simp [cnts]
theorem cnts_in : cnts ((ds, o) :: fs, cur) = pfx fs ++ [ds.length] ++ [cur.length] := by simp [cnts, pfx]
theorem mxS_let : mxS (fs, cur ++ [.let_ c]) = mxS (fs, cur) := by
  show max (mxF fs) (Nd.deeps (cur ++ [.let_ c]) + fs.length) = max (mxF fs) (Nd.deeps cur + fs.length)
  rw [deeps_snoc, deep_let]
  omega
theorem mxS_opn : mxS ((cur, c) :: fs, []) = max (mxS (fs, cur)) (fs.length + 1) := by
  show max (mxF ((cur, c) :: fs)) (Nd.deeps [] + (fs.length + 1)) = max (max (mxF fs) (Nd.deeps cur + fs.length)) (fs.length + 1)
  rw [mxF, Nd.deeps]
  omega
theorem mxS_clo : mxS (fs, ds ++ [.br o cur]) = mxS ((ds, o) :: fs, cur) := by
  show max (mxF fs) (Nd.deeps (ds ++ [.br o cur]) + fs.length) = max (mxF ((ds, o) :: fs)) (Nd.deeps cur + (fs.length + 1))
  rw [deeps_snoc, deep_br, mxF]
  omega
end
theorem mxF_ge : ∀ fs : List (List Nd × Nat), fs.length ≤ mxF fs
  | [] => Nat.le_refl _
  | (ds, o) :: fs => by rw [mxF, List.length_cons]; omega
theorem pthS_nest {l : List Nat} (hc : clean l) : pthS (nst l) = pthN (nestD l) 0 := by
  unfold pthS nestD
  rw [nst_clean hc]
  show [] ++ (pthN (nst l).2 0).map ([] ++ ·) = _
  simp
theorem mxS_nest {l : List Nat} (hc : clean l) : mxS (nst l) = Nd.deeps (nestD l) := by
  unfold mxS nestD
  rw [nst_clean hc]
  show max 0 (_ + 0) = _
  omega
/-! what a path leads to -/
def Rch : List Nd → List Nat → Nd → Prop
  | _, [], _ => False
  | ds, [k], d => ds[k]? = some d
  | ds, k :: j :: p, d => ∃ o es, ds[k]? = some (.br o es) ∧ Rch es (j :: p) d
theorem Rch.cons {ds es : List Nd} {k o : Nat} {p : List Nat} {d : Nd} (h : ds[k]? = some (.br o es)) (r : Rch es p d) : Rch ds (k :: p) d := by
  cases p with
  | nil => exact r.elim
  | cons j p => exact ⟨o, es, h, r⟩
mutual
theorem rchI : ∀ (d : Nd) (k : Nat) (all : List Nd), all[k]? = some d → ∀ (i : Nat) (p : List Nat) (e : Nd), (pthI d k)[i]? = some p → (subI d)[i]? = some e → Rch all p e
  | .let_ c, k, all, h, i, p, e, h1, h2 => by simp [pthI] at h1
  | .num c, k, all, h, i, p, e, h1, h2 => by simp [pthI] at h1
  | .br o ds, k, all, h, i, p, e, h1, h2 => by
    rw [pthI] at h1
    rw [subI] at h2
    cases i with
    | zero =>
      cases h1
      cases h2
      exact h
    | succ i =>
      rw [List.getElem?_cons_succ, List.getElem?_map] at h1
      rw [List.getElem?_cons_succ] at h2
      cases hq : (pthN ds 0)[i]? with
      | none => rw [hq] at h1; cases h1
      | some q =>
        rw [hq] at h1
        cases h1
        exact .cons h (rchN ds 0 ds rfl i q e hq h2)
theorem rchN : ∀ (ds : List Nd) (k : Nat) (all : List Nd), all.drop k = ds → ∀ (i : Nat) (p : List Nat) (e : Nd), (pthN ds k)[i]? = some p → (subN ds)[i]? = some e → Rch all p e
  | [], k, all, h, i, p, e, h1, h2 => by rw [pthN] at h1; cases h1
  | d :: ds, k, all, h, i, p, e, h1, h2 => by
    have hk : all[k]? = some d := by
      have := congrArg (fun x => x[0]?) h
      simpa using this
    have hd : all.drop (k + 1) = ds := by
      have := congrArg (List.drop 1) h
      simpa [List.drop_drop, Nat.add_comm] using this
    rw [pthN] at h1
    rw [subN] at h2
    have el := pth_subI d k
    by_cases hi : i < (pthI d k).length
    · rw [List.getElem?_append_left hi] at h1
      rw [List.getElem?_append_left (by omega)] at h2
      exact rchI d k all hk i p e h1 h2
    · rw [List.getElem?_append_right (by omega)] at h1
      rw [List.getElem?_append_right (by omega), ← el] at h2
      exact rchN ds (k + 1) all hd _ p e h1 h2
end
theorem mem_getOk {ds : List Nd} {k : Nat} {d : Nd} (h : ds[k]? = some d) (ok : ndOk ds) : ndOk1 d := by
  induction ds generalizing k with
  | nil => cases h
  | cons e ds ih =>
    rw [ndOk] at ok
    cases k with
    | zero => cases h; exact ok.1
    | succ k => exact ih h ok.2
/-! the text within -/
mutual
theorem nstI : ∀ (d : Nd), ndOk1 d → ∀ (fs : List (List Nd × Nat)) (cur : List Nd), (txI d).foldl nstep (fs, cur) = (fs, cur ++ [d])
  | .let_ c, ok, fs, cur => by
    rw [ndOk1] at ok
    rw [txI]
    exact st_let (let_opn c ok) (let_clo c ok)
  | .num i, ok, fs, cur => by rw [ndOk1] at ok; exact ok.elim
  | .br o ds, ok, fs, cur => by
    rw [ndOk1] at ok
    rw [txI, List.foldl_cons, st_opn ok.1, List.foldl_append, nstN ds ok.2 _ [], List.nil_append]
    exact st_clo (oth_clo o ok.1)
theorem nstN : ∀ (ds : List Nd), ndOk ds → ∀ (fs : List (List Nd × Nat)) (cur : List Nd), (txN ds).foldl nstep (fs, cur) = (fs, cur ++ ds)
  | [], _, fs, cur => by rw [txN, List.append_nil]; rfl
  | d :: ds, ok, fs, cur => by
    rw [ndOk] at ok
    rw [txN, List.foldl_append, nstI d ok.1, nstN ds ok.2]
    simp
end
theorem nest_txN {ds : List Nd} (ok : ndOk ds) : nestD (txN ds) = ds := by
  unfold nestD nst
  rw [nstN ds ok, List.nil_append]
theorem cntO_cons (c : Nat) (l : List Nat) : cntO (c :: l) = (if c ∈ OPN then 1 else 0) + cntO l := by
  unfold cntO
  rw [List.countP_cons]
  simp
  omega
theorem oth_nopn : ∀ c ∈ OPN, oth c ∉ OPN := by decide
mutual
theorem cnt_subI : ∀ d : Nd, ndOk1 d → cntO (txI d) = (subI d).length
  | .let_ c, ok => by
    rw [ndOk1] at ok
    rw [txI, cntO_cons, if_neg (let_opn c ok)]
    simp [cntO, subI]
  | .num i, ok => by rw [ndOk1] at ok; exact ok.elim
  | .br o ds, ok => by
    rw [ndOk1] at ok
    rw [txI, cntO_cons, if_pos ok.1, cntO_app, cnt_subN ds ok.2, cntO_cons, if_neg (oth_nopn o ok.1), subI, List.length_cons]
    show 1 + (_ + (0 + 0)) = _
    omega
theorem cnt_subN : ∀ ds : List Nd, ndOk ds → cntO (txN ds) = (subN ds).length
  | [], _ => by rw [txN, subN]; rfl
  | d :: ds, ok => by
    rw [ndOk] at ok
    rw [txN, cntO_app, cnt_subI d ok.1, cnt_subN ds ok.2, subN, List.length_append]
end
/-! an opening sign of a nest's text opens the nest that stands there in the row of nests within -/
mutual
theorem subI_at : ∀ (d : Nd), ndOk1 d → ∀ (pre : List Nat) (c : Nat) (post : List Nat), txI d = pre ++ c :: post → c ∈ OPN → ∃ (es : List Nd) (rest : List Nat), post = txN es ++ oth c :: rest ∧ (subI d)[cntO pre]? = some (.br c es) ∧ ndOk es
  | .let_ x, ok, pre, c, post, h, hc => by
    rw [ndOk1] at ok
    rw [txI] at h
    have : c ∈ [x] := by rw [h]; simp
    rw [List.mem_singleton.mp this] at hc
    exact absurd hc (let_opn x ok)
  | .num i, ok, pre, c, post, h, hc => by rw [ndOk1] at ok; exact ok.elim
  | .br o ds, ok, pre, c, post, h, hc => by
    rw [ndOk1] at ok
    rw [txI] at h
    cases pre with
    | nil =>
      cases h
      refine ⟨ds, [], rfl, ?_, ok.2⟩
      rw [subI]
      rfl
    | cons x pre =>
      obtain ⟨rfl, h'⟩ := List.cons.inj h
      have hne : post ≠ [] := fun e => by
        rw [e] at h'
        have h1 := congrArg List.getLast? h'
        simp at h1
        exact oth_nopn o ok.1 (h1 ▸ hc)
      obtain ⟨post', y, rfl⟩ : ∃ post' y, post = post' ++ [y] := ⟨post.dropLast, post.getLast hne, (List.dropLast_concat_getLast hne).symm⟩
      have h4 : txN ds ++ [oth o] = (pre ++ c :: post') ++ [y] := h'.trans (show pre ++ c :: (post' ++ [y]) = _ by simp)
      obtain ⟨h2, h3⟩ := List.append_inj' h4 rfl
      obtain ⟨es, rest, e1, e2, e3⟩ := subN_at ds ok.2 pre c post' h2 hc
      refine ⟨es, rest ++ [y], by rw [e1]; simp, ?_, e3⟩
      rw [cntO_cons, if_pos ok.1, subI, Nat.add_comm, List.getElem?_cons_succ]
      exact e2
theorem subN_at : ∀ (ds : List Nd), ndOk ds → ∀ (pre : List Nat) (c : Nat) (post : List Nat), txN ds = pre ++ c :: post → c ∈ OPN → ∃ (es : List Nd) (rest : List Nat), post = txN es ++ oth c :: rest ∧ (subN ds)[cntO pre]? = some (.br c es) ∧ ndOk es
  | [], ok, pre, c, post, h, hc => by rw [txN] at h; cases pre <;> cases h
  | d :: ds, ok, pre, c, post, h, hc => by
    rw [ndOk] at ok
    rw [txN] at h
    rcases List.append_eq_append_iff.mp h with ⟨as, h1, h2⟩ | ⟨bs, h1, h2⟩
    · -- pre = txI d ++ as
      obtain ⟨es, rest, e1, e2, e3⟩ := subN_at ds ok.2 as c post h2 hc
      refine ⟨es, rest, e1, ?_, e3⟩
      rw [h1, cntO_app, cnt_subI d ok.1, subN, List.getElem?_append_right (by omega), Nat.add_sub_cancel_left]
      exact e2
    · -- txI d = pre ++ bs, c :: post = bs ++ txN ds
      cases bs with
      | nil =>
        rw [List.append_nil] at h1
        obtain ⟨es, rest, e1, e2, e3⟩ := subN_at ds ok.2 [] c post h2.symm hc
        refine ⟨es, rest, e1, ?_, e3⟩
        rw [← h1, cnt_subI d ok.1, subN, List.getElem?_append_right (by omega), Nat.sub_self]
        exact e2
      | cons x bs =>
        obtain ⟨rfl, h3⟩ := List.cons.inj h2
        obtain ⟨es, rest, e1, e2, e3⟩ := subI_at d ok.1 pre c bs h1 hc
        refine ⟨es, rest ++ txN ds, by rw [h3, e1]; simp, ?_, e3⟩
        rw [subN, List.getElem?_append_left (List.getElem?_eq_some_iff.mp e2).1]
        exact e2
end
mutual
theorem txI_clean : ∀ (d : Nd), ndOk1 d → clean (txI d)
  | .let_ c, ok => by
    rw [ndOk1] at ok
    rw [txI]
    exact (clean_let (let_opn c ok) (let_clo c ok)).mpr clean_nil
  | .num i, ok => by rw [ndOk1] at ok; exact ok.elim
  | .br o ds, ok => by
    rw [ndOk1] at ok
    rw [txI]
    exact clean_pair ok.1 (txN_clean ds ok.2)
theorem txN_clean : ∀ (ds : List Nd), ndOk ds → clean (txN ds)
  | [], _ => by rw [txN]; exact clean_nil
  | d :: ds, ok => by
    rw [ndOk] at ok
    rw [txN]
    exact clean_app (txI_clean d ok.1) (txN_clean ds ok.2)
end
/-- the stretch within an opening sign and its mate, at a clean text -/
theorem sub_text {l pre post : List Nat} {c : Nat} (hc : clean l) (hs : ∀ x ∈ l, isSg x) (e : l = pre ++ c :: post) (ho : c ∈ OPN) : ∃ (es : List Nd) (j : Nat), ptn l pre.length j ∧ seg l (pre.length + 1) j = txN es ∧ nestD (seg l (pre.length + 1) j) = es ∧ clean (seg l (pre.length + 1) j) ∧ (subN (nestD l))[cntO pre]? = some (.br c es) ∧ ndOk es := by
  obtain ⟨es, rest, h1, h2, h3⟩ := subN_at (nestD l) (nest_ok hs) pre c post (by rw [tx_nest hc, e]) ho
  have hseg : seg l (pre.length + 1) (pre.length + 1 + (txN es).length) = txN es := by
    unfold seg
    rw [e, h1, show pre ++ c :: (txN es ++ oth c :: rest) = ((pre ++ [c]) ++ txN es) ++ (oth c :: rest) by simp]
    have l1 : (pre ++ [c]).length = pre.length + 1 := by simp
    have l2 : ((pre ++ [c]) ++ txN es).length = pre.length + 1 + (txN es).length := by rw [List.length_append, l1]
    rw [← l2, List.take_left, ← l1, List.drop_left]
  have hcl := txN_clean es h3
  refine ⟨es, pre.length + 1 + (txN es).length, ⟨by omega, c, ?_, ho, ?_, by rw [hseg]; exact hcl⟩, hseg, ?_, ?_, h2, h3⟩
  · rw [e]; simp
  · rw [e, h1, show pre ++ c :: (txN es ++ oth c :: rest) = (pre ++ c :: txN es) ++ (oth c :: rest) by simp, List.getElem?_append_right (by simp; omega)]
    simp
    rw [show pre.length + 1 + (txN es).length - (pre.length + ((txN es).length + 1)) = 0 by omega]
    rfl
  · rw [hseg]; exact nest_txN h3
  · rw [hseg]; exact hcl
end Ly

set_option maxHeartbeats 4000000
namespace Ly
open PySem PySem.Spec PyProof.Rows L2 SX
/-! ### len(set) of tuples of ints -/
def rLenSt (K : PySem.W.Frag) (P : Program) (w : World) (xs : List V) (H : Hp) (Q : VK) : Prop := ∃ (a : Addr) (L : List (Addr × List Int)), xs = [.ref a] ∧ H a = some (SetTO P w a L) ∧ (∀ p ∈ L, SqT K H p.1 (p.2.map V.int)) ∧ Q (.int L.length) H
theorem call_lenSt {X : Cx} : CallR X (.builtin "len") (rLenSt X.K X.prog X.w) := by
  intro pins s σ H xs us Q I r h
  obtain ⟨a, L, rfl, ha, hk, q⟩ := h
  have R0 : SetT0 X.prog X.w s.heap a L := (I.hok a _ ha).1
  obtain ⟨es, ep, t, R⟩ := R0.full fun p hp => I.isT (hk p hp)
  obtain ⟨o, ho, hex, hd⟩ := R.ob
  have h8 := R.few
  rw [Vals.ref1 r]
  have hn : es.size = L.length := by
    have := congrArg List.length R.rows
    simpa [rowsOf] using this
  exact call_len_set ho hex hd R.fits (by rw [hn] <;> omega) ⟨.int L.length, H, I.tok _, ⟨_, by rw [hn]⟩, q⟩
/-- different tuples make a set of as many -/
theorem nodup_le : ∀ {xs ys : List (List Int)}, xs.Nodup → (∀ x ∈ xs, x ∈ ys) → xs.length ≤ ys.length
  | [], ys, _, _ => Nat.zero_le _
  | x :: xs, ys, hn, h => by
    have hx := h x List.mem_cons_self
    have := nodup_le (xs := xs) (ys := ys.erase x) (List.nodup_cons.mp hn).2 fun y hy => (List.mem_erase_of_ne (fun e : y = x => (List.nodup_cons.mp hn).1 (e ▸ hy))).mpr (h y (List.mem_cons_of_mem _ hy))
    rw [List.length_erase_of_mem hx] at this
    have : 0 < ys.length := List.length_pos_of_mem hx
    rw [List.length_cons]
    omega
theorem Room.w65 {k : Nat} {A : Around} (r : Room k A) : A.units + 65 < cLine := by have := r.un; omega
/-! ### nests side by side -/
theorem nest_app {l m : List Nat} (hl : clean l) (hm : clean m) (hs : ∀ c ∈ m, isSg c) : nestD (l ++ m) = nestD l ++ nestD m := by
  have e : nst l = ([], nestD l) := by
    show nst l = ([], (nst l).2)
    rw [← nst_clean hl]
  have e2 : nst (l ++ m) = m.foldl nstep (nst l) := by unfold nst; rw [List.foldl_append]
  have e3 : m.foldl nstep ([], nestD l) = ([], nestD l ++ nestD m) := by
    have := nstN (nestD m) (nest_ok hs) [] (nestD l)
    rw [tx_nest hm] at this
    exact this
  show (nst (l ++ m)).2 = _
  rw [e2, e, e3]
mutual
def mirI : Nd → Nd
  | .br o ds => .br o (mirN ds)
  | .let_ c => .let_ c
  | .num i => .num i
def mirN : List Nd → List Nd
  | [] => []
  | d :: ds => mirN ds ++ [mirI d]
end
mutual
theorem mirI_deep : ∀ d : Nd, (mirI d).deep = d.deep
  | .br o ds => by rw [mirI, Nd.deep, Nd.deep, mirN_deep ds]
  | .let_ c => by rw [mirI]
  | .num i => by rw [mirI]
theorem mirN_deep : ∀ ds : List Nd, Nd.deeps (mirN ds) = Nd.deeps ds
  | [] => by rw [mirN]
  | d :: ds => by
    rw [mirN, deeps_snoc, mirN_deep ds, mirI_deep d, Nd.deeps]
    omega
end
mutual
theorem mirI_ok : ∀ d : Nd, ndOk1 d → ndOk1 (mirI d)
  | .br o ds, h => by
    rw [ndOk1] at h
    rw [mirI, ndOk1]
    exact ⟨h.1, mirN_ok ds h.2⟩
  | .let_ c, h => by rw [mirI]; exact h
  | .num i, h => by rw [mirI]; exact h
theorem mirN_ok : ∀ ds : List Nd, ndOk ds → ndOk (mirN ds)
  | [], h => by rw [mirN]; exact h
  | d :: ds, h => by
    rw [ndOk] at h
    rw [mirN]
    exact ndOk_app _ _ (mirN_ok ds h.2) (ndOk_one (mirI_ok d h.1))
end
/-! paths: all different, each behind the one it goes on from -/
mutual
theorem pthI_from : ∀ (d : Nd) (k : Nat) (p : List Nat), p ∈ pthI d k → ∃ q, p = k :: q
  | .let_ c, k, p, h => by simp [pthI] at h
  | .num c, k, p, h => by simp [pthI] at h
  | .br o ds, k, p, h => by
    rw [pthI] at h
    rcases List.mem_cons.mp h with rfl | h
    · exact ⟨[], rfl⟩
    · obtain ⟨q, _, rfl⟩ := List.mem_map.mp h
      exact ⟨q, rfl⟩
theorem pthN_from : ∀ (ds : List Nd) (k : Nat) (p : List Nat), p ∈ pthN ds k → ∃ j q, k ≤ j ∧ p = j :: q
  | [], k, p, h => by rw [pthN] at h; cases h
  | d :: ds, k, p, h => by
    rw [pthN] at h
    rcases List.mem_append.mp h with h | h
    · obtain ⟨q, rfl⟩ := pthI_from d k p h
      exact ⟨k, q, Nat.le_refl _, rfl⟩
    · obtain ⟨j, q, hj, rfl⟩ := pthN_from ds (k + 1) p h
      exact ⟨j, q, by omega, rfl⟩
end
mutual
theorem pthI_nodup : ∀ (d : Nd) (k : Nat), (pthI d k).Nodup
  | .let_ c, k => by simp [pthI]
  | .num c, k => by simp [pthI]
  | .br o ds, k => by
    rw [pthI, List.nodup_cons]
    refine ⟨fun h => ?_, ?_⟩
    · obtain ⟨q, hq, e⟩ := List.mem_map.mp h
      obtain ⟨j, r, _, rfl⟩ := pthN_from ds 0 q hq
      cases e
    · exact List.pairwise_map.mpr ((pthN_nodup ds 0).imp fun hab e => hab (List.cons.inj e).2)
theorem pthN_nodup : ∀ (ds : List Nd) (k : Nat), (pthN ds k).Nodup
  | [], k => by rw [pthN]; exact List.nodup_nil
  | d :: ds, k => by
    rw [pthN]
    refine List.nodup_append.mpr ⟨pthI_nodup d k, pthN_nodup ds (k + 1), fun a ha b hb e => ?_⟩
    obtain ⟨q, rfl⟩ := pthI_from d k a ha
    obtain ⟨j, r, hj, rfl⟩ := pthN_from ds (k + 1) b hb
    cases e
    omega
end
mutual
theorem pthI_pre : ∀ (d : Nd) (k i : Nat) (p : List Nat), (pthI d k)[i]? = some p → 1 < p.length → p.dropLast ∈ (pthI d k).take i
  | .let_ c, k, i, p, h, h1 => by simp [pthI] at h
  | .num c, k, i, p, h, h1 => by simp [pthI] at h
  | .br o ds, k, i, p, h, h1 => by
    rw [pthI] at h ⊢
    cases i with
    | zero => cases h; simp at h1
    | succ i =>
      rw [List.getElem?_cons_succ, List.getElem?_map] at h
      cases hq : (pthN ds 0)[i]? with
      | none => rw [hq] at h; cases h
      | some q =>
        rw [hq] at h
        have e : p = k :: q := (Option.some.inj h).symm
        subst e
        rw [List.take_succ_cons]
        obtain ⟨j, r, _, rfl⟩ := pthN_from ds 0 q (List.mem_of_getElem? hq)
        cases r with
        | nil => simp
        | cons x r =>
          refine List.mem_cons_of_mem _ ?_
          have := pthN_pre ds 0 i _ hq (by simp)
          rw [← List.map_take]
          refine List.mem_map.mpr ⟨_, this, ?_⟩
          rfl
theorem pthN_pre : ∀ (ds : List Nd) (k i : Nat) (p : List Nat), (pthN ds k)[i]? = some p → 1 < p.length → p.dropLast ∈ (pthN ds k).take i
  | [], k, i, p, h, h1 => by rw [pthN] at h; cases h
  | d :: ds, k, i, p, h, h1 => by
    rw [pthN] at h ⊢
    by_cases hi : i < (pthI d k).length
    · rw [List.getElem?_append_left hi] at h
      rw [List.take_append_of_le_length (by omega)]
      exact pthI_pre d k i p h h1
    · rw [List.getElem?_append_right (by omega)] at h
      rw [List.take_append]
      exact List.mem_append_right _ (pthN_pre ds (k + 1) _ p h h1)
end
/-! outlines side by side, within -/
theorem blk_succ (k : Nat) : blk (k + 1) = 32 :: blk k := by
  unfold blk
  rfl
theorem joinL_cons (s p : List Nat) {r : List (List Nat)} (h : r ≠ []) : TL.joinL s (p :: r) = p ++ (s ++ TL.joinL s r) := by
  cases r with
  | nil => exact absurd rfl h
  | cons q r => rfl
theorem joinL_app (s : List Nat) : ∀ {a b : List (List Nat)}, a ≠ [] → b ≠ [] → TL.joinL s (a ++ b) = TL.joinL s a ++ (s ++ TL.joinL s b)
  | [], b, h, _ => absurd rfl h
  | [p], b, _, hb => joinL_cons s p hb
  | p :: q :: a, b, _, hb => by
    rw [List.cons_append, joinL_cons s p (by simp), joinL_app s (a := q :: a) (by simp) hb, joinL_cons s p (by simp)]
    simp
theorem joinL_ne {s : List Nat} {a : List (List Nat)} (h : a ≠ []) (hn : ∀ x ∈ a, x ≠ []) : TL.joinL s a ≠ [] := by
  cases a with
  | nil => exact absurd rfl h
  | cons p r =>
    have hp := hn p List.mem_cons_self
    cases r with
    | nil => exact hp
    | cons q r => rw [joinL_cons s p (by simp)]; simp [hp]
theorem ln_ne (ds : List Nd) (k : Nat) : ∀ x ∈ lnN ds k, x ≠ [] := fun x hx e => by have := (lnN_len ds k x hx).1; rw [e] at this; simp at this
mutual
theorem lnI_in : ∀ (d : Nd) (k : Nat), lnI d (k + 1) = (lnI d k).map (32 :: ·)
  | .let_ c, k => by rw [lnI, lnI, blk_succ]; rfl
  | .num i, k => by rw [lnI, lnI]; rfl
  | .br o ds, k => by rw [lnI, lnI, blk_succ, lnN_in ds (k + 1)]; rfl
theorem lnN_in : ∀ (ds : List Nd) (k : Nat), lnN ds (k + 1) = (lnN ds k).map (32 :: ·)
  | [], k => by rw [lnN, lnN]; rfl
  | d :: ds, k => by rw [lnN, lnN, lnI_in d k, lnN_in ds k, List.map_append]
end
/-- the lines within, joined by a line's end and a blank -/
theorem joinL_in : ∀ (a : List (List Nat)), TL.joinL [10, 32] ([] :: a) = (match a with | [] => [] | _ => 10 :: TL.joinL [10] (a.map (32 :: ·)))
  | [] => rfl
  | [p] => rfl
  | p :: q :: a => by
    have ih := joinL_in (q :: a)
    rw [joinL_cons _ _ (by simp), joinL_cons [10, 32] p (by simp)]
    rw [joinL_cons _ _ (by simp)] at ih
    have ih' : [10, 32] ++ TL.joinL [10, 32] (q :: a) = 10 :: TL.joinL [10] ((q :: a).map (32 :: ·)) := ih
    show [] ++ ([10, 32] ++ (p ++ ([10, 32] ++ TL.joinL [10, 32] (q :: a)))) = 10 :: TL.joinL [10] ((32 :: p) :: (q :: a).map (32 :: ·))
    rw [ih', joinL_cons [10] (32 :: p) (by simp)]
    simp
end Ly

set_option maxHeartbeats 4000000
namespace Ly
/-! ### all rows of steps with so many deeds, counted -/
def Stp.wd (W : Wd) : Stp → Prop
  | .kp _ => True
  | .st _ => W.st = true
  | .tn _ _ => W.tn = true
  | .pt _ => W.pt = true
def cstS : List Stp → Nat
  | [] => 0
  | .kp _ :: α => cstS α
  | .st _ :: α => cstS α + 1
  | .tn _ _ :: α => cstS α + 1
  | .pt _ :: α => cstS α + 1
/-- all rows of steps by words, from a pile of awaited ones, over a text, with so many deeds, in order -/
def rowsL (W : Wd) (st r : List Nat) (n : Nat) : List (List Stp) :=
  (match n with
   | 0 => []
   | n + 1 => if W.pt = true then BRK.flatMap fun c => (match stp (some st) c with | none => [] | some s => rowsL W s r n).map (Stp.pt c :: ·) else [])
  ++ (match r with
   | [] => if st = [] ∧ n = 0 then [[]] else []
   | x :: r => if x ∈ BRK then
        (match n with
         | 0 => []
         | n + 1 => (if W.st = true then (rowsL W st r n).map (Stp.st x :: ·) else []) ++ (if W.tn = true then (BRK.filter (· ≠ x)).flatMap fun c => (match stp (some st) c with | none => [] | some s => rowsL W s r n).map (Stp.tn x c :: ·) else []))
        ++ (match stp (some st) x with | none => [] | some s => rowsL W s r n).map (Stp.kp x :: ·)
      else (rowsL W st r n).map (Stp.kp x :: ·))
termination_by n + r.length
/-! series -/
abbrev Ser := Nat → Nat
def sh (f : Ser) : Ser := fun n => match n with | 0 => 0 | n + 1 => f n
def gat (b : Bool) (f : Ser) : Ser := fun n => if b = true then f n else 0
def oA (f : List Nat → Ser) (o : Option (List Nat)) : Ser := fun n => match o with | none => 0 | some s => f s n
def bS (cs : List Nat) (f : Nat → Ser) : Ser := fun n => (cs.map fun c => f c n).sum
def An (W : Wd) (st r : List Nat) : Ser := fun n => (rowsL W st r n).length
def pA (W : Wd) (st r : List Nat) : Ser := sh (gat W.pt (bS BRK fun c => oA (fun s => An W s r) (stp (some st) c)))
theorem len_oA {W : Wd} {r : List Nat} {n : Nat} (o : Option (List Nat)) (f : List Stp → List Stp) : ((match o with | none => [] | some s => rowsL W s r n).map f).length = oA (fun s => An W s r) o n := by
  cases o with
  | none => rfl
  | some s => rw [List.length_map]; rfl
theorem len_bS {W : Wd} {r st : List Nat} {n : Nat} (cs : List Nat) (f : Nat → List Stp → List Stp) : (cs.flatMap fun c => (match stp (some st) c with | none => [] | some s => rowsL W s r n).map (f c)).length = bS cs (fun c => oA (fun s => An W s r) (stp (some st) c)) n := by
  rw [List.length_flatMap]
  unfold bS
  congr 1
  exact List.map_congr_left fun c _ => len_oA _ _
theorem pA_len {W : Wd} {r st : List Nat} {n : Nat} : (match n with
   | 0 => []
   | n + 1 => if W.pt = true then BRK.flatMap fun c => (match stp (some st) c with | none => [] | some s => rowsL W s r n).map (Stp.pt c :: ·) else []).length = pA W st r n := by
  cases n with
  | zero => rfl
  | succ n =>
    unfold pA sh gat
    dsimp only
    by_cases h : W.pt = true
    · rw [if_pos h, if_pos h, len_bS]
    · rw [if_neg h, if_neg h]; rfl
theorem An_nil (W : Wd) (st : List Nat) (n : Nat) : An W st [] n = pA W st [] n + if st = [] ∧ n = 0 then 1 else 0 := by
  show (rowsL W st [] n).length = _
  rw [rowsL.eq_def, List.length_append, pA_len]
  dsimp only
  by_cases h : st = [] ∧ n = 0
  · rw [if_pos h, if_pos h]; rfl
  · rw [if_neg h, if_neg h]; rfl
theorem An_let {W : Wd} {x : Nat} (hx : x ∉ BRK) (st r : List Nat) (n : Nat) : An W st (x :: r) n = pA W st (x :: r) n + An W st r n := by
  show (rowsL W st (x :: r) n).length = _
  rw [rowsL.eq_def, List.length_append, pA_len]
  dsimp only
  rw [if_neg hx, List.length_map]
  rfl
def tA (W : Wd) (st : List Nat) (x : Nat) (r : List Nat) : Ser := sh fun n => gat W.st (An W st r) n + gat W.tn (bS (BRK.filter (· ≠ x)) fun c => oA (fun s => An W s r) (stp (some st) c)) n
theorem An_brk {W : Wd} {x : Nat} (hx : x ∈ BRK) (st r : List Nat) (n : Nat) : An W st (x :: r) n = pA W st (x :: r) n + (tA W st x r n + oA (fun s => An W s r) (stp (some st) x) n) := by
  show (rowsL W st (x :: r) n).length = _
  rw [rowsL.eq_def, List.length_append, pA_len]
  dsimp only
  rw [if_pos hx, List.length_append, len_oA]
  congr 2
  cases n with
  | zero => rfl
  | succ n =>
    dsimp only [tA, sh]
    rw [List.length_append]
    congr 1
    · unfold gat
      by_cases h : W.st = true
      · rw [if_pos h, if_pos h, List.length_map]; rfl
      · rw [if_neg h, if_neg h]; rfl
    · unfold gat
      by_cases h : W.tn = true
      · rw [if_pos h, if_pos h, len_bS]
      · rw [if_neg h, if_neg h]; rfl
/-! products -/
def cv : Ser → Ser → Ser
  | f, g, 0 => f 0 * g 0
  | f, g, n + 1 => f 0 * g (n + 1) + cv (fun a => f (a + 1)) g n
theorem cv_add (f f' g : Ser) : ∀ n, cv (fun a => f a + f' a) g n = cv f g n + cv f' g n := by
  intro n
  induction n generalizing f f' with
  | zero => exact Nat.add_mul _ _ _
  | succ n ih => rw [cv, cv, cv, ih, Nat.add_mul]; omega
theorem cv_addR (f g g' : Ser) : ∀ n, cv f (fun a => g a + g' a) n = cv f g n + cv f g' n := by
  intro n
  induction n generalizing f with
  | zero => exact Nat.mul_add _ _ _
  | succ n ih => rw [cv, cv, cv, ih, Nat.mul_add]; omega
theorem cv_zero (g : Ser) : ∀ n, cv (fun _ => 0) g n = 0 := by
  intro n
  induction n with
  | zero => exact Nat.zero_mul _
  | succ n ih => rw [cv, ih, Nat.zero_mul]
theorem cv_zeroR (f : Ser) : ∀ n, cv f (fun _ => 0) n = 0 := by
  intro n
  induction n generalizing f with
  | zero => exact Nat.mul_zero _
  | succ n ih => rw [cv, ih, Nat.mul_zero]
theorem cv_sh (f g : Ser) (n : Nat) : cv (sh f) g n = sh (cv f g) n := by
  cases n with
  | zero => exact Nat.zero_mul _
  | succ n => show sh f 0 * g (n + 1) + cv (fun a => f a) g n = cv f g n; rw [show sh f 0 = 0 from rfl, Nat.zero_mul, Nat.zero_add]
theorem cv_one (g : Ser) (n : Nat) : cv (fun a => if a = 0 then 1 else 0) g n = g n := by
  cases n with
  | zero => exact Nat.one_mul _
  | succ n =>
    show 1 * g (n + 1) + cv (fun a => if a + 1 = 0 then 1 else 0) g n = g (n + 1)
    rw [show (fun a : Nat => if a + 1 = 0 then 1 else 0) = fun _ => 0 from funext fun a => if_neg (by omega), cv_zero]
    omega
theorem cv_shR (f g : Ser) : ∀ n, cv f (sh g) n = sh (cv f g) n := by
  intro n
  induction n generalizing f with
  | zero => exact Nat.mul_zero _
  | succ n ih =>
    rw [cv, ih]
    cases n with
    | zero => show f 0 * g 0 + 0 = f 0 * g 0; omega
    | succ n => rfl
theorem cv_gat (b : Bool) (f g : Ser) (n : Nat) : cv (gat b f) g n = gat b (cv f g) n := by
  cases b with
  | true => rfl
  | false => exact cv_zero g n
theorem cv_pos {f g : Ser} : ∀ {n : Nat}, cv f g n ≠ 0 ↔ ∃ a b, a + b = n ∧ f a ≠ 0 ∧ g b ≠ 0 := by
  intro n
  induction n generalizing f with
  | zero =>
    constructor
    · intro h
      exact ⟨0, 0, rfl, fun e => h (by show f 0 * g 0 = 0; rw [e, Nat.zero_mul]), fun e => h (by show f 0 * g 0 = 0; rw [e, Nat.mul_zero])⟩
    · rintro ⟨a, b, e, h1, h2⟩
      have ea : a = 0 := by omega
      have eb : b = 0 := by omega
      subst ea eb
      exact Nat.mul_ne_zero h1 h2
  | succ n ih =>
    rw [cv]
    constructor
    · intro h
      by_cases h0 : f 0 * g (n + 1) = 0
      · have h1 : cv (fun a => f (a + 1)) g n ≠ 0 := by omega
        obtain ⟨a, b, e, ha, hb⟩ := ih.mp h1
        exact ⟨a + 1, b, by omega, ha, hb⟩
      · exact ⟨0, n + 1, by omega, fun e => h0 (by rw [e, Nat.zero_mul]), fun e => h0 (by rw [e, Nat.mul_zero])⟩
    · rintro ⟨a, b, e, ha, hb⟩
      cases a with
      | zero =>
        have eb : b = n + 1 := by omega
        subst eb
        have := Nat.mul_ne_zero ha hb
        omega
      | succ a =>
        have := (ih (f := fun a => f (a + 1))).mpr ⟨a, b, by omega, ha, hb⟩
        omega
/-- over all ways to part a text in two -/
def SP (f g : List Nat → Ser) : List Nat → Ser
  | [] => cv (f []) (g [])
  | x :: r => fun n => cv (f []) (g (x :: r)) n + SP (fun u => f (x :: u)) g r n
theorem SP_congr {f f' g g' : List Nat → Ser} : ∀ {r : List Nat}, (∀ u v, u ++ v = r → f u = f' u) → (∀ u v, u ++ v = r → g v = g' v) → SP f g r = SP f' g' r
  | [], h1, h2 => by rw [SP, SP, h1 [] [] rfl, h2 [] [] rfl]
  | x :: r, h1, h2 => by
    funext n
    rw [SP, SP, h1 [] (x :: r) rfl, h2 [] (x :: r) rfl, SP_congr (f := fun u => f (x :: u)) (f' := fun u => f' (x :: u)) (fun u v e => h1 (x :: u) v (by rw [List.cons_append, e])) (fun u v e => h2 (x :: u) v (by rw [List.cons_append, e]))]
theorem SP_add (f f' g : List Nat → Ser) : ∀ (r : List Nat) (n : Nat), SP (fun u a => f u a + f' u a) g r n = SP f g r n + SP f' g r n
  | [], n => cv_add _ _ _ n
  | x :: r, n => by
    show cv (fun a => f [] a + f' [] a) _ n + SP (fun u a => f (x :: u) a + f' (x :: u) a) g r n = _
    rw [cv_add, SP_add (fun u => f (x :: u)) (fun u => f' (x :: u)) g r n, SP, SP]
    dsimp only
    omega
theorem SP_addR (f g g' : List Nat → Ser) : ∀ (r : List Nat) (n : Nat), SP f (fun v a => g v a + g' v a) r n = SP f g r n + SP f g' r n := by
  intro r
  induction r generalizing f with
  | nil => intro n; exact cv_addR _ _ _ n
  | cons x r ih =>
    intro n
    show cv _ (fun a => g (x :: r) a + g' (x :: r) a) n + SP (fun u => f (x :: u)) (fun v a => g v a + g' v a) r n = _
    rw [cv_addR, ih, SP, SP]
    dsimp only
    omega
theorem SP_zero (g : List Nat → Ser) : ∀ (r : List Nat) (n : Nat), SP (fun _ _ => 0) g r n = 0
  | [], n => cv_zero _ n
  | x :: r, n => by
    show cv (fun _ => 0) _ n + SP (fun _ _ => 0) g r n = 0
    rw [cv_zero, SP_zero g r n]
theorem SP_sh (f g : List Nat → Ser) : ∀ (r : List Nat) (n : Nat), SP (fun u => sh (f u)) g r n = sh (SP f g r) n := by
  intro r
  induction r generalizing f with
  | nil => intro n; exact cv_sh _ _ n
  | cons x r ih =>
    intro n
    show cv (sh (f [])) _ n + SP (fun u => sh (f (x :: u))) g r n = _
    rw [cv_sh, ih (fun u => f (x :: u))]
    cases n <;> rfl
theorem SP_gat (b : Bool) (f g : List Nat → Ser) (r : List Nat) (n : Nat) : SP (fun u => gat b (f u)) g r n = gat b (SP f g r) n := by
  cases b with
  | true => rfl
  | false => exact SP_zero g r n
theorem SP_bS (cs : List Nat) (f : Nat → List Nat → Ser) (g : List Nat → Ser) (r : List Nat) (n : Nat) : SP (fun u => bS cs fun c => f c u) g r n = bS cs (fun c => SP (f c) g r) n := by
  induction cs with
  | nil => exact SP_zero g r n
  | cons c cs ih =>
    have e : (fun u => bS (c :: cs) fun c => f c u) = fun u a => f c u a + bS cs (fun c => f c u) a := rfl
    rw [e, SP_add, ih]
    rfl
theorem SP_oA (f : List Nat → List Nat → Ser) (o : Option (List Nat)) (g : List Nat → Ser) (r : List Nat) (n : Nat) : SP (fun u => oA (fun s => f s u) o) g r n = oA (fun s => SP (f s) g r) o n := by
  cases o with
  | none => exact SP_zero g r n
  | some s => rfl
/-- closing what is awaited last, then the rest -/
def Cl (W : Wd) (k : Nat) (st v : List Nat) : Ser := fun n => sh (gat W.pt (An W st v)) n + match v with
  | [] => 0
  | x :: v => if x ∈ BRK then (if x = k then An W st v n else sh (gat W.tn (An W st v)) n) else 0
theorem stp_under {k : Nat} (hk : k ∈ CLO) (s st : List Nat) (c : Nat) : stp (some (s ++ k :: st)) c = match stp (some s) c with
    | some s' => some (s' ++ k :: st)
    | none => if s = [] ∧ c = k then some st else none := by
  unfold stp
  dsimp only
  by_cases h1 : c ∈ OPN
  · rw [if_pos h1, if_pos h1]; rfl
  · rw [if_neg h1, if_neg h1]
    by_cases h2 : c ∈ CLO
    · rw [if_pos h2, if_pos h2]
      cases s with
      | nil =>
        show (if k = c then some st else none) = if [] = [] ∧ c = k then some st else none
        by_cases e : k = c
        · rw [if_pos e, if_pos ⟨rfl, e.symm⟩]
        · rw [if_neg e, if_neg (fun h => e h.2.symm)]
      | cons d s =>
        show (if d = c then some (s ++ k :: st) else none) = _
        by_cases e : d = c
        · rw [if_pos e]; dsimp only; rw [if_pos e]
        · rw [if_neg e]; dsimp only; rw [if_neg e]; dsimp only; rw [if_neg (fun h => by cases h.1)]
    · rw [if_neg h2, if_neg h2]

/-- all but what is put first -/
def rA (W : Wd) (st : List Nat) : List Nat → Ser
  | [] => fun n => if st = [] ∧ n = 0 then 1 else 0
  | x :: r => fun n => if x ∈ BRK then tA W st x r n + oA (fun s => An W s r) (stp (some st) x) n else An W st r n
theorem An_eq (W : Wd) (st r : List Nat) (n : Nat) : An W st r n = pA W st r n + rA W st r n := by
  cases r with
  | nil => exact An_nil W st n
  | cons x r =>
    show _ = _ + (if x ∈ BRK then tA W st x r n + oA (fun s => An W s r) (stp (some st) x) n else An W st r n)
    by_cases h : x ∈ BRK
    · rw [if_pos h]; exact An_brk h st r n
    · rw [if_neg h]; exact An_let h st r n
theorem SP_pA (W : Wd) (s : List Nat) (g : List Nat → Ser) (r : List Nat) (n : Nat) : SP (pA W s) g r n = sh (gat W.pt (bS BRK fun c => oA (fun s' => SP (An W s') g r) (stp (some s) c))) n := by
  unfold pA
  rw [SP_sh]
  cases n with
  | zero => rfl
  | succ n =>
    show SP (fun u => gat W.pt _) g r n = gat W.pt _ n
    rw [SP_gat]
    unfold gat
    by_cases h : W.pt = true
    · rw [if_pos h, if_pos h, SP_bS BRK (fun c u => oA (fun s' => An W s' u) (stp (some s) c))]
      unfold bS
      congr 1
      exact List.map_congr_left fun c _ => SP_oA (fun s' u => An W s' u) _ g r n
    · rw [if_neg h, if_neg h]
theorem oA_under {W : Wd} {k : Nat} (hk : k ∈ CLO) {s st r : List Nat} {n c : Nat} {g : List Nat → Ser} (ih : ∀ s', An W (s' ++ k :: st) r n = SP (An W s') g r n) :
    oA (fun s => An W s r) (stp (some (s ++ k :: st)) c) n = oA (fun s' => SP (An W s') g r) (stp (some s) c) n + if s = [] ∧ c = k then An W st r n else 0 := by
  rw [stp_under hk]
  by_cases h : s = [] ∧ c = k
  · obtain ⟨rfl, rfl⟩ := h
    have e : stp (some []) c = none := by
      unfold stp
      dsimp only
      rw [if_neg (fun h => opn_clo c h hk), if_pos hk]
    rw [e]
    dsimp only
    rw [if_pos ⟨rfl, rfl⟩, if_pos ⟨rfl, rfl⟩]
    show An W st r n = 0 + An W st r n
    omega
  · rw [if_neg h, if_neg h]
    cases stp (some s) c with
    | none => rfl
    | some s' => exact ih s'
theorem bS_under {W : Wd} {k : Nat} (hk : k ∈ CLO) {s st r : List Nat} {n : Nat} {g : List Nat → Ser} (ih : ∀ s', An W (s' ++ k :: st) r n = SP (An W s') g r n) : ∀ cs : List Nat,
    bS cs (fun c => oA (fun s => An W s r) (stp (some (s ++ k :: st)) c)) n = bS cs (fun c => oA (fun s' => SP (An W s') g r) (stp (some s) c)) n + if s = [] then cs.count k * An W st r n else 0
  | [] => by unfold bS; simp
  | c :: cs => by
    have i := bS_under hk ih (s := s) cs
    have e1 : ∀ f : Nat → Ser, bS (c :: cs) f n = f c n + bS cs f n := fun f => rfl
    rw [e1, e1, i, oA_under hk ih, List.count_cons]
    by_cases h : s = []
    · rw [if_pos h, if_pos h]
      by_cases e : c = k
      · rw [if_pos ⟨h, e⟩, if_pos (by simp [e]), Nat.add_mul]; omega
      · rw [if_neg (fun q => e q.2), if_neg (by simp [e]), show List.count k cs + 0 = List.count k cs from rfl]; omega
    · rw [if_neg h, if_neg h, if_neg (fun q => h q.1)]; omega
theorem cnt_brk : ∀ k ∈ CLO, BRK.count k = 1 := by decide
theorem cnt_brkF : ∀ k ∈ CLO, ∀ x ∈ BRK, (BRK.filter (· ≠ x)).count k = if x = k then 0 else 1 := by decide
theorem first_ret {W : Wd} {k : Nat} (hk : k ∈ CLO) (st : List Nat) : ∀ (N n : Nat) (r s : List Nat), n + r.length ≤ N → An W (s ++ k :: st) r n = SP (An W s) (Cl W k st) r n := by
  intro N
  induction N with
  | zero =>
    intro n r s h
    have h1 : n = 0 := by omega
    have h2 : r = [] := List.length_eq_zero_iff.mp (by omega)
    subst h1 h2
    rw [An_nil]
    show 0 + (if s ++ k :: st = [] ∧ 0 = 0 then 1 else 0) = An W s [] 0 * (0 + 0)
    rw [if_neg (by simp)]; rfl
  | succ N ihN =>
    intro n r s h
    have eS : SP (An W s) (Cl W k st) r n = SP (pA W s) (Cl W k st) r n + SP (rA W s) (Cl W k st) r n := by
      rw [← SP_add]
      exact congrFun (SP_congr (fun u v e => funext fun a => An_eq W s u a) (fun u v e => rfl)) n
    have eP : pA W (s ++ k :: st) r n = SP (pA W s) (Cl W k st) r n + if s = [] then sh (gat W.pt (An W st r)) n else 0 := by
      rw [SP_pA]
      unfold pA
      cases n with
      | zero => show (0 : Nat) = 0 + _; split <;> rfl
      | succ n =>
        show gat W.pt _ n = gat W.pt _ n + if s = [] then gat W.pt (An W st r) n else 0
        unfold gat
        by_cases hp : W.pt = true
        · rw [if_pos hp, if_pos hp, if_pos hp, bS_under hk (g := Cl W k st) (fun s' => ihN n r s' (by omega)), cnt_brk k hk, Nat.one_mul]
        · rw [if_neg hp, if_neg hp, if_neg hp]; split <;> rfl
    have eB : ∀ r', cv (rA W s []) (Cl W k st r') n = if s = [] then Cl W k st r' n else 0 := fun r' => by
      by_cases hs : s = []
      · rw [if_pos hs]
        have : rA W s [] = fun a => if a = 0 then 1 else 0 := by
          funext a
          show (if s = [] ∧ a = 0 then 1 else 0) = _
          by_cases ha : a = 0
          · rw [if_pos ⟨hs, ha⟩, if_pos ha]
          · rw [if_neg (fun q => ha q.2), if_neg ha]
        rw [this, cv_one]
      · rw [if_neg hs]
        have : rA W s [] = fun _ => 0 := by
          funext a
          exact if_neg (fun q => hs q.1)
        rw [this, cv_zero]
    rw [eS, An_eq, eP]
    cases r with
    | nil =>
      have e0 : rA W (s ++ k :: st) [] n = 0 := if_neg (fun q => by simp at q)
      rw [e0]
      show _ = _ + cv (rA W s []) (Cl W k st []) n
      rw [eB]
      by_cases hs : s = []
      · rw [if_pos hs, if_pos hs]
        show _ = _ + (sh (gat W.pt (An W st [])) n + 0)
        omega
      · rw [if_neg hs, if_neg hs]
    | cons x r =>
      have eR : SP (rA W s) (Cl W k st) (x :: r) n = (if s = [] then Cl W k st (x :: r) n else 0) + SP (fun u => rA W s (x :: u)) (Cl W k st) r n := by
        show cv (rA W s []) (Cl W k st (x :: r)) n + _ = _
        rw [eB]
      rw [eR]
      have hl : n + r.length ≤ N := by rw [List.length_cons] at h; omega
      by_cases hx : x ∈ BRK
      · have e1 : rA W (s ++ k :: st) (x :: r) n = tA W (s ++ k :: st) x r n + oA (fun s => An W s r) (stp (some (s ++ k :: st)) x) n := if_pos hx
        have e2 : SP (fun u => rA W s (x :: u)) (Cl W k st) r n = SP (tA W s x) (Cl W k st) r n + oA (fun s' => SP (An W s') (Cl W k st) r) (stp (some s) x) n := by
          rw [← SP_oA (fun s' u => An W s' u), ← SP_add]
          exact congrFun (SP_congr (fun u v e => funext fun a => if_pos hx) (fun u v e => rfl)) n
        have e3 : tA W (s ++ k :: st) x r n = SP (tA W s x) (Cl W k st) r n + if s = [] ∧ x ≠ k then sh (gat W.tn (An W st r)) n else 0 := by
          unfold tA
          rw [SP_sh]
          cases n with
          | zero => show (0 : Nat) = 0 + _; split <;> rfl
          | succ n =>
            show gat W.st _ n + gat W.tn _ n = SP _ _ r n + if s = [] ∧ x ≠ k then gat W.tn (An W st r) n else 0
            rw [SP_add, SP_gat, SP_gat]
            have hi : ∀ s', An W (s' ++ k :: st) r n = SP (An W s') (Cl W k st) r n := fun s' => ihN n r s' (by omega)
            have a1 : gat W.st (An W (s ++ k :: st) r) n = gat W.st (SP (An W s) (Cl W k st) r) n := by unfold gat; rw [hi s]
            rw [a1]
            have a2 : gat W.tn (bS (BRK.filter (· ≠ x)) fun c => oA (fun s => An W s r) (stp (some (s ++ k :: st)) c)) n = gat W.tn (SP (fun u => bS (BRK.filter (· ≠ x)) fun c => oA (fun s => An W s u) (stp (some s) c)) (Cl W k st) r) n + if s = [] ∧ x ≠ k then gat W.tn (An W st r) n else 0 := by
              unfold gat
              by_cases ht : W.tn = true
              · rw [if_pos ht, if_pos ht, if_pos ht, bS_under hk hi, SP_bS _ (fun c u => oA (fun s => An W s u) (stp (some s) c)), cnt_brkF k hk x hx]
                congr 1
                · unfold bS
                  congr 1
                  exact List.map_congr_left fun c _ => (SP_oA (fun s' u => An W s' u) _ _ r n).symm
                · by_cases hs : s = []
                  · rw [if_pos hs]
                    by_cases hxk : x = k
                    · rw [if_pos hxk, if_neg (fun q => q.2 hxk), Nat.zero_mul]
                    · rw [if_neg hxk, if_pos ⟨hs, hxk⟩, Nat.one_mul]
                  · rw [if_neg hs, if_neg (fun q => hs q.1)]
              · rw [if_neg ht, if_neg ht, if_neg ht]; split <;> rfl
            rw [a2]
            omega
        rw [e1, e2, e3, oA_under hk (g := Cl W k st) (fun s' => ihN n r s' hl)]
        by_cases hs : s = []
        · rw [if_pos hs, if_pos hs]
          have e4 : Cl W k st (x :: r) n = sh (gat W.pt (An W st (x :: r))) n + if x = k then An W st r n else sh (gat W.tn (An W st r)) n := by
            unfold Cl
            dsimp only
            rw [if_pos hx]
          rw [e4]
          by_cases hxk : x = k
          · rw [if_neg (fun q => q.2 hxk), if_pos ⟨hs, hxk⟩, if_pos hxk]; omega
          · rw [if_pos ⟨hs, hxk⟩, if_neg (fun q => hxk q.2), if_neg hxk]; omega
        · rw [if_neg hs, if_neg hs, if_neg (fun q => hs q.1), if_neg (fun q => hs q.1)]; omega
      · have e1 : rA W (s ++ k :: st) (x :: r) n = An W (s ++ k :: st) r n := if_neg hx
        have e2 : SP (fun u => rA W s (x :: u)) (Cl W k st) r n = SP (An W s) (Cl W k st) r n := by
          exact congrFun (SP_congr (fun u v e => funext fun a => if_neg hx) (fun u v e => rfl)) n
        have e4 : Cl W k st (x :: r) n = sh (gat W.pt (An W st (x :: r))) n := by
          unfold Cl
          dsimp only
          rw [if_neg hx]
          rfl
        rw [e1, e2, e4, ihN n r s hl]
        by_cases hs : s = []
        · rw [if_pos hs]; omega
        · rw [if_neg hs]; omega
end Ly

set_option maxHeartbeats 4000000
namespace Ly
/-! ### the least number with how many, of a series -/
def Ld (f : Ser) (x : MC) : Prop := match x with
  | none => ∀ n, f n = 0
  | some p => f p.1 = p.2 ∧ p.2 ≠ 0 ∧ ∀ a, a < p.1 → f a = 0
theorem Ld.uniq {f : Ser} {x y : MC} (h1 : Ld f x) (h2 : Ld f y) : x = y := by
  cases x with
  | none =>
    cases y with
    | none => rfl
    | some q => exact absurd ((h1 q.1).symm.trans h2.1).symm h2.2.1
  | some p =>
    cases y with
    | none => exact absurd ((h2 p.1).symm.trans h1.1).symm h1.2.1
    | some q =>
      obtain ⟨a, m⟩ := p
      obtain ⟨b, k⟩ := q
      obtain ⟨u1, u2, u3⟩ := h1
      obtain ⟨v1, v2, v3⟩ := h2
      dsimp only at *
      have e : a = b := by
        rcases Nat.lt_trichotomy a b with h | h | h
        · exact absurd (u1.symm.trans (v3 a h)) u2
        · exact h
        · exact absurd (v1.symm.trans (u3 b h)) v2
      subst e
      rw [← u1, ← v1]
theorem Ld.congr {f g : Ser} {x : MC} (h : Ld f x) (e : ∀ n, f n = g n) : Ld g x := by
  have : f = g := funext e
  rw [← this]
  exact h
theorem Ld_zero : Ld (fun _ => 0) none := fun _ => rfl
theorem Ld_add {f g : Ser} {x y : MC} (h1 : Ld f x) (h2 : Ld g y) : Ld (fun n => f n + g n) (mAdd x y) := by
  cases x with
  | none => exact h2.congr fun n => by rw [h1 n, Nat.zero_add]
  | some p =>
    cases y with
    | none => exact Ld.congr (x := some p) h1 fun n => by rw [h2 n, Nat.add_zero]
    | some q =>
      obtain ⟨a, m⟩ := p
      obtain ⟨b, k⟩ := q
      obtain ⟨u1, u2, u3⟩ := h1
      obtain ⟨v1, v2, v3⟩ := h2
      dsimp only at *
      unfold mAdd
      dsimp only
      by_cases h : a < b
      · rw [if_pos h]
        exact ⟨by show f a + g a = m; rw [u1, v3 a h]; rfl, u2, fun c hc => by show f c + g c = 0; rw [u3 c hc, v3 c (Nat.lt_trans hc h)]⟩
      · rw [if_neg h]
        by_cases h' : b < a
        · rw [if_pos h']
          exact ⟨by show f b + g b = k; rw [v1, u3 b h', Nat.zero_add], v2, fun c hc => by show f c + g c = 0; rw [v3 c hc, u3 c (Nat.lt_trans hc h')]⟩
        · rw [if_neg h']
          have e : a = b := by omega
          subst e
          exact ⟨by show f a + g a = m + k; rw [u1, v1], by show m + k ≠ 0; omega, fun c hc => by show f c + g c = 0; rw [u3 c hc, v3 c hc]⟩
theorem cv_none {f g : Ser} (h : ∀ n, f n = 0) (n : Nat) : cv f g n = 0 := by
  rw [show f = fun _ => 0 from funext h, cv_zero]
theorem cv_noneR {f g : Ser} (h : ∀ n, g n = 0) (n : Nat) : cv f g n = 0 := by
  rw [show g = fun _ => 0 from funext h, cv_zeroR]
theorem cv_lead {g : Ser} {b k : Nat} (v1 : g b = k) (v3 : ∀ c, c < b → g c = 0) : ∀ (a m : Nat) (f : Ser), f a = m → (∀ c, c < a → f c = 0) → cv f g (a + b) = m * k
  | 0, m, f, u1, _ => by
    rw [Nat.zero_add]
    cases b with
    | zero => show f 0 * g 0 = m * k; rw [u1, v1]
    | succ b =>
      show f 0 * g (b + 1) + cv (fun a => f (a + 1)) g b = m * k
      have : cv (fun a => f (a + 1)) g b = 0 := Classical.byContradiction fun h => by
        obtain ⟨x, y, e, _, hy⟩ := cv_pos.mp h
        exact hy (v3 y (by omega))
      rw [this, u1, v1, Nat.add_zero]
  | a + 1, m, f, u1, u3 => by
    rw [show a + 1 + b = (a + b) + 1 by omega]
    show f 0 * g (a + b + 1) + cv (fun a => f (a + 1)) g (a + b) = m * k
    rw [u3 0 (by omega), Nat.zero_mul, Nat.zero_add]
    exact cv_lead v1 v3 a m (fun a => f (a + 1)) u1 fun c hc => u3 (c + 1) (by omega)
theorem Ld_cv {f g : Ser} {x y : MC} (h1 : Ld f x) (h2 : Ld g y) : Ld (cv f g) (mMul x y) := by
  cases x with
  | none => exact fun n => cv_none h1 n
  | some p =>
    cases y with
    | none => exact fun n => cv_noneR h2 n
    | some q =>
      obtain ⟨a, m⟩ := p
      obtain ⟨b, k⟩ := q
      obtain ⟨u1, u2, u3⟩ := h1
      obtain ⟨v1, v2, v3⟩ := h2
      dsimp only at *
      refine ⟨cv_lead v1 v3 a m f u1 u3, Nat.mul_ne_zero u2 v2, fun c hc => Classical.byContradiction fun h => ?_⟩
      obtain ⟨x, y, e, hx, hy⟩ := cv_pos.mp h
      by_cases hxa : x < a
      · exact hx (u3 x hxa)
      · exact hy (v3 y (by show y < b; have : c < a + b := hc; omega))
def mS (p : Nat × Nat) : Ser := fun n => if n = p.1 then p.2 else 0
theorem Ld_mS {p : Nat × Nat} (h : p.2 ≠ 0) : Ld (mS p) (some p) := ⟨if_pos rfl, h, fun a ha => if_neg (by omega)⟩
theorem cv_mS (f : Ser) (k : Nat) : ∀ (e n : Nat), cv (mS (e, k)) f n = if e ≤ n then k * f (n - e) else 0
  | 0, n => by
    rw [if_pos (Nat.zero_le _)]
    cases n with
    | zero => rfl
    | succ n =>
      show k * f (n + 1) + cv (fun a => if a + 1 = 0 then k else 0) f n = _
      rw [show (fun a : Nat => if a + 1 = 0 then k else 0) = fun _ => 0 from funext fun a => if_neg (by omega), cv_zero]
      rfl
  | e + 1, 0 => by
    rw [if_neg (by omega)]
    show (if 0 = e + 1 then k else 0) * f 0 = 0
    rw [if_neg (by omega), Nat.zero_mul]
  | e + 1, n + 1 => by
    show (if 0 = e + 1 then k else 0) * f (n + 1) + cv (fun a => if a + 1 = e + 1 then k else 0) f n = _
    rw [if_neg (by omega), Nat.zero_mul, Nat.zero_add]
    have : (fun a => if a + 1 = e + 1 then k else 0) = mS (e, k) := funext fun a => by
      show (if a + 1 = e + 1 then k else 0) = if a = e then k else 0
      by_cases h : a = e
      · rw [if_pos h, if_pos (by omega)]
      · rw [if_neg h, if_neg (by omega)]
    rw [this, cv_mS f k e n, show n + 1 - (e + 1) = n - e by omega]
    by_cases h : e ≤ n
    · rw [if_pos h, if_pos (by omega)]
    · rw [if_neg h, if_neg (by omega)]
theorem sh_mS (f : Ser) (n : Nat) : sh f n = cv (mS (1, 1)) f n := by
  rw [cv_mS]
  cases n with
  | zero => rfl
  | succ n => rw [if_pos (by omega), Nat.one_mul]; rfl
theorem Ld_sh {f : Ser} {x : MC} (h : Ld f x) : Ld (sh f) (mMul w1 x) := (Ld_cv (Ld_mS (p := (1, 1)) (by decide)) h).congr fun n => (sh_mS f n).symm
theorem Ld_gat {b : Bool} {f : Ser} {x : MC} (h : Ld f x) : Ld (gat b f) (if b = true then x else none) := by
  cases b with
  | true => exact h
  | false => exact Ld_zero
theorem Ld_SP : ∀ {r : List Nat} {f g : List Nat → Ser} {F G : Nat → MC}, (∀ t, t ≤ r.length → Ld (f (r.take t)) (F t)) → (∀ t, t ≤ r.length → Ld (g (r.drop t)) (G t)) → Ld (SP f g r) (sm (fun t => mMul (F t) (G t)) (r.length + 1))
  | [], f, g, F, G, h1, h2 => Ld_cv (h1 0 (Nat.le_refl _)) (h2 0 (Nat.le_refl _))
  | x :: r, f, g, F, G, h1, h2 => by
    rw [sm_head]
    refine Ld_add (Ld_cv (h1 0 (Nat.zero_le _)) (h2 0 (Nat.zero_le _))) ?_
    exact Ld_SP (f := fun u => f (x :: u)) (F := fun k => F (k + 1)) (G := fun k => G (k + 1)) (fun t ht => h1 (t + 1) (by rw [List.length_cons]; omega)) (fun t ht => h2 (t + 1) (by rw [List.length_cons]; omega))
/-- what is more never comes ahead -/
theorem Ld_junk {f g : Ser} {x : MC} (h : Ld g x) (hle : ∀ n, g n ≤ f n) (hj : ∀ n, g n < f n → ∃ m, m < n ∧ f m ≠ 0) : Ld f x := by
  have key : ∀ n, (∀ m, m < n → g m = 0) → ∀ m, m < n → f m = 0 := by
    intro n hg m
    induction m using Nat.strongRecOn with
    | ind m ih =>
      intro hm
      refine Classical.byContradiction fun h0 => ?_
      obtain ⟨k, hk, hf⟩ := hj m (by rw [hg m hm]; omega)
      exact hf (ih k hk (by omega))
  cases x with
  | none => exact fun n => key (n + 1) (fun m _ => h m) n (by omega)
  | some p =>
    obtain ⟨h1, h2, h3⟩ := h
    have hz := key p.1 h3
    refine ⟨?_, h2, hz⟩
    refine Classical.byContradiction fun hne => ?_
    obtain ⟨k, hk, hf⟩ := hj p.1 (by have := hle p.1; omega)
    exact hf (hz k hk)
theorem cv_le {f g g' : Ser} : ∀ {n : Nat}, (∀ b, g b ≤ g' b) → cv f g n ≤ cv f g' n := by
  intro n h
  induction n generalizing f with
  | zero => exact Nat.mul_le_mul_left _ (h 0)
  | succ n ih => exact Nat.add_le_add (Nat.mul_le_mul_left _ (h _)) ih
theorem cv_lt {f g g' : Ser} : ∀ {n : Nat}, (∀ b, g b ≤ g' b) → cv f g n < cv f g' n → ∃ a b, a + b = n ∧ f a ≠ 0 ∧ g b < g' b := by
  intro n h
  induction n generalizing f with
  | zero =>
    intro hl
    refine ⟨0, 0, rfl, fun e => ?_, Classical.byContradiction fun e => ?_⟩
    · rw [cv, cv, e, Nat.zero_mul, Nat.zero_mul] at hl; omega
    · have : g' 0 ≤ g 0 := by omega
      rw [cv, cv] at hl
      exact absurd (Nat.mul_le_mul_left (f 0) this) (by omega)
  | succ n ih =>
    intro hl
    rw [cv, cv] at hl
    by_cases h1 : cv (fun a => f (a + 1)) g n < cv (fun a => f (a + 1)) g' n
    · obtain ⟨a, b, e, ha, hb⟩ := ih h1
      exact ⟨a + 1, b, by omega, ha, hb⟩
    · have h2 : f 0 * g (n + 1) < f 0 * g' (n + 1) := by omega
      refine ⟨0, n + 1, by omega, fun e => ?_, Classical.byContradiction fun e => ?_⟩
      · rw [e, Nat.zero_mul, Nat.zero_mul] at h2; omega
      · have : g' (n + 1) ≤ g (n + 1) := by omega
        exact absurd (Nat.mul_le_mul_left (f 0) this) (by omega)
theorem SP_le {g g' : List Nat → Ser} (h : ∀ v b, g v b ≤ g' v b) : ∀ {r : List Nat} {f : List Nat → Ser} {n : Nat}, SP f g r n ≤ SP f g' r n
  | [], f, n => cv_le (h [])
  | x :: r, f, n => Nat.add_le_add (cv_le (h (x :: r))) (SP_le h)
theorem SP_lt {g g' : List Nat → Ser} (h : ∀ v b, g v b ≤ g' v b) : ∀ {r : List Nat} {f : List Nat → Ser} {n : Nat}, SP f g r n < SP f g' r n → ∃ u v a b, u ++ v = r ∧ a + b = n ∧ f u a ≠ 0 ∧ g v b < g' v b
  | [], f, n, hl => by
    obtain ⟨a, b, e, ha, hb⟩ := cv_lt (h []) hl
    exact ⟨[], [], a, b, rfl, e, ha, hb⟩
  | x :: r, f, n, hl => by
    by_cases h1 : SP (fun u => f (x :: u)) g r n < SP (fun u => f (x :: u)) g' r n
    · obtain ⟨u, v, a, b, e, e2, ha, hb⟩ := SP_lt h h1
      exact ⟨x :: u, v, a, b, by rw [List.cons_append, e], e2, ha, hb⟩
    · have h2 : cv (f []) (g (x :: r)) n < cv (f []) (g' (x :: r)) n := by
        have : cv (f []) (g (x :: r)) n + SP (fun u => f (x :: u)) g r n < cv (f []) (g' (x :: r)) n + SP (fun u => f (x :: u)) g' r n := hl
        omega
      obtain ⟨a, b, e, ha, hb⟩ := cv_lt (h (x :: r)) h2
      exact ⟨[], x :: r, a, b, rfl, e, ha, hb⟩
theorem SP_shR (f g : List Nat → Ser) : ∀ (r : List Nat) (n : Nat), SP f (fun v => sh (g v)) r n = sh (SP f g r) n := by
  intro r
  induction r generalizing f with
  | nil => intro n; exact cv_shR _ _ n
  | cons x r ih =>
    intro n
    show cv _ (sh (g (x :: r))) n + SP (fun u => f (x :: u)) (fun v => sh (g v)) r n = _
    rw [cv_shR, ih]
    cases n <;> rfl
theorem SP_zeroR (f : List Nat → Ser) : ∀ (r : List Nat) (n : Nat), SP f (fun _ _ => 0) r n = 0 := by
  intro r
  induction r generalizing f with
  | nil => intro n; exact cv_zeroR _ n
  | cons x r ih =>
    intro n
    show cv _ (fun _ => 0) n + SP (fun u => f (x :: u)) (fun _ _ => 0) r n = 0
    rw [cv_zeroR, ih]
theorem SP_gatR (b : Bool) (f g : List Nat → Ser) (r : List Nat) (n : Nat) : SP f (fun v => gat b (g v)) r n = gat b (SP f g r) n := by
  cases b with
  | true => rfl
  | false => exact SP_zeroR f r n
theorem SP_bSR (cs : List Nat) (f : List Nat → Ser) (g : Nat → List Nat → Ser) (r : List Nat) (n : Nat) : SP f (fun v => bS cs fun c => g c v) r n = bS cs (fun c => SP f (g c) r) n := by
  induction cs with
  | nil => exact SP_zeroR f r n
  | cons c cs ih =>
    have e : (fun v => bS (c :: cs) fun c => g c v) = fun v a => g c v a + bS cs (fun c => g c v) a := rfl
    rw [e, SP_addR, ih]
    rfl
end Ly

set_option maxHeartbeats 4000000
namespace Ly
/-! ### rows of steps -/
structure Row (W : Wd) (st r : List Nat) (n : Nat) (α : List Stp) : Prop where
  ok : okS α
  wd : ∀ s ∈ α, s.wd W
  tx : inS α = r
  ct : cstS α = n
  fo : (outS α).foldl stp (some st) = some []
section
variable {W : Wd} {st s r : List Nat} {n c x : Nat} {β : List Stp}
theorem okS_cons {y : Stp} : okS (y :: β) ↔ y.ok ∧ okS β := by
  unfold okS
  simp
theorem wd_cons {y : Stp} : (∀ s ∈ y :: β, s.wd W) ↔ y.wd W ∧ ∀ s ∈ β, s.wd W := by simp
theorem Row.pt (hp : W.pt = true) (hc : c ∈ BRK) (hs : stp (some st) c = some s) (h : Row W s r n β) : Row W st r (n + 1) (.pt c :: β) :=
  ⟨okS_cons.mpr ⟨hc, h.ok⟩, wd_cons.mpr ⟨hp, h.wd⟩, h.tx, by show cstS β + 1 = n + 1; rw [h.ct], by show (outS β).foldl stp (stp (some st) c) = some []; rw [hs]; exact h.fo⟩
theorem Row.str (hp : W.st = true) (hx : x ∈ BRK) (h : Row W st r n β) : Row W st (x :: r) (n + 1) (.st x :: β) :=
  ⟨okS_cons.mpr ⟨hx, h.ok⟩, wd_cons.mpr ⟨hp, h.wd⟩, by show x :: inS β = x :: r; rw [h.tx], by show cstS β + 1 = n + 1; rw [h.ct], h.fo⟩
theorem Row.tn (hp : W.tn = true) (hx : x ∈ BRK) (hc : c ∈ BRK) (hn : c ≠ x) (hs : stp (some st) c = some s) (h : Row W s r n β) : Row W st (x :: r) (n + 1) (.tn x c :: β) :=
  ⟨okS_cons.mpr ⟨⟨hx, hc, hn⟩, h.ok⟩, wd_cons.mpr ⟨hp, h.wd⟩, by show x :: inS β = x :: r; rw [h.tx], by show cstS β + 1 = n + 1; rw [h.ct], by show (outS β).foldl stp (stp (some st) c) = some []; rw [hs]; exact h.fo⟩
theorem Row.kp (hs : stp (some st) x = some s) (h : Row W s r n β) : Row W st (x :: r) n (.kp x :: β) :=
  ⟨okS_cons.mpr ⟨trivial, h.ok⟩, wd_cons.mpr ⟨trivial, h.wd⟩, by show x :: inS β = x :: r; rw [h.tx], h.ct, by show (outS β).foldl stp (stp (some st) x) = some []; rw [hs]; exact h.fo⟩
theorem fold_some {o : Option (List Nat)} {l t : List Nat} (h : l.foldl stp o = some t) : ∃ s, o = some s := by
  cases o with
  | none => rw [fold_none] at h; cases h
  | some s => exact ⟨s, rfl⟩
theorem Row.ipt (h : Row W st r n (.pt c :: β)) : W.pt = true ∧ c ∈ BRK ∧ ∃ s m, stp (some st) c = some s ∧ n = m + 1 ∧ Row W s r m β := by
  obtain ⟨h1, h2, h3, h4, h5⟩ := h
  have h5' : (outS β).foldl stp (stp (some st) c) = some [] := h5
  obtain ⟨s, hs⟩ := fold_some h5'
  rw [hs] at h5'
  exact ⟨(wd_cons.mp h2).1, (okS_cons.mp h1).1, s, cstS β, hs, h4.symm, (okS_cons.mp h1).2, (wd_cons.mp h2).2, h3, rfl, h5'⟩
theorem Row.ist (h : Row W st r n (.st x :: β)) : W.st = true ∧ x ∈ BRK ∧ ∃ r' m, r = x :: r' ∧ n = m + 1 ∧ Row W st r' m β := by
  obtain ⟨h1, h2, h3, h4, h5⟩ := h
  exact ⟨(wd_cons.mp h2).1, (okS_cons.mp h1).1, inS β, cstS β, h3.symm, h4.symm, (okS_cons.mp h1).2, (wd_cons.mp h2).2, rfl, rfl, h5⟩
theorem Row.itn (h : Row W st r n (.tn x c :: β)) : W.tn = true ∧ x ∈ BRK ∧ c ∈ BRK ∧ c ≠ x ∧ ∃ s r' m, stp (some st) c = some s ∧ r = x :: r' ∧ n = m + 1 ∧ Row W s r' m β := by
  obtain ⟨h1, h2, h3, h4, h5⟩ := h
  have h5' : (outS β).foldl stp (stp (some st) c) = some [] := h5
  obtain ⟨s, hs⟩ := fold_some h5'
  rw [hs] at h5'
  obtain ⟨⟨a1, a2, a3⟩, a4⟩ := okS_cons.mp h1
  exact ⟨(wd_cons.mp h2).1, a1, a2, a3, s, inS β, cstS β, hs, h3.symm, h4.symm, a4, (wd_cons.mp h2).2, rfl, rfl, h5'⟩
theorem Row.ikp (h : Row W st r n (.kp x :: β)) : ∃ s r', stp (some st) x = some s ∧ r = x :: r' ∧ Row W s r' n β := by
  obtain ⟨h1, h2, h3, h4, h5⟩ := h
  have h5' : (outS β).foldl stp (stp (some st) x) = some [] := h5
  obtain ⟨s, hs⟩ := fold_some h5'
  rw [hs] at h5'
  exact ⟨s, inS β, hs, h3.symm, (okS_cons.mp h1).2, (wd_cons.mp h2).2, rfl, h4, h5'⟩
end
theorem mem_opt {W : Wd} {r : List Nat} {n : Nat} {o : Option (List Nat)} {f : List Stp → List Stp} {α : List Stp} : α ∈ (match o with | none => [] | some s => rowsL W s r n).map f ↔ ∃ s β, o = some s ∧ β ∈ rowsL W s r n ∧ f β = α := by
  cases o with
  | none => simp
  | some s => simp
theorem not_brk {x : Nat} (h : x ∉ BRK) (st : Option (List Nat)) : stp st x = st := stp_let (fun q => h (brk_or.mpr (.inl q))) (fun q => h (brk_or.mpr (.inr q)))
theorem rows_sound {W : Wd} : ∀ (N n : Nat) (r st : List Nat) (α : List Stp), n + r.length ≤ N → α ∈ rowsL W st r n → Row W st r n α := by
  intro N
  induction N with
  | zero =>
    intro n r st α h hm
    have h1 : n = 0 := by omega
    have h2 : r = [] := List.length_eq_zero_iff.mp (by omega)
    subst h1 h2
    rw [rowsL.eq_def] at hm
    dsimp only at hm
    rw [List.nil_append] at hm
    by_cases hs : st = [] ∧ 0 = 0
    · rw [if_pos hs] at hm
      rw [List.mem_singleton.mp hm, hs.1]
      exact ⟨(fun _ h => nomatch h), (fun _ h => nomatch h), rfl, rfl, rfl⟩
    · rw [if_neg hs] at hm; cases hm
  | succ N ih =>
    intro n r st α h hm
    rw [rowsL.eq_def] at hm
    rcases List.mem_append.mp hm with hm | hm
    · cases n with
      | zero => cases hm
      | succ n =>
        dsimp only at hm
        by_cases hp : W.pt = true
        · rw [if_pos hp] at hm
          obtain ⟨c, hc, hm⟩ := List.mem_flatMap.mp hm
          obtain ⟨s, β, hs, hb, rfl⟩ := mem_opt.mp hm
          exact Row.pt hp hc hs (ih n r s β (by omega) hb)
        · rw [if_neg hp] at hm; cases hm
    · cases r with
      | nil =>
        dsimp only at hm
        by_cases hs : st = [] ∧ n = 0
        · rw [if_pos hs] at hm
          rw [List.mem_singleton.mp hm, hs.1, hs.2]
          exact ⟨(fun _ h => nomatch h), (fun _ h => nomatch h), rfl, rfl, rfl⟩
        · rw [if_neg hs] at hm; cases hm
      | cons x r =>
        rw [List.length_cons] at h
        dsimp only at hm
        by_cases hx : x ∈ BRK
        · rw [if_pos hx] at hm
          rcases List.mem_append.mp hm with hm | hm
          · cases n with
            | zero => cases hm
            | succ n =>
              dsimp only at hm
              rcases List.mem_append.mp hm with hm | hm
              · by_cases hp : W.st = true
                · rw [if_pos hp] at hm
                  obtain ⟨β, hb, rfl⟩ := List.mem_map.mp hm
                  exact Row.str hp hx (ih n r st β (by omega) hb)
                · rw [if_neg hp] at hm; cases hm
              · by_cases hp : W.tn = true
                · rw [if_pos hp] at hm
                  obtain ⟨c, hc, hm⟩ := List.mem_flatMap.mp hm
                  obtain ⟨hc1, hc2⟩ := List.mem_filter.mp hc
                  obtain ⟨s, β, hs, hb, rfl⟩ := mem_opt.mp hm
                  exact Row.tn hp hx hc1 (by simpa using hc2) hs (ih n r s β (by omega) hb)
                · rw [if_neg hp] at hm; cases hm
          · obtain ⟨s, β, hs, hb, rfl⟩ := mem_opt.mp hm
            exact Row.kp hs (ih n r s β (by omega) hb)
        · rw [if_neg hx] at hm
          obtain ⟨β, hb, rfl⟩ := List.mem_map.mp hm
          exact Row.kp (not_brk hx _) (ih n r st β (by omega) hb)
theorem rows_all {W : Wd} : ∀ (α : List Stp) (st r : List Nat) (n : Nat), Row W st r n α → α ∈ rowsL W st r n
  | [], st, r, n, h => by
    have h1 : r = [] := h.tx.symm
    have h2 : n = 0 := h.ct.symm
    have h3 : st = [] := Option.some.inj h.fo
    subst h1 h2 h3
    rw [rowsL.eq_def]
    exact List.mem_append_right _ (by dsimp only; rw [if_pos ⟨rfl, rfl⟩]; exact List.mem_singleton.mpr rfl)
  | .pt c :: β, st, r, n, h => by
    obtain ⟨hp, hc, s, m, hs, rfl, hb⟩ := h.ipt
    rw [rowsL.eq_def]
    refine List.mem_append_left _ ?_
    dsimp only
    rw [if_pos hp]
    exact List.mem_flatMap.mpr ⟨c, hc, mem_opt.mpr ⟨s, β, hs, rows_all β s r m hb, rfl⟩⟩
  | .st x :: β, st, r, n, h => by
    obtain ⟨hp, hx, r', m, rfl, rfl, hb⟩ := h.ist
    rw [rowsL.eq_def]
    refine List.mem_append_right _ ?_
    dsimp only
    rw [if_pos hx]
    refine List.mem_append_left _ (List.mem_append_left _ ?_)
    rw [if_pos hp]
    exact List.mem_map.mpr ⟨β, rows_all β st r' m hb, rfl⟩
  | .tn x c :: β, st, r, n, h => by
    obtain ⟨hp, hx, hc, hn, s, r', m, hs, rfl, rfl, hb⟩ := h.itn
    rw [rowsL.eq_def]
    refine List.mem_append_right _ ?_
    dsimp only
    rw [if_pos hx]
    refine List.mem_append_left _ (List.mem_append_right _ ?_)
    rw [if_pos hp]
    exact List.mem_flatMap.mpr ⟨c, List.mem_filter.mpr ⟨hc, by simpa using hn⟩, mem_opt.mpr ⟨s, β, hs, rows_all β s r' m hb, rfl⟩⟩
  | .kp x :: β, st, r, n, h => by
    obtain ⟨s, r', hs, rfl, hb⟩ := h.ikp
    have hm := rows_all β s r' n hb
    rw [rowsL.eq_def]
    refine List.mem_append_right _ ?_
    dsimp only
    by_cases hx : x ∈ BRK
    · rw [if_pos hx]
      exact List.mem_append_right _ (mem_opt.mpr ⟨s, β, hs, hm, rfl⟩)
    · rw [if_neg hx]
      rw [not_brk hx] at hs
      cases hs
      exact List.mem_map.mpr ⟨β, hm, rfl⟩
theorem mem_rows {W : Wd} {st r : List Nat} {n : Nat} {α : List Stp} : α ∈ rowsL W st r n ↔ Row W st r n α := ⟨rows_sound _ n r st α (Nat.le_refl _), rows_all α st r n⟩
theorem An_pos {W : Wd} {st r : List Nat} {n : Nat} : An W st r n ≠ 0 ↔ ∃ α, Row W st r n α := by
  constructor
  · intro h
    have : rowsL W st r n ≠ [] := fun e => h (by show (rowsL W st r n).length = 0; rw [e]; rfl)
    obtain ⟨α, ha⟩ := List.exists_mem_of_ne_nil _ this
    exact ⟨α, mem_rows.mp ha⟩
  · rintro ⟨α, ha⟩ h
    have := List.length_pos_of_mem (mem_rows.mpr ha)
    have h' : (rowsL W st r n).length = 0 := h
    omega
/-! ### rows put together -/
theorem okS_app {α β : List Stp} (h1 : okS α) (h2 : okS β) : okS (α ++ β) := fun s hs => (List.mem_append.mp hs).elim (h1 s) (h2 s)
theorem inS_app (α β : List Stp) : inS (α ++ β) = inS α ++ inS β := by unfold inS; rw [List.map_append, List.flatten_append]
theorem outS_app (α β : List Stp) : outS (α ++ β) = outS α ++ outS β := by unfold outS; rw [List.map_append, List.flatten_append]
theorem cstS_app : ∀ (α β : List Stp), cstS (α ++ β) = cstS α + cstS β
  | [], β => (Nat.zero_add _).symm
  | .kp _ :: α, β => cstS_app α β
  | .st _ :: α, β => by show cstS (α ++ β) + 1 = cstS α + 1 + cstS β; rw [cstS_app α β]; omega
  | .tn _ _ :: α, β => by show cstS (α ++ β) + 1 = cstS α + 1 + cstS β; rw [cstS_app α β]; omega
  | .pt _ :: α, β => by show cstS (α ++ β) + 1 = cstS α + 1 + cstS β; rw [cstS_app α β]; omega
theorem Row.app {W : Wd} {u v : List Nat} {a b : Nat} {α β : List Stp} (h1 : Row W [] u a α) (h2 : Row W [] v b β) : Row W [] (u ++ v) (a + b) (α ++ β) :=
  ⟨okS_app h1.ok h2.ok, fun s hs => (List.mem_append.mp hs).elim (h1.wd s) (h2.wd s), by rw [inS_app, h1.tx, h2.tx], by rw [cstS_app, h1.ct, h2.ct], by rw [outS_app, List.foldl_append, h1.fo]; exact h2.fo⟩
theorem An_app {W : Wd} {u v : List Nat} {a b : Nat} (h1 : An W [] u a ≠ 0) (h2 : An W [] v b ≠ 0) : An W [] (u ++ v) (a + b) ≠ 0 := by
  obtain ⟨α, ha⟩ := An_pos.mp h1
  obtain ⟨β, hb⟩ := An_pos.mp h2
  exact An_pos.mpr ⟨_, ha.app hb⟩
theorem An_one {W : Wd} {x : Nat} (hp : W.pt = true) (hx : x ∈ BRK) : An W [] [x] 1 ≠ 0 := by
  refine An_pos.mpr ?_
  by_cases ho : x ∈ OPN
  · exact ⟨[.kp x, .pt (oth x)], Row.kp (stp_opn ho) (Row.pt hp (oth_brk x hx) (stp_clo (oth_clo x ho)) ⟨(fun _ h => nomatch h), (fun _ h => nomatch h), rfl, rfl, rfl⟩)⟩
  · have hc : x ∈ CLO := (brk_or.mp hx).resolve_left ho
    have e : stp (some []) (oth x) = some [x] := by rw [stp_opn (oth_opn x hc), oth_oth x hx]
    exact ⟨[.pt (oth x), .kp x], Row.pt hp (oth_brk x hx) e (Row.kp (stp_clo hc) ⟨(fun _ h => nomatch h), (fun _ h => nomatch h), rfl, rfl, rfl⟩)⟩
/-- a sign made into another one, or kept -/
def asS (x c : Nat) : Stp := if c = x then .kp x else .tn x c
def asC (x c : Nat) : Nat := if c = x then 0 else 1
theorem Row.as {W : Wd} {st s r : List Nat} {n x c : Nat} {β : List Stp} (hp : c = x ∨ W.tn = true) (hx : x ∈ BRK) (hc : c ∈ BRK) (hs : stp (some st) c = some s) (h : Row W s r n β) : Row W st (x :: r) (asC x c + n) (asS x c :: β) := by
  unfold asS asC
  by_cases e : c = x
  · rw [if_pos e, if_pos e, Nat.zero_add]
    subst e
    exact Row.kp hs h
  · rw [if_neg e, if_neg e, Nat.add_comm]
    exact Row.tn (hp.resolve_left e) hx hc e hs h
/-- what stands on a pile that stays -/
theorem Row.fr {W : Wd} {u : List Nat} {a : Nat} {α : List Stp} (h : Row W [] u a α) {st r : List Nat} {n : Nat} {β : List Stp} (hb : Row W st r n β) : Row W st (u ++ r) (a + n) (α ++ β) :=
  ⟨okS_app h.ok hb.ok, fun s hs => (List.mem_append.mp hs).elim (h.wd s) (hb.wd s), by rw [inS_app, h.tx, hb.tx], by rw [cstS_app, h.ct, hb.ct], by
    rw [outS_app, List.foldl_append, fold_run (r := []) h.fo]
    exact hb.fo⟩
theorem Row.nil {W : Wd} : Row W [] [] 0 [] := ⟨(fun _ h => nomatch h), (fun _ h => nomatch h), rfl, rfl, rfl⟩
theorem few_way : ∀ x ∈ BRK, ∀ d ∈ BRK, ∃ o ∈ OPN, asC x o + asC d (oth o) = (few x d).1 := by decide
theorem An_pair {W : Wd} {x d : Nat} (hx : x ∈ BRK) (hd : d ∈ BRK) (hg : (few x d).1 = 0 ∨ W.tn = true) {u : List Nat} {a : Nat} (h : An W [] u a ≠ 0) : An W [] (x :: (u ++ [d])) (a + (few x d).1) ≠ 0 := by
  obtain ⟨α, ha⟩ := An_pos.mp h
  obtain ⟨o, ho, ec⟩ := few_way x hx d hd
  have hob := brk_or.mpr (.inl ho)
  have hcb := oth_brk o hob
  have p1 : o = x ∨ W.tn = true := by
    by_cases e : o = x
    · exact .inl e
    · refine .inr (hg.resolve_left ?_)
      have : asC x o = 1 := if_neg e
      omega
  have p2 : oth o = d ∨ W.tn = true := by
    by_cases e : oth o = d
    · exact .inl e
    · refine .inr (hg.resolve_left ?_)
      have : asC d (oth o) = 1 := if_neg e
      omega
  have h2 : Row W [oth o] [d] (asC d (oth o) + 0) [asS d (oth o)] := Row.as p2 hd hcb (stp_clo (oth_clo o ho)) Row.nil
  have h3 := Row.as p1 hx hob (stp_opn ho) (ha.fr h2)
  rw [show asC x o + (a + (asC d (oth o) + 0)) = a + (few x d).1 by omega] at h3
  exact An_pos.mpr ⟨_, h3⟩
end Ly

set_option maxHeartbeats 4000000
namespace Ly
/-! ### all that begins so: what is least of it -/
section
variable {W : Wd}
/-- the sign that closes what was opened with k, kept or turned -/
def clo (W : Wd) (k : Nat) (v : List Nat) : Ser := fun n => match v with
  | [] => 0
  | d :: v => if d ∈ BRK then (if d = k then An W [] v n else sh (gat W.tn (An W [] v)) n) else 0
theorem Cl_eq (k : Nat) (v : List Nat) (n : Nat) : Cl W k [] v n = sh (gat W.pt (An W [] v)) n + clo W k v n := by
  cases v <;> rfl
def g1 (W : Wd) (x : Nat) (v : List Nat) : Ser := fun n => (if x ∈ OPN then Cl W (oth x) [] v n else 0) + sh (gat W.tn (bS (OPN.filter (· ≠ x)) fun o => Cl W (oth o) [] v)) n
def g2 (W : Wd) (v : List Nat) : Ser := sh (gat W.pt (bS OPN fun o => Cl W (oth o) [] v))
theorem bS_filter {f : Nat → Ser} {n : Nat} (p : Nat → Bool) : ∀ {cs : List Nat}, (∀ c ∈ cs, p c = false → f c n = 0) → bS cs f n = bS (cs.filter p) f n
  | [], _ => rfl
  | c :: cs, h => by
    have ih := bS_filter p (cs := cs) fun d hd => h d (List.mem_cons_of_mem _ hd)
    have e1 : ∀ ds, bS (c :: ds) f n = f c n + bS ds f n := fun ds => rfl
    cases hc : p c with
    | true => rw [List.filter_cons_of_pos hc, e1, e1, ih]
    | false => rw [List.filter_cons_of_neg (by rw [hc]; exact Bool.false_ne_true), e1, h c List.mem_cons_self hc, Nat.zero_add, ih]
theorem brk_opn : BRK.filter (fun c => decide (c ∈ OPN)) = OPN := by decide
theorem bS_congr {f g : Nat → Ser} {n : Nat} {cs : List Nat} (h : ∀ c ∈ cs, f c n = g c n) : bS cs f n = bS cs g n := by
  unfold bS
  congr 1
  exact List.map_congr_left h
theorem ret_one {o : Nat} (ho : o ∈ OPN) (r : List Nat) (n : Nat) : An W [oth o] r n = SP (An W []) (Cl W (oth o) []) r n := first_ret (oth_clo o ho) [] _ n r [] (Nat.le_refl _)
theorem oA_opn {r : List Nat} {n c : Nat} (hc : c ∈ OPN) : oA (fun s => An W s r) (stp (some []) c) n = SP (An W []) (Cl W (oth c) []) r n := by
  rw [stp_opn hc]
  exact ret_one hc r n
theorem oA_clo {r : List Nat} {n c : Nat} (hc : c ∈ BRK) (h : c ∉ OPN) : oA (fun s => An W s r) (stp (some []) c) n = 0 := by
  have : stp (some []) c = none := by
    unfold stp
    dsimp only
    rw [if_neg h, if_pos ((brk_or.mp hc).resolve_left h)]
  rw [this]
  rfl
theorem pA_g2 (r : List Nat) (n : Nat) : pA W [] r n = SP (An W []) (g2 W) r n := by
  unfold pA g2
  rw [SP_shR]
  cases n with
  | zero => rfl
  | succ n =>
    show gat W.pt _ n = SP _ (fun v => gat W.pt _) r n
    rw [SP_gatR]
    unfold gat
    by_cases h : W.pt = true
    · rw [if_pos h, if_pos h, SP_bSR OPN _ (fun o v => Cl W (oth o) [] v), bS_filter (fun c => decide (c ∈ OPN)) (fun c hc hp => oA_clo hc (by simpa using hp)), brk_opn]
      exact bS_congr fun c hc => oA_opn hc
    · rw [if_neg h, if_neg h]
theorem An_first {x : Nat} (hx : x ∈ BRK) (r : List Nat) (n : Nat) : An W [] (x :: r) n = SP (An W []) (g2 W) (x :: r) n + (sh (gat W.st (An W [] r)) n + SP (An W []) (g1 W x) r n) := by
  rw [An_brk hx, pA_g2]
  congr 1
  have e1 : SP (An W []) (g1 W x) r n = (if x ∈ OPN then SP (An W []) (Cl W (oth x) []) r n else 0) + sh (gat W.tn (bS (OPN.filter (· ≠ x)) fun o => SP (An W []) (Cl W (oth o) []) r)) n := by
    unfold g1
    rw [SP_addR (An W []) (fun v n => if x ∈ OPN then Cl W (oth x) [] v n else 0) (fun v => sh (gat W.tn (bS (OPN.filter (· ≠ x)) fun o => Cl W (oth o) [] v)))]
    congr 1
    · by_cases h : x ∈ OPN
      · simp only [if_pos h]
      · simp only [if_neg h]; exact SP_zeroR _ r n
    · rw [SP_shR]
      cases n with
      | zero => rfl
      | succ n =>
        show SP _ (fun v => gat W.tn _) r n = gat W.tn _ n
        rw [SP_gatR]
        unfold gat
        by_cases h : W.tn = true
        · rw [if_pos h, if_pos h, SP_bSR _ _ (fun o v => Cl W (oth o) [] v)]
        · rw [if_neg h, if_neg h]
  have e2 : oA (fun s => An W s r) (stp (some []) x) n = if x ∈ OPN then SP (An W []) (Cl W (oth x) []) r n else 0 := by
    by_cases h : x ∈ OPN
    · rw [if_pos h, oA_opn h]
    · rw [if_neg h, oA_clo hx h]
  have e3 : tA W [] x r n = sh (gat W.st (An W [] r)) n + sh (gat W.tn (bS (OPN.filter (· ≠ x)) fun o => SP (An W []) (Cl W (oth o) []) r)) n := by
    unfold tA
    cases n with
    | zero => rfl
    | succ n =>
      show _ + _ = gat W.st _ n + gat W.tn _ n
      congr 1
      unfold gat
      by_cases h : W.tn = true
      · rw [if_pos h, if_pos h, bS_filter (fun c => decide (c ∈ OPN)) (fun c hc hp => oA_clo (List.mem_filter.mp hc).1 (by simpa using hp)), List.filter_filter, show (fun a => decide (a ∈ OPN) && decide (a ≠ x)) = fun a => decide (a ≠ x) && decide (a ∈ OPN) from funext fun a => Bool.and_comm _ _, ← List.filter_filter, brk_opn]
        exact bS_congr fun c hc => oA_opn (List.mem_filter.mp hc).1
      · rw [if_neg h, if_neg h]
  rw [e1, e2, e3]
  omega
theorem An_firstL {x : Nat} (hx : x ∉ BRK) (r : List Nat) (n : Nat) : An W [] (x :: r) n = SP (An W []) (g2 W) (x :: r) n + An W [] r n := by
  rw [An_let hx, pA_g2]
/-! the least ones -/
def g2m (W : Wd) (v : List Nat) : Ser := fun n => match v with
  | [] => 0
  | d :: v => if d ∈ CLO then sh (gat W.pt (An W [] v)) n else 0
def g1o (W : Wd) (x : Nat) (v : List Nat) : Ser := fun n => if x ∈ OPN then sh (gat W.pt (An W [] v)) n else 0
def g1p (W : Wd) (x : Nat) (v : List Nat) : Ser := fun n => match v with
  | [] => 0
  | d :: v => if d ∈ BRK ∧ ((few x d).1 = 0 ∨ W.tn = true) then cv (mS (few x d)) (An W [] v) n else 0
theorem sum_if (cs : List Nat) (d A C : Nat) : (cs.map fun o => if d = oth o then A else C).sum = cs.countP (fun o => decide (d = oth o)) * A + (cs.length - cs.countP (fun o => decide (d = oth o))) * C := by
  induction cs with
  | nil => simp
  | cons c cs ih =>
    have hle := List.countP_le_length (p := fun o => decide (d = oth o)) (l := cs)
    rw [List.map_cons, List.sum_cons, ih, List.length_cons, List.countP_cons]
    by_cases h : d = oth c
    · rw [if_pos h, if_pos (by simpa using h), Nat.add_mul, show cs.length + 1 - (cs.countP (fun o => decide (d = oth o)) + 1) = cs.length - cs.countP (fun o => decide (d = oth o)) by omega]
      omega
    · rw [if_neg h, if_neg (by simpa using h), Nat.add_zero, show cs.length + 1 - cs.countP (fun o => decide (d = oth o)) = (cs.length - cs.countP (fun o => decide (d = oth o))) + 1 by omega, Nat.add_mul _ 1 C]
      omega
theorem sum_add (cs : List Nat) (A : Nat) (f : Nat → Nat) : (cs.map fun o => A + f o).sum = cs.length * A + (cs.map f).sum := by
  induction cs with
  | nil => simp
  | cons c cs ih => rw [List.map_cons, List.sum_cons, ih, List.length_cons, List.map_cons, List.sum_cons, Nat.add_mul]; omega
theorem bS_Cl (cs : List Nat) (v : List Nat) (n : Nat) : bS cs (fun o => Cl W (oth o) [] v) n = cs.length * sh (gat W.pt (An W [] v)) n + (cs.map fun o => clo W (oth o) v n).sum := by
  rw [← sum_add]
  exact bS_congr (g := fun o n => sh (gat W.pt (An W [] v)) n + clo W (oth o) v n) fun c _ => Cl_eq _ v n
theorem clo_sum (cs : List Nat) (d : Nat) (hd : d ∈ BRK) (v : List Nat) (n : Nat) : (cs.map fun o => clo W (oth o) (d :: v) n).sum = cs.countP (fun o => decide (d = oth o)) * An W [] v n + (cs.length - cs.countP (fun o => decide (d = oth o))) * sh (gat W.tn (An W [] v)) n := by
  rw [← sum_if]
  congr 1
  refine List.map_congr_left fun o _ => ?_
  show (if d ∈ BRK then (if d = oth o then An W [] v n else sh (gat W.tn (An W [] v)) n) else 0) = _
  rw [if_pos hd]
theorem clo_not (cs : List Nat) (v : List Nat) (n : Nat) (h : ∀ d w, v = d :: w → d ∉ BRK) : (cs.map fun o => clo W (oth o) v n).sum = 0 := by
  have : ∀ o, clo W (oth o) v n = 0 := fun o => by
    cases v with
    | nil => rfl
    | cons d w => exact if_neg (h d w rfl)
  rw [show (fun o => clo W (oth o) v n) = fun _ => 0 from funext this]
  clear this h
  induction cs with
  | nil => rfl
  | cons c cs ih => rw [List.map_cons, List.sum_cons, ih]
theorem sh_succ (f : Ser) (n : Nat) : sh f (n + 1) = f n := rfl
theorem sh_pos {f : Ser} {n : Nat} (h : sh f n ≠ 0) : ∃ m, n = m + 1 ∧ f m ≠ 0 := by
  cases n with
  | zero => exact absurd rfl h
  | succ m => exact ⟨m, rfl, h⟩
theorem gat_pos {b : Bool} {f : Ser} {n : Nat} (h : gat b f n ≠ 0) : b = true ∧ f n ≠ 0 := by
  unfold gat at h
  by_cases hb : b = true
  · rw [if_pos hb] at h; exact ⟨hb, h⟩
  · rw [if_neg hb] at h; exact absurd rfl h
theorem cnt_opn1 : ∀ d ∈ BRK, OPN.countP (fun o => decide (d = oth o)) = if d ∈ CLO then 1 else 0 := by decide
theorem opn_len : OPN.length = 4 := rfl
/-- what is put first, and not with a sign of the text: there is less -/
theorem g2_both (v : List Nat) (n : Nat) : g2m W v n ≤ g2 W v n ∧ (g2m W v n < g2 W v n → W.pt = true ∧ ((∃ m, n = m + 2 ∧ An W [] v m ≠ 0) ∨ ∃ d w m, v = d :: w ∧ d ∈ BRK ∧ n = m + 2 ∧ An W [] w m ≠ 0)) := by
  by_cases hp : W.pt = true
  · cases n with
    | zero =>
      have e : g2m W v 0 = 0 := by
        cases v with
        | nil => rfl
        | cons d w => show (if d ∈ CLO then 0 else 0) = 0; split <;> rfl
      rw [e]
      exact ⟨Nat.zero_le _, fun h => absurd h (by show ¬ 0 < 0; omega)⟩
    | succ n =>
      have e : g2 W v (n + 1) = 4 * sh (gat W.pt (An W [] v)) n + (OPN.map fun o => clo W (oth o) v n).sum := by
        show gat W.pt _ n = _
        unfold gat
        rw [if_pos hp, ← opn_len]
        exact bS_Cl OPN v n
      have key1 : sh (gat W.pt (An W [] v)) n ≠ 0 → ∃ m, n + 1 = m + 2 ∧ An W [] v m ≠ 0 := fun h => by
        obtain ⟨m, rfl, hm⟩ := sh_pos h
        exact ⟨m, rfl, (gat_pos hm).2⟩
      rw [e]
      cases v with
      | nil =>
        rw [clo_not OPN [] n (fun d w h => by cases h)]
        refine ⟨Nat.zero_le _, fun h => ⟨hp, .inl (key1 ?_)⟩⟩
        have : 0 < 4 * sh (gat W.pt (An W [] [])) n + 0 := h
        omega
      | cons d w =>
        by_cases hd : d ∈ BRK
        · rw [clo_sum OPN d hd, cnt_opn1 d hd, opn_len]
          have key2 : sh (gat W.tn (An W [] w)) n ≠ 0 → ∃ d' w' m, d :: w = d' :: w' ∧ d' ∈ BRK ∧ n + 1 = m + 2 ∧ An W [] w' m ≠ 0 := fun h => by
            obtain ⟨m, rfl, hm⟩ := sh_pos h
            exact ⟨d, w, m, rfl, hd, rfl, (gat_pos hm).2⟩
          by_cases hc : d ∈ CLO
          · have em : g2m W (d :: w) (n + 1) = An W [] w n := by
              show (if d ∈ CLO then gat W.pt (An W [] w) n else 0) = _
              unfold gat
              rw [if_pos hc, if_pos hp]
            rw [em, if_pos hc]
            refine ⟨by omega, fun h => ⟨hp, ?_⟩⟩
            by_cases h1 : sh (gat W.pt (An W [] (d :: w))) n = 0
            · exact .inr (key2 (by omega))
            · exact .inl (key1 h1)
          · have em : g2m W (d :: w) (n + 1) = 0 := if_neg hc
            rw [em, if_neg hc]
            refine ⟨Nat.zero_le _, fun h => ⟨hp, ?_⟩⟩
            by_cases h1 : sh (gat W.pt (An W [] (d :: w))) n = 0
            · exact .inr (key2 (by omega))
            · exact .inl (key1 h1)
        · rw [clo_not OPN (d :: w) n (fun d' w' e => by cases e; exact hd)]
          have em : g2m W (d :: w) (n + 1) = 0 := if_neg fun h => hd (brk_or.mpr (.inr h))
          rw [em]
          exact ⟨Nat.zero_le _, fun h => ⟨hp, .inl (key1 (by omega))⟩⟩
  · have e1 : g2 W v n = 0 := by
      cases n with
      | zero => rfl
      | succ n => exact if_neg hp
    have e2 : g2m W v n = 0 := by
      cases v with
      | nil => rfl
      | cons d w =>
        show (if d ∈ CLO then sh (gat W.pt (An W [] w)) n else 0) = 0
        cases n with
        | zero => show (if d ∈ CLO then 0 else 0) = 0; split <;> rfl
        | succ n => show (if d ∈ CLO then gat W.pt (An W [] w) n else 0) = 0; unfold gat; rw [if_neg hp]; split <;> rfl
    rw [e1, e2]
    exact ⟨Nat.le_refl _, fun h => absurd h (by omega)⟩
theorem g2_junk {v : List Nat} {b : Nat} (h : g2m W v b < g2 W v b) {u : List Nat} {a : Nat} (hu : An W [] u a ≠ 0) : ∃ m, m < a + b ∧ An W [] (u ++ v) m ≠ 0 := by
  obtain ⟨hp, ⟨m, rfl, hm⟩ | ⟨d, w, m, rfl, hd, rfl, hm⟩⟩ := (g2_both v b).2 h
  · exact ⟨a + m, by omega, An_app hu hm⟩
  · refine ⟨a + (1 + m), by omega, ?_⟩
    exact An_app hu (An_app (u := [d]) (An_one hp hd) hm)
/-! pairs -/
def n0 (x d : Nat) : Nat := if x ∈ OPN ∧ d = oth x then 1 else 0
def n1 (x d : Nat) : Nat := (if x ∈ OPN ∧ d ≠ oth x then 1 else 0) + (OPN.filter (· ≠ x)).countP (fun o => decide (d = oth o))
def n2 (x d : Nat) : Nat := (OPN.filter (· ≠ x)).length - (OPN.filter (· ≠ x)).countP (fun o => decide (d = oth o))
theorem few_n : ∀ x ∈ BRK, ∀ d ∈ BRK, (few x d = (0, 1) ∧ n0 x d = 1) ∨ (few x d = (1, n1 x d) ∧ n0 x d = 0) ∨ (few x d = (2, n2 x d) ∧ n0 x d = 0 ∧ n1 x d = 0) := by decide
/-- all ways to make two signs a pair -/
theorem pair_all {x d : Nat} (hd : d ∈ BRK) (v : List Nat) (n : Nat) :
    (if x ∈ OPN then clo W (oth x) (d :: v) n else 0) + sh (gat W.tn (fun n => ((OPN.filter (· ≠ x)).map fun o => clo W (oth o) (d :: v) n).sum)) n
      = n0 x d * An W [] v n + (n1 x d * sh (gat W.tn (An W [] v)) n + n2 x d * sh (sh (gat W.tn (An W [] v))) n) := by
  have e1 : (if x ∈ OPN then clo W (oth x) (d :: v) n else 0) = n0 x d * An W [] v n + (if x ∈ OPN ∧ d ≠ oth x then 1 else 0) * sh (gat W.tn (An W [] v)) n := by
    unfold n0
    by_cases hx : x ∈ OPN
    · rw [if_pos hx]
      show (if d ∈ BRK then (if d = oth x then An W [] v n else sh (gat W.tn (An W [] v)) n) else 0) = _
      rw [if_pos hd]
      by_cases e : d = oth x
      · rw [if_pos e, if_pos ⟨hx, e⟩, if_neg (fun h => h.2 e), Nat.one_mul, Nat.zero_mul]; rfl
      · rw [if_neg e, if_neg (fun h => e h.2), if_pos ⟨hx, e⟩, Nat.one_mul, Nat.zero_mul, Nat.zero_add]
    · rw [if_neg hx, if_neg (fun h => hx h.1), if_neg (fun h => hx h.1), Nat.zero_mul, Nat.zero_mul]
  have e2 : sh (gat W.tn (fun n => ((OPN.filter (· ≠ x)).map fun o => clo W (oth o) (d :: v) n).sum)) n = (OPN.filter (· ≠ x)).countP (fun o => decide (d = oth o)) * sh (gat W.tn (An W [] v)) n + n2 x d * sh (sh (gat W.tn (An W [] v))) n := by
    cases n with
    | zero => rfl
    | succ n =>
      rw [sh_succ, sh_succ, sh_succ]
      unfold gat
      by_cases ht : W.tn = true
      · rw [if_pos ht, if_pos ht]
        refine (clo_sum _ d hd v n).trans ?_
        unfold n2 gat
        rfl
      · rw [if_neg ht, if_neg ht]
        cases n with
        | zero => rfl
        | succ n => show 0 = _ * 0 + _ * (if W.tn = true then _ else 0); rw [if_neg ht, Nat.mul_zero, Nat.mul_zero]
  rw [e1, e2]
  unfold n1
  rw [Nat.add_mul]
  omega
theorem pair_both {x d : Nat} (hx : x ∈ BRK) (hd : d ∈ BRK) (v : List Nat) (n : Nat) : g1p W x (d :: v) n ≤ n0 x d * An W [] v n + (n1 x d * sh (gat W.tn (An W [] v)) n + n2 x d * sh (sh (gat W.tn (An W [] v))) n) ∧
    (g1p W x (d :: v) n < n0 x d * An W [] v n + (n1 x d * sh (gat W.tn (An W [] v)) n + n2 x d * sh (sh (gat W.tn (An W [] v))) n) → W.tn = true ∧ ∃ q m, (few x d).1 < q ∧ n = m + q ∧ An W [] v m ≠ 0) := by
  have eg : g1p W x (d :: v) n = if d ∈ BRK ∧ ((few x d).1 = 0 ∨ W.tn = true) then cv (mS (few x d)) (An W [] v) n else 0 := rfl
  rw [eg]
  by_cases ht : W.tn = true
  · rw [if_pos ⟨hd, .inr ht⟩]
    have eG : gat W.tn (An W [] v) = An W [] v := by rw [ht]; rfl
    rw [eG]
    have k1 : ∀ q, 1 < q → True := fun _ _ => trivial
    have s1 : sh (An W [] v) n ≠ 0 → ∃ m, n = m + 1 ∧ An W [] v m ≠ 0 := sh_pos
    have s2 : sh (sh (An W [] v)) n ≠ 0 → ∃ m, n = m + 2 ∧ An W [] v m ≠ 0 := fun h => by
      obtain ⟨m, rfl, hm⟩ := sh_pos h
      obtain ⟨k, rfl, hk⟩ := sh_pos hm
      exact ⟨k, rfl, hk⟩
    rcases few_n x hx d hd with ⟨ef, e0⟩ | ⟨ef, e0⟩ | ⟨ef, e0, e1⟩
    · rw [ef, cv_mS, if_pos (Nat.zero_le _), e0, Nat.sub_zero]
      refine ⟨by omega, fun h => ⟨ht, ?_⟩⟩
      by_cases z1 : sh (An W [] v) n = 0
      · rw [z1] at h
        have : sh (sh (An W [] v)) n ≠ 0 := fun z2 => by rw [z2] at h; omega
        obtain ⟨m, e, hm⟩ := s2 this
        exact ⟨2, m, by decide, e, hm⟩
      · obtain ⟨m, e, hm⟩ := s1 z1
        exact ⟨1, m, by decide, e, hm⟩
    · have em : cv (mS (1, n1 x d)) (An W [] v) n = n1 x d * sh (An W [] v) n := by
        rw [cv_mS]
        cases n with
        | zero => rfl
        | succ n => rw [if_pos (by omega)]; rfl
      rw [ef, em, e0]
      refine ⟨by omega, fun h => ⟨ht, ?_⟩⟩
      have : sh (sh (An W [] v)) n ≠ 0 := fun z2 => by rw [z2] at h; omega
      obtain ⟨m, e, hm⟩ := s2 this
      exact ⟨2, m, by show 1 < 2; decide, e, hm⟩
    · have em : cv (mS (2, n2 x d)) (An W [] v) n = n2 x d * sh (sh (An W [] v)) n := by
        rw [cv_mS]
        cases n with
        | zero => rfl
        | succ n =>
          cases n with
          | zero => rfl
          | succ n => rw [if_pos (by omega)]; rfl
      rw [ef, em, e0, e1]
      exact ⟨by omega, fun h => absurd h (by omega)⟩
  · have z1 : sh (gat W.tn (An W [] v)) n = 0 := by
      cases n with
      | zero => rfl
      | succ n => exact if_neg ht
    have z2 : sh (sh (gat W.tn (An W [] v))) n = 0 := by
      cases n with
      | zero => rfl
      | succ n =>
        cases n with
        | zero => rfl
        | succ n => exact if_neg ht
    rw [z1, z2]
    rcases few_n x hx d hd with ⟨ef, e0⟩ | ⟨ef, e0⟩ | ⟨ef, e0, e1⟩
    · rw [ef, if_pos ⟨hd, .inl rfl⟩, cv_mS, if_pos (Nat.zero_le _), e0, Nat.sub_zero]
      exact ⟨by omega, fun h => absurd h (by omega)⟩
    · rw [ef, if_neg (fun h => h.2.elim (fun q => absurd (show (1 : Nat) = 0 from q) (by decide)) ht)]
      rw [e0]
      exact ⟨Nat.zero_le _, fun h => absurd h (by omega)⟩
    · rw [ef, if_neg (fun h => h.2.elim (fun q => absurd (show (2 : Nat) = 0 from q) (by decide)) ht)]
      rw [e0]
      exact ⟨Nat.zero_le _, fun h => absurd h (by omega)⟩
/-- g1 by its parts -/
theorem g1_parts (x : Nat) (v : List Nat) (n : Nat) : g1 W x v n = g1o W x v n + ((OPN.filter (· ≠ x)).length * sh (gat W.tn (sh (gat W.pt (An W [] v)))) n + ((if x ∈ OPN then clo W (oth x) v n else 0) + sh (gat W.tn (fun n => ((OPN.filter (· ≠ x)).map fun o => clo W (oth o) v n).sum)) n)) := by
  unfold g1 g1o
  have e1 : (if x ∈ OPN then Cl W (oth x) [] v n else 0) = (if x ∈ OPN then sh (gat W.pt (An W [] v)) n else 0) + (if x ∈ OPN then clo W (oth x) v n else 0) := by
    by_cases h : x ∈ OPN
    · rw [if_pos h, if_pos h, if_pos h, Cl_eq]
    · rw [if_neg h, if_neg h, if_neg h]
  have e2 : sh (gat W.tn (bS (OPN.filter (· ≠ x)) fun o => Cl W (oth o) [] v)) n = (OPN.filter (· ≠ x)).length * sh (gat W.tn (sh (gat W.pt (An W [] v)))) n + sh (gat W.tn (fun n => ((OPN.filter (· ≠ x)).map fun o => clo W (oth o) v n).sum)) n := by
    cases n with
    | zero => rfl
    | succ n =>
      rw [sh_succ, sh_succ, sh_succ]
      unfold gat
      by_cases ht : W.tn = true
      · rw [if_pos ht, if_pos ht, if_pos ht]
        exact bS_Cl _ v n
      · rw [if_neg ht, if_neg ht, if_neg ht, Nat.mul_zero]
  rw [e1, e2]
  omega
theorem g1_both {x : Nat} (hx : x ∈ BRK) (v : List Nat) (n : Nat) : g1o W x v n + g1p W x v n ≤ g1 W x v n ∧ (g1o W x v n + g1p W x v n < g1 W x v n → (W.pt = true ∧ ∃ m, n = m + 2 ∧ An W [] v m ≠ 0) ∨ ∃ d w q m, v = d :: w ∧ d ∈ BRK ∧ W.tn = true ∧ (few x d).1 < q ∧ n = m + q ∧ An W [] w m ≠ 0) := by
  rw [g1_parts]
  have key1 : sh (gat W.tn (sh (gat W.pt (An W [] v)))) n ≠ 0 → W.pt = true ∧ ∃ m, n = m + 2 ∧ An W [] v m ≠ 0 := fun h => by
    obtain ⟨m, rfl, hm⟩ := sh_pos h
    obtain ⟨k, rfl, hk⟩ := sh_pos (gat_pos hm).2
    exact ⟨(gat_pos hk).1, k, rfl, (gat_pos hk).2⟩
  have zero : (∀ d w, v = d :: w → d ∉ BRK) → ((if x ∈ OPN then clo W (oth x) v n else 0) + sh (gat W.tn (fun n => ((OPN.filter (· ≠ x)).map fun o => clo W (oth o) v n).sum)) n = 0 ∧ g1p W x v n = 0) := fun h => by
    have a1 : clo W (oth x) v n = 0 := by
      cases v with
      | nil => rfl
      | cons d w => exact if_neg (h d w rfl)
    have a2 : sh (gat W.tn (fun n => ((OPN.filter (· ≠ x)).map fun o => clo W (oth o) v n).sum)) n = 0 := by
      cases n with
      | zero => rfl
      | succ n =>
        rw [sh_succ]
        unfold gat
        dsimp only
        rw [clo_not _ v n h]
        split <;> rfl
    have a3 : g1p W x v n = 0 := by
      cases v with
      | nil => rfl
      | cons d w => exact if_neg fun q => h d w rfl q.1
    rw [a1, a2, a3]
    exact ⟨by split <;> rfl, rfl⟩
  have fin : ∀ {A : Nat}, g1p W x v n ≤ A → (g1p W x v n < A → ∃ d w q m, v = d :: w ∧ d ∈ BRK ∧ W.tn = true ∧ (few x d).1 < q ∧ n = m + q ∧ An W [] w m ≠ 0) → g1o W x v n + g1p W x v n ≤ g1o W x v n + ((OPN.filter (· ≠ x)).length * sh (gat W.tn (sh (gat W.pt (An W [] v)))) n + A) ∧ (g1o W x v n + g1p W x v n < g1o W x v n + ((OPN.filter (· ≠ x)).length * sh (gat W.tn (sh (gat W.pt (An W [] v)))) n + A) → (W.pt = true ∧ ∃ m, n = m + 2 ∧ An W [] v m ≠ 0) ∨ ∃ d w q m, v = d :: w ∧ d ∈ BRK ∧ W.tn = true ∧ (few x d).1 < q ∧ n = m + q ∧ An W [] w m ≠ 0) := fun h1 h2 => by
    refine ⟨by omega, fun h => ?_⟩
    by_cases z : sh (gat W.tn (sh (gat W.pt (An W [] v)))) n = 0
    · rw [z] at h
      exact .inr (h2 (by omega))
    · exact .inl (key1 z)
  by_cases hv : ∃ d w, v = d :: w ∧ d ∈ BRK
  · obtain ⟨d, w, rfl, hd⟩ := hv
    rw [pair_all hd]
    obtain ⟨p1, p2⟩ := pair_both (W := W) hx hd w n
    refine fin p1 fun h => ?_
    obtain ⟨ht, q, m, h1, h2, h3⟩ := p2 h
    exact ⟨d, w, q, m, rfl, hd, ht, h1, h2, h3⟩
  · obtain ⟨z1, z2⟩ := zero fun d w e hd => hv ⟨d, w, e, hd⟩
    rw [z1]
    refine fin (by rw [z2]; exact Nat.le_refl _) fun h => ?_
    rw [z2] at h
    exact absurd h (by omega)
theorem g1_junk {x : Nat} (hx : x ∈ BRK) {v : List Nat} {b : Nat} (h : g1o W x v b + g1p W x v b < g1 W x v b) {u : List Nat} {a : Nat} (hu : An W [] u a ≠ 0) : ∃ m, m < a + b ∧ An W [] (x :: (u ++ v)) m ≠ 0 := by
  rcases (g1_both hx v b).2 h with ⟨hp, m, rfl, hm⟩ | ⟨d, w, q, m, rfl, hd, ht, hq, rfl, hm⟩
  · refine ⟨1 + (a + m), by omega, ?_⟩
    exact An_app (u := [x]) (An_one hp hx) (An_app hu hm)
  · refine ⟨a + (few x d).1 + m, by omega, ?_⟩
    have := An_app (An_pair hx hd (.inr ht) hu) hm
    rw [show x :: (u ++ [d]) ++ w = x :: (u ++ d :: w) by simp] at this
    exact this
end
end Ly

set_option maxHeartbeats 4000000
namespace Ly
/-! ### the table's numbers are the least ones, with how many -/
theorem Ld_SPz : ∀ {r : List Nat} {f g : List Nat → Ser} {Z : Nat → MC}, (∀ t, t ≤ r.length → Ld (cv (f (r.take t)) (g (r.drop t))) (Z t)) → Ld (SP f g r) (sm Z (r.length + 1))
  | [], f, g, Z, h => h 0 (Nat.le_refl _)
  | x :: r, f, g, Z, h => by
    rw [sm_head]
    refine Ld_add (h 0 (Nat.zero_le _)) ?_
    exact Ld_SPz (f := fun u => f (x :: u)) (Z := fun k => Z (k + 1)) (fun t ht => h (t + 1) (by rw [List.length_cons]; omega))
theorem seg_take {l : List Nat} {i j t : Nat} (h : i + t ≤ j) (hj : j ≤ l.length) : (seg l i j).take t = seg l i (i + t) := by
  rw [seg_app (b := i + t) (by omega) h (by omega), List.take_left' (by rw [seg_len (by omega)]; omega)]
theorem seg_dropT {l : List Nat} {i j t : Nat} (h : i + t ≤ j) (hj : j ≤ l.length) : (seg l i j).drop t = seg l (i + t) j := by
  rw [seg_app (b := i + t) (by omega) h (by omega), List.drop_left' (by rw [seg_len (by omega)]; omega)]
theorem Ld_seg {l : List Nat} {i j : Nat} {f g : List Nat → Ser} {Z : Nat → MC} (hij : i ≤ j) (hj : j ≤ l.length) (h : ∀ t, i + t ≤ j → Ld (cv (f (seg l i (i + t))) (g (seg l (i + t) j))) (Z t)) : Ld (SP f g (seg l i j)) (sm Z (j - i + 1)) := by
  have e : (seg l i j).length = j - i := seg_len hj
  rw [← e]
  refine Ld_SPz fun t ht => ?_
  rw [e] at ht
  rw [seg_take (by omega) hj, seg_dropT (by omega) hj]
  exact h t (by omega)
theorem mMul_left (x y z : MC) : mMul x (mMul y z) = m3 y x z := by
  unfold m3
  rw [← mMul_assoc, mMul_comm x y]
theorem few_pos : ∀ x ∈ BRK, ∀ d ∈ BRK, (few x d).2 ≠ 0 := by decide
theorem Ld_mc {l : List Nat} {W : Wd} : ∀ (N i j : Nat), j - i ≤ N → i ≤ j → j ≤ l.length → Ld (An W [] (seg l i j)) (mcN l W i j) := by
  intro N
  induction N with
  | zero =>
    intro i j h1 h2 h3
    have e : i = j := by omega
    subst e
    rw [seg_self, mcN_self]
    have hz : ∀ n, g2m W [] n = 0 := fun n => rfl
    have hn : ∀ n, An W [] [] n = SP (An W []) (g2 W) [] n + (if n = 0 then 1 else 0) := fun n => by
      rw [An_nil, pA_g2]
      congr 1
      simp
    have hm : ∀ n, SP (An W []) (g2m W) [] n = 0 := fun n => cv_noneR hz n
    refine Ld_junk (g := fun n => SP (An W []) (g2m W) [] n + (if n = 0 then 1 else 0)) ?_ (fun n => ?_) (fun n hl => ?_)
    · exact ⟨by show SP (An W []) (g2m W) [] 0 + 1 = 1; rw [hm], by decide, fun a ha => absurd ha (by show ¬ a < 0; omega)⟩
    · rw [hn]
      exact Nat.add_le_add_right (SP_le (fun v b => (g2_both v b).1)) _
    · rw [hn] at hl
      obtain ⟨u, v, a, b, e1, e2, ha, hb⟩ := SP_lt (fun v b => (g2_both (W := W) v b).1) (show SP (An W []) (g2m W) [] n < SP (An W []) (g2 W) [] n by omega)
      obtain ⟨m, hm, hA⟩ := g2_junk hb ha
      rw [e1] at hA
      exact ⟨m, by omega, hA⟩
  | succ N ihN =>
    intro i j h1 h2 h3
    by_cases hij : i = j
    · exact ihN i j (by omega) h2 h3
    have ih : ∀ a b, i ≤ a → a ≤ b → b ≤ j → b - a < j - i → Ld (An W [] (seg l a b)) (mcN l W a b) := fun a b k1 k2 k3 k4 => ihN a b (by omega) k2 (by omega)
    obtain ⟨x, hx⟩ : ∃ x, l[i]? = some x := ⟨_, List.getElem?_eq_getElem (by omega)⟩
    have es : seg l i j = x :: seg l (i + 1) j := seg_cons hx (by omega) h3
    have hat : ∀ t, i + t < j → ∃ d, l[i + t]? = some d ∧ seg l (i + t) j = d :: seg l (i + t + 1) j := fun t ht => by
      have e : l[i + t]? = some l[i + t] := List.getElem?_eq_getElem (by omega)
      exact ⟨_, e, seg_cons e ht h3⟩
    -- put first, closed by the text's own
    have L2 : Ld (SP (An W []) (g2m W) (seg l i j)) (sm (fun t => m3 (clM l W (i + t)) (mcN l W i (i + t)) (mcN l W (i + t + 1) j)) (j - i)) := by
      have := Ld_seg (f := An W []) (g := g2m W) (Z := fun t => if i + t < j then m3 (clM l W (i + t)) (mcN l W i (i + t)) (mcN l W (i + t + 1) j) else none) h2 h3 (fun t ht => by
        by_cases hlt : i + t < j
        · rw [if_pos hlt]
          obtain ⟨d, hd, ed⟩ := hat t hlt
          rw [ed, ← mMul_left]
          refine Ld_cv (ih i (i + t) (Nat.le_refl _) (by omega) ht (by omega)) ?_
          have hL : Ld (g2m W (d :: seg l (i + t + 1) j)) (mMul (clM l W (i + t)) (mcN l W (i + t + 1) j)) := by
            unfold clM
            rw [hd]
            dsimp only
            by_cases hc : d ∈ CLO
            · have e1 : g2m W (d :: seg l (i + t + 1) j) = sh (gat W.pt (An W [] (seg l (i + t + 1) j))) := funext fun n => if_pos hc
              rw [e1]
              have := Ld_sh (Ld_gat (b := W.pt) (ih (i + t + 1) j (by omega) (by omega) (Nat.le_refl _) (by omega)))
              by_cases hp : W.pt = true
              · rw [if_pos hp] at this
                rw [if_pos ⟨hc, hp⟩]
                exact this
              · rw [if_neg hp, mMul_none] at this
                rw [if_neg fun q => hp q.2]
                exact this
            · have e1 : g2m W (d :: seg l (i + t + 1) j) = fun _ => 0 := funext fun n => if_neg hc
              rw [e1, if_neg fun q => hc q.1]
              exact Ld_zero
          exact hL
        · rw [if_neg hlt]
          have e : i + t = j := by omega
          rw [e, seg_self]
          exact fun n => cv_noneR (fun _ => rfl) n)
      rw [sm, if_neg (by omega), mAdd_none] at this
      rw [sm_congr (g := fun t => if i + t < j then m3 (clM l W (i + t)) (mcN l W i (i + t)) (mcN l W (i + t + 1) j) else none) fun t ht => by rw [if_pos (by omega)]]
      exact this
    have junk2 : ∀ n, SP (An W []) (g2m W) (seg l i j) n < SP (An W []) (g2 W) (seg l i j) n → ∃ m, m < n ∧ An W [] (seg l i j) m ≠ 0 := fun n hl => by
      obtain ⟨u, v, a, b, e1, e2, ha, hb⟩ := SP_lt (fun v b => (g2_both (W := W) v b).1) hl
      obtain ⟨m, hm, hA⟩ := g2_junk hb ha
      rw [e1] at hA
      exact ⟨m, by omega, hA⟩
    have le2 : ∀ n, SP (An W []) (g2m W) (seg l i j) n ≤ SP (An W []) (g2 W) (seg l i j) n := fun n => SP_le (fun v b => (g2_both v b).1)
    rw [mcN_step (by omega)]
    unfold stM
    have ihr := ih (i + 1) j (by omega) (by omega) (Nat.le_refl _) (by omega)
    by_cases hb : x ∈ BRK
    · -- a bracket
      have Lsg : Ld (sh (gat W.st (An W [] (seg l (i + 1) j)))) (mMul (sgM l W i) (mcN l W (i + 1) j)) := by
        unfold sgM
        rw [hx]
        dsimp only
        rw [if_pos hb]
        have := Ld_sh (Ld_gat (b := W.st) ihr)
        by_cases hp : W.st = true
        · rw [if_pos hp] at this
          rw [if_pos hp]
          exact this
        · rw [if_neg hp, mMul_none] at this
          rw [if_neg hp]
          exact this
      have Lop : Ld (SP (An W []) (g1o W x) (seg l (i + 1) j)) (sm (fun t => m3 (opM l W i) (mcN l W (i + 1) (i + 1 + t)) (mcN l W (i + 1 + t) j)) (j - i)) := by
        have := Ld_seg (f := An W []) (g := g1o W x) (Z := fun t => m3 (opM l W i) (mcN l W (i + 1) (i + 1 + t)) (mcN l W (i + 1 + t) j)) (show i + 1 ≤ j by omega) h3 (fun t ht => by
          rw [← mMul_left]
          refine Ld_cv (ih (i + 1) (i + 1 + t) (by omega) (by omega) ht (by omega)) ?_
          have hr := ih (i + 1 + t) j (by omega) (by omega) (Nat.le_refl _) (by omega)
          unfold opM
          rw [hx]
          dsimp only
          by_cases ho : x ∈ OPN
          · have e1 : g1o W x (seg l (i + 1 + t) j) = sh (gat W.pt (An W [] (seg l (i + 1 + t) j))) := funext fun n => if_pos ho
            rw [e1]
            have := Ld_sh (Ld_gat (b := W.pt) hr)
            by_cases hp : W.pt = true
            · rw [if_pos hp] at this
              rw [if_pos ⟨ho, hp⟩]
              exact this
            · rw [if_neg hp, mMul_none] at this
              rw [if_neg fun q => hp q.2]
              exact this
          · have e1 : g1o W x (seg l (i + 1 + t) j) = fun _ => 0 := funext fun n => if_neg ho
            rw [e1, if_neg fun q => ho q.1]
            exact Ld_zero)
        rw [show j - (i + 1) + 1 = j - i by omega] at this
        exact this
      have Lpr : Ld (SP (An W []) (g1p W x) (seg l (i + 1) j)) (sm (fun t => m3 (prM l W i (i + 1 + t)) (mcN l W (i + 1) (i + 1 + t)) (mcN l W (i + 1 + t + 1) j)) (j - i - 1)) := by
        have := Ld_seg (f := An W []) (g := g1p W x) (Z := fun t => if i + 1 + t < j then m3 (prM l W i (i + 1 + t)) (mcN l W (i + 1) (i + 1 + t)) (mcN l W (i + 1 + t + 1) j) else none) (show i + 1 ≤ j by omega) h3 (fun t ht => by
          by_cases hlt : i + 1 + t < j
          · rw [if_pos hlt]
            obtain ⟨d, hd, ed⟩ := hat (1 + t) (by omega)
            rw [show i + (1 + t) = i + 1 + t by omega] at hd ed
            rw [ed, ← mMul_left]
            refine Ld_cv (ih (i + 1) (i + 1 + t) (by omega) (by omega) ht (by omega)) ?_
            have hr := ih (i + 1 + t + 1) j (by omega) (by omega) (Nat.le_refl _) (by omega)
            unfold prM
            rw [hx, hd]
            dsimp only
            by_cases hg : d ∈ BRK ∧ ((few x d).1 = 0 ∨ W.tn = true)
            · have e1 : g1p W x (d :: seg l (i + 1 + t + 1) j) = cv (mS (few x d)) (An W [] (seg l (i + 1 + t + 1) j)) := funext fun n => if_pos hg
              rw [e1, if_pos ⟨hb, hg⟩]
              exact Ld_cv (Ld_mS (few_pos x hb d hg.1)) hr
            · have e1 : g1p W x (d :: seg l (i + 1 + t + 1) j) = fun _ => 0 := funext fun n => if_neg hg
              rw [e1, if_neg fun q => hg q.2]
              exact Ld_zero
          · rw [if_neg hlt]
            have e : i + 1 + t = j := by omega
            rw [e, seg_self]
            exact fun n => cv_noneR (fun _ => rfl) n)
        rw [sm, if_neg (by omega), mAdd_none] at this
        rw [show j - i - 1 = j - (i + 1) by omega, sm_congr (g := fun t => if i + 1 + t < j then m3 (prM l W i (i + 1 + t)) (mcN l W (i + 1) (i + 1 + t)) (mcN l W (i + 1 + t + 1) j) else none) fun t ht => by rw [if_pos (by omega)]]
        exact this
      have Lall := Ld_add Lsg (Ld_add Lpr (Ld_add Lop L2))
      refine Ld_junk Lall (fun n => ?_) (fun n hl => ?_)
      · have q1 := le2 n
        have q2 : SP (An W []) (g1o W x) (seg l (i + 1) j) n + SP (An W []) (g1p W x) (seg l (i + 1) j) n ≤ SP (An W []) (g1 W x) (seg l (i + 1) j) n := by
          rw [← SP_addR]
          exact SP_le (fun v b => (g1_both hb v b).1)
        have e : An W [] (seg l i j) n = SP (An W []) (g2 W) (seg l i j) n + (sh (gat W.st (An W [] (seg l (i + 1) j))) n + SP (An W []) (g1 W x) (seg l (i + 1) j) n) := by
          rw [es]; exact An_first hb _ n
        rw [e]
        omega
      · have e : An W [] (seg l i j) n = SP (An W []) (g2 W) (seg l i j) n + (sh (gat W.st (An W [] (seg l (i + 1) j))) n + SP (An W []) (g1 W x) (seg l (i + 1) j) n) := by
          rw [es]; exact An_first hb _ n
        rw [e] at hl
        by_cases hc : SP (An W []) (g2m W) (seg l i j) n < SP (An W []) (g2 W) (seg l i j) n
        · exact junk2 n hc
        · have q1 := le2 n
          have hl2 : SP (An W []) (fun v n => g1o W x v n + g1p W x v n) (seg l (i + 1) j) n < SP (An W []) (g1 W x) (seg l (i + 1) j) n := by
            rw [SP_addR]
            omega
          obtain ⟨u, v, a, b, e1, e2, ha, hbb⟩ := SP_lt (fun v b => (g1_both (W := W) hb v b).1) hl2
          obtain ⟨m, hm, hA⟩ := g1_junk hb hbb ha
          rw [e1, ← es] at hA
          exact ⟨m, by omega, hA⟩
    · -- a letter
      have n1 : ∀ m, prM l W i m = none := fun m => by
        unfold prM
        rw [hx]
        cases l[m]? with
        | none => rfl
        | some d => exact if_neg fun q => hb q.1
      have n2 : opM l W i = none := by
        unfold opM
        rw [hx]
        exact if_neg fun q => hb (brk_or.mpr (.inl q.1))
      have n3 : sgM l W i = mOne := by
        unfold sgM
        rw [hx]
        exact if_neg hb
      have z1 : sm (fun t => m3 (prM l W i (i + 1 + t)) (mcN l W (i + 1) (i + 1 + t)) (mcN l W (i + 1 + t + 1) j)) (j - i - 1) = none := by
        refine (sm_congr (g := fun _ => none) fun t _ => ?_).trans (sm_none _)
        rw [n1]
        rfl
      have z2 : sm (fun t => m3 (opM l W i) (mcN l W (i + 1) (i + 1 + t)) (mcN l W (i + 1 + t) j)) (j - i) = none := by
        refine (sm_congr (g := fun _ => none) fun t _ => ?_).trans (sm_none _)
        rw [n2]
        rfl
      rw [z1, z2, n3, mOne_mul, none_mAdd, none_mAdd]
      have e : ∀ n, An W [] (seg l i j) n = SP (An W []) (g2 W) (seg l i j) n + An W [] (seg l (i + 1) j) n := fun n => by
        rw [es]; exact An_firstL hb _ n
      refine Ld_junk (Ld_add ihr L2) (fun n => ?_) (fun n hl => ?_)
      · rw [e]
        have := le2 n
        omega
      · rw [e] at hl
        exact junk2 n (by omega)
theorem Ld_whole {W : Wd} (l : List Nat) : Ld (An W [] l) (mcN l W 0 l.length) := by
  have := Ld_mc (l := l) (W := W) _ 0 l.length (Nat.le_refl _) (Nat.zero_le _) (Nat.le_refl _)
  rw [seg_all] at this
  exact this
end Ly

set_option maxHeartbeats 4000000
namespace Ly
/-! ### with some brackets open: the least number from each place on -/
def clC (W : Wd) (l : List Nat) (k : Nat) (F : Nat → MC) (m : Nat) : MC := mAdd (if W.pt = true then mMul w1 (F m) else none) (match l[m]? with
  | none => none
  | some x => if x = k then F (m + 1) else if x ∈ BRK ∧ W.tn = true then mMul w1 (F (m + 1)) else none)
def LV (W : Wd) (l : List Nat) : List Nat → Nat → MC
  | [], i => mcN l W i l.length
  | k :: st, i => sm (fun t => mMul (mcN l W i (i + t)) (clC W l k (LV W l st) (i + t))) (l.length - i + 1)
theorem seg_end {l : List Nat} {i : Nat} : seg l i l.length = l.drop i := by unfold seg; rw [List.take_length]
theorem Ld_LV {W : Wd} {l : List Nat} : ∀ (st : List Nat) (i : Nat), (∀ k ∈ st, k ∈ CLO) → i ≤ l.length → Ld (An W st (l.drop i)) (LV W l st i)
  | [], i, _, hi => by
    rw [← seg_end]
    exact Ld_mc _ i l.length (Nat.le_refl _) hi (Nat.le_refl _)
  | k :: st, i, hc, hi => by
    have hk := hc k List.mem_cons_self
    have ih : ∀ m, m ≤ l.length → Ld (An W st (l.drop m)) (LV W l st m) := fun m hm => Ld_LV st m (fun x hx => hc x (List.mem_cons_of_mem _ hx)) hm
    have e : An W (k :: st) (l.drop i) = SP (An W []) (Cl W k st) (seg l i l.length) := by
      rw [seg_end]
      exact funext fun n => first_ret hk st _ n (l.drop i) [] (Nat.le_refl _)
    rw [e]
    refine Ld_seg hi (Nat.le_refl _) fun t ht => ?_
    refine Ld_cv (Ld_mc _ i (i + t) (Nat.le_refl _) (by omega) ht) ?_
    rw [seg_end]
    have p1 : Ld (sh (gat W.pt (An W st (l.drop (i + t))))) (if W.pt = true then mMul w1 (LV W l st (i + t)) else none) := by
      have := Ld_sh (Ld_gat (b := W.pt) (ih (i + t) ht))
      by_cases hp : W.pt = true
      · rw [if_pos hp] at this ⊢; exact this
      · rw [if_neg hp, mMul_none] at this
        rw [if_neg hp]; exact this
    unfold clC
    by_cases hlt : i + t < l.length
    · have ex : l[i + t]? = some l[i + t] := List.getElem?_eq_getElem hlt
      have ed : l.drop (i + t) = l[i + t] :: l.drop (i + t + 1) := List.drop_eq_getElem_cons hlt
      rw [ex]
      generalize l[i + t] = x at ed
      have p2 := ih (i + t + 1) hlt
      refine Ld.congr (Ld_add (g := fun n => if x ∈ BRK then (if x = k then An W st (l.drop (i + t + 1)) n else sh (gat W.tn (An W st (l.drop (i + t + 1)))) n) else 0) p1 ?_) fun n => by unfold Cl; rw [ed]
      dsimp only
      by_cases hb : x ∈ BRK
      · by_cases hx : x = k
        · rw [if_pos hx]
          exact p2.congr fun n => by rw [if_pos hb, if_pos hx]
        · rw [if_neg hx]
          have := Ld_sh (Ld_gat (b := W.tn) p2)
          by_cases ht : W.tn = true
          · rw [if_pos ht] at this
            rw [if_pos ⟨hb, ht⟩]
            exact this.congr fun n => by rw [if_pos hb, if_neg hx]
          · rw [if_neg ht, mMul_none] at this
            rw [if_neg fun q => ht q.2]
            exact this.congr fun n => by rw [if_pos hb, if_neg hx]
      · have hx : x ≠ k := fun q => hb (q ▸ brk_or.mpr (.inr hk))
        rw [if_neg hx, if_neg fun q => hb q.1]
        exact Ld_zero.congr fun n => by rw [if_neg hb]
    · have ex : l[i + t]? = none := List.getElem?_eq_none (by omega)
      have ed : l.drop (i + t) = [] := List.drop_eq_nil_of_le (by omega)
      rw [ex]
      dsimp only
      rw [mAdd_none]
      refine p1.congr fun n => by unfold Cl; rw [ed]; rfl
/-! ### what can be done at a place, in order -/
def chS (W : Wd) (l : List Nat) (i : Nat) : List Stp := (if W.pt = true then BRK.map Stp.pt else []) ++ (match l[i]? with
  | none => []
  | some x => (if x ∈ BRK ∧ W.st = true then [Stp.st x] else []) ++ ((if x ∈ BRK ∧ W.tn = true then (BRK.filter (· ≠ x)).map (Stp.tn x) else []) ++ [Stp.kp x]))
def Stp.c : Stp → Nat
  | .kp _ => 0
  | _ => 1
/-- the pile behind a step -/
def nxS (st : List Nat) (s : Stp) : Option (List Nat) := s.o.foldl stp (some st)
def aftS (W : Wd) (st l : List Nat) (i n : Nat) (s : Stp) : List (List Stp) := if s.c ≤ n then (match nxS st s with | none => [] | some st' => rowsL W st' (l.drop (i + s.i.length)) (n - s.c)) else []
theorem flatMap_map' {α β γ : Type} (xs : List α) (f : α → β) (g : β → List γ) : (xs.map f).flatMap g = xs.flatMap fun x => g (f x) := by
  induction xs with
  | nil => rfl
  | cons x xs ih => rw [List.map_cons, List.flatMap_cons, List.flatMap_cons, ih]
theorem flatMap_nil' {α β : Type} (xs : List α) : xs.flatMap (fun _ => ([] : List β)) = [] := by
  induction xs with
  | nil => rfl
  | cons x xs ih => rw [List.flatMap_cons, ih]; rfl
theorem flatMap_congr' {α β : Type} {f g : α → List β} : ∀ {xs : List α}, (∀ x ∈ xs, f x = g x) → xs.flatMap f = xs.flatMap g
  | [], _ => rfl
  | x :: xs, h => by rw [List.flatMap_cons, List.flatMap_cons, h x List.mem_cons_self, flatMap_congr' (xs := xs) fun y hy => h y (List.mem_cons_of_mem _ hy)]
theorem rows_ch {W : Wd} {l : List Nat} {st : List Nat} {i n : Nat} (hi : i ≤ l.length) (h : ¬ (i = l.length ∧ st = [] ∧ n = 0)) : rowsL W st (l.drop i) n = (chS W l i).flatMap fun s => (aftS W st l i n s).map (s :: ·) := by
  rw [rowsL.eq_def]
  unfold chS
  rw [List.flatMap_append]
  congr 1
  · cases n with
    | zero =>
      by_cases hp : W.pt = true
      · rw [if_pos hp, flatMap_map']
        exact (flatMap_nil' BRK).symm
      · rw [if_neg hp]; rfl
    | succ n =>
      dsimp only
      by_cases hp : W.pt = true
      · rw [if_pos hp, if_pos hp, flatMap_map']
        refine flatMap_congr' fun c _ => ?_
        show _ = ((if 1 ≤ n + 1 then _ else []) : List (List Stp)).map _
        rw [if_pos (by omega)]
        rfl
      · rw [if_neg hp, if_neg hp]; rfl
  · by_cases hlt : i < l.length
    · have ex : l[i]? = some l[i] := List.getElem?_eq_getElem hlt
      have ed : l.drop i = l[i] :: l.drop (i + 1) := List.drop_eq_getElem_cons hlt
      rw [ex, ed]
      generalize l[i] = x
      dsimp only
      by_cases hb : x ∈ BRK
      · rw [if_pos hb, List.flatMap_append, List.flatMap_append]
        have ek : [Stp.kp x].flatMap (fun s => (aftS W st l i n s).map (s :: ·)) = (match stp (some st) x with | none => [] | some s => rowsL W s (l.drop (i + 1)) n).map (Stp.kp x :: ·) := by
          rw [List.flatMap_cons, List.flatMap_nil, List.append_nil]
          show ((if 0 ≤ n then _ else []) : List (List Stp)).map _ = _
          rw [if_pos (Nat.zero_le _)]
          rfl
        rw [ek, ← List.append_assoc]
        congr 1
        cases n with
        | zero =>
          have z1 : (if x ∈ BRK ∧ W.st = true then [Stp.st x] else []).flatMap (fun s => (aftS W st l i 0 s).map (s :: ·)) = [] := by split <;> rfl
          have z2 : (if x ∈ BRK ∧ W.tn = true then (BRK.filter (· ≠ x)).map (Stp.tn x) else []).flatMap (fun s => (aftS W st l i 0 s).map (s :: ·)) = [] := by
            split
            · rw [flatMap_map']; exact flatMap_nil' _
            · rfl
          rw [z1, z2]
          rfl
        | succ n =>
          dsimp only
          congr 1
          · by_cases hs : W.st = true
            · rw [if_pos hs, if_pos ⟨hb, hs⟩, List.flatMap_cons, List.flatMap_nil, List.append_nil]
              show _ = ((if 1 ≤ n + 1 then _ else []) : List (List Stp)).map _
              rw [if_pos (by omega)]
              rfl
            · rw [if_neg hs, if_neg fun q => hs q.2]; rfl
          · by_cases ht : W.tn = true
            · rw [if_pos ht, if_pos ⟨hb, ht⟩, flatMap_map']
              refine flatMap_congr' fun c _ => ?_
              show _ = ((if 1 ≤ n + 1 then _ else []) : List (List Stp)).map _
              rw [if_pos (by omega)]
              rfl
            · rw [if_neg ht, if_neg fun q => ht q.2]; rfl
      · rw [if_neg hb, if_neg fun q => hb q.1, if_neg fun q => hb q.1]
        show _ = [Stp.kp x].flatMap (fun s => (aftS W st l i n s).map (s :: ·))
        rw [List.flatMap_cons, List.flatMap_nil, List.append_nil]
        have : aftS W st l i n (Stp.kp x) = rowsL W st (l.drop (i + 1)) n := by
          show ((if 0 ≤ n then (match stp (some st) x with | none => [] | some st' => rowsL W st' (l.drop (i + 1)) (n - 0)) else []) : List (List Stp)) = _
          rw [if_pos (Nat.zero_le _), not_brk hb]
          rfl
        rw [this]
    · have ei : i = l.length := by omega
      have ex : l[i]? = none := List.getElem?_eq_none (by omega)
      have ed : l.drop i = [] := List.drop_eq_nil_of_le (by omega)
      rw [ex, ed]
      dsimp only
      rw [if_neg fun q => h ⟨ei, q⟩]
      rfl
/-- how many go on by a step, with just so many deeds -/
def mb (W : Wd) (l : List Nat) (st : List Nat) (i n : Nat) (s : Stp) : Nat := match nxS st s with
  | none => 0
  | some st' => match LV W l st' (i + s.i.length) with
    | none => 0
    | some p => if p.1 + s.c = n then p.2 else 0
theorem nxS_clo {st st' : List Nat} {s : Stp} (h : nxS st s = some st') (hc : ∀ k ∈ st, k ∈ CLO) : ∀ k ∈ st', k ∈ CLO := by
  unfold nxS at h
  have key : ∀ c, stp (some st) c = some st' → ∀ k ∈ st', k ∈ CLO := fun c h => by
    unfold stp at h
    dsimp only at h
    by_cases h1 : c ∈ OPN
    · rw [if_pos h1] at h
      rw [← Option.some.inj h]
      intro k hk
      rcases List.mem_cons.mp hk with rfl | hk
      · exact oth_clo c h1
      · exact hc k hk
    · rw [if_neg h1] at h
      by_cases h2 : c ∈ CLO
      · rw [if_pos h2] at h
        cases st with
        | nil => cases h
        | cons d r =>
          dsimp only at h
          by_cases e : d = c
          · rw [if_pos e] at h
            rw [← Option.some.inj h]
            exact fun k hk => hc k (List.mem_cons_of_mem _ hk)
          · rw [if_neg e] at h; cases h
      · rw [if_neg h2] at h
        rw [← Option.some.inj h]
        exact hc
  cases s with
  | kp c => exact key c h
  | st c => rw [← Option.some.inj (show some st = some st' from h)]; exact hc
  | tn c d => exact key d h
  | pt d => exact key d h
theorem ch_in {W : Wd} {l : List Nat} {i : Nat} {s : Stp} (h : s ∈ chS W l i) : i + s.i.length ≤ max i l.length := by
  unfold chS at h
  rcases List.mem_append.mp h with h | h
  · by_cases hp : W.pt = true
    · rw [if_pos hp] at h
      obtain ⟨c, _, rfl⟩ := List.mem_map.mp h
      show i + 0 ≤ _
      omega
    · rw [if_neg hp] at h; cases h
  · by_cases hlt : i < l.length
    · have : s.i.length ≤ 1 := by cases s <;> simp [Stp.i]
      omega
    · rw [List.getElem?_eq_none (by omega)] at h; cases h
theorem mb_len {W : Wd} {l st : List Nat} {i n N : Nat} {s : Stp} (hi : i ≤ l.length) (hc : ∀ k ∈ st, k ∈ CLO) (h : ¬ (i = l.length ∧ st = [] ∧ n = 0)) (hL : LV W l st i = some (n, N)) (hs : s ∈ chS W l i) : mb W l st i n s = (aftS W st l i n s).length := by
  have hLd := Ld_LV (W := W) st i hc hi
  rw [hL] at hLd
  have hlow : ∀ a, a < n → An W st (l.drop i) a = 0 := hLd.2.2
  have hin := ch_in hs
  rw [Nat.max_eq_right hi] at hin
  unfold mb aftS
  cases hn : nxS st s with
  | none => dsimp only; split <;> rfl
  | some st' =>
    dsimp only
    have hLd' := Ld_LV (W := W) st' (i + s.i.length) (nxS_clo hn hc) hin
    cases hx : LV W l st' (i + s.i.length) with
    | none =>
      rw [hx] at hLd'
      dsimp only
      split
      · exact (hLd' (n - s.c)).symm
      · rfl
    | some p =>
      rw [hx] at hLd'
      dsimp only
      obtain ⟨q1, q2, q3⟩ := hLd'
      by_cases e : p.1 + s.c = n
      · rw [if_pos e, if_pos (by omega), show n - s.c = p.1 by omega]
        exact q1.symm
      · rw [if_neg e]
        by_cases hle : s.c ≤ n
        · rw [if_pos hle]
          by_cases hlt : n < p.1 + s.c
          · exact (q3 (n - s.c) (by omega)).symm
          · -- less than the least
            exfalso
            have hA : An W st (l.drop i) (p.1 + s.c) ≠ 0 := by
              have hne : ¬ (i = l.length ∧ st = [] ∧ p.1 + s.c = 0) := fun q => by
                obtain ⟨e1, e2, e3⟩ := q
                subst e2
                rw [e1] at hL
                have hm : LV W l [] l.length = mOne := mcN_self l W l.length
                rw [hm] at hL
                have : n = 0 := (Prod.mk.inj (Option.some.inj hL)).1.symm
                exact h ⟨e1, rfl, this⟩
              have hpos : rowsL W st' (l.drop (i + s.i.length)) p.1 ≠ [] := fun q => q2 (by
                rw [← q1]
                show (rowsL W st' (l.drop (i + s.i.length)) p.1).length = 0
                rw [q]; rfl)
              obtain ⟨β, hβ⟩ := List.exists_mem_of_ne_nil _ hpos
              have hmem : s :: β ∈ rowsL W st (l.drop i) (p.1 + s.c) := by
                rw [rows_ch hi hne]
                refine List.mem_flatMap.mpr ⟨s, hs, List.mem_map.mpr ⟨β, ?_, rfl⟩⟩
                unfold aftS
                rw [if_pos (by omega), hn, show p.1 + s.c - s.c = p.1 by omega]
                exact hβ
              exact fun q => by
                have := List.length_pos_of_mem hmem
                have q' : (rowsL W st (l.drop i) (p.1 + s.c)).length = 0 := q
                omega
            exact hA (hlow _ (by omega))
        · rw [if_neg hle]; rfl
end Ly

set_option maxHeartbeats 4000000
namespace Ly
/-! ### how many at most, how great the least number at most -/
theorem bS_le {f : Nat → Ser} {n b : Nat} : ∀ {cs : List Nat}, (∀ c ∈ cs, f c n ≤ b) → bS cs f n ≤ cs.length * b
  | [], _ => Nat.zero_le _
  | c :: cs, h => by
    have i := bS_le (cs := cs) fun d hd => h d (List.mem_cons_of_mem _ hd)
    have e : bS (c :: cs) f n = f c n + bS cs f n := rfl
    have := h c List.mem_cons_self
    rw [e, List.length_cons, Nat.add_mul]
    omega
theorem oA_le {f : List Nat → Ser} {o : Option (List Nat)} {n b : Nat} (h : ∀ s, f s n ≤ b) : oA f o n ≤ b := by
  cases o with
  | none => exact Nat.zero_le _
  | some s => exact h s
theorem brk_flen (x : Nat) : (BRK.filter (· ≠ x)).length ≤ 8 := List.length_filter_le _ _
theorem An_upper {W : Wd} : ∀ (N n : Nat) (r st : List Nat), n + r.length ≤ N → An W st r n ≤ 17 ^ (n + r.length) := by
  intro N
  induction N with
  | zero =>
    intro n r st h
    have h1 : n = 0 := by omega
    have h2 : r = [] := List.length_eq_zero_iff.mp (by omega)
    subst h1 h2
    rw [An_nil]
    show 0 + _ ≤ 1
    split <;> omega
  | succ N ih =>
    intro n r st h
    have hp : ∀ m, n = m + 1 → pA W st r n ≤ 8 * 17 ^ (m + r.length) := fun m e => by
      subst e
      show gat W.pt _ m ≤ _
      unfold gat
      split
      · exact bS_le fun c _ => oA_le fun s => ih m r s (by omega)
      · exact Nat.zero_le _
    rw [An_eq]
    cases r with
    | nil =>
      have hr : rA W st [] n ≤ 1 := by show (if _ then 1 else 0) ≤ 1; split <;> omega
      cases n with
      | zero => show 0 + rA W st [] 0 ≤ 1; omega
      | succ n =>
        have h1 := hp n rfl
        have h2 : 17 ^ (n + 1 + ([] : List Nat).length) = 17 * 17 ^ (n + ([] : List Nat).length) := by rw [show n + 1 + ([] : List Nat).length = (n + ([] : List Nat).length) + 1 by omega, Nat.pow_succ, Nat.mul_comm]
        have h3 : 0 < 17 ^ (n + ([] : List Nat).length) := Nat.pow_pos (by decide)
        rw [h2]
        omega
    | cons x r =>
      rw [List.length_cons] at h
      have e1 : 17 ^ (n + (x :: r).length) = 17 * 17 ^ (n + r.length) := by rw [List.length_cons, show n + (r.length + 1) = (n + r.length) + 1 by omega, Nat.pow_succ, Nat.mul_comm]
      have hp' : pA W st (x :: r) n ≤ 8 * 17 ^ (n + r.length) := by
        cases n with
        | zero => exact Nat.zero_le _
        | succ m =>
          have := hp m rfl
          rw [List.length_cons, show m + (r.length + 1) = m + 1 + r.length by omega] at this
          exact this
      have hr : rA W st (x :: r) n ≤ 9 * 17 ^ (n + r.length) := by
        show (if x ∈ BRK then _ else _) ≤ _
        split
        · have h1 : oA (fun s => An W s r) (stp (some st) x) n ≤ 17 ^ (n + r.length) := oA_le fun s => ih n r s (by omega)
          cases n with
          | zero =>
            show 0 + _ ≤ _
            omega
          | succ m =>
            have h2 : tA W st x r (m + 1) ≤ 9 * 17 ^ (m + r.length) := by
              show gat W.st _ m + gat W.tn _ m ≤ _
              have g1 : gat W.st (An W st r) m ≤ 17 ^ (m + r.length) := by
                unfold gat
                split
                · exact ih m r st (by omega)
                · exact Nat.zero_le _
              have g2 : gat W.tn (bS (BRK.filter (· ≠ x)) fun c => oA (fun s => An W s r) (stp (some st) c)) m ≤ 8 * 17 ^ (m + r.length) := by
                unfold gat
                split
                · refine Nat.le_trans (bS_le (b := 17 ^ (m + r.length)) fun c _ => oA_le fun s => ih m r s (by omega)) ?_
                  exact Nat.mul_le_mul_right _ (brk_flen x)
                · exact Nat.zero_le _
              omega
            have h3 : 17 ^ (m + 1 + r.length) = 17 * 17 ^ (m + r.length) := by rw [show m + 1 + r.length = (m + r.length) + 1 by omega, Nat.pow_succ, Nat.mul_comm]
            rw [h3] at h1 ⊢
            omega
        · have := ih n r st (by omega)
          omega
      rw [e1]
      omega
theorem An_low {W : Wd} (hp : W.pt = true) : ∀ (st r : List Nat), (∀ k ∈ st, k ∈ CLO) → ∃ n, n ≤ st.length + r.length ∧ An W st r n ≠ 0
  | [], [], _ => ⟨0, Nat.le_refl _, An_pos.mpr ⟨_, Row.nil⟩⟩
  | [], x :: r, h => by
    obtain ⟨n, hn, ha⟩ := An_low hp [] r h
    by_cases hx : x ∈ BRK
    · exact ⟨1 + n, by rw [List.length_cons]; simp only [List.length_nil] at *; omega, An_app (u := [x]) (An_one hp hx) ha⟩
    · obtain ⟨α, hα⟩ := An_pos.mp ha
      exact ⟨n, by rw [List.length_cons]; omega, An_pos.mpr ⟨_, Row.kp (not_brk hx _) hα⟩⟩
  | k :: st, r, h => by
    have hk := h k List.mem_cons_self
    obtain ⟨n, hn, ha⟩ := An_low hp st r fun x hx => h x (List.mem_cons_of_mem _ hx)
    obtain ⟨α, hα⟩ := An_pos.mp ha
    exact ⟨n + 1, by rw [List.length_cons]; omega, An_pos.mpr ⟨_, Row.pt hp (brk_or.mpr (.inr hk)) (stp_clo hk) hα⟩⟩
theorem cst_in {W : Wd} (hp : W.pt = false) : ∀ α : List Stp, (∀ s ∈ α, s.wd W) → cstS α ≤ (inS α).length
  | [], _ => Nat.le_refl _
  | .kp c :: α, h => by
    have := cst_in hp α (wd_cons.mp h).2
    show cstS α ≤ (inS α).length + 1
    omega
  | .st c :: α, h => by
    have := cst_in hp α (wd_cons.mp h).2
    show cstS α + 1 ≤ (inS α).length + 1
    omega
  | .tn c d :: α, h => by
    have := cst_in hp α (wd_cons.mp h).2
    show cstS α + 1 ≤ (inS α).length + 1
    omega
  | .pt c :: α, h => by
    have : W.pt = true := (wd_cons.mp h).1
    rw [hp] at this
    cases this
theorem LV_low {W : Wd} {l st : List Nat} {i c k : Nat} (hi : i ≤ l.length) (hc : ∀ k ∈ st, k ∈ CLO) (h : LV W l st i = some (c, k)) : c ≤ st.length + (l.length - i) := by
  have hL := Ld_LV (W := W) st i hc hi
  rw [h] at hL
  obtain ⟨h1, h2, h3⟩ := hL
  cases hp : W.pt with
  | true =>
    obtain ⟨n, hn, ha⟩ := An_low hp st (l.drop i) hc
    rw [List.length_drop] at hn
    have : ¬ n < c := fun q => ha (h3 n q)
    omega
  | false =>
    obtain ⟨α, hα⟩ := An_pos.mp (show An W st (l.drop i) c ≠ 0 from fun e => h2 (h1.symm.trans e))
    have := cst_in hp α hα.wd
    rw [hα.ct, hα.tx, List.length_drop] at this
    omega
theorem LV_cnt {W : Wd} {l st : List Nat} {i : Nat} (hi : i ≤ l.length) (hc : ∀ k ∈ st, k ∈ CLO) : cnt (LV W l st i) ≤ 17 ^ (st.length + 2 * l.length) := by
  cases h : LV W l st i with
  | none => exact Nat.zero_le _
  | some p =>
    obtain ⟨c, k⟩ := p
    have h1 := LV_low hi hc h
    have hL := Ld_LV (W := W) st i hc hi
    rw [h] at hL
    have h2 : An W st (l.drop i) c = k := hL.1
    have h3 := An_upper (W := W) _ c (l.drop i) st (Nat.le_refl _)
    rw [h2, List.length_drop] at h3
    exact Nat.le_trans h3 (Nat.pow_le_pow_right (by decide) (by omega))
theorem LV_big {W : Wd} {l st : List Nat} {i : Nat} (hi : i ≤ l.length) (hc : ∀ k ∈ st, k ∈ CLO) (h1 : l.length ≤ 1000) (h2 : st.length ≤ 1000) : cnt (LV W l st i) < 2 ^ 16001 := by
  refine Nat.lt_of_le_of_lt (LV_cnt hi hc) ?_
  refine Nat.lt_of_le_of_lt (Nat.pow_le_pow_right (by decide) (show st.length + 2 * l.length ≤ 3000 by omega)) ?_
  refine Nat.lt_of_le_of_lt (Nat.pow_le_pow_left (show 17 ≤ 2 ^ 5 by decide) 3000) ?_
  rw [← Nat.pow_mul]
  exact Nat.pow_lt_pow_right (by decide) (by decide)
/-! ### the row with a number -/
theorem flat_at {α β : Type} {f : α → List β} : ∀ {pre : List α} {s : α} {post : List α} {k : Nat}, k < (f s).length → ((pre ++ s :: post).flatMap f)[(pre.map fun x => (f x).length).sum + k]? = (f s)[k]?
  | [], s, post, k, h => by
    rw [List.nil_append, List.flatMap_cons, List.map_nil, List.sum_nil, Nat.zero_add, List.getElem?_append_left h]
  | p :: pre, s, post, k, h => by
    rw [List.cons_append, List.flatMap_cons, List.map_cons, List.sum_cons, List.getElem?_append_right (by omega), show (f p).length + (pre.map fun x => (f x).length).sum + k - (f p).length = (pre.map fun x => (f x).length).sum + k by omega]
    exact flat_at h
theorem rows_at {W : Wd} {l st pre post : List Nat} {i n N k : Nat} {p q : List Stp} {s : Stp} (hi : i ≤ l.length) (hc : ∀ k ∈ st, k ∈ CLO) (h : ¬ (i = l.length ∧ st = [] ∧ n = 0)) (hL : LV W l st i = some (n, N)) (e : chS W l i = p ++ s :: q) (hk : k < mb W l st i n s) :
    (rowsL W st (l.drop i) n)[(p.map (mb W l st i n)).sum + k]? = ((aftS W st l i n s)[k]?).map (s :: ·) := by
  have hm : ∀ x ∈ chS W l i, mb W l st i n x = (aftS W st l i n x).length := fun x hx => mb_len hi hc h hL hx
  have e1 : p.map (mb W l st i n) = p.map fun x => ((aftS W st l i n x).map (x :: ·)).length := List.map_congr_left fun x hx => by rw [List.length_map, hm x (by rw [e]; exact List.mem_append_left _ hx)]
  rw [rows_ch hi h, e, e1, flat_at (by rw [List.length_map, ← hm s (by rw [e]; simp)]; exact hk), List.getElem?_map]
theorem rows_sum {W : Wd} {l st : List Nat} {i n N : Nat} (hi : i ≤ l.length) (hc : ∀ k ∈ st, k ∈ CLO) (h : ¬ (i = l.length ∧ st = [] ∧ n = 0)) (hL : LV W l st i = some (n, N)) : ((chS W l i).map (mb W l st i n)).sum = N := by
  have hm : ∀ x ∈ chS W l i, mb W l st i n x = (aftS W st l i n x).length := fun x hx => mb_len hi hc h hL hx
  have hLd := Ld_LV (W := W) st i hc hi
  rw [hL] at hLd
  have h1 : (rowsL W st (l.drop i) n).length = N := hLd.1
  rw [← h1, rows_ch hi h, List.length_flatMap]
  congr 1
  exact List.map_congr_left fun x hx => by rw [List.length_map, hm x hx]
/-- what is left behind a step that is taken -/
theorem aft_go {W : Wd} {l st : List Nat} {i n N k : Nat} {s : Stp} (hi : i ≤ l.length) (hc : ∀ k ∈ st, k ∈ CLO) (h : ¬ (i = l.length ∧ st = [] ∧ n = 0)) (hL : LV W l st i = some (n, N)) (hs : s ∈ chS W l i) (hk : k < mb W l st i n s) :
    ∃ st' n' N', nxS st s = some st' ∧ n = n' + s.c ∧ LV W l st' (i + s.i.length) = some (n', N') ∧ k < N' ∧ aftS W st l i n s = rowsL W st' (l.drop (i + s.i.length)) n' := by
  have hm := mb_len hi hc h hL hs
  unfold mb at hk
  cases hn : nxS st s with
  | none => rw [hn] at hk; exact absurd hk (Nat.not_lt_zero _)
  | some st' =>
    rw [hn] at hk
    dsimp only at hk
    cases hx : LV W l st' (i + s.i.length) with
    | none => rw [hx] at hk; exact absurd hk (Nat.not_lt_zero _)
    | some p =>
      rw [hx] at hk
      dsimp only at hk
      obtain ⟨c, m⟩ := p
      by_cases e : c + s.c = n
      · rw [if_pos e] at hk
        refine ⟨st', c, m, rfl, e.symm, hx, hk, ?_⟩
        unfold aftS
        rw [if_pos (by omega), hn, show n - s.c = c by omega]
      · rw [if_neg e] at hk; exact absurd hk (Nat.not_lt_zero _)
end Ly

set_option maxHeartbeats 4000000
namespace Ly
open PySem PySem.Spec PyProof.Rows L2 SX
/-! ### things side by side -/
theorem pd_imp {α β : Type} {R S : α → β → Prop} (h : ∀ a b, R a b → S a b) : ∀ {xs : List α} {ys : List β}, Paired R xs ys → Paired S xs ys
  | _, _, .nil => .nil
  | _, _, .cons x r => .cons (h _ _ x) (pd_imp h r)
theorem pd_app {α β : Type} {R : α → β → Prop} : ∀ {xs xs' : List α} {ys ys' : List β}, Paired R xs ys → Paired R xs' ys' → Paired R (xs ++ xs') (ys ++ ys')
  | _, _, _, _, .nil, h => h
  | _, _, _, _, .cons x r, h => .cons x (pd_app r h)
theorem pd_len {α β : Type} {R : α → β → Prop} : ∀ {xs : List α} {ys : List β}, Paired R xs ys → xs.length = ys.length
  | _, _, .nil => rfl
  | _, _, .cons x r => by rw [List.length_cons, List.length_cons, pd_len r]
theorem pd_at {α β : Type} {R : α → β → Prop} : ∀ {xs : List α} {ys : List β} {i : Nat} {x : α}, Paired R xs ys → xs[i]? = some x → ∃ y, ys[i]? = some y ∧ R x y
  | _, _, 0, x, .cons h r, e => by cases e; exact ⟨_, rfl, h⟩
  | _, _, i + 1, x, @Paired.cons _ _ _ _ _ l1 l2 h r, e => pd_at (xs := l1) (ys := l2) (i := i) r e
theorem pd_one {α β : Type} {R : α → β → Prop} {x : α} {y : β} (h : R x y) : Paired R [x] [y] := .cons h .nil
/-- a turn through a list and what stands beside it -/
theorem pd_mid {α β : Type} {R : α → β → Prop} : ∀ {pre : List α} {x : α} {post : List α} {ys : List β}, Paired R (pre ++ x :: post) ys → ∃ p y q, ys = p ++ y :: q ∧ p.length = pre.length ∧ R x y ∧ Paired R pre p ∧ Paired R post q
  | [], x, post, _, .cons h r => ⟨[], _, _, rfl, rfl, h, .nil, r⟩
  | a :: pre, x, post, _, .cons h r => by
    obtain ⟨p, y, q, e1, e2, h1, h2, h3⟩ := pd_mid r
    exact ⟨_ :: p, y, q, by rw [e1]; rfl, by rw [List.length_cons, List.length_cons, e2], h1, .cons h h2, h3⟩
theorem g_ext {H : Hp} {Q : VK} {p a : Addr} {xs ys : List V} (h : H p = some (.lst xs)) (h2 : H a = some (.lst ys)) (hl : xs.length + ys.length ≤ 100000) (q : ∀ H1, But p H H1 → H1 p = some (.lst (xs ++ ys)) → Q .non H1) : rExtend (.ref p) [.ref a] H Q := ⟨p, a, xs, ys, rfl, rfl, h, h2, Nat.le_trans hl (by decide), q _ But.set upd_same⟩
theorem atI_last2 {α : Type} (xs : List α) (x y : α) : atI (xs ++ [x, y]) (-2) = some x := by
  unfold atI ixN
  rw [if_neg (by omega), if_pos (by rw [List.length_append]; simp; omega)]
  show (xs ++ [x, y])[_]? = some x
  rw [show (-2 + (((xs ++ [x, y]).length : Nat) : Int)).toNat = xs.length by rw [List.length_append]; simp; omega, List.getElem?_append_right (Nat.le_refl _), Nat.sub_self]
  rfl
/-- the deed of a step -/
def dwS : Stp → Dw
  | .kp c => .trn c
  | .st _ => .str
  | .tn _ d => .trn d
  | .pt d => .put d
end Ly

set_option maxHeartbeats 4000000
namespace Ly
/-! ### so many deeds are enough: strikes and turned pairs, by lists -/
inductive Mx : List Nat → Nat → Prop
  | nil : Mx [] 0
  | let_ {x n : Nat} {r : List Nat} : x ∉ BRK → Mx r n → Mx (x :: r) n
  | str {x n : Nat} {r : List Nat} : x ∈ BRK → Mx r n → Mx (x :: r) (n + 1)
  | pair {x d a b : Nat} {u v : List Nat} : x ∈ BRK → d ∈ BRK → Mx u a → Mx v b → Mx (x :: (u ++ d :: v)) (tns x d + a + b)
theorem Mx.app {u v : List Nat} {a b : Nat} (h : Mx u a) (h2 : Mx v b) : Mx (u ++ v) (a + b) := by
  induction h with
  | nil => rw [Nat.zero_add]; exact h2
  | let_ e _ ih => exact .let_ e ih
  | @str x n r e _ ih =>
    rw [show n + 1 + b = n + b + 1 by omega]
    exact .str e ih
  | @pair x d a b' u v e1 e2 h3 _ _ ih =>
    rw [List.cons_append, List.append_assoc, List.cons_append, Nat.add_assoc]
    exact .pair e1 e2 h3 ih
theorem Mx.one {x : Nat} (h : x ∈ BRK) : Mx [x] 1 := .str h .nil
theorem app_split {α : Type} {u v a z : List α} {d o : α} (h : u ++ d :: v = a ++ o :: z) : (∃ c, u = a ++ o :: c ∧ z = c ++ d :: v) ∨ (u = a ∧ d = o ∧ v = z) ∨ (∃ c, a = u ++ d :: c ∧ v = c ++ o :: z) := by
  rcases List.append_eq_append_iff.mp h with ⟨as, h1, h2⟩ | ⟨bs, h1, h2⟩
  · cases as with
    | nil =>
      rw [List.append_nil] at h1
      cases h2
      exact .inr (.inl ⟨h1.symm, rfl, rfl⟩)
    | cons x as =>
      cases h2
      exact .inr (.inr ⟨as, h1, rfl⟩)
  · cases bs with
    | nil =>
      rw [List.append_nil] at h1
      cases h2
      exact .inr (.inl ⟨h1, rfl, rfl⟩)
    | cons x bs =>
      cases h2
      exact .inl ⟨bs, h1, rfl⟩
theorem Mx.last {w : List Nat} {n : Nat} (h : Mx w n) : ∀ {u : List Nat} {y : Nat}, w = u ++ [y] → y ∈ BRK → (∃ m, Mx u m ∧ m + 1 ≤ n) ∨ (∃ a1 Y a2 p q, u = a1 ++ Y :: a2 ∧ Y ∈ BRK ∧ Mx a1 p ∧ Mx a2 q ∧ tns Y y + p + q ≤ n) := by
  induction h with
  | nil => intro u y e; cases u <;> cases e
  | @let_ x n r hx hr ih =>
    intro u y e hy
    cases u with
    | nil => cases e; exact absurd hy hx
    | cons z u =>
      cases e
      rcases ih rfl hy with ⟨m, h1, h2⟩ | ⟨a1, Y, a2, p, q, rfl, h2, h3, h4, h5⟩
      · exact .inl ⟨m, .let_ hx h1, h2⟩
      · exact .inr ⟨x :: a1, Y, a2, p, q, rfl, h2, .let_ hx h3, h4, h5⟩
  | @str x n r hx hr ih =>
    intro u y e hy
    cases u with
    | nil => cases e; exact .inl ⟨0, .nil, by omega⟩
    | cons z u =>
      cases e
      rcases ih rfl hy with ⟨m, h1, h2⟩ | ⟨a1, Y, a2, p, q, rfl, h2, h3, h4, h5⟩
      · exact .inl ⟨m + 1, .str hx h1, by omega⟩
      · exact .inr ⟨x :: a1, Y, a2, p + 1, q, rfl, h2, .str hx h3, h4, by omega⟩
  | @pair x d a b s v hx hd hs hv ih1 ih2 =>
    intro u y e hy
    cases u with
    | nil =>
      exfalso
      have := congrArg List.length e
      simp at this
    | cons z u =>
      rw [List.cons_append] at e
      have ex : x = z := (List.cons.inj e).1
      subst ex
      rcases app_split (List.cons.inj e).2 with ⟨c, h1, h2⟩ | ⟨h1, h2, h3⟩ | ⟨c, h1, h2⟩
      · exfalso
        cases c <;> cases h2
      · subst h1 h2 h3
        have : b = 0 := by cases hv; rfl
        subst this
        exact .inr ⟨[], x, s, 0, a, rfl, hx, .nil, hs, by omega⟩
      · subst h1
        rcases ih2 h2 hy with ⟨m, g1, g2⟩ | ⟨a1, Y, a2, p, q, rfl, g2, g3, g4, g5⟩
        · exact .inl ⟨tns x d + a + m, .pair hx hd hs g1, by omega⟩
        · exact .inr ⟨x :: (s ++ d :: a1), Y, a2, tns x d + a + p, q, by simp, g2, .pair hx hd hs g3, g4, by omega⟩
/-- the first bracket struck or made a pair -/
theorem Mx.first {x n : Nat} {r : List Nat} (h : Mx (x :: r) n) (hx : x ∈ BRK) : (∃ m, Mx r m ∧ n = m + 1) ∨ (∃ u d v p q, r = u ++ d :: v ∧ d ∈ BRK ∧ Mx u p ∧ Mx v q ∧ n = tns x d + p + q) := by
  cases h with
  | let_ h _ => exact absurd hx h
  | str _ h => exact .inl ⟨_, h, rfl⟩
  | pair _ hd h1 h2 => exact .inr ⟨_, _, _, _, _, rfl, hd, h1, h2, rfl⟩
theorem tns1 : ∀ o ∈ OPN, ∀ d ∈ BRK, 1 ≤ tns (oth o) d := by decide
theorem tns2 : ∀ o ∈ OPN, ∀ e ∈ BRK, ∀ d ∈ BRK, tns e d ≤ tns o d + tns (oth o) e := by decide
theorem tns3 : ∀ o ∈ OPN, ∀ x ∈ BRK, ∀ y ∈ BRK, tns x y ≤ tns x (oth o) + tns y o := by decide
theorem tns4 : ∀ o ∈ OPN, ∀ x ∈ BRK, ∀ y ∈ BRK, tns x y ≤ tns x o + tns (oth o) y := by decide
theorem Mx.out_let {w : List Nat} {n : Nat} (h : Mx w n) : ∀ {a b : List Nat} {x : Nat}, x ∉ BRK → w = a ++ x :: b → Mx (a ++ b) n := by
  induction h with
  | nil => intro a b x _ e; cases a <;> cases e
  | @let_ y n r hy hr ih =>
    intro a b x hx e
    cases a with
    | nil => cases e; exact hr
    | cons z a => cases e; exact .let_ hy (ih hx rfl)
  | @str y n r hy hr ih =>
    intro a b x hx e
    cases a with
    | nil => cases e; exact absurd hy hx
    | cons z a => cases e; exact .str hy (ih hx rfl)
  | @pair y d p q u v hy hd hu hv ih1 ih2 =>
    intro a b x hx e
    cases a with
    | nil => cases e; exact absurd hy hx
    | cons z a =>
      rw [List.cons_append] at e
      have ez : y = z := (List.cons.inj e).1
      subst ez
      rcases app_split (List.cons.inj e).2 with ⟨c, h1, h2⟩ | ⟨h1, h2, h3⟩ | ⟨c, h1, h2⟩
      · subst h2
        have := ih1 hx h1
        rw [List.cons_append, ← List.append_assoc]
        exact .pair hy hd this hv
      · exact absurd (h2 ▸ hd) hx
      · subst h1
        have := ih2 hx h2
        rw [List.cons_append, List.append_assoc, List.cons_append]
        exact .pair hy hd hu this
theorem Mx.out_pair {w : List Nat} {n : Nat} (h : Mx w n) : ∀ {a b : List Nat} {o : Nat}, o ∈ OPN → w = a ++ o :: oth o :: b → ∃ m, m ≤ n ∧ Mx (a ++ b) m := by
  induction h with
  | nil => intro a b x _ e; cases a <;> cases e
  | @let_ y n r hy hr ih =>
    intro a b o ho e
    cases a with
    | nil => cases e; exact absurd (brk_or.mpr (.inl ho)) hy
    | cons z a =>
      cases e
      obtain ⟨m, h1, h2⟩ := ih ho rfl
      exact ⟨m, h1, .let_ hy h2⟩
  | @str y n r hy hr ih =>
    intro a b o ho e
    have hob := oth_brk o (brk_or.mpr (.inl ho))
    cases a with
    | nil =>
      cases e
      rcases hr.first hob with ⟨m, h1, rfl⟩ | ⟨u, d, v, p, q, rfl, hd, h1, h2, rfl⟩
      · exact ⟨m, by omega, h1⟩
      · refine ⟨p + (q + 1), ?_, h1.app (.str hd h2)⟩
        have := tns1 _ ho d hd
        omega
    | cons z a =>
      cases e
      obtain ⟨m, h1, h2⟩ := ih ho rfl
      exact ⟨m + 1, by omega, .str hy h2⟩
  | @pair x d p q u v hx hd hu hv ih1 ih2 =>
    intro a b o ho e
    have hob := oth_brk o (brk_or.mpr (.inl ho))
    cases a with
    | nil =>
      rw [List.nil_append] at e
      have ex : x = o := (List.cons.inj e).1
      subst ex
      have e2 := (List.cons.inj e).2
      cases u with
      | nil => cases e2; exact ⟨q, by omega, hv⟩
      | cons z u =>
        rw [List.cons_append] at e2
        have ez : z = oth x := (List.cons.inj e2).1
        subst ez
        have eb : u ++ d :: v = b := (List.cons.inj e2).2
        subst eb
        rcases hu.first hob with ⟨m, h1, rfl⟩ | ⟨u1, ee, u2, p1, p2, rfl, he, h1, h2, rfl⟩
        · exact ⟨m + (q + 1), by omega, h1.app (.str hd hv)⟩
        · refine ⟨p1 + (tns ee d + p2 + q), ?_, ?_⟩
          · have := tns2 _ ho ee he d hd
            omega
          · have := h1.app (Mx.pair he hd h2 hv)
            rw [List.nil_append, List.append_assoc, List.cons_append]
            exact this
    | cons z a =>
      rw [List.cons_append] at e
      have ez : x = z := (List.cons.inj e).1
      subst ez
      rcases app_split (List.cons.inj e).2 with ⟨c, h1, h2⟩ | ⟨h1, h2, h3⟩ | ⟨c, h1, h2⟩
      · cases c with
        | nil =>
          -- u = a ++ [o], d = oth o
          cases h2
          rcases hu.last h1 (brk_or.mpr (.inl ho)) with ⟨m, g1, g2⟩ | ⟨a1, Y, a2, p1, p2, rfl, g2, g3, g4, g5⟩
          · refine ⟨(m + q) + 1, by omega, ?_⟩
            rw [List.cons_append]
            exact .str hx (g1.app hv)
          · refine ⟨tns x Y + p1 + (p2 + q), ?_, ?_⟩
            · have := tns3 _ ho x hx Y g2
              omega
            · rw [List.cons_append, List.append_assoc, List.cons_append]
              exact .pair hx g2 g3 (g4.app hv)
        | cons y c =>
          cases h2
          obtain ⟨m, g1, g2⟩ := ih1 ho h1
          refine ⟨tns x d + m + q, by omega, ?_⟩
          show Mx (x :: (a ++ (c ++ d :: v))) _
          rw [← List.append_assoc]
          exact .pair hx hd g2 hv
      · subst h1 h2 h3
        rcases hv.first hob with ⟨m, g1, rfl⟩ | ⟨b1, Y, b2, q1, q2, rfl, g2, g3, g4, rfl⟩
        · refine ⟨(p + m) + 1, by omega, ?_⟩
          rw [List.cons_append]
          exact .str hx (hu.app g1)
        · refine ⟨tns x Y + (p + q1) + q2, ?_, ?_⟩
          · have := tns4 _ ho x hx Y g2
            omega
          · rw [List.cons_append, ← List.append_assoc]
            exact .pair hx g2 (hu.app g3) g4
      · subst h1
        obtain ⟨m, g1, g2⟩ := ih2 ho h2
        refine ⟨tns x d + p + m, by omega, ?_⟩
        rw [List.cons_append, List.append_assoc, List.cons_append]
        exact .pair hx hd hu g2
/-! ### the least number -/
noncomputable def lsN (l : List Nat) : Nat := lstN l 0 l.length
theorem Mn.mx {l : List Nat} {i j n : Nat} (h : Mn l i j n) : j ≤ l.length → Mx (seg l i j) n := by
  induction h with
  | nil i => intro _; rw [seg_self]; exact .nil
  | @let_ i j n c e1 e2 h ih =>
    intro hj
    rw [seg_cons e1 (by have := h.le; omega) hj]
    exact .let_ e2 (ih hj)
  | @str i j n c e1 e2 h ih =>
    intro hj
    rw [seg_cons e1 (by have := h.le; omega) hj]
    exact .str e2 (ih hj)
  | @pair i m j a b c d e1 e2 e3 e4 h1 h2 ih1 ih2 =>
    intro hj
    have l1 := h1.le
    have l2 := h2.le
    rw [seg_cons e1 (by omega) hj, seg_app (b := m) l1 (by omega) (by omega), seg_cons e3 (by omega) hj]
    exact .pair e2 e4 (ih1 (by omega)) (ih2 hj)
def wAll : Wd := ⟨true, true, true⟩
theorem lsN_mx (l : List Nat) : Mx l (lsN l) := by
  have := (lstN_spec (l := l) (i := 0) (j := l.length) (Nat.zero_le _) (Nat.le_refl _)).1.mx (Nat.le_refl _)
  rw [seg_all] at this
  exact this
theorem mc_ls {W : Wd} (hs : W.st = true) (ht : W.tn = true) (l : List Nat) : ∃ N, mcN l W 0 l.length = some (lsN l, N) := mcN_cost hs ht (Nat.zero_le _) (Nat.le_refl _)
theorem lsN_An {W : Wd} (hs : W.st = true) (ht : W.tn = true) (l : List Nat) : An W [] l (lsN l) ≠ 0 ∧ ∀ n, An W [] l n ≠ 0 → lsN l ≤ n := by
  obtain ⟨N, hN⟩ := mc_ls hs ht l
  have := Ld_whole (W := W) l
  rw [hN] at this
  obtain ⟨h1, h2, h3⟩ := this
  exact ⟨fun e => h2 (h1.symm.trans e), fun n hn => Nat.le_of_not_lt fun q => hn (h3 n q)⟩
theorem Mx.An {W : Wd} (hs : W.st = true) (ht : W.tn = true) {l : List Nat} {n : Nat} (h : Mx l n) : An W [] l n ≠ 0 := by
  induction h with
  | nil => exact An_pos.mpr ⟨_, Row.nil⟩
  | let_ hx _ ih =>
    obtain ⟨α, ha⟩ := An_pos.mp ih
    exact An_pos.mpr ⟨_, Row.kp (not_brk hx _) ha⟩
  | str hx _ ih =>
    obtain ⟨α, ha⟩ := An_pos.mp ih
    exact An_pos.mpr ⟨_, Row.str hs hx ha⟩
  | @pair x d a b u v hx hd _ _ ih1 ih2 =>
    have := An_app (An_pair hx hd (.inr ht) ih1) ih2
    rw [few_tns x hx d hd, show x :: (u ++ [d]) ++ v = x :: (u ++ d :: v) by simp, show a + tns x d + b = tns x d + a + b by omega] at this
    exact this
theorem lsN_le {l : List Nat} {n : Nat} (h : Mx l n) : lsN l ≤ n := (lsN_An (W := wAll) rfl rfl l).2 n (h.An rfl rfl)
theorem lsN_row (l : List Nat) : ∃ α, Row wAll [] l (lsN l) α := An_pos.mp (lsN_An (W := wAll) rfl rfl l).1
theorem lsN_leR {l : List Nat} {n : Nat} {α : List Stp} (h : Row wAll [] l n α) : lsN l ≤ n := (lsN_An (W := wAll) rfl rfl l).2 n (An_pos.mpr ⟨α, h⟩)
theorem lsN_app (u v : List Nat) : lsN (u ++ v) ≤ lsN u + lsN v := lsN_le ((lsN_mx u).app (lsN_mx v))
theorem lsN_around {o : Nat} (ho : o ∈ OPN) (l : List Nat) : lsN (o :: (l ++ [oth o])) ≤ lsN l := by
  have hob := brk_or.mpr (.inl ho)
  have h := Mx.pair hob (oth_brk o hob) (lsN_mx l) Mx.nil
  have e : tns o (oth o) = 0 := (show ∀ o ∈ OPN, tns o (oth o) = 0 by decide) o ho
  have := lsN_le h
  omega
/-! a clean text put in -/
theorem lsN_out {a b : List Nat} : ∀ (n : Nat) (c : List Nat), c.length ≤ n → clean c → ∀ a b : List Nat, lsN (a ++ b) ≤ lsN (a ++ c ++ b)
  | 0, c, h, _, a, b => by
    have : c = [] := List.length_eq_zero_iff.mp (by omega)
    subst this
    rw [List.append_nil]
    exact Nat.le_refl _
  | n + 1, [], h, _, a, b => by rw [List.append_nil]; exact Nat.le_refl _
  | n + 1, x :: c, h, hc, a, b => by
    rw [List.length_cons] at h
    by_cases ho : x ∈ OPN
    · have hf : c.foldl stp (some [oth x]) = some [] := by
        have : (x :: c).foldl stp (some []) = some [] := hc
        rw [List.foldl_cons, stp_opn ho] at this
        exact this
      obtain ⟨u, v, e, hu, hv⟩ := fold_split c.length c (oth x) [] [] (Nat.le_refl _) (oth_clo x ho) hf (Nat.le_refl _)
      subst e
      have hv' : clean v := hv
      have hl : u.length + (v.length + 1) ≤ n := by simp at h; omega
      have h1 := lsN_out (a := []) (b := []) n v (by omega) hv' a b
      have h2 : lsN (a ++ v ++ b) ≤ lsN (a ++ x :: oth x :: (v ++ b)) := by
        obtain ⟨m, hm, hM⟩ := (lsN_mx (a ++ x :: oth x :: (v ++ b))).out_pair ho rfl
        rw [← List.append_assoc] at hM
        have := lsN_le hM
        omega
      have h3 := lsN_out (a := []) (b := []) n u (by omega) hu (a ++ [x]) (oth x :: (v ++ b))
      rw [show a ++ [x] ++ oth x :: (v ++ b) = a ++ x :: oth x :: (v ++ b) by simp, show a ++ [x] ++ u ++ oth x :: (v ++ b) = a ++ x :: (u ++ oth x :: v) ++ b by simp] at h3
      omega
    · by_cases hcl : x ∈ CLO
      · exfalso
        have : (x :: c).foldl stp (some []) = some [] := hc
        rw [List.foldl_cons] at this
        unfold stp at this
        dsimp only at this
        rw [if_neg ho, if_pos hcl] at this
        have e := fold_none c
        unfold stp at e
        rw [e] at this
        cases this
      · have hb : x ∉ BRK := fun q => (brk_or.mp q).elim ho hcl
        have hc' : clean c := by
          have : (x :: c).foldl stp (some []) = some [] := hc
          rw [List.foldl_cons, not_brk hb] at this
          exact this
        have h1 := lsN_out (a := []) (b := []) n c (by omega) hc' a b
        have h2 := lsN_le ((lsN_mx (a ++ x :: c ++ b)).out_let hb (a := a) (b := c ++ b) (by simp))
        rw [← List.append_assoc] at h2
        omega
end Ly

set_option maxHeartbeats 4000000
namespace Ly
/-! ### rows cut, changed at one place -/
theorem row_cut : ∀ (α : List Stp) (a b : List Nat), inS α = a ++ b → ∃ α1 α2, α = α1 ++ α2 ∧ inS α1 = a ∧ inS α2 = b
  | α, [], b, h => ⟨[], α, rfl, rfl, h⟩
  | [], x :: a, b, h => by cases h
  | .pt c :: α, x :: a, b, h => by
    obtain ⟨α1, α2, rfl, h1, h2⟩ := row_cut α (x :: a) b h
    exact ⟨.pt c :: α1, α2, rfl, h1, h2⟩
  | .kp c :: α, x :: a, b, h => by
    have h' : c :: inS α = x :: (a ++ b) := h
    obtain ⟨α1, α2, rfl, h1, h2⟩ := row_cut α a b (List.cons.inj h').2
    exact ⟨.kp c :: α1, α2, rfl, by show c :: inS α1 = x :: a; rw [h1, (List.cons.inj h').1], h2⟩
  | .st c :: α, x :: a, b, h => by
    have h' : c :: inS α = x :: (a ++ b) := h
    obtain ⟨α1, α2, rfl, h1, h2⟩ := row_cut α a b (List.cons.inj h').2
    exact ⟨.st c :: α1, α2, rfl, by show c :: inS α1 = x :: a; rw [h1, (List.cons.inj h').1], h2⟩
  | .tn c d :: α, x :: a, b, h => by
    have h' : c :: inS α = x :: (a ++ b) := h
    obtain ⟨α1, α2, rfl, h1, h2⟩ := row_cut α a b (List.cons.inj h').2
    exact ⟨.tn c d :: α1, α2, rfl, by show c :: inS α1 = x :: a; rw [h1, (List.cons.inj h').1], h2⟩
theorem row_at : ∀ (α : List Stp) (s : Nat) (b : List Nat), inS α = s :: b → ∃ β1 y β2, α = β1 ++ y :: β2 ∧ inS β1 = [] ∧ y.i = [s] ∧ inS β2 = b
  | [], s, b, h => by cases h
  | .pt c :: α, s, b, h => by
    obtain ⟨β1, y, β2, rfl, h1, h2, h3⟩ := row_at α s b h
    exact ⟨.pt c :: β1, y, β2, rfl, h1, h2, h3⟩
  | .kp c :: α, s, b, h => by
    have h' : c :: inS α = s :: b := h
    exact ⟨[], .kp c, α, rfl, rfl, by rw [← (List.cons.inj h').1]; rfl, (List.cons.inj h').2⟩
  | .st c :: α, s, b, h => by
    have h' : c :: inS α = s :: b := h
    exact ⟨[], .st c, α, rfl, rfl, by rw [← (List.cons.inj h').1]; rfl, (List.cons.inj h').2⟩
  | .tn c d :: α, s, b, h => by
    have h' : c :: inS α = s :: b := h
    exact ⟨[], .tn c d, α, rfl, rfl, by rw [← (List.cons.inj h').1]; rfl, (List.cons.inj h').2⟩
theorem row_mid {α : List Stp} {a b : List Nat} {s : Nat} (h : inS α = a ++ s :: b) : ∃ β1 y β2, α = β1 ++ y :: β2 ∧ inS β1 = a ∧ y.i = [s] ∧ inS β2 = b := by
  obtain ⟨α1, α2, rfl, h1, h2⟩ := row_cut α a (s :: b) h
  obtain ⟨β1, y, β2, rfl, h3, h4, h5⟩ := row_at α2 s b h2
  exact ⟨α1 ++ β1, y, β2, by simp, by rw [inS_app, h1, h3, List.append_nil], h4, h5⟩
theorem kp_in (c : List Nat) : inS (c.map Stp.kp) = c := by
  induction c with
  | nil => rfl
  | cons x c ih => show x :: inS (c.map Stp.kp) = x :: c; rw [ih]
theorem kp_out (c : List Nat) : outS (c.map Stp.kp) = c := by
  induction c with
  | nil => rfl
  | cons x c ih => show x :: outS (c.map Stp.kp) = x :: c; rw [ih]
theorem kp_cst (c : List Nat) : cstS (c.map Stp.kp) = 0 := by
  induction c with
  | nil => rfl
  | cons x c ih => exact ih
theorem kp_ok (c : List Nat) : okS (c.map Stp.kp) := fun s hs => by
  obtain ⟨x, _, rfl⟩ := List.mem_map.mp hs
  exact trivial
theorem kp_wd (W : Wd) (c : List Nat) : ∀ s ∈ c.map Stp.kp, s.wd W := fun s hs => by
  obtain ⟨x, _, rfl⟩ := List.mem_map.mp hs
  exact trivial
section
variable {W : Wd} {a b : List Nat} {n : Nat}
theorem row_ins {α : List Stp} {c : List Nat} (h : Row W [] (a ++ b) n α) (hc : clean c) : ∃ β, Row W [] (a ++ c ++ b) n β := by
  obtain ⟨α1, α2, rfl, h1, h2⟩ := row_cut α a b h.tx
  have hf := h.fo
  rw [outS_app, List.foldl_append] at hf
  refine ⟨α1 ++ c.map Stp.kp ++ α2, okS_app (okS_app (fun s hs => h.ok s (List.mem_append_left _ hs)) (kp_ok c)) (fun s hs => h.ok s (List.mem_append_right _ hs)), fun s hs => ?_, by rw [inS_app, inS_app, kp_in, h1, h2], by rw [cstS_app, cstS_app, kp_cst, ← h.ct, cstS_app]; rfl, ?_⟩
  · rcases List.mem_append.mp hs with hs | hs
    · rcases List.mem_append.mp hs with hs | hs
      · exact h.wd s (List.mem_append_left _ hs)
      · exact kp_wd W c s hs
    · exact h.wd s (List.mem_append_right _ hs)
  · rw [outS_app, outS_app, kp_out, List.foldl_append, List.foldl_append, fold_clean hc]
    exact hf
theorem row_put1 {α : List Stp} {s : Nat} (hs : W.st = true) (hb : s ∈ BRK) (h : Row W [] (a ++ b) n α) : ∃ β, Row W [] (a ++ s :: b) (n + 1) β := by
  obtain ⟨α1, α2, rfl, h1, h2⟩ := row_cut α a b h.tx
  refine ⟨α1 ++ Stp.st s :: α2, okS_app (fun s hs => h.ok s (List.mem_append_left _ hs)) (okS_cons.mpr ⟨hb, fun s hs => h.ok s (List.mem_append_right _ hs)⟩), fun y hy => ?_, ?_, ?_, ?_⟩
  · rcases List.mem_append.mp hy with hy | hy
    · exact h.wd y (List.mem_append_left _ hy)
    · rcases List.mem_cons.mp hy with rfl | hy
      · exact hs
      · exact h.wd y (List.mem_append_right _ hy)
  · rw [inS_app, h1]
    show a ++ s :: inS α2 = _
    rw [h2]
  · rw [cstS_app, ← h.ct, cstS_app]
    show cstS α1 + (cstS α2 + 1) = _
    omega
  · have hf := h.fo
    rw [outS_app] at hf ⊢
    exact hf
theorem row_sub {β1 β2 γ : List Stp} {y : Stp} {st r : List Nat} (h : Row W st r n (β1 ++ y :: β2)) (hg : okS γ) (hw : ∀ s ∈ γ, s.wd W) (ho : ∀ o : Option (List Nat), (outS γ).foldl stp o = y.o.foldl stp o) : Row W st (inS β1 ++ (inS γ ++ inS β2)) (cstS β1 + (cstS γ + cstS β2)) (β1 ++ (γ ++ β2)) := by
  refine ⟨okS_app (fun s hs => h.ok s (List.mem_append_left _ hs)) (okS_app hg (fun s hs => h.ok s (List.mem_append_right _ (List.mem_cons_of_mem _ hs)))), fun s hs => ?_, by rw [inS_app, inS_app], by rw [cstS_app, cstS_app], ?_⟩
  · rcases List.mem_append.mp hs with hs | hs
    · exact h.wd s (List.mem_append_left _ hs)
    · rcases List.mem_append.mp hs with hs | hs
      · exact hw s hs
      · exact h.wd s (List.mem_append_right _ (List.mem_cons_of_mem _ hs))
  · have hf := h.fo
    rw [outS_app, List.foldl_append, outS_cons, List.foldl_append] at hf
    rw [outS_app, outS_app, List.foldl_append, List.foldl_append, ho]
    exact hf
theorem row_drop {α : List Stp} {s : Nat} (hp : W.pt = true) (h : Row W [] (a ++ s :: b) n α) : ∃ m β, m ≤ n + (if s ∈ BRK then 1 else 0) ∧ Row W [] (a ++ b) m β := by
  obtain ⟨β1, y, β2, rfl, h1, h2, h3⟩ := row_mid h.tx
  have hct := h.ct
  rw [cstS_app] at hct
  cases y with
  | kp c =>
    have e : c = s := (List.cons.inj h2).1
    subst e
    have hct' : cstS β1 + cstS β2 = n := hct
    by_cases hb : c ∈ BRK
    · have := row_sub (γ := [Stp.pt c]) h (okS_cons.mpr ⟨hb, fun _ h => nomatch h⟩) (fun s hs => by rw [List.mem_singleton.mp hs]; exact hp) (fun o => rfl)
      rw [h1, h3] at this
      refine ⟨_, _, ?_, this⟩
      rw [if_pos hb]
      show cstS β1 + (1 + cstS β2) ≤ _
      omega
    · have := row_sub (γ := []) h (fun _ h => nomatch h) (fun _ h => nomatch h) (fun o => (not_brk hb o).symm)
      rw [h1, h3] at this
      refine ⟨_, _, ?_, this⟩
      rw [if_neg hb]
      show cstS β1 + (0 + cstS β2) ≤ _
      omega
  | st c =>
    have hct' : cstS β1 + (cstS β2 + 1) = n := hct
    have := row_sub (γ := []) h (fun _ h => nomatch h) (fun _ h => nomatch h) (fun o => rfl)
    rw [h1, h3] at this
    refine ⟨_, _, ?_, this⟩
    show cstS β1 + (0 + cstS β2) ≤ _
    omega
  | tn c d =>
    have hct' : cstS β1 + (cstS β2 + 1) = n := hct
    have hd : d ∈ BRK := (h.ok (.tn c d) (by simp)).2.1
    have := row_sub (γ := [Stp.pt d]) h (okS_cons.mpr ⟨hd, fun _ h => nomatch h⟩) (fun s hs => by rw [List.mem_singleton.mp hs]; exact hp) (fun o => rfl)
    rw [h1, h3] at this
    refine ⟨_, _, ?_, this⟩
    show cstS β1 + (1 + cstS β2) ≤ _
    omega
  | pt c => cases h2
end
/-! ### laws of the least number -/
theorem lsN_ins {a b c : List Nat} (hc : clean c) : lsN (a ++ c ++ b) = lsN (a ++ b) := by
  refine Nat.le_antisymm ?_ (lsN_out (a := []) (b := []) c.length c (Nat.le_refl _) hc a b)
  obtain ⟨α, hα⟩ := lsN_row (a ++ b)
  obtain ⟨β, hβ⟩ := row_ins hα hc
  exact lsN_leR hβ
theorem lsN_more {a b : List Nat} {s : Nat} (hb : s ∈ BRK) : lsN (a ++ s :: b) ≤ lsN (a ++ b) + 1 := by
  obtain ⟨α, hα⟩ := lsN_row (a ++ b)
  obtain ⟨β, hβ⟩ := row_put1 rfl hb hα
  exact lsN_leR hβ
theorem lsN_less {a b : List Nat} {s : Nat} : lsN (a ++ b) ≤ lsN (a ++ s :: b) + if s ∈ BRK then 1 else 0 := by
  obtain ⟨α, hα⟩ := lsN_row (a ++ s :: b)
  obtain ⟨m, β, hm, hβ⟩ := row_drop rfl hα
  have := lsN_leR hβ
  omega
def brks (l : List Nat) : List Nat := l.filter fun c => decide (c ∈ BRK)
theorem brks_cons (x : Nat) (l : List Nat) : (brks (x :: l)).length = (if x ∈ BRK then 1 else 0) + (brks l).length := by
  unfold brks
  by_cases h : x ∈ BRK
  · rw [List.filter_cons_of_pos (by simpa using h), List.length_cons, if_pos h]; omega
  · rw [List.filter_cons_of_neg (by simpa using h), if_neg h]; omega
theorem lsN_front : ∀ (v u : List Nat), lsN u ≤ lsN (u ++ v) + (brks v).length
  | [], u => by rw [List.append_nil]; omega
  | s :: v, u => by
    have h1 := lsN_front v u
    have h2 := lsN_less (a := u) (b := v) (s := s)
    rw [brks_cons]
    omega
theorem lsN_all : ∀ l : List Nat, Mx l (brks l).length
  | [] => .nil
  | x :: l => by
    rw [brks_cons]
    by_cases h : x ∈ BRK
    · rw [if_pos h, Nat.add_comm]; exact .str h (lsN_all l)
    · rw [if_neg h, Nat.zero_add]; exact .let_ h (lsN_all l)
theorem lsN_brks (l : List Nat) : lsN l ≤ (brks l).length := lsN_le (lsN_all l)
theorem Mx.brks {l : List Nat} {n : Nat} (h : Mx l n) : Mx (brks l) n := by
  induction h with
  | nil => exact .nil
  | let_ hx _ ih =>
    unfold Ly.brks
    rw [List.filter_cons_of_neg (by simpa using hx)]
    exact ih
  | str hx _ ih =>
    unfold Ly.brks
    rw [List.filter_cons_of_pos (by simpa using hx)]
    exact .str hx ih
  | pair hx hd _ _ ih1 ih2 =>
    unfold Ly.brks
    rw [List.filter_cons_of_pos (by simpa using hx), List.filter_append, List.filter_cons_of_pos (by simpa using hd)]
    exact .pair hx hd ih1 ih2
theorem clean_one {x : Nat} (h : x ∉ BRK) : clean [x] := by
  show [x].foldl stp (some []) = some []
  rw [List.foldl_cons, not_brk h]
  rfl
theorem lsN_let : ∀ (l a : List Nat), lsN (a ++ l) ≤ lsN (a ++ brks l)
  | [], a => Nat.le_refl _
  | x :: l, a => by
    by_cases h : x ∈ BRK
    · have := lsN_let l (a ++ [x])
      unfold brks at this ⊢
      rw [List.filter_cons_of_pos (by simpa using h)]
      rw [List.append_assoc, List.append_assoc] at this
      exact this
    · have h1 := lsN_let l a
      have h2 := lsN_ins (a := a) (b := l) (clean_one h)
      unfold brks at h1 ⊢
      rw [List.filter_cons_of_neg (by simpa using h)]
      rw [List.append_assoc] at h2
      have h3 : lsN (a ++ x :: l) = lsN (a ++ l) := h2
      omega
theorem lsN_only (l : List Nat) : lsN (brks l) = lsN l := Nat.le_antisymm (lsN_le (lsN_mx l).brks) (lsN_let l [])
/-! clean texts -/
theorem row_zero : ∀ {α : List Stp}, cstS α = 0 → α = (inS α).map Stp.kp
  | [], _ => rfl
  | .kp c :: α, h => by
    show _ = (c :: inS α).map Stp.kp
    rw [List.map_cons, ← row_zero (α := α) h]
  | .st c :: α, h => by cases h
  | .tn c d :: α, h => by cases h
  | .pt c :: α, h => by cases h
theorem row_clean (W : Wd) {l : List Nat} (h : clean l) : Row W [] l 0 (l.map Stp.kp) := ⟨kp_ok l, kp_wd W l, kp_in l, kp_cst l, by rw [kp_out]; exact h⟩
theorem lsN_zero (l : List Nat) : lsN l = 0 ↔ clean l := by
  constructor
  · intro h
    obtain ⟨α, hα⟩ := lsN_row l
    rw [h] at hα
    have e := row_zero hα.ct
    have hf := hα.fo
    rw [e, kp_out, hα.tx] at hf
    exact hf
  · intro h
    exact Nat.le_zero.mp (lsN_leR (row_clean wAll h))
theorem rows_zero (W : Wd) : ∀ (r st : List Nat), rowsL W st r 0 = if r.foldl stp (some st) = some [] then [r.map Stp.kp] else []
  | [], st => by
    rw [rowsL.eq_def]
    show (if st = [] ∧ 0 = 0 then [[]] else []) = if some st = some [] then [[]] else []
    by_cases h : st = []
    · rw [if_pos ⟨h, rfl⟩, if_pos (by rw [h])]
    · rw [if_neg fun q => h q.1, if_neg fun q => h (Option.some.inj q)]
  | x :: r, st => by
    rw [rowsL.eq_def, List.foldl_cons]
    dsimp only
    rw [List.nil_append]
    by_cases hx : x ∈ BRK
    · rw [if_pos hx, List.nil_append]
      cases hs : stp (some st) x with
      | none => rw [fold_none, if_neg (fun q => nomatch q)]; rfl
      | some s =>
        dsimp only
        rw [rows_zero W r s]
        by_cases hf : r.foldl stp (some s) = some []
        · rw [if_pos hf, if_pos hf]; rfl
        · rw [if_neg hf, if_neg hf]; rfl
    · rw [if_neg hx, not_brk hx, rows_zero W r st]
      by_cases hf : r.foldl stp (some st) = some []
      · rw [if_pos hf, if_pos hf]; rfl
      · rw [if_neg hf, if_neg hf]; rfl
theorem mc_clean (W : Wd) {l : List Nat} (h : clean l) : mcN l W 0 l.length = some (0, 1) := by
  have h1 := Ld_whole (W := W) l
  have h2 : Ld (An W [] l) (some (0, 1)) := by
    refine ⟨?_, by decide, fun a ha => absurd ha (by show ¬ a < 0; omega)⟩
    show (rowsL W [] l 0).length = 1
    rw [rows_zero, if_pos (show l.foldl stp (some []) = some [] from h)]
    rfl
  exact h1.uniq h2
theorem dd_kp (l : List Nat) : ∀ p, ddS p (l.map Stp.kp) = [] := by
  induction l with
  | nil => intro p; rfl
  | cons x l ih => intro p; exact ih (p + 1)
end Ly

set_option maxHeartbeats 4000000
namespace Ly
open PySem PySem.Spec PyProof.Rows L2 SX
/-! ### lists of deeds as values -/
def DdV (H : Hp) (v : V) (d : Deed) : Prop := ∃ r, v = .ref r ∧ H r = some (.tup (ddV d))
theorem DdV.same {H H' : Hp} {v : V} {d : Deed} (h : DdV H v d) (s : Same H H') : DdV H' v d := by
  obtain ⟨r, h1, h2⟩ := h
  exact ⟨r, h1, s _ _ h2⟩
theorem DdV.but {H H' : Hp} {v : V} {d : Deed} {p : Addr} (h : DdV H v d) (b : But p H H') (hp : ∀ ys, H p ≠ some (.tup ys)) : DdV H' v d := by
  obtain ⟨r, h1, h2⟩ := h
  exact ⟨r, h1, b _ _ (fun e => hp _ (by rw [← e]; exact h2)) h2⟩
theorem pd_dds {H : Hp} : ∀ {rs : List Addr} {ds : List Deed}, rs.length = ds.length → (∀ (k : Nat) (r : Addr) (d : Deed), rs[k]? = some r → ds[k]? = some d → H r = some (.tup (ddV d))) → Paired (DdV H) (rs.map V.ref) ds
  | [], [], _, _ => .nil
  | [], _ :: _, h, _ => by cases h
  | _ :: _, [], h, _ => by cases h
  | r :: rs, d :: ds, h, hi => .cons ⟨r, rfl, hi 0 r d rfl rfl⟩ (pd_dds (by simpa using h) fun k r' d' h1 h2 => hi (k + 1) r' d' h1 h2)
theorem Dds.pd {H : Hp} {a : Addr} {rs : List Addr} {ds : List Deed} (h : Dds H a rs ds) : Paired (DdV H) (rs.map V.ref) ds := pd_dds h.len h.it
theorem pd_refs {H : Hp} : ∀ {ys : List V} {ds : List Deed}, Paired (DdV H) ys ds → ∃ rs : List Addr, ys = rs.map V.ref ∧ rs.length = ds.length ∧ ∀ (k : Nat) (r : Addr) (d : Deed), rs[k]? = some r → ds[k]? = some d → H r = some (.tup (ddV d))
  | _, _, .nil => ⟨[], rfl, rfl, fun k r d h => by cases h⟩
  | _, _, .cons h r => by
    obtain ⟨rs, h1, h2, h3⟩ := pd_refs r
    obtain ⟨t, rfl, ht⟩ := h
    refine ⟨t :: rs, by rw [h1]; rfl, by rw [List.length_cons, List.length_cons, h2], fun k r' d' e1 e2 => ?_⟩
    cases k with
    | zero => cases e1; cases e2; exact ht
    | succ k => exact h3 k r' d' e1 e2
theorem dds_pd {H : Hp} {a : Addr} {ys : List V} {ds : List Deed} (h : H a = some (.lst ys)) (hp : Paired (DdV H) ys ds) : ∃ rs, Dds H a rs ds ∧ ys = rs.map V.ref := by
  obtain ⟨rs, rfl, h2, h3⟩ := pd_refs hp
  exact ⟨rs, ⟨h, h2, h3⟩, rfl⟩
theorem othL_midY {y : List Nat} {p : Nat} : ∀ {ds : List Deed}, chB ds = true → (othL ds p ++ [y])[0]? = some (mid (othD ds p) y)
  | [], _ => rfl
  | (q, w) :: ds, h => by
    obtain ⟨h1, h2, h3⟩ := chB_low h
    have ih := othL_midY (y := y) (p := p) h3
    by_cases e : q = p ∧ w.isPut = false
    · have hl : low (p + 1) ds := by rw [← e.1]; exact h2 e.2
      have e1 : othL ((q, w) :: ds) p = [w.s] := by
        have := othL_nil hl
        unfold othL at this ⊢
        rw [List.filter_cons_of_pos (by simp [e.1, e.2]), List.map_cons, this]
      rw [e1, othD, oth_low hl]
      dsimp only
      rw [if_pos e]
      rfl
    · have e1 : othL ((q, w) :: ds) p = othL ds p := by
        unfold othL
        rw [List.filter_cons_of_neg]
        intro hc
        rw [Bool.and_eq_true] at hc
        exact e ⟨of_decide_eq_true hc.1, by simpa using hc.2⟩
      have e2 : othD ((q, w) :: ds) p = othD ds p := by
        rw [othD]
        cases othD ds p with
        | some w => rfl
        | none => dsimp only; rw [if_neg e]
      rw [e1, e2]
      exact ih
theorem joinL_none : ∀ ps : List (List Nat), TL.joinL [] ps = ps.flatten
  | [] => rfl
  | [p] => by show p = [p].flatten; simp
  | p :: q :: r => by
    have := joinL_none (q :: r)
    rw [joinL_cons [] p (by simp), this]
    rfl
theorem pd_turn {α β : Type} {R : α → β → Prop} {ys : List α} {ds : List β} {pre post : List α} {x : α} (h : Paired R ys ds) (e : ys = pre ++ x :: post) : ∃ d, R x d ∧ d ∈ ds ∧ ds.take (pre ++ [x]).length = ds.take pre.length ++ [d] := by
  rw [e] at h
  obtain ⟨p, y, q, h1, h2, h3, _, _⟩ := pd_mid h
  subst h1
  refine ⟨y, h3, by simp, ?_⟩
  rw [List.length_append, List.length_singleton, ← h2, List.take_left, show p ++ y :: q = (p ++ [y]) ++ q by simp, show p.length + 1 = (p ++ [y]).length by simp, List.take_left]
def atD (ds : List Deed) (p : Nat) : List Deed := ds.filter fun d => decide (d.1 = p)
theorem put_at (ds : List Deed) (p : Nat) : (((atD ds p).filter fun d => d.2.isPut).map fun d => d.2.s).flatten = puts ds p := by
  induction ds with
  | nil => rfl
  | cons d ds ih =>
    rw [puts_cons]
    unfold atD putc at *
    by_cases e : d.1 = p
    · rw [List.filter_cons_of_pos (by simpa using e), if_pos e]
      cases hw : d.2 with
      | put c =>
        rw [List.filter_cons_of_pos (by rw [hw]; rfl), List.map_cons, List.flatten_cons, ih, hw]
        rfl
      | str => rw [List.filter_cons_of_neg (by rw [hw]; exact Bool.false_ne_true), ih]; rfl
      | trn c => rw [List.filter_cons_of_neg (by rw [hw]; exact Bool.false_ne_true), ih]; rfl
    · rw [List.filter_cons_of_neg (by simpa using e), if_neg e, ih]; rfl
theorem oth_at (ds : List Deed) (p : Nat) : ((atD ds p).filter fun d => !d.2.isPut).map (fun d => d.2.s) = othL ds p := by
  unfold atD othL
  rw [List.filter_filter]
  congr 1
  exact List.filter_congr fun d _ => by rw [Bool.and_comm]
/-! ### deeds and rows -/
theorem dd_cst : ∀ (α : List Stp) (p : Nat), (ddS p α).length = cstS α
  | [], _ => rfl
  | .kp c :: α, p => dd_cst α (p + 1)
  | .st c :: α, p => by show (ddS (p + 1) α).length + 1 = cstS α + 1; rw [dd_cst]
  | .tn c d :: α, p => by show (ddS (p + 1) α).length + 1 = cstS α + 1; rw [dd_cst]
  | .pt d :: α, p => by show (ddS p α).length + 1 = cstS α + 1; rw [dd_cst]
theorem wAll_wd (α : List Stp) : ∀ s ∈ α, s.wd wAll := fun s _ => by cases s <;> first | exact trivial | exact rfl
theorem row_ds {l : List Nat} {n : Nat} {α : List Stp} (h : Row wAll [] l n α) : okDs l (ddS 0 α) = true ∧ (ddS 0 α).length = n ∧ clean (doneL l (ddS 0 α)) := by
  refine ⟨by rw [← h.tx]; exact row_ok h.ok, by rw [dd_cst, h.ct], ?_⟩
  have e : doneL l (ddS 0 α) = outS α := by rw [← h.tx]; exact row_done α
  rw [e]
  exact h.fo
theorem ds_row {l : List Nat} {ds : List Deed} (h : okDs l ds = true) (hc : clean (doneL l ds)) : ∃ α, ddS 0 α = ds ∧ Row wAll [] l ds.length α := by
  obtain ⟨α, h1, h2, h3, h4⟩ := row_of h
  refine ⟨α, h1, h3, wAll_wd α, h2, by rw [← dd_cst α 0, h1], ?_⟩
  rw [h4]
  exact hc
/-- a list of deeds with so few that leave the text clean -/
theorem ds_least {l : List Nat} {ds : List Deed} (h : okDs l ds = true) (hc : clean (doneL l ds)) : lsN l ≤ ds.length := by
  obtain ⟨α, _, h2⟩ := ds_row h hc
  exact lsN_leR h2
theorem least_ds (l : List Nat) : ∃ ds, okDs l ds = true ∧ ds.length = lsN l ∧ clean (doneL l ds) := by
  obtain ⟨α, hα⟩ := lsN_row l
  exact ⟨_, row_ds hα⟩
/-! ### all lists of deeds, one by one -/
def evP (l : List Nat) (p : Nat) : List Deed := (BRK.map fun c => ((p, Dw.put c) : Deed)) ++ (match l[p]? with
  | none => []
  | some x => if x ∈ BRK then (p, Dw.str) :: (BRK.filter (· ≠ x)).map (fun c => ((p, Dw.trn c) : Deed)) else [])
def evD (l : List Nat) : List Deed := (List.range (l.length + 1)).flatMap (evP l)
theorem mem_evP {l : List Nat} {p : Nat} {d : Deed} (hp : p ≤ l.length) : d ∈ evP l p ↔ d.1 = p ∧ okB l d = true := by
  obtain ⟨q, w⟩ := d
  unfold evP okB
  constructor
  · intro h
    rcases List.mem_append.mp h with h | h
    · obtain ⟨c, hc, e⟩ := List.mem_map.mp h
      cases e
      exact ⟨rfl, by simp [hp, hc]⟩
    · cases hx : l[p]? with
      | none => rw [hx] at h; cases h
      | some x =>
        rw [hx] at h
        dsimp only at h
        by_cases hb : x ∈ BRK
        · rw [if_pos hb] at h
          rcases List.mem_cons.mp h with h | h
          · cases h
            exact ⟨rfl, by dsimp only; rw [hx]; simp [hb]⟩
          · obtain ⟨c, hc, e⟩ := List.mem_map.mp h
            cases e
            obtain ⟨h1, h2⟩ := List.mem_filter.mp hc
            have h3 : c ≠ x := by simpa using h2
            exact ⟨rfl, by dsimp only; rw [hx]; simp [hb, h1, h3]⟩
        · rw [if_neg hb] at h; cases h
  · rintro ⟨e, h⟩
    dsimp only at e
    subst e
    cases w with
    | put c =>
      dsimp only at h
      rw [Bool.and_eq_true] at h
      exact List.mem_append_left _ (List.mem_map.mpr ⟨c, of_decide_eq_true h.2, rfl⟩)
    | str =>
      dsimp only at h
      refine List.mem_append_right _ ?_
      cases hx : l[q]? with
      | none => rw [hx] at h; cases h
      | some x =>
        rw [hx] at h
        dsimp only
        rw [if_pos (of_decide_eq_true h)]
        exact List.mem_cons_self ..
    | trn c =>
      dsimp only at h
      refine List.mem_append_right _ ?_
      cases hx : l[q]? with
      | none => rw [hx] at h; cases h
      | some x =>
        rw [hx] at h
        dsimp only at h ⊢
        rw [Bool.and_eq_true, Bool.and_eq_true] at h
        rw [if_pos (of_decide_eq_true h.1)]
        refine List.mem_cons_of_mem _ (List.mem_map.mpr ⟨c, List.mem_filter.mpr ⟨of_decide_eq_true h.2.1, ?_⟩, rfl⟩)
        simpa using h.2.2
theorem mem_evD {l : List Nat} {d : Deed} : d ∈ evD l ↔ okB l d = true := by
  unfold evD
  rw [List.mem_flatMap]
  constructor
  · rintro ⟨p, hp, h⟩
    exact ((mem_evP (by have := List.mem_range.mp hp; omega)).mp h).2
  · intro h
    have hle := (okB_le h).1
    exact ⟨d.1, List.mem_range.mpr (by omega), (mem_evP hle).mpr ⟨rfl, h⟩⟩
/-- may stand behind -/
def folB (ds : List Deed) (d : Deed) : Bool := match ds.getLast? with
  | none => true
  | some e => nxB e d
def liD (l : List Nat) : Nat → List (List Deed)
  | 0 => [[]]
  | n + 1 => (liD l n).flatMap fun ds => ((evD l).filter (folB ds)).map fun d => ds ++ [d]
theorem chB_snoc {ds : List Deed} {d : Deed} : chB (ds ++ [d]) = true ↔ chB ds = true ∧ folB ds d = true := by
  rw [chB_iff, chB_iff]
  unfold folB
  constructor
  · intro h
    refine ⟨fun k x y h1 h2 => h k x y (by rw [List.getElem?_append_left (by have := (List.getElem?_eq_some_iff.mp h1).1; exact this)]; exact h1) (by rw [List.getElem?_append_left (by have := (List.getElem?_eq_some_iff.mp h2).1; exact this)]; exact h2), ?_⟩
    cases hl : ds.getLast? with
    | none => rfl
    | some e =>
      dsimp only
      have hne : ds ≠ [] := fun q => by rw [q] at hl; cases hl
      have hpos := List.length_pos_iff.mpr hne
      rw [List.getLast?_eq_getElem?] at hl
      refine h (ds.length - 1) e d (by rw [List.getElem?_append_left (by omega)]; exact hl) ?_
      rw [List.getElem?_append_right (by omega), show ds.length - 1 + 1 - ds.length = 0 by omega]
      rfl
  · rintro ⟨h1, h2⟩ k x y e1 e2
    by_cases hk : k + 1 < ds.length
    · rw [List.getElem?_append_left (by omega)] at e1
      rw [List.getElem?_append_left hk] at e2
      exact h1 k x y e1 e2
    · have hk2 : k + 1 = ds.length := by
        have := (List.getElem?_eq_some_iff.mp e2).1
        rw [List.length_append, List.length_singleton] at this
        omega
      rw [List.getElem?_append_left (by omega)] at e1
      rw [List.getElem?_append_right (by omega), hk2, Nat.sub_self] at e2
      have ey : d = y := Option.some.inj e2
      subst ey
      rw [List.getLast?_eq_getElem?, show ds.length - 1 = k by omega, e1] at h2
      exact h2
theorem okDs_snocI {l : List Nat} {ds : List Deed} {d : Deed} : okDs l (ds ++ [d]) = true ↔ okDs l ds = true ∧ okB l d = true ∧ folB ds d = true := by
  unfold okDs
  rw [Bool.and_eq_true, Bool.and_eq_true, chB_snoc, List.all_append, Bool.and_eq_true]
  simp
  constructor
  · rintro ⟨⟨a, b⟩, c, d⟩
    exact ⟨⟨a, c⟩, b, d⟩
  · rintro ⟨⟨a, c⟩, b, d⟩
    exact ⟨⟨a, b⟩, c, d⟩
theorem mem_liD {l : List Nat} : ∀ {n : Nat} {ds : List Deed}, ds ∈ liD l n ↔ okDs l ds = true ∧ ds.length = n
  | 0, ds => by
    rw [liD, List.mem_singleton]
    constructor
    · rintro rfl; exact ⟨rfl, rfl⟩
    · rintro ⟨_, h⟩; exact List.length_eq_zero_iff.mp h
  | n + 1, ds => by
    rw [liD, List.mem_flatMap]
    constructor
    · rintro ⟨es, he, h⟩
      obtain ⟨d, hd, rfl⟩ := List.mem_map.mp h
      obtain ⟨h1, h2⟩ := mem_liD.mp he
      obtain ⟨h3, h4⟩ := List.mem_filter.mp hd
      exact ⟨okDs_snocI.mpr ⟨h1, mem_evD.mp h3, h4⟩, by rw [List.length_append, h2]; rfl⟩
    · rintro ⟨h1, h2⟩
      have hne : ds ≠ [] := fun q => by rw [q] at h2; cases h2
      obtain ⟨es, d, rfl⟩ : ∃ es d, ds = es ++ [d] := ⟨ds.dropLast, ds.getLast hne, (List.dropLast_concat_getLast hne).symm⟩
      obtain ⟨h3, h4, h5⟩ := okDs_snocI.mp h1
      exact ⟨es, mem_liD.mpr ⟨h3, by rw [List.length_append, List.length_singleton] at h2; omega⟩, List.mem_map.mpr ⟨d, List.mem_filter.mpr ⟨mem_evD.mpr h4, h5⟩, rfl⟩⟩
end Ly

set_option maxHeartbeats 4000000
namespace Ly
open PySem PySem.Spec PyProof.Rows L2 SX
/-! ### no row stands twice -/
theorem nodup_flat {α : Type} {f : α → List (List α)} : ∀ {xs : List α}, xs.Nodup → (∀ x ∈ xs, (f x).Nodup) → (xs.flatMap fun x => (f x).map (x :: ·)).Nodup
  | [], _, _ => List.nodup_nil
  | x :: xs, h, hf => by
    obtain ⟨h1, h2⟩ := List.nodup_cons.mp h
    rw [List.flatMap_cons]
    refine List.nodup_append.mpr ⟨List.pairwise_map.mpr ((hf x (List.mem_cons_self ..)).imp fun hab e => hab (List.cons.inj e).2), nodup_flat h2 fun y hy => hf y (List.mem_cons_of_mem _ hy), fun a ha b hb e => ?_⟩
    obtain ⟨u, _, rfl⟩ := List.mem_map.mp ha
    obtain ⟨y, hy, hb⟩ := List.mem_flatMap.mp hb
    obtain ⟨w, _, rfl⟩ := List.mem_map.mp hb
    exact h1 ((List.cons.inj e).1 ▸ hy)
theorem brk_nodup : BRK.Nodup := by decide
theorem chS_nodup (W : Wd) (l : List Nat) (i : Nat) : (chS W l i).Nodup := by
  unfold chS
  have hpt : (if W.pt = true then BRK.map Stp.pt else []).Nodup := by
    split
    · exact List.pairwise_map.mpr (brk_nodup.imp fun hab e => hab (by injection e))
    · exact List.nodup_nil
  have hin : ∀ s ∈ (if W.pt = true then BRK.map Stp.pt else []), ∃ c, s = Stp.pt c := fun s hs => by
    split at hs
    · obtain ⟨c, _, rfl⟩ := List.mem_map.mp hs
      exact ⟨c, rfl⟩
    · cases hs
  cases l[i]? with
  | none => rw [List.append_nil]; exact hpt
  | some x =>
    dsimp only
    have h2 : (if x ∈ BRK ∧ W.st = true then [Stp.st x] else []).Nodup := by
      split
      · exact List.nodup_cons.mpr ⟨by simp, List.nodup_nil⟩
      · exact List.nodup_nil
    have i2 : ∀ s ∈ (if x ∈ BRK ∧ W.st = true then [Stp.st x] else []), s = Stp.st x := fun s hs => by
      split at hs
      · exact List.mem_singleton.mp hs
      · cases hs
    have h3 : (if x ∈ BRK ∧ W.tn = true then (BRK.filter (· ≠ x)).map (Stp.tn x) else []).Nodup := by
      split
      · exact List.pairwise_map.mpr ((brk_nodup.filter _).imp fun hab e => hab (by injection e))
      · exact List.nodup_nil
    have i3 : ∀ s ∈ (if x ∈ BRK ∧ W.tn = true then (BRK.filter (· ≠ x)).map (Stp.tn x) else []), ∃ c, s = Stp.tn x c := fun s hs => by
      split at hs
      · obtain ⟨c, _, rfl⟩ := List.mem_map.mp hs
        exact ⟨c, rfl⟩
      · cases hs
    have h4 : ([Stp.kp x] : List Stp).Nodup := List.nodup_cons.mpr ⟨by simp, List.nodup_nil⟩
    refine List.nodup_append.mpr ⟨hpt, List.nodup_append.mpr ⟨h2, List.nodup_append.mpr ⟨h3, h4, fun a ha b hb e => ?_⟩, fun a ha b hb e => ?_⟩, fun a ha b hb e => ?_⟩
    · obtain ⟨c, rfl⟩ := i3 a ha
      rw [List.mem_singleton.mp hb] at e
      cases e
    · rw [i2 a ha] at e
      rcases List.mem_append.mp hb with hb | hb
      · obtain ⟨c, rfl⟩ := i3 b hb
        cases e
      · rw [List.mem_singleton.mp hb] at e
        cases e
    · obtain ⟨c, rfl⟩ := hin a ha
      rcases List.mem_append.mp hb with hb | hb
      · rw [i2 b hb] at e; cases e
      · rcases List.mem_append.mp hb with hb | hb
        · obtain ⟨c', rfl⟩ := i3 b hb
          cases e
        · rw [List.mem_singleton.mp hb] at e
          cases e
theorem rows_nodup {W : Wd} : ∀ (N n : Nat) (r st : List Nat), n + r.length ≤ N → (rowsL W st r n).Nodup := by
  intro N
  induction N with
  | zero =>
    intro n r st h
    have h1 : n = 0 := by omega
    subst h1
    rw [rows_zero]
    split
    · exact List.nodup_cons.mpr ⟨by simp, List.nodup_nil⟩
    · exact List.nodup_nil
  | succ N ih =>
    intro n r st h
    by_cases h0 : 0 = r.length ∧ st = [] ∧ n = 0
    · obtain ⟨h1, h2, rfl⟩ := h0
      rw [rows_zero]
      split
      · exact List.nodup_cons.mpr ⟨by simp, List.nodup_nil⟩
      · exact List.nodup_nil
    · have e := rows_ch (W := W) (l := r) (st := st) (i := 0) (n := n) (Nat.zero_le _) h0
      rw [List.drop_zero] at e
      rw [e]
      refine nodup_flat (chS_nodup W r 0) fun s hs => ?_
      unfold aftS
      split
      · cases nxS st s with
        | none => exact List.nodup_nil
        | some st' =>
          have hin := ch_in hs
          refine ih _ _ _ ?_
          rw [List.length_drop]
          have hc : s.c + s.i.length ≥ 1 := by cases s <;> simp [Stp.c, Stp.i]
          have hl : 0 + s.i.length ≤ r.length := by rw [Nat.zero_max] at hin; exact hin
          omega
      · exact List.nodup_nil
/-! ### the deeds tell the row -/
theorem dd_inj : ∀ (α β : List Stp) (p : Nat), inS α = inS β → ddS p α = ddS p β → α = β
  | [], [], _, _, _ => rfl
  | [], .kp _ :: _, _, h, _ => by cases h
  | [], .st _ :: _, _, h, _ => by cases h
  | [], .tn _ _ :: _, _, h, _ => by cases h
  | [], .pt _ :: _, _, _, h => by cases h
  | .kp _ :: _, [], _, h, _ => by cases h
  | .st _ :: _, [], _, h, _ => by cases h
  | .tn _ _ :: _, [], _, h, _ => by cases h
  | .pt _ :: _, [], _, _, h => by cases h
  | .kp c :: α, .kp d :: β, p, h1, h2 => by
    have h1' : c :: inS α = d :: inS β := h1
    rw [(List.cons.inj h1').1, dd_inj α β (p + 1) (List.cons.inj h1').2 h2]
  | .st c :: α, .st d :: β, p, h1, h2 => by
    have h1' : c :: inS α = d :: inS β := h1
    have h2' : (p, Dw.str) :: ddS (p + 1) α = (p, Dw.str) :: ddS (p + 1) β := h2
    rw [(List.cons.inj h1').1, dd_inj α β (p + 1) (List.cons.inj h1').2 (List.cons.inj h2').2]
  | .tn c e :: α, .tn d f :: β, p, h1, h2 => by
    have h1' : c :: inS α = d :: inS β := h1
    have h2' : (p, Dw.trn e) :: ddS (p + 1) α = (p, Dw.trn f) :: ddS (p + 1) β := h2
    have he : e = f := by have := (List.cons.inj h2').1; injection this with _ h; injection h
    rw [(List.cons.inj h1').1, he, dd_inj α β (p + 1) (List.cons.inj h1').2 (List.cons.inj h2').2]
  | .pt c :: α, .pt d :: β, p, h1, h2 => by
    have h2' : (p, Dw.put c) :: ddS p α = (p, Dw.put d) :: ddS p β := h2
    have he : c = d := by have := (List.cons.inj h2').1; injection this with _ h; injection h
    rw [he, dd_inj α β p h1 (List.cons.inj h2').2]
  | .kp c :: α, .st d :: β, p, _, h2 => by
    exfalso
    have h2' : ddS (p + 1) α = (p, Dw.str) :: ddS (p + 1) β := h2
    have := dd_low α (p + 1) (p, Dw.str) (by rw [h2']; exact List.mem_cons_self ..)
    exact absurd this (by show ¬ p + 1 ≤ p; omega)
  | .kp c :: α, .tn d e :: β, p, _, h2 => by
    exfalso
    have h2' : ddS (p + 1) α = (p, Dw.trn e) :: ddS (p + 1) β := h2
    have := dd_low α (p + 1) (p, Dw.trn e) (by rw [h2']; exact List.mem_cons_self ..)
    exact absurd this (by show ¬ p + 1 ≤ p; omega)
  | .kp c :: α, .pt d :: β, p, _, h2 => by
    exfalso
    have h2' : ddS (p + 1) α = (p, Dw.put d) :: ddS p β := h2
    have := dd_low α (p + 1) (p, Dw.put d) (by rw [h2']; exact List.mem_cons_self ..)
    exact absurd this (by show ¬ p + 1 ≤ p; omega)
  | .st d :: β, .kp c :: α, p, _, h2 => by
    exfalso
    have h2' : (p, Dw.str) :: ddS (p + 1) β = ddS (p + 1) α := h2
    have := dd_low α (p + 1) (p, Dw.str) (by rw [← h2']; exact List.mem_cons_self ..)
    exact absurd this (by show ¬ p + 1 ≤ p; omega)
  | .tn d e :: β, .kp c :: α, p, _, h2 => by
    exfalso
    have h2' : (p, Dw.trn e) :: ddS (p + 1) β = ddS (p + 1) α := h2
    have := dd_low α (p + 1) (p, Dw.trn e) (by rw [← h2']; exact List.mem_cons_self ..)
    exact absurd this (by show ¬ p + 1 ≤ p; omega)
  | .pt d :: β, .kp c :: α, p, _, h2 => by
    exfalso
    have h2' : (p, Dw.put d) :: ddS p β = ddS (p + 1) α := h2
    have := dd_low α (p + 1) (p, Dw.put d) (by rw [← h2']; exact List.mem_cons_self ..)
    exact absurd this (by show ¬ p + 1 ≤ p; omega)
  | .st c :: α, .tn d e :: β, p, _, h2 => by cases (List.cons.inj (show (p, Dw.str) :: ddS (p + 1) α = (p, Dw.trn e) :: ddS (p + 1) β from h2)).1
  | .st c :: α, .pt d :: β, p, _, h2 => by cases (List.cons.inj (show (p, Dw.str) :: ddS (p + 1) α = (p, Dw.put d) :: ddS p β from h2)).1
  | .tn c e :: α, .st d :: β, p, _, h2 => by cases (List.cons.inj (show (p, Dw.trn e) :: ddS (p + 1) α = (p, Dw.str) :: ddS (p + 1) β from h2)).1
  | .tn c e :: α, .pt d :: β, p, _, h2 => by cases (List.cons.inj (show (p, Dw.trn e) :: ddS (p + 1) α = (p, Dw.put d) :: ddS p β from h2)).1
  | .pt c :: α, .st d :: β, p, _, h2 => by cases (List.cons.inj (show (p, Dw.put c) :: ddS p α = (p, Dw.str) :: ddS (p + 1) β from h2)).1
  | .pt c :: α, .tn d e :: β, p, _, h2 => by cases (List.cons.inj (show (p, Dw.put c) :: ddS p α = (p, Dw.trn e) :: ddS (p + 1) β from h2)).1
theorem nodup_at {α : Type} {xs : List α} (h : xs.Nodup) {i j : Nat} {x : α} (h1 : xs[i]? = some x) (h2 : xs[j]? = some x) : i = j := by
  obtain ⟨hi, e1⟩ := List.getElem?_eq_some_iff.mp h1
  obtain ⟨hj, e2⟩ := List.getElem?_eq_some_iff.mp h2
  have hp := List.pairwise_iff_getElem.mp h
  rcases Nat.lt_trichotomy i j with hlt | rfl | hlt
  · exact absurd (e1.trans e2.symm) (hp i j hi hj hlt)
  · rfl
  · exact absurd (e2.trans e1.symm) (hp j i hj hi hlt)
/-- a list of deeds has one number at most -/
theorem num_uniq {W : Wd} {l : List Nat} {n k k' : Nat} {α α' : List Stp} (h : (rowsL W [] l n)[k]? = some α) (h' : (rowsL W [] l n)[k']? = some α') (e : ddS 0 α = ddS 0 α') : k = k' := by
  have r1 := mem_rows.mp (List.mem_of_getElem? h)
  have r2 := mem_rows.mp (List.mem_of_getElem? h')
  have : α = α' := dd_inj α α' 0 (r1.tx.trans r2.tx.symm) e
  subst this
  exact nodup_at (rows_nodup _ n l [] (Nat.le_refl _)) h h'
/-- two deeds alike -/
theorem dw_inj {a b : Dw} (h1 : a.w = b.w) (h2 : a.s = b.s) : a = b := by
  cases a <;> cases b <;> first | rfl | (simp [Dw.w] at h1; done) | (simp [Dw.s] at h2; rw [h2])
/-! ### which choice deeds go on by -/
def chosB (i : Nat) (rest : List Deed) (s : Stp) : Bool := match s with
  | .kp _ => (match rest with | [] => true | d :: _ => decide (i < d.1))
  | s => (match rest with | [] => false | d :: _ => decide (d = (i, dwS s)))
theorem chos_head {W : Wd} {l : List Nat} {i : Nat} {s0 s : Stp} {β : List Stp} (h0 : s0 ∈ chS W l i) (h : s ∈ chS W l i) : chosB i (ddS i (s0 :: β)) s = decide (s = s0) := by
  have key : ∀ s ∈ chS W l i, (∀ x c, s = .tn x c → l[i]? = some x) ∧ (∀ x, s = .st x → l[i]? = some x) ∧ (∀ x, s = .kp x → l[i]? = some x) := fun s hs => by
    unfold chS at hs
    rcases List.mem_append.mp hs with hs | hs
    · split at hs
      · obtain ⟨c, _, rfl⟩ := List.mem_map.mp hs
        exact ⟨fun _ _ e => (nomatch e), fun _ e => (nomatch e), fun _ e => (nomatch e)⟩
      · cases hs
    · cases hx : l[i]? with
      | none => rw [hx] at hs; cases hs
      | some x =>
        rw [hx] at hs
        dsimp only at hs
        rcases List.mem_append.mp hs with hs | hs
        · split at hs
          · rw [List.mem_singleton.mp hs]
            exact ⟨fun _ _ e => (nomatch e), fun _ e => by cases e; rfl, fun _ e => (nomatch e)⟩
          · cases hs
        · rcases List.mem_append.mp hs with hs | hs
          · split at hs
            · obtain ⟨c, _, rfl⟩ := List.mem_map.mp hs
              exact ⟨fun _ _ e => by cases e; rfl, fun _ e => (nomatch e), fun _ e => (nomatch e)⟩
            · cases hs
          · rw [List.mem_singleton.mp hs]
            exact ⟨fun _ _ e => (nomatch e), fun _ e => (nomatch e), fun _ e => by cases e; rfl⟩
  obtain ⟨a1, a2, a3⟩ := key s0 h0
  obtain ⟨b1, b2, b3⟩ := key s h
  cases s0 with
  | kp x =>
    have hx := a3 x rfl
    have hlow : ∀ d ∈ ddS (i + 1) β, i + 1 ≤ d.1 := dd_low β (i + 1)
    show chosB i (ddS (i + 1) β) s = _
    cases s with
    | kp y =>
      have hy := b3 y rfl
      rw [hx] at hy
      cases hy
      rw [decide_eq_true rfl]
      unfold chosB
      dsimp only
      cases hd : ddS (i + 1) β with
      | nil => rfl
      | cons d r => exact decide_eq_true (by have := hlow d (by rw [hd]; exact List.mem_cons_self ..); omega)
    | st y =>
      unfold chosB
      dsimp only
      cases hd : ddS (i + 1) β with
      | nil => rfl
      | cons d r =>
        have := hlow d (by rw [hd]; exact List.mem_cons_self ..)
        have : ¬ d = (i, dwS (.st y)) := fun e => by rw [e] at this; exact absurd this (by show ¬ i + 1 ≤ i; omega)
        simp [this]
    | tn y c =>
      unfold chosB
      dsimp only
      cases hd : ddS (i + 1) β with
      | nil => rfl
      | cons d r =>
        have := hlow d (by rw [hd]; exact List.mem_cons_self ..)
        have : ¬ d = (i, dwS (.tn y c)) := fun e => by rw [e] at this; exact absurd this (by show ¬ i + 1 ≤ i; omega)
        simp [this]
    | pt c =>
      unfold chosB
      dsimp only
      cases hd : ddS (i + 1) β with
      | nil => rfl
      | cons d r =>
        have := hlow d (by rw [hd]; exact List.mem_cons_self ..)
        have : ¬ d = (i, dwS (.pt c)) := fun e => by rw [e] at this; exact absurd this (by show ¬ i + 1 ≤ i; omega)
        simp [this]
  | st x =>
    have hx := a2 x rfl
    cases s with
    | kp y => show decide (i < i) = _; simp
    | st y =>
      have hy := b2 y rfl
      rw [hx] at hy
      cases hy
      show decide ((i, Dw.str) = (i, Dw.str)) = _
      simp
    | tn y c => show decide ((i, Dw.str) = (i, Dw.trn c)) = _; simp
    | pt c => show decide ((i, Dw.str) = (i, Dw.put c)) = _; simp
  | tn x e =>
    have hx := a1 x e rfl
    cases s with
    | kp y => show decide (i < i) = _; simp
    | st y => show decide ((i, Dw.trn e) = (i, Dw.str)) = _; simp
    | tn y c =>
      have hy := b1 y c rfl
      rw [hx] at hy
      cases hy
      show decide ((i, Dw.trn e) = (i, Dw.trn c)) = _
      by_cases h : e = c
      · subst h; simp
      · have : ¬ c = e := fun q => h q.symm
        simp [h, this]
    | pt c => show decide ((i, Dw.trn e) = (i, Dw.put c)) = _; simp
  | pt e =>
    cases s with
    | kp y => show decide (i < i) = _; simp
    | st y => show decide ((i, Dw.put e) = (i, Dw.str)) = _; simp
    | tn y c => show decide ((i, Dw.put e) = (i, Dw.trn c)) = _; simp
    | pt c =>
      show decide ((i, Dw.put e) = (i, Dw.put c)) = _
      by_cases h : e = c
      · subst h; simp
      · have : ¬ c = e := fun q => h q.symm
        simp [h, this]
end Ly

set_option maxHeartbeats 4000000
namespace Ly
open PySem PySem.Spec PyProof.Rows L2 SX
/-! ### lists of deeds: which comes first -/
def rLtD (K : PySem.W.Frag) : R2 := fun x y H Q => ∃ d e, Dp K H x d ∧ Dp K H y e ∧ PySem.W.alike d e = true ∧ d ≠ .none ∧ SeqAt.shaped d = true ∧ Q (.bl (PySem.W.dataLt d e)) H
theorem op_ltD {X : Cx} (hu : X.A.units + 64 < cLine) : OpR X (compareOp .Lt) (rLtD X.K) := by
  intro pins s σ H x y v u Q I rx ry h
  obtain ⟨d, e, hd, he, ha, hn, sd, q⟩ := h
  obtain ⟨as, r1⟩ := Dp.reads I d x v hd rx
  obtain ⟨bs, r2⟩ := Dp.reads I e y u he ry
  have hdep : d.depth ≤ 64 := by unfold SeqAt.shaped at sd; rw [Bool.and_eq_true] at sd; exact of_decide_eq_true sd.2
  have hm : min d.depth e.depth ≤ d.depth := Nat.min_le_left _ _
  exact PySem.W.rcLt_alike d e X.A s v u as bs r1 r2 ha hn (by omega) X.prog X.w _ _ ⟨.bl _, H, I, rfl, q⟩
theorem eqv_dd0 (a b : Deed) : PyData.eqv (ddD a) (ddD b) = decide (a = b) := by
  have e : PyData.eqv (ddD a) (ddD b) = (((a.1 : Int) == (b.1 : Int)) && ((S a.2.w == S b.2.w) && ((S a.2.s == S b.2.s) && true))) := rfl
  rw [e]
  by_cases h : a = b
  · subst h; simp
  · rw [decide_eq_false h]
    refine Bool.eq_false_iff.mpr fun hc => h ?_
    rw [Bool.and_eq_true, Bool.and_eq_true, Bool.and_eq_true] at hc
    obtain ⟨h1, h2, h3, _⟩ := hc
    have e1 : a.1 = b.1 := by have := eq_of_beq h1; omega
    have e2 := S_inj (eq_of_beq h2)
    have e3 := S_inj (eq_of_beq h3)
    obtain ⟨x, y⟩ := a
    obtain ⟨z, w⟩ := b
    rw [show x = z from e1, show y = w from dw_inj e2 e3]
theorem alike_dd (a b : Deed) : PySem.W.alike (ddD a) (ddD b) = true := rfl
theorem alike_dds : ∀ a b : List Deed, PySem.W.alikeAll (a.map ddD) (b.map ddD) = true
  | [], _ => rfl
  | _ :: _, [] => rfl
  | x :: a, y :: b => by
    rw [List.map_cons, List.map_cons, PySem.W.alikeAll, alike_dd, alike_dds a b]
    rfl
def ltDs (a b : List Deed) : Prop := PySem.W.dataLt (ddsD a) (ddsD b) = true
theorem ltDs_same {d : Deed} {a b : List Deed} (h : ltDs a b) : ltDs (d :: a) (d :: b) := by
  unfold ltDs ddsD at *
  rw [PySem.W.dataLt_list] at *
  rw [List.map_cons, List.map_cons, PySem.W.dataLt_all_yes (alike_dd d d) (by rw [eqv_dd0]; simp)]
  exact h
theorem ltDs_less {d e : Deed} {a b : List Deed} (hne : d ≠ e) (h : PySem.W.dataLt (ddD d) (ddD e) = true) : ltDs (d :: a) (e :: b) := by
  unfold ltDs ddsD
  rw [PySem.W.dataLt_list, List.map_cons, List.map_cons, PySem.W.dataLt_all_no (alike_dd d e) (by rw [eqv_dd0]; simp [hne])]
  exact h
theorem lt_place {p q : Nat} {v w : Dw} (h : p < q) : PySem.W.dataLt (ddD (p, v)) (ddD (q, w)) = true := by
  unfold ddD
  rw [PySem.W.dataLt_tuple, PySem.W.dataLt_all_no rfl (by show ((p : Int) == (q : Int)) = false; exact beq_eq_false_iff_ne.mpr (by omega)), PySem.W.dataLt_int]
  exact decide_eq_true (by show (p : Int) < (q : Int); omega)
theorem S_list (l : List Nat) : (S l).cps.toList = l := by simp
theorem lt_word {p : Nat} {v w : Dw} (h : v.w < w.w) (hne : v.w ≠ w.w) : PySem.W.dataLt (ddD (p, v)) (ddD (p, w)) = true := by
  unfold ddD
  rw [PySem.W.dataLt_tuple, PySem.W.dataLt_all_yes rfl (by show ((p : Int) == (p : Int)) = true; simp), PySem.W.dataLt_all_no rfl (by show (S v.w == S w.w) = false; exact beq_eq_false_iff_ne.mpr (fun e => hne (S_inj e))), PySem.W.dataLt_str]
  exact decide_eq_true (by rw [S_list, S_list]; exact h)
theorem lt_sign {p : Nat} {v w : Dw} (h1 : v.w = w.w) (h : v.s < w.s) (hne : v.s ≠ w.s) : PySem.W.dataLt (ddD (p, v)) (ddD (p, w)) = true := by
  unfold ddD
  rw [PySem.W.dataLt_tuple, PySem.W.dataLt_all_yes rfl (by show ((p : Int) == (p : Int)) = true; simp), PySem.W.dataLt_all_yes rfl (by show (S v.w == S w.w) = true; rw [h1]; simp), PySem.W.dataLt_all_no rfl (by show (S v.s == S w.s) = false; exact beq_eq_false_iff_ne.mpr (fun e => hne (S_inj e))), PySem.W.dataLt_str]
  exact decide_eq_true (by rw [S_list, S_list]; exact h)
/-! the choices rise -/
def chLt (i : Nat) (s s' : Stp) : Prop := s.c = 1 ∧ (s'.c = 1 → (i, dwS s) ≠ (i, dwS s') ∧ PySem.W.dataLt (ddD (i, dwS s)) (ddD (i, dwS s')) = true)
theorem brk_rise : BRK.Pairwise (· < ·) := by decide
theorem one_lt {c d : Nat} (h : c < d) : ([c] : List Nat) < [d] := List.Lex.rel h
theorem chS_rise (W : Wd) (l : List Nat) (i : Nat) : (chS W l i).Pairwise (chLt i) := by
  unfold chS
  have hpt : (if W.pt = true then BRK.map Stp.pt else []).Pairwise (chLt i) := by
    split
    · refine List.pairwise_map.mpr (brk_rise.imp fun {c d} hab => ⟨rfl, fun _ => ⟨fun e => by cases e; omega, lt_sign rfl (one_lt hab) (fun e => by cases e; omega)⟩⟩)
    · exact List.Pairwise.nil
  have hin : ∀ s ∈ (if W.pt = true then BRK.map Stp.pt else []), ∃ c, s = Stp.pt c := fun s hs => by
    split at hs
    · obtain ⟨c, _, rfl⟩ := List.mem_map.mp hs
      exact ⟨c, rfl⟩
    · cases hs
  cases l[i]? with
  | none => rw [List.append_nil]; exact hpt
  | some x =>
    dsimp only
    have h2 : (if x ∈ BRK ∧ W.st = true then [Stp.st x] else []).Pairwise (chLt i) := by
      split
      · exact List.pairwise_singleton _ _
      · exact List.Pairwise.nil
    have i2 : ∀ s ∈ (if x ∈ BRK ∧ W.st = true then [Stp.st x] else []), s = Stp.st x := fun s hs => by
      split at hs
      · exact List.mem_singleton.mp hs
      · cases hs
    have h3 : (if x ∈ BRK ∧ W.tn = true then (BRK.filter (· ≠ x)).map (Stp.tn x) else []).Pairwise (chLt i) := by
      split
      · refine List.pairwise_map.mpr ((brk_rise.filter _).imp fun {c d} hab => ⟨rfl, fun _ => ⟨fun e => by cases e; omega, lt_sign rfl (one_lt hab) (fun e => by cases e; omega)⟩⟩)
      · exact List.Pairwise.nil
    have i3 : ∀ s ∈ (if x ∈ BRK ∧ W.tn = true then (BRK.filter (· ≠ x)).map (Stp.tn x) else []), ∃ c, s = Stp.tn x c := fun s hs => by
      split at hs
      · obtain ⟨c, _, rfl⟩ := List.mem_map.mp hs
        exact ⟨c, rfl⟩
      · cases hs
    have w1 : ∀ c, (Dw.put c).w < Dw.str.w ∧ (Dw.put c).w ≠ Dw.str.w := fun c => by show ([112, 117, 116] : List Nat) < [115, 116, 114, 105, 107, 101] ∧ ([112, 117, 116] : List Nat) ≠ [115, 116, 114, 105, 107, 101]; decide
    have w2 : ∀ c d, (Dw.put c).w < (Dw.trn d).w ∧ (Dw.put c).w ≠ (Dw.trn d).w := fun c d => by show ([112, 117, 116] : List Nat) < [116, 117, 114, 110] ∧ ([112, 117, 116] : List Nat) ≠ [116, 117, 114, 110]; decide
    have w3 : ∀ d, Dw.str.w < (Dw.trn d).w ∧ Dw.str.w ≠ (Dw.trn d).w := fun d => by show ([115, 116, 114, 105, 107, 101] : List Nat) < [116, 117, 114, 110] ∧ ([115, 116, 114, 105, 107, 101] : List Nat) ≠ [116, 117, 114, 110]; decide
    refine List.pairwise_append.mpr ⟨hpt, List.pairwise_append.mpr ⟨h2, List.pairwise_append.mpr ⟨h3, List.pairwise_singleton _ _, fun a ha b hb => ?_⟩, fun a ha b hb => ?_⟩, fun a ha b hb => ?_⟩
    · obtain ⟨c, rfl⟩ := i3 a ha
      rw [List.mem_singleton.mp hb]
      exact ⟨rfl, fun h => by cases h⟩
    · rw [i2 a ha]
      rcases List.mem_append.mp hb with hb | hb
      · obtain ⟨c, rfl⟩ := i3 b hb
        exact ⟨rfl, fun _ => ⟨(fun e => by cases e), lt_word (w3 c).1 (w3 c).2⟩⟩
      · rw [List.mem_singleton.mp hb]
        exact ⟨rfl, fun h => by cases h⟩
    · obtain ⟨c, rfl⟩ := hin a ha
      rcases List.mem_append.mp hb with hb | hb
      · rw [i2 b hb]
        exact ⟨rfl, fun _ => ⟨(fun e => by cases e), lt_word (w1 c).1 (w1 c).2⟩⟩
      · rcases List.mem_append.mp hb with hb | hb
        · obtain ⟨d, rfl⟩ := i3 b hb
          exact ⟨rfl, fun _ => ⟨(fun e => by cases e), lt_word (w2 c d).1 (w2 c d).2⟩⟩
        · rw [List.mem_singleton.mp hb]
          exact ⟨rfl, fun h => by cases h⟩
theorem ddS_step (s : Stp) (β : List Stp) (i : Nat) : ddS i (s :: β) = (if s.c = 1 then [(i, dwS s)] else []) ++ ddS (i + s.i.length) β := by
  cases s <;> rfl
theorem pair_flat {α β : Type} {R : β → β → Prop} {T : α → α → Prop} {f : α → List β} : ∀ {xs : List α}, xs.Pairwise T → (∀ x ∈ xs, (f x).Pairwise R) → (∀ x y, T x y → x ∈ xs → y ∈ xs → ∀ a ∈ f x, ∀ b ∈ f y, R a b) → (xs.flatMap f).Pairwise R
  | [], _, _, _ => List.Pairwise.nil
  | x :: xs, h, h1, h2 => by
    obtain ⟨g1, g2⟩ := List.pairwise_cons.mp h
    rw [List.flatMap_cons]
    refine List.pairwise_append.mpr ⟨h1 x (List.mem_cons_self ..), pair_flat g2 (fun y hy => h1 y (List.mem_cons_of_mem _ hy)) (fun y z t hy hz => h2 y z t (List.mem_cons_of_mem _ hy) (List.mem_cons_of_mem _ hz)), fun a ha b hb => ?_⟩
    obtain ⟨y, hy, hb⟩ := List.mem_flatMap.mp hb
    exact h2 x y (g1 y hy) (List.mem_cons_self ..) (List.mem_cons_of_mem _ hy) a ha b hb
/-- the rows rise -/
theorem rows_rise {W : Wd} : ∀ (N n : Nat) (r st : List Nat) (p : Nat), n + r.length ≤ N → (rowsL W st r n).Pairwise fun α β => ltDs (ddS p α) (ddS p β) := by
  intro N
  induction N with
  | zero =>
    intro n r st p h
    have h1 : n = 0 := by omega
    subst h1
    rw [rows_zero]
    split
    · exact List.pairwise_singleton _ _
    · exact List.Pairwise.nil
  | succ N ih =>
    intro n r st p h
    by_cases h0 : 0 = r.length ∧ st = [] ∧ n = 0
    · obtain ⟨h1, h2, rfl⟩ := h0
      rw [rows_zero]
      split
      · exact List.pairwise_singleton _ _
      · exact List.Pairwise.nil
    · have e := rows_ch (W := W) (l := r) (st := st) (i := 0) (n := n) (Nat.zero_le _) h0
      rw [List.drop_zero] at e
      rw [e]
      have hmemS : ∀ s ∈ chS W r 0, ∀ γ ∈ (aftS W st r 0 n s).map (s :: ·), cstS γ = n := fun s hs γ hγ => by
        have : γ ∈ rowsL W st r n := by rw [e]; exact List.mem_flatMap.mpr ⟨s, hs, hγ⟩
        exact (mem_rows.mp this).ct
      refine pair_flat (chS_rise W r 0) (fun s hs => ?_) (fun s s' t hs hs' a ha b hb => ?_)
      · refine List.pairwise_map.mpr ?_
        have hin := ch_in hs
        have hc : s.c + s.i.length ≥ 1 := by cases s <;> simp [Stp.c, Stp.i]
        have hl : 0 + s.i.length ≤ r.length := by rw [Nat.zero_max] at hin; exact hin
        unfold aftS
        split
        · cases nxS st s with
          | none => exact List.Pairwise.nil
          | some st' =>
            refine (ih (n - s.c) (r.drop (0 + s.i.length)) st' (p + s.i.length) (by rw [List.length_drop]; omega)).imp fun {a b} hab => ?_
            rw [ddS_step, ddS_step]
            by_cases hs1 : s.c = 1
            · rw [if_pos hs1]; exact ltDs_same hab
            · rw [if_neg hs1]; exact hab
        · exact List.Pairwise.nil
      · have ca := hmemS s hs a ha
        have cb := hmemS s' hs' b hb
        obtain ⟨a', ha', rfl⟩ := List.mem_map.mp ha
        obtain ⟨b', hb', rfl⟩ := List.mem_map.mp hb
        rw [ddS_step, ddS_step, if_pos t.1]
        by_cases hs1 : s'.c = 1
        · rw [if_pos hs1]
          obtain ⟨t1, t2⟩ := t.2 hs1
          refine ltDs_less (fun e => t1 ?_) ?_
          · have : dwS s = dwS s' := by injection e
            rw [this]
          · by_cases hw : (dwS s).w = (dwS s').w
            · -- by the sign
              have key := t2
              unfold ddD at key ⊢
              rw [PySem.W.dataLt_tuple] at key ⊢
              rw [PySem.W.dataLt_all_yes rfl (by show ((0 : Int) == (0 : Int)) = true; rfl)] at key
              rw [PySem.W.dataLt_all_yes rfl (by show ((p : Int) == (p : Int)) = true; simp)]
              exact key
            · have key := t2
              unfold ddD at key ⊢
              rw [PySem.W.dataLt_tuple] at key ⊢
              rw [PySem.W.dataLt_all_yes rfl (by show ((0 : Int) == (0 : Int)) = true; rfl)] at key
              rw [PySem.W.dataLt_all_yes rfl (by show ((p : Int) == (p : Int)) = true; simp)]
              exact key
        · rw [if_neg hs1]
          have hk : ∃ x, s' = .kp x := by
            cases s' with
            | kp x => exact ⟨x, rfl⟩
            | st x => exact absurd rfl hs1
            | tn x y => exact absurd rfl hs1
            | pt x => exact absurd rfl hs1
          obtain ⟨x, rfl⟩ := hk
          have hn1 : 1 ≤ n := by
            rw [← ca]
            have : cstS (s :: a') = cstS a' + s.c := by cases s <;> simp [cstS, Stp.c]
            rw [this, t.1]
            omega
          have cb' : cstS b' = n := cb
          have hlen : (ddS (p + 1) b').length = n := by rw [dd_cst, cb']
          show ltDs ([(p, dwS s)] ++ ddS (p + s.i.length) a') (ddS (p + 1) b')
          cases hd : ddS (p + 1) b' with
          | nil => rw [hd] at hlen; simp at hlen; omega
          | cons d ds =>
            have hlow := dd_low b' (p + 1) d (by rw [hd]; exact List.mem_cons_self ..)
            obtain ⟨q, w⟩ := d
            have hq : p + 1 ≤ q := hlow
            exact ltDs_less (fun e => by cases e; omega) (lt_place (by omega))
/-- a greater number is a later list -/
theorem num_rise {W : Wd} {l : List Nat} {n k k' : Nat} {α α' : List Stp} (h : (rowsL W [] l n)[k]? = some α) (h' : (rowsL W [] l n)[k']? = some α') (hk : k < k') : ltDs (ddS 0 α) (ddS 0 α') := by
  obtain ⟨h1, e1⟩ := List.getElem?_eq_some_iff.mp h
  obtain ⟨h2, e2⟩ := List.getElem?_eq_some_iff.mp h'
  have := List.pairwise_iff_getElem.mp (rows_rise (W := W) _ n l [] 0 (Nat.le_refl _)) k k' h1 h2 hk
  rw [e1, e2] at this
  exact this
/-! list(..), tuple(..) by names -/
def rListOf (K : PySem.W.Frag) : List V → Hp → VK → Prop := fun xs H Q => ∃ p ys, xs = [.ref p] ∧ (SqL K H p ys ∨ SqT K H p ys) ∧ ∀ l, H l = none → Q (.ref l) (upd H l (.lst ys))
theorem call_listOf {X : Cx} : CallR X (.type "list") (rListOf X.K) := call_list_of
def rTupleOf (K : PySem.W.Frag) : List V → Hp → VK → Prop := fun xs H Q => ∃ p ys, xs = [.ref p] ∧ ((SqL K H p ys ∧ ∀ l, H l = none → Q (.ref l) (upd H l (.tup ys))) ∨ (SqT K H p ys ∧ Q (.ref p) H))
theorem call_tupleOf {X : Cx} : CallR X (.type "tuple") (rTupleOf X.K) := call_tuple_of
theorem g_listOfL {K : PySem.W.Frag} {H : Hp} {Q : VK} {p : Addr} {ys : List V} (h : H p = some (.lst ys)) (q : ∀ l H1, H l = none → Same H H1 → H1 l = some (.lst ys) → Q (.ref l) H1) : rListOf K [.ref p] H Q := ⟨p, ys, rfl, .inl (sq_of h), fun l nl => q l _ nl (Same.new nl) upd_same⟩
theorem g_listOfT {K : PySem.W.Frag} {H : Hp} {Q : VK} {p : Addr} {ys : List V} (h : H p = some (.tup ys)) (q : ∀ l H1, H l = none → Same H H1 → H1 l = some (.lst ys) → Q (.ref l) H1) : rListOf K [.ref p] H Q := ⟨p, ys, rfl, .inr (st_of h), fun l nl => q l _ nl (Same.new nl) upd_same⟩
theorem g_tupleOfL {K : PySem.W.Frag} {H : Hp} {Q : VK} {p : Addr} {ys : List V} (h : H p = some (.lst ys)) (q : ∀ l H1, H l = none → Same H H1 → H1 l = some (.tup ys) → Q (.ref l) H1) : rTupleOf K [.ref p] H Q := ⟨p, ys, rfl, .inl ⟨sq_of h, fun l nl => q l _ nl (Same.new nl) upd_same⟩⟩
/-! dicts of whole numbers, as sets -/
def kT (k : Int) : Key × V := (.inl k, .bl true)
theorem putK_kT (ks : List Int) (k : Int) : putK (ks.map kT) (.inl k) (.bl true) = (if k ∈ ks then ks else ks ++ [k]).map kT := by
  induction ks with
  | nil => rfl
  | cons x ks ih =>
    rw [List.map_cons]
    by_cases h : x = k
    · subst h
      rw [if_pos (List.mem_cons_self ..)]
      simp [putK, kT]
    · have hne : ¬ (Sum.inl x : Key) = Sum.inl k := fun e => h (by injection e)
      have e1 : putK (kT x :: ks.map kT) (.inl k) (.bl true) = kT x :: putK (ks.map kT) (.inl k) (.bl true) := by
        simp [putK, kT, hne]
        split <;> rfl
      rw [e1, ih]
      by_cases hk : k ∈ ks
      · rw [if_pos hk, if_pos (List.mem_cons_of_mem _ hk)]; rfl
      · have : ¬ k ∈ x :: ks := fun q => (List.mem_cons.mp q).elim (fun e => h e.symm) hk
        rw [if_neg hk, if_neg this]; rfl
theorem ins_nodup {ks : List Int} {k : Int} (h : ks.Nodup) : (if k ∈ ks then ks else ks ++ [k]).Nodup := by
  split
  · exact h
  · rename_i hk
    refine List.nodup_append.mpr ⟨h, List.nodup_cons.mpr ⟨by simp, List.nodup_nil⟩, fun a ha b hb e => hk ?_⟩
    rw [← List.mem_singleton.mp hb, ← e]; exact ha
theorem ins_len (ks : List Int) (k : Int) : (if k ∈ ks then ks else ks ++ [k]).length ≤ ks.length + 1 := by
  split
  · omega
  · rw [List.length_append]; exact Nat.le_refl _
theorem ins_all {P : Int → Prop} {ks : List Int} {k : Int} (h : ∀ x ∈ ks, P x) (hk : P k) : ∀ x ∈ (if k ∈ ks then ks else ks ++ [k]), P x := by
  split
  · exact h
  · intro x hx
    rcases List.mem_append.mp hx with hx | hx
    · exact h x hx
    · rw [List.mem_singleton.mp hx]; exact hk
theorem sorted_lt {ys ks : List Int} (hp : ys.Perm ks) (hn : ks.Nodup) (hs : ys.Pairwise (· ≤ ·)) : ys.Pairwise (· < ·) := by
  have hn' : ys.Nodup := hp.symm.nodup hn
  exact (hs.and hn').imp fun h => by omega
end Ly

set_option maxHeartbeats 4000000
namespace Ly
open PySem PySem.Spec PyProof.Rows L2 SX
section
variable {K : PySem.W.Frag} {σ : L2.St} {H : Hp} {g : TG} {tb : TS} {D : Ends} {a b : Addr} {xs ys : List V}
/-- for x, y in zip of two tuples -/
theorem for_zipTT (Pv : Nat → L2.St → Hp → Prop) (hl : xs.length = ys.length) (h0 : Pv 0 σ H) (hq : ∀ i σ H, Pv i σ H → SqT K H a xs ∧ SqT K H b ys)
    (hs : ∀ i x y σ H t H1, xs[i]? = some x → ys[i]? = some y → Pv i σ H → H t = none → Same H H1 → H1 t = some (.tup [x, y]) → g (.ref t) σ H1 fun σ2 H2 => tb { D with nx := Pv (i + 1), ct := Pv (i + 1), bk := D.nx } σ2 H2) (hd : ∀ σ H, Pv xs.length σ H → D.nx σ H) : ForR (RZ.ItzT K a b) g tb D σ H :=
  RZ.for_zipT hl Pv h0 hq (fun i x y T σ H h1 h2 p nT => hs i x y σ H T _ h1 h2 p nT (Same.new nT) upd_same) hd
end
/-! ### the lists of deeds rise, one by one -/
theorem ltDs_irr (a : List Deed) : ¬ ltDs a a := fun h => by
  unfold ltDs PySem.W.dataLt at h
  rw [lex_irrefl] at h
  cases h
theorem ltDs_tr {a b c : List Deed} (h : ltDs a b) (g : ltDs b c) : ltDs a c := lex_trans _ _ _ h g
theorem sorted_same {α : Type} {R : α → α → Prop} (irr : ∀ a, ¬ R a a) (tr : ∀ a b c, R a b → R b c → R a c) : ∀ {xs ys : List α}, xs.Pairwise R → ys.Pairwise R → (∀ z, z ∈ xs ↔ z ∈ ys) → xs = ys
  | [], [], _, _, _ => rfl
  | [], y :: ys, _, _, h => absurd ((h y).mpr (List.mem_cons_self ..)) (by simp)
  | x :: xs, [], _, _, h => absurd ((h x).mp (List.mem_cons_self ..)) (by simp)
  | x :: xs, y :: ys, hx, hy, h => by
    obtain ⟨hx1, hx2⟩ := List.pairwise_cons.mp hx
    obtain ⟨hy1, hy2⟩ := List.pairwise_cons.mp hy
    have exy : x = y := by
      rcases List.mem_cons.mp ((h x).mp (List.mem_cons_self ..)) with e | e
      · exact e
      rcases List.mem_cons.mp ((h y).mpr (List.mem_cons_self ..)) with e' | e'
      · exact e'.symm
      exact absurd (tr _ _ _ (hx1 _ e') (hy1 _ e)) (irr _)
    subst exy
    refine congrArg (x :: ·) (sorted_same irr tr hx2 hy2 fun z => ?_)
    constructor
    · intro hz
      rcases List.mem_cons.mp ((h z).mp (List.mem_cons_of_mem _ hz)) with e | e
      · exact absurd (e ▸ hx1 z hz) (irr _)
      · exact e
    · intro hz
      rcases List.mem_cons.mp ((h z).mpr (List.mem_cons_of_mem _ hz)) with e | e
      · exact absurd (e ▸ hy1 z hz) (irr _)
      · exact e
def ltDd (d e : Deed) : Prop := d ≠ e ∧ PySem.W.dataLt (ddD d) (ddD e) = true
theorem ltDs_cons {x y : Deed} {a b : List Deed} (h : ltDs (x :: a) (y :: b)) : (x = y ∧ ltDs a b) ∨ ltDd x y := by
  by_cases e : x = y
  · subst e
    refine .inl ⟨rfl, ?_⟩
    unfold ltDs ddsD at *
    rw [PySem.W.dataLt_list] at *
    rw [List.map_cons, List.map_cons, PySem.W.dataLt_all_yes (alike_dd x x) (by rw [eqv_dd0]; simp)] at h
    exact h
  · refine .inr ⟨e, ?_⟩
    unfold ltDs ddsD at h
    rw [PySem.W.dataLt_list, List.map_cons, List.map_cons, PySem.W.dataLt_all_no (alike_dd x y) (by rw [eqv_dd0]; simp [e])] at h
    exact h
theorem ltDs_longer : ∀ {a b : List Deed} (c d : List Deed), a.length = b.length → ltDs a b → ltDs (a ++ c) (b ++ d)
  | [], [], _, _, _, h => absurd h (ltDs_irr _)
  | x :: a, y :: b, c, d, hl, h => by
    rcases ltDs_cons h with ⟨rfl, h'⟩ | ⟨h1, h2⟩
    · exact ltDs_same (ltDs_longer c d (by simpa using hl) h')
    · exact ltDs_less h1 h2
  | [], _ :: _, _, _, hl, _ => by cases hl
  | _ :: _, [], _, _, hl, _ => by cases hl
theorem ltDs_pre : ∀ (p : List Deed) {a b : List Deed}, ltDs a b → ltDs (p ++ a) (p ++ b)
  | [], _, _, h => h
  | x :: p, _, _, h => ltDs_same (ltDs_pre p h)
theorem put_lt_str {p c : Nat} : ltDd (p, Dw.put c) (p, Dw.str) := ⟨fun e => (by cases e), lt_word (by show ([112, 117, 116] : List Nat) < [115, 116, 114, 105, 107, 101]; decide) (by show ([112, 117, 116] : List Nat) ≠ [115, 116, 114, 105, 107, 101]; decide)⟩
theorem put_lt_trn {p c d : Nat} : ltDd (p, Dw.put c) (p, Dw.trn d) := ⟨fun e => (by cases e), lt_word (by show ([112, 117, 116] : List Nat) < [116, 117, 114, 110]; decide) (by show ([112, 117, 116] : List Nat) ≠ [116, 117, 114, 110]; decide)⟩
theorem str_lt_trn {p d : Nat} : ltDd (p, Dw.str) (p, Dw.trn d) := ⟨fun e => (by cases e), lt_word (by show ([115, 116, 114, 105, 107, 101] : List Nat) < [116, 117, 114, 110]; decide) (by show ([115, 116, 114, 105, 107, 101] : List Nat) ≠ [116, 117, 114, 110]; decide)⟩
theorem evP_rise (l : List Nat) (p : Nat) : (evP l p).Pairwise ltDd := by
  have hput : (BRK.map fun c => ((p, Dw.put c) : Deed)).Pairwise ltDd := List.pairwise_map.mpr (brk_rise.imp fun {a b} h => ⟨fun e => (by cases e; omega), lt_sign rfl (one_lt h) (fun e => (by cases e; omega))⟩)
  unfold evP
  cases hx : l[p]? with
  | none => simpa using hput
  | some x =>
    dsimp only
    split
    · refine List.pairwise_append.mpr ⟨hput, List.pairwise_cons.mpr ⟨fun d hd => ?_, List.pairwise_map.mpr ((brk_rise.filter _).imp fun {a b} h => ⟨fun e => (by cases e; omega), lt_sign rfl (one_lt h) (fun e => (by cases e; omega))⟩)⟩, fun d hd e he => ?_⟩
      · obtain ⟨c, _, rfl⟩ := List.mem_map.mp hd
        exact str_lt_trn
      · obtain ⟨c, _, rfl⟩ := List.mem_map.mp hd
        rcases List.mem_cons.mp he with rfl | he
        · exact put_lt_str
        · obtain ⟨c', _, rfl⟩ := List.mem_map.mp he
          exact put_lt_trn
    · simpa using hput
theorem evD_rise (l : List Nat) : (evD l).Pairwise ltDd := by
  unfold evD
  refine pair_flat (T := (· < ·)) List.pairwise_lt_range (fun p _ => evP_rise l p) fun p q h hp hq a ha b hb => ?_
  have h1 := ((mem_evP (by have := List.mem_range.mp hp; omega)).mp ha).1
  have h2 := ((mem_evP (by have := List.mem_range.mp hq; omega)).mp hb).1
  obtain ⟨a1, a2⟩ := a
  obtain ⟨b1, b2⟩ := b
  have h1' : a1 = p := h1
  have h2' : b1 = q := h2
  exact ⟨fun e => by cases e; omega, lt_place (by omega)⟩
theorem liD_rise (l : List Nat) : ∀ n, (liD l n).Pairwise ltDs
  | 0 => List.pairwise_singleton _ _
  | n + 1 => by
    rw [liD]
    refine pair_flat (liD_rise l n) (fun ds _ => ?_) fun a b h ha hb x hx y hy => ?_
    · exact List.pairwise_map.mpr (((evD_rise l).filter _).imp fun {d e} h => ltDs_pre ds (ltDs_less h.1 h.2))
    · obtain ⟨d, _, rfl⟩ := List.mem_map.mp hx
      obtain ⟨e, _, rfl⟩ := List.mem_map.mp hy
      exact ltDs_longer _ _ (by rw [(mem_liD.mp ha).2, (mem_liD.mp hb).2]) h
theorem good_rows (l : List Nat) (n : Nat) : (liD l n).filter (fun ds => decide (clean (doneL l ds))) = (rowsL wAll [] l n).map (ddS 0) := by
  refine sorted_same ltDs_irr (fun _ _ _ => ltDs_tr) ((liD_rise l n).filter _) (List.pairwise_map.mpr (rows_rise _ n l [] 0 (Nat.le_refl _))) fun z => ?_
  rw [List.mem_filter, List.mem_map, mem_liD, decide_eq_true_iff]
  constructor
  · rintro ⟨⟨h1, h2⟩, h3⟩
    obtain ⟨α, h4, h5⟩ := ds_row h1 h3
    rw [h2] at h5
    exact ⟨α, mem_rows.mpr h5, h4⟩
  · rintro ⟨α, h1, rfl⟩
    obtain ⟨h2, h3, h4⟩ := row_ds (mem_rows.mp h1)
    exact ⟨⟨h2, h3⟩, h4⟩
end Ly

set_option maxHeartbeats 4000000
namespace Ly
open PySem PySem.Spec PyProof.Rows L2 SX
/-! ### how many rows: laws by words -/
theorem nd_le {α : Type} [DecidableEq α] : ∀ {xs ys : List α}, xs.Nodup → (∀ x ∈ xs, x ∈ ys) → xs.length ≤ ys.length
  | [], _, _, _ => Nat.zero_le _
  | x :: xs, ys, hn, h => by
    obtain ⟨h1, h2⟩ := List.nodup_cons.mp hn
    have hx := h x (List.mem_cons_self ..)
    have := nd_le (xs := xs) (ys := ys.erase x) h2 fun y hy => (List.mem_erase_of_ne (fun e : y = x => h1 (by rw [← e]; exact hy))).mpr (h y (List.mem_cons_of_mem _ hy))
    rw [List.length_erase_of_mem hx] at this
    have hp := List.length_pos_of_mem hx
    rw [List.length_cons]
    omega
theorem rows_nd {W : Wd} {st r : List Nat} {n : Nat} : (rowsL W st r n).Nodup := rows_nodup _ n r st (Nat.le_refl _)
def wLe (W W' : Wd) : Prop := (W.pt = true → W'.pt = true) ∧ (W.st = true → W'.st = true) ∧ (W.tn = true → W'.tn = true)
theorem wd_mono {W W' : Wd} (h : wLe W W') {s : Stp} (hs : s.wd W) : s.wd W' := by
  cases s with
  | kp c => trivial
  | st c => exact h.2.1 hs
  | tn c d => exact h.2.2 hs
  | pt d => exact h.1 hs
theorem row_mono {W W' : Wd} (h : wLe W W') {st r : List Nat} {n : Nat} {α : List Stp} (hr : Row W st r n α) : Row W' st r n α := ⟨hr.ok, fun s hs => wd_mono h (hr.wd s hs), hr.tx, hr.ct, hr.fo⟩
theorem An_mono {W W' : Wd} (h : wLe W W') (l : List Nat) (n : Nat)   : An W [] l n ≤ An W' [] l n := show (rowsL W [] l n).length ≤ (rowsL W' [] l n).length from nd_le rows_nd fun α hα => mem_rows.mpr (row_mono h (mem_rows.mp hα))
theorem An_bij {W : Wd} {l l' : List Nat} {n : Nat} (F : List Stp → List Stp) (inj : ∀ α β, F α = F β → α = β) (h1 : ∀ α, Row W [] l n α → Row W [] l' n (F α)) (h2 : ∀ α', Row W [] l' n α' → ∃ α, Row W [] l n α ∧ F α = α') : An W [] l' n = An W [] l n := by
  have hnd : ((rowsL W [] l n).map F).Nodup := List.Pairwise.map _ (fun a b h e => h (inj a b e)) rows_nd
  show (rowsL W [] l' n).length = (rowsL W [] l n).length
  refine Nat.le_antisymm ?_ ?_
  · refine Nat.le_trans (nd_le rows_nd (ys := (rowsL W [] l n).map F) fun α hα => ?_) (Nat.le_of_eq (List.length_map ..))
    obtain ⟨β, hb, rfl⟩ := h2 α (mem_rows.mp hα)
    exact List.mem_map.mpr ⟨β, mem_rows.mpr hb, rfl⟩
  · refine Nat.le_trans (Nat.le_of_eq (List.length_map (f := F) ..).symm) (nd_le hnd fun α hα => ?_)
    obtain ⟨β, hb, rfl⟩ := List.mem_map.mp hα
    exact mem_rows.mpr (h1 β (mem_rows.mp hb))
theorem mc_same {W : Wd} {l l' : List Nat} (h : ∀ n, An W [] l' n = An W [] l n) : mcN l' W 0 l'.length = mcN l W 0 l.length := by
  have h1 := Ld_whole (W := W) l'
  rw [show An W [] l' = An W [] l from funext h] at h1
  exact h1.uniq (Ld_whole (W := W) l)
/-! the signs of a row renamed -/
def Stp.mp (f : Nat → Nat) : Stp → Stp
  | .kp c => .kp (f c)
  | .st c => .st (f c)
  | .tn c d => .tn (f c) (f d)
  | .pt d => .pt (f d)
theorem mp_inj {f : Nat → Nat} (inj : ∀ {a b}, f a = f b → a = b) : ∀ {s t : Stp}, s.mp f = t.mp f → s = t := by
  intro s t h
  cases s <;> cases t <;> simp only [Stp.mp, Stp.kp.injEq, Stp.st.injEq, Stp.tn.injEq, Stp.pt.injEq, reduceCtorEq] at h
  · rw [inj h]
  · rw [inj h]
  · rw [inj h.1, inj h.2]
  · rw [inj h]
theorem mp_in (f : Nat → Nat) : ∀ α : List Stp, inS (α.map (Stp.mp f)) = (inS α).map f
  | [] => rfl
  | s :: α => by
    rw [List.map_cons, inS_cons, inS_cons, List.map_append, mp_in f α]
    cases s <;> rfl
theorem mp_out (f : Nat → Nat) : ∀ α : List Stp, outS (α.map (Stp.mp f)) = (outS α).map f
  | [] => rfl
  | s :: α => by
    rw [List.map_cons, outS_cons, outS_cons, List.map_append, mp_out f α]
    cases s <;> rfl
theorem mp_cst (f : Nat → Nat) : ∀ α : List Stp, cstS (α.map (Stp.mp f)) = cstS α
  | [] => rfl
  | .kp c :: α => by show cstS (α.map (Stp.mp f)) = cstS α; exact mp_cst f α
  | .st c :: α => by show cstS (α.map (Stp.mp f)) + 1 = cstS α + 1; rw [mp_cst f α]
  | .tn c d :: α => by show cstS (α.map (Stp.mp f)) + 1 = cstS α + 1; rw [mp_cst f α]
  | .pt d :: α => by show cstS (α.map (Stp.mp f)) + 1 = cstS α + 1; rw [mp_cst f α]
theorem mp_wd {W : Wd} {f : Nat → Nat} {s : Stp} (h : s.wd W) : (s.mp f).wd W := by cases s <;> exact h
theorem mp_ok {f : Nat → Nat} (inj : ∀ {a b}, f a = f b → a = b) (hb : ∀ {c}, c ∈ BRK → f c ∈ BRK) {s : Stp} (h : s.ok) : (s.mp f).ok := by
  cases s with
  | kp c => trivial
  | st c => exact hb h
  | tn c d => exact ⟨hb h.1, hb h.2.1, fun e => h.2.2 (inj e)⟩
  | pt d => exact hb h
theorem ren_brk {f : Nat → Nat} (R : Ren f) {c : Nat} (h : c ∈ BRK) : f c ∈ BRK := by
  rcases brk_or.mp h with h | h
  · exact brk_or.mpr (.inl (R.opn.mpr h))
  · exact brk_or.mpr (.inr (R.clo.mpr h))
theorem ren_onto {f : Nat → Nat} (R : Ren f) {d : Nat} (h : d ∈ BRK) : ∃ c ∈ BRK, f c = d := by
  refine Classical.byContradiction fun hc => ?_
  have hnd : (d :: BRK.map f).Nodup := List.nodup_cons.mpr ⟨fun hm => by
    obtain ⟨c, h1, h2⟩ := List.mem_map.mp hm
    exact hc ⟨c, h1, h2⟩, List.Pairwise.map _ (fun a b h e => h (R.inj e)) (show BRK.Nodup by decide)⟩
  have := nd_le hnd (ys := BRK) fun x hx => by
    rcases List.mem_cons.mp hx with rfl | hx
    · exact h
    · obtain ⟨c, h1, rfl⟩ := List.mem_map.mp hx
      exact ren_brk R h1
  have e : (d :: BRK.map f).length = 9 := by rw [List.length_cons, List.length_map]; rfl
  rw [e] at this
  exact absurd this (by decide)
theorem ren_row {W : Wd} {f : Nat → Nat} (R : Ren f) {l : List Nat} {n : Nat} {α : List Stp} (h : Row W [] l n α) : Row W [] (l.map f) n (α.map (Stp.mp f)) := by
  refine ⟨fun s hs => ?_, fun s hs => ?_, by rw [mp_in, h.tx], by rw [mp_cst, h.ct], ?_⟩
  · obtain ⟨t, ht, rfl⟩ := List.mem_map.mp hs
    exact mp_ok R.inj (ren_brk R) (h.ok t ht)
  · obtain ⟨t, ht, rfl⟩ := List.mem_map.mp hs
    exact mp_wd (h.wd t ht)
  · rw [mp_out]
    exact (ren_clean R _).mpr h.fo
theorem ren_back {f : Nat → Nat} (R : Ren f) : ∀ (α' : List Stp) (l : List Nat), okS α' → inS α' = l.map f → ∃ α, α.map (Stp.mp f) = α' ∧ inS α = l ∧ okS α
  | [], l, _, h => by
    cases l with
    | nil => exact ⟨[], rfl, rfl, fun s hs => by cases hs⟩
    | cons x l => cases h
  | .pt d :: α', l, ho, h => by
    obtain ⟨h1, h2⟩ := okS_cons.mp ho
    obtain ⟨α, e1, e2, e3⟩ := ren_back R α' l h2 h
    obtain ⟨c, hc, rfl⟩ := ren_onto R h1
    exact ⟨.pt c :: α, by rw [List.map_cons, e1]; rfl, e2, okS_cons.mpr ⟨hc, e3⟩⟩
  | .kp d :: α', l, ho, h => by
    obtain ⟨h1, h2⟩ := okS_cons.mp ho
    cases l with
    | nil => cases h
    | cons x l =>
      have h' : d :: inS α' = f x :: l.map f := h
      obtain ⟨h3, h4⟩ := List.cons.inj h'
      obtain ⟨α, e1, e2, e3⟩ := ren_back R α' l h2 h4
      exact ⟨.kp x :: α, by rw [List.map_cons, e1, h3]; rfl, by rw [inS_cons, e2]; rfl, okS_cons.mpr ⟨trivial, e3⟩⟩
  | .st d :: α', l, ho, h => by
    obtain ⟨h1, h2⟩ := okS_cons.mp ho
    cases l with
    | nil => cases h
    | cons x l =>
      have h' : d :: inS α' = f x :: l.map f := h
      obtain ⟨h3, h4⟩ := List.cons.inj h'
      obtain ⟨α, e1, e2, e3⟩ := ren_back R α' l h2 h4
      obtain ⟨c, hc, hcd⟩ := ren_onto R (show d ∈ BRK from h1)
      have hxc : x = c := R.inj (h3.symm.trans hcd.symm)
      exact ⟨.st x :: α, by rw [List.map_cons, e1, h3]; rfl, by rw [inS_cons, e2]; rfl, okS_cons.mpr ⟨show x ∈ BRK from hxc ▸ hc, e3⟩⟩
  | .tn d e :: α', l, ho, h => by
    obtain ⟨h1, h2⟩ := okS_cons.mp ho
    cases l with
    | nil => cases h
    | cons x l =>
      have h' : d :: inS α' = f x :: l.map f := h
      obtain ⟨h3, h4⟩ := List.cons.inj h'
      obtain ⟨α, e1, e2, e3⟩ := ren_back R α' l h2 h4
      obtain ⟨c, hc, hcd⟩ := ren_onto R h1.1
      obtain ⟨c', hc', hcd'⟩ := ren_onto R h1.2.1
      have hxc : x = c := R.inj (h3.symm.trans hcd.symm)
      exact ⟨.tn x c' :: α, by rw [List.map_cons, e1, h3, ← hcd']; rfl, by rw [inS_cons, e2]; rfl, okS_cons.mpr ⟨⟨hxc ▸ hc, hc', fun q => h1.2.2 (by rw [← hcd', ← hcd, q, hxc])⟩, e3⟩⟩
theorem list_map_inj {α β : Type} {g : α → β} (inj : ∀ {a b}, g a = g b → a = b) : ∀ {xs ys : List α}, xs.map g = ys.map g → xs = ys
  | [], [], _ => rfl
  | [], _ :: _, h => by cases h
  | _ :: _, [], h => by cases h
  | x :: xs, y :: ys, h => by
    obtain ⟨h1, h2⟩ := List.cons.inj h
    rw [inj h1, list_map_inj inj h2]
theorem mc_ren {W : Wd} {f : Nat → Nat} (R : Ren f) (l : List Nat) : mcN (l.map f) W 0 (l.map f).length = mcN l W 0 l.length := by
  refine mc_same fun n => An_bij (List.map (Stp.mp f)) (fun α β h => list_map_inj (mp_inj R.inj) h) (fun α h => ren_row R h) fun α' h => ?_
  obtain ⟨α, e1, e2, e3⟩ := ren_back R α' l h.ok h.tx
  refine ⟨α, ⟨e3, fun s hs => ?_, e2, ?_, ?_⟩, e1⟩
  · have := h.wd (s.mp f) (by rw [← e1]; exact List.mem_map.mpr ⟨s, hs, rfl⟩)
    cases s <;> exact this
  · rw [← mp_cst f, e1]; exact h.ct
  · have h4 := h.fo
    rw [← e1, mp_out] at h4
    exact (ren_clean R _).mp h4
/-! a row from behind -/
def abtS (α : List Stp) : List Stp := (α.map (Stp.mp tn)).reverse
theorem inS_rev : ∀ α : List Stp, inS α.reverse = (inS α).reverse
  | [] => rfl
  | s :: α => by
    rw [List.reverse_cons, inS_app, inS_cons s α, List.reverse_append, inS_rev α]
    cases s <;> rfl
theorem outS_rev : ∀ α : List Stp, outS α.reverse = (outS α).reverse
  | [] => rfl
  | s :: α => by
    rw [List.reverse_cons, outS_app, outS_cons s α, List.reverse_append, outS_rev α]
    cases s <;> rfl
theorem cst_rev : ∀ α : List Stp, cstS α.reverse = cstS α
  | [] => rfl
  | s :: α => by
    rw [List.reverse_cons, cstS_app, cst_rev α]
    cases s <;> (first | (show cstS α + 0 = cstS α; rfl) | (show cstS α + 1 = cstS α + 1; rfl))
theorem tn_inj {a b : Nat} (h : tn a = tn b) : a = b := by rw [← tn_tn a, h, tn_tn]
theorem tn_in {c : Nat} (h : c ∈ BRK) : tn c ∈ BRK := by rw [tn_brk h]; exact oth_brk c h
theorem abtS_abtS (α : List Stp) : abtS (abtS α) = α := by
  unfold abtS
  rw [List.map_reverse, List.reverse_reverse, List.map_map]
  have : (Stp.mp tn ∘ Stp.mp tn) = id := funext fun s => by
    cases s <;> simp only [Function.comp, Stp.mp, tn_tn, id]
  rw [this, List.map_id]
theorem abt_row {W : Wd} {l : List Nat} {n : Nat} {α : List Stp} (h : Row W [] l n α) : Row W [] (abt l) n (abtS α) := by
  refine ⟨fun s hs => ?_, fun s hs => ?_, by unfold abtS; rw [inS_rev, mp_in, h.tx]; rfl, by unfold abtS; rw [cst_rev, mp_cst, h.ct], ?_⟩
  · obtain ⟨t, ht, rfl⟩ := List.mem_map.mp (List.mem_reverse.mp hs)
    exact mp_ok tn_inj tn_in (h.ok t ht)
  · obtain ⟨t, ht, rfl⟩ := List.mem_map.mp (List.mem_reverse.mp hs)
    exact mp_wd (h.wd t ht)
  · unfold abtS
    rw [outS_rev, mp_out]
    exact (abt_clean (outS α)).mpr h.fo
theorem mc_abt {W : Wd} (l : List Nat) : mcN (abt l) W 0 (abt l).length = mcN l W 0 l.length := by
  refine mc_same fun n => An_bij abtS (fun α β h => by rw [← abtS_abtS α, h, abtS_abtS]) (fun α h => abt_row h) fun α' h => ⟨abtS α', ?_, abtS_abtS α'⟩
  have := abt_row h
  rw [abt_abt] at this
  exact this
end Ly

set_option maxHeartbeats 4000000
namespace Ly
open PySem PySem.Spec PyProof.Rows L2 SX
/-! ### mended by few words -/
theorem row_cutO : ∀ (α : List Stp) (a b : List Nat) (z : Nat), outS α = a ++ z :: b → ∃ α1 y α2, α = α1 ++ y :: α2 ∧ outS α1 = a ∧ y.o = [z] ∧ outS α2 = b
  | [], a, b, z, h => by cases a <;> cases h
  | s :: α, a, b, z, h => by
    have h' : s.o ++ outS α = a ++ z :: b := h
    have hs : s.o = [] ∨ ∃ c, s.o = [c] := by cases s <;> first | exact .inl rfl | exact .inr ⟨_, rfl⟩
    rcases hs with hs | ⟨c, hs⟩
    · rw [hs, List.nil_append] at h'
      obtain ⟨α1, y, α2, rfl, h1, h2, h3⟩ := row_cutO α a b z h'
      exact ⟨s :: α1, y, α2, rfl, by rw [outS_cons, hs, h1]; rfl, h2, h3⟩
    · rw [hs] at h'
      cases a with
      | nil =>
        obtain ⟨h1, h2⟩ := List.cons.inj h'
        exact ⟨[], s, α, rfl, rfl, by rw [hs, h1], h2⟩
      | cons x a =>
        obtain ⟨h1, h2⟩ := List.cons.inj h'
        obtain ⟨α1, y, α2, rfl, h3, h4, h5⟩ := row_cutO α a b z h2
        exact ⟨s :: α1, y, α2, rfl, by rw [outS_cons, hs, h3, h1]; rfl, h4, h5⟩
/-- without puts, by strikes -/
def nPut (W : Wd) : Wd := ⟨false, true, W.tn⟩
structure Lss (W : Wd) (α β : List Stp) : Prop where
  ok : okS β
  wd : ∀ s ∈ β, s.wd (nPut W)
  tx : inS β = inS α
  ct : cstS β ≤ cstS α
  cl : clean (outS β)
theorem wd_ap {W : Wd} {a b : List Stp} (h1 : ∀ s ∈ a, s.wd W) (h2 : ∀ s ∈ b, s.wd W) : ∀ s ∈ a ++ b, s.wd W := fun s hs => by
  rcases List.mem_append.mp hs with hs | hs
  · exact h1 s hs
  · exact h2 s hs
theorem wd_con {W : Wd} {y : Stp} {b : List Stp} (h1 : y.wd W) (h2 : ∀ s ∈ b, s.wd W) : ∀ s ∈ y :: b, s.wd W := fun s hs => by
  rcases List.mem_cons.mp hs with rfl | hs
  · exact h1
  · exact h2 s hs
theorem nPut_wd {W : Wd} {y : Stp} (h : y.wd W) (hy : ∀ d, y ≠ .pt d) : y.wd (nPut W) := by
  cases y with
  | kp c => trivial
  | st c => rfl
  | tn c d => exact h
  | pt d => exact absurd rfl (hy d)
def Stp.ct : Stp → Nat
  | .kp _ => 0
  | _ => 1
theorem cst_cons (s : Stp) (α : List Stp) : cstS (s :: α) = s.ct + cstS α := by
  cases s with
  | kp c => show cstS α = 0 + cstS α; omega
  | st c => show cstS α + 1 = 1 + cstS α; omega
  | tn c d => show cstS α + 1 = 1 + cstS α; omega
  | pt d => show cstS α + 1 = 1 + cstS α; omega
/-- a sign that is put out is struck, or gone -/
theorem gone {W : Wd} {y : Stp} {z : Nat} (hy : y.ok) (hw : y.wd W) (ho : y.o = [z]) (hz : z ∈ BRK) : ∃ γ : List Stp, okS γ ∧ (∀ s ∈ γ, s.wd (nPut W)) ∧ inS γ = y.i ∧ outS γ = [] ∧ ((∃ d, y = .pt d) → cstS γ = 0) ∧ cstS γ ≤ 1 := by
  cases y with
  | kp c =>
    have hc : c = z := by injection ho
    exact ⟨[.st c], okS_cons.mpr ⟨show c ∈ BRK by rw [hc]; exact hz, fun s hs => (by cases hs)⟩, wd_con rfl (fun s hs => (by cases hs)), rfl, rfl, fun ⟨d, h⟩ => (by cases h), Nat.le_refl _⟩
  | st c => cases ho
  | tn c d => exact ⟨[.st c], okS_cons.mpr ⟨hy.1, fun s hs => (by cases hs)⟩, wd_con rfl (fun s hs => (by cases hs)), rfl, rfl, fun ⟨d, h⟩ => (by cases h), Nat.le_refl _⟩
  | pt d => exact ⟨[], fun s hs => (by cases hs), fun s hs => (by cases hs), rfl, rfl, fun _ => rfl, Nat.zero_le _⟩
theorem noPut {W : Wd} : ∀ (N : Nat) (α : List Stp), α.length ≤ N → okS α → (∀ s ∈ α, s.wd W) → clean (outS α) → ∃ β, Lss W α β
  | _, [], _, _, _, _ => ⟨[], ⟨fun s hs => (by cases hs), fun s hs => (by cases hs), rfl, Nat.le_refl _, clean_nil⟩⟩
  | 0, _ :: _, hl, _, _, _ => by cases hl
  | N + 1, s :: α, hl, ho, hw, hc => by
    obtain ⟨o1, o2⟩ := okS_cons.mp ho
    have w1 : s.wd W := hw s (List.mem_cons_self ..)
    have w2 : ∀ t ∈ α, t.wd W := fun t ht => hw t (List.mem_cons_of_mem _ ht)
    have hl' : α.length ≤ N := by simpa using hl
    have hs : s.o = [] ∨ ∃ c, s.o = [c] := by cases s <;> first | exact .inl rfl | exact .inr ⟨_, rfl⟩
    rw [outS_cons] at hc
    rcases hs with hs | ⟨c, hs⟩
    · rw [hs, List.nil_append] at hc
      obtain ⟨β, hβ⟩ := noPut N α hl' o2 w2 hc
      have hnp : ∀ d, s ≠ .pt d := fun d e => by rw [e] at hs; cases hs
      exact ⟨s :: β, ⟨okS_cons.mpr ⟨o1, hβ.ok⟩, wd_con (nPut_wd w1 hnp) hβ.wd, by rw [inS_cons, inS_cons, hβ.tx], by rw [cst_cons, cst_cons]; have := hβ.ct; omega, by rw [outS_cons, hs]; exact hβ.cl⟩⟩
    · rw [hs] at hc
      have hc' : clean (c :: outS α) := hc
      by_cases h1 : c ∈ OPN
      · obtain ⟨a, b, e, ha, hb⟩ := clean_opn h1 hc'
        obtain ⟨α1, y, α2, rfl, e1, e2, e3⟩ := row_cutO α a b (oth c) e
        have hlen : α1.length ≤ N ∧ α2.length ≤ N := by rw [List.length_append, List.length_cons] at hl'; omega
        have oA : okS α1 := fun t ht => o2 t (List.mem_append_left _ ht)
        have oY : y.ok := o2 y (List.mem_append_right _ (List.mem_cons_self ..))
        have oB : okS α2 := fun t ht => o2 t (List.mem_append_right _ (List.mem_cons_of_mem _ ht))
        have wA : ∀ t ∈ α1, t.wd W := fun t ht => w2 t (List.mem_append_left _ ht)
        have wY : y.wd W := w2 y (List.mem_append_right _ (List.mem_cons_self ..))
        have wB : ∀ t ∈ α2, t.wd W := fun t ht => w2 t (List.mem_append_right _ (List.mem_cons_of_mem _ ht))
        obtain ⟨β1, k1⟩ := noPut N α1 hlen.1 oA wA (by rw [e1]; exact ha)
        obtain ⟨β2, k2⟩ := noPut N α2 hlen.2 oB wB (by rw [e3]; exact hb)
        have kc1 := k1.ct
        have kc2 := k2.ct
        by_cases hsp : (∃ d, s = .pt d) ∨ (∃ d, y = .pt d)
        · obtain ⟨γ, g1, g2, g3, g4, g5, g6⟩ := gone o1 w1 hs (brk_or.mpr (.inl h1))
          obtain ⟨δ, d1, d2, d3, d4, d5, d6⟩ := gone oY wY e2 (brk_or.mpr (.inr (oth_clo c h1)))
          refine ⟨γ ++ (β1 ++ (δ ++ β2)), ⟨okS_app g1 (okS_app k1.ok (okS_app d1 k2.ok)), wd_ap g2 (wd_ap k1.wd (wd_ap d2 k2.wd)), ?_, ?_, ?_⟩⟩
          · rw [inS_app, inS_app, inS_app, g3, k1.tx, d3, k2.tx, inS_cons, inS_app, inS_cons]
          · rw [cstS_app, cstS_app, cstS_app, cst_cons, cstS_app, cst_cons]
            have hs1 : (∃ d, s = .pt d) → s.ct = 1 := fun ⟨d, h⟩ => by rw [h]; rfl
            have hy1 : (∃ d, y = .pt d) → y.ct = 1 := fun ⟨d, h⟩ => by rw [h]; rfl
            rcases hsp with hp | hp
            · have := g5 hp
              have := hs1 hp
              omega
            · have := d5 hp
              have := hy1 hp
              omega
          · rw [outS_app, outS_app, outS_app, g4, d4]
            exact clean_app clean_nil (clean_app k1.cl (clean_app clean_nil k2.cl))
        · have n1 : ∀ d, s ≠ .pt d := fun d e => hsp (.inl ⟨d, e⟩)
          have n2 : ∀ d, y ≠ .pt d := fun d e => hsp (.inr ⟨d, e⟩)
          refine ⟨s :: (β1 ++ y :: β2), ⟨okS_cons.mpr ⟨o1, okS_app k1.ok (okS_cons.mpr ⟨oY, k2.ok⟩)⟩, wd_con (nPut_wd w1 n1) (wd_ap k1.wd (wd_con (nPut_wd wY n2) k2.wd)), ?_, ?_, ?_⟩⟩
          · rw [inS_cons, inS_app, inS_cons, k1.tx, k2.tx, inS_cons, inS_app, inS_cons]
          · rw [cst_cons, cstS_app, cst_cons, cst_cons, cstS_app, cst_cons]
            omega
          · rw [outS_cons, outS_app, outS_cons, hs, e2]
            have hh := clean_app (clean_pair h1 k1.cl) k2.cl
            rw [show [c] ++ (outS β1 ++ ([oth c] ++ outS β2)) = c :: (outS β1 ++ [oth c]) ++ outS β2 by simp]
            exact hh
      · have h2 : c ∉ CLO := fun h2 => clean_clo h2 hc'
        have h3 := (clean_let h1 h2).mp hc'
        obtain ⟨β, hβ⟩ := noPut N α hl' o2 w2 h3
        have hnp : ∀ d, s ≠ .pt d := fun d e => by
          rw [e] at hs o1
          have hd : d = c := by injection hs
          rcases brk_or.mp (show d ∈ BRK from o1) with h | h
          · exact h1 (hd ▸ h)
          · exact h2 (hd ▸ h)
        exact ⟨s :: β, ⟨okS_cons.mpr ⟨o1, hβ.ok⟩, wd_con (nPut_wd w1 hnp) hβ.wd, by rw [inS_cons, inS_cons, hβ.tx], by rw [cst_cons, cst_cons]; have := hβ.ct; omega, by rw [outS_cons, hs]; exact (clean_let h1 h2).mpr hβ.cl⟩⟩
/-! puts for strikes -/
def Stp.nst : Stp → List Stp
  | .st c => if c ∈ OPN then [.kp c, .pt (oth c)] else [.pt (oth c), .kp c]
  | s => [s]
theorem nst_in (s : Stp) : inS s.nst = s.i := by
  cases s with
  | st c => show inS (if c ∈ OPN then [.kp c, .pt (oth c)] else [.pt (oth c), .kp c]) = [c]; split <;> rfl
  | kp c => rfl
  | tn c d => rfl
  | pt d => rfl
theorem nst_ct (s : Stp) : cstS s.nst = s.ct := by
  cases s with
  | st c => show cstS (if c ∈ OPN then [.kp c, .pt (oth c)] else [.pt (oth c), .kp c]) = 1; split <;> rfl
  | kp c => rfl
  | tn c d => rfl
  | pt d => rfl
theorem nst_ok {s : Stp} (h : s.ok) : okS s.nst := by
  cases s with
  | st c =>
    show okS (if c ∈ OPN then [.kp c, .pt (oth c)] else [.pt (oth c), .kp c])
    have hb : oth c ∈ BRK := oth_brk c h
    split
    · exact okS_cons.mpr ⟨trivial, okS_cons.mpr ⟨hb, fun s hs => (by cases hs)⟩⟩
    · exact okS_cons.mpr ⟨hb, okS_cons.mpr ⟨trivial, fun s hs => (by cases hs)⟩⟩
  | kp c => exact okS_cons.mpr ⟨h, fun s hs => (by cases hs)⟩
  | tn c d => exact okS_cons.mpr ⟨h, fun s hs => (by cases hs)⟩
  | pt d => exact okS_cons.mpr ⟨h, fun s hs => (by cases hs)⟩
theorem nst_wd {W : Wd} {s : Stp} (h : s.wd W) : ∀ t ∈ s.nst, t.wd ⟨true, false, W.tn⟩ := by
  cases s with
  | st c =>
    show ∀ t ∈ (if c ∈ OPN then [Stp.kp c, Stp.pt (oth c)] else [Stp.pt (oth c), Stp.kp c] : List Stp), Stp.wd ⟨true, false, W.tn⟩ t
    split
    · exact wd_con trivial (wd_con rfl fun s hs => (by cases hs))
    · exact wd_con rfl (wd_con trivial fun s hs => (by cases hs))
  | kp c => exact wd_con trivial fun s hs => (by cases hs)
  | tn c d => exact wd_con h fun s hs => (by cases hs)
  | pt d => exact wd_con rfl fun s hs => (by cases hs)
theorem nst_fo {s : Stp} (h : s.ok) (o : Option (List Nat)) : (outS s.nst).foldl stp o = s.o.foldl stp o := by
  cases s with
  | st c =>
    show (outS (if c ∈ OPN then [.kp c, .pt (oth c)] else [.pt (oth c), .kp c])).foldl stp o = o
    cases o with
    | none => split <;> rfl
    | some st =>
      split
      · rename_i h1
        show stp (stp (some st) c) (oth c) = some st
        rw [stp_opn h1, stp_clo (oth_clo c h1)]
      · rename_i h1
        have h2 : c ∈ CLO := (brk_or.mp (show c ∈ BRK from h)).resolve_left h1
        show stp (stp (some st) (oth c)) c = some st
        rw [stp_opn (oth_opn c h2), oth_oth c h, stp_clo h2]
  | kp c => rfl
  | tn c d => rfl
  | pt d => rfl
theorem noStr {W : Wd} : ∀ {α : List Stp} {r st : List Nat} {n : Nat}, Row W st r n α → Row ⟨true, false, W.tn⟩ st r n (α.flatMap Stp.nst) := by
  intro α r st n h
  have key : ∀ (α : List Stp), okS α → (∀ s ∈ α, s.wd W) → okS (α.flatMap Stp.nst) ∧ (∀ s ∈ α.flatMap Stp.nst, s.wd ⟨true, false, W.tn⟩) ∧ inS (α.flatMap Stp.nst) = inS α ∧ cstS (α.flatMap Stp.nst) = cstS α ∧ ∀ o : Option (List Nat), (outS (α.flatMap Stp.nst)).foldl stp o = (outS α).foldl stp o := by
    intro α
    induction α with
    | nil => exact fun _ _ => ⟨fun s hs => (by cases hs), fun s hs => (by cases hs), rfl, rfl, fun o => rfl⟩
    | cons s α ih =>
      intro h1 h2
      obtain ⟨h3, h4⟩ := okS_cons.mp h1
      obtain ⟨a1, a2, a3, a4, a5⟩ := ih h4 fun t ht => h2 t (List.mem_cons_of_mem _ ht)
      rw [List.flatMap_cons]
      refine ⟨okS_app (nst_ok h3) a1, wd_ap (nst_wd (h2 s (List.mem_cons_self ..))) a2, by rw [inS_app, nst_in, a3, inS_cons], by rw [cstS_app, nst_ct, a4, cst_cons], fun o => ?_⟩
      rw [outS_app, List.foldl_append, nst_fo h3, a5, outS_cons, List.foldl_append]
  obtain ⟨a1, a2, a3, a4, a5⟩ := key α h.ok h.wd
  exact ⟨a1, a2, by rw [a3, h.tx], by rw [a4, h.ct], by rw [a5, h.fo]⟩
/-! struck and put for turned -/
theorem noTrn {W : Wd} : ∀ (α : List Stp), okS α → ∃ β, okS β ∧ (∀ s ∈ β, s.wd ⟨true, true, false⟩) ∧ inS β = inS α ∧ cstS β ≤ 2 * cstS α ∧ outS β = outS α
  | [], _ => ⟨[], fun s hs => (by cases hs), fun s hs => (by cases hs), rfl, Nat.le_refl _, rfl⟩
  | s :: α, h => by
    obtain ⟨h1, h2⟩ := okS_cons.mp h
    obtain ⟨β, b1, b2, b3, b4, b5⟩ := noTrn (W := W) α h2
    cases s with
    | kp c => exact ⟨.kp c :: β, okS_cons.mpr ⟨h1, b1⟩, wd_con trivial b2, by rw [inS_cons, inS_cons, b3], by rw [cst_cons, cst_cons]; show 0 + cstS β ≤ 2 * (0 + cstS α); omega, by rw [outS_cons, outS_cons, b5]⟩
    | st c => exact ⟨.st c :: β, okS_cons.mpr ⟨h1, b1⟩, wd_con rfl b2, by rw [inS_cons, inS_cons, b3], by rw [cst_cons, cst_cons]; show 1 + cstS β ≤ 2 * (1 + cstS α); omega, by rw [outS_cons, outS_cons, b5]⟩
    | tn c d => exact ⟨.st c :: .pt d :: β, okS_cons.mpr ⟨h1.1, okS_cons.mpr ⟨h1.2.1, b1⟩⟩, wd_con rfl (wd_con rfl b2), by rw [inS_cons, inS_cons, inS_cons, b3]; rfl, by rw [cst_cons, cst_cons, cst_cons]; show 1 + (1 + cstS β) ≤ 2 * (1 + cstS α); omega, by rw [outS_cons, outS_cons, outS_cons, b5]; rfl⟩
    | pt d => exact ⟨.pt d :: β, okS_cons.mpr ⟨h1, b1⟩, wd_con rfl b2, by rw [inS_cons, inS_cons, b3], by rw [cst_cons, cst_cons]; show 1 + cstS β ≤ 2 * (1 + cstS α); omega, by rw [outS_cons, outS_cons, b5]⟩
/-! only turned -/
def wTrn : Wd := ⟨false, false, true⟩
theorem brks_app (a b : List Nat) : (brks (a ++ b)).length = (brks a).length + (brks b).length := by unfold brks; rw [List.filter_append, List.length_append]
theorem trn_brks : ∀ (α : List Stp), okS α → (∀ s ∈ α, s.wd wTrn) → (brks (outS α)).length = (brks (inS α)).length
  | [], _, _ => rfl
  | s :: α, h, hw => by
    obtain ⟨h1, h2⟩ := okS_cons.mp h
    have ih := trn_brks α h2 fun t ht => hw t (List.mem_cons_of_mem _ ht)
    have hs := hw s (List.mem_cons_self ..)
    rw [outS_cons, inS_cons, brks_app, brks_app, ih]
    cases s with
    | kp c => rfl
    | st c => cases hs
    | tn c d =>
      have e1 : (brks [c]).length = 1 := by rw [brks_cons, if_pos h1.1]; rfl
      have e2 : (brks [d]).length = 1 := by rw [brks_cons, if_pos h1.2.1]; rfl
      show (brks [d]).length + _ = (brks [c]).length + _
      rw [e1, e2]
    | pt d => cases hs
theorem brks_cnt : ∀ l : List Nat, (brks l).length = cntO l + cntC l
  | [] => rfl
  | x :: l => by
    have ih := brks_cnt l
    rw [brks_cons, ih]
    unfold cntO cntC
    rw [List.countP_cons, List.countP_cons]
    by_cases h1 : x ∈ OPN
    · have h2 : x ∉ CLO := fun h => opn_clo x h1 h
      have hb : x ∈ BRK := brk_or.mpr (.inl h1)
      simp [h1, h2, hb]
      omega
    · by_cases h2 : x ∈ CLO
      · have hb : x ∈ BRK := brk_or.mpr (.inr h2)
        simp [h1, h2, hb]
        omega
      · have hb : x ∉ BRK := fun h => (brk_or.mp h).elim h1 h2
        simp [h1, h2, hb]
theorem clean_even {l : List Nat} (h : clean l) : (brks l).length % 2 = 0 := by
  rw [brks_cnt, clean_cnt h]
  omega
theorem trn_row : ∀ (l : List Nat) (b : Bool), ((brks l).length + (if b = true then 1 else 0)) % 2 = 0 → ∃ α, okS α ∧ (∀ s ∈ α, s.wd wTrn) ∧ inS α = l ∧ (outS α).foldl stp (some (if b = true then [41] else [])) = some []
  | [], b, h => by
    cases b with
    | true => exact absurd h (by decide)
    | false => exact ⟨[], fun s hs => (by cases hs), fun s hs => (by cases hs), rfl, rfl⟩
  | x :: l, b, h => by
    rw [brks_cons] at h
    by_cases hx : x ∈ BRK
    · rw [if_pos hx] at h
      have step : ∀ z : Nat, z ∈ BRK → ∃ y : Stp, y.ok ∧ y.wd wTrn ∧ y.i = [x] ∧ y.o = [z] := fun z hz => by
        by_cases e : z = x
        · exact ⟨.kp x, trivial, trivial, rfl, by rw [e]; rfl⟩
        · exact ⟨.tn x z, ⟨hx, hz, e⟩, rfl, rfl, rfl⟩
      cases b with
      | true =>
        obtain ⟨α, a1, a2, a3, a4⟩ := trn_row l false (by simp at h ⊢; omega)
        obtain ⟨y, y1, y2, y3, y4⟩ := step 41 (by decide)
        refine ⟨y :: α, okS_cons.mpr ⟨y1, a1⟩, wd_con y2 a2, by rw [inS_cons, y3, a3]; rfl, ?_⟩
        rw [outS_cons, y4, List.foldl_append]
        show (outS α).foldl stp (stp (some [41]) 41) = some []
        rw [stp_clo (by decide)]
        exact a4
      | false =>
        obtain ⟨α, a1, a2, a3, a4⟩ := trn_row l true (by simp at h ⊢; omega)
        obtain ⟨y, y1, y2, y3, y4⟩ := step 40 (by decide)
        refine ⟨y :: α, okS_cons.mpr ⟨y1, a1⟩, wd_con y2 a2, by rw [inS_cons, y3, a3]; rfl, ?_⟩
        rw [outS_cons, y4, List.foldl_append]
        show (outS α).foldl stp (stp (some []) 40) = some []
        rw [stp_opn (by decide)]
        exact a4
    · rw [if_neg hx, Nat.zero_add] at h
      obtain ⟨α, a1, a2, a3, a4⟩ := trn_row l b h
      refine ⟨.kp x :: α, okS_cons.mpr ⟨trivial, a1⟩, wd_con trivial a2, by rw [inS_cons, a3]; rfl, ?_⟩
      rw [outS_cons, List.foldl_append]
      show (outS α).foldl stp (stp (some (if b = true then [41] else [])) x) = some []
      rw [stp_let (fun h1 => hx (brk_or.mpr (.inl h1))) (fun h1 => hx (brk_or.mpr (.inr h1)))]
      exact a4
/-! ### the seven sets of words -/
theorem mc_row {W : Wd} {l : List Nat} {p : Nat × Nat} (h : mcN l W 0 l.length = some p) : ∃ α, Row W [] l p.1 α := by
  have h1 := Ld_whole (W := W) l
  rw [h] at h1
  exact An_pos.mp (by rw [h1.1]; exact h1.2.1)
theorem row_mc {W : Wd} {l : List Nat} {n : Nat} {α : List Stp} (h : Row W [] l n α) : ∃ p, mcN l W 0 l.length = some p ∧ p.1 ≤ n ∧ p.2 ≠ 0 := by
  have h1 := Ld_whole (W := W) l
  have h2 : An W [] l n ≠ 0 := An_pos.mpr ⟨α, h⟩
  cases hm : mcN l W 0 l.length with
  | none => rw [hm] at h1; exact absurd (h1 n) h2
  | some p =>
    rw [hm] at h1
    exact ⟨p, rfl, Nat.le_of_not_lt fun hlt => h2 (h1.2.2 n hlt), h1.2.1⟩
theorem mc_pos {W : Wd} {l : List Nat} {p : Nat × Nat} (h : mcN l W 0 l.length = some p) : p.2 ≠ 0 := by
  have h1 := Ld_whole (W := W) l
  rw [h] at h1
  exact h1.2.1
/-- more words: fewer deeds, or as few and as many ways -/
theorem mc_more {W W' : Wd} (h : wLe W W') {l : List Nat} {p : Nat × Nat} (hp : mcN l W 0 l.length = some p) : ∃ p', mcN l W' 0 l.length = some p' ∧ (p'.1 < p.1 ∨ p'.1 = p.1 ∧ p.2 ≤ p'.2) := by
  obtain ⟨α, hα⟩ := mc_row hp
  obtain ⟨p', h1, h2, h3⟩ := row_mc (row_mono h hα)
  refine ⟨p', h1, ?_⟩
  rcases Nat.lt_or_eq_of_le h2 with h4 | h4
  · exact .inl h4
  · refine .inr ⟨h4, ?_⟩
    have a := Ld_whole (W := W) l
    have b := Ld_whole (W := W') l
    rw [hp] at a
    rw [h1] at b
    have c := An_mono h l p.1
    rw [a.1, ← h4, b.1] at c
    exact c
/-- all struck -/
theorem str_row {W : Wd} (hs : W.st = true) : ∀ l : List Nat, ∃ α, okS α ∧ (∀ s ∈ α, s.wd W) ∧ inS α = l ∧ clean (outS α)
  | [] => ⟨[], fun s hs => (by cases hs), fun s hs => (by cases hs), rfl, clean_nil⟩
  | x :: l => by
    obtain ⟨α, a1, a2, a3, a4⟩ := str_row hs l
    by_cases hx : x ∈ BRK
    · exact ⟨.st x :: α, okS_cons.mpr ⟨hx, a1⟩, wd_con hs a2, by rw [inS_cons, a3]; rfl, a4⟩
    · exact ⟨.kp x :: α, okS_cons.mpr ⟨trivial, a1⟩, wd_con trivial a2, by rw [inS_cons, a3]; rfl, (clean_let (fun h1 => hx (brk_or.mpr (.inl h1))) (fun h1 => hx (brk_or.mpr (.inr h1)))).mpr a4⟩
theorem mc_str {W : Wd} (hs : W.st = true) (l : List Nat) : ∃ p, mcN l W 0 l.length = some p ∧ p.2 ≠ 0 := by
  obtain ⟨α, a1, a2, a3, a4⟩ := str_row hs l
  obtain ⟨p, h1, _, h3⟩ := row_mc (W := W) (l := l) (n := cstS α) (α := α) ⟨a1, a2, a3, rfl, a4⟩
  exact ⟨p, h1, h3⟩
/-- puts, strikes, both: as few -/
theorem mc_ways (t : Bool) (l : List Nat) : ∃ c a b d, mcN l ⟨true, false, t⟩ 0 l.length = some (c, a) ∧ mcN l ⟨false, true, t⟩ 0 l.length = some (c, b) ∧ mcN l ⟨true, true, t⟩ 0 l.length = some (c, d) ∧ a ≠ 0 ∧ b ≠ 0 ∧ d ≠ 0 := by
  obtain ⟨⟨c, d⟩, h1, h2⟩ := mc_str (W := ⟨true, true, t⟩) rfl l
  obtain ⟨α, hα⟩ := mc_row h1
  obtain ⟨⟨c2, b⟩, h3, h4, h5⟩ : ∃ p, mcN l ⟨false, true, t⟩ 0 l.length = some p ∧ p.1 ≤ c ∧ p.2 ≠ 0 := by
    obtain ⟨β, hβ⟩ := noPut (W := ⟨true, true, t⟩) α.length α (Nat.le_refl _) hα.ok hα.wd hα.fo
    obtain ⟨p, k1, k2, k3⟩ := row_mc (W := ⟨false, true, t⟩) (l := l) (n := cstS β) (α := β) ⟨hβ.ok, hβ.wd, by rw [hβ.tx, hα.tx], rfl, hβ.cl⟩
    exact ⟨p, k1, Nat.le_trans k2 (Nat.le_trans hβ.ct (Nat.le_of_eq hα.ct)), k3⟩
  obtain ⟨⟨c3, a⟩, h6, h7, h8⟩ := row_mc (noStr hα)
  obtain ⟨⟨c4, e4⟩, h9, h10⟩ := mc_more (W := ⟨false, true, t⟩) (W' := ⟨true, true, t⟩) ⟨fun h => (by cases h), fun h => h, fun h => h⟩ h3
  obtain ⟨⟨c5, e5⟩, h11, h12⟩ := mc_more (W := ⟨true, false, t⟩) (W' := ⟨true, true, t⟩) ⟨fun h => h, fun h => (by cases h), fun h => h⟩ h6
  rw [h1] at h9 h11
  obtain ⟨rfl, rfl⟩ := Prod.mk.inj (Option.some.inj h9)
  obtain ⟨rfl, rfl⟩ := Prod.mk.inj (Option.some.inj h11)
  have e2 : c2 = c := by
    have : c2 ≤ c := h4
    have : c < c2 ∨ c = c2 ∧ _ := h10
    omega
  have e3 : c3 = c := by
    have : c3 ≤ c := h7
    have : c < c3 ∨ c = c3 ∧ _ := h12
    omega
  subst e2
  subst e3
  exact ⟨_, a, b, d, h6, h3, h1, h8, h5, h2⟩
theorem mc_words (l : List Nat) : ∃ c e a1 a2 a3 b1 b2 b3, mcN l ⟨true, false, false⟩ 0 l.length = some (c, a1) ∧ mcN l ⟨false, true, false⟩ 0 l.length = some (c, a2) ∧ mcN l ⟨true, true, false⟩ 0 l.length = some (c, a3) ∧ mcN l ⟨true, false, true⟩ 0 l.length = some (e, b1) ∧ mcN l ⟨false, true, true⟩ 0 l.length = some (e, b2) ∧ mcN l ⟨true, true, true⟩ 0 l.length = some (e, b3) ∧ e ≤ c ∧ c ≤ 2 * e := by
  obtain ⟨c, a1, a2, a3, h1, h2, h3, _⟩ := mc_ways false l
  obtain ⟨e, b1, b2, b3, k1, k2, k3, _⟩ := mc_ways true l
  refine ⟨c, e, a1, a2, a3, b1, b2, b3, h1, h2, h3, k1, k2, k3, ?_, ?_⟩
  · obtain ⟨p, m1, m2⟩ := mc_more (W := ⟨true, true, false⟩) (W' := ⟨true, true, true⟩) ⟨fun h => h, fun h => h, fun _ => rfl⟩ h3
    rw [k3] at m1
    have := Option.some.inj m1
    subst this
    have m2' : e < c ∨ e = c ∧ _ := m2
    omega
  · obtain ⟨α, hα⟩ := mc_row k3
    obtain ⟨β, g1, g2, g3, g4, g5⟩ := noTrn (W := ⟨true, true, true⟩) α hα.ok
    obtain ⟨p, m1, m2, _⟩ := row_mc (W := ⟨true, true, false⟩) (l := l) (n := cstS β) (α := β) ⟨g1, g2, by rw [g3, hα.tx], rfl, by rw [g5]; exact hα.fo⟩
    rw [h3] at m1
    have := Option.some.inj m1
    subst this
    have hc : cstS α = e := hα.ct
    have m2' : c ≤ cstS β := m2
    omega
theorem mc_turn (l : List Nat) : mcN l wTrn 0 l.length = none ↔ (brks l).length % 2 = 1 := by
  constructor
  · intro h
    refine Classical.byContradiction fun hn => ?_
    obtain ⟨α, a1, a2, a3, a4⟩ := trn_row l false (by simp; omega)
    obtain ⟨p, h1, _⟩ := row_mc (W := wTrn) (l := l) (n := cstS α) (α := α) ⟨a1, a2, a3, rfl, a4⟩
    rw [h] at h1
    cases h1
  · intro h
    cases hm : mcN l wTrn 0 l.length with
    | none => rfl
    | some p =>
      obtain ⟨α, hα⟩ := mc_row hm
      have h1 := trn_brks α hα.ok hα.wd
      rw [hα.tx] at h1
      have h2 := clean_even hα.fo
      omega
end Ly

set_option maxHeartbeats 4000000
namespace Ly
open PySem PySem.Spec PyProof.Rows L2 SX
/-! ### calls without arguments; a method within a comprehension -/
section
variable {X : Cx} {k j : Nat} {x : Str} {sp : Sp} {p pos : Pos}
theorem pe_own0 (c : C8.Cal X.prog X.w X.K X.mg X.base k x sp []) (hr : Room j X.A) (hk : k ≤ j) (hg : Gl X x)
    (hdb : (x == ("__debug__" : Str)) = false := by decide) : PE X (.Call (.Name x p) [] [] pos) (tOwn sp tNil) := by
  obtain ⟨f, fd, ps, ds, F, hm, kp, b, d⟩ := c.ex
  have h : PE X (.Call (.Name x p) [] [] pos) (tCall sp [] C8.E0 tNil) := pe_call0 F (hr.mono hk) hg hm kp b d C8.pass0 hdb
  have e : tCall sp [] C8.E0 tNil = tOwn sp tNil := by
    funext σ H Q
    rfl
  rw [← e]
  exact h
end
section
variable {X : Cx} {K : PySem.W.Frag} {T id : String} {name : Str} {o e : Expr} {es : List Expr} {to : TE} {t : TA} {apos cpos : Pos} {r : V → List V → Hp → VK → Prop}
theorem pe_bmK (hK : X.K = K) (pa : PlainAttrs T) (slot : Slot T name id) (hty : typeOf (.builtin id) = pure (.type "method_descriptor")) (hm : MtR X id r) (ho : PE X o to) (ha : PA X (e :: es) t)
    (hbase : attributeBase o name X.env (eval o X.env) = eval o X.env := by rfl)
    (hfew : ((backTo cpos (starEach (e :: es) X.env)).all (fun x => !x.1) && (backToKw cpos (keywordEach [] X.env)).all (fun x => x.1.isSome)
      && decide ((e :: es).length + ([] : List Keyword).length + (if ([] : List Keyword).isEmpty then 0 else 1) < 30)) = true := by rfl)
    (hline : (apos.endLine == cpos.line) = true := by rfl) (hs : starEach (e :: es) X.env = (false, eval e X.env) :: starEach es X.env := by rfl) (hplain : (backTo cpos (starEach es X.env)).any (·.1) = false := by rfl) :
    PE X (.Call (.Attribute o name apos) (e :: es) [] cpos) (tBM K T r to t) := by
  subst hK
  exact pe_bm pa slot hty hm ho ha hbase hfew hline hs hplain
end
end Ly

set_option maxHeartbeats 4000000
namespace Ly
open PySem PySem.Spec PyProof.Rows L2 SX
/-! ### least numbers by words -/
inductive Mw (W : Wd) : List Nat → Nat → Prop
  | nil : Mw W [] 0
  | let_ {x n : Nat} {r : List Nat} : x ∉ BRK → Mw W r n → Mw W (x :: r) n
  | str {x n : Nat} {r : List Nat} : x ∈ BRK → W.pt = true ∨ W.st = true → Mw W r n → Mw W (x :: r) (n + 1)
  | pair {x d a b : Nat} {u v : List Nat} : x ∈ BRK → d ∈ BRK → tns x d = 0 ∨ W.tn = true → Mw W u a → Mw W v b → Mw W (x :: (u ++ d :: v)) (tns x d + a + b)
theorem knd_oth : ∀ x ∈ OPN, ∀ d ∈ CLO, knd x = knd d → d = oth x := by decide
theorem tns_oo : ∀ x ∈ OPN, ∀ d ∈ OPN, tns x d = 1 := by decide
theorem tns_oc : ∀ x ∈ OPN, ∀ d ∈ CLO, tns x d = if d = oth x then 0 else 1 := by decide
theorem tns_cc : ∀ x ∈ CLO, ∀ d ∈ CLO, tns x d = 1 := by decide
theorem tns_co : ∀ x ∈ CLO, ∀ d ∈ OPN, tns x d = 2 := by decide
theorem oth_ne : ∀ x ∈ CLO, ∀ d ∈ CLO, oth d ≠ x := by decide
theorem oth_ne2 : ∀ x ∈ OPN, ∀ d ∈ OPN, oth x ≠ d := by decide
/-- the two steps of a pair -/
theorem pair_steps {W : Wd} {x d : Nat} (hx : x ∈ BRK) (hd : d ∈ BRK) (ht : tns x d = 0 ∨ W.tn = true) : ∃ (o : Nat) (y z : Stp), o ∈ OPN ∧ y.ok ∧ z.ok ∧ y.wd W ∧ z.wd W ∧ y.i = [x] ∧ z.i = [d] ∧ y.o = [o] ∧ z.o = [oth o] ∧ y.ct + z.ct = tns x d := by
  rcases brk_or.mp hx with h1 | h1
  · rcases brk_or.mp hd with h2 | h2
    · have e := tns_oo x h1 d h2
      have t : W.tn = true := by rcases ht with h | h; · omega
                                 · exact h
      exact ⟨x, .kp x, .tn d (oth x), h1, trivial, ⟨hd, oth_brk x hx, oth_ne2 x h1 d h2⟩, trivial, t, rfl, rfl, rfl, rfl, e.symm⟩
    · have e := tns_oc x h1 d h2
      by_cases hdo : d = oth x
      · rw [if_pos hdo] at e
        exact ⟨x, .kp x, .kp d, h1, trivial, trivial, trivial, trivial, rfl, rfl, rfl, by rw [hdo]; rfl, e.symm⟩
      · rw [if_neg hdo] at e
        have t : W.tn = true := by rcases ht with h | h; · omega
                                   · exact h
        exact ⟨x, .kp x, .tn d (oth x), h1, trivial, ⟨hd, oth_brk x hx, fun h => hdo h.symm⟩, trivial, t, rfl, rfl, rfl, rfl, e.symm⟩
  · rcases brk_or.mp hd with h2 | h2
    · have e := tns_co x h1 d h2
      have t : W.tn = true := by rcases ht with h | h; · omega
                                 · exact h
      exact ⟨40, .tn x 40, .tn d 41, by decide, ⟨hx, by decide, fun h => opn_clo 40 (by decide) (h ▸ h1)⟩, ⟨hd, by decide, fun h => opn_clo d h2 (h ▸ (by decide : (41 : Nat) ∈ CLO))⟩, t, t, rfl, rfl, rfl, rfl, e.symm⟩
    · have e := tns_cc x h1 d h2
      have t : W.tn = true := by rcases ht with h | h; · omega
                                 · exact h
      exact ⟨oth d, .tn x (oth d), .kp d, oth_opn d h2, ⟨hx, oth_brk d hd, oth_ne x h1 d h2⟩, trivial, t, trivial, rfl, rfl, rfl, by rw [oth_oth d hd]; rfl, e.symm⟩
theorem Mw.row {W : Wd} {l : List Nat} {n : Nat} (h : Mw W l n) : ∃ α, Row W [] l n α := by
  induction h with
  | nil => exact ⟨[], fun s hs => (by cases hs), fun s hs => (by cases hs), rfl, rfl, rfl⟩
  | @let_ x n r hx _ ih =>
    obtain ⟨α, h⟩ := ih
    exact ⟨.kp x :: α, ⟨okS_cons.mpr ⟨trivial, h.ok⟩, wd_con trivial h.wd, by rw [inS_cons, h.tx]; rfl, h.ct, (clean_let (fun h1 => hx (brk_or.mpr (.inl h1))) (fun h1 => hx (brk_or.mpr (.inr h1)))).mpr h.fo⟩⟩
  | @str x n r hx hW _ ih =>
    obtain ⟨α, h⟩ := ih
    by_cases hs : W.st = true
    · exact ⟨.st x :: α, ⟨okS_cons.mpr ⟨hx, h.ok⟩, wd_con hs h.wd, by rw [inS_cons, h.tx]; rfl, by rw [cst_cons, h.ct]; show 1 + n = n + 1; omega, h.fo⟩⟩
    · have hp : W.pt = true := hW.resolve_right hs
      have hwd : ∀ t ∈ (Stp.st x).nst, t.wd W := fun t ht => wd_mono (W := ⟨true, false, false⟩) ⟨fun _ => hp, fun q => (by cases q), fun q => (by cases q)⟩ (nst_wd (W := ⟨true, true, false⟩) (s := .st x) rfl t ht)
      refine ⟨(Stp.st x).nst ++ α, ⟨okS_app (nst_ok (s := .st x) hx) h.ok, wd_ap hwd h.wd, by rw [inS_app, nst_in, h.tx]; rfl, by rw [cstS_app, nst_ct, h.ct]; show 1 + n = n + 1; omega, ?_⟩⟩
      rw [outS_app, List.foldl_append, nst_fo (s := .st x) hx]
      exact h.fo
  | @pair x d a b u v hx hd ht _ _ ih1 ih2 =>
    obtain ⟨α, h1⟩ := ih1
    obtain ⟨β, h2⟩ := ih2
    obtain ⟨o, y, z, k1, k2, k3, k4, k5, k6, k7, k8, k9, k10⟩ := pair_steps (W := W) hx hd ht
    refine ⟨y :: (α ++ z :: β), ⟨okS_cons.mpr ⟨k2, okS_app h1.ok (okS_cons.mpr ⟨k3, h2.ok⟩)⟩, wd_con k4 (wd_ap h1.wd (wd_con k5 h2.wd)), by rw [inS_cons, inS_app, inS_cons, h1.tx, h2.tx, k6, k7]; simp, by rw [cst_cons, cstS_app, cst_cons, h1.ct, h2.ct]; omega, ?_⟩⟩
    rw [outS_cons, outS_app, outS_cons, k8, k9]
    have hh := clean_app (clean_pair k1 h1.fo) h2.fo
    rw [show [o] ++ (outS α ++ ([oth o] ++ outS β)) = o :: (outS α ++ [oth o]) ++ outS β by simp]
    exact hh
theorem tns_le {o x d : Nat} {y z : Stp} (ho : o ∈ OPN) (hy : y.ok) (hz : z.ok) (y1 : y.i = [x]) (z1 : z.i = [d]) (y2 : y.o = [o]) (z2 : z.o = [oth o]) : x ∈ BRK ∧ d ∈ BRK ∧ tns x d ≤ y.ct + z.ct ∧ ((∃ a b, y = .tn a b) ∨ (∃ a b, z = .tn a b) ∨ tns x d = 0) := by
  have t0 : ∀ o ∈ OPN, tns o (oth o) = 0 := by decide
  have t1 : ∀ o ∈ OPN, ∀ d ∈ BRK, tns o d ≤ 1 := by decide
  have t2 : ∀ o ∈ OPN, ∀ x ∈ BRK, tns x (oth o) ≤ 1 := by decide
  have t3 : ∀ x ∈ BRK, ∀ d ∈ BRK, tns x d ≤ 2 := by decide
  have hob : o ∈ BRK := brk_or.mpr (.inl ho)
  have hoc : oth o ∈ BRK := oth_brk o hob
  cases y with
  | pt c => cases y1
  | st c => cases y2
  | kp c =>
    injection y1 with y1 _
    injection y2 with y2 _
    cases z with
    | pt c => cases z1
    | st c => cases z2
    | kp c' =>
      injection z1 with z1 _
      injection z2 with z2 _
      subst y1 y2 z1
      subst z2
      exact ⟨hob, hoc, by rw [t0 _ ho]; exact Nat.zero_le _, .inr (.inr (t0 _ ho))⟩
    | tn c' e' =>
      injection z1 with z1 _
      subst y1 y2 z1
      exact ⟨hob, hz.1, t1 _ ho _ hz.1, .inr (.inl ⟨_, _, rfl⟩)⟩
  | tn c e =>
    injection y1 with y1 _
    cases z with
    | pt c => cases z1
    | st c => cases z2
    | kp c' =>
      injection z1 with z1 _
      injection z2 with z2 _
      subst y1 z1
      subst z2
      exact ⟨hy.1, hoc, t2 _ ho _ hy.1, .inl ⟨_, _, rfl⟩⟩
    | tn c' e' =>
      injection z1 with z1 _
      subst y1 z1
      exact ⟨hy.1, hz.1, t3 _ hy.1 _ hz.1, .inl ⟨_, _, rfl⟩⟩
theorem row_Mw {W : Wd} : ∀ (N : Nat) (α : List Stp), α.length ≤ N → okS α → (∀ s ∈ α, (∀ d, s ≠ .pt d) ∧ ((∃ c, s = .st c) → W.pt = true ∨ W.st = true) ∧ ((∃ a b, s = .tn a b) → W.tn = true)) → clean (outS α) → ∃ m, m ≤ cstS α ∧ Mw W (inS α) m
  | _, [], _, _, _, _ => ⟨0, Nat.le_refl _, .nil⟩
  | 0, _ :: _, hl, _, _, _ => by cases hl
  | N + 1, s :: α, hl, ho, hw, hc => by
    obtain ⟨o1, o2⟩ := okS_cons.mp ho
    have w1 := hw s (List.mem_cons_self ..)
    have w2 := fun t ht => hw t (List.mem_cons_of_mem _ ht)
    have hl' : α.length ≤ N := by simpa using hl
    rw [outS_cons] at hc
    have hio : (∃ c, s = .st c) ∨ ∃ c x, s.o = [c] ∧ s.i = [x] := by
      cases s with
      | kp c => exact .inr ⟨_, _, rfl, rfl⟩
      | st c => exact .inl ⟨c, rfl⟩
      | tn c d => exact .inr ⟨_, _, rfl, rfl⟩
      | pt d => exact absurd rfl (w1.1 d)
    rcases hio with ⟨c, rfl⟩ | ⟨c, x, hs, hx⟩
    · obtain ⟨m, h1, h2⟩ := row_Mw N α hl' o2 w2 hc
      exact ⟨m + 1, by rw [cst_cons]; show m + 1 ≤ 1 + cstS α; omega, .str o1 (w1.2.1 ⟨c, rfl⟩) h2⟩
    · rw [hs] at hc
      have hc' : clean (c :: outS α) := hc
      by_cases h1 : c ∈ OPN
      · obtain ⟨a, b, e, ha, hb⟩ := clean_opn h1 hc'
        obtain ⟨α1, y, α2, rfl, e1, e2, e3⟩ := row_cutO α a b (oth c) e
        have hlen : α1.length ≤ N ∧ α2.length ≤ N := by rw [List.length_append, List.length_cons] at hl'; omega
        have wY := w2 y (List.mem_append_right _ (List.mem_cons_self ..))
        have oY : y.ok := o2 y (List.mem_append_right _ (List.mem_cons_self ..))
        obtain ⟨m1, k1, k2⟩ := row_Mw N α1 hlen.1 (fun t ht => o2 t (List.mem_append_left _ ht)) (fun t ht => w2 t (List.mem_append_left _ ht)) (by rw [e1]; exact ha)
        obtain ⟨m2, k3, k4⟩ := row_Mw N α2 hlen.2 (fun t ht => o2 t (List.mem_append_right _ (List.mem_cons_of_mem _ ht))) (fun t ht => w2 t (List.mem_append_right _ (List.mem_cons_of_mem _ ht))) (by rw [e3]; exact hb)
        obtain ⟨d, hd⟩ : ∃ d, y.i = [d] := by
          cases y with
          | kp c => exact ⟨_, rfl⟩
          | st c => exact ⟨_, rfl⟩
          | tn c d => exact ⟨_, rfl⟩
          | pt d => exact absurd rfl (wY.1 d)
        obtain ⟨b1, b2, b3, b4⟩ := tns_le h1 o1 oY hx hd hs e2
        have ht : tns x d = 0 ∨ W.tn = true := by
          rcases b4 with h | h | h
          · exact .inr (w1.2.2 h)
          · exact .inr (wY.2.2 h)
          · exact .inl h
        refine ⟨tns x d + m1 + m2, ?_, ?_⟩
        · rw [cst_cons, cstS_app, cst_cons]
          omega
        · have := Mw.pair b1 b2 ht k2 k4
          rw [inS_cons, inS_app, inS_cons, hx, hd]
          simpa using this
      · have h2 : c ∉ CLO := fun h2 => clean_clo h2 hc'
        have h3 := (clean_let h1 h2).mp hc'
        have hcb : c ∉ BRK := fun h => (brk_or.mp h).elim h1 h2
        obtain ⟨m, k1, k2⟩ := row_Mw N α hl' o2 w2 h3
        cases s with
        | kp e =>
          injection hs with hs _
          subst hs
          exact ⟨m, k1, .let_ hcb k2⟩
        | st e => cases hs
        | tn e f =>
          injection hs with hs _
          subst hs
          exact absurd o1.2.1 hcb
        | pt f => exact absurd rfl (w1.1 f)
/-- the cost of mcN is the least of Mw -/
theorem mc_Mw {W : Wd} {l : List Nat} {p : Nat × Nat} (h : mcN l W 0 l.length = some p) : Mw W l p.1 ∧ ∀ n, Mw W l n → p.1 ≤ n := by
  have key : ∀ n, Mw W l n → p.1 ≤ n := fun n hn => by
    obtain ⟨α, hα⟩ := hn.row
    obtain ⟨p', h1, h2, _⟩ := row_mc hα
    rw [h] at h1
    have := Option.some.inj h1
    subst this
    exact h2
  refine ⟨?_, key⟩
  obtain ⟨α, hα⟩ := mc_row h
  have fin : ∃ m, m ≤ p.1 ∧ Mw W l m := by
    by_cases hp : W.pt = true
    · obtain ⟨β, hβ⟩ := noPut (W := W) α.length α (Nat.le_refl _) hα.ok hα.wd hα.fo
      obtain ⟨m, h1, h2⟩ := row_Mw (W := W) β.length β (Nat.le_refl _) hβ.ok (fun s hs => ⟨fun d e => (nomatch (show Stp.wd (nPut W) (.pt d) from e ▸ hβ.wd s hs)), fun _ => .inl hp, fun ⟨a, b, e⟩ => (show Stp.wd (nPut W) (.tn a b) from e ▸ hβ.wd s hs)⟩) hβ.cl
      rw [hβ.tx, hα.tx] at h2
      exact ⟨m, Nat.le_trans h1 (Nat.le_trans hβ.ct (Nat.le_of_eq hα.ct)), h2⟩
    · obtain ⟨m, h1, h2⟩ := row_Mw (W := W) α.length α (Nat.le_refl _) hα.ok (fun s hs => ⟨fun d e => hp (show Stp.wd W (.pt d) from e ▸ hα.wd s hs), fun ⟨c, e⟩ => .inr (show Stp.wd W (.st c) from e ▸ hα.wd s hs), fun ⟨a, b, e⟩ => (show Stp.wd W (.tn a b) from e ▸ hα.wd s hs)⟩) hα.fo
      rw [hα.tx] at h2
      exact ⟨m, Nat.le_trans h1 (Nat.le_of_eq hα.ct), h2⟩
  obtain ⟨m, h1, h2⟩ := fin
  have := key m h2
  have e : m = p.1 := by omega
  rw [← e]
  exact h2
theorem mc_Mw0 {W : Wd} {l : List Nat} (h : mcN l W 0 l.length = none) (n : Nat) : ¬ Mw W l n := fun hn => by
  obtain ⟨α, hα⟩ := hn.row
  obtain ⟨p', h1, _⟩ := row_mc hα
  rw [h] at h1
  cases h1
theorem Mw.le {W : Wd} (hW : W.pt = true ∨ W.st = true) : ∀ l : List Nat, ∃ n, n ≤ l.length ∧ Mw W l n
  | [] => ⟨0, Nat.le_refl _, .nil⟩
  | x :: l => by
    obtain ⟨n, h1, h2⟩ := Mw.le hW l
    by_cases hx : x ∈ BRK
    · exact ⟨n + 1, by rw [List.length_cons]; omega, .str hx hW h2⟩
    · exact ⟨n, by rw [List.length_cons]; omega, .let_ hx h2⟩
end Ly

set_option maxHeartbeats 4000000
namespace Ly
open PySem PySem.Spec PyProof.Rows L2 SX
/-! ### dict(list of pairs) with tuples for keys -/
def mergeT (kvs more : List (List Key × V)) : List (List Key × V) := more.foldl (fun acc kv => putK acc kv.1 kv.2) kvs
theorem mergeT_len : ∀ (more kvs : List (List Key × V)), (mergeT kvs more).length ≤ kvs.length + more.length
  | [], kvs => Nat.le_refl _
  | p :: more, kvs => by
    have h1 := mergeT_len more (putK kvs p.1 p.2)
    have h2 := length_putK kvs p.1 p.2
    rw [List.length_cons]
    show (mergeT (putK kvs p.1 p.2) more).length ≤ _
    omega
theorem mergeT_rel {H : Hp} : ∀ {more : List (List Key × V)} {rs : List (List Key × Addr × Value)} {kvs : List (List Key × V)} {xs : List (List Key × Addr × Value)}, KT H more rs → KT H kvs xs → KT H (mergeT kvs more) (PySem.storedAllH xs rs)
  | _, _, _, _, .nil, h => h
  | _, _, _, _, .cons (a := p) (b := q) hp t, h => by
    obtain ⟨h1, h2, h3⟩ := hp
    have := mergeT_rel t (h.put p.1 h2 h3)
    show KT H (mergeT (putK _ p.1 p.2) _) (PySem.storedAllH (storedH _ q.1 q.2.1 q.2.2) _)
    rw [← h1]
    exact this
theorem kt_mem {H : Hp} : ∀ {kvs : List (List Key × V)} {trs : List (List Key × Addr × Value)}, KT H kvs trs → ∀ x ∈ trs, H x.2.1 = some (.tup (x.1.map kV))
  | _, _, .nil, x, hx => nomatch hx
  | _, _, .cons h t, x, hx => by
    rcases List.mem_cons.mp hx with e | hx
    · subst e
      rw [← h.1]
      exact h.2.1
    · exact kt_mem t x hx
section
variable {X : Cx}
theorem pairsT_of {pins : List (Addr × Obj)} {σ : L2.St} {H : Hp} {s : Shared} (I : Inv X pins σ H s) : ∀ {ps : List Addr} {kvs : List (List Key × V)}, Paired (fun p (kv : List Key × V) => ∃ b, SqT X.K H p [.ref b, kv.2] ∧ H b = some (.tup (kv.1.map kV))) ps kvs →
    ∃ trs : List (List Key × Addr × Value), KT H kvs trs ∧ trs.length = ps.length ∧ ∀ (j : Nat) (q : List Key × Addr × Value), trs[j]? = some q → ∃ (b : Addr), ps[j]? = some b ∧ IsTup s.heap b #[.ref q.2.1, q.2.2]
  | _, _, .nil => ⟨[], .nil, rfl, fun j q e => by simp at e⟩
  | _, _, .cons (a := p) (b := kv) h t => by
    obtain ⟨trs, r, hl, hp⟩ := pairsT_of I t
    obtain ⟨b, h, hb⟩ := h
    obtain ⟨its, rv, ht, _⟩ := I.tuple h
    obtain ⟨u, y, ei, ru, ry⟩ := vals2 rv
    subst ei
    cases (show u = Value.ref b from ru)
    refine ⟨(kv.1, b, y) :: trs, .cons ⟨rfl, hb, ry⟩ r, by rw [List.length_cons, List.length_cons, hl], fun j q e => ?_⟩
    cases j with
    | zero =>
      have e' : (kv.1, b, y) = q := Option.some.inj e
      subst e'
      exact ⟨p, rfl, ht⟩
    | succ j =>
      obtain ⟨c, e1, e2⟩ := hp j q (by simpa using e)
      exact ⟨c, by simpa using e1, e2⟩
def rDictPT (K : PySem.W.Frag) : List V → Hp → VK → Prop := fun xs H Q => ∃ (a : Addr) (ps : List Addr) (kvs : List (List Key × V)), xs = [.ref a] ∧ SqL K H a (ps.map V.ref) ∧ Paired (fun p (kv : List Key × V) => ∃ b, SqT K H p [.ref b, kv.2] ∧ H b = some (.tup (kv.1.map kV))) ps kvs ∧
    ∀ p, H p = none → Q (.ref p) (upd H p (.dT (mergeT [] kvs)))
theorem call_dictPT (hcalm : X.calm = true) (hu : X.A.units + 65 < cLine) : CallR X (.type "dict") (rDictPT X.K) := by
  intro pins s σ H xs us Q I r q
  obtain ⟨a, ps, kvs, ex, hq, hp, q⟩ := q
  subst ex
  obtain ⟨u, eu, rx⟩ := vals1 r
  subst eu
  cases rx
  obtain ⟨its, rv, pl, hz⟩ := I.list hq
  have ei := refs_at rv
  subst ei
  rw [List.length_map] at hz
  obtain ⟨trs, rel, hl, hpr⟩ := pairsT_of I hp
  obtain ⟨o, n, ho, hc, hd, hdat⟩ := pl
  have hky := kt_mem rel
  have hkey : ∀ x ∈ trs, (tupleKind (mixKind X.prog X.w)).is s.heap x.1 x.2.1 := fun x hx => key_of I.hok (hky x hx)
  have hpi : PySem.PairItems s.heap (ps.map Value.ref).toArray (fun j => ps.getD j 0) (trs.map fun q => (Value.ref q.2.1, q.2.2)) := by
    refine ⟨by simp [hl], fun j k v hj => ?_⟩
    rw [List.getElem?_map] at hj
    cases ht : trs[j]? with
    | none => rw [ht] at hj; cases hj
    | some q' =>
      rw [ht] at hj
      injection hj with hj
      injection hj with h1 h2
      subst h1 h2
      obtain ⟨b, e1, e2⟩ := hpr j q' ht
      have eb : ps.getD j 0 = b := by rw [List.getD_eq_getElem?_getD, e1]; rfl
      refine ⟨by simp [e1, eb], ?_⟩
      show PySem.PairAt s.heap (ps.getD j 0) _ _
      rw [eb]
      exact .inl e2
  refine PySem.call_dict_pairsH (knd := tupleKind (mixKind X.prog X.w)) (ps := trs) (PySem.PairArg.list a (ps.map Value.ref).toArray (fun j => ps.getD j 0) (trs.map fun q => (Value.ref q.2.1, q.2.2))) (I.ok.hd hcalm) (tupleKind_room_in1 (A := X.A.in1) (by show X.A.units + 1 + 1 < cLine; omega)) ⟨⟨o, n, ho, hc, hd, hdat⟩, hpi⟩ ⟨by simp, fun i key v hr => ?_⟩ (fun h' hk x hx => ?_) (by rw [List.length_map, hl]; exact hz) fun h' tk hd' k => ?_
  · have hr' : (trs.map fun q => (Value.ref q.2.1, q.2.2))[i]? = some (key, v) := hr
    rw [List.getElem?_map] at hr'
    cases ht : trs[i]? with
    | none => rw [ht] at hr'; cases hr'
    | some q' =>
      rw [ht] at hr'
      injection hr' with hj
      injection hj with h1 h2
      subst h1 h2
      exact ⟨q'.1, q'.2.1, rfl, rfl⟩
  · obtain ⟨o', it', n', g1, g2, g3, g4⟩ := hkey x hx
    exact ⟨o', it', n', hk _ _ (Nat.ne_of_lt (Heap.lt_size g1)) (by simp) g1, g2, g3, g4⟩
  · have hm : (s.heap.objs.size == sysModules) = false := beq_eq_false_iff_ne.mpr (Nat.ne_of_gt I.big)
    have hlen : (mergeT [] kvs).length ≤ sizeLine := by
      refine Nat.le_trans (mergeT_len kvs []) ?_
      rw [List.length_nil, Nat.zero_add, Paired.length rel, hl]
      exact hz
    have hfr := I.hok.fresh (Nat.le_refl s.heap.objs.size)
    obtain ⟨o', es, ep, g1, g2, g3, g4, _, g5⟩ := hd'
    refine ⟨.ref s.heap.objs.size, upd H s.heap.objs.size (.dT (mergeT [] kvs)), I.laid (t' := tk) (fun b u e => k b u (by simp) e) (Nat.le_refl _) ?_, rfl, q _ hfr⟩
    refine ⟨hlen, hm, PySem.storedAllH [] trs, (mergeT_rel rel .nil).keeps fun b ys e => ?_, o', es, ep, g1, g2, g3, g4, g5⟩
    rw [upd_ne (fun eb => by rw [eb, hfr] at e; cases e)]
    exact e
end
/-! ### dicts of texts -/
def rDNewK (H : Hp) (Q : VK) : Prop := ∀ p, H p = none → Q (.ref p) (upd H p (.dK []))
theorem tDNewK_eq {σ : L2.St} {H : Hp} {Q : VK} : tDNewK σ H Q = rDNewK H Q := rfl
def DKt (H : Hp) (a : Addr) (f : Key → Option V) (n : Nat) : Prop := ∃ kvs : List (Key × V), H a = some (.dK kvs) ∧ kvs.length ≤ n ∧ ∀ k, valV kvs k = f k
section
variable {H H1 : Hp} {a p : Addr} {Q : VK} {v : V} {k : Key} {n : Nat} {R : Hp → Prop}
theorem DKt.same {f : Key → Option V} (h : DKt H a f n) (s : Same H H1) : DKt H1 a f n := by
  obtain ⟨kvs, h1, h2, h3⟩ := h
  exact ⟨kvs, s _ _ h1, h2, h3⟩
theorem DKt.but {f : Key → Option V} (h : DKt H a f n) (s : But p H H1) (hn : a ≠ p) : DKt H1 a f n := by
  obtain ⟨kvs, h1, h2, h3⟩ := h
  exact ⟨kvs, s _ _ hn h1, h2, h3⟩
theorem DKt.ne {f : Key → Option V} (h : DKt H a f n) (hb : H p = none) : a ≠ p := by
  obtain ⟨kvs, h1, h2, h3⟩ := h
  rintro rfl
  rw [h1] at hb
  cases hb
theorem g_dnewK (q : ∀ p H1, H p = none → Same H H1 → DKt H1 p (fun _ => none) 0 → Q (.ref p) H1) : rDNewK H Q := fun p np => q p _ np (Same.new np) ⟨[], upd_same, Nat.le_refl _, fun _ => rfl⟩
theorem g_dputK {f : Key → Option V} (h : DKt H a f n) (hn : n < 100000) (q : ∀ H1, But a H H1 → DKt H1 a (fun x => if x = k then some v else f x) (n + 1) → R H1) : rDPut (.ref a) (kV k) v H R := by
  obtain ⟨kvs, h1, h2, h3⟩ := h
  refine ⟨a, _, rfl, DPut.k h1 (by rw [sizeLine_eq]; omega), ?_⟩
  refine q _ (But.set) ⟨_, upd_same, ?_, fun x => ?_⟩
  · have := length_putK kvs k v
    omega
  · rw [valV_put, h3]
theorem DKt.get {f : Key → Option V} (h : DKt H a f n) (k : Key) : DGet H a (kV k) (f k) := by
  obtain ⟨kvs, h1, h2, h3⟩ := h
  rw [← h3]
  exact DGet.k h1
theorem DKt.isD {f : Key → Option V} (h : DKt H a f n) : IsD H a := by
  obtain ⟨kvs, h1, h2, h3⟩ := h
  exact .inl ⟨kvs, .inl h1⟩
end
/-! dict([((i, i), x) for i in range(n)]) -/
def dgK (x : Nat → V) (n : Nat) : List (List Key × V) := (List.range n).map fun k : Nat => (([Sum.inl (k : Int), Sum.inl (k : Int)] : List Key), x k)
theorem dgK_succ (x : Nat → V) (n : Nat) : dgK x (n + 1) = dgK x n ++ [(([Sum.inl (n : Int), Sum.inl (n : Int)] : List Key), x n)] := by
  unfold dgK
  rw [List.range_succ, List.map_append]
  rfl
theorem dg_val (x : Nat → V) : ∀ n k : Nat, k < n → valV (mergeT [] (dgK x n)) [.inl (k : Int), .inl (k : Int)] = some (x k)
  | n + 1, k, h => by
    have e : mergeT [] (dgK x (n + 1)) = putK (mergeT [] (dgK x n)) [.inl (n : Int), .inl (n : Int)] (x n) := by
      rw [dgK_succ]
      unfold mergeT
      rw [List.foldl_append]
      rfl
    rw [e, valV_put]
    by_cases hk : k = n
    · subst hk
      rw [if_pos rfl]
    · rw [if_neg (fun q => hk (by injection q with q1 q2; have := Sum.inl.inj q1; omega))]
      exact dg_val x n k (by omega)
theorem g_dictDg {K : PySem.W.Frag} {H : Hp} {Q : VK} {r : Addr} {ts : List Addr} {x : Nat → V} {n : Nat} (er : H r = some (.lst (ts.map V.ref))) (hp : Paired (fun t (kv : List Key × V) => ∃ b, SqT K H t [.ref b, kv.2] ∧ H b = some (.tup (kv.1.map kV))) ts (dgK x n)) (q : ∀ (p : Addr) (f : Int → Int → Option V) (H1 : Hp), H p = none → Same H H1 → DTab H1 p f n → (∀ k : Nat, k < n → f k k = some (x k)) → Q (.ref p) H1) : rDictPT K [.ref r] H Q := by
  refine ⟨r, ts, _, rfl, sq_of er, hp, fun p np => ?_⟩
  refine q p (fun i j => valV (mergeT [] (dgK x n)) [.inl i, .inl j]) _ np (Same.new np) ⟨_, upd_same, ?_, fun _ _ => rfl⟩ fun k hk => dg_val x n k hk
  have := mergeT_len (dgK x n) []
  rw [List.length_nil, Nat.zero_add] at this
  unfold dgK at this
  rw [List.length_map, List.length_range] at this
  exact this
/-! ### the words, told -/
def wdV (W : Wd) : List V := (if W.pt then [Tx [112, 117, 116]] else []) ++ (if W.st then [Tx [115, 116, 114, 105, 107, 101]] else []) ++ (if W.tn then [Tx [116, 117, 114, 110]] else [])
def WdT (H : Hp) (v : V) (W : Wd) : Prop := ∃ a, v = .ref a ∧ H a = some (.tup (wdV W))
theorem WdT.same {H H' : Hp} {v : V} {W : Wd} (h : WdT H v W) (s : Same H H') : WdT H' v W := by
  obtain ⟨a, h1, h2⟩ := h
  exact ⟨a, h1, s _ _ h2⟩
theorem WdT.but {H H' : Hp} {v : V} {W : Wd} {p : Addr} {ys : List V} (h : WdT H v W) (s : But p H H') (hp : H p = some (.lst ys)) : WdT H' v W := by
  obtain ⟨a, h1, h2⟩ := h
  exact ⟨a, h1, s _ _ (fun e => by rw [e, hp] at h2; cases h2) h2⟩
theorem WdT.butF {H H' : Hp} {v : V} {W : Wd} {p : Addr} {o : HO} (h : WdT H v W) (s : But p H H') (hp : H p = some o) (ho : ∀ xs, o ≠ .tup xs) : WdT H' v W := by
  obtain ⟨a, h1, h2⟩ := h
  exact ⟨a, h1, s _ _ (fun e => by rw [e, hp] at h2; exact ho _ (Option.some.inj h2)) h2⟩
theorem WdT.is {K : PySem.W.Frag} {H : Hp} {v : V} {W : Wd} (h : WdT H v W) : WdIs K H v W := by
  obtain ⟨a, h1, h2⟩ := h
  refine ⟨a, _, h1, st_of h2, ?_⟩
  obtain ⟨x, y, z⟩ := W
  cases x <;> cases y <;> cases z <;> exact ⟨by decide +kernel, by decide +kernel, by decide +kernel, by decide +kernel⟩
def wdD (W : Wd) : PyData := .tuple ((if W.pt then [.str (S [112, 117, 116])] else []) ++ (if W.st then [.str (S [115, 116, 114, 105, 107, 101])] else []) ++ (if W.tn then [.str (S [116, 117, 114, 110])] else []))
theorem g_neTurn {K : PySem.W.Frag} {H : Hp} {v : V} {W : Wd} {b : Addr} {Q : VK} (h : WdT H v W) (hb : H b = some (.tup [Tx [116, 117, 114, 110]])) (hW : W.pt = true ∨ W.st = true ∨ W.tn = true) (q : Q (.bl (W.pt || W.st)) H) : rNeD K v (.ref b) H Q := by
  obtain ⟨a, rfl, h2⟩ := h
  refine ⟨wdD W, .tuple [.str (S [116, 117, 114, 110])], ?_, .tup (st_of hb) (.cons (.str _) .nil), ?_, by decide +kernel, ?_⟩
  · obtain ⟨x, y, z⟩ := W
    cases x <;> cases y <;> cases z <;> first | exact .tup (st_of h2) .nil | exact .tup (st_of h2) (.cons (.str _) .nil) | exact .tup (st_of h2) (.cons (.str _) (.cons (.str _) .nil)) | exact .tup (st_of h2) (.cons (.str _) (.cons (.str _) (.cons (.str _) .nil)))
  · obtain ⟨x, y, z⟩ := W
    cases x <;> cases y <;> cases z <;> decide +kernel
  · have e : (!PyData.eqv (wdD W) (.tuple [.str (S [116, 117, 114, 110])])) = (W.pt || W.st) := by
      obtain ⟨x, y, z⟩ := W
      cases x <;> cases y <;> cases z <;> first | (decide +kernel) | (simp at hW)
    rw [e]
    exact q
/-! ### the law's own table of least numbers by words -/
def Vl (W : Wd) (t : List Nat) (v : Int) : Prop := 0 ≤ v ∧ (∀ n : Nat, Mw W t n → v ≤ n) ∧ (v < 1000 → ∃ n : Nat, v = n ∧ Mw W t n)
theorem Mw.len {W : Wd} {l : List Nat} {n : Nat} (h : Mw W l n) : n ≤ l.length := by
  have t3 : ∀ x ∈ BRK, ∀ d ∈ BRK, tns x d ≤ 2 := by decide
  induction h with
  | nil => exact Nat.le_refl _
  | let_ _ _ ih => rw [List.length_cons]; omega
  | str _ _ _ ih => rw [List.length_cons]; omega
  | @pair x d a b u v hx hd ht _ _ i1 i2 =>
    have := t3 x hx d hd
    rw [List.length_cons, List.length_append, List.length_cons]
    omega
theorem Vl.nil {W : Wd} : Vl W [] 0 := ⟨Int.le_refl _, fun n _ => Int.natCast_nonneg n, fun _ => ⟨0, rfl, .nil⟩⟩
theorem Vl.mc {W : Wd} {l : List Nat} {v : Int} (h : Vl W l v) (hl : l.length < 1000) : (v ≥ 1000 → mcN l W 0 l.length = none) ∧ (v < 1000 → ∃ p, mcN l W 0 l.length = some p ∧ v = p.1) := by
  obtain ⟨h0, h1, h2⟩ := h
  constructor
  · intro hv
    cases hm : mcN l W 0 l.length with
    | none => rfl
    | some p =>
      have k1 := (mc_Mw hm).1
      have k2 := h1 _ k1
      have k3 := k1.len
      omega
  · intro hv
    obtain ⟨n, e1, e2⟩ := h2 hv
    cases hm : mcN l W 0 l.length with
    | none => exact absurd e2 (mc_Mw0 hm n)
    | some p =>
      obtain ⟨k1, k2⟩ := mc_Mw hm
      have k3 := k2 n e2
      have k4 := h1 _ k1
      exact ⟨p, rfl, by omega⟩
theorem Vl.let_ {W : Wd} {x : Nat} {r : List Nat} {v : Int} (hx : x ∉ BRK) (h : Vl W r v) : Vl W (x :: r) v := by
  obtain ⟨h0, h1, h2⟩ := h
  refine ⟨h0, fun n hn => ?_, fun hv => ?_⟩
  · cases hn with
    | let_ _ hr => exact h1 _ hr
    | str hb _ _ => exact absurd hb hx
    | pair hb _ _ _ _ => exact absurd hb hx
  · obtain ⟨n, e1, e2⟩ := h2 hv
    exact ⟨n, e1, .let_ hx e2⟩
/-- a list of numbers that first steps lead to, looked at below m -/
structure Vs (W : Wd) (x : Nat) (r : List Nat) (m : Nat) (ns : List Int) : Prop where
  ne : ns ≠ []
  sound : ∀ v ∈ ns, 0 ≤ v ∧ (v < 1000 → ∃ n : Nat, v = n ∧ Mw W (x :: r) n)
  str : W.pt = true ∨ W.st = true → ∀ n : Nat, Mw W r n → ∃ v ∈ ns, v ≤ n + 1
  pair : ∀ (d a b : Nat) (u w : List Nat), r = u ++ d :: w → u.length < m → d ∈ BRK → tns x d = 0 ∨ W.tn = true → Mw W u a → Mw W w b → ∃ v ∈ ns, v ≤ ((tns x d + a + b : Nat) : Int)
theorem Vs.start0 {W : Wd} {x : Nat} {r : List Nat} (hW : ¬ (W.pt = true ∨ W.st = true)) : Vs W x r 0 [1000] :=
  ⟨by simp, fun v hv => by simp at hv; subst hv; exact ⟨by decide, fun h => absurd h (by decide)⟩, fun h => absurd h hW, fun d a b u w e hu => absurd hu (Nat.not_lt_zero _)⟩
theorem Vs.start1 {W : Wd} {x : Nat} {r : List Nat} {v : Int} (hx : x ∈ BRK) (hW : W.pt = true ∨ W.st = true) (h : Vl W r v) : Vs W x r 0 [1 + v] := by
  obtain ⟨h0, h1, h2⟩ := h
  refine ⟨by simp, fun y hy => ?_, fun _ n hn => ⟨1 + v, by simp, by have := h1 n hn; omega⟩, fun d a b u w e hu => absurd hu (Nat.not_lt_zero _)⟩
  simp at hy
  subst hy
  refine ⟨by omega, fun hlt => ?_⟩
  obtain ⟨n, e1, e2⟩ := h2 (by omega)
  exact ⟨n + 1, by omega, .str hx hW e2⟩
theorem Vs.skip {W : Wd} {x : Nat} {r : List Nat} {m : Nat} {ns : List Int} {d : Nat} (h : Vs W x r m ns) (hd : r[m]? = some d) (hn : ¬ (d ∈ BRK ∧ (tns x d = 0 ∨ W.tn = true))) : Vs W x r (m + 1) ns := by
  refine ⟨h.ne, h.sound, h.str, fun d' a b u w e hu hd' ht ha hb => ?_⟩
  by_cases hm : u.length < m
  · exact h.pair d' a b u w e hm hd' ht ha hb
  · have : u.length = m := by omega
    have e2 : r[m]? = some d' := by rw [e, ← this]; simp
    rw [hd] at e2
    injection e2 with e2
    subst e2
    exact absurd ⟨hd', ht⟩ hn
theorem Vs.step {W : Wd} {x : Nat} {r : List Nat} {m : Nat} {ns : List Int} {d : Nat} {v1 v2 : Int} (h : Vs W x r m ns) (hx : x ∈ BRK) (hd : r[m]? = some d) (hdb : d ∈ BRK) (ht : tns x d = 0 ∨ W.tn = true) (k1 : Vl W (r.take m) v1) (k2 : Vl W (r.drop (m + 1)) v2) : Vs W x r (m + 1) (ns ++ [(tns x d : Int) + v1 + v2]) := by
  have hlt : m < r.length := (List.getElem?_eq_some_iff.mp hd).1
  have er : r = r.take m ++ d :: r.drop (m + 1) := by
    have hg : r[m] = d := (List.getElem?_eq_some_iff.mp hd).2
    rw [← hg, List.getElem_cons_drop]
    exact (List.take_append_drop m r).symm
  obtain ⟨a0, a1, a2⟩ := k1
  obtain ⟨b0, b1, b2⟩ := k2
  refine ⟨by simp, fun y hy => ?_, fun hW n hn => ?_, fun d' a b u w e hu hd' ht' ha hb => ?_⟩
  · rcases List.mem_append.mp hy with hy | hy
    · exact h.sound y hy
    · simp at hy
      subst hy
      refine ⟨by omega, fun hl => ?_⟩
      obtain ⟨n1, e1, f1⟩ := a2 (by omega)
      obtain ⟨n2, e2, f2⟩ := b2 (by omega)
      refine ⟨tns x d + n1 + n2, by omega, ?_⟩
      rw [er]
      exact .pair hx hdb ht f1 f2
  · obtain ⟨y, y1, y2⟩ := h.str hW n hn
    exact ⟨y, List.mem_append_left _ y1, y2⟩
  · by_cases hm : u.length < m
    · obtain ⟨y, y1, y2⟩ := h.pair d' a b u w e hm hd' ht' ha hb
      exact ⟨y, List.mem_append_left _ y1, y2⟩
    · have hul : u.length = m := by omega
      have e2 : r[m]? = some d' := by rw [e, ← hul]; simp
      rw [hd] at e2
      injection e2 with e2
      subst e2
      have eu : u = r.take m := by rw [e, ← hul]; simp
      have ew : w = r.drop (m + 1) := by rw [e, ← hul]; simp
      refine ⟨_, List.mem_append_right _ (List.mem_singleton.mpr rfl), ?_⟩
      have := a1 a (eu ▸ ha)
      have := b1 b (ew ▸ hb)
      omega
theorem Vs.fin {W : Wd} {x : Nat} {r : List Nat} {ns : List Int} {v : Int} (hx : x ∈ BRK) (h : Vs W x r r.length ns) (h1 : v ∈ ns) (h2 : ∀ y ∈ ns, v ≤ y) : Vl W (x :: r) v := by
  obtain ⟨s1, s2⟩ := h.sound v h1
  refine ⟨s1, fun n hn => ?_, s2⟩
  cases hn with
  | let_ hb _ => exact absurd hx hb
  | str _ hW hr =>
    obtain ⟨y, y1, y2⟩ := h.str hW _ hr
    have := h2 y y1
    omega
  | @pair _ d a b u w hx' hd ht ha hb =>
    obtain ⟨y, y1, y2⟩ := h.pair d a b u w rfl (by simp) hd ht ha hb
    have := h2 y y1
    omega
end Ly

set_option maxHeartbeats 4000000
namespace Ly
open PySem PySem.Spec PyProof.Rows L2 SX
/-! ### rows of deeds, place by place, as the law counts them -/
def stpsL (W : Wd) (l : List Nat) (i n : Nat) : List (Bool × List Nat × Nat) :=
  (if 0 < n ∧ W.pt = true then BRK.map fun c => (true, [c], i) else []) ++ (match l[i]? with
    | none => []
    | some x => (false, [x], i + 1) :: (if 0 < n ∧ x ∈ BRK then (if W.st = true then [(true, [], i + 1)] else []) ++ (if W.tn = true then (BRK.filter (· ≠ x)).map fun c => (true, [c], i + 1) else []) else []))
def bhd (st b : List Nat) : Option (List Nat) := match b with
  | [c] => stp (some st) c
  | _ => some st
def stV (W : Wd) (l st : List Nat) (n : Nat) (s : Bool × List Nat × Nat) : Nat := oA (fun s' => An W s' (l.drop s.2.2)) (bhd st s.2.1) (n - s.1.toNat)
theorem sum_congr {α : Type} {f g : α → Nat} : ∀ {xs : List α}, (∀ x ∈ xs, f x = g x) → (xs.map f).sum = (xs.map g).sum := fun {xs} h => by rw [List.map_congr_left h]
theorem pA_sum {W : Wd} {l st : List Nat} {i n : Nat} : pA W st (l.drop i) n = (((if 0 < n ∧ W.pt = true then BRK.map fun c => (true, [c], i) else []) : List (Bool × List Nat × Nat)).map (stV W l st n)).sum := by
  cases n with
  | zero => rw [if_neg (by omega)]; rfl
  | succ n =>
    unfold pA sh gat
    dsimp only
    by_cases h : W.pt = true
    · rw [if_pos h, if_pos ⟨by omega, h⟩, List.map_map]
      unfold bS
      exact sum_congr fun c _ => rfl
    · rw [if_neg h, if_neg (fun q => h q.2)]; rfl
theorem tA_sum {W : Wd} {l st : List Nat} {i n x : Nat} (hx : x ∈ BRK) : tA W st x (l.drop (i + 1)) n = (((if 0 < n ∧ x ∈ BRK then (if W.st = true then [(true, [], i + 1)] else []) ++ (if W.tn = true then (BRK.filter (· ≠ x)).map fun c => (true, [c], i + 1) else []) else []) : List (Bool × List Nat × Nat)).map (stV W l st n)).sum := by
  cases n with
  | zero => rw [if_neg (by omega)]; rfl
  | succ n =>
    rw [if_pos ⟨by omega, hx⟩, List.map_append, List.sum_append]
    unfold tA sh gat
    dsimp only
    congr 1
    · by_cases h : W.st = true
      · rw [if_pos h, if_pos h]
        exact (Nat.add_zero _).symm
      · rw [if_neg h, if_neg h]; rfl
    · by_cases h : W.tn = true
      · rw [if_pos h, if_pos h, List.map_map]
        unfold bS
        exact sum_congr fun c _ => rfl
      · rw [if_neg h, if_neg h]; rfl
theorem An_steps {W : Wd} {l st : List Nat} {i n : Nat} (hi : i ≤ l.length) : An W st (l.drop i) n = (if i = l.length ∧ st = [] ∧ n = 0 then 1 else 0) + ((stpsL W l i n).map (stV W l st n)).sum := by
  unfold stpsL
  rw [List.map_append, List.sum_append, ← pA_sum]
  by_cases h : i < l.length
  · have e : l[i]? = some l[i] := List.getElem?_eq_getElem h
    have ed : l.drop i = l[i] :: l.drop (i + 1) := (List.getElem_cons_drop ..).symm
    rw [e, if_neg (by omega), Nat.zero_add]
    dsimp only
    rw [List.map_cons, List.sum_cons]
    generalize l[i] = x at ed ⊢
    by_cases hx : x ∈ BRK
    · rw [← tA_sum hx]
      have := An_brk (W := W) hx st (l.drop (i + 1)) n
      rw [← ed] at this
      rw [this]
      show _ = _ + (stV W l st n (false, [x], i + 1) + _)
      show _ + (_ + oA (fun s => An W s (l.drop (i + 1))) (stp (some st) x) n) = _ + (oA (fun s => An W s (l.drop (i + 1))) (stp (some st) x) n + _)
      omega
    · rw [if_neg (fun q => hx q.2)]
      have := An_let (W := W) hx st (l.drop (i + 1)) n
      rw [← ed] at this
      rw [this]
      have e2 : stp (some st) x = some st := stp_let (fun q => hx (brk_or.mpr (.inl q))) (fun q => hx (brk_or.mpr (.inr q)))
      show _ + _ = _ + (oA (fun s => An W s (l.drop (i + 1))) (stp (some st) x) n + 0)
      rw [e2]
      rfl
  · have hi' : i = l.length := by omega
    have e : l[i]? = none := List.getElem?_eq_none (by omega)
    have ed : l.drop i = [] := List.drop_eq_nil_of_le (by omega)
    rw [e]
    dsimp only
    rw [ed, An_nil]
    by_cases h0 : st = [] ∧ n = 0
    · rw [if_pos h0, if_pos ⟨hi', h0⟩]
      show _ + 1 = 1 + (_ + 0)
      omega
    · rw [if_neg h0, if_neg (fun q => h0 q.2)]
      show _ + 0 = 0 + (_ + 0)
      omega
theorem outS_len : ∀ α : List Stp, (outS α).length ≤ cstS α + (inS α).length
  | [] => Nat.le_refl _
  | s :: α => by
    have ih := outS_len α
    rw [outS_cons, inS_cons, cst_cons, List.length_append, List.length_append]
    have : s.o.length ≤ s.ct + s.i.length := by
      cases s <;> (first | exact Nat.le_refl _ | decide | (show 1 ≤ 0 + 1; decide) | (show 1 ≤ 1 + 0; decide) | (show 0 ≤ _; exact Nat.zero_le _) | (show 1 ≤ 1 + 1; decide))
    omega
theorem stp_len {st s : List Nat} {c : Nat} (h : stp (some st) c = some s) : st.length ≤ s.length + 1 := by
  unfold stp at h
  dsimp only at h
  split at h
  · injection h with h; rw [← h, List.length_cons]; omega
  · split at h
    · split at h
      · split at h
        · injection h with h; rw [← h]; simp
        · cases h
      · cases h
    · injection h with h; rw [← h]; omega
theorem fold_len : ∀ (o st : List Nat), o.foldl stp (some st) = some [] → st.length ≤ o.length
  | [], st, h => by injection h with h; rw [h]; exact Nat.le_refl _
  | c :: o, st, h => by
    rw [List.foldl_cons] at h
    cases hs : stp (some st) c with
    | none => rw [hs, fold_none] at h; cases h
    | some s =>
      rw [hs] at h
      have h1 := fold_len o s h
      have h2 := stp_len hs
      rw [List.length_cons]
      omega
theorem An_prune {W : Wd} {st r : List Nat} {n : Nat} (h : n + r.length < st.length) : An W st r n = 0 := by
  by_cases e : An W st r n = 0
  · exact e
  · obtain ⟨α, hα⟩ := An_pos.mp e
    have h1 := outS_len α
    have h2 := fold_len _ _ hα.fo
    rw [hα.ct, hα.tx] at h1
    omega
/-! how many keys there can be -/
theorem nodup_len {α : Type} [DecidableEq α] : ∀ (l m : List α), l.Nodup → (∀ x ∈ l, x ∈ m) → l.length ≤ m.length
  | [], m, _, _ => Nat.zero_le _
  | x :: l, m, hn, hs => by
    obtain ⟨h1, h2⟩ := List.nodup_cons.mp hn
    have hx : x ∈ m := hs x (List.mem_cons_self ..)
    have ih := nodup_len l (m.erase x) h2 fun y hy => by
      have hne : y ≠ x := fun e => h1 (e ▸ hy)
      exact (List.mem_erase_of_ne hne).mpr (hs y (List.mem_cons_of_mem _ hy))
    rw [List.length_erase_of_mem hx] at ih
    have : 0 < m.length := List.length_pos_of_mem hx
    rw [List.length_cons]
    omega
def stks : Nat → List (List Nat)
  | 0 => [[]]
  | n + 1 => [] :: CLO.flatMap fun c => (stks n).map (c :: ·)
theorem stks_len : ∀ n, (stks n).length ≤ 5 ^ n
  | 0 => Nat.le_refl _
  | n + 1 => by
    have ih := stks_len n
    rw [stks, List.length_cons, List.length_flatMap]
    have e : CLO.map (fun c => ((stks n).map (c :: ·)).length) = CLO.map fun _ => (stks n).length := List.map_congr_left fun c _ => List.length_map _
    rw [e]
    show (stks n).length + ((stks n).length + ((stks n).length + ((stks n).length + 0))) + 1 ≤ 5 ^ (n + 1)
    have h1 : 1 ≤ 5 ^ n := Nat.one_le_pow _ _ (by decide)
    rw [Nat.pow_succ]
    omega
theorem stks_mem : ∀ (n : Nat) (s : List Nat), s.length ≤ n → (∀ c ∈ s, c ∈ CLO) → s ∈ stks n
  | 0, s, h, _ => by
    have : s = [] := List.length_eq_zero_iff.mp (by omega)
    rw [this, stks]
    exact List.mem_cons_self ..
  | n + 1, [], _, _ => List.mem_cons_self ..
  | n + 1, c :: s, h, hc => by
    rw [stks]
    refine List.mem_cons_of_mem _ (List.mem_flatMap.mpr ⟨c, hc c (List.mem_cons_self ..), List.mem_map.mpr ⟨s, stks_mem n s (by rw [List.length_cons] at h; omega) (fun x hx => hc x (List.mem_cons_of_mem _ hx)), rfl⟩⟩)
def kyOf (i : Nat) (st : List Nat) (n : Nat) : List Key := [.inl (i : Int), .inr (S st.reverse), .inl (n : Int)]
theorem kyOf_inj {i j n m : Nat} {s t : List Nat} (h : kyOf i s n = kyOf j t m) : i = j ∧ s = t ∧ n = m := by
  unfold kyOf at h
  injection h with h1 h2
  injection h2 with h2 h3
  injection h3 with h3 _
  have e1 := Sum.inl.inj h1
  have e2 := Sum.inr.inj h2
  have e3 := Sum.inl.inj h3
  have e4 : s.reverse = t.reverse := Tx_inj.mp (congrArg V.str e2)
  exact ⟨by omega, by rw [← List.reverse_reverse s, e4, List.reverse_reverse], by omega⟩
def allK : List (List Key) := (List.range 5).flatMap fun i => (stks 8).flatMap fun s => (List.range 5).map fun n => kyOf i s n
theorem flat_len {α β : Type} {f : α → List β} {b : Nat} : ∀ l : List α, (∀ x ∈ l, (f x).length ≤ b) → (l.flatMap f).length ≤ l.length * b
  | [], _ => by simp
  | x :: l, h => by
    have ih := flat_len l fun y hy => h y (List.mem_cons_of_mem _ hy)
    have hx := h x (List.mem_cons_self ..)
    rw [List.flatMap_cons, List.length_append, List.length_cons, Nat.succ_mul]
    omega
theorem allK_len : allK.length ≤ 9765625 := by
  unfold allK
  refine Nat.le_trans (flat_len (b := 5 ^ 8 * 5) _ fun i _ => Nat.le_trans (flat_len (b := 5) _ fun s _ => by rw [List.length_map, List.length_range]; exact Nat.le_refl _) (Nat.mul_le_mul_right _ (stks_len 8))) ?_
  rw [List.length_range]
  decide
theorem allK_mem {i n : Nat} {s : List Nat} (hi : i ≤ 4) (hn : n ≤ 4) (hs : s.length ≤ 8) (hc : ∀ c ∈ s, c ∈ CLO) : kyOf i s n ∈ allK :=
  List.mem_flatMap.mpr ⟨i, List.mem_range.mpr (by omega), List.mem_flatMap.mpr ⟨s, stks_mem 8 s hs hc, List.mem_map.mpr ⟨n, List.mem_range.mpr (by omega), rfl⟩⟩⟩
/-- what is known -/
structure Kn (H : Hp) (a : Addr) (W : Wd) (l : List Nat) (kvs : List (List Key × V)) : Prop where
  ob : H a = some (.dT kvs)
  nd : (kvs.map (·.1)).Nodup
  ok : ∀ p ∈ kvs, ∃ (i : Nat) (st : List Nat) (n : Nat), p.1 = kyOf i st n ∧ i ≤ 4 ∧ n ≤ 4 ∧ st.length ≤ 8 ∧ (∀ c ∈ st, c ∈ CLO) ∧ p.2 = .int (An W st (l.drop i) n)
theorem Kn.len {H : Hp} {a : Addr} {W : Wd} {l : List Nat} {kvs : List (List Key × V)} (h : Kn H a W l kvs) : kvs.length ≤ 9765625 := by
  have h1 := nodup_len _ allK h.nd fun x hx => by
    obtain ⟨p, hp, rfl⟩ := List.mem_map.mp hx
    obtain ⟨i, st, n, e, k1, k2, k3, k4, _⟩ := h.ok p hp
    rw [e]
    exact allK_mem k1 k2 k3 k4
  rw [List.length_map] at h1
  exact Nat.le_trans h1 allK_len
theorem valV_mem {κ : Type} [DecidableEq κ] {k : κ} {v : V} : ∀ {kvs : List (κ × V)}, valV kvs k = some v → (k, v) ∈ kvs
  | [], h => by cases h
  | p :: r, h => by
    by_cases e : p.1 = k
    · rw [valV_pos e] at h
      injection h with h
      rw [← e, ← h]
      exact List.mem_cons_self ..
    · rw [valV_neg e] at h
      exact List.mem_cons_of_mem _ (valV_mem h)
theorem Kn.get {H : Hp} {a : Addr} {W : Wd} {l : List Nat} {kvs : List (List Key × V)} (h : Kn H a W l kvs) {i n : Nat} {st : List Nat} {v : V} (hv : valV kvs (kyOf i st n) = some v) : v = .int (An W st (l.drop i) n) := by
  obtain ⟨i', st', n', e, _, _, _, _, e2⟩ := h.ok _ (valV_mem hv)
  obtain ⟨rfl, rfl, rfl⟩ := kyOf_inj e
  exact e2
theorem putK_fst {κ : Type} [DecidableEq κ] (kvs : List (κ × V)) (k : κ) (v : V) : (putK kvs k v).map (·.1) = if k ∈ kvs.map (·.1) then kvs.map (·.1) else kvs.map (·.1) ++ [k] := by
  unfold putK
  by_cases h : k ∈ kvs.map (·.1)
  · rw [if_pos h, if_pos (by
      obtain ⟨p, hp, e⟩ := List.mem_map.mp h
      exact List.any_eq_true.mpr ⟨p, hp, by simpa using e⟩), List.map_map]
    refine List.map_congr_left fun p _ => ?_
    show (if p.1 = k then (p.1, v) else p).1 = p.1
    split <;> rfl
  · rw [if_neg h, if_neg (fun q => h (by
      obtain ⟨p, hp, e⟩ := List.any_eq_true.mp q
      exact List.mem_map.mpr ⟨p, hp, by simpa using e⟩)), List.map_append]
    rfl
theorem putK_mem {κ : Type} [DecidableEq κ] {kvs : List (κ × V)} {k : κ} {v : V} {p : κ × V} (h : p ∈ putK kvs k v) : p ∈ kvs ∨ p = (k, v) := by
  unfold putK at h
  split at h
  · obtain ⟨q, hq, e⟩ := List.mem_map.mp h
    split at e
    · rename_i e'
      exact .inr (by rw [← e, e'])
    · exact .inl (e ▸ hq)
  · rcases List.mem_append.mp h with h | h
    · exact .inl h
    · exact .inr (List.mem_singleton.mp h)
theorem Kn.put {H H1 : Hp} {a : Addr} {W : Wd} {l : List Nat} {kvs : List (List Key × V)} {i n : Nat} {st : List Nat} (h : Kn H a W l kvs) (hi : i ≤ 4) (hn : n ≤ 4) (hs : st.length ≤ 8) (hc : ∀ c ∈ st, c ∈ CLO) (e : H1 a = some (.dT (putK kvs (kyOf i st n) (.int (An W st (l.drop i) n))))) : Kn H1 a W l (putK kvs (kyOf i st n) (.int (An W st (l.drop i) n))) := by
  refine ⟨e, ?_, fun p hp => ?_⟩
  · rw [putK_fst]
    by_cases hm : kyOf i st n ∈ kvs.map (·.1)
    · rw [if_pos hm]; exact h.nd
    · rw [if_neg hm, List.nodup_append]
      refine ⟨h.nd, by simp, fun x hx y hy => ?_⟩
      rw [List.mem_singleton.mp hy]
      exact fun q => hm (q ▸ hx)
  · rcases putK_mem hp with hp | rfl
    · exact h.ok p hp
    · exact ⟨i, st, n, rfl, hi, hn, hs, hc, rfl⟩
theorem Kn.same {H H1 : Hp} {a : Addr} {W : Wd} {l : List Nat} {kvs : List (List Key × V)} (h : Kn H a W l kvs) (s : Same H H1) : Kn H1 a W l kvs := ⟨s _ _ h.ob, h.nd, h.ok⟩
/-! the least number, tried one by one -/
theorem least_len {W : Wd} {l : List Nat} {p : Nat × Nat} (h : mcN l W 0 l.length = some p) : p.1 ≤ l.length := (mc_Mw h).1.len
theorem An_least {W : Wd} {l : List Nat} : (∀ p, mcN l W 0 l.length = some p → An W [] l p.1 = p.2 ∧ p.2 ≠ 0 ∧ ∀ n, n < p.1 → An W [] l n = 0) ∧ (mcN l W 0 l.length = none → ∀ n, An W [] l n = 0) := by
  have h := Ld_whole (W := W) l
  constructor
  · intro p hp
    rw [hp] at h
    exact h
  · intro hp
    rw [hp] at h
    exact h
end Ly

set_option maxHeartbeats 4000000
namespace Ly
open PySem PySem.Spec PyProof.Rows L2 SX
/-! ### counted by their ends, with a great number where there are none -/
def En (x : MC) (e : Int × Int) : Prop := match x with
  | none => 1000 ≤ e.1 ∧ e.2 = 0
  | some p => e = ((p.1 : Int), (p.2 : Int))
def Bt (x : MC) (e : Int × Int) : Prop := match x with
  | none => e = (1000, 0)
  | some p => e = ((p.1 : Int), (p.2 : Int))
theorem Bt.en {x : MC} {e : Int × Int} (h : Bt x e) : En x e := by
  cases x with
  | none => rw [show e = (1000, 0) from h]; exact ⟨Int.le_refl _, rfl⟩
  | some p => exact h
theorem En.nn {x : MC} {e : Int × Int} (h : En x e) : 0 ≤ e.1 ∧ 0 ≤ e.2 := by
  cases x with
  | none => have h : 1000 ≤ e.1 ∧ e.2 = 0 := h; omega
  | some p => rw [show e = ((p.1 : Int), (p.2 : Int)) from h]; exact ⟨Int.natCast_nonneg _, Int.natCast_nonneg _⟩
theorem En.cnt {x : MC} {e : Int × Int} (h : En x e) : e.2 = (cnt x : Int) := by
  cases x with
  | none => exact (show 1000 ≤ e.1 ∧ e.2 = 0 from h).2
  | some p => rw [show e = ((p.1 : Int), (p.2 : Int)) from h]; rfl
def jn (k : Nat) (x y : MC) : MC := mMul (some (k, 1)) (mMul x y)
theorem En.jn {x y : MC} {e f : Int × Int} (h1 : En x e) (h2 : En y f) (k : Nat) : En (jn k x y) ((k : Int) + e.1 + f.1, e.2 * f.2) := by
  have n1 := h1.nn
  have n2 := h2.nn
  unfold Ly.jn
  cases x with
  | none =>
    have h1 : 1000 ≤ e.1 ∧ e.2 = 0 := h1
    refine ⟨?_, ?_⟩
    · show 1000 ≤ (k : Int) + e.1 + f.1
      omega
    · show e.2 * f.2 = 0
      rw [h1.2, Int.zero_mul]
  | some p =>
    cases y with
    | none =>
      have h2 : 1000 ≤ f.1 ∧ f.2 = 0 := h2
      refine ⟨?_, ?_⟩
      · show 1000 ≤ (k : Int) + e.1 + f.1
        omega
      · show e.2 * f.2 = 0
        rw [h2.2, Int.mul_zero]
    | some q =>
      rw [show e = ((p.1 : Int), (p.2 : Int)) from h1, show f = ((q.1 : Int), (q.2 : Int)) from h2]
      show ((k : Int) + p.1 + q.1, (p.2 : Int) * q.2) = (((k + (p.1 + q.1) : Nat) : Int), ((1 * (p.2 * q.2) : Nat) : Int))
      refine Prod.ext ?_ ?_
      · show (k : Int) + p.1 + q.1 = ((k + (p.1 + q.1) : Nat) : Int)
        omega
      · show (p.2 : Int) * q.2 = ((1 * (p.2 * q.2) : Nat) : Int)
        rw [Nat.one_mul, Int.natCast_mul]
def totM : List MC → MC
  | [] => none
  | x :: xs => mAdd x (totM xs)
theorem totM_app : ∀ xs ys : List MC, totM (xs ++ ys) = mAdd (totM xs) (totM ys)
  | [], ys => rfl
  | x :: xs, ys => by
    show mAdd x (totM (xs ++ ys)) = mAdd (mAdd x (totM xs)) (totM ys)
    rw [totM_app xs ys, mAdd_assoc]
theorem mAdd_lc (x y z : MC) : mAdd x (mAdd y z) = mAdd y (mAdd x z) := by rw [← mAdd_assoc, mAdd_comm x y, mAdd_assoc]
theorem totM_flat3 {α : Type} (A B C : α → List MC) : ∀ xs : List α, totM (xs.flatMap fun o => A o ++ (B o ++ C o)) = mAdd (totM (xs.flatMap A)) (mAdd (totM (xs.flatMap B)) (totM (xs.flatMap C)))
  | [] => rfl
  | x :: xs => by
    rw [List.flatMap_cons, List.flatMap_cons, List.flatMap_cons, List.flatMap_cons, totM_app, totM_app, totM_app, totM_app, totM_app, totM_app, totM_flat3 A B C xs]
    simp only [mAdd_assoc]
    rw [mAdd_lc (totM (C x)), mAdd_lc (totM (B x)) (totM (xs.flatMap A)), mAdd_lc (totM (C x))]
theorem totM_mul (z : MC) : ∀ xs : List MC, totM (xs.map fun x => mMul x z) = mMul (totM xs) z
  | [] => rfl
  | x :: xs => by
    show mAdd (mMul x z) (totM (xs.map fun x => mMul x z)) = mMul (mAdd x (totM xs)) z
    rw [totM_mul z xs, mAdd_mul]
theorem totM_range (g : Nat → List MC) : ∀ n, totM ((List.range n).flatMap g) = sm (fun t => totM (g t)) n
  | 0 => rfl
  | n + 1 => by
    rw [List.range_succ, List.flatMap_append, totM_app, totM_range g n, sm]
    congr 1
    show totM (g n ++ []) = _
    rw [List.append_nil]
def tO (c d o : Nat) : Nat := (if c = o then 0 else 1) + (if d = oth o then 0 else 1)
def prO (tn : Bool) (c d : Nat) : MC := totM (OPN.flatMap fun o => if tO c d o = 0 ∨ tn = true then [some (tO c d o, 1)] else [])
theorem prO_few : ∀ tn : Bool, ∀ c ∈ BRK, ∀ d ∈ BRK, prO tn c d = if (few c d).1 = 0 ∨ tn = true then some (few c d) else none := by decide +kernel
theorem clO : ∀ d ∈ BRK, totM (OPN.flatMap fun o => if d = oth o then [w1] else []) = if d ∈ CLO then w1 else none := by decide +kernel
theorem opO : ∀ c ∈ BRK, totM (OPN.flatMap fun o => if c = o then [w1] else []) = if c ∈ OPN then w1 else none := by decide +kernel
/-- what a place and a last sign give, kind by kind -/
def ptA (W : Wd) (lt : Bool) (c d : Nat) (x y : MC) (o : Nat) : List MC := if lt = true ∧ c ∈ BRK ∧ d ∈ BRK ∧ (tO c d o = 0 ∨ W.tn = true) then [jn (tO c d o) x y] else []
def ptB (W : Wd) (d : Nat) (x z : MC) (o : Nat) : List MC := if d = oth o ∧ W.pt = true then [jn 1 x z] else []
def ptC (W : Wd) (c : Nat) (x u : MC) (o : Nat) : List MC := if c = o ∧ W.pt = true then [jn 1 x u] else []
theorem flat_none {α β : Type} : ∀ xs : List α, (xs.flatMap fun _ => ([] : List β)) = []
  | [] => rfl
  | x :: xs => by rw [List.flatMap_cons, flat_none xs]; rfl
theorem flat_congr {α β : Type} {f g : α → List β} : ∀ {xs : List α}, (∀ x ∈ xs, f x = g x) → xs.flatMap f = xs.flatMap g
  | [], _ => rfl
  | x :: xs, h => by rw [List.flatMap_cons, List.flatMap_cons, h x (List.mem_cons_self ..), flat_congr fun y hy => h y (List.mem_cons_of_mem _ hy)]
theorem flat_map {α β γ : Type} (f : α → List β) (g : β → γ) : ∀ xs : List α, (xs.flatMap fun x => (f x).map g) = (xs.flatMap f).map g
  | [] => rfl
  | x :: xs => by rw [List.flatMap_cons, List.flatMap_cons, flat_map f g xs, List.map_append]
theorem tot_ptA (W : Wd) (lt : Bool) (c d : Nat) (x y : MC) : totM (OPN.flatMap (ptA W lt c d x y)) = if lt = true ∧ c ∈ BRK ∧ d ∈ BRK ∧ ((few c d).1 = 0 ∨ W.tn = true) then mMul (some (few c d)) (mMul x y) else none := by
  by_cases h : lt = true ∧ c ∈ BRK ∧ d ∈ BRK
  · obtain ⟨h1, h2, h3⟩ := h
    have e : OPN.flatMap (ptA W lt c d x y) = (OPN.flatMap fun o => if tO c d o = 0 ∨ W.tn = true then [some (tO c d o, 1)] else []).map fun q => mMul q (mMul x y) := by
      rw [← flat_map]
      refine flat_congr fun o _ => ?_
      unfold ptA
      by_cases k : tO c d o = 0 ∨ W.tn = true
      · rw [if_pos ⟨h1, h2, h3, k⟩, if_pos k]; rfl
      · rw [if_neg (fun q => k q.2.2.2), if_neg k]; rfl
    rw [e, totM_mul]
    have := prO_few W.tn c h2 d h3
    unfold prO at this
    rw [this]
    by_cases k : (few c d).1 = 0 ∨ W.tn = true
    · rw [if_pos k, if_pos ⟨h1, h2, h3, k⟩]
    · rw [if_neg k, if_neg (fun q => k q.2.2.2)]; rfl
  · rw [if_neg (fun q => h ⟨q.1, q.2.1, q.2.2.1⟩)]
    have e : OPN.flatMap (ptA W lt c d x y) = OPN.flatMap fun _ => [] := flat_congr fun o _ => by
      unfold ptA
      rw [if_neg (fun q => h ⟨q.1, q.2.1, q.2.2.1⟩)]
    rw [e, flat_none]
    rfl
theorem tot_ptB (W : Wd) (d : Nat) (x z : MC) : totM (OPN.flatMap (ptB W d x z)) = if d ∈ CLO ∧ W.pt = true then jn 1 x z else none := by
  by_cases hd : d ∈ BRK
  · by_cases hp : W.pt = true
    · have e : OPN.flatMap (ptB W d x z) = (OPN.flatMap fun o => if d = oth o then [w1] else []).map fun q => mMul q (mMul x z) := by
        rw [← flat_map]
        refine flat_congr fun o _ => ?_
        unfold ptB
        by_cases k : d = oth o
        · rw [if_pos ⟨k, hp⟩, if_pos k]; rfl
        · rw [if_neg (fun q => k q.1), if_neg k]; rfl
      rw [e, totM_mul, clO d hd]
      by_cases k : d ∈ CLO
      · rw [if_pos k, if_pos ⟨k, hp⟩]; rfl
      · rw [if_neg k, if_neg (fun q => k q.1)]; rfl
    · rw [if_neg (fun q => hp q.2)]
      have e : OPN.flatMap (ptB W d x z) = OPN.flatMap fun _ => [] := flat_congr fun o _ => by unfold ptB; rw [if_neg (fun q => hp q.2)]
      rw [e, flat_none]
      rfl
  · rw [if_neg (fun q => hd (brk_or.mpr (.inr q.1)))]
    have e : OPN.flatMap (ptB W d x z) = OPN.flatMap fun _ => [] := flat_congr fun o ho => by
      unfold ptB
      rw [if_neg (fun q => hd (by rw [q.1]; exact oth_brk o (brk_or.mpr (.inl ho))))]
    rw [e, flat_none]
    rfl
theorem tot_ptC (W : Wd) (c : Nat) (x u : MC) : totM (OPN.flatMap (ptC W c x u)) = if c ∈ OPN ∧ W.pt = true then jn 1 x u else none := by
  by_cases hd : c ∈ BRK
  · by_cases hp : W.pt = true
    · have e : OPN.flatMap (ptC W c x u) = (OPN.flatMap fun o => if c = o then [w1] else []).map fun q => mMul q (mMul x u) := by
        rw [← flat_map]
        refine flat_congr fun o _ => ?_
        unfold ptC
        by_cases k : c = o
        · rw [if_pos ⟨k, hp⟩, if_pos k]; rfl
        · rw [if_neg (fun q => k q.1), if_neg k]; rfl
      rw [e, totM_mul, opO c hd]
      by_cases k : c ∈ OPN
      · rw [if_pos k, if_pos ⟨k, hp⟩]; rfl
      · rw [if_neg k, if_neg (fun q => k q.1)]; rfl
    · rw [if_neg (fun q => hp q.2)]
      have e : OPN.flatMap (ptC W c x u) = OPN.flatMap fun _ => [] := flat_congr fun o _ => by unfold ptC; rw [if_neg (fun q => hp q.2)]
      rw [e, flat_none]
      rfl
  · rw [if_neg (fun q => hd (brk_or.mpr (.inl q.1)))]
    have e : OPN.flatMap (ptC W c x u) = OPN.flatMap fun _ => [] := flat_congr fun o ho => by
      unfold ptC
      rw [if_neg (fun q => hd (by rw [q.1]; exact brk_or.mpr (.inl ho)))]
    rw [e, flat_none]
    rfl
/-- all that the law notes for a stretch: the last sign alone, then place by place, kind by kind -/
def sgL (l : List Nat) (W : Wd) (i j : Nat) : List MC := match l[j]? with
  | none => []
  | some d => if d ∈ BRK then (if W.st = true then [mMul w1 (mcN l W i j)] else []) else [mcN l W i j]
def kdL (l : List Nat) (W : Wd) (i j t : Nat) (o : Nat) : List MC := match l[i + t]?, l[j]? with
  | some c, some d => ptA W (decide (i + t < j)) c d (mcN l W i (i + t)) (mcN l W (i + t + 1) j) o ++ (ptB W d (mcN l W i (i + t)) (mcN l W (i + t) j) o ++ ptC W c (mcN l W i (i + t)) (mcN l W (i + t + 1) (j + 1)) o)
  | _, _ => []
def endL (l : List Nat) (W : Wd) (i j : Nat) : List MC := sgL l W i j ++ (List.range (j - i + 1)).flatMap fun t => OPN.flatMap (kdL l W i j t)
theorem tot_kd {l : List Nat} {W : Wd} {i j t : Nat} (hj : j < l.length) (ht : i + t ≤ j) : totM (OPN.flatMap (kdL l W i j t)) = mAdd (if i + t < j then m3 (prM l W (i + t) j) (mcN l W i (i + t)) (mcN l W (i + t + 1) j) else none) (mAdd (m3 (opM l W (i + t)) (mcN l W i (i + t)) (mcN l W (i + t + 1) (j + 1))) (m3 (clM l W j) (mcN l W i (i + t)) (mcN l W (i + t) j))) := by
  have e1 : l[i + t]? = some l[i + t] := List.getElem?_eq_getElem (by omega)
  have e2 : l[j]? = some l[j] := List.getElem?_eq_getElem hj
  have e : OPN.flatMap (kdL l W i j t) = OPN.flatMap fun o => ptA W (decide (i + t < j)) l[i + t] l[j] (mcN l W i (i + t)) (mcN l W (i + t + 1) j) o ++ (ptB W l[j] (mcN l W i (i + t)) (mcN l W (i + t) j) o ++ ptC W l[i + t] (mcN l W i (i + t)) (mcN l W (i + t + 1) (j + 1)) o) := flat_congr fun o _ => by
    unfold kdL
    rw [e1, e2]
  rw [e, totM_flat3, tot_ptA, tot_ptB, tot_ptC]
  unfold prM opM clM
  rw [e1, e2]
  dsimp only
  congr 1
  · by_cases h : i + t < j
    · rw [if_pos h]
      unfold m3
      by_cases k : l[i + t] ∈ BRK ∧ l[j] ∈ BRK ∧ ((few l[i + t] l[j]).1 = 0 ∨ W.tn = true)
      · rw [if_pos ⟨by simpa using h, k⟩, if_pos k, mMul_assoc]
      · rw [if_neg (fun q => k q.2), if_neg k]; rfl
    · rw [if_neg h, if_neg (fun q => h (by simpa using q.1))]
  · rw [mAdd_comm]
    congr 1
    · unfold m3
      by_cases k : l[i + t] ∈ OPN ∧ W.pt = true
      · rw [if_pos k, if_pos k, mMul_assoc]; rfl
      · rw [if_neg k, if_neg k]; rfl
    · unfold m3
      by_cases k : l[j] ∈ CLO ∧ W.pt = true
      · rw [if_pos k, if_pos k, mMul_assoc]; rfl
      · rw [if_neg k, if_neg k]; rfl
theorem tot_end {l : List Nat} {W : Wd} {i j : Nat} (hi : i ≤ j) (hj : j < l.length) : totM (endL l W i j) = mcN l W i (j + 1) := by
  have e2 : l[j]? = some l[j] := List.getElem?_eq_getElem hj
  unfold endL
  rw [totM_app, totM_range, mc_last hi]
  congr 1
  · unfold sgL sgM
    rw [e2]
    dsimp only
    by_cases h : l[j] ∈ BRK
    · rw [if_pos h, if_pos h]
      by_cases k : W.st = true
      · rw [if_pos k, if_pos k]
        exact mAdd_none _
      · rw [if_neg k, if_neg k]; rfl
    · rw [if_neg h, if_neg h, mOne_mul]
      exact mAdd_none _
  · have e3 : sm (fun t => totM (OPN.flatMap (kdL l W i j t))) (j - i + 1) = sm (fun t => mAdd (if i + t < j then m3 (prM l W (i + t) j) (mcN l W i (i + t)) (mcN l W (i + t + 1) j) else none) (mAdd (m3 (opM l W (i + t)) (mcN l W i (i + t)) (mcN l W (i + t + 1) (j + 1))) (m3 (clM l W j) (mcN l W i (i + t)) (mcN l W (i + t) j)))) (j - i + 1) := sm_congr fun t ht => tot_kd hj (by omega)
    rw [e3, sm_add, sm_add]
    congr 1
    rw [sm, if_neg (by omega), mAdd_none]
    exact sm_congr fun t ht => by rw [if_pos (by omega)]
/-! the least of a list, and how often -/
def Tm (m : Nat) : List MC → Nat
  | [] => 0
  | none :: xs => Tm m xs
  | some q :: xs => (if q.1 = m then q.2 else 0) + Tm m xs
theorem Tm_zero {m : Nat} : ∀ {xs : List MC}, (∀ q, some q ∈ xs → m < q.1) → Tm m xs = 0
  | [], _ => rfl
  | none :: xs, h => Tm_zero (xs := xs) fun q hq => h q (List.mem_cons_of_mem _ hq)
  | some q :: xs, h => by
    have h1 := h q (List.mem_cons_self ..)
    rw [Tm, if_neg (by omega), Tm_zero (xs := xs) fun q hq => h q (List.mem_cons_of_mem _ hq)]
theorem totM_spec : ∀ xs : List MC, (totM xs = none ∧ ∀ x ∈ xs, x = none) ∨ ∃ p, totM xs = some p ∧ (∃ q, some q ∈ xs ∧ q.1 = p.1) ∧ (∀ q, some q ∈ xs → p.1 ≤ q.1) ∧ Tm p.1 xs = p.2
  | [] => .inl ⟨rfl, fun x hx => by cases hx⟩
  | none :: xs => by
    rcases totM_spec xs with ⟨h1, h2⟩ | ⟨p, h1, ⟨q, h2, h3⟩, h4, h5⟩
    · refine .inl ⟨h1, fun x hx => ?_⟩
      rcases List.mem_cons.mp hx with rfl | hx
      · rfl
      · exact h2 x hx
    · refine .inr ⟨p, h1, ⟨q, List.mem_cons_of_mem _ h2, h3⟩, fun q hq => ?_, h5⟩
      rcases List.mem_cons.mp hq with e | hq
      · cases e
      · exact h4 q hq
  | some r :: xs => by
    rcases totM_spec xs with ⟨h1, h2⟩ | ⟨p, h1, ⟨q, h2, h3⟩, h4, h5⟩
    · have hx : ∀ q, ¬ some q ∈ xs := fun q hq => by have := h2 _ hq; cases this
      refine .inr ⟨r, by show mAdd (some r) (totM xs) = _; rw [h1]; rfl, ⟨r, List.mem_cons_self .., rfl⟩, fun q hq => ?_, ?_⟩
      · rcases List.mem_cons.mp hq with e | hq
        · injection e with e; rw [e]; exact Nat.le_refl _
        · exact absurd hq (hx q)
      · rw [Tm, if_pos rfl, Tm_zero (fun q hq => absurd hq (hx q))]
        rfl
    · have e : totM (some r :: xs) = mAdd (some r) (some p) := by show mAdd (some r) (totM xs) = _; rw [h1]
      rw [e]
      by_cases k1 : r.1 < p.1
      · refine .inr ⟨r, by unfold mAdd; exact if_pos k1, ⟨r, List.mem_cons_self .., rfl⟩, fun q hq => ?_, ?_⟩
        · rcases List.mem_cons.mp hq with e | hq
          · injection e with e; rw [e]; exact Nat.le_refl _
          · have := h4 q hq; omega
        · rw [Tm, if_pos rfl, Tm_zero (fun q hq => by have := h4 q hq; omega)]
          rfl
      · by_cases k2 : p.1 < r.1
        · refine .inr ⟨p, by unfold mAdd; exact (if_neg k1).trans (if_pos k2), ⟨q, List.mem_cons_of_mem _ h2, h3⟩, fun q hq => ?_, ?_⟩
          · rcases List.mem_cons.mp hq with e | hq
            · injection e with e; rw [e]; omega
            · exact h4 q hq
          · rw [Tm, if_neg (by omega), h5, Nat.zero_add]
        · refine .inr ⟨(r.1, r.2 + p.2), by unfold mAdd; exact (if_neg k1).trans (if_neg k2), ⟨r, List.mem_cons_self .., rfl⟩, fun q hq => ?_, ?_⟩
          · rcases List.mem_cons.mp hq with e | hq
            · injection e with e; rw [e]; exact Nat.le_refl _
            · have := h4 q hq; show r.1 ≤ q.1; omega
          · show Tm r.1 _ = r.2 + p.2
            rw [Tm, if_pos rfl, show r.1 = p.1 by omega, h5]
def sumE (m : Int) : List (Int × Int) → Int
  | [] => 0
  | e :: es => (if e.1 = m then e.2 else 0) + sumE m es
theorem sumE_Tm {m : Nat} (hm : m < 1000) : ∀ {es : List (Int × Int)} {xs : List MC}, Paired (fun e x => En x e) es xs → sumE m es = (Tm m xs : Int)
  | _, _, .nil => rfl
  | _, _, .cons (a := e) (b := x) h t => by
    have ih := sumE_Tm hm t
    cases x with
    | none =>
      have h : 1000 ≤ e.1 ∧ e.2 = 0 := h
      rw [sumE, if_neg (by omega), ih, Tm, Int.zero_add]
    | some p =>
      have h : e = ((p.1 : Int), (p.2 : Int)) := h
      subst h
      rw [sumE, ih, Tm]
      dsimp only
      by_cases k : p.1 = m
      · rw [if_pos (by omega), if_pos k]
        omega
      · rw [if_neg (by omega), if_neg k]
        omega
theorem sumE_none {m : Int} : ∀ {es : List (Int × Int)} {xs : List MC}, Paired (fun e x => En x e) es xs → (∀ x ∈ xs, x = none) → sumE m es = 0
  | _, _, .nil, _ => rfl
  | _, _, .cons (a := e) (b := x) h t, hx => by
    have ih := sumE_none (m := m) t fun y hy => hx y (List.mem_cons_of_mem _ hy)
    have := hx x (List.mem_cons_self ..)
    subst this
    have h : 1000 ≤ e.1 ∧ e.2 = 0 := h
    rw [sumE, ih, h.2]
    split <;> rfl
theorem en_mem {es : List (Int × Int)} {xs : List MC} (h : Paired (fun e x => En x e) es xs) : (∀ e ∈ es, ∃ x ∈ xs, En x e) ∧ ∀ x ∈ xs, ∃ e ∈ es, En x e := by
  induction h with
  | nil => exact ⟨fun e he => (by cases he), fun x hx => (by cases hx)⟩
  | @cons e x es xs hh t ih =>
    refine ⟨fun e' he => ?_, fun x' hx => ?_⟩
    · rcases List.mem_cons.mp he with rfl | he
      · exact ⟨x, List.mem_cons_self .., hh⟩
      · obtain ⟨y, h1, h2⟩ := ih.1 e' he
        exact ⟨y, List.mem_cons_of_mem _ h1, h2⟩
    · rcases List.mem_cons.mp hx with rfl | hx
      · exact ⟨e, List.mem_cons_self .., hh⟩
      · obtain ⟨y, h1, h2⟩ := ih.2 x' hx
        exact ⟨y, List.mem_cons_of_mem _ h1, h2⟩
theorem best_of {es : List (Int × Int)} {xs : List MC} {v : Int} (h : Paired (fun e x => En x e) es xs) (hb : ∀ p, totM xs = some p → p.1 < 1000) (h1 : v ∈ es.map (·.1) ++ [1000]) (h2 : ∀ y ∈ es.map (·.1) ++ [1000], v ≤ y) : Bt (totM xs) (v, sumE v es) := by
  obtain ⟨m1, m2⟩ := en_mem h
  have hv : v ≤ 1000 := h2 1000 (by simp)
  rcases totM_spec xs with ⟨k1, k2⟩ | ⟨p, k1, ⟨q, k2, k3⟩, k4, k5⟩
  · rw [k1, sumE_none h k2]
    have : v = 1000 := by
      rcases List.mem_append.mp h1 with h1 | h1
      · obtain ⟨e, he, rfl⟩ := List.mem_map.mp h1
        obtain ⟨x, hx, hE⟩ := m1 e he
        have := k2 x hx
        subst this
        have hE : 1000 ≤ e.1 ∧ e.2 = 0 := hE
        omega
      · simpa using h1
    rw [this]
    exact rfl
  · have hp := hb p k1
    rw [k1]
    have hle : v ≤ p.1 := by
      obtain ⟨e, he, hE⟩ := m2 _ k2
      have hE : e = ((q.1 : Int), (q.2 : Int)) := hE
      have := h2 e.1 (List.mem_append_left _ (List.mem_map.mpr ⟨e, he, rfl⟩))
      rw [hE] at this
      simp only at this
      omega
    have hge : (p.1 : Int) ≤ v := by
      rcases List.mem_append.mp h1 with h1 | h1
      · obtain ⟨e, he, rfl⟩ := List.mem_map.mp h1
        obtain ⟨x, hx, hE⟩ := m1 e he
        cases x with
        | none => have hE : 1000 ≤ e.1 ∧ e.2 = 0 := hE; omega
        | some r =>
          have hE : e = ((r.1 : Int), (r.2 : Int)) := hE
          have := k4 r hx
          rw [hE]
          show (p.1 : Int) ≤ (r.1 : Int)
          omega
      · have : v = 1000 := by simpa using h1
        omega
    have hv2 : v = (p.1 : Int) := by omega
    subst hv2
    show ((p.1 : Int), sumE (p.1 : Int) es) = ((p.1 : Int), (p.2 : Int))
    rw [sumE_Tm hp h, k5]
end Ly

set_option maxHeartbeats 4000000
namespace Ly
open PySem PySem.Spec PyProof.Rows L2 SX
/-! ### set(xs) of a list of ints, and its numbers sorted -/
abbrev nS (w : World) : Obj := { cls := .type "set", dict := none, data := .set #[] 0 (.fresh 0 0 (!w.params.followText "set-order")) }
section
variable {P : Program} {w : World} {A : Around} {E : Value → Shared → Prop} {s : Shared}
theorem set_ints {l : Addr} {its : Array Value} (ns : List Int) {Q : Value → Shared → Prop} (hA : A.handled = none) (hl : s.heap.IsList l its) (hi : IntsAre its.toList ns) (hb : ns.length + 1 < scanBound)
    (q : ∀ (h' : Heap) (tk c : Nat), SetR w h' s.heap.objs.size (fun j => decide (j ∈ ns)) c → c ≤ ns.length → (∀ b o, s.heap.get? b = some o → h'.get? b = some o) → Q (.ref s.heap.objs.size) { s with heap := h', toks := tk }) :
    wpAny (model P w) A (call (.type "set") [.ref l]) Q E s := by
  have hn : its.size = ns.length := by rw [← Array.length_toList]; exact IntsAre.length hi
  obtain ⟨_, _, k1⟩ := F.called_set.mro
  have k2 := F.called_set.made
  have k3 := F.called_set.sub
  refine wpAny_call (codeAny_of_tree (wpAny_pure ⟨Code.quiet_builtin _ (by decide +kernel), codeAny_builtin F.entry_type_call ?_⟩))
  rw [Around.under_plain (weight_type_call_type "set" [.ref l] []) rfl]
  have k4 := F.called_set.notType
  have k5 := F.called_set.canCreate
  have k6 := F.typeCall_set_1 (.ref l)
  repeat (any_goals (first | assumption | wp_step))
  refine codeAny_mono (code_set_led1 (.ref l) (E := E) (Q₁ := fun v s1 => v = .ref s.heap.objs.size ∧ s1 = { s with heap := s.heap.push (nS w) }) ⟨rfl, rfl⟩) fun r s1 hr => ?_
  rcases r with e | fl
  · exact hr
  cases fl
  case ret v =>
    obtain ⟨rfl, rfl⟩ := hr
    have g0 : (s.heap.push (nS w)).get? s.heap.objs.size = some (nS w) := Heap.get?_push_size _ rfl
    have g1 : Shared.TypeIs { s with heap := s.heap.push (nS w) } (.ref s.heap.objs.size) "set" := ⟨_, g0, rfl⟩
    have g2 := F.called_set.init.lookup
    have g3 := F.called_set.init.bind (.ref s.heap.objs.size)
    repeat (any_goals (first | assumption | wp_step))
    refine codeAny_mono (codeAny_call_builtin (R := wants (fun v s2 => v = .none ∧ ∃ h' tk c, s2 = { s with heap := h', toks := tk } ∧ SetR w h' s.heap.objs.size (fun j => decide (j ∈ ns)) c ∧ c ≤ ns.length ∧ ∀ b o, s.heap.get? b = some o → h'.get? b = some o) E) F.called_set.init.plain F.entry_set_init (check_set_init_1 g1 ?_)) fun r2 s2 hr2 => ?_
    · obtain ⟨⟨oc, od, oa, os⟩, e1, e2, nl, e3⟩ := hl
      simp only at e2 e3
      subst e2 e3
      have f1 : (s.heap.push (nS w)).get? l = some ⟨.type "list", od, .seq its nl, os⟩ := Heap.get?_push_of_some _ e1
      have f2 : (s.heap.push (nS w)).IsList l its := ⟨_, f1, rfl, nl, rfl⟩
      have f3 := F.sub_list_set
      have f4 := F.sub_list_frozenset
      have f5 : (Value.type "list" == Value.type "dict") = false := by decide
      have lS : l < s.heap.objs.size := Heap.lt_size e1
      unfold Builtin.«set.__init__» noKeywords Builtin.Frozenset.updateFrom
      generalize hG : pyIter = G
      wp_walk
      subst hG
      refine wpAny_pyIter_list f2 (wpAny_bind (wpAny_runValue ?_))
      have z : (s.heap.push (nS w)).objs.size = s.heap.objs.size + 1 := Heap.size_push ..
      have n1 : l ≠ (s.heap.push (nS w)).objs.size := by rw [z]; exact Nat.ne_of_lt (Nat.lt_succ_of_lt lS)
      have n2 : s.heap.objs.size ∉ [(s.heap.push (nS w)).objs.size, l] := by
        rw [z]
        intro hm
        rcases List.mem_cons.mp hm with hm | hm
        · exact absurd hm (Nat.ne_of_lt (Nat.lt_succ_self _))
        · exact absurd (List.mem_singleton.mp hm) (Nat.ne_of_gt lS)
      refine set_update_ints ((Walks.list (show A.in1.in1.in1.handled = none by simp [hA]) _ l n1 its).toS) s.heap.objs.size n2 ns hn hb (fun i v hv => ?_) its.size 0 _ (Nat.sub_zero _) (Nat.zero_le _) ⟨⟨_, Heap.get?_push_size _ rfl, rfl, rfl⟩, f2.push _⟩ ⟨0, Nat.le_refl 0, setR_new_at (Heap.get?_push_of_some _ g0)⟩ fun s' c hm hc hS => ?_
      · have hlt : i < ns.length := by rw [← hn]; exact (Array.getElem?_eq_some_iff.mp hv).1
        obtain ⟨t, e⟩ := PyProof.Rows.IntsAre.int_at hi i v (by rw [Array.getElem?_toList]; exact hv)
        refine ⟨ns[i], t, List.getElem?_eq_getElem hlt, ?_⟩
        rw [e, List.getD_eq_getElem?_getD, List.getElem?_eq_getElem hlt] <;> rfl
      · obtain ⟨h', ge, dr, tk, o'⟩ := s'
        have y1 : ge = s.gens := hm.gens
        have y2 : dr = s.drawn := hm.drawn
        have y3 : o' = s.os := hm.os
        subst y1 y2 y3
        show wpAny _ _ _ _ _ _
        refine wpAny_pure (show wpAny _ _ (ret Value.none) _ _ _ from wpAny_pure ⟨rfl, h', tk, c, rfl, hS, by omega, fun b o e => ?_⟩)
        have hlt : b < s.heap.objs.size := Heap.lt_size e
        refine hm.heap b o (fun hmem => ?_) (Heap.get?_push_of_some _ (Heap.get?_push_of_some _ e))
        rcases List.mem_cons.mp hmem with hb' | hb'
        · exact absurd hb' (Nat.ne_of_lt hlt)
        · exact absurd ((List.mem_singleton.mp hb').trans z) (Nat.ne_of_lt (Nat.lt_succ_of_lt hlt))
    · rcases r2 with e | fl2
      · exact hr2
      cases fl2
      case ret v2 =>
        obtain ⟨rfl, h', tk, c, rfl, y1, y2, y3⟩ := hr2
        repeat (any_goals (first | assumption | wp_step))
        exact q _ _ _ y1 y2 y3
      all_goals exact hr2.elim
  all_goals exact hr.elim
end
section
variable {X : Cx}
def rSetI (K : PySem.W.Frag) (w : World) : List V → Hp → VK → Prop := fun xs H Q => ∃ (a : Addr) (ns : List Int), xs = [V.ref a] ∧ SqL K H a (ns.map V.int) ∧ ns.length < 60 ∧ ∀ (p : Addr) (c : Nat), H p = none → c < 64 → Q (.ref p) (upd H p (SetO w p (fun j => decide (j ∈ ns)) c))
theorem cr_setI (hc : X.calm = true) : CallR X (.type "set") (rSetI X.K X.w) := by
  intro pins s σ H vs us Q I r h
  obtain ⟨a, ns, rfl, hs, hn, q⟩ := h
  obtain ⟨its, rv, pl, _⟩ := I.list hs
  rw [Vals.ref1 r]
  refine set_ints (P := X.prog) (w := X.w) ns (I.ok.hd hc) pl.isList rv.ints (by unfold scanBound; omega) fun h' tk c R hcl k => ?_
  have hfr := I.hok.fresh (Nat.le_refl s.heap.objs.size)
  exact ⟨.ref s.heap.objs.size, _, I.laid (t' := tk) k (Nat.le_refl _) (setO_new R), rfl, q _ c hfr (by omega)⟩
theorem g_setI {K : PySem.W.Frag} {w : World} {H : Hp} {Q : VK} {a : Addr} {ns : List Int} (h : SqL K H a (ns.map V.int)) (hn : ns.length < 60) (q : ∀ (p : Addr) (c : Nat) (H1 : Hp), H p = none → Same H H1 → c < 64 → H1 p = some (SetO w p (fun j => decide (j ∈ ns)) c) → Q (.ref p) H1) : rSetI K w [V.ref a] H Q :=
  ⟨a, ns, rfl, h, hn, fun p c np hc => q p c _ np (Same.new np) hc upd_same⟩
theorem g_sortedSet {w : World} {H : Hp} {Q : VK} {a : Addr} {ns : List Int} {c : Nat} (h : H a = some (SetO w a (fun j => decide (j ∈ ns)) c)) (hc : c < 64) (q : ∀ (p : Addr) (ms : List Int) (H1 : Hp), H p = none → Same H H1 → ms.Pairwise (· < ·) → (∀ k : Int, k ∈ ms ↔ k ∈ ns) → ms.length < 64 → H1 p = some (.lst (ms.map V.int)) → Q (.ref p) H1) : rSortedSet w [V.ref a] H Q :=
  ⟨a, _, c, rfl, h, hc, fun ms p h1 h2 h3 np => q p ms _ np (Same.new np) h1 (fun k => by rw [h2]; exact decide_eq_true_iff) (by omega) upd_same⟩
end
end Ly

set_option maxHeartbeats 4000000
namespace Ly
open PySem PySem.Spec PyProof.Rows L2 SX
/-! ### s.partition(' ') -/
theorem s_eq {x y : Str} (h : x.cps.toList = y.cps.toList) : x = y := by
  cases x with
  | mk a => cases y with
    | mk b =>
      have : a = b := Array.toList_inj.mp h
      rw [this]
theorem part_sp {c : Nat} {w s : List Nat} (hw : c ∉ w) : Txt.partition (S (w ++ c :: s)) (S [c]) = (S w, S [c], S s) := by
  have hAt : ∀ i, StrLaws.At (S (w ++ c :: s)) (S [c]) (S (w ++ c :: s)).length i ↔ (w ++ c :: s)[i]? = some c := fun i => by
    unfold StrLaws.At
    rw [StrLaws.subAt_eq]
    show (i + 1 ≤ (w ++ c :: s).length ∧ (((w ++ c :: s).drop i).take 1 == [c]) = true) ↔ _
    rw [beq_iff_eq]
    constructor
    · rintro ⟨h1, h2⟩
      have h3 := congrArg (fun z => z[0]?) h2
      simpa using h3
    · intro h
      obtain ⟨h1, h2⟩ := List.getElem?_eq_some_iff.mp h
      refine ⟨h1, ?_⟩
      have hd : (w ++ c :: s).drop i = (w ++ c :: s)[i] :: (w ++ c :: s).drop (i + 1) := (List.getElem_cons_drop ..).symm
      rw [hd, h2]
      rfl
  have hx : (w ++ c :: s)[w.length]? = some c := by simp
  unfold Txt.partition
  rcases StrLaws.occ_head (S (w ++ c :: s)) (S [c]) 1 (Nat.le_refl 1) with ⟨h0, hn⟩ | ⟨i, r, h0, hi, hn⟩
  · exact absurd ((hAt w.length).mpr hx) (hn w.length)
  · rw [h0]
    have hi' := (hAt i).mp hi
    have hiw : i = w.length := by
      by_cases hlt : i < w.length
      · rw [List.getElem?_append_left hlt] at hi'
        exact absurd (List.mem_of_getElem? hi') hw
      · by_cases hgt : w.length < i
        · exact absurd ((hAt w.length).mpr hx) (hn w.length hgt)
        · omega
    subst hiw
    dsimp only
    refine Prod.ext (s_eq ?_) (Prod.ext rfl (s_eq ?_))
    · rw [StrLaws.strSub_toList]
      show ((w ++ c :: s).drop 0).take (w.length - 0) = w
      simp
    · rw [StrLaws.strSub_toList]
      show ((w ++ c :: s).drop (w.length + 1)).take ((w ++ c :: s).length - (w.length + 1)) = s
      simp
      exact List.take_of_length_le (by omega)
end Ly

set_option maxHeartbeats 4000000
namespace Ly
open PySem PySem.Spec PyProof.Rows L2
/-! ### data of any kind in heaps, empty dicts too -/
mutual
inductive Dx (H : Hp) : V → PyData → Prop
  | non : Dx H .non .none
  | bl (b : Bool) : Dx H (.bl b) (.bool b)
  | int (i : Int) : Dx H (.int i) (.int i)
  | str (x : Str) : Dx H (.str x) (.str x)
  | lst {a : Addr} {xs : List V} {ds : List PyData} : H a = some (.lst xs) → DxAll H xs ds → Dx H (.ref a) (.list ds)
  | tup {a : Addr} {xs : List V} {ds : List PyData} : H a = some (.tup xs) → DxAll H xs ds → Dx H (.ref a) (.tuple ds)
  | dic {a : Addr} : H a = some (.dK []) → Dx H (.ref a) (.dict [])
inductive DxAll (H : Hp) : List V → List PyData → Prop
  | nil : DxAll H [] []
  | cons {v : V} {vs : List V} {d : PyData} {ds : List PyData} : Dx H v d → DxAll H vs ds → DxAll H (v :: vs) (d :: ds)
end
theorem DxAll.length {H : Hp} : ∀ {vs : List V} {ds : List PyData}, DxAll H vs ds → vs.length = ds.length
  | _, _, .nil => rfl
  | _, _, .cons _ h => by rw [List.length_cons, List.length_cons, h.length]
theorem DxAll.get {H : Hp} : ∀ {vs : List V} {ds : List PyData} {i : Nat} {v : V} {d : PyData}, DxAll H vs ds → vs[i]? = some v → ds[i]? = some d → Dx H v d
  | _, _, _, _, _, .nil, h, _ => by simp at h
  | _, _, 0, _, _, .cons h _, h1, h2 => by
    have e1 := Option.some.inj h1
    have e2 := Option.some.inj h2
    rw [← e1, ← e2]
    exact h
  | _, _, i + 1, _, _, .cons _ hs, h1, h2 => hs.get (i := i) h1 h2
theorem DxAll.append {H : Hp} : ∀ {vs ws : List V} {ds es : List PyData}, DxAll H vs ds → DxAll H ws es → DxAll H (vs ++ ws) (ds ++ es)
  | _, _, _, _, .nil, h => h
  | _, _, _, _, .cons h hs, h' => .cons h (hs.append h')
theorem DxAll.of {H : Hp} : ∀ {vs : List V} {ds : List PyData}, vs.length = ds.length → (∀ (i : Nat) (v : V) (d : PyData), vs[i]? = some v → ds[i]? = some d → Dx H v d) → DxAll H vs ds
  | [], [], _, _ => .nil
  | [], _ :: _, h, _ => by simp at h
  | _ :: _, [], h, _ => by simp at h
  | v :: vs, d :: ds, h, g => .cons (g 0 v d rfl rfl) (DxAll.of (by simpa using h) fun i v d h1 h2 => g (i + 1) v d h1 h2)
mutual
theorem dx_same {H H' : Hp} (s : ∀ b o, H b = some o → H' b = some o) : ∀ {v : V} {d : PyData}, Dx H v d → Dx H' v d
  | _, _, .non => .non
  | _, _, .bl b => .bl b
  | _, _, .int i => .int i
  | _, _, .str l => .str l
  | _, _, .lst h hs => .lst (s _ _ h) (dxs_same s hs)
  | _, _, .tup h hs => .tup (s _ _ h) (dxs_same s hs)
  | _, _, .dic h => .dic (s _ _ h)
theorem dxs_same {H H' : Hp} (s : ∀ b o, H b = some o → H' b = some o) : ∀ {vs : List V} {ds : List PyData}, DxAll H vs ds → DxAll H' vs ds
  | _, _, .nil => .nil
  | _, _, .cons h hs => .cons (dx_same s h) (dxs_same s hs)
end
section
variable {X : Cx} {pins : List (Addr × Obj)} {σ : L2.St} {H : Hp} {s : Shared}
mutual
theorem dx_rk (I : Inv X pins σ H s) : ∀ {v : V} {d : PyData} {u : Value}, Dx H v d → RelV v u → d.showable = true → d.shown.length ≤ sizeLine →
    ∃ as bs, Reads s.heap u d as ∧ ReadAtMost s.heap d.depth bs ∧ ReprK X.prog X.w bs s.heap d.depth u d.shown
  | _, _, _, .non, r, _, _ => by
    cases r
    exact ⟨_, [], .none, (fun _ h => nomatch h), by simp only [PyData.shown]; exact .of_is ReprIs.none _ _ _⟩
  | _, _, _, .bl b, r, _, _ => by
    cases r
    exact ⟨_, [], .bool b, (fun _ h => nomatch h), by simp only [PyData.shown]; exact .of_is (ReprIs.bool b) _ _ _⟩
  | _, _, _, .int i, r, hs, _ => by
    obtain ⟨t, rfl⟩ := r
    exact ⟨_, [], .int i t, (fun _ h => nomatch h), by simp only [PyData.shown]; exact .of_is (ReprIs.int t (by simpa [PyData.showable] using hs)) _ _ _⟩
  | _, _, _, .str x, r, _, hz => by
    obtain ⟨t, rfl⟩ := r
    exact ⟨_, [], .str x t, (fun _ h => nomatch h), by simp only [PyData.shown]; exact .of_is (ReprIs.str x t (by simpa only [PyData.shown] using hz)) _ _ _⟩
  | _, _, _, .lst (a := a) (xs := xs) (ds := ds) h ha, r, hs, hz => by
    cases r
    have hz' : (listText (PyData.shownAll ds)).length ≤ sizeLine := by simpa only [PyData.shown] using hz
    obtain ⟨its, rv, ⟨o, n, h1, h2, _, h3⟩, _⟩ := I.list (.inl (.inl h))
    obtain ⟨as, bs, h4, hb, hk⟩ := dxs_rk I ha rv (by simpa [PyData.showable] using hs) (fun t ht => Nat.le_trans (listText_mem_le ht) hz')
    have r : Reads s.heap (.ref a) (.list ds) _ := .list h1 h2 h3 h4
    have hna : a ∉ bs := not_mem_of_deeper r (by simp only [PyData.depth]; omega) hb
    refine ⟨_, a :: bs, r, ReadAtMost.cons r (by simp only [PyData.depth]; omega) hb, ?_⟩
    simp only [PyData.depth, PyData.shown]
    cases its with
    | nil =>
      cases h4
      simp only [PyData.shownAll, listText_nil]
      exact ReprK.listEmpty h1 h2 h3
    | cons x l => exact ReprK.list h1 h2 h3 hna (by simpa using hk.length_eq) (fun i y e => hk.item i y (by simpa using e))
  | _, _, _, .tup (a := a) (xs := xs) (ds := ds) h ha, r, hs, hz => by
    cases r
    have hz' : (tupleText (PyData.shownAll ds)).length ≤ sizeLine := by simpa only [PyData.shown] using hz
    obtain ⟨its, rv, ⟨o, h1, h2, n, h3⟩, _⟩ := I.tuple (.inl (.inl h))
    obtain ⟨as, bs, h4, hb, hk⟩ := dxs_rk I ha rv (by simpa [PyData.showable] using hs) (fun t ht => Nat.le_trans (tupleText_mem_le ht) hz')
    have r : Reads s.heap (.ref a) (.tuple ds) _ := .tuple h1 h2 h3 h4
    have hna : a ∉ bs := not_mem_of_deeper r (by simp only [PyData.depth]; omega) hb
    refine ⟨_, a :: bs, r, ReadAtMost.cons r (by simp only [PyData.depth]; omega) hb, ?_⟩
    simp only [PyData.depth, PyData.shown]
    exact ReprK.tuple h1 h2 h3 hna hk
  | _, _, _, .dic (a := a) h, r, hs, hz => by
    cases r
    obtain ⟨_, hsys, vs, kv, o, es, ep, h1, h2, h3, _, h4, _⟩ := dk_of I.hok h
    cases kv
    have he : es.toList = [] := by
      cases h5 : es.toList with
      | nil => rfl
      | cons x l => rw [h5] at h4; cases h4
    have e : es = #[] := by cases es; simp_all
    subst e
    have r : Reads s.heap (.ref a) (.dict []) _ := .dict h1 h2.1 h3 .nil .nil
    refine ⟨_, [a], r, ReadAtMost.cons r (by simp only [PyData.depth]; omega) (n := 0) (fun _ h => nomatch h), ?_⟩
    simp only [PyData.depth, PyData.shown]
    exact ReprK.dict h1 h2.1 h3 hsys (by simp) .nil
theorem dxs_rk (I : Inv X pins σ H s) : ∀ {vs : List V} {ds : List PyData} {us : List Value}, DxAll H vs ds → Vals vs us → PyData.showableAll ds = true → (∀ t ∈ PyData.shownAll ds, t.length ≤ sizeLine) →
    ∃ as bs, ReadsAll s.heap us ds as ∧ ReadAtMost s.heap (PyData.depthAll ds) bs ∧ ReprAllK X.prog X.w bs s.heap (PyData.depthAll ds) us (PyData.shownAll ds)
  | _, _, _, .nil, r, _, _ => by
    cases r
    exact ⟨_, [], .nil, (fun _ h => nomatch h), by simp only [PyData.shownAll]; exact .nil⟩
  | _, _, _, .cons (d := d) (ds := ds) h ha, r, hs, hz => by
    cases r with
    | cons r1 r2 =>
      have hs' : d.showable = true ∧ PyData.showableAll ds = true := by simpa [PyData.showableAll] using hs
      obtain ⟨a1, b1, q1, hb1, k1⟩ := dx_rk I h r1 hs'.1 (hz _ (by simp only [PyData.shownAll]; exact List.mem_cons_self ..))
      obtain ⟨a2, b2, q2, hb2, k2⟩ := dxs_rk I ha r2 hs'.2 (fun t ht => hz t (by simp only [PyData.shownAll]; exact List.mem_cons_of_mem _ ht))
      refine ⟨_, b1 ++ b2, .cons q1 q2, ?_, ?_⟩
      · intro b hm
        simp only [PyData.depthAll]
        rcases List.mem_append.mp hm with hm | hm
        · obtain ⟨d', as', r', hd'⟩ := hb1 b hm
          exact ⟨d', as', r', Nat.le_trans hd' (Nat.le_max_left _ _)⟩
        · obtain ⟨d', as', r', hd'⟩ := hb2 b hm
          exact ⟨d', as', r', Nat.le_trans hd' (Nat.le_max_right _ _)⟩
      · simp only [PyData.depthAll, PyData.shownAll]
        exact .cons ((k1.more fun b hb => List.mem_append_left _ hb).level_le (Nat.le_max_left _ _)) (k2.more_le (fun b hb => List.mem_append_right _ hb) (Nat.le_max_right _ _))
end
/-- repr of any thing -/
theorem dx_repr {v : V} {d : PyData} {u : Value} {Q E : Value → Shared → Prop} (I : Inv X pins σ H s) (h : Dx H v d) (r : RelV v u) (hs : d.showable = true) (hz : d.shown.length ≤ sizeLine) (hg : X.A.guards = some []) (hu : X.A.units + (d.depth + 1) < cLine)
    (hQ : ∀ h' t tk, (∀ b o, s.heap.get? b = some o → h'.get? b = some o) → Q (.str d.shown t) { s with heap := h', toks := tk }) : wpAny (model X.prog X.w) X.A (call (.builtin "repr") [u]) Q E s := by
  cases h with
  | non =>
    cases r
    simp only [PyData.shown] at hQ
    exact P.repr_of_none (hQ s.heap _ _ fun _ _ e => e)
  | bl b =>
    cases r
    simp only [PyData.shown] at hQ
    exact P.repr_of_bool (hQ s.heap _ _ fun _ _ e => e)
  | int i =>
    obtain ⟨t, rfl⟩ := r
    simp only [PyData.shown] at hQ
    exact P.repr_of_int (by simpa [PyData.showable] using hs) (hQ s.heap _ _ fun _ _ e => e)
  | str x =>
    obtain ⟨t, rfl⟩ := r
    simp only [PyData.shown] at hQ
    exact P.repr_of_str (hQ s.heap _ _ fun _ _ e => e) (by simpa only [PyData.shown] using hz)
  | @lst a xs ds h ha =>
    cases r
    have hz' : (listText (PyData.shownAll ds)).length ≤ sizeLine := by simpa only [PyData.shown] using hz
    obtain ⟨its, rv, ⟨o, n, h1, h2, _, h3⟩, _⟩ := I.list (.inl (.inl h))
    obtain ⟨as, bs, h4, hb, hk⟩ := dxs_rk I ha rv (by simpa [PyData.showable] using hs) (fun t ht => Nat.le_trans (listText_mem_le ht) hz')
    have r : Reads s.heap (.ref a) (.list ds) _ := .list h1 h2 h3 h4
    have hna : a ∉ bs := not_mem_of_deeper r (by simp only [PyData.depth]; omega) hb
    simp only [PyData.shown] at hQ
    simp only [PyData.depth] at hu
    refine call_repr_slot (T := "list") (by omega) ⟨o, h1, h2⟩ F.slot_list_repr.toG ?_
    cases its with
    | nil =>
      cases h4
      simp only [PyData.shownAll, listText_nil] at hQ
      exact call_list_repr_empty ⟨o, h1, h2⟩ h1 h3 ⟨_, _, rfl, hQ s.heap _ _ fun _ _ e => e⟩
    | cons x l =>
      exact call_list_reprK h1 h2 h3 hna (by simpa using hk.length_eq) (fun i y e => hk.item i y (by simpa using e)) hg (fun b _ => Clear.nil b) (by show X.A.units + 1 + _ < cLine; omega) (fun _ _ e => e) (fun h' t tk hk => ⟨_, _, rfl, hQ h' t tk hk⟩) hz'
  | @tup a xs ds h ha =>
    cases r
    have hz' : (tupleText (PyData.shownAll ds)).length ≤ sizeLine := by simpa only [PyData.shown] using hz
    obtain ⟨its, rv, ⟨o, h1, h2, n, h3⟩, _⟩ := I.tuple (.inl (.inl h))
    obtain ⟨as, bs, h4, hb, hk⟩ := dxs_rk I ha rv (by simpa [PyData.showable] using hs) (fun t ht => Nat.le_trans (tupleText_mem_le ht) hz')
    have r : Reads s.heap (.ref a) (.tuple ds) _ := .tuple h1 h2 h3 h4
    have hna : a ∉ bs := not_mem_of_deeper r (by simp only [PyData.depth]; omega) hb
    simp only [PyData.shown] at hQ
    simp only [PyData.depth] at hu
    refine call_repr_slot (T := "tuple") (by omega) ⟨o, h1, h2⟩ F.slot_tuple_repr ?_
    exact call_tuple_reprK h1 h2 h3 hna hk hg (fun b _ => Clear.nil b) (by show X.A.units + 1 + _ < cLine; omega) (fun _ _ e => e) (fun h' t tk hk => ⟨_, _, rfl, hQ h' t tk hk⟩) hz'
  | @dic a h =>
    cases r
    obtain ⟨_, hsys, vs, kv, o, es, ep, h1, h2, h3, _, h4, _⟩ := dk_of I.hok h
    cases kv
    have he : es.toList = [] := by
      cases h5 : es.toList with
      | nil => rfl
      | cons x l => rw [h5] at h4; cases h4
    have e : es = #[] := by cases es; simp_all
    subst e
    simp only [PyData.shown] at hQ
    simp only [PyData.depth] at hu
    refine call_repr_slot (T := "dict") (by omega) ⟨o, h1, h2.1⟩ F.slot_dict_repr ?_
    exact call_dict_reprK h1 h2.1 h3 hsys (as := []) (d := 0) (by simp) .nil hg (fun b _ => Clear.nil b) (by show X.A.units + 1 + _ < cLine; have : PyData.depthKv [] = 0 := rfl; omega) (fun _ _ e => e) (fun h' t tk hk => ⟨_, _, rfl, hQ h' t tk hk⟩) hz
end
end Ly

set_option maxHeartbeats 4000000
namespace Ly
open PySem PySem.Spec PyProof.Rows L2 SX
/-! ### kinds of things -/
def tyN : PyData → String
  | .none => "NoneType"
  | .bool _ => "bool"
  | .int _ => "int"
  | .str _ => "str"
  | .list _ => "list"
  | .tuple _ => "tuple"
  | .dict _ => "dict"
theorem ty_dx {K : PySem.W.Frag} {H : Hp} : ∀ {v : V} {d : PyData}, Dx H v d → TyX K H v (.type (tyN d))
  | _, _, .non => ty_non
  | _, _, .bl _ => ty_bl
  | _, _, .int _ => ty_int
  | _, _, .str _ => ty_str
  | _, _, .lst h _ => ty_lst h
  | _, _, .tup h _ => ty_tup h
  | _, _, .dic h => .base (.dK h)
inductive Ty5 where
  | str
  | int
  | bool
  | list
  | tuple
def Ty5.nm : Ty5 → String
  | .str => "str"
  | .int => "int"
  | .bool => "bool"
  | .list => "list"
  | .tuple => "tuple"
def isT : PyData → Ty5 → Bool
  | .str _, .str => true
  | .int _, .int => true
  | .bool _, .int => true
  | .bool _, .bool => true
  | .list _, .list => true
  | .tuple _, .tuple => true
  | _, _ => false
theorem kit_isT (d : PyData) (T : Ty5) : kitB (tyN d) T.nm = some (isT d T) := by
  have h : ∀ t ∈ ["NoneType", "bool", "int", "str", "list", "tuple", "dict"], ∀ u ∈ ["str", "int", "bool", "list", "tuple"], kitB t u = some (t == u || (t == "bool" && u == "int")) := by decide +kernel
  have h1 := h (tyN d) (by cases d <;> simp [tyN]) T.nm (by cases T <;> simp [Ty5.nm])
  rw [h1]
  congr 1
  cases d <;> cases T <;> (simp only [tyN, Ty5.nm, isT]; decide)
section
variable {K : PySem.W.Frag} {H : Hp} {Q : VK} {v : V} {d : PyData}
theorem g_isS (h : Dx H v d) (q : Q (.bl (isT d .str)) H) : rIsi K [v, .ty "str"] H Q := g_isi (ty_dx h) (kit_isT d .str) q
theorem g_isI (h : Dx H v d) (q : Q (.bl (isT d .int)) H) : rIsi K [v, .ty "int"] H Q := g_isi (ty_dx h) (kit_isT d .int) q
theorem g_isB (h : Dx H v d) (q : Q (.bl (isT d .bool)) H) : rIsi K [v, .ty "bool"] H Q := g_isi (ty_dx h) (kit_isT d .bool) q
theorem g_isL (h : Dx H v d) (q : Q (.bl (isT d .list)) H) : rIsi K [v, .ty "list"] H Q := g_isi (ty_dx h) (kit_isT d .list) q
theorem g_isU (h : Dx H v d) (q : Q (.bl (isT d .tuple)) H) : rIsi K [v, .ty "tuple"] H Q := g_isi (ty_dx h) (kit_isT d .tuple) q
end
theorem dx_list {H : Hp} {v : V} {d : PyData} (h : Dx H v d) (ht : isT d .list = true) : ∃ a xs ds, v = .ref a ∧ d = .list ds ∧ H a = some (.lst xs) ∧ DxAll H xs ds := by
  cases h with
  | lst h hs => exact ⟨_, _, _, rfl, rfl, h, hs⟩
  | _ => cases ht
theorem dx_tuple {H : Hp} {v : V} {d : PyData} (h : Dx H v d) (ht : isT d .tuple = true) : ∃ a xs ds, v = .ref a ∧ d = .tuple ds ∧ H a = some (.tup xs) ∧ DxAll H xs ds := by
  cases h with
  | tup h hs => exact ⟨_, _, _, rfl, rfl, h, hs⟩
  | _ => cases ht
theorem dx_str {H : Hp} {v : V} {d : PyData} (h : Dx H v d) (ht : isT d .str = true) : ∃ z, v = .str z ∧ d = .str z := by
  cases h with
  | str z => exact ⟨_, rfl, rfl⟩
  | _ => cases ht
theorem dx_int {H : Hp} {v : V} {d : PyData} (h : Dx H v d) (ht : isT d .int = true) (hb : isT d .bool = false) : ∃ z, v = .int z ∧ d = .int z := by
  cases h with
  | int z => exact ⟨_, rfl, rfl⟩
  | bl b => cases hb
  | _ => cases ht
theorem dxa3 {H : Hp} {xs : List V} {ds : List PyData} (h : DxAll H xs ds) (hl : ds.length = 3) : ∃ x y z a b c, xs = [x, y, z] ∧ ds = [a, b, c] ∧ Dx H x a ∧ Dx H y b ∧ Dx H z c := by
  cases h with
  | nil => cases hl
  | cons h1 h =>
    cases h with
    | nil => cases hl
    | cons h2 h =>
      cases h with
      | nil => cases hl
      | cons h3 h =>
        cases h with
        | nil => exact ⟨_, _, _, _, _, _, rfl, rfl, h1, h2, h3⟩
        | cons _ _ => simp at hl
theorem str_S (z : Str) : z = S z.cps.toList := by
  obtain ⟨a⟩ := z
  unfold S
  simp
theorem Tx_of (z : Str) : V.str z = Tx z.cps.toList := by
  show V.str z = V.str (S _)
  rw [← str_S]
/-! ### the size of things -/
def nbK : Nat → Nat
  | 3 => 200
  | 2 => 45
  | 1 => 4
  | _ => 0
mutual
def nc : Nat → PyData → Bool
  | _, .none => true
  | _, .bool _ => true
  | _, .int i => decide (i.natAbs < 10 ^ 100)
  | _, .str s => decide (s.length ≤ 20) && s.cps.toList.all fun c => decide (c < 1114112)
  | k + 1, .list ds => decide (ds.length ≤ nbK (k + 1)) && ncA k ds
  | k + 1, .tuple ds => decide (ds.length ≤ nbK (k + 1)) && ncA k ds
  | 0, .list ds => ds.isEmpty
  | 0, .tuple ds => ds.isEmpty
  | _, .dict ds => ds.isEmpty
def ncA : Nat → List PyData → Bool
  | _, [] => true
  | k, d :: ds => nc k d && ncA k ds
end
theorem ncA_app {k : Nat} : ∀ {ds es : List PyData}, ncA k (ds ++ es) = (ncA k ds && ncA k es)
  | [], es => by rw [List.nil_append, ncA, Bool.true_and]
  | d :: ds, es => by rw [List.cons_append, ncA, ncA, ncA_app, Bool.and_assoc]
theorem ncA_mem {k : Nat} {ds : List PyData} : ncA k ds = true ↔ ∀ d ∈ ds, nc k d = true := by
  induction ds with
  | nil => exact ⟨fun _ d h => (by cases h), fun _ => rfl⟩
  | cons d ds ih =>
    rw [ncA, Bool.and_eq_true, ih]
    constructor
    · rintro ⟨h1, h2⟩ e he
      rcases List.mem_cons.mp he with rfl | he
      · exact h1
      · exact h2 e he
    · exact fun h => ⟨h d (List.mem_cons_self ..), fun e he => h e (List.mem_cons_of_mem _ he)⟩
/-- how long a thing of a level may be shown -/
def szK : Nat → Nat
  | 0 => 204
  | k + 1 => nbK (k + 1) * (szK k + 2) + 204
theorem szK_mono (k : Nat) : 204 ≤ szK k := by cases k <;> unfold szK <;> omega
theorem leaf_int {i : Int} (h : i.natAbs < 10 ^ 100) : i.natAbs.log2 < 1920 ∧ (PyData.shown (.int i)).length ≤ 204 := by
  constructor
  · by_cases h0 : i.natAbs = 0
    · rw [h0]; decide
    · refine (Nat.log2_lt h0).mpr (Nat.lt_trans h (by decide +kernel))
  · have h1 := int_text_length_le10 (k := 100) (by decide) h
    have e : (PyData.shown (.int i)).length = (toString i).length := by
      simp only [PyData.shown]
      exact PySem.ofString_length _
    omega
theorem leaf_str {z : Str} (h : (decide (z.length ≤ 20) && z.cps.toList.all fun c => decide (c < 1114112)) = true) : (reprText z).length ≤ 204 := by
  rw [Bool.and_eq_true] at h
  have h1 := of_decide_eq_true h.1
  have h2 := PySem.StrLaws.reprText_len z fun c hc => Nat.lt_trans (of_decide_eq_true (List.all_eq_true.mp h.2 c hc)) (by decide)
  omega
mutual
theorem nc_ok : ∀ {k : Nat} {d : PyData}, nc k d = true → d.showable = true ∧ d.shown.length ≤ szK k ∧ d.depth ≤ k + 1
  | k, .none, _ => ⟨rfl, Nat.le_trans (by simp only [PyData.shown]; decide) (szK_mono k), Nat.zero_le _⟩
  | k, .bool b, _ => ⟨rfl, Nat.le_trans (by simp only [PyData.shown]; cases b <;> decide) (szK_mono k), Nat.zero_le _⟩
  | k, .int i, h => by
    have h := leaf_int (of_decide_eq_true (by simpa only [nc] using h))
    exact ⟨by simp only [PyData.showable]; exact decide_eq_true h.1, Nat.le_trans h.2 (szK_mono k), Nat.zero_le _⟩
  | k, .str s, h => ⟨rfl, Nat.le_trans (by simp only [PyData.shown]; exact leaf_str (by simpa only [nc] using h)) (szK_mono k), Nat.zero_le _⟩
  | k + 1, .list ds, h => by
    simp only [nc, Bool.and_eq_true] at h
    obtain ⟨h1, h2⟩ := h
    have h1 := of_decide_eq_true h1
    obtain ⟨a1, a2, a3, a4⟩ := ncA_ok h2
    refine ⟨by simp only [PyData.showable]; exact a1, ?_, by simp only [PyData.depth]; omega⟩
    simp only [PyData.shown]
    have z := listText_len_le (PyData.shownAll ds)
    rw [a4] at z
    have : ds.length * (szK k + 2) ≤ nbK (k + 1) * (szK k + 2) := Nat.mul_le_mul_right _ h1
    rw [Nat.mul_add] at this
    rw [szK]
    omega
  | k + 1, .tuple ds, h => by
    simp only [nc, Bool.and_eq_true] at h
    obtain ⟨h1, h2⟩ := h
    have h1 := of_decide_eq_true h1
    obtain ⟨a1, a2, a3, a4⟩ := ncA_ok h2
    refine ⟨by simp only [PyData.showable]; exact a1, ?_, by simp only [PyData.depth]; omega⟩
    simp only [PyData.shown]
    have z := tupleText_len_le (PyData.shownAll ds)
    rw [a4] at z
    have : ds.length * (szK k + 2) ≤ nbK (k + 1) * (szK k + 2) := Nat.mul_le_mul_right _ h1
    rw [Nat.mul_add] at this
    rw [szK]
    omega
  | 0, .list ds, h => by
    have : ds = [] := by simpa [nc] using h
    subst this
    exact ⟨rfl, by decide, by decide⟩
  | 0, .tuple ds, h => by
    have : ds = [] := by simpa [nc] using h
    subst this
    exact ⟨rfl, by decide, by decide⟩
  | k, .dict ds, h => by
    have : ds = [] := by simpa [nc] using h
    subst this
    exact ⟨rfl, Nat.le_trans (by simp only [PyData.shown, PyData.shownKv]; decide) (szK_mono k), by simp only [PyData.depth, PyData.depthKv]; omega⟩
theorem ncA_ok : ∀ {k : Nat} {ds : List PyData}, ncA k ds = true → PyData.showableAll ds = true ∧ ((PyData.shownAll ds).map (·.length)).sum ≤ ds.length * szK k ∧ PyData.depthAll ds ≤ k + 1 ∧ (PyData.shownAll ds).length = ds.length
  | _, [], _ => ⟨rfl, by simp [PyData.shownAll], by simp only [PyData.depthAll]; omega, by simp [PyData.shownAll]⟩
  | k, d :: ds, h => by
    rw [ncA, Bool.and_eq_true] at h
    obtain ⟨a1, a2, a3⟩ := nc_ok h.1
    obtain ⟨b1, b2, b3, b4⟩ := ncA_ok h.2
    refine ⟨by simp only [PyData.showableAll, a1, b1]; rfl, ?_, by simp only [PyData.depthAll]; omega, ?_⟩
    · simp only [PyData.shownAll, List.map_cons, List.sum_cons, List.length_cons]
      rw [Nat.add_mul, Nat.one_mul]
      omega
    · simp only [PyData.shownAll, List.length_cons, b4]
end
theorem nc3 {d : PyData} (h : nc 3 d = true) : d.showable = true ∧ d.shown.length ≤ sizeLine ∧ d.depth ≤ 4 := by
  obtain ⟨h1, h2, h3⟩ := nc_ok h
  exact ⟨h1, Nat.le_trans h2 (by decide), h3⟩
def rReprX (xs : List V) (H : Hp) (Q : VK) : Prop := ∃ v d, xs = [v] ∧ Dx H v d ∧ nc 3 d = true ∧ Q (.str d.shown) H
section
variable {X : Cx}
theorem call_reprX (hg : X.A.guards = some []) (hu : X.A.units + 190 < cLine) : CallR X (.builtin "repr") rReprX := by
  intro pins s σ H xs us Q I r h
  obtain ⟨v, d, rfl, hd, hn, q⟩ := h
  obtain ⟨u, rfl, ru⟩ := vals1 r
  obtain ⟨h1, h2, h3⟩ := nc3 hn
  exact dx_repr I hd ru h1 h2 hg (by omega) (fun h' t tk hk => ⟨.str _, H, I.kept hk, ⟨_, rfl⟩, q⟩)
end
theorem g_reprX {H : Hp} {Q : VK} {v : V} {d : PyData} (h : Dx H v d) (hn : nc 3 d = true) (q : Q (.str d.shown) H) : rReprX [v] H Q := ⟨v, d, rfl, h, hn, q⟩
/-! ### deeds among things -/
def PUT : List Nat := [112, 117, 116]
def STR : List Nat := [115, 116, 114, 105, 107, 101]
def TRN : List Nat := [116, 117, 114, 110]
def oneB (z : Str) (m : List Nat) : Bool := match z.cps.toList with
  | [c] => decide (c ∈ m)
  | _ => false
def okW (l : List Nat) (p : Nat) (w s : Str) : Bool :=
  if w = S PUT then oneB s BRK
  else match l[p]? with
    | none => false
    | some x => decide (x ∈ BRK) && (if w = S STR then decide (s = S []) else decide (w = S TRN) && (oneB s BRK && !decide (s = S [x])))
def dwOf (w s : Str) : Dw := if w = S PUT then .put (s.cps.toList.headD 0) else if w = S STR then .str else .trn (s.cps.toList.headD 0)
/-- the deed that a thing is -/
def dec (l : List Nat) : PyData → Option Deed
  | .tuple [.int p, .str w, .str s] => if 0 ≤ p ∧ p ≤ (l.length : Int) ∧ okW l p.toNat w s = true then some (p.toNat, dwOf w s) else none
  | _ => none
theorem oneB_iff {z : Str} {m : List Nat} : oneB z m = true ↔ ∃ c ∈ m, z = S [c] := by
  unfold oneB
  constructor
  · intro h
    split at h
    · rename_i c hc
      exact ⟨c, of_decide_eq_true h, by rw [str_S z, hc]⟩
    · cases h
  · rintro ⟨c, hc, rfl⟩
    show (match [c] with | [c] => decide (c ∈ m) | _ => false) = true
    exact decide_eq_true hc
theorem hd_S (c : Nat) : (S [c]).cps.toList.headD 0 = c := rfl
theorem dec_some {l : List Nat} {d : PyData} {e : Deed} : dec l d = some e ↔ d = ddD e ∧ okB l e = true := by
  constructor
  · intro h
    unfold dec at h
    split at h
    · rename_i p w s
      split at h
      · rename_i hc
        obtain ⟨h0, h1, h2⟩ := hc
        have he := (Option.some.inj h).symm
        subst he
        obtain ⟨n, rfl⟩ := Int.eq_ofNat_of_zero_le h0
        have hn : n ≤ l.length := by omega
        rw [show ((n : Int)).toNat = n from rfl] at h2 ⊢
        unfold okW at h2
        split at h2
        · rename_i hw
          obtain ⟨c, hc, rfl⟩ := oneB_iff.mp h2
          subst hw
          rw [show dwOf (S PUT) (S [c]) = Dw.put c by unfold dwOf; rw [if_pos rfl]; rfl]
          refine ⟨rfl, ?_⟩
          show (decide (n ≤ l.length) && decide (c ∈ BRK)) = true
          rw [decide_eq_true hn, decide_eq_true hc]
          rfl
        · rename_i hw
          cases hx : l[n]? with
          | none => rw [hx] at h2; cases h2
          | some x =>
            rw [hx] at h2
            dsimp only at h2
            rw [Bool.and_eq_true] at h2
            obtain ⟨hb, h2⟩ := h2
            split at h2
            · rename_i hs
              subst hs
              have h3 := of_decide_eq_true h2
              subst h3
              rw [show dwOf (S STR) (S []) = Dw.str by unfold dwOf; rw [if_neg hw, if_pos rfl]]
              refine ⟨rfl, ?_⟩
              unfold okB
              dsimp only
              rw [hx]
              exact hb
            · rename_i hs
              rw [Bool.and_eq_true, Bool.and_eq_true] at h2
              obtain ⟨k1, k2, k3⟩ := h2
              have k1 := of_decide_eq_true k1
              subst k1
              obtain ⟨c, hc, rfl⟩ := oneB_iff.mp k2
              rw [show dwOf (S TRN) (S [c]) = Dw.trn c by unfold dwOf; rw [if_neg hw, if_neg hs]; rfl]
              refine ⟨rfl, ?_⟩
              unfold okB
              dsimp only
              rw [hx]
              dsimp only
              have k4 : ¬ c = x := fun e => by
                rw [e] at k3
                simp at k3
              rw [hb, decide_eq_true hc, decide_eq_false k4]
              rfl
      · cases h
    · cases h
  · rintro ⟨rfl, hb⟩
    obtain ⟨p, w⟩ := e
    have hp := (okB_le hb).1
    have hp : p ≤ l.length := hp
    show (if 0 ≤ (p : Int) ∧ (p : Int) ≤ (l.length : Int) ∧ okW l ((p : Int)).toNat (S w.w) (S w.s) = true then some (((p : Int)).toNat, dwOf (S w.w) (S w.s)) else none) = some (p, w)
    rw [show ((p : Int)).toNat = p from rfl]
    have n1 : ¬ S STR = S PUT := fun h => by cases S_inj h
    have n2 : ¬ S TRN = S PUT := fun h => by cases S_inj h
    have n3 : ¬ S TRN = S STR := fun h => by cases S_inj h
    have hok : okW l p (S w.w) (S w.s) = true ∧ dwOf (S w.w) (S w.s) = w := by
      cases w with
      | put c =>
        have hb : (decide (p ≤ l.length) && decide (c ∈ BRK)) = true := hb
        rw [Bool.and_eq_true] at hb
        constructor
        · show okW l p (S PUT) (S [c]) = true
          unfold okW
          rw [if_pos rfl]
          exact oneB_iff.mpr ⟨c, of_decide_eq_true hb.2, rfl⟩
        · show dwOf (S PUT) (S [c]) = _
          unfold dwOf
          rw [if_pos rfl]
          rfl
      | str =>
        constructor
        · show okW l p (S STR) (S []) = true
          unfold okW
          rw [if_neg n1]
          unfold okB at hb
          dsimp only at hb
          cases hx : l[p]? with
          | none => rw [hx] at hb; cases hb
          | some x =>
            rw [hx] at hb
            dsimp only at hb ⊢
            rw [hb, if_pos rfl, decide_eq_true rfl]
            rfl
        · show dwOf (S STR) (S []) = _
          unfold dwOf
          rw [if_neg n1, if_pos rfl]
      | trn c =>
        constructor
        · show okW l p (S TRN) (S [c]) = true
          unfold okW
          rw [if_neg n2]
          unfold okB at hb
          dsimp only at hb
          cases hx : l[p]? with
          | none => rw [hx] at hb; cases hb
          | some x =>
            rw [hx] at hb
            dsimp only at hb ⊢
            rw [Bool.and_eq_true, Bool.and_eq_true] at hb
            have k : ¬ S [c] = S [x] := fun h => by
              have : c = x := by injection S_inj h
              rw [this] at hb
              simp at hb
            rw [hb.1, if_neg n3, decide_eq_true rfl, oneB_iff.mpr ⟨c, of_decide_eq_true hb.2.1, rfl⟩, decide_eq_false k]
            rfl
        · show dwOf (S TRN) (S [c]) = _
          unfold dwOf
          rw [if_neg n2, if_neg n3]
          rfl
    rw [if_pos ⟨by omega, by omega, hok.1⟩, hok.2]
/-- deeds that stand as a thing -/
theorem ddD_inj {a b : Deed} (h : ddD a = ddD b) : a = b := by
  obtain ⟨p, w⟩ := a
  obtain ⟨q, v⟩ := b
  have h' : PyData.tuple [.int (p : Nat), .str (S w.w), .str (S w.s)] = PyData.tuple [.int (q : Nat), .str (S v.w), .str (S v.s)] := h
  injection h' with h'
  injection h' with h1 h'
  injection h' with h2 h'
  injection h' with h3 _
  injection h1 with h1
  injection h2 with h2
  injection h3 with h3
  have h2 := S_inj h2
  have h3 := S_inj h3
  rw [dw_inj h2 h3, show p = q by omega]
def okX (l : List Nat) (d : PyData) : Bool := (dec l d).isSome
def decs (l : List Nat) : List PyData → Option (List Deed)
  | [] => some []
  | d :: ds => match dec l d with
    | none => none
    | some e => (decs l ds).map (e :: ·)
theorem decs_all {l : List Nat} : ∀ {ds : List PyData}, ds.all (okX l) = true → ∃ es, decs l ds = some es ∧ ds = es.map ddD ∧ es.all (okB l) = true
  | [], _ => ⟨[], rfl, rfl, rfl⟩
  | d :: ds, h => by
    rw [List.all_cons, Bool.and_eq_true] at h
    obtain ⟨es, h1, h2, h3⟩ := decs_all h.2
    obtain ⟨e, he⟩ := Option.isSome_iff_exists.mp h.1
    obtain ⟨k1, k2⟩ := dec_some.mp he
    exact ⟨e :: es, by rw [decs, he, h1]; rfl, by rw [List.map_cons, ← h2, ← k1], by rw [List.all_cons, k2, h3]; rfl⟩
theorem decs_not {l : List Nat} : ∀ {ds : List PyData}, ds.all (okX l) = false → decs l ds = none
  | [], h => by cases h
  | d :: ds, h => by
    rw [decs]
    cases he : dec l d with
    | none => rfl
    | some e =>
      dsimp only
      rw [List.all_cons, show okX l d = true by unfold okX; rw [he]; rfl, Bool.true_and] at h
      rw [decs_not h]
      rfl
theorem decs_dds {l : List Nat} : ∀ {es : List Deed}, es.all (okB l) = true → decs l (es.map ddD) = some es
  | [], _ => rfl
  | e :: es, h => by
    rw [List.all_cons, Bool.and_eq_true] at h
    rw [List.map_cons, decs, dec_some.mpr ⟨rfl, h.1⟩]
    dsimp only
    rw [decs_dds h.2]
    rfl
/-- whether a thing is deeds of a text -/
def okXs (l : List Nat) : PyData → Bool
  | .list ds => match decs l ds with
    | none => false
    | some es => chB es
  | _ => false
theorem okXs_dds {l : List Nat} {es : List Deed} : okXs l (ddsD es) = okDs l es := by
  show (match decs l (es.map ddD) with | none => false | some es => chB es) = _
  unfold okDs
  cases h : es.all (okB l) with
  | true => rw [decs_dds h]; rfl
  | false =>
    have : (es.map ddD).all (okX l) = false := by
      rw [List.all_map]
      rw [← h]
      congr 1
      funext e
      show (dec l (ddD e)).isSome = okB l e
      cases hb : okB l e with
      | true => rw [dec_some.mpr ⟨rfl, hb⟩]; rfl
      | false =>
        cases hd : dec l (ddD e) with
        | none => rfl
        | some x =>
          obtain ⟨h1, h2⟩ := dec_some.mp hd
          rw [ddD_inj h1, h2] at hb
          cases hb
    rw [decs_not this]
    rfl
theorem okXs_iff {l : List Nat} {d : PyData} : okXs l d = true ↔ ∃ es, d = ddsD es ∧ okDs l es = true := by
  constructor
  · intro h
    unfold okXs at h
    split at h
    · rename_i ds
      cases ha : ds.all (okX l) with
      | false => rw [decs_not ha] at h; cases h
      | true =>
        obtain ⟨es, h1, h2, h3⟩ := decs_all ha
        rw [h1] at h
        exact ⟨es, by rw [h2]; rfl, by unfold okDs; rw [h3]; exact h⟩
    · cases h
  · rintro ⟨es, rfl, h⟩
    rw [okXs_dds]
    exact h
theorem Dds.dx {H : Hp} {a : Addr} {rs : List Addr} {ds : List Deed} (h : Dds H a rs ds) : Dx H (.ref a) (ddsD ds) := by
  refine .lst h.hd (.of (by rw [List.length_map, List.length_map]; exact h.len) fun k v d h1 h2 => ?_)
  rw [List.getElem?_map] at h1 h2
  cases e1 : rs[k]? with
  | none => rw [e1] at h1; cases h1
  | some r =>
    cases e2 : ds[k]? with
    | none => rw [e2] at h2; cases h2
    | some e =>
      rw [e1] at h1
      rw [e2] at h2
      rw [← Option.some.inj h1, ← Option.some.inj h2]
      exact .tup (h.it k r e e1 e2) (.cons (.int _) (.cons (.str _) (.cons (.str _) .nil)))
theorem dx_dds {H : Hp} {v : V} {es : List Deed} (h : Dx H v (ddsD es)) : ∃ a rs, v = .ref a ∧ Dds H a rs es := by
  have h' : Dx H v (.list (es.map ddD)) := h
  cases h' with
  | @lst a xs _ h hs =>
    have hr : ∀ {xs : List V} {es : List Deed}, DxAll H xs (es.map ddD) → ∃ rs : List Addr, xs = rs.map V.ref ∧ rs.length = es.length ∧ ∀ (k : Nat) (r : Addr) (d : Deed), rs[k]? = some r → es[k]? = some d → H r = some (.tup (ddV d)) := by
      intro xs es
      induction es generalizing xs with
      | nil =>
        intro h
        cases h
        exact ⟨[], rfl, rfl, fun k r d h => by simp at h⟩
      | cons e es ih =>
        intro h
        cases h with
        | cons h1 h2 =>
          obtain ⟨rs, rfl, hl, hit⟩ := ih h2
          have h1' : Dx H _ (.tuple [.int (e.1 : Nat), .str (S e.2.w), .str (S e.2.s)]) := h1
          cases h1' with
          | @tup b ys _ k1 k2 =>
            obtain ⟨x, y, z, a, b, c, rfl, e1, q1, q2, q3⟩ := dxa3 k2 rfl
            injection e1 with e1 e2
            injection e2 with e2 e3
            injection e3 with e3 _
            subst e1 e2 e3
            cases q1
            cases q2
            cases q3
            refine ⟨_ :: rs, rfl, by simp [hl], fun k r d g1 g2 => ?_⟩
            cases k with
            | zero =>
              rw [← Option.some.inj g1, ← Option.some.inj g2]
              exact k1
            | succ k => exact hit k r d g1 g2
    obtain ⟨rs, rfl, hl, hit⟩ := hr hs
    exact ⟨a, rs, rfl, h, hl, hit⟩
end Ly

set_option maxHeartbeats 4000000
namespace Ly
open PySem PySem.Spec PyProof.Rows L2 SX
/-! ### readings that tell things -/
/-- the heap without ps -/
def del (ps : List Addr) (H : Hp) : Hp := fun x => if x ∈ ps then none else H x
/-- all of ps stand -/
def Std (ps : List Addr) (H : Hp) : Prop := ∀ p ∈ ps, ∃ o, H p = some o
section
variable {q a b : Addr} {p : List Addr} {o : HO} {H H' H1 : Hp} {v : V} {d : PyData} {vs : List V} {ds : List PyData}
theorem Std.nil : Std [] H := fun _ h => by cases h
theorem Std.cons (h : H a = some o) (hs : Std p H) : Std (a :: p) H := fun x hx => by
  rcases List.mem_cons.mp hx with rfl | hx
  · exact ⟨_, h⟩
  · exact hs x hx
theorem Std.sm (h : Std p H) (s : Same H H') : Std p H' := fun x hx => let ⟨o, e⟩ := h x hx; ⟨o, s _ _ e⟩
theorem Std.bt' (h : Std p H) (s : But b H H') (hb : b ∉ p) : Std p H' := fun x hx => let ⟨o, e⟩ := h x hx; ⟨o, s _ _ (fun q => hb (q ▸ hx)) e⟩
theorem Std.new (h : Std p H) (nb : H b = none) : b ∉ p := fun hb => by
  obtain ⟨o, e⟩ := h b hb
  rw [nb] at e
  cases e
theorem del_get (n : a ∉ p) (h : H a = some o) : del p H a = some o := by unfold del; rw [if_neg n]; exact h
theorem del_un (h : del p H a = some o) : H a = some o ∧ a ∉ p := by
  unfold del at h
  by_cases e : a ∈ p
  · rw [if_pos e] at h; cases h
  · rw [if_neg e] at h; exact ⟨h, e⟩
theorem del_but (hq : q ∈ p) (s : But q H H') : ∀ b o, del p H b = some o → del p H' b = some o := fun b o h => del_get (del_un h).2 (s b o (fun e => (del_un h).2 (e ▸ hq)) (del_un h).1)
theorem del_same (s : Same H H') : ∀ b o, del p H b = some o → del p H' b = some o := fun b o h => del_get (del_un h).2 (s b o (del_un h).1)
/-- what stands off p, in a heap where b is none yet, stands off b, too -/
theorem del_new (nb : H b = none) (s : But b H H') : ∀ c o, del p H c = some o → del (b :: p) H' c = some o := fun c o h => by
  have hcb : c ≠ b := fun e => by have := (del_un h).1; rw [e, nb] at this; cases this
  exact del_get (fun hc => by rcases List.mem_cons.mp hc with e | e; exact hcb e; exact (del_un h).2 e) (s c o hcb (del_un h).1)
theorem del_tl : ∀ c o, del (b :: p) H c = some o → del p H c = some o := fun c o h => del_get (fun hc => (del_un h).2 (List.mem_cons_of_mem _ hc)) (del_un h).1
theorem Dx.nw (h : Dx (del p H) v d) (nb : H b = none) (s : But b H H') : Dx (del (b :: p) H') v d := dx_same (del_new nb s) h
theorem DxAll.nw (h : DxAll (del p H) vs ds) (nb : H b = none) (s : But b H H') : DxAll (del (b :: p) H') vs ds := dxs_same (del_new nb s) h
theorem Dx.tl (h : Dx (del (b :: p) H) v d) : Dx (del p H) v d := dx_same del_tl h
theorem DxAll.tl (h : DxAll (del (b :: p) H) vs ds) : DxAll (del p H) vs ds := dxs_same del_tl h
theorem Dx.un (h : Dx (del p H) v d) : Dx H v d := dx_same (fun b o h => (del_un h).1) h
theorem DxAll.un (h : DxAll (del p H) vs ds) : DxAll H vs ds := dxs_same (fun b o h => (del_un h).1) h
theorem Dx.sm (h : Dx (del p H) v d) (s : Same H H') : Dx (del p H') v d := dx_same (del_same s) h
theorem Dx.bt (h : Dx (del p H) v d) (s : But q H H') (hq : q ∈ p := by simp) : Dx (del p H') v d := dx_same (del_but hq s) h
theorem DxAll.sm (h : DxAll (del p H) vs ds) (s : Same H H') : DxAll (del p H') vs ds := dxs_same (del_same s) h
theorem DxAll.bt (h : DxAll (del p H) vs ds) (s : But q H H') (hq : q ∈ p := by simp) : DxAll (del p H') vs ds := dxs_same (del_but hq s) h
theorem dxa_take {n : Nat} : ∀ {vs : List V} {ds : List PyData}, DxAll H vs ds → DxAll H (vs.take n) (ds.take n) := by
  induction n with
  | zero => intro vs ds _; exact .nil
  | succ n ih =>
    intro vs ds h
    cases h with
    | nil => exact .nil
    | cons h hs => exact .cons h (ih hs)
theorem dxa_drop {n : Nat} : ∀ {vs : List V} {ds : List PyData}, DxAll H vs ds → DxAll H (vs.drop n) (ds.drop n) := by
  induction n with
  | zero => intro vs ds h; exact h
  | succ n ih =>
    intro vs ds h
    cases h with
    | nil => exact .nil
    | cons h hs => exact ih hs
theorem dxa_set {d : PyData} {v : V} (hv : Dx H v d) : ∀ {vs : List V} {ds : List PyData} {n : Nat}, DxAll H vs ds → DxAll H (vs.set n v) (ds.set n d)
  | _, _, _, .nil => .nil
  | _, _, 0, .cons h hs => .cons hv hs
  | _, _, n + 1, .cons h hs => .cons h (dxa_set hv hs)
theorem dxa_rev : ∀ {vs : List V} {ds : List PyData}, DxAll H vs ds → DxAll H vs.reverse ds.reverse
  | _, _, .nil => .nil
  | _, _, .cons h hs => by rw [List.reverse_cons, List.reverse_cons]; exact (dxa_rev hs).append (.cons h .nil)
theorem dxa_rep {n : Nat} (h : DxAll H vs ds) : DxAll H (List.replicate n vs).flatten (List.replicate n ds).flatten := by
  induction n with
  | zero => exact .nil
  | succ n ih => rw [List.replicate_succ, List.replicate_succ, List.flatten_cons, List.flatten_cons]; exact h.append ih
end
def cutL {α : Type} (xs : List α) (lo hi : Option Int) : List α := (xs.drop (HT.sIx xs.length 0 lo)).take (HT.sIx xs.length xs.length hi - HT.sIx xs.length 0 lo)
theorem dxa_cut {H : Hp} {vs : List V} {ds : List PyData} {lo hi : Option Int} (h : DxAll H vs ds) : DxAll H (cutV vs lo hi) (cutL ds lo hi) := by
  show DxAll H ((vs.drop (HT.sIx vs.length 0 lo)).take (HT.sIx vs.length vs.length hi - HT.sIx vs.length 0 lo)) _
  unfold cutL
  rw [h.length]
  exact dxa_take (dxa_drop h)
theorem cutL_from {α : Type} {xs : List α} {i : Nat} : cutL xs (some (i : Int)) none = xs.drop i := by
  unfold cutL
  have e1 : HT.sIx xs.length 0 (some (i : Int)) = min i xs.length := by unfold HT.sIx; simp; omega
  have e2 : HT.sIx xs.length xs.length none = xs.length := by unfold HT.sIx; simp
  rw [e1, e2, List.take_of_length_le (by rw [List.length_drop]; exact Nat.le_refl _)]
  by_cases h : i ≤ xs.length
  · rw [Nat.min_eq_left h]
  · rw [Nat.min_eq_right (by omega), List.drop_eq_nil_of_le (Nat.le_refl _), List.drop_eq_nil_of_le (by omega)]
theorem cutL_to {α : Type} {xs : List α} {i : Nat} : cutL xs none (some (i : Int)) = xs.take i := by
  unfold cutL
  have e1 : HT.sIx xs.length xs.length (some (i : Int)) = min i xs.length := by unfold HT.sIx; simp; omega
  have e2 : HT.sIx xs.length 0 none = 0 := by unfold HT.sIx; simp
  rw [e1, e2, List.drop_zero, Nat.sub_zero]
  by_cases h : i ≤ xs.length
  · rw [Nat.min_eq_left h]
  · rw [Nat.min_eq_right (by omega), List.take_of_length_le (Nat.le_refl _), List.take_of_length_le (by omega)]
theorem cutL_len {α : Type} {xs : List α} {lo hi : Option Int} : (cutL xs lo hi).length ≤ xs.length := by
  unfold cutL
  rw [List.length_take, List.length_drop]
  omega
def Rd (p : List Addr) (t : TE) (σ : L2.St) (H : Hp) (d : PyData) : Prop := ∀ (H1 : Hp) (Q : VK), Same H H1 → (∀ v H2, Same H1 H2 → Dx (del p H2) v d → Q v H2) → t σ H1 Q
def RdA (p : List Addr) (t : TA) (σ : L2.St) (H : Hp) (ds : List PyData) : Prop := ∀ (H1 : Hp) (Q : List V → Hp → Prop), Same H H1 → (∀ vs H2, Same H1 H2 → DxAll (del p H2) vs ds → Q vs H2) → t σ H1 Q
def RdO (p : List Addr) (t : TO) (σ : L2.St) (H : Hp) (o : Option Int) : Prop := ∀ (H1 : Hp) (Q : Option Int → Hp → Prop), Same H H1 → (∀ H2, Same H1 H2 → Q o H2) → t σ H1 Q
section
variable {p : List Addr} {a : Addr} {t ta tb : TE} {ts : TA} {tl th : TO} {σ : L2.St} {H : Hp} {d e : PyData} {ds es : List PyData} {n : Nat} {v : V} {K : PySem.W.Frag} {i j : Int} {lo hi : Option Int}
theorem Rd.go {Q : VK} (h : Rd p t σ H d) (q : ∀ v H2, Same H H2 → Dx (del p H2) v d → Q v H2) : t σ H Q := h H Q (Same.refl _) q
theorem RdA.go {Q : List V → Hp → Prop} (h : RdA p ts σ H ds) (q : ∀ vs H2, Same H H2 → DxAll (del p H2) vs ds → Q vs H2) : ts σ H Q := h H Q (Same.refl _) q
theorem rd_int : Rd p (tC (.int i)) σ H (.int i) := fun H1 Q s q => q _ _ (Same.refl _) (.int i)
theorem rd_str {x : Str} : Rd p (tC (.str x)) σ H (.str x) := fun H1 Q s q => q _ _ (Same.refl _) (.str x)
theorem rd_bl {b : Bool} : Rd p (tC (.bl b)) σ H (.bool b) := fun H1 Q s q => q _ _ (Same.refl _) (.bl b)
theorem rd_non : Rd p (tC .non) σ H .none := fun H1 Q s q => q _ _ (Same.refl _) .non
theorem rd_var (h : σ[n]? = some (some v)) (hd : Dx (del p H) v d) : Rd p (tVar n) σ H d := fun H1 Q s q => ⟨v, h, q _ _ (Same.refl _) (hd.sm s)⟩
theorem rda_nil : RdA p tNil σ H [] := fun H1 Q s q => q _ _ (Same.refl _) .nil
theorem rda_cons (h1 : Rd p ta σ H d) (h2 : RdA p ts σ H ds) : RdA p (tCons ta ts) σ H (d :: ds) := fun H1 Q s q =>
  h1 H1 _ s fun v H2 s2 hv => h2 H2 _ (s.trans s2) fun vs H3 s3 hvs => q _ _ (s2.trans s3) (.cons (hv.sm s3) hvs)
theorem rd_tup (hp : Std p H) (h : RdA p ts σ H ds) (hl : ds.length ≤ 100000) : Rd p (tTup ts) σ H (.tuple ds) := fun H1 Q s q =>
  h H1 _ s fun vs H2 s2 hvs => ⟨by rw [hvs.length]; exact Nat.le_trans hl (by decide), fun b nb => by
    exact q _ _ (s2.trans (Same.new nb)) (.tup (del_get (Std.new (Std.sm (Std.sm hp s) s2) nb) upd_same) (hvs.sm (Same.new nb)))⟩
theorem rd_lst (hp : Std p H) (h : RdA p ts σ H ds) (hl : ds.length ≤ 100000) : Rd p (tLst ts) σ H (.list ds) := fun H1 Q s q =>
  h H1 _ s fun vs H2 s2 hvs => ⟨by rw [hvs.length]; exact Nat.le_trans hl (by decide), fun b nb => by
    exact q _ _ (s2.trans (Same.new nb)) (.lst (del_get (Std.new (Std.sm (Std.sm hp s) s2) nb) upd_same) (hvs.sm (Same.new nb)))⟩
theorem rd_dic (hp : Std p H) : Rd p tDNewK σ H (.dict []) := fun H1 Q s q => fun b nb => by
  exact q _ _ (Same.new nb) (.dic (del_get (Std.new (Std.sm hp s) nb) upd_same))
theorem rd_cat (hp : Std p H) (h1 : Rd p ta σ H (.list ds)) (h2 : Rd p tb σ H (.list es)) (hl : ds.length + es.length ≤ 100000) : Rd p (tOp rCat ta tb) σ H (.list (ds ++ es)) := fun H1 Q s q =>
  h1 H1 _ s fun v H2 s2 hv => h2 H2 _ (s.trans s2) fun w H3 s3 hw => by
    have hv := hv.sm s3
    cases hv with
    | lst k1 k2 =>
      cases hw with
      | lst k3 k4 =>
        refine g_cat (del_un k1).1 (del_un k3).1 (by rw [k2.length, k4.length]; exact hl) fun b H4 nb s4 eb => ?_
        exact q _ _ (s2.trans (s3.trans s4)) (.lst (del_get (Std.new (Std.sm (Std.sm (Std.sm hp s) s2) s3) nb) eb) ((k2.append k4).sm s4))
theorem rd_rep {m : Nat} (hp : Std p H) (h1 : Rd p ta σ H (.list ds)) (h2 : Rd p tb σ H (.int (m : Int))) (hl : ds.length * m ≤ 100000 ∧ m ≤ 100000) : Rd p (tOp rRep ta tb) σ H (.list (List.replicate m ds).flatten) := fun H1 Q s q =>
  h1 H1 _ s fun v H2 s2 hv => h2 H2 _ (s.trans s2) fun w H3 s3 hw => by
    have hv := hv.sm s3
    cases hw with
    | int _ =>
      cases hv with
      | lst k1 k2 =>
        refine g_rep (del_un k1).1 (by rw [k2.length]; exact hl.1) hl.2 fun b H4 nb s4 eb => ?_
        exact q _ _ (s2.trans (s3.trans s4)) (.lst (del_get (Std.new (Std.sm (Std.sm (Std.sm hp s) s2) s3) nb) eb) ((dxa_rep k2).sm s4))
theorem rd_rev (hp : Std p H) (h1 : Rd p ta σ H (.list ds)) : Rd p (tRevL K ta) σ H (.list ds.reverse) := fun H1 Q s q =>
  h1 H1 _ s fun v H2 s2 hv => by
    cases hv with
    | lst k1 k2 =>
      refine g_revL (sq_of (del_un k1).1) fun b H4 nb s4 eb => ?_
      exact q _ _ (s2.trans s4) (.lst (del_get (Std.new (Std.sm (Std.sm hp s) s2) nb) eb) ((dxa_rev k2).sm s4))
theorem rdo_none : RdO p tNoPart σ H none := fun H1 Q s q => q _ (Same.refl _)
theorem rdo_some (h : Rd p ta σ H (.int i)) : RdO p (tPart ta) σ H (some i) := fun H1 Q s q => h H1 _ s fun v H2 s2 hv => by
  cases hv
  exact ⟨i, rfl, q _ s2⟩
theorem rd_cut (hp : Std p H) (h1 : Rd p ta σ H (.list ds)) (hlo : RdO p tl σ H lo) (hhi : RdO p th σ H hi) : Rd p (tSl (rSlL K) ta tl th) σ H (.list (cutL ds lo hi)) := fun H1 Q s q =>
  h1 H1 _ s fun v H2 s2 hv => hlo H2 _ (s.trans s2) fun H3 s3 => hhi H3 _ (s.trans (s2.trans s3)) fun H4 s4 => by
    have hv := hv.sm (s3.trans s4)
    cases hv with
    | lst k1 k2 =>
      refine g_slL (sq_of (del_un k1).1) fun b H5 nb s5 eb => ?_
      exact q _ _ (s2.trans (s3.trans (s4.trans s5))) (.lst (del_get (Std.new (Std.sm (Std.sm (Std.sm (Std.sm hp s) s2) s3) s4) nb) eb) ((dxa_cut k2).sm s5))
theorem rd_tupOf (hp : Std p H) (h1 : RdA p ts σ H [.list ds]) : Rd p (tCB (rTupleOf K) ts) σ H (.tuple ds) := fun H1 Q s q =>
  h1 H1 _ s fun vs H2 s2 hv => by
    cases hv with
    | cons hv h0 =>
      cases h0
      cases hv with
      | lst k1 k2 =>
        refine g_tupleOfL (del_un k1).1 fun b H5 nb s5 eb => ?_
        exact q _ _ (s2.trans s5) (.tup (del_get (Std.new (Std.sm (Std.sm hp s) s2) nb) eb) (k2.sm s5))
theorem rd_lstOf (hp : Std p H) (h1 : RdA p ts σ H [.list ds]) : Rd p (tCB (rListOf K) ts) σ H (.list ds) := fun H1 Q s q =>
  h1 H1 _ s fun vs H2 s2 hv => by
    cases hv with
    | cons hv h0 =>
      cases h0
      cases hv with
      | lst k1 k2 =>
        refine g_listOfL (del_un k1).1 fun b H5 nb s5 eb => ?_
        exact q _ _ (s2.trans s5) (.lst (del_get (Std.new (Std.sm (Std.sm hp s) s2) nb) eb) (k2.sm s5))
theorem rd_I0 {g : Int → Int → Int} (h1 : Rd p ta σ H (.int i)) (h2 : Rd p tb σ H (.int j)) : Rd p (tOp (rI0 fun i j => .int (g i j)) ta tb) σ H (.int (g i j)) := fun H1 Q s q =>
  h1 H1 _ s fun v H2 s2 hv => h2 H2 _ (s.trans s2) fun w H3 s3 hw => by
    cases hv
    cases hw
    exact g_I0 (q _ _ (s2.trans s3) (.int _))
theorem rd_I {C : Int → Int → Prop} {g : Int → Int → Int} (h1 : Rd p ta σ H (.int i)) (h2 : Rd p tb σ H (.int j)) (c : C i j) : Rd p (tOp (rI C fun i j => .int (g i j)) ta tb) σ H (.int (g i j)) := fun H1 Q s q =>
  h1 H1 _ s fun v H2 s2 hv => h2 H2 _ (s.trans s2) fun w H3 s3 hw => by
    cases hv
    cases hw
    exact g_I c (q _ _ (s2.trans s3) (.int _))
theorem rd_U {g : Int → Int} (h1 : Rd p ta σ H (.int i)) : Rd p (tUn (rU fun i => .int (g i)) ta) σ H (.int (g i)) := fun H1 Q s q =>
  h1 H1 _ s fun v H2 s2 hv => by
    cases hv
    exact g_U (q _ _ s2 (.int _))
theorem rd_eqI (h1 : Rd p ta σ H (.int i)) (h2 : Rd p tb σ H (.int j)) : Rd p (tOp rEq ta tb) σ H (.bool (decide (i = j))) := fun H1 Q s q =>
  h1 H1 _ s fun v H2 s2 hv => h2 H2 _ (s.trans s2) fun w H3 s3 hw => by
    cases hv
    cases hw
    refine g_eq rfl ?_
    rw [show decide (V.int i = V.int j) = decide (i = j) by rw [decide_eq_decide]; exact ⟨fun h => V.int.inj h, fun h => by rw [h]⟩]
    exact q _ _ (s2.trans s3) (.bl _)
theorem rd_ixT {l : List Nat} {c : Nat} (h1 : Rd p ta σ H (.str (S l))) (h2 : Rd p tb σ H (.int i)) (hl : l.length ≤ 100000) (hc : atI l i = some c) : Rd p (tOp rIxT1 ta tb) σ H (.str (S [c])) := fun H1 Q s q =>
  h1 H1 _ s fun v H2 s2 hv => h2 H2 _ (s.trans s2) fun w H3 s3 hw => by
    cases hv
    cases hw
    exact g_ixT hl hc (q _ _ (s2.trans s3) (.str _))
theorem rd_ixL (h1 : Rd p ta σ H (.list ds)) (h2 : Rd p tb σ H (.int i)) (hc : atI ds i = some d) : Rd p (tOp (rIxL K) ta tb) σ H d := fun H1 Q s q =>
  h1 H1 _ s fun v H2 s2 hv => h2 H2 _ (s.trans s2) fun w H3 s3 hw => by
    have hv := hv.sm s3
    cases hw
    cases hv with
    | @lst _ xs _ k1 k2 =>
      have hl := k2.length
      unfold atI at hc
      cases hk : ixN ds.length i with
      | none => rw [hk] at hc; cases hc
      | some k =>
        rw [hk] at hc
        have hc' : ds[k]? = some d := hc
        have hkl := (List.getElem?_eq_some_iff.mp hc').1
        obtain ⟨x, hx⟩ : ∃ x, xs[k]? = some x := ⟨_, List.getElem?_eq_getElem (by omega)⟩
        refine g_ixL (sq_of (del_un k1).1) (v := x) ?_ (q _ _ (s2.trans s3) (k2.get hx hc'))
        unfold atI
        rw [hl, hk]
        exact hx
end
section
variable {p : List Addr} {a : Addr} {t ta tb : TE} {ts : TA} {tl th : TO} {σ : L2.St} {H : Hp} {d e : PyData} {ds es : List PyData} {n : Nat} {v : V} {K : PySem.W.Frag} {i j : Int} {lo hi : Option Int}
/-- the first ones to a place, from the end where it is below 0 -/
def cutTo (ds : List PyData) (i : Int) : List PyData := ds.take (if 0 ≤ i then i.toNat else ds.length - (-i).toNat)
theorem cutTo_eq {ds : List PyData} {i : Int} : cutL ds none (some i) = cutTo ds i := by
  unfold cutTo
  by_cases h : 0 ≤ i
  · rw [if_pos h]
    obtain ⟨k, rfl⟩ := Int.eq_ofNat_of_zero_le h
    exact cutL_to
  · rw [if_neg h]
    unfold cutL
    have e2 : HT.sIx ds.length 0 none = 0 := by unfold HT.sIx; simp
    have e1 : HT.sIx ds.length ds.length (some i) = ds.length - (-i).toNat := by
      have hi : i < 0 := by omega
      unfold HT.sIx
      simp [hi]
      omega
    rw [e1, e2, List.drop_zero, Nat.sub_zero]
theorem rd_to (hp : Std p H) (h1 : Rd p ta σ H (.list ds)) (hhi : Rd p tb σ H (.int i)) : Rd p (tSl (rSlL K) ta tNoPart (tPart tb)) σ H (.list (cutTo ds i)) := by
  rw [← cutTo_eq]
  exact rd_cut hp h1 rdo_none (rdo_some hhi)
theorem rd_from (hp : Std p H) (h1 : Rd p ta σ H (.list ds)) (hlo : Rd p tb σ H (.int i)) (h0 : 0 ≤ i) : Rd p (tSl (rSlL K) ta (tPart tb) tNoPart) σ H (.list (ds.drop i.toNat)) := by
  obtain ⟨k, rfl⟩ := Int.eq_ofNat_of_zero_le h0
  rw [show ds.drop ((k : Int)).toNat = cutL ds (some (k : Int)) none from cutL_from.symm]
  exact rd_cut hp h1 (rdo_some hlo) rdo_none
theorem rd_rep2 (hp : Std p H) (h1 : Rd p ta σ H (.list ds)) (hl : ds.length ≤ 1000) : Rd p (tOp rRep ta (tC (.int 2))) σ H (.list (ds ++ ds)) := by
  have := rd_rep (m := 2) hp h1 (rd_int (i := ((2 : Nat) : Int))) ⟨by omega, by decide⟩
  simpa [List.replicate_succ] using this
theorem rd_lenL (h1 : RdA p ts σ H [.list ds]) : Rd p (tCB (rLenL K) ts) σ H (.int ds.length) := fun H1 Q s q =>
  h1 H1 _ s fun vs H2 s2 hv => by
    cases hv with
    | cons hv h0 =>
      cases h0
      cases hv with
      | lst k1 k2 =>
        refine g_lenL (sq_of (del_un k1).1) ?_
        rw [k2.length]
        exact q _ _ s2 (.int _)
theorem rd_lenT {l : List Nat} (h1 : RdA p ts σ H [.str (S l)]) (hl : l.length ≤ 100000) : Rd p (tCB rLenT ts) σ H (.int l.length) := fun H1 Q s q =>
  h1 H1 _ s fun vs H2 s2 hv => by
    cases hv with
    | cons hv h0 =>
      cases h0
      cases hv
      exact g_lenT hl (q _ _ s2 (.int _))
/-- f(x, e) of an own def -/
theorem g_own2 {sp : Sp} {Q : VK} (hv : σ[n]? = some (some v)) (h : Rd p ta σ H (.int i)) (q : ∀ H1, Same H H1 → sp [v, .int i] H1 Q C8.E0) : tOwn sp (tCons (tVar n) (tCons ta tNil)) σ H Q :=
  ⟨v, hv, h H _ (Same.refl _) fun w H2 s2 hw => by cases hw; exact q _ s2⟩
end
section
variable {r : R2} {ta tb : TE} {te : TE} {ts : TA} {σ : L2.St} {H : Hp} {Q : VK} {rr : List V → Hp → VK → Prop}
theorem op_i (h : ta σ H fun x H1 => tb σ H1 fun y H2 => r x y H2 Q) : tOp r ta tb σ H Q := h
theorem lst_i (h : ts σ H fun xs H1 => xs.length ≤ sizeLine ∧ ∀ p, H1 p = none → Q (.ref p) (upd H1 p (.lst xs))) : tLst ts σ H Q := h
theorem cons_i {Q : List V → Hp → Prop} (h : te σ H fun x H1 => ts σ H1 fun xs H2 => Q (x :: xs) H2) : tCons te ts σ H Q := h
theorem nil_i {Q : List V → Hp → Prop} (h : Q [] H) : tNil σ H Q := h
theorem cb_i (h : ts σ H fun vs H1 => rr vs H1 Q) : tCB rr ts σ H Q := h
end
theorem slice_past {l : List Nat} {i : Nat} (h : l.length ≤ i) : Txt.slice (S l) (some (i : Int)) (some ((i : Int) + 1)) = S [] := by
  have e1 : Txt.slice (S l) (some (i : Int)) (some ((i : Int) + 1)) = Txt.slice (S l) (some (i : Int)) none := by
    unfold Txt.slice
    rw [S_len, idx_hi (by omega)]
    have : Builtin.Str.strSliceIndices (some (i : Int)) (some (l.length : Int)) 1 l.length = Builtin.Str.strSliceIndices (some (i : Int)) none 1 l.length := by
      have h1 : ¬ ((l.length : Int) < 0) := by omega
      have h2 : (1 : Int) > 0 := by decide
      have h3 : (0 : Int) ≤ (l.length : Int) := by omega
      simp only [Builtin.Str.strSliceIndices, h1, h2, if_false, if_true, Int.min_self, Int.max_eq_right h3]
    rw [this]
  rw [e1, slice_from (by omega), List.drop_eq_nil_of_le (by omega)]
theorem g_slOne2 {H : Hp} {Q : VK} {l : List Nat} {i : Nat} (h : l.length ≤ 100000) (q : Q (Tx ((l.drop i).take 1)) H) : rSlTx (Tx l) (some (i : Int)) (some ((i : Int) + 1)) H Q := by
  by_cases hi : i ≤ l.length
  · exact g_slOne rfl (by omega) h hi q
  · refine ⟨l, rfl, h, ?_⟩
    rw [List.drop_eq_nil_of_le (by omega)] at q
    rw [slice_past (by omega)]
    exact q
theorem rd_one {p : List Addr} {ta tb tc : TE} {σ : L2.St} {H : Hp} {l : List Nat} {k : Nat} (h1 : Rd p ta σ H (.str (S l))) (h2 : Rd p tb σ H (.int (k : Int))) (h3 : Rd p tc σ H (.int ((k : Int) + 1))) (hl : l.length ≤ 100000) : Rd p (tSl rSlTx ta (tPart tb) (tPart tc)) σ H (.str (S ((l.drop k).take 1))) := fun H1 Q s q =>
  h1 H1 _ s fun v H2 s2 hv => h2 H2 _ (s.trans s2) fun u H3 s3 hu => by
    cases hv
    cases hu
    refine ⟨_, rfl, h3 H3 _ (s.trans (s2.trans s3)) fun w H4 s4 hw => ?_⟩
    cases hw
    exact ⟨_, rfl, g_slOne2 hl (q _ _ (s2.trans (s3.trans s4)) (.str _))⟩
/-! a list that is found, step by step -/
def Fnd (p : List Addr) (f : Addr) (H : Hp) (ds : List PyData) : Prop := ∃ xs, H f = some (.lst xs) ∧ f ∉ p ∧ DxAll (del (f :: p) H) xs ds
section
variable {p : List Addr} {f q : Addr} {t ta tb te : TE} {ts : TA} {σ : L2.St} {H H' : Hp} {d e : PyData} {ds es : List PyData} {n : Nat} {v : V} {K : PySem.W.Frag} {Q : VK}
theorem Fnd.sm (F : Fnd p f H ds) (s : Same H H') : Fnd p f H' ds := by
  obtain ⟨xs, h1, h2, h3⟩ := F
  exact ⟨xs, s _ _ h1, h2, h3.sm s⟩
theorem Fnd.bt (F : Fnd p f H ds) (s : But q H H') (hq : q ∈ p) : Fnd p f H' ds := by
  obtain ⟨xs, h1, h2, h3⟩ := F
  exact ⟨xs, s _ _ (fun e => h2 (e ▸ hq)) h1, h2, h3.bt s (List.mem_cons_of_mem _ hq)⟩
theorem Fnd.dx (F : Fnd p f H ds) : Dx (del p H) (.ref f) (.list ds) := by
  obtain ⟨xs, h1, h2, h3⟩ := F
  exact .lst (del_get h2 h1) h3.tl
theorem cat_go (hp : Std p H) (h1 : Rd p ta σ H (.list ds)) (h2 : Rd p tb σ H (.list es)) (hl : ds.length + es.length ≤ 100000) (q : ∀ f H', Same H H' → H f = none → Fnd p f H' (ds ++ es) → Q (.ref f) H') : tOp rCat ta tb σ H Q :=
  h1 H _ (Same.refl _) fun v H2 s2 hv => h2 H2 _ s2 fun w H3 s3 hw => by
    have hv := hv.sm s3
    cases hv with
    | lst k1 k2 =>
      cases hw with
      | lst k3 k4 =>
        refine g_cat (del_un k1).1 (del_un k3).1 (by rw [k2.length, k4.length]; exact hl) fun b H4 nb s4 eb => ?_
        exact q _ _ (s2.trans (s3.trans s4)) ((s2.trans s3).free nb) ⟨_, eb, (Std.new ((hp.sm s2).sm s3) nb), (k2.append k4).nw nb (Same.toBut s4)⟩
theorem lst_go (hp : Std p H) (h1 : RdA p ts σ H ds) (hl : ds.length ≤ 100000) (q : ∀ f H', Same H H' → H f = none → Fnd p f H' ds → Q (.ref f) H') : tLst ts σ H Q :=
  h1 H _ (Same.refl _) fun vs H2 s2 hvs => ⟨by rw [hvs.length]; exact Nat.le_trans hl (by decide), fun b nb => q _ _ (s2.trans (Same.new nb)) (s2.free nb) ⟨_, upd_same, (Std.new (hp.sm s2) nb), hvs.nw nb (Same.toBut (Same.new nb))⟩⟩
theorem app_go (F : Fnd p f H ds) (hσ : σ[n]? = some (some (.ref f))) (hX : Rd (f :: p) te σ H d) (hl : ds.length ≤ 1000) (q : ∀ H', But f H H' → Fnd p f H' (ds ++ [d]) → Q .non H') : tBM K "list" rAppend (tVar n) (tCons te tNil) σ H Q := by
  obtain ⟨xs, h1, h2, h3⟩ := F
  refine ⟨_, hσ, g_tyL (sq_of h1), hX H _ (Same.refl _) fun v H2 s2 hv => ?_⟩
  refine g_append1 (s2 _ _ h1) (by rw [h3.length]; omega) fun H4 b4 e4 => ?_
  exact q H4 (Same.but s2 b4) ⟨_, e4, h2, ((h3.sm s2).append (.cons hv .nil)).bt b4 (List.mem_cons_self ..)⟩
end
section
variable {K : PySem.W.Frag} {c : TT} {A B : TS} {D : Ends} {σ : L2.St} {H : Hp} {b : Bool}
theorem g_ifS (hA : Tst c σ H b) (h1 : b = true → A D σ H) (h2 : b = false → B D σ H) : tIfS c A B D σ H := by
  refine hA _ ?_
  cases b with
  | true => exact h1 rfl
  | false => exact h2 rfl
theorem g_ifSH {G : Hp → Prop} (hA : TstH c σ H b G) (h1 : ∀ H1, G H1 → b = true → A D σ H1) (h2 : ∀ H1, G H1 → b = false → B D σ H1) : tIfS c A B D σ H := by
  refine hA _ fun H1 g => ?_
  cases b with
  | true => exact h1 H1 g rfl
  | false => exact h2 H1 g rfl
end
theorem eqv_nil {ds : List PyData} : PyData.eqv (.list ds) (.list []) = decide (ds = []) := by
  cases ds with
  | nil => rfl
  | cons d ds => rfl
theorem atI_hd {α : Type} (x : α) (xs : List α) : atI (x :: xs) 0 = some x := by
  unfold atI ixN
  rw [if_pos (by decide), if_pos (by simp only [List.length_cons]; omega)]
  rfl
theorem atI_m1 {α : Type} {xs : List α} {x : α} (h : xs.getLast? = some x) : atI xs (-1) = some x := by
  rcases List.eq_nil_or_concat xs with rfl | ⟨ys, y, rfl⟩
  · cases h
  · rw [List.concat_eq_append] at *
    rw [List.getLast?_concat] at h
    rw [← Option.some.inj h]
    exact atI_last ys y
theorem cutTo_m1 {ds : List PyData} : cutTo ds (-1) = ds.take (ds.length - 1) := by
  unfold cutTo
  rw [if_neg (by decide)]
  rfl
theorem cutTo_nat {ds : List PyData} {k : Nat} : cutTo ds (k : Int) = ds.take k := by
  unfold cutTo
  rw [if_pos (by omega)]
  rfl
section
variable {p : List Addr} {f : Addr} {ts : TA} {σ : L2.St} {H H' : Hp} {d : PyData} {ds : List PyData} {n : Nat} {v : V} {K : PySem.W.Frag} {Q : VK} {R : Hp → Prop}
theorem lof_go (hp : Std p H) (h1 : RdA p ts σ H [.list ds]) (q : ∀ f H', Same H H' → H f = none → Fnd p f H' ds → Q (.ref f) H') : tCB (rListOf K) ts σ H Q :=
  h1 H _ (Same.refl _) fun vs H2 s2 hv => by
    cases hv with
    | cons hv h0 =>
      cases h0
      cases hv with
      | lst k1 k2 =>
        refine g_listOfL (del_un k1).1 fun b H5 nb s5 eb => ?_
        exact q _ _ (s2.trans s5) (s2.free nb) ⟨_, eb, Std.new (hp.sm s2) nb, k2.nw nb (Same.toBut s5)⟩
theorem Fnd.set (F : Fnd p f H ds) (hd : Dx (del (f :: p) H) v d) (hn : n < ds.length) (q : ∀ H', But f H H' → Fnd p f H' (ds.set n d) → R H') : rSetL (.ref f) (.int (n : Int)) v H R := by
  obtain ⟨xs, h1, h2, h3⟩ := F
  refine g_setLn n h1 rfl (by rw [h3.length]; exact hn) fun H3 b3 e3 => ?_
  exact q H3 b3 ⟨_, e3, h2, dxa_set (hd.bt b3 (List.mem_cons_self ..)) (h3.bt b3 (List.mem_cons_self ..))⟩
end
/-! sizes -/
section
variable {k : Nat} {ds es : List PyData} {d : PyData} {i : Int}
theorem nca_nil : ncA k [] = true := by rw [ncA]
theorem nca_cons (h : nc k d = true) (hs : ncA k ds = true) : ncA k (d :: ds) = true := by rw [ncA, h, hs]; rfl
theorem nca_app (h : ncA k ds = true) (hs : ncA k es = true) : ncA k (ds ++ es) = true := by rw [ncA_app, h, hs]; rfl
theorem nca_sub (h : ncA k ds = true) (hs : ∀ d ∈ es, d ∈ ds) : ncA k es = true := ncA_mem.mpr fun d hd => ncA_mem.mp h d (hs d hd)
theorem nca_take {n : Nat} (h : ncA k ds = true) : ncA k (ds.take n) = true := nca_sub h fun d hd => List.mem_of_mem_take hd
theorem nca_drop {n : Nat} (h : ncA k ds = true) : ncA k (ds.drop n) = true := nca_sub h fun d hd => List.mem_of_mem_drop hd
theorem nca_cutTo (h : ncA k ds = true) : ncA k (cutTo ds i) = true := nca_take h
theorem nca_rev (h : ncA k ds = true) : ncA k ds.reverse = true := nca_sub h fun d hd => List.mem_reverse.mp hd
theorem nc_non : nc k .none = true := by cases k <;> rfl
theorem nc_bl {b : Bool} : nc k (.bool b) = true := by cases k <;> rfl
theorem nc_int (h : i.natAbs ≤ 1000000) : nc k (.int i) = true := by
  have : decide (i.natAbs < 10 ^ 100) = true := decide_eq_true (Nat.lt_of_le_of_lt h (by decide))
  cases k <;> exact this
theorem nc_big (h : i.natAbs < 10 ^ 100) : nc k (.int i) = true := by
  have : decide (i.natAbs < 10 ^ 100) = true := decide_eq_true h
  cases k <;> exact this
theorem nc_strS {l : List Nat} (h1 : l.length ≤ 20) (h2 : ∀ c ∈ l, c < 1114112) : nc k (.str (S l)) = true := by
  have : (decide ((S l).length ≤ 20) && (S l).cps.toList.all fun c => decide (c < 1114112)) = true := by
    rw [S_len, decide_eq_true h1, Bool.true_and]
    exact List.all_eq_true.mpr fun c hc => decide_eq_true (h2 c hc)
  cases k <;> exact this
theorem nc_dic : nc k (.dict []) = true := by cases k <;> rfl
theorem nc_tup (hl : ds.length ≤ nbK (k + 1)) (h : ncA k ds = true) : nc (k + 1) (.tuple ds) = true := by
  simp only [nc]
  rw [decide_eq_true hl, h]
  rfl
theorem nc_lst (hl : ds.length ≤ nbK (k + 1)) (h : ncA k ds = true) : nc (k + 1) (.list ds) = true := by
  simp only [nc]
  rw [decide_eq_true hl, h]
  rfl
theorem nc_tup0 : nc k (.tuple []) = true := by cases k <;> rfl
theorem nc_lst0 : nc k (.list []) = true := by cases k <;> rfl
theorem fa_nil {P : PyData → Prop} : ∀ d ∈ ([] : List PyData), P d := fun _ h => by cases h
theorem fa_cons {P : PyData → Prop} {a : PyData} {as : List PyData} (h : P a) (hs : ∀ d ∈ as, P d) : ∀ d ∈ a :: as, P d := fun d hd => by
  rcases List.mem_cons.mp hd with rfl | hd
  · exact h
  · exact hs d hd
theorem fa_app {P : PyData → Prop} {as bs : List PyData} (h : ∀ d ∈ as, P d) (hs : ∀ d ∈ bs, P d) : ∀ d ∈ as ++ bs, P d := fun d hd => by
  rcases List.mem_append.mp hd with hd | hd
  · exact h d hd
  · exact hs d hd
end
/-! a list of things, some of them known -/
theorem dx_lst_inv {H : Hp} {v : V} {ds : List PyData} (h : Dx H v (.list ds)) : ∃ a xs, v = .ref a ∧ H a = some (.lst xs) ∧ DxAll H xs ds := by
  cases h with
  | lst k1 k2 => exact ⟨_, _, rfl, k1, k2⟩
theorem Dds.dxd {H : Hp} {p a : Addr} {rs : List Addr} {ds : List Deed} (h : Dds H a rs ds) {ys : List V} (hp : H p = some (.lst ys)) (hap : a ≠ p) : Dx (del [p] H) (.ref a) (.list (ds.map ddD)) := by
  refine Dds.dx (rs := rs) ⟨del_get (by simpa using hap) h.hd, h.len, fun k r d h1 h2 => del_get (fun e => ?_) (h.it k r d h1 h2)⟩
  rw [List.mem_singleton] at e
  have := h.it k r d h1 h2
  rw [e, hp] at this
  cases this
end Ly

set_option maxHeartbeats 4000000
namespace Ly
open PySem PySem.Spec PyProof.Rows L2 SX
/-! ### calls of defs that show things -/
section
variable {X : Cx} {k j : Nat} {x : Str} {sp : Sp} {p pos : Pos} {e : Expr} {es : List Expr} {t : TA} {f : Addr} {fd : FuncData} {ps : List Str}
theorem run_fnG {pins : List (Addr × Obj)} {σ : L2.St} {H : Hp} {s : Shared} {Q : VK} {us : List Value} {vs : List V} (F : FnG X.prog X.w X.K X.mg X.base C8.CX0 k f fd ps sp) (hr : Room k X.A) (hgd : X.A.guards = some []) (hb : Binds X.K fd ps [])
    (I : Inv X pins σ H s) (r : Vals vs us) (h : sp vs H Q C8.E0) : wpAny (model X.prog X.w) X.A (call (.ref f) us) (EP X pins σ Q) X.xe s := by
  have hl : us.length = ps.length := by rw [← r.length]; exact F.len _ _ _ _ h
  have b := hb s us I.kIn (by rw [List.append_nil]; exact hl)
  rw [List.append_nil] at b
  refine wpAny_call (codeAny_mono (F.run X.A X.stack s H ⟨us, []⟩ us vs Q C8.E0 hr hgd I.env0 b r h) fun r s' hq => ?_)
  cases r with
  | error e => exact pass0 pins σ H s e s' I hq
  | ok fl =>
    cases fl with
    | ret u => exact I.after hq
    | next => exact False.elim hq
    | brk => exact False.elim hq
    | cont => exact False.elim hq
theorem pe_ownG (c : CalG X.prog X.w X.K X.mg X.base k x sp) (hgd : X.A.guards = some []) (hr : Room j X.A) (hk : k ≤ j) (hg : Gl X x) (ha : PA X (e :: es) t)
    (hdb : (x == ("__debug__" : Str)) = false := by decide) (he : starEach (e :: es) X.env = (false, eval e X.env) :: starEach es X.env := by rfl) (hpl : (backTo pos (starEach es X.env)).any (·.1) = false := by rfl) :
    PE X (.Call (.Name x p) (e :: es) [] pos) (tOwn sp t) := by
  obtain ⟨f, fd, ps, F, hm, hkp, b⟩ := c.ex
  refine ⟨fun pins s σ H Q I h => ?_⟩
  refine wpAny_Call_Name_kw (ld_glob I hg hm ?_ hdb)
  refine PySem.W.callWith_K (h₀ := X.base) I.ok.mod.kin hkp (thn (ha.run pos pins s σ H _ I h) fun us s1 ⟨vs, H1, I1, r, q⟩ => ⟨I1.kIn, ?_⟩) he hpl
  exact run_fnG F (hr.mono hk) hgd b I1 r q
end
end Ly

set_option maxHeartbeats 4000000
namespace Ly
open PySem PySem.Spec PyProof.Rows L2 SX
/-! ### == of any list with the empty one; of a thing with itself or a copy -/
def rEqE (K : PySem.W.Frag) : R2 := fun x y H Q => ∃ a b xs, x = .ref a ∧ y = .ref b ∧ SqL K H a xs ∧ SqL K H b [] ∧ Q (.bl (decide (xs = []))) H
def rNeE (K : PySem.W.Frag) : R2 := fun x y H Q => ∃ a b xs, x = .ref a ∧ y = .ref b ∧ SqL K H a xs ∧ SqL K H b [] ∧ Q (.bl (!decide (xs = []))) H
section
variable {X : Cx} {f : Value → Value → Sem Value} {r1 r2 : R2}
theorem op_eqE (hu : X.A.units + 64 < cLine) : OpR X (compareOp .Eq) (rEqE X.K) := by
  intro pins s σ H x y v u Q I rx ry h
  obtain ⟨a, b, xs, rfl, rfl, ha, hb, q⟩ := h
  cases (show v = Value.ref a from rx)
  cases (show u = Value.ref b from ry)
  obtain ⟨us, v1, p1, _⟩ := I.list ha
  obtain ⟨ws, v2, p2, _⟩ := I.list hb
  cases v2
  cases xs with
  | nil =>
    cases v1
    exact SeqAt.RcAt.lists (e := fun _ => true) p1.isList p2.isList rfl (by omega) (fun j h1 => absurd h1 (Nat.not_lt_zero j)) _ _ _ _ ⟨.bl true, H, I, rfl, q⟩
  | cons x xs =>
    cases v1 with
    | cons e1 e2 => exact SeqAt.RcAt.lists_lengths p1.isList p2.isList (by simp) (by omega) _ _ _ _ ⟨.bl false, H, I, rfl, q⟩
theorem op_neE (hu : X.A.units + 64 < cLine) : OpR X (compareOp .NotEq) (rNeE X.K) := by
  intro pins s σ H x y v u Q I rx ry h
  obtain ⟨a, b, xs, rfl, rfl, ha, hb, q⟩ := h
  cases (show v = Value.ref a from rx)
  cases (show u = Value.ref b from ry)
  obtain ⟨us, v1, p1, _⟩ := I.list ha
  obtain ⟨ws, v2, p2, _⟩ := I.list hb
  cases v2
  cases xs with
  | nil =>
    cases v1
    exact SeqAt.RcNeAt.lists (e := fun _ => true) p1.isList p2.isList rfl (by omega) (fun j h1 => absurd h1 (Nat.not_lt_zero j)) _ _ _ _ ⟨.bl false, H, I, rfl, q⟩
  | cons x xs =>
    cases v1 with
    | cons e1 e2 => exact SeqAt.RcNeAt.lists_lengths p1.isList p2.isList (by simp) (by omega) _ _ _ _ ⟨.bl true, H, I, rfl, q⟩
def rOr (r1 r2 : R2) : R2 := fun x y H Q => r1 x y H Q ∨ r2 x y H Q
theorem op_or (h1 : OpR X f r1) (h2 : OpR X f r2) : OpR X f (rOr r1 r2) := fun pins s σ H x y v u Q I rx ry h => h.elim (h1 pins s σ H x y v u Q I rx ry) (h2 pins s σ H x y v u Q I rx ry)
theorem op_eqX (hu : X.A.units + 64 < cLine) : OpR X (compareOp .Eq) (rOr rEq (rOr (rEqV X.K) (rEqD X.K))) := op_or op_eq (op_or (op_eqV hu) (op_eqD hu))
end
section
variable {K : PySem.W.Frag} {H : Hp} {Q : VK} {a b : Addr} {xs : List V} {v : V} {d : PyData}
theorem g_eqE (h1 : SqL K H a xs) (h2 : H b = some (.lst [])) (q : Q (.bl (decide (xs = []))) H) : rEqE K (.ref a) (.ref b) H Q := ⟨a, b, xs, rfl, rfl, h1, sq_of h2, q⟩
theorem g_neE (h1 : SqL K H a xs) (h2 : H b = some (.lst [])) (q : Q (.bl (!decide (xs = []))) H) : rNeE K (.ref a) (.ref b) H Q := ⟨a, b, xs, rfl, rfl, h1, sq_of h2, q⟩
/-- a thing is equal to itself -/
theorem flat_dx {H : Hp} : ∀ {v : V} {d : PyData}, Dx H v d → flatB v = true ∨ ∃ a, v = .ref a
  | _, _, .non => .inl rfl
  | _, _, .bl _ => .inl rfl
  | _, _, .int _ => .inl rfl
  | _, _, .str _ => .inl rfl
  | _, _, .lst _ _ => .inr ⟨_, rfl⟩
  | _, _, .tup _ _ => .inr ⟨_, rfl⟩
  | _, _, .dic _ => .inr ⟨_, rfl⟩
theorem pd_self {H : Hp} : ∀ {vs : List V} {ds : List PyData}, DxAll H vs ds → Paired (EqV K H 1) vs vs
  | _, _, .nil => .nil
  | _, _, .cons h hs => .cons (by
      rcases flat_dx h with f | ⟨a, e⟩
      · exact .inl ⟨rfl, f⟩
      · exact .inr (.inl ⟨a, e, e⟩)) (pd_self hs)
/-- a list and a copy of it, other things and themselves -/
theorem g_eqX (hv : isT d .tuple = true → Dp K H v d ∧ SeqAt.shaped d = true) (h : Dx H v d) (hb : (∃ b xs ds, d = .list ds ∧ v = .ref a ∧ H a = some (.lst xs) ∧ w = .ref b ∧ H b = some (.lst xs)) ∨ (isT d .list = false ∧ w = v)) (q : Q (.bl true) H) : rOr rEq (rOr (rEqV K) (rEqD K)) w v H Q := by
  rcases hb with ⟨b, xs, ds, rfl, rfl, ha, rfl, hb⟩ | ⟨hl, rfl⟩
  · cases h with
    | lst h1 h2 =>
      rw [ha] at h1
      cases h1
      exact .inr (.inl ⟨1, by decide, .inl ⟨b, a, xs, xs, rfl, rfl, sq_of hb, sq_of ha, pd_self h2⟩, q⟩)
  · cases h with
    | non => exact .inl ⟨rfl, q⟩
    | bl b => exact .inl ⟨rfl, by rw [decide_eq_true rfl]; exact q⟩
    | int i => exact .inl ⟨rfl, by rw [decide_eq_true rfl]; exact q⟩
    | str x => exact .inl ⟨rfl, by rw [decide_eq_true rfl]; exact q⟩
    | lst h1 h2 => cases hl
    | tup h1 h2 =>
      obtain ⟨k1, k2⟩ := hv rfl
      exact .inr (.inr (g_eqDp k1 k1 k2 q))
    | @dic b h1 => exact .inr (.inl ⟨1, by decide, .inr ⟨b, b, [], [], rfl, rfl, h1, h1, rfl, fun p hp => by cases hp⟩, q⟩)
end
theorem g_evl {t : TE} {σ : L2.St} {H : Hp} {Q : VK} (v : V) (hE : ∀ Q : VK, Q v H → t σ H Q) (q : Q v H) : t σ H Q := hE Q q
/-! sorted(list of ints), any length -/
def rSortedIN (K : PySem.W.Frag) : List V → Hp → VK → Prop := fun vs H Q => ∃ (a : Addr) (ns : List Int), vs = [V.ref a] ∧ SqL K H a (ns.map V.int) ∧ ∀ (ns' : List Int) (p : Addr), ns'.Perm ns → ns'.Pairwise (· ≤ ·) → H p = none → Q (.ref p) (upd H p (.lst (ns'.map V.int)))
theorem cr_sortedIN {X : Cx} : CallR X (.builtin "sorted") (rSortedIN X.K) := cr_sortedI
theorem g_sortedI {K : PySem.W.Frag} {H : Hp} {Q : VK} {a : Addr} {ns : List Int} (h : SqL K H a (ns.map V.int)) (q : ∀ (ns' : List Int) (p : Addr) (H1 : Hp), ns'.Perm ns → ns'.Pairwise (· ≤ ·) → H p = none → Same H H1 → H1 p = some (.lst (ns'.map V.int)) → Q (.ref p) H1) : rSortedIN K [V.ref a] H Q :=
  ⟨a, ns, rfl, h, fun ns' p h1 h2 np => q ns' p _ h1 h2 np (Same.new np) upd_same⟩
theorem eqv_ints : ∀ xs ys : List Int, PyData.eqv (.list (xs.map PyData.int)) (.list (ys.map PyData.int)) = decide (xs = ys)
  | [], [] => rfl
  | [], y :: ys => rfl
  | x :: xs, [] => rfl
  | x :: xs, y :: ys => by
    have ih := eqv_ints xs ys
    show ((x == y) && PyData.eqv (.list (xs.map PyData.int)) (.list (ys.map PyData.int))) = _
    rw [ih]
    by_cases h1 : x = y
    · subst h1
      by_cases h2 : xs = ys
      · subst h2; simp
      · have hn : ¬ (x :: xs = x :: ys) := fun h => h2 (by injection h)
        rw [decide_eq_false h2, decide_eq_false hn, Bool.and_false]
    · have hn : ¬ (x :: xs = y :: ys) := fun h => h1 (by injection h)
      rw [decide_eq_false hn, show (x == y) = false from beq_false_of_ne h1, Bool.false_and]
end Ly

set_option maxHeartbeats 4000000
namespace Ly
open PySem PySem.Spec PyProof.Rows L2 SX
/-! ### brackets that stand alone, and mendings of them -/
inductive Lon : List Nat → List Nat → Prop
  | base {w : List Nat} : clean w → Lon w []
  | snoc {x ps : List Nat} {c : Nat} {w : List Nat} : Lon x ps → c ∈ BRK → clean w → Lon (x ++ c :: w) (ps ++ [x.length])
theorem Lon.app {x ps v : List Nat} (h : Lon x ps) (hv : clean v) : Lon (x ++ v) ps := by
  cases h with
  | base hw => exact .base (clean_app hw hv)
  | snoc h hc hw =>
    rw [List.append_assoc, List.cons_append]
    exact .snoc h hc (clean_app hw hv)
theorem Lon.push {x ps : List Nat} {c : Nat} (h : Lon x ps) (hc : c ∈ BRK) : Lon (x ++ [c]) (ps ++ [x.length]) := .snoc h hc clean_nil
theorem Lon.letter {x ps : List Nat} {c : Nat} (h : Lon x ps) (hc : c ∉ BRK) : Lon (x ++ [c]) ps := h.app (clean_one hc)
theorem snoc_rec {P : List Nat → Prop} (h0 : P []) (h1 : ∀ l c, P l → P (l ++ [c])) (l : List Nat) : P l := by
  have : ∀ r : List Nat, P r.reverse := fun r => by
    induction r with
    | nil => exact h0
    | cons c r ih => rw [List.reverse_cons]; exact h1 _ _ ih
  have := this l.reverse
  rwa [List.reverse_reverse] at this
theorem Lon.pop {x ps : List Nat} {p c : Nat} (h : Lon x (ps ++ [p])) (hc : x[p]? = some c) (ho : c ∈ OPN) : Lon (x ++ [oth c]) ps := by
  generalize hq : ps ++ [p] = qs at h
  cases h with
  | base _ => exact absurd hq (by simp)
  | @snoc y ps' c' w h1 h2 h3 =>
    obtain ⟨e1, e2⟩ := List.append_inj' hq rfl
    have e2 : p = y.length := by injection e2
    subst e1 e2
    rw [List.getElem?_append_right (Nat.le_refl _), Nat.sub_self] at hc
    have hc : c' = c := Option.some.inj hc
    subst hc
    rw [List.append_assoc, List.cons_append]
    exact h1.app (clean_pair ho h3)
theorem Lon.lt {x ps : List Nat} (h : Lon x ps) : ∀ p ∈ ps, p < x.length ∧ ∃ c ∈ BRK, x[p]? = some c := by
  induction h with
  | base _ => intro p hp; cases hp
  | @snoc y ps' c' w h1 h2 h3 ih =>
    intro p hp
    rcases List.mem_append.mp hp with hp | hp
    · obtain ⟨k1, c, k2, k3⟩ := ih p hp
      refine ⟨by rw [List.length_append]; omega, c, k2, ?_⟩
      rw [List.getElem?_append_left k1]
      exact k3
    · rw [List.mem_singleton.mp hp]
      refine ⟨by rw [List.length_append, List.length_cons]; omega, c', h2, ?_⟩
      rw [List.getElem?_append_right (Nat.le_refl _), Nat.sub_self]
      rfl
theorem okB_mono {x y : List Nat} {d : Deed} (h : okB x d = true) : okB (x ++ y) d = true := by
  obtain ⟨k1, k2⟩ := okB_le h
  obtain ⟨p, w⟩ := d
  have k1 : p ≤ x.length := k1
  cases w with
  | put c =>
    have h : (decide (p ≤ x.length) && decide (c ∈ BRK)) = true := h
    rw [Bool.and_eq_true] at h
    show (decide (p ≤ (x ++ y).length) && decide (c ∈ BRK)) = true
    rw [decide_eq_true (by rw [List.length_append]; omega), h.2]
    rfl
  | str =>
    have k2 : p < x.length := k2 rfl
    unfold okB at h ⊢
    dsimp only at h ⊢
    rw [List.getElem?_append_left k2]
    exact h
  | trn c =>
    have k2 : p < x.length := k2 rfl
    unfold okB at h ⊢
    dsimp only at h ⊢
    rw [List.getElem?_append_left k2]
    exact h
theorem okDs_mono {x y : List Nat} {ds : List Deed} (h : okDs x ds = true) : okDs (x ++ y) ds = true := by
  unfold okDs at h ⊢
  rw [Bool.and_eq_true] at h ⊢
  exact ⟨List.all_eq_true.mpr fun d hd => okB_mono (List.all_eq_true.mp h.1 d hd), h.2⟩
theorem behind_app {x y : List Nat} : ∀ {ds : List Deed}, okDs x ds = true → behind (x ++ y) ds = behind x ds ++ y
  | [], _ => rfl
  | d :: ds, h => by
    obtain ⟨h1, h2, h3⟩ := okDs_cons h
    obtain ⟨l1, l2, _⟩ := chB_low h2
    obtain ⟨k1, k2⟩ := okB_le h1
    have ih := behind_app (y := y) h3
    show app d (behind (x ++ y) ds) = app d (behind x ds) ++ y
    rw [ih]
    obtain ⟨p, w⟩ := d
    have t1 : p ≤ (behind x ds).length := (behind_take k1 l1).2
    cases w with
    | put c =>
      show ((behind x ds ++ y).take p ++ [c] ++ (behind x ds ++ y).drop p) = _
      rw [List.take_append_of_le_length t1, List.drop_append_of_le_length t1]
      show _ = ((behind x ds).take p ++ [c] ++ (behind x ds).drop p) ++ y
      simp
    | str =>
      have t2 : p + 1 ≤ (behind x ds).length := (behind_take (k2 rfl) (l2 rfl)).2
      show (behind x ds ++ y).eraseIdx p = (behind x ds).eraseIdx p ++ y
      rw [List.eraseIdx_append_of_lt_length (by omega)]
    | trn c =>
      have t2 : p + 1 ≤ (behind x ds).length := (behind_take (k2 rfl) (l2 rfl)).2
      show (behind x ds ++ y).set p c = (behind x ds).set p c ++ y
      rw [List.set_append_left _ _ (by omega)]
theorem done_app {x y : List Nat} {ds : List Deed} (h : okDs x ds = true) : doneL (x ++ y) ds = doneL x ds ++ y := by
  rw [done_behind (okDs_mono h), done_behind h, behind_app h]
theorem done_snoc {l x y : List Nat} {ds : List Deed} {d : Deed} (h : okDs x ds = true) (hl : okDs l (ds ++ [d]) = true) (e : app d l = x ++ y) : doneL l (ds ++ [d]) = doneL x ds ++ y := by
  rw [done_behind hl, done_behind h, ← behind_app h, ← e]
  unfold behind
  rw [List.foldr_append]
  rfl
/-! all alone ones struck -/
theorem lon_strike {x ps : List Nat} (h : Lon x ps) : okDs x (ps.map fun p => ((p, Dw.str) : Deed)) = true ∧ clean (doneL x (ps.map fun p => ((p, Dw.str) : Deed))) := by
  induction h with
  | base hw => exact ⟨rfl, by rw [List.map_nil, done_nil]; exact hw⟩
  | @snoc y ps' c' w h1 h2 h3 ih =>
    obtain ⟨i1, i2⟩ := ih
    have hok : okDs (y ++ c' :: w) (ps'.map (fun p => ((p, Dw.str) : Deed)) ++ [((y.length, Dw.str) : Deed)]) = true := by
      refine okDs_snoc (okDs_mono i1) ?_ fun e he => ?_
      · unfold okB
        dsimp only
        rw [List.getElem?_append_right (Nat.le_refl _), Nat.sub_self]
        exact decide_eq_true h2
      · obtain ⟨p, hp, rfl⟩ := List.mem_map.mp he
        exact nxB_lt (h1.lt p hp).1
    rw [List.map_append]
    refine ⟨hok, ?_⟩
    show clean (doneL (y ++ c' :: w) (ps'.map (fun p => ((p, Dw.str) : Deed)) ++ [((y.length, Dw.str) : Deed)]))
    rw [done_snoc (y := w) i1 hok (by
      show (y ++ c' :: w).eraseIdx y.length = y ++ w
      rw [List.eraseIdx_append_of_length_le (Nat.le_refl _), Nat.sub_self]
      rfl)]
    exact clean_app i2 h3
/-! each with a partner beside it -/
def dput (l : List Nat) (p : Nat) : Deed := match l[p]? with
  | some c => if c ∈ OPN then (p + 1, .put (oth c)) else (p, .put (oth c))
  | none => (p, .str)
theorem dput_app {x y : List Nat} {p : Nat} (h : p < x.length) : dput (x ++ y) p = dput x p := by
  unfold dput
  rw [List.getElem?_append_left h]
theorem lon_put {x ps : List Nat} (h : Lon x ps) : okDs x (ps.map (dput x)) = true ∧ (∀ d ∈ ps.map (dput x), d.1 ≤ x.length ∧ d.2.isPut = true) ∧ clean (doneL x (ps.map (dput x))) := by
  induction h with
  | base hw => exact ⟨rfl, by simp, by rw [List.map_nil, done_nil]; exact hw⟩
  | @snoc y ps' c' w h1 h2 h3 ih =>
    obtain ⟨i1, i3, i2⟩ := ih
    have em : (ps' ++ [y.length]).map (dput (y ++ c' :: w)) = ps'.map (dput y) ++ [dput (y ++ c' :: w) y.length] := by
      rw [List.map_append]
      congr 1
      exact List.map_congr_left fun p hp => dput_app (h1.lt p hp).1
    have hg : (y ++ c' :: w)[y.length]? = some c' := by
      rw [List.getElem?_append_right (Nat.le_refl _), Nat.sub_self]
      rfl
    have hd : dput (y ++ c' :: w) y.length = if c' ∈ OPN then (y.length + 1, .put (oth c')) else (y.length, .put (oth c')) := by
      unfold dput
      rw [hg]
    rw [em, hd]
    by_cases ho : c' ∈ OPN
    · rw [if_pos ho]
      have hb : oth c' ∈ BRK := brk_or.mpr (.inr (oth_clo c' ho))
      have hok : okDs (y ++ c' :: w) (ps'.map (dput y) ++ [((y.length + 1, Dw.put (oth c')) : Deed)]) = true := by
        refine okDs_snoc (okDs_mono i1) ?_ fun e he => nxB_put (by have := (i3 e he).1; show e.1 ≤ y.length + 1; omega) (i3 e he).2
        show (decide (y.length + 1 ≤ (y ++ c' :: w).length) && decide (oth c' ∈ BRK)) = true
        rw [decide_eq_true (by rw [List.length_append, List.length_cons]; omega), decide_eq_true hb]
        rfl
      refine ⟨hok, fun d hd => ?_, ?_⟩
      · rcases List.mem_append.mp hd with hd | hd
        · have := i3 d hd
          exact ⟨by rw [List.length_append]; omega, this.2⟩
        · rw [List.mem_singleton.mp hd]
          exact ⟨by show y.length + 1 ≤ _; rw [List.length_append, List.length_cons]; omega, rfl⟩
      · rw [done_snoc (y := c' :: oth c' :: w) i1 hok (by
          show (y ++ c' :: w).take (y.length + 1) ++ [oth c'] ++ (y ++ c' :: w).drop (y.length + 1) = _
          rw [show y ++ c' :: w = (y ++ [c']) ++ w by simp, List.take_append_of_le_length (by simp), List.take_of_length_le (by simp), List.drop_append_of_le_length (by simp), List.drop_of_length_le (by simp)]
          simp)]
        refine clean_app i2 ?_
        have := clean_app (clean_pair ho clean_nil) h3
        simpa using this
    · rw [if_neg ho]
      have hcl : c' ∈ CLO := (brk_or.mp h2).resolve_left ho
      have hoo : oth c' ∈ OPN := oth_opn c' hcl
      have hb : oth c' ∈ BRK := brk_or.mpr (.inl hoo)
      have hok : okDs (y ++ c' :: w) (ps'.map (dput y) ++ [((y.length, Dw.put (oth c')) : Deed)]) = true := by
        refine okDs_snoc (okDs_mono i1) ?_ fun e he => nxB_put (i3 e he).1 (i3 e he).2
        show (decide (y.length ≤ (y ++ c' :: w).length) && decide (oth c' ∈ BRK)) = true
        rw [decide_eq_true (by rw [List.length_append]; omega), decide_eq_true hb]
        rfl
      refine ⟨hok, fun d hd => ?_, ?_⟩
      · rcases List.mem_append.mp hd with hd | hd
        · have := i3 d hd
          exact ⟨by rw [List.length_append]; omega, this.2⟩
        · rw [List.mem_singleton.mp hd]
          exact ⟨by show y.length ≤ _; rw [List.length_append]; omega, rfl⟩
      · rw [done_snoc (y := oth c' :: c' :: w) i1 hok (by
          show (y ++ c' :: w).take y.length ++ [oth c'] ++ (y ++ c' :: w).drop y.length = _
          rw [List.take_append_of_le_length (Nat.le_refl _), List.take_length, List.drop_append_of_le_length (Nat.le_refl _), List.drop_length]
          simp)]
        refine clean_app i2 ?_
        have := clean_app (clean_pair hoo clean_nil) h3
        rw [oth_oth c' h2] at this
        simpa using this
/-! all brackets struck -/
def brkAt (l : List Nat) : List Nat := (List.range l.length).filter fun p => match l[p]? with
  | some c => decide (c ∈ BRK)
  | none => false
theorem brkAt_snoc (l : List Nat) (c : Nat) : brkAt (l ++ [c]) = brkAt l ++ if c ∈ BRK then [l.length] else [] := by
  unfold brkAt
  rw [List.length_append, List.length_singleton, List.range_succ, List.filter_append]
  congr 1
  · refine List.filter_congr fun p hp => ?_
    rw [List.getElem?_append_left (List.mem_range.mp hp)]
  · have hg : (l ++ [c])[l.length]? = some c := by
      rw [List.getElem?_append_right (Nat.le_refl _), Nat.sub_self]
      rfl
    by_cases h : c ∈ BRK
    · rw [if_pos h, List.filter_cons_of_pos (by rw [hg]; exact decide_eq_true h), List.filter_nil]
    · rw [if_neg h, List.filter_cons_of_neg (by rw [hg]; simpa using h), List.filter_nil]
theorem brkAt_lt {l : List Nat} {p : Nat} (h : p ∈ brkAt l) : p < l.length := List.mem_range.mp (List.mem_filter.mp h).1
theorem all_strike (l : List Nat) : okDs l ((brkAt l).map fun p => ((p, Dw.str) : Deed)) = true ∧ clean (doneL l ((brkAt l).map fun p => ((p, Dw.str) : Deed))) := by
  refine snoc_rec (P := fun l => okDs l ((brkAt l).map fun p => ((p, Dw.str) : Deed)) = true ∧ clean (doneL l ((brkAt l).map fun p => ((p, Dw.str) : Deed)))) ⟨rfl, by show clean (doneL [] []); rw [done_nil]; exact clean_nil⟩ (fun l c ih => ?_) l
  · obtain ⟨i1, i2⟩ := ih
    rw [brkAt_snoc]
    by_cases h : c ∈ BRK
    · rw [if_pos h, List.map_append]
      have hok : okDs (l ++ [c]) ((brkAt l).map (fun p => ((p, Dw.str) : Deed)) ++ [((l.length, Dw.str) : Deed)]) = true := by
        refine okDs_snoc (okDs_mono i1) ?_ fun e he => ?_
        · unfold okB
          dsimp only
          rw [List.getElem?_append_right (Nat.le_refl _), Nat.sub_self]
          exact decide_eq_true h
        · obtain ⟨p, hp, rfl⟩ := List.mem_map.mp he
          exact nxB_lt (brkAt_lt hp)
      refine ⟨hok, ?_⟩
      show clean (doneL (l ++ [c]) ((brkAt l).map (fun p => ((p, Dw.str) : Deed)) ++ [((l.length, Dw.str) : Deed)]))
      rw [done_snoc (y := []) i1 hok (by
        show (l ++ [c]).eraseIdx l.length = l ++ []
        rw [List.eraseIdx_append_of_length_le (Nat.le_refl _), Nat.sub_self]
        rfl), List.append_nil]
      exact i2
    · rw [if_neg h, List.append_nil]
      refine ⟨okDs_mono i1, ?_⟩
      rw [done_app i1]
      exact clean_app i2 (clean_one h)
/-! the alone ones turned into pairs -/
/-- the deed that makes the sign at p a c, if any -/
def trnAt (l : List Nat) (pc : Nat × Nat) : List Deed := if l[pc.1]? = some pc.2 then [] else [(pc.1, .trn pc.2)]
def trns (l : List Nat) (pcs : List (Nat × Nat)) : List Deed := (pcs.map (trnAt l)).flatten
theorem trns_app {x y : List Nat} {pcs : List (Nat × Nat)} (h : ∀ pc ∈ pcs, pc.1 < x.length) : trns (x ++ y) pcs = trns x pcs := by
  unfold trns
  congr 1
  refine List.map_congr_left fun pc hpc => ?_
  unfold trnAt
  rw [List.getElem?_append_left (h pc hpc)]
theorem trns_mem {l : List Nat} {pcs : List (Nat × Nat)} {d : Deed} (h : d ∈ trns l pcs) : ∃ pc ∈ pcs, d = (pc.1, .trn pc.2) := by
  unfold trns at h
  obtain ⟨ds, h1, h2⟩ := List.mem_flatten.mp h
  obtain ⟨pc, h3, rfl⟩ := List.mem_map.mp h1
  unfold trnAt at h2
  split at h2
  · cases h2
  · exact ⟨pc, h3, List.mem_singleton.mp h2⟩
/-- signs that are openings and their other sides by turns -/
def Alt : List Nat → Prop
  | [] => True
  | [c] => c ∈ OPN
  | c :: d :: r => c ∈ OPN ∧ d = oth c ∧ Alt r
/-- the run behind the signs of an alternating list -/
def altS (cs : List Nat) : List Nat := if cs.length % 2 = 0 then [] else match cs.getLast? with
  | some c => [oth c]
  | none => []
theorem alt_snoc : ∀ {cs : List Nat} {c : Nat}, Alt (cs ++ [c]) → Alt cs ∧ ((cs.length % 2 = 0 ∧ c ∈ OPN) ∨ (cs.length % 2 = 1 ∧ ∃ o ∈ OPN, cs.getLast? = some o ∧ c = oth o))
  | [], c, h => ⟨trivial, .inl ⟨rfl, h⟩⟩
  | [a], c, h => ⟨h.1, .inr ⟨rfl, a, h.1, rfl, h.2.1⟩⟩
  | a :: b :: r, c, h => by
    have h' : a ∈ OPN ∧ b = oth a ∧ Alt (r ++ [c]) := h
    obtain ⟨k1, k2⟩ := alt_snoc h'.2.2
    refine ⟨⟨h'.1, h'.2.1, k1⟩, ?_⟩
    rcases k2 with ⟨k2, k3⟩ | ⟨k2, o, k3, k4, k5⟩
    · exact .inl ⟨by simp only [List.length_cons]; omega, k3⟩
    · refine .inr ⟨by simp only [List.length_cons]; omega, o, k3, ?_, k5⟩
      cases r with
      | nil => cases k4
      | cons e r => rw [List.getLast?_cons_cons, List.getLast?_cons_cons]; exact k4
theorem alt_brk : ∀ {cs : List Nat}, Alt cs → ∀ c ∈ cs, c ∈ BRK
  | [], _, c, h => by cases h
  | [a], h, c, hc => by rw [List.mem_singleton.mp hc]; exact brk_or.mpr (.inl h)
  | a :: b :: r, h, c, hc => by
    have h' : a ∈ OPN ∧ b = oth a ∧ Alt r := h
    rcases List.mem_cons.mp hc with rfl | hc
    · exact brk_or.mpr (.inl h'.1)
    · rcases List.mem_cons.mp hc with rfl | hc
      · rw [h'.2.1]; exact brk_or.mpr (.inr (oth_clo a h'.1))
      · exact alt_brk h'.2.2 c hc
theorem lon_turn {x ps : List Nat} (h : Lon x ps) : ∀ {cs : List Nat}, cs.length = ps.length → Alt cs → okDs x (trns x (ps.zip cs)) = true ∧ run (doneL x (trns x (ps.zip cs))) = some (altS cs) := by
  induction h with
  | @base w hw =>
    intro cs hl _
    have : cs = [] := List.eq_nil_of_length_eq_zero hl
    subst this
    exact ⟨rfl, by show run (doneL w []) = _; rw [done_nil]; exact hw⟩
  | @snoc y ps' c' w h1 h2 h3 ih =>
    intro cs hl ha
    rcases List.eq_nil_or_concat cs with rfl | ⟨cs', c, rfl⟩
    · simp at hl
    · rw [List.concat_eq_append] at *
      rw [List.length_append, List.length_append, List.length_singleton, List.length_singleton] at hl
      have hl' : cs'.length = ps'.length := by omega
      obtain ⟨a1, a2⟩ := alt_snoc ha
      obtain ⟨i1, i2⟩ := ih hl' a1
      have hcb : c ∈ BRK := alt_brk ha c (by simp)
      have hlt : ∀ pc ∈ ps'.zip cs', pc.1 < y.length := fun pc hpc => (h1.lt pc.1 (List.of_mem_zip hpc).1).1
      have hg : (y ++ c' :: w)[y.length]? = some c' := by
        rw [List.getElem?_append_right (Nat.le_refl _), Nat.sub_self]
        rfl
      have ez : trns (y ++ c' :: w) ((ps' ++ [y.length]).zip (cs' ++ [c])) = trns y (ps'.zip cs') ++ if c' = c then [] else [((y.length, Dw.trn c) : Deed)] := by
        rw [List.zip_append hl'.symm]
        have e1 : trns (y ++ c' :: w) (ps'.zip cs' ++ [y.length].zip [c]) = trns (y ++ c' :: w) (ps'.zip cs') ++ trnAt (y ++ c' :: w) (y.length, c) := by
          unfold trns
          rw [List.map_append, List.flatten_append]
          simp
        rw [e1, trns_app hlt]
        congr 1
        unfold trnAt
        rw [hg]
        by_cases e : c' = c
        · rw [if_pos (by rw [e]), if_pos e]
        · rw [if_neg (fun q => e (Option.some.inj q)), if_neg e]
      have hrun : ∀ s, s = y → True := fun _ _ => trivial
      have hdone : okDs (y ++ c' :: w) (trns (y ++ c' :: w) ((ps' ++ [y.length]).zip (cs' ++ [c]))) = true ∧ doneL (y ++ c' :: w) (trns (y ++ c' :: w) ((ps' ++ [y.length]).zip (cs' ++ [c]))) = doneL y (trns y (ps'.zip cs')) ++ c :: w := by
        rw [ez]
        by_cases e : c' = c
        · rw [if_pos e, List.append_nil]
          exact ⟨okDs_mono i1, by rw [done_app i1, e]⟩
        · rw [if_neg e]
          have hok : okDs (y ++ c' :: w) (trns y (ps'.zip cs') ++ [((y.length, Dw.trn c) : Deed)]) = true := by
            refine okDs_snoc (okDs_mono i1) ?_ fun e he => ?_
            · unfold okB
              dsimp only
              rw [hg]
              dsimp only
              rw [decide_eq_true h2, decide_eq_true hcb, decide_eq_false (fun q => e q.symm)]
              rfl
            · obtain ⟨pc, hpc, rfl⟩ := trns_mem he
              exact nxB_lt (hlt pc hpc)
          refine ⟨hok, done_snoc i1 hok ?_⟩
          show (y ++ c' :: w).set y.length c = _
          rw [List.set_append_right _ _ (Nat.le_refl _), Nat.sub_self]
          rfl
      refine ⟨hdone.1, ?_⟩
      rw [hdone.2, run_app, i2, List.foldl_cons]
      unfold altS
      rw [List.length_append, List.length_singleton, List.getLast?_concat]
      rcases a2 with ⟨k1, k2⟩ | ⟨k1, o, k2, k3, k4⟩
      · rw [if_pos k1, if_neg (by omega), stp_opn k2, fold_clean h3]
      · rw [if_neg (by omega), if_pos (by omega), k3, k4]
        dsimp only
        rw [stp_clo (oth_clo o k2), fold_clean h3]
theorem lon_pairs {x ps cs : List Nat} (h : Lon x ps) (hl : cs.length = ps.length) (ha : Alt cs) (he : ps.length % 2 = 0) : okDs x (trns x (ps.zip cs)) = true ∧ clean (doneL x (trns x (ps.zip cs))) := by
  obtain ⟨h1, h2⟩ := lon_turn h hl ha
  refine ⟨h1, ?_⟩
  unfold clean
  rw [h2]
  unfold altS
  rw [if_pos (by omega)]
end Ly

set_option maxHeartbeats 4000000
namespace Ly
open PySem PySem.Spec PyProof.Rows L2 SX
/-! ### a dict of texts by texts at the top of the module -/
/-- an entry, where key and value are texts: both and the hash -/
def entT (e : DictEntry) : Option (Str × Str × Int) := match e.key, e.val with
  | .str x _, .str y _ => some (x, y, e.hash)
  | _, _ => none
def dicT (K : PySem.W.Frag) (a : Addr) : Option (List (Option (Str × Str × Int))) := match K.lookup a with
  | some ⟨.type c, none, .dict es _, sl⟩ => bif decide (c = "dict") && (sl.isEmpty && !(a == sysModules)) then some (es.toList.map entT) else none
  | _ => none
def entsOf (P : Params) (kvs : List (Str × Str)) : List (Option (Str × Str × Int)) := kvs.map fun kv => some (kv.1, kv.2, PyData.keyHash P kv.1)
/-- at a stands a written dict: these texts by these texts -/
def MkD (w : World) (K : PySem.W.Frag) (a : Addr) (kvs : List (Str × Str)) : Prop := dicT K a = some (entsOf w.params kvs)
theorem entT_inv {e : DictEntry} {x y : Str} {h : Int} (q : entT e = some (x, y, h)) : (∃ t, e.key = .str x t) ∧ (∃ t, e.val = .str y t) ∧ e.hash = h := by
  unfold entT at q
  split at q
  · rename_i x' t y' t' e1 e2
    have q' := Option.some.inj q
    obtain ⟨q1, q2⟩ := Prod.mk.inj q'
    obtain ⟨q3, q4⟩ := Prod.mk.inj q2
    subst q1 q3 q4
    exact ⟨⟨_, e1⟩, ⟨_, e2⟩, rfl⟩
  · cases q
theorem MkD.es {w : World} {K : PySem.W.Frag} {a : Addr} {kvs : List (Str × Str)} (D : MkD w K a kvs) : ∃ es n, K.lookup a = some ⟨.type "dict", none, .dict es n, #[]⟩ ∧ es.toList.map entT = entsOf w.params kvs ∧ (a == sysModules) = false := by
  unfold MkD dicT at D
  split at D
  · rename_i c es n sl q
    cases z : (decide (c = "dict") && (sl.isEmpty && !(a == sysModules))) with
    | false => rw [z] at D; cases D
    | true =>
      rw [z] at D
      rw [Bool.and_eq_true, Bool.and_eq_true] at z
      obtain ⟨z1, z2, z3⟩ := z
      have e1 : c = "dict" := of_decide_eq_true z1
      have e2 : sl = #[] := Array.isEmpty_iff.mp z2
      subst e1 e2
      exact ⟨es, n, q, Option.some.inj D, by simpa using z3⟩
  · cases D
theorem lit_of {P : Params} : ∀ {l : List DictEntry} {kvs : List (Str × Str)}, l.map entT = entsOf P kvs → PySem.W.KeysLit P l
  | [], _, _ => trivial
  | e :: r, [], h => by cases h
  | e :: r, kv :: kvs, h => by
    have h1 : entT e :: r.map entT = some (kv.1, kv.2, PyData.keyHash P kv.1) :: entsOf P kvs := h
    injection h1 with h2 h3
    obtain ⟨⟨t, k1⟩, _, k3⟩ := entT_inv h2
    exact ⟨⟨kv.1, t, k1, k3⟩, lit_of h3⟩
/-- what stands by a key -/
def byK (kvs : List (Str × Str)) (x : Str) : Option Str := (kvs.find? fun kv => kv.1 == x).map Prod.snd
theorem find_ents {P : Params} {x : Str} : ∀ {l : List DictEntry} {kvs : List (Str × Str)}, l.map entT = entsOf P kvs → l.any (·.refKey) = false ∧
    match byK kvs x with
    | some y => ∃ e t, l.find? (·.key.isStr x) = some e ∧ e.val = .str y t
    | none => l.find? (·.key.isStr x) = none
  | [], kvs, h => by
    cases kvs with
    | nil => exact ⟨rfl, rfl⟩
    | cons kv kvs => cases h
  | e :: r, [], h => by cases h
  | e :: r, kv :: kvs, h => by
    have h1 : entT e :: r.map entT = some (kv.1, kv.2, PyData.keyHash P kv.1) :: entsOf P kvs := h
    injection h1 with h2 h3
    obtain ⟨⟨t, k1⟩, ⟨t', k2⟩, _⟩ := entT_inv h2
    obtain ⟨i1, i2⟩ := find_ents (x := x) h3
    refine ⟨by rw [List.any_cons, i1, Bool.or_false]; unfold DictEntry.refKey; rw [k1], ?_⟩
    have ek : e.key.isStr x = (kv.1 == x) := by rw [k1]; rfl
    unfold byK at i2 ⊢
    rw [List.find?_cons, List.find?_cons]
    simp only [ek]
    cases hb : (kv.1 == x) with
    | true => exact ⟨e, t', rfl, k2⟩
    | false => exact i2
theorem MkD.nsIn {w : World} {K : PySem.W.Frag} {a : Addr} {kvs : List (Str × Str)} (D : MkD w K a kvs) (x : Str) : ∃ r, PySem.W.nsIn K a x = some r ∧ match byK kvs x with
    | some y => ∃ t, r = some (.str y t)
    | none => r = none := by
  obtain ⟨es, n, h1, h2, h3⟩ := D.es
  obtain ⟨f1, f2⟩ := find_ents (x := x) h2
  unfold PySem.W.nsIn
  rw [h1]
  cases hb : byK kvs x with
  | none =>
    rw [hb] at f2
    dsimp only at f2 ⊢
    rw [f2]
    refine ⟨none, ?_, rfl⟩
    simp only [f1, Bool.false_eq_true, if_false]
  | some y =>
    rw [hb] at f2
    obtain ⟨e, t, k1, k2⟩ := f2
    dsimp only
    rw [k1]
    exact ⟨some e.val, rfl, t, by rw [k2]⟩
theorem MkD.kd {w : World} {K : PySem.W.Frag} {a : Addr} {kvs : List (Str × Str)} (D : MkD w K a kvs) : ∃ es n, KDict K w a es n := by
  obtain ⟨es, n, h1, h2, h3⟩ := D.es
  exact ⟨es, n, h1, lit_of h2, h3⟩
/-- d[k], where k is there -/
def rKd (d : Addr) (kvs : List (Str × Str)) : R2 := fun x y H Q => x = .ref d ∧ ∃ z v, y = .str z ∧ byK kvs z = some v ∧ Q (.str v) H
theorem ix_kd {X : Cx} {d : Addr} {kvs : List (Str × Str)} (D : MkD X.w X.K d kvs) : IxR X (rKd d kvs) := by
  intro value slice pins s σ H x y v u Q I rx ry h hs
  obtain ⟨rfl, z, r, rfl, e, q⟩ := h
  obtain ⟨es, n, hl, h2, h3⟩ := D.es
  obtain ⟨o, ho, hm⟩ := D.nsIn z
  rw [e] at hm
  obtain ⟨t, rfl⟩ := hm
  exact ix_kdict value slice pins s σ H (.ref d) (.str z) v u Q I rx ry ⟨d, z, .str r, rfl, rfl, ⟨es, n, _, hl, lit_of h2, ho, ⟨t, rfl⟩⟩, q⟩ hs
/-- k in d -/
def rInKd (neg : Bool) (d : Addr) (kvs : List (Str × Str)) : R2 := fun x y H Q => ∃ z, x = .str z ∧ y = .ref d ∧ Q (.bl (if neg then !(byK kvs z).isSome else (byK kvs z).isSome)) H
theorem MkD.some {w : World} {K : PySem.W.Frag} {a : Addr} {kvs : List (Str × Str)} (D : MkD w K a kvs) (x : Str) : ∃ r, PySem.W.nsIn K a x = some r ∧ r.isSome = (byK kvs x).isSome := by
  obtain ⟨r, h1, h2⟩ := D.nsIn x
  refine ⟨r, h1, ?_⟩
  cases hb : byK kvs x with
  | none => rw [hb] at h2; rw [show r = none from h2]; rfl
  | some y => rw [hb] at h2; obtain ⟨t, rfl⟩ := h2; rfl
theorem op_inKd {X : Cx} {d : Addr} {kvs : List (Str × Str)} (D : MkD X.w X.K d kvs) : OpR X (compareOp .In) (rInKd false d kvs) := by
  intro pins s σ H x y v u Q I rx ry h
  obtain ⟨z, rfl, rfl, q⟩ := h
  obtain ⟨es, n, kd⟩ := D.kd
  obtain ⟨r, h1, h2⟩ := D.some z
  exact op_in_kd kd pins s σ H _ _ v u Q I rx ry ⟨z, r, rfl, rfl, h1, by rw [h2]; exact q⟩
theorem op_ninKd {X : Cx} {d : Addr} {kvs : List (Str × Str)} (D : MkD X.w X.K d kvs) : OpR X (compareOp .NotIn) (rInKd true d kvs) := by
  intro pins s σ H x y v u Q I rx ry h
  obtain ⟨z, rfl, rfl, q⟩ := h
  obtain ⟨es, n, kd⟩ := D.kd
  obtain ⟨r, h1, h2⟩ := D.some z
  exact op_notIn_kd kd pins s σ H _ _ v u Q I rx ry ⟨z, r, rfl, rfl, h1, by rw [h2]; exact q⟩
/-! the keys, one by one -/
def Itmk (kvs : List (Str × Str)) : It := ⟨fun i _ => i < kvs.length, fun i H x H' => H' = H ∧ ∃ kv, kvs[i]? = some kv ∧ x = .str kv.1, fun i _ => kvs.length ≤ i⟩
theorem walk_m {kvs : List (Str × Str)} : Walk (Itmk kvs) kvs.length (fun _ => True) (fun i H x H' => H' = H ∧ ∃ kv, kvs[i]? = some kv ∧ x = .str kv.1) := ⟨fun _ _ hi _ => hi, fun _ _ => Nat.le_refl _, fun _ _ _ _ _ _ y => y⟩
theorem ents_at {P : Params} {l : List DictEntry} {kvs : List (Str × Str)} {i : Nat} {kv : Str × Str} (h : l.map entT = entsOf P kvs) (hi : kvs[i]? = some kv) : ∃ e t, l[i]? = some e ∧ e.key = .str kv.1 t := by
  have h1 : (l.map entT)[i]? = (entsOf P kvs)[i]? := by rw [h]
  unfold entsOf at h1
  rw [List.getElem?_map, List.getElem?_map, hi] at h1
  cases hl : l[i]? with
  | none => rw [hl] at h1; cases h1
  | some e =>
    rw [hl] at h1
    obtain ⟨⟨t, k1⟩, _⟩ := entT_inv (Option.some.inj h1)
    exact ⟨e, t, rfl, k1⟩
theorem turn_m {P : Program} {w : World} {K : PySem.W.Frag} {tg : Expr} {d : Addr} {kvs : List (Str × Str)} (D : MkD w K d kvs) (it : Addr) {n : Nat} (hn : ∃ es, K.lookup d = some ⟨.type "dict", none, .dict es n, #[]⟩) : Turn P w K tg (Itmk kvs) [it] it (fun i h => h.IsKeyIter it d i kvs.length n) where
  mem := List.mem_singleton.mpr rfl
  obj := fun i h st b hb => by
    have e := List.mem_singleton.mp hb
    subst e
    obtain ⟨oi, h1, _, h3⟩ := st
    exact ⟨oi, h1, fun v z => by rw [h3] at z; cases z⟩
  keep := fun i h h' st k => st.at fun oi e => k it (List.mem_singleton.mpr rfl) oi e
  item := by
    intro X e1 e2 e3 hc i pins s σ H E I hf st hg
    subst e1 e2 e3
    obtain ⟨f0, f1, _, f3, f4, f5⟩ := hf it (List.mem_singleton.mpr rfl)
    obtain ⟨es, n', hl, he, hs⟩ := D.es
    obtain ⟨es', hl'⟩ := hn
    rw [hl] at hl'
    cases hl'
    obtain ⟨kv, hkv⟩ : ∃ kv, kvs[i]? = some kv := ⟨_, List.getElem?_eq_getElem hg⟩
    obtain ⟨en, t, hen, hkey⟩ := ents_at he hkv
    have hsz : es.size = kvs.length := by
      have := congrArg List.length he
      unfold entsOf at this
      rw [List.length_map, List.length_map] at this
      simpa using this
    refine next_key_item st (I.kIn _ _ hl) rfl hsz (en := en) (by rw [← Array.getElem?_toList]; exact hen) fun h' st' sb => ?_
    have J1 : Inv X pins σ H { s with heap := h' } := I.turned (t' := s.toks) (fun c oc hc e => (sb.2 c hc).trans e) f0 f1 f3 f4 f5
    obtain ⟨oi, k1, k2, k3⟩ := id st'
    exact ⟨en.key, rfl, go_of (s := { s with heap := h' }) k1 k2 k3 (by decide) ⟨.str kv.1, H, J1, ⟨t, hkey⟩, ⟨rfl, kv, hkv, rfl⟩, st', fun b hb => (hf b hb).1⟩⟩
  done := by
    intro X e1 e2 e3 hc i pins s σ H E I hf st hg
    subst e1 e2 e3
    obtain ⟨f0, f1, _, f3, f4, f5⟩ := hf it (List.mem_singleton.mpr rfl)
    obtain ⟨es, n', hl, he, hs⟩ := D.es
    obtain ⟨es', hl'⟩ := hn
    rw [hl] at hl'
    cases hl'
    have hsz : es.size = kvs.length := by
      have := congrArg List.length he
      unfold entsOf at this
      rw [List.length_map, List.length_map] at this
      simpa using this
    exact next_key_end (I.ok.hd hc) st (I.kIn _ _ hl) rfl hsz hg fun h' eb => ⟨rfl, I.turned (t' := s.toks) (fun c oc hc e => eb c oc hc e) f0 f1 f3 f4 f5⟩
  self := fun _ _ _ _ _ st h => wpAny_pyIter_keyiter st h
def iKd (d : Addr) (kvs : List (Str × Str)) (td : TE) : TI := fun σ H R => td σ H fun x H1 => x = .ref d ∧ R (Itmk kvs) H1
theorem pi_kd {X : Cx} {tg e : Expr} {td : TE} {d : Addr} {kvs : List (Str × Str)} (D : MkD X.w X.K d kvs) (he : PE X e td) : PI X tg e (iKd d kvs td) := by
  refine ⟨fun pins s σ H R I0 h => ?_⟩
  refine thn (he.run pins s σ H _ I0 h) fun u s1 ⟨x, H1, I1, rx, ex, q⟩ => ?_
  subst ex
  obtain rfl : u = Value.ref d := rx
  obtain ⟨es, n, hl, h2, hs⟩ := D.es
  have hsz : es.size = kvs.length := by
    have := congrArg List.length h2
    unfold entsOf at this
    rw [List.length_map, List.length_map] at this
    simpa using this
  refine iter_keys hs (I1.kIn _ _ hl) ⟨rfl, rfl, rfl⟩ rfl (pi_one (tk := s1.toks) I1 _ (turn_m D _ ⟨es, hl⟩) ⟨_, Heap.get?_push_size _ rfl, rfl, ?_⟩ q)
  rw [hsz] <;> rfl
/-! the head's facts with such dicts -/
structure KdD where
  at_ : PySem.W.Frag → Addr
  kvs : List (Str × Str)
abbrev AlM : Type := AlE × List (Option (List (Option (Str × Str × Int))))
def obsM (ds : List KdD) (K : PySem.W.Frag) : List (Option (List (Option (Str × Str × Int)))) := ds.map fun d => dicT K (d.at_ K)
def valM (ds : List KdD) (w : World) : List (Option (List (Option (Str × Str × Int)))) := ds.map fun d => some (entsOf w.params d.kvs)
def SaysM (ds : List KdD) (w : World) (K : PySem.W.Frag) : Prop := obsM ds K = valM ds w
theorem SaysM.at_ {ds : List KdD} {w : World} {K : PySem.W.Frag} (c : SaysM ds w K) (i : Nat) {d : KdD} (h : ds[i]? = some d := by rfl) : MkD w K (d.at_ K) d.kvs := by
  have e : (obsM ds K)[i]? = (valM ds w)[i]? := congrArg (fun l => l[i]?) c
  unfold obsM valM at e
  rw [List.getElem?_map, List.getElem?_map, h] at e
  exact Option.some.inj e
def obsMG (n : Nat) (fa : List He.Fa) (fn : List He.DefD) (ex : PySem.W.Frag → Bool) (ds : List KdD) (g : Addr → Option Obj) : AlM := (obsEG n fa fn ex g, obsM ds (He.frG g (He.asD g n)))
def hookM (n : Nat) (fa : List He.Fa) (fn : List He.DefD) (ex : PySem.W.Frag → Bool) (ds : List KdD) : PySem.W.Hook where
  α := AlM
  obs := fun s => obsMG n fa fn ex ds s.heap.get?
  val := fun w => ((He.valD fn, true), valM ds w)
  says := fun w h => ∃ K : PySem.W.Frag, K.In h ∧ He.SaysD fa fn K ∧ ex K = true ∧ SaysM ds w K
  of := fun _ _ e => ⟨_, He.frG_in, congrArg (fun z : AlM => z.1.1) e, congrArg (fun z : AlM => z.1.2) e, congrArg (fun z : AlM => z.2) e⟩
  keeps := fun _ _ _ ⟨K, hK, c, cx, cd⟩ k => ⟨K, PySem.W.Frag.In.keeps hK k, c, cx, cd⟩
theorem obsMG_eq {n : Nat} {fa : List He.Fa} {fn : List He.DefD} {ex : PySem.W.Frag → Bool} {ds : List KdD} {g : Addr → Option Obj} {s : Shared} (h : ∀ a, g a = s.heap.get? a) : obsMG n fa fn ex ds g = (hookM n fa fn ex ds).obs s := by
  rw [show g = s.heap.get? from funext h] <;> rfl
end Ly

set_option maxHeartbeats 4000000
namespace Ly
open PySem PySem.Spec PyProof.Rows L2 SX
/-! ### figures -/
def fgs (i : Int) : List Nat := (Str.ofString (toString i)).cps.toList
theorem fgs_eq (i : Int) : V.str (Str.ofString (toString i)) = Tx (fgs i) := by
  unfold fgs
  cases Str.ofString (toString i)
  rfl
theorem S_fgs (i : Int) : S (fgs i) = Str.ofString (toString i) := V.str.inj (fgs_eq i).symm
def figs (p : Nat) : List Nat := if p < 10 then [48 + p] else [48 + p / 10, 48 + p % 10]
theorem fgs_figs : ∀ p : Nat, p < 100 → fgs (p : Int) = figs p := by decide +kernel
theorem int_figs {p : Nat} (h : p < 100) : PySem.intText? (S (figs p)) = some (p : Int) := by
  rw [← fgs_figs p h, S_fgs]
  exact PySem.W.KIN.num_reads (by omega) (by omega)
theorem figs_dig : ∀ p : Nat, p < 100 → ∀ c ∈ figs p, 48 ≤ c ∧ c ≤ 57 := by decide +kernel
theorem figs_len : ∀ p : Nat, p < 100 → (figs p).length = if p < 10 then 1 else 2 := by decide +kernel
/-! ### s.rstrip(signs) -/
def rstr (b a : List Nat) : List Nat := (a.reverse.dropWhile fun c => decide (c ∈ b)).reverse
theorem s_eq2 {x y : Str} (h : x.cps.toList = y.cps.toList) : x = y := by
  cases x with
  | mk a => cases y with
    | mk b =>
      have : a = b := Array.toList_inj.mp h
      rw [this]
theorem rstr_take (b a : List Nat) : a.take (a.length - (a.reverse.takeWhile fun c => decide (c ∈ b)).length) = rstr b a := by
  unfold rstr
  have h1 := List.takeWhile_append_dropWhile (p := fun c => decide (c ∈ b)) (l := a.reverse)
  generalize (a.reverse.takeWhile fun c => decide (c ∈ b)) = x at h1 ⊢
  generalize (a.reverse.dropWhile fun c => decide (c ∈ b)) = y at h1 ⊢
  have h2 : a = y.reverse ++ x.reverse := by rw [← List.reverse_append, h1, List.reverse_reverse]
  subst h2
  rw [List.take_append_of_le_length (by simp), List.take_of_length_le (by simp)]
theorem rstrip_S (a b : List Nat) : Txt.rstripChars (S a) (S b) = S (rstr b a) := by
  have hg : (fun c => (S b).cps.contains c) = fun c => decide (c ∈ b) := by
    funext c
    show (b.toArray).contains c = _
    rw [List.contains_toArray, List.contains_eq_mem]
  have hhi : stripHi (fun c => decide (c ∈ b)) true (S a) 0 = a.length - (a.reverse.takeWhile fun c => decide (c ∈ b)).length := by
    unfold stripHi
    rw [if_pos rfl, S_len]
    rfl
  have hst : stripped (fun c => decide (c ∈ b)) false true (S a) = S (rstr b a) := by
    refine s_eq2 ?_
    unfold stripped
    rw [StrLaws.strSub_toList, show stripLo (fun c => decide (c ∈ b)) false (S a) = 0 from rfl, hhi]
    show (a.drop 0).take (_ - 0) = rstr b a
    rw [List.drop_zero, Nat.sub_zero, rstr_take]
  show Txt.stripBy (fun c => (S b).cps.contains c) false true (S a) = _
  rw [hg]
  unfold Txt.stripBy
  split
  · rename_i h
    rw [← hst]
    unfold stripSame at h
    rw [Bool.and_eq_true, beq_iff_eq, beq_iff_eq] at h
    have h2 : stripHi (fun c => decide (c ∈ b)) true (S a) 0 = (S a).length := h.2
    unfold stripped
    rw [show stripLo (fun c => decide (c ∈ b)) false (S a) = 0 from rfl, h2]
    refine s_eq2 ?_
    rw [StrLaws.strSub_toList, S_len]
    show a = (a.drop 0).take (a.length - 0)
    rw [List.drop_zero, Nat.sub_zero, List.take_length]
  · exact hst
def rRstrT : V → List V → Hp → VK → Prop := fun x xs H Q => ∃ a b : List Nat, x = Tx a ∧ xs = [Tx b] ∧ a.length ≤ 100000 ∧ Q (Tx (rstr b a)) H
theorem mt_rstrT {X : Cx} : MtR X "str.rstrip" rRstrT := fun pins s σ H x xs v us Q I rx rs h => by
  obtain ⟨a, b, h1, h2, h3, q⟩ := h
  refine mt_rstripChars pins s σ H x xs v us Q I rx rs ⟨S a, S b, h1, h2, ?_, ?_⟩
  · rw [S_len]
    exact Nat.le_trans h3 (by decide)
  · rw [rstrip_S]
    exact q
theorem g_rstrT {a b : List Nat} {H : Hp} {Q : VK} (h : a.length ≤ 100000) (q : Q (Tx (rstr b a)) H) : rRstrT (Tx a) [Tx b] H Q := ⟨a, b, rfl, rfl, h, q⟩
theorem rstr_app {b x y : List Nat} {c : Nat} (hy : ∀ d ∈ y, d ∈ b) (hx : x.getLast? = some c) (hc : c ∉ b) : rstr b (x ++ y) = x := by
  unfold rstr
  rw [List.reverse_append, List.dropWhile_append_of_pos (by
    intro d hd
    exact decide_eq_true (hy d (List.mem_reverse.mp hd)))]
  rcases List.eq_nil_or_concat x with rfl | ⟨z, d, rfl⟩
  · cases hx
  · rw [List.concat_eq_append] at *
    rw [List.getLast?_concat] at hx
    have hd : d = c := Option.some.inj hx
    subst hd
    rw [List.reverse_append, List.reverse_singleton, List.singleton_append, List.dropWhile_cons_of_neg (by simpa using hc), List.reverse_cons, List.reverse_reverse]
/-! ### a comprehension over a dict's keys -/
theorem lc_m {kvs : List (Str × Str)} {g : TG} {tt : TT} {te : TE} {vs : List Nat} {σ : L2.St} {H : Hp} {Q : VK} (h : ∀ d H1, H d = none → Same H H1 → H1 d = some (.lst []) → ∃ Pv : Nat → Hp → Prop, Pv 0 H1 ∧
      (∀ (i : Nat) kv H, kvs[i]? = some kv → Pv i H → g (.str kv.1) (wipe σ vs) H fun σ2 H2 => wipe σ2 vs = wipe σ vs ∧ tt σ2 H2 fun b H3 => if b = true then te σ2 H3 fun y H4 => LcPut d (Pv (i + 1)) y H4 else Pv (i + 1) H3) ∧ ∀ H, Pv kvs.length H → Q (.ref d) H) : LcR (Itmk kvs) g tt te vs σ H Q := by
  refine lc_w walk_m fun d H1 nd s e => ?_
  obtain ⟨Pv, h0, hs, hd⟩ := h d H1 nd s e
  refine ⟨Pv, h0, fun _ _ _ _ => trivial, fun i x H H' hi p y => ?_, hd⟩
  obtain ⟨rfl, kv, hk, rfl⟩ := y
  exact hs i kv _ hk p
/-! ### deeds written -/
def mkv : List (Str × Str) := [(S [43], S [112, 117, 116]), (S [45], S [115, 116, 114, 105, 107, 101]), (S [61], S [116, 117, 114, 110])]
def Dw.mk : Dw → Nat
  | .put _ => 43
  | .str => 45
  | .trn _ => 61
def wordL (d : Deed) : List Nat := figs d.1 ++ [d.2.mk] ++ d.2.s
def commaL : List Nat := [44, 32]
def noneL : List Nat := [110, 111, 110, 101]
def showL (ds : List Deed) : List Nat := if ds = [] then noneL else TL.joinL commaL (ds.map wordL)
theorem disp_m {trs : List (TE × TE)} {σ : L2.St} {H : Hp} {Q : VK} (h : ∀ p H1, H p = none → Same H H1 → H1 p = some (.dK []) → tPairs trs σ H1 fun ps H2 => H2 p = some (.dK []) ∧ ∃ kvs : List (Key × V), ps = kvs.map (fun kv => (kV kv.1, kv.2)) ∧ kvs.length ≤ 15 ∧ Q (.ref p) (upd H2 p (.dK (mergeK [] kvs)))) : tDisp trs σ H Q := fun p np => h p _ np (Same.new np) upd_same
theorem Dds.app {H H' : Hp} {a b c : Addr} {r1 r2 : List Addr} {d1 d2 : List Deed} (h1 : Dds H a r1 d1) (h2 : Dds H b r2 d2) (s : Same H H') (e : H' c = some (.lst (r1.map V.ref ++ r2.map V.ref))) : Dds H' c (r1 ++ r2) (d1 ++ d2) := by
  refine ⟨by rw [e, List.map_append], by rw [List.length_append, List.length_append, h1.len, h2.len], fun k r d hr hd => ?_⟩
  have hl := h1.len
  by_cases hk : k < r1.length
  · rw [List.getElem?_append_left hk] at hr
    rw [List.getElem?_append_left (by omega)] at hd
    exact s _ _ (h1.it k r d hr hd)
  · rw [List.getElem?_append_right (by omega)] at hr
    rw [List.getElem?_append_right (by omega), ← hl] at hd
    exact s _ _ (h2.it _ r d hr hd)
theorem Dds.one {H H' : Hp} {t a : Addr} {d : Deed} (h : H t = some (.tup (ddV d))) (s : Same H H') (e : H' a = some (.lst [.ref t])) : Dds H' a [t] [d] := by
  refine ⟨e, rfl, fun k r x hr hx => ?_⟩
  cases k with
  | zero => rw [← Option.some.inj hr, ← Option.some.inj hx]; exact s _ _ h
  | succ k => cases hr
theorem Dds.rep {H H' : Hp} {t a : Addr} {d : Deed} {n : Nat} (h : H t = some (.tup (ddV d))) (s : Same H H') (e : H' a = some (.lst (List.replicate n [V.ref t]).flatten)) : Dds H' a (List.replicate n t) (List.replicate n d) := by
  refine ⟨by rw [e, List.map_replicate, List.flatten_replicate_singleton], by rw [List.length_replicate, List.length_replicate], fun k r x hr hx => ?_⟩
  rw [List.eq_of_mem_replicate (List.mem_of_getElem? hr), List.eq_of_mem_replicate (List.mem_of_getElem? hx)]
  exact s _ _ h
end Ly

set_option maxHeartbeats 4000000
namespace K46
open PySem PySem.Spec PyProof.Rows L2 SX Ly
def topS (i : Nat) : Stmt := PySem.Challenge.pw_nestmend_k46_deeds_written.main.body.getD i (.Pass ⟨0, 0, 0, 0⟩)
abbrev s_shown_deed : Stmt := topS 9
abbrev N_shown_deed : List Str := ["deed", "place", "word", "sign", "marks", "mark"]
theorem st_shown_deed (v0 : V) : L2.start N_shown_deed [v0] = [some v0, none, none, none, none, none] := rfl
theorem sc_shown_deed : FnScope N_shown_deed ["deed"] (defScope s_shown_deed) := ⟨rfl, rfl, rfl, by decide +kernel, rfl, by decide +kernel, by decide +kernel⟩
abbrev s_show_deeds : Stmt := topS 10
abbrev N_show_deeds : List Str := ["deeds", "deed"]
theorem st_show_deeds (v0 : V) : L2.start N_show_deeds [v0] = [some v0, none] := rfl
theorem sc_show_deeds : FnScope N_show_deeds ["deeds"] (defScope s_show_deeds) := ⟨rfl, rfl, rfl, by decide +kernel, rfl, by decide +kernel, by decide +kernel⟩
abbrev s_deed_in : Stmt := topS 11
abbrev N_deed_in : List Str := ["word", "figures", "mark", "sign", "brackets", "deed", "one"]
theorem st_deed_in (v0 : V) : L2.start N_deed_in [v0] = [some v0, none, none, none, none, none, none] := rfl
theorem sc_deed_in : FnScope N_deed_in ["word"] (defScope s_deed_in) := ⟨rfl, rfl, rfl, by decide +kernel, rfl, by decide +kernel, by decide +kernel⟩
abbrev s_read_deeds : Stmt := topS 12
abbrev N_read_deeds : List Str := ["text", "found", "ahead", "deed", "word"]
theorem st_read_deeds (v0 : V) : L2.start N_read_deeds [v0] = [some v0, none, none, none, none] := rfl
theorem sc_read_deeds : FnScope N_read_deeds ["text"] (defScope s_read_deeds) := ⟨rfl, rfl, rfl, by decide +kernel, rfl, by decide +kernel, by decide +kernel⟩
abbrev s_law_stream : Stmt := topS 14
abbrev N_law_stream : List Str := ["cell", "low"]
theorem st_law_stream (v0 : V) : L2.start N_law_stream [v0] = [some v0, none] := rfl
theorem sc_law_stream : FnScope N_law_stream ["cell"] (defScope s_law_stream) := ⟨rfl, rfl, rfl, by decide +kernel, rfl, by decide +kernel, by decide +kernel⟩
abbrev s_law_take : Stmt := topS 15
abbrev N_law_take : List Str := ["row", "many", "got"]
theorem st_law_take (v0 v1 : V) : L2.start N_law_take [v0, v1] = [some v0, some v1, none] := rfl
theorem sc_law_take : FnScope N_law_take ["row", "many"] (defScope s_law_take) := ⟨rfl, rfl, rfl, by decide +kernel, rfl, by decide +kernel, by decide +kernel⟩
abbrev s_law_deeds : Stmt := topS 16
abbrev N_law_deeds : List Str := ["row", "found", "place", "k", "j", "kind"]
theorem st_law_deeds (v0 : V) : L2.start N_law_deeds [v0] = [some v0, none, none, none, none, none] := rfl
theorem sc_law_deeds : FnScope N_law_deeds ["row"] (defScope s_law_deeds) := ⟨rfl, rfl, rfl, by decide +kernel, rfl, by decide +kernel, by decide +kernel⟩
abbrev s_law_word : Stmt := topS 17
abbrev N_law_word : List Str := ["deed", "place", "word", "sign"]
theorem st_law_word (v0 : V) : L2.start N_law_word [v0] = [some v0, none, none, none] := rfl
theorem sc_law_word : FnScope N_law_word ["deed"] (defScope s_law_word) := ⟨rfl, rfl, rfl, by decide +kernel, rfl, by decide +kernel, by decide +kernel⟩
abbrev s_law_shown : Stmt := topS 18
abbrev N_law_shown : List Str := ["deeds", "deed"]
theorem st_law_shown (v0 : V) : L2.start N_law_shown [v0] = [some v0, none] := rfl
theorem sc_law_shown : FnScope N_law_shown ["deeds"] (defScope s_law_shown) := ⟨rfl, rfl, rfl, by decide +kernel, rfl, by decide +kernel, by decide +kernel⟩
abbrev s_law_right : Stmt := topS 19
abbrev N_law_right : List Str := ["deeds", "handed", "told", "found", "one"]
theorem st_law_right (v0 : V) : L2.start N_law_right [v0] = [some v0, none, none, none, none] := rfl
theorem sc_law_right : FnScope N_law_right ["deeds"] (defScope s_law_right) := ⟨rfl, rfl, rfl, by decide +kernel, rfl, by decide +kernel, by decide +kernel⟩
abbrev s_law : Stmt := topS 20
abbrev N_law : List Str := ["script", "cell", "every", "many", "k"]
theorem st_law (v0 : V) : L2.start N_law [v0] = [some v0, none, none, none, none] := rfl
theorem sc_law : FnScope N_law ["script"] (defScope s_law) := ⟨rfl, rfl, rfl, by decide +kernel, rfl, by decide +kernel, by decide +kernel⟩
abbrev kv_MARKS : List (Str × Str) := [(S [43], S [112, 117, 116]), (S [45], S [115, 116, 114, 105, 107, 101]), (S [61], S [116, 117, 114, 110])]
structure Facts (w : World) (K : PySem.W.Frag) (mg : Str → Option Value) : Prop where
  f_shown_deed : DefAt K mg "shown_deed" s_shown_deed ["deed"]
  f_show_deeds : DefAt K mg "show_deeds" s_show_deeds ["deeds"]
  f_deed_in : DefAt K mg "deed_in" s_deed_in ["word"]
  f_read_deeds : DefAt K mg "read_deeds" s_read_deeds ["text"]
  f_law_stream : DefAt K mg "_law_stream" s_law_stream ["cell"]
  f_law_take : DefAt K mg "_law_take" s_law_take ["row", "many"]
  f_law_deeds : DefAt K mg "_law_deeds" s_law_deeds ["row"]
  f_law_word : DefAt K mg "_law_word" s_law_word ["deed"]
  f_law_shown : DefAt K mg "_law_shown" s_law_shown ["deeds"]
  f_law_right : DefAt K mg "_law_right" s_law_right ["deeds"]
  c_OPENING : ∃ u, mg "OPENING" = some u ∧ RelV (Tx OPN) u
  c_CLOSING : ∃ u, mg "CLOSING" = some u ∧ RelV (Tx CLO) u
  c_FIGURES : ∃ u, mg "FIGURES" = some u ∧ RelV (Tx [48, 49, 50, 51, 52, 53, 54, 55, 56, 57]) u
  c_MOST : ∃ u, mg "MOST" = some u ∧ RelV (.int 40) u
  -- const MARKS
  c_MARKS : ∃ u, mg "MARKS" = some u ∧ RelV (V.ref (He.ga K "MARKS")) u
  d_MARKS : MkD w K (He.ga K "MARKS") kv_MARKS
  b_len : mg "len" = none
  b_int : mg "int" = none
  b_str : mg "str" = none
  b_range : mg "range" = none
  b_zip : mg "zip" = none
  b_isinstance : mg "isinstance" = none
  b_list : mg "list" = none
  b_tuple : mg "tuple" = none
  b_bool : mg "bool" = none
  b_min : mg "min" = none
  b_ValueError : mg "ValueError" = none
  g_MendError : mg "MendError" = some (.ref (He.ga K "MendError"))
  c_MendError : ∃ u, mg "MendError" = some u ∧ RelV (V.ref (He.ga K "MendError")) u
  g_NoWriting : mg "NoWriting" = some (.ref (He.ga K "NoWriting"))
  c_NoWriting : ∃ u, mg "NoWriting" = some u ∧ RelV (V.ref (He.ga K "NoWriting")) u
  z_NoWriting : ErrF K (He.ga K "NoWriting") (He.ga K "MendError")
  kv_NoWriting : PySem.W.kitOne K (.ref (He.ga K "NoWriting")) (.type "ValueError") = some true
  kk_NoWriting_NoWriting : PySem.W.kitOne K (.ref (He.ga K "NoWriting")) (.ref (He.ga K "NoWriting")) = some true
end K46

set_option maxHeartbeats 4000000
namespace K46
open PySem PySem.Spec PyProof.Rows L2 SX Ly
local macro_rules | `(tactic| wtm_at "unf") => `(tactic| (try simp only [tMetX, tOwnX, tChain, tSeq, tNext, tBreak, tCont, tDrop, tRet, tRetN, tIfS, tAsg, tAug, tC, tOp, tUn, tNil, tCons, tOwn, tCB, tTest, tB, tAnd, tOr, tNot, tAndV, tOrV, tNotV, tIf, gName, gSub, tBM, tBM0, tM0, tM1, tSl, tPart_eq, tNoPart, tLst_eq, tTup_eq, tRevL_eq, tReplT, tRevS, tDGet_eq, sDPut_eq, tDNewT_eq, tMet, tMak, tFld_eq, sFld_eq, C8.tCut, wipe, tYes, gTup, gCons, gNil, List.set_cons_zero, List.set_cons_succ, if_true, if_false, Bool.false_eq_true, Bool.not_true, Bool.not_false, true_and, reduceIte, cx_K, tFor_eq, tLc_eq, iStr, iList, iTup, iRng1, iRng2, iRng3, iEnum, iZip, tLstRg, tRg1, gLst, RZ.iZipA, iEnumS, iZipS, tDNewK_eq, tDGet2, tDIn, tDNotIn, iKd]))
local macro_rules | `(tactic| wtm_at "unfA") => `(tactic| (try simp only [tMetX, tOwnX, tChain, tSeq, tNext, tBreak, tCont, tDrop, tRet, tRetN, tIfS, tAsg, tAug, tC, tOp, tUn, tNil, tCons, tOwn, tCB, tTest, tB, tAnd, tOr, tNot, tIf, gName, gSub, tBM, tBM0, tM0, tM1, tSl, tPart_eq, tNoPart, tLst_eq, tTup_eq, tRevL_eq, tReplT, tRevS, tDGet_eq, sDPut_eq, tDNewT_eq, tMet, tMak, tFld_eq, sFld_eq, C8.tCut, wipe, tYes, gTup, gCons, gNil, List.set_cons_zero, List.set_cons_succ, if_true, if_false, Bool.false_eq_true, Bool.not_true, Bool.not_false, true_and, reduceIte, cx_K, tFor_eq, tLc_eq, iStr, iList, iTup, iRng1, iRng2, iRng3, iEnum, iZip, tLstRg, tRg1, gLst, RZ.iZipA, iEnumS, iZipS, tDNewK_eq, tDGet2, tDIn, tDNotIn, iKd]))
local macro_rules | `(tactic| wtm_at "ne") => `(tactic| first | assumption | (apply Ne.symm; assumption) | (apply ne_new; (· assumption); (· wtm_at "lk")) | (apply Ne.symm; apply ne_new; (· assumption); (· wtm_at "lk")))
local macro_rules | `(tactic| wtm_at "lk") => `(tactic| first | assumption | exact upd_same | (apply Same.get; (· assumption); (· wtm_at "lk")) | (apply But.get; (· assumption); (· wtm_at "ne"); (· wtm_at "lk")))
local macro_rules | `(tactic| wtm_at "sq") => `(tactic| first | assumption | (apply sq_of; wtm_at "lk") | (apply Same.seq; (· assumption); (· wtm_at "sq")) | (apply But.sq; (· assumption); (· wtm_at "ne"); (· wtm_at "sq")))
local macro_rules | `(tactic| wtm_at "fr") => `(tactic| first | assumption | (apply Same.fr; (· assumption); (· wtm_at "sm")) | (apply But.fr; (· assumption); (· wtm_at "sm"); (· wtm_at "ne")))
local macro_rules | `(tactic| wtm_at "sm") => `(tactic| first | exact Same.refl _ | exact But.refl | assumption | (apply Same.tr; (· assumption); (· wtm_at "sm")) | (apply Same.b0; (· assumption); (· wtm_at "sm"); (· wtm_at "fr")) | (apply But.sa; (· assumption); (· wtm_at "sm")) | (apply But.tr; (· assumption); (· wtm_at "sm")) | (apply But.b0; (· assumption); (· wtm_at "sm"); (· wtm_at "fr")) | (apply Same.toBut; wtm_at "sm"))
local macro_rules | `(tactic| wtm_at "sc") => `(tactic| first | exact Int.zero_lt_one | (show (0 : Int) < _; omega) | (show (0 : Int) < _; decide) | exact ⟨by omega, by omega⟩ | exact .inl ⟨by omega, by omega⟩ | exact .inr ⟨by omega, by omega⟩)
local macro_rules | `(tactic| wtm_at "go1") => `(tactic| first | ((with_reducible apply g_var); (· exact rfl)) | with_reducible apply g_I0 | ((with_reducible apply g_I); (· wtm_at "sc")) | with_reducible apply g_U | with_reducible apply g_ipI | ((with_reducible apply g_addT); (· first | omega | (simp; done) | (simp; omega))) | with_reducible apply g_inT | with_reducible apply g_ninT | ((with_reducible apply g_lenT); (· omega)) | with_reducible apply g_findT1 | with_reducible apply g_str | with_reducible apply g_part | with_reducible apply g_intB | ((with_reducible apply g_ixL); (· wtm_at "sq"); (· exact rfl)) | ((with_reducible apply g_setL); (· wtm_at "lk"); (· exact rfl)) | ((with_reducible apply g_eq); (· rfl)) | ((with_reducible apply g_ne); (· rfl)))
local macro_rules | `(tactic| wtm_at "go") => `(tactic| repeat wtm_at "go1")
local macro_rules | `(tactic| wtm_at "lp") => `(tactic| skip)
local macro_rules | `(tactic| wtm_at "om") => `(tactic| first | omega | (simp; done) | (simp; omega) | (simp at *; omega))
local macro_rules | `(tactic| wtm_at "ty") => `(tactic| first | exact ty_str | exact ty_int | exact ty_bl | exact ty_non | (apply ty_lst; wtm_at "lk") | (apply ty_tup; wtm_at "lk"))
local macro_rules | `(tactic| wtm_at "kb") => `(tactic| first | exact kb_str_str | exact kb_str_int | exact kb_str_bool | exact kb_str_list | exact kb_str_tuple | exact kb_int_str | exact kb_int_int | exact kb_int_bool | exact kb_int_list | exact kb_int_tuple | exact kb_bool_str | exact kb_bool_int | exact kb_bool_bool | exact kb_bool_list | exact kb_bool_tuple | exact kb_list_str | exact kb_list_int | exact kb_list_bool | exact kb_list_list | exact kb_list_tuple | exact kb_tuple_str | exact kb_tuple_int | exact kb_tuple_bool | exact kb_tuple_list | exact kb_tuple_tuple | exact kb_NoneType_str | exact kb_NoneType_int | exact kb_NoneType_bool | exact kb_NoneType_list | exact kb_NoneType_tuple | exact kb_dict_str | exact kb_dict_int | exact kb_dict_bool | exact kb_dict_list | exact kb_dict_tuple)
local macro_rules | `(tactic| wtm_at "gx1") => `(tactic| first | ((with_reducible apply g_eqS); (· exact rfl)) | ((with_reducible apply g_neS); (· exact rfl)) | wtm_at "go1" | with_reducible apply g_min2 | with_reducible apply g_max2 | with_reducible apply g_T | with_reducible apply g_F | with_reducible apply g_NT | with_reducible apply g_NF | with_reducible apply g_nT | with_reducible apply g_nF | with_reducible apply g_RT | with_reducible apply g_RF | ((with_reducible apply g_isi); (· wtm_at "ty"); (· wtm_at "kb")) | ((with_reducible apply g_ixAU3); (· wtm_at "lk"); (· exact rfl)) | ((with_reducible apply g_ixAL3); (· wtm_at "lk"); (· exact rfl)) | ((with_reducible apply g_ixU3); (· wtm_at "lk"); (· exact rfl)) | ((with_reducible apply g_lenL3); (· wtm_at "lk")) | ((with_reducible apply g_lenU3); (· wtm_at "lk")) | ((with_reducible apply g_tyL3); (· wtm_at "lk")) | ((with_reducible apply g_lenT); (· wtm_at "pv")) | wtm_at "tr" | with_reducible apply g_ET | with_reducible apply g_EF | with_reducible apply g_EnT | with_reducible apply g_EnF)
local macro_rules | `(tactic| wtm_at "pv") => `(tactic| first | exact rfl | assumption | omega | (simp; done) | (simp; omega))
local macro_rules | `(tactic| wtm_at "tr") => `(tactic| first | ((with_reducible apply g_Td); (· wtm_at "pv")) | ((with_reducible apply g_Fd); (· wtm_at "pv")) | ((with_reducible apply g_NTd); (· wtm_at "pv")) | ((with_reducible apply g_NFd); (· wtm_at "pv")) | ((with_reducible apply g_nTd); (· wtm_at "pv")) | ((with_reducible apply g_nFd); (· wtm_at "pv")) | ((with_reducible apply g_RTd); (· wtm_at "pv")) | ((with_reducible apply g_RFd); (· wtm_at "pv")))
local macro_rules | `(tactic| wtm_at "gx") => `(tactic| repeat wtm_at "gx1")
local macro_rules | `(tactic| wtm_at "unfS") => `(tactic| (try simp only [tSeq, tNext, tAsg, tFor_eq, C8.tCut, wipe, gName, tDrop, List.set_cons_zero, List.set_cons_succ, cx_K]))
local macro_rules | `(tactic| wtm_at "rd1") => `(tactic| first | exact rd_int | exact rd_str | exact rd_bl | exact rd_non | exact rda_nil | apply rda_cons | (with_reducible apply rd_tup; (· assumption)) | (with_reducible apply rd_lst; (· assumption)) | exact rd_dic (by assumption) | exact rd_var rfl (.int _) | exact rd_var rfl (.str _) | exact rd_var rfl (.bl _) | exact rd_var rfl (by assumption) | (with_reducible apply rd_cat; (· assumption)) | (with_reducible apply rd_rep2; (· assumption)) | (with_reducible apply rd_rev; (· assumption)) | (with_reducible apply rd_to; (· assumption)) | (with_reducible apply rd_from; (· assumption)) | (with_reducible apply rd_tupOf; (· assumption)) | (with_reducible apply rd_lstOf; (· assumption)) | with_reducible apply rd_lenL | with_reducible apply rd_lenT | with_reducible apply rd_I0 | with_reducible apply rd_I | with_reducible apply rd_U | with_reducible apply rd_eqI | with_reducible apply rd_ixL | with_reducible apply rd_ixT | exact atI_hd _ _ | exact ‹atI _ _ = some _›)
local macro_rules | `(tactic| wtm_at "rdl") => `(tactic| first | decide | omega | wtm_at "sc" | (simp only [List.length_append, List.length_cons, List.length_nil, List.length_map, List.length_take, List.length_drop, List.length_reverse, cutTo]; omega))
local macro_rules | `(tactic| wtm_at "rd") => `(tactic| ((repeat' wtm_at "rd1"); (all_goals wtm_at "rdl")))
local macro_rules | `(tactic| wtm_at "nc") => `(tactic| repeat' (first | assumption | exact nca_nil | exact nc_non | exact nc_bl | exact nc_dic | exact nc_tup0 | exact nc_lst0 | (refine nc_strS (by decide) (by decide)) | (refine nc_int (by omega)) | (refine nc_big (by decide +kernel)) | refine nca_app ?_ ?_ | refine nca_cons ?_ ?_ | refine nca_take ?_ | refine nca_drop ?_ | refine nca_cutTo ?_ | refine nca_rev ?_ | refine nc_tup (by decide) ?_ | refine nc_lst (by decide) ?_ | refine nc_lst (Nat.le_trans (show _ ≤ 45 by wtm_at "rdl") (by decide)) ?_ | refine nc_tup (Nat.le_trans (show _ ≤ 45 by wtm_at "rdl") (by decide)) ?_))

section
variable {P : Program} {w : World} {K : PySem.W.Frag} {mg : Str → Option Value} {base : Heap}
/-- a row: three ints -/
structure Rw where
  a : Int
  b : Int
  c : Int
  h0 : 0 ≤ b
  h1 : b < 536870909
def Rw.o (P : Rw) : HO := .lst [.int P.a, .int P.b, .int P.c]
/-! _law_stream -/
def sp_law_stream : Sp := fun vs H Q _ => ∃ c : Int, vs = [.int c] ∧ ∀ (p : Addr) (P1 : Rw) (H' : Hp), H p = none → Same H H' → H' p = some P1.o → Q (.ref p) H'
theorem ok_law_stream (T : Facts w K mg) : C8.Cal P w K mg base 1 "_law_stream" sp_law_stream [] := by
  refine calD T.f_law_stream sc_law_stream (fun vs H Q E h => ?_) (fun f cdv A outer s H vs Q E hr h => ?_)
  · obtain ⟨c, rfl, q⟩ := h; rfl
  · obtain ⟨c, rfl, q⟩ := h
    refine ⟨_, (pss_cons (ps_set (i := 1) sc_law_stream.nd rfl (Or.inl rfl) (pe_op op_mod (pv 0) pe_int))
       (pss_cons (ps_set (i := 1) sc_law_stream.nd rfl (Or.inl rfl) (pe_op op_mod (pe_op op_add (pe_op op_mul (pe_op op_mod (pe_op op_mul (pv 1) (pv 1)) pe_int) (pe_op op_add (pv 1) pe_int)) pe_int) pe_int))
       (pss_one (ps_ret (pe_lst (pa_cons (pv 0) (pa_cons (pv 1) (pa_cons (pe_callTy call_intB rfl T.b_int (by decide +kernel) (pa_cons (pe_cmpR op_ge (pv 0) (pe_op op_pow pe_int pe_int) (nomark _)) pa_nil)) pa_nil)))))))), ?_⟩
    rw [st_law_stream]
    wtm_at "unf"
    wtm_at "go"
    refine g_lst (by show 3 ≤ 100000; decide) fun p H1 np s1 e1 => ?_
    exact q p ⟨_, _, _, Int.emod_nonneg _ (by decide), Int.emod_lt_of_pos _ (by decide)⟩ H1 np s1 e1
/-! _law_take -/
def sp_law_take : Sp := fun vs H Q _ => ∃ (p : Addr) (P0 : Rw) (m : Int), vs = [.ref p, .int m] ∧ H p = some P0.o ∧ 0 < m ∧ m < 1000000 ∧ ∀ (r : Int) (P1 : Rw) (H' : Hp), 0 ≤ r → r < m → But p H H' → H' p = some P1.o → Q (.int r) H'
theorem ok_law_take (T : Facts w K mg) : C8.Cal P w K mg base 1 "_law_take" sp_law_take [] := by
  refine calD T.f_law_take sc_law_take (fun vs H Q E h => ?_) (fun f cdv A outer s H vs Q E hr h => ?_)
  · obtain ⟨p, P0, m, rfl, hp, h0, h1, q⟩ := h; rfl
  · obtain ⟨p, P0, m, rfl, hp, h0, h1, q⟩ := h
    refine ⟨_, (pss_cons (ps_if (pt_cmpR op_eq (pe_ix ix_list (pv 0) pe_int (fun _ _ => rfl)) pe_int (nomark _))
       (pss_cons (ps_set (i := 2) sc_law_take.nd rfl (Or.inl rfl) (pe_op op_mod (pe_ix ix_list (pv 0) pe_int (fun _ _ => rfl)) (pv 1)))
       (pss_cons (ps_asg (pe_op op_fdiv (pe_ix ix_list (pv 0) pe_int (fun _ _ => rfl)) (pv 1)) (pg_sub (pv 0) pe_int set_list))
       (pss_one (ps_ret (pv 2)))))
       pss_nil)
       (pss_cons (ps_asg (pe_op op_mod (pe_op op_mul (pe_op op_add (pe_ix ix_list (pv 0) pe_int (fun _ _ => rfl)) pe_int) (pe_op op_add (pe_ix ix_list (pv 0) pe_int (fun _ _ => rfl)) pe_int)) pe_int) (pg_sub (pv 0) pe_int set_list))
       (pss_one (ps_ret (pe_op op_mod (pe_op op_fdiv (pe_op op_add (pe_op op_mul (pe_ix ix_list (pv 0) pe_int (fun _ _ => rfl)) pe_int) pe_int) pe_int) (pv 1)))))), ?_⟩
    rw [st_law_take]
    have hp' : H p = some (.lst [.int P0.a, .int P0.b, .int P0.c]) := hp
    wtm_at "unf"
    wtm_at "go"
    refine g_testB (fun h => ?_) (fun h => ?_)
    · wtm_at "go"
      intro H2 b2 e2
      wtm_at "go"
      exact q (P0.a % m) ⟨P0.a / m, P0.b, P0.c, P0.h0, P0.h1⟩ H2 (Int.emod_nonneg _ (by omega)) (Int.emod_lt_of_pos _ h0) (by wtm_at "sm") e2
    · have i0 := P0.h0
      have i1 := P0.h1
      wtm_at "go"
      generalize hx : (P0.b + 7919) * (P0.b + 104729) % 536870909 = x
      have x0 : 0 ≤ x := by rw [← hx]; exact Int.emod_nonneg _ (by decide)
      have x1 : x < 536870909 := by rw [← hx]; exact Int.emod_lt_of_pos _ (by decide)
      intro H2 b2 e2
      wtm_at "go"
      exact q _ ⟨P0.a, x, P0.c, x0, x1⟩ H2 (Int.emod_nonneg _ (by omega)) (Int.emod_lt_of_pos _ h0) (by wtm_at "sm") e2
end
end K46

set_option maxHeartbeats 4000000
namespace K46
open PySem PySem.Spec PyProof.Rows L2 SX Ly
local macro_rules | `(tactic| wtm_at "unf") => `(tactic| (try simp only [tMetX, tOwnX, tChain, tSeq, tNext, tBreak, tCont, tDrop, tRet, tRetN, tIfS, tAsg, tAug, tC, tOp, tUn, tNil, tCons, tOwn, tCB, tTest, tB, tAnd, tOr, tNot, tAndV, tOrV, tNotV, tIf, gName, gSub, tBM, tBM0, tM0, tM1, tSl, tPart_eq, tNoPart, tLst_eq, tTup_eq, tRevL_eq, tReplT, tRevS, tDGet_eq, sDPut_eq, tDNewT_eq, tMet, tMak, tFld_eq, sFld_eq, C8.tCut, wipe, tYes, gTup, gCons, gNil, List.set_cons_zero, List.set_cons_succ, if_true, if_false, Bool.false_eq_true, Bool.not_true, Bool.not_false, true_and, reduceIte, cx_K, tFor_eq, tLc_eq, iStr, iList, iTup, iRng1, iRng2, iRng3, iEnum, iZip, tLstRg, tRg1, gLst, RZ.iZipA, iEnumS, iZipS, tDNewK_eq, tDGet2, tDIn, tDNotIn, iKd]))
local macro_rules | `(tactic| wtm_at "unfA") => `(tactic| (try simp only [tMetX, tOwnX, tChain, tSeq, tNext, tBreak, tCont, tDrop, tRet, tRetN, tIfS, tAsg, tAug, tC, tOp, tUn, tNil, tCons, tOwn, tCB, tTest, tB, tAnd, tOr, tNot, tIf, gName, gSub, tBM, tBM0, tM0, tM1, tSl, tPart_eq, tNoPart, tLst_eq, tTup_eq, tRevL_eq, tReplT, tRevS, tDGet_eq, sDPut_eq, tDNewT_eq, tMet, tMak, tFld_eq, sFld_eq, C8.tCut, wipe, tYes, gTup, gCons, gNil, List.set_cons_zero, List.set_cons_succ, if_true, if_false, Bool.false_eq_true, Bool.not_true, Bool.not_false, true_and, reduceIte, cx_K, tFor_eq, tLc_eq, iStr, iList, iTup, iRng1, iRng2, iRng3, iEnum, iZip, tLstRg, tRg1, gLst, RZ.iZipA, iEnumS, iZipS, tDNewK_eq, tDGet2, tDIn, tDNotIn, iKd]))
local macro_rules | `(tactic| wtm_at "ne") => `(tactic| first | assumption | (apply Ne.symm; assumption) | (apply ne_new; (· assumption); (· wtm_at "lk")) | (apply Ne.symm; apply ne_new; (· assumption); (· wtm_at "lk")))
local macro_rules | `(tactic| wtm_at "lk") => `(tactic| first | assumption | exact upd_same | (apply Same.get; (· assumption); (· wtm_at "lk")) | (apply But.get; (· assumption); (· wtm_at "ne"); (· wtm_at "lk")))
local macro_rules | `(tactic| wtm_at "sq") => `(tactic| first | assumption | (apply sq_of; wtm_at "lk") | (apply Same.seq; (· assumption); (· wtm_at "sq")) | (apply But.sq; (· assumption); (· wtm_at "ne"); (· wtm_at "sq")))
local macro_rules | `(tactic| wtm_at "fr") => `(tactic| first | assumption | (apply Same.fr; (· assumption); (· wtm_at "sm")) | (apply But.fr; (· assumption); (· wtm_at "sm"); (· wtm_at "ne")))
local macro_rules | `(tactic| wtm_at "sm") => `(tactic| first | exact Same.refl _ | exact But.refl | assumption | (apply Same.tr; (· assumption); (· wtm_at "sm")) | (apply Same.b0; (· assumption); (· wtm_at "sm"); (· wtm_at "fr")) | (apply But.sa; (· assumption); (· wtm_at "sm")) | (apply But.tr; (· assumption); (· wtm_at "sm")) | (apply But.b0; (· assumption); (· wtm_at "sm"); (· wtm_at "fr")) | (apply Same.toBut; wtm_at "sm"))
local macro_rules | `(tactic| wtm_at "sc") => `(tactic| first | exact Int.zero_lt_one | (show (0 : Int) < _; omega) | (show (0 : Int) < _; decide) | exact ⟨by omega, by omega⟩ | exact .inl ⟨by omega, by omega⟩ | exact .inr ⟨by omega, by omega⟩)
local macro_rules | `(tactic| wtm_at "go1") => `(tactic| first | ((with_reducible apply g_var); (· exact rfl)) | with_reducible apply g_I0 | ((with_reducible apply g_I); (· wtm_at "sc")) | with_reducible apply g_U | with_reducible apply g_ipI | ((with_reducible apply g_addT); (· first | omega | (simp; done) | (simp; omega))) | with_reducible apply g_inT | with_reducible apply g_ninT | ((with_reducible apply g_lenT); (· omega)) | with_reducible apply g_findT1 | with_reducible apply g_str | with_reducible apply g_part | with_reducible apply g_intB | ((with_reducible apply g_ixL); (· wtm_at "sq"); (· exact rfl)) | ((with_reducible apply g_setL); (· wtm_at "lk"); (· exact rfl)) | ((with_reducible apply g_eq); (· rfl)) | ((with_reducible apply g_ne); (· rfl)))
local macro_rules | `(tactic| wtm_at "go") => `(tactic| repeat wtm_at "go1")
local macro_rules | `(tactic| wtm_at "lp") => `(tactic| skip)
local macro_rules | `(tactic| wtm_at "om") => `(tactic| first | omega | (simp; done) | (simp; omega) | (simp at *; omega))
local macro_rules | `(tactic| wtm_at "ty") => `(tactic| first | exact ty_str | exact ty_int | exact ty_bl | exact ty_non | (apply ty_lst; wtm_at "lk") | (apply ty_tup; wtm_at "lk"))
local macro_rules | `(tactic| wtm_at "kb") => `(tactic| first | exact kb_str_str | exact kb_str_int | exact kb_str_bool | exact kb_str_list | exact kb_str_tuple | exact kb_int_str | exact kb_int_int | exact kb_int_bool | exact kb_int_list | exact kb_int_tuple | exact kb_bool_str | exact kb_bool_int | exact kb_bool_bool | exact kb_bool_list | exact kb_bool_tuple | exact kb_list_str | exact kb_list_int | exact kb_list_bool | exact kb_list_list | exact kb_list_tuple | exact kb_tuple_str | exact kb_tuple_int | exact kb_tuple_bool | exact kb_tuple_list | exact kb_tuple_tuple | exact kb_NoneType_str | exact kb_NoneType_int | exact kb_NoneType_bool | exact kb_NoneType_list | exact kb_NoneType_tuple | exact kb_dict_str | exact kb_dict_int | exact kb_dict_bool | exact kb_dict_list | exact kb_dict_tuple)
local macro_rules | `(tactic| wtm_at "gx1") => `(tactic| first | ((with_reducible apply g_eqS); (· exact rfl)) | ((with_reducible apply g_neS); (· exact rfl)) | wtm_at "go1" | with_reducible apply g_min2 | with_reducible apply g_max2 | with_reducible apply g_T | with_reducible apply g_F | with_reducible apply g_NT | with_reducible apply g_NF | with_reducible apply g_nT | with_reducible apply g_nF | with_reducible apply g_RT | with_reducible apply g_RF | ((with_reducible apply g_isi); (· wtm_at "ty"); (· wtm_at "kb")) | ((with_reducible apply g_ixAU3); (· wtm_at "lk"); (· exact rfl)) | ((with_reducible apply g_ixAL3); (· wtm_at "lk"); (· exact rfl)) | ((with_reducible apply g_ixU3); (· wtm_at "lk"); (· exact rfl)) | ((with_reducible apply g_lenL3); (· wtm_at "lk")) | ((with_reducible apply g_lenU3); (· wtm_at "lk")) | ((with_reducible apply g_tyL3); (· wtm_at "lk")) | ((with_reducible apply g_lenT); (· wtm_at "pv")) | wtm_at "tr" | with_reducible apply g_ET | with_reducible apply g_EF | with_reducible apply g_EnT | with_reducible apply g_EnF)
local macro_rules | `(tactic| wtm_at "pv") => `(tactic| first | exact rfl | assumption | omega | (simp; done) | (simp; omega))
local macro_rules | `(tactic| wtm_at "tr") => `(tactic| first | ((with_reducible apply g_Td); (· wtm_at "pv")) | ((with_reducible apply g_Fd); (· wtm_at "pv")) | ((with_reducible apply g_NTd); (· wtm_at "pv")) | ((with_reducible apply g_NFd); (· wtm_at "pv")) | ((with_reducible apply g_nTd); (· wtm_at "pv")) | ((with_reducible apply g_nFd); (· wtm_at "pv")) | ((with_reducible apply g_RTd); (· wtm_at "pv")) | ((with_reducible apply g_RFd); (· wtm_at "pv")))
local macro_rules | `(tactic| wtm_at "gx") => `(tactic| repeat wtm_at "gx1")
local macro_rules | `(tactic| wtm_at "unfS") => `(tactic| (try simp only [tSeq, tNext, tAsg, tFor_eq, C8.tCut, wipe, gName, tDrop, List.set_cons_zero, List.set_cons_succ, cx_K]))
local macro_rules | `(tactic| wtm_at "rd1") => `(tactic| first | exact rd_int | exact rd_str | exact rd_bl | exact rd_non | exact rda_nil | apply rda_cons | (with_reducible apply rd_tup; (· assumption)) | (with_reducible apply rd_lst; (· assumption)) | exact rd_dic (by assumption) | exact rd_var rfl (.int _) | exact rd_var rfl (.str _) | exact rd_var rfl (.bl _) | exact rd_var rfl (by assumption) | (with_reducible apply rd_cat; (· assumption)) | (with_reducible apply rd_rep2; (· assumption)) | (with_reducible apply rd_rev; (· assumption)) | (with_reducible apply rd_to; (· assumption)) | (with_reducible apply rd_from; (· assumption)) | (with_reducible apply rd_tupOf; (· assumption)) | (with_reducible apply rd_lstOf; (· assumption)) | with_reducible apply rd_lenL | with_reducible apply rd_lenT | with_reducible apply rd_I0 | with_reducible apply rd_I | with_reducible apply rd_U | with_reducible apply rd_eqI | with_reducible apply rd_ixL | with_reducible apply rd_ixT | exact atI_hd _ _ | exact ‹atI _ _ = some _›)
local macro_rules | `(tactic| wtm_at "rdl") => `(tactic| first | decide | omega | wtm_at "sc" | (simp only [List.length_append, List.length_cons, List.length_nil, List.length_map, List.length_take, List.length_drop, List.length_reverse, cutTo]; omega))
local macro_rules | `(tactic| wtm_at "rd") => `(tactic| ((repeat' wtm_at "rd1"); (all_goals wtm_at "rdl")))
local macro_rules | `(tactic| wtm_at "nc") => `(tactic| repeat' (first | assumption | exact nca_nil | exact nc_non | exact nc_bl | exact nc_dic | exact nc_tup0 | exact nc_lst0 | (refine nc_strS (by decide) (by decide)) | (refine nc_int (by omega)) | (refine nc_big (by decide +kernel)) | refine nca_app ?_ ?_ | refine nca_cons ?_ ?_ | refine nca_take ?_ | refine nca_drop ?_ | refine nca_cutTo ?_ | refine nca_rev ?_ | refine nc_tup (by decide) ?_ | refine nc_lst (by decide) ?_ | refine nc_lst (Nat.le_trans (show _ ≤ 45 by wtm_at "rdl") (by decide)) ?_ | refine nc_tup (Nat.le_trans (show _ ≤ 45 by wtm_at "rdl") (by decide)) ?_))

section
variable {P : Program} {w : World} {K : PySem.W.Frag} {mg : Str → Option Value} {base : Heap}
/-- a deed as written: a place to forty, to thirty-nine where a sign is struck or turned -/
def gdB (d : Deed) : Bool := match d.2 with
  | .put c => decide (d.1 ≤ 40) && decide (c ∈ BRK)
  | .str => decide (d.1 < 40)
  | .trn c => decide (d.1 < 40) && decide (c ∈ BRK)
def gdDs (ds : List Deed) : Bool := ds.all gdB && chB ds
theorem log_sm {p : Nat} (h : p < 100) : ((p : Int)).natAbs.log2 < 1920 := by
  have : ∀ p : Nat, p < 100 → p.log2 < 1920 := by decide +kernel
  exact this p h
theorem gd_le {d : Deed} (h : gdB d = true) : d.1 ≤ 40 := by
  obtain ⟨p, w⟩ := d
  cases w <;> simp [gdB] at h <;> omega
theorem figs_last : ∀ p : Nat, p < 100 → ((figs p).getLast?.any fun c => !decide (c ∈ [43, 45, 61] ++ OPN ++ CLO)) = true := by decide +kernel
theorem brk_mb : ∀ c ∈ BRK, c ∈ [43, 45, 61] ++ OPN ++ CLO := by decide
theorem rstr_word {d : Deed} (hp : d.1 < 100) (hs : ∀ c ∈ d.2.s, c ∈ BRK) : rstr (([43, 45, 61] ++ OPN) ++ CLO) (wordL d) = figs d.1 := by
  have h1 := figs_last d.1 hp
  cases hl : (figs d.1).getLast? with
  | none => rw [hl] at h1; cases h1
  | some c =>
    rw [hl] at h1
    have hc : c ∉ [43, 45, 61] ++ OPN ++ CLO := by
      intro h
      have h2 : (!decide (c ∈ [43, 45, 61] ++ OPN ++ CLO)) = true := h1
      rw [decide_eq_true h] at h2
      cases h2
    unfold wordL
    rw [List.append_assoc (figs d.1)]
    refine rstr_app (fun x hx => ?_) hl hc
    rcases List.mem_append.mp hx with hx | hx
    · rw [List.mem_singleton.mp hx]
      obtain ⟨p, w⟩ := d
      cases w with
      | put c => exact (by decide : (43 : Nat) ∈ [43, 45, 61] ++ OPN ++ CLO)
      | str => exact (by decide : (45 : Nat) ∈ [43, 45, 61] ++ OPN ++ CLO)
      | trn c => exact (by decide : (61 : Nat) ∈ [43, 45, 61] ++ OPN ++ CLO)
    · exact brk_mb x (hs x hx)
theorem gd_sgn {d : Deed} (h : gdB d = true) : ∀ c ∈ d.2.s, c ∈ BRK := by
  obtain ⟨p, w⟩ := d
  intro c hc
  cases w with
  | put x => simp [gdB] at h; rw [List.mem_singleton.mp hc]; exact h.2
  | str => cases hc
  | trn x => simp [gdB] at h; rw [List.mem_singleton.mp hc]; exact h.2
theorem flat_one : ∀ c ∈ BRK, flatV (Tx [c]) = true := by decide +kernel
theorem in_brks : ∀ c ∈ BRK, inV (Tx [c]) (sgV (OPN ++ CLO)) = true := by decide +kernel
theorem gd_lim {d : Deed} (h : gdB d = true) : ¬ ((40 : Int) - (if (!decide (Tx [d.2.mk] = Tx [43])) = true then 1 else 0) < (d.1 : Int)) := by
  have h45 : decide (Tx [45] = Tx [43]) = false := decide_eq_false fun q => by have := Tx_inj.mp q; simp at this
  have h61 : decide (Tx [61] = Tx [43]) = false := decide_eq_false fun q => by have := Tx_inj.mp q; simp at this
  have h43 : decide (Tx [43] = Tx [43]) = true := decide_eq_true rfl
  obtain ⟨p, w⟩ := d
  cases w with
  | put c => simp [gdB] at h; simp only [Dw.mk, h43]; rw [if_neg (by decide)]; omega
  | str =>
    simp [gdB] at h
    show ¬ ((40 : Int) - (if (!decide (Tx [45] = Tx [43])) = true then 1 else 0) < (p : Int))
    split
    · omega
    · rename_i hh; exact absurd (by rw [h45]; rfl) hh
  | trn c =>
    simp [gdB] at h
    show ¬ ((40 : Int) - (if (!decide (Tx [61] = Tx [43])) = true then 1 else 0) < (p : Int))
    split
    · omega
    · rename_i hh; exact absurd (by rw [h61]; rfl) hh
theorem d4345 : decide (Tx [43] = Tx [45]) = false := decide_eq_false fun q => by have := Tx_inj.mp q; simp at this
theorem d6145 : decide (Tx [61] = Tx [45]) = false := decide_eq_false fun q => by have := Tx_inj.mp q; simp at this
theorem joinL_len : ∀ l : List (List Nat), (TL.joinL commaL l).length ≤ (l.map (·.length)).sum + 2 * l.length
  | [] => Nat.zero_le _
  | [x] => by show x.length ≤ x.length + 0 + 2; omega
  | x :: y :: r => by
    have ih := joinL_len (y :: r)
    show (x ++ (commaL ++ TL.joinL commaL (y :: r))).length ≤ _
    rw [List.length_append, List.length_append]
    simp only [List.map_cons, List.sum_cons, List.length_cons] at ih ⊢
    have : commaL.length = 2 := rfl
    omega
theorem wordL_len {d : Deed} (h : d.1 < 100) : (wordL d).length ≤ 4 := by
  have h1 := figs_len d.1 h
  have h2 : d.2.s.length ≤ 1 := by cases d.2 <;> simp [Dw.s]
  unfold wordL
  rw [List.length_append, List.length_append, h1, List.length_singleton]
  split <;> omega
theorem words_sum {ds : List Deed} (h : ∀ d ∈ ds, d.1 < 100) : ((ds.map wordL).map (·.length)).sum ≤ 4 * ds.length := by
  induction ds with
  | nil => exact Nat.le_refl _
  | cons d ds ih =>
    have := wordL_len (h d (List.mem_cons_self ..))
    have := ih fun x hx => h x (List.mem_cons_of_mem _ hx)
    simp only [List.map_cons, List.sum_cons, List.length_cons]
    omega
theorem showL_len {ds : List Deed} (h : ∀ d ∈ ds, d.1 < 100) : (showL ds).length ≤ 6 * ds.length + 4 := by
  unfold showL
  split
  · exact Nat.le_add_left _ _
  · have h1 := words_sum h
    have h3 := joinL_len (ds.map wordL)
    rw [List.length_map] at h3
    omega
theorem word_comma {d : Deed} (hp : d.1 < 100) (hs : ∀ c ∈ d.2.s, c ∈ BRK) : (44 : Nat) ∉ wordL d := by
  unfold wordL
  intro h
  rcases List.mem_append.mp h with h | h
  · rcases List.mem_append.mp h with h | h
    · have := figs_dig d.1 hp _ h; omega
    · obtain ⟨p, w⟩ := d
      cases w with
      | put c => exact absurd (List.mem_singleton.mp h) (show ¬ (44 : Nat) = 43 by decide)
      | str => exact absurd (List.mem_singleton.mp h) (show ¬ (44 : Nat) = 45 by decide)
      | trn c => exact absurd (List.mem_singleton.mp h) (show ¬ (44 : Nat) = 61 by decide)
  · exact absurd (hs _ h) (by decide)
theorem showL_hd {ds : List Deed} (h0 : ds ≠ []) (hp : ∀ d ∈ ds, d.1 < 100) : ∃ c r, showL ds = c :: r ∧ 48 ≤ c ∧ c ≤ 57 := by
  match ds, h0 with
  | d :: r, _ =>
    have h1 := figs_len d.1 (hp d (List.mem_cons_self ..))
    have h2 := figs_dig d.1 (hp d (List.mem_cons_self ..))
    cases hf : figs d.1 with
    | nil => rw [hf] at h1; split at h1 <;> cases h1
    | cons c x =>
      have hw : wordL d = c :: (x ++ [d.2.mk] ++ d.2.s) := by unfold wordL; rw [hf]; rfl
      rw [hf] at h2
      have h3 := h2 c (List.mem_cons_self ..)
      cases r with
      | nil => exact ⟨c, _, by unfold showL; rw [if_neg (by simp)]; exact hw, h3⟩
      | cons e r => exact ⟨c, _, by unfold showL; rw [if_neg (by simp)]; show wordL d ++ _ = _; rw [hw]; rfl, h3⟩
theorem showL_ne {ds : List Deed} (h0 : ds ≠ []) (hp : ∀ d ∈ ds, d.1 < 100) : showL ds ≠ [110, 111, 110, 101] := by
  obtain ⟨c, r, h1, h2⟩ := showL_hd h0 hp
  rw [h1]
  intro e
  injection e with e1 e2
  omega
/-! shown_deed -/
def sp_shown_deed : Sp := fun vs H Q _ => ∃ (a : Addr) (d : Deed), vs = [.ref a] ∧ H a = some (.tup (ddV d)) ∧ d.1 < 100 ∧ ∀ H', Same H H' → Q (Tx (wordL d)) H'
theorem ok_shown_deed (T : Facts w K mg) : C8.Cal P w K mg base 1 "shown_deed" sp_shown_deed [] := by
  refine calD T.f_shown_deed sc_shown_deed (fun vs H Q E h => ?_) (fun f cdv A outer s H vs Q E hr h => ?_)
  · obtain ⟨a, d, rfl, ha, hp, q⟩ := h; rfl
  · obtain ⟨a, d, rfl, ha, hp, q⟩ := h
    refine ⟨_, (pss_cons (ps_asg (pv 0) (pg_tup rfl (pgs_cons (pg_name (i := 1) sc_shown_deed.nd rfl (Or.inl rfl)) (pgs_cons (pg_name (i := 2) sc_shown_deed.nd rfl (Or.inr rfl)) (pgs_cons (pg_name (i := 3) sc_shown_deed.nd rfl (Or.inl rfl)) pgs_nil)))))
       (pss_cons (ps_setLc (i := 4) (own := [("mark", 5)]) (by rfl) sc_shown_deed.nd rfl rfl (sw_true rfl rfl rfl (by decide +kernel)) (pi_kd T.d_MARKS (C8.pe_gc rfl T.c_MARKS)) (blkOk_by (own := [("mark", 5)]) (N := N_shown_deed) (sc := defScope s_shown_deed) (by decide +kernel)) (fun _ _ _ _ _ => (pg_name (i := 5) sc_shown_deed.nd rfl (Or.inl rfl))) (fun _ _ _ _ _ => (pts_one (pt_cmpR op_eq (pe_ix (ix_kd T.d_MARKS) (C8.pe_gc rfl T.c_MARKS) (pv 5) (fun _ _ => rfl)) (pv 2) (nomark _)))) (fun _ _ _ _ _ => (pv 5)))
       (pss_one (ps_ret (pe_op op_addT (pe_op op_addT (pe_callTy call_str_int rfl T.b_str (by decide +kernel) (pa_cons (pv 1) pa_nil)) (pe_ix ix_list (pv 4) pe_int (fun _ _ => rfl))) (pv 3)))))), ?_⟩
    rw [st_shown_deed]
    wtm_at "unf"
    wtm_at "gx"
    refine ⟨a, _, rfl, st_of ha, rfl, _, _, rfl, _, _, rfl, _, _, rfl, rfl, ?_⟩
    wtm_at "gx"
    refine lc_m fun m H1 nm s1 em => ⟨fun i G => G m = some (.lst ((kv_MARKS.take i).filter (fun kv => kv.2 == S d.2.w) |>.map fun kv => V.str kv.1)) ∧ Same H G, ⟨em, s1⟩, fun i kv G hi hv => ?_, fun G hv => ?_⟩
    · obtain ⟨e1, sG⟩ := hv
      wtm_at "unf"
      refine ⟨rfl, ?_⟩
      wtm_at "gx"
      have hk : byK kv_MARKS kv.1 = some kv.2 := by
        match i, hi with
        | 0, hi => rw [← Option.some.inj hi]; decide +kernel
        | 1, hi => rw [← Option.some.inj hi]; decide +kernel
        | 2, hi => rw [← Option.some.inj hi]; decide +kernel
        | i + 3, hi => cases hi
      refine ⟨rfl, kv.1, kv.2, rfl, hk, ?_⟩
      wtm_at "gx"
      have htk : kv_MARKS.take (i + 1) = kv_MARKS.take i ++ [kv] := (cut_at hi).1
      refine ⟨_, rfl, ?_⟩
      rw [htk, List.filter_append, List.map_append]
      by_cases hw : kv.2 = S d.2.w
      · rw [if_pos (decide_eq_true (by rw [hw])), List.filter_cons_of_pos (by rw [hw]; exact beq_self_eq_true _)]
        wtm_at "gx"
        refine lc_put e1 (by have := List.length_filter_le (fun kv : Str × Str => kv.2 == S d.2.w) (kv_MARKS.take i); rw [List.length_map]; have h3 : (kv_MARKS.take i).length ≤ 3 := by rw [List.length_take]; exact Nat.min_le_right _ _
                             omega) fun G2 b2 e2 => ⟨e2, Same.b0 b2 sG nm⟩
      · rw [if_neg (by rw [decide_eq_true_eq]; exact fun e => hw (V.str.inj e)), List.filter_cons_of_neg (by rw [beq_iff_eq]; exact hw), List.filter_nil, List.map_nil, List.append_nil]
        exact ⟨e1, sG⟩
    · obtain ⟨e1, sG⟩ := hv
      have e1 : G m = some (.lst [Tx [d.2.mk]]) := by
        rw [e1]
        obtain ⟨p, w⟩ := d
        cases w <;> rfl
      wtm_at "gx"
      refine ⟨_, rfl, log_sm hp, ?_⟩
      wtm_at "gx"
      rw [fgs_eq, fgs_figs _ hp]
      have hl := wordL_len hp
      unfold wordL at hl
      rw [List.length_append, List.length_append] at hl
      refine g_addT (by rw [List.length_singleton] at *; omega) ?_
      wtm_at "gx"
      exact q _ sG
/-! show_deeds -/
def sp_show_deeds : Sp := fun vs H Q _ => ∃ (a : Addr) (rs : List Addr) (ds : List Deed), vs = [.ref a] ∧ Dds H a rs ds ∧ (∀ d ∈ ds, d.1 < 100) ∧ ds.length ≤ 1000 ∧ ∀ H', Same H H' → Q (Tx (showL ds)) H'
theorem ok_show_deeds (T : Facts w K mg) : C8.Cal P w K mg base 2 "show_deeds" sp_show_deeds [] := by
  refine calD T.f_show_deeds sc_show_deeds (fun vs H Q E h => ?_) (fun f cdv A outer s H vs Q E hr h => ?_)
  · obtain ⟨a, rs, ds, rfl, hD, hp, hl, q⟩ := h; rfl
  · obtain ⟨a, rs, ds, rfl, hD, hp, hl, q⟩ := h
    refine ⟨_, (pss_cons (ps_if (pt_cmpR (op_eqE hr.units) (pv 0) (pe_lst pa_nil) (nomark _))
       (pss_one (ps_ret (pe_strS (l := [110, 111, 110, 101]) (by decide +kernel))))
       pss_nil)
       (pss_one (ps_ret (pe_m1 PySem.F.slot_str_join PySem.F.type_str_join mt_joinT (pe_strS (l := [44, 32]) (by decide +kernel)) (pe_lc (own := [("deed", 1)]) (by rfl) sc_show_deeds.nd (pi_list (pv 0)) (blkOk_by (own := [("deed", 1)]) (N := N_show_deeds) (sc := defScope s_show_deeds) (by decide +kernel)) (fun _ _ _ _ _ => (pg_name (i := 1) sc_show_deeds.nd rfl (Or.inl rfl))) (fun _ _ _ _ _ => pts_nil) (fun _ _ _ _ _ => (pe_own (ok_shown_deed T) hr (by omega) rfl (pa_cons (pv 1) pa_nil)))))))), ?_⟩
    rw [st_show_deeds]
    wtm_at "unf"
    wtm_at "gx"
    refine g_lst (by show 0 ≤ 100000; decide) fun l0 H1 nl0 s1 el0 => ?_
    have hD1 := hD.same s1
    refine g_eqE (sq_of hD1.hd) el0 ?_
    have hrl := hD.len
    refine ⟨_, rfl, ?_⟩
    by_cases h0 : ds = []
    · subst h0
      have : rs = [] := List.eq_nil_of_length_eq_zero hrl
      rw [if_pos (by rw [this]; rfl)]
      exact q _ s1
    · have h1 : ¬ rs.map V.ref = [] := fun e => h0 (List.eq_nil_of_length_eq_zero (by rw [← hrl, ← List.length_map V.ref, e]; rfl))
      rw [if_neg (by rw [decide_eq_false h1]; exact Bool.false_ne_true)]
      wtm_at "gx"
      refine ⟨_, rfl, ⟨_, sq_of hD1.hd⟩, lc_lst (rs.map V.ref) fun m H2 nm s2 em => ⟨fun pre G => G m = some (.lst (((ds.take pre.length).map wordL).map Tx)) ∧ Same H1 G, ⟨em, s2⟩, fun pre post G e hv => sq_of (hv.2 _ _ hD1.hd), fun pre x post G e hv => ?_, fun G hv => ?_⟩⟩
      · obtain ⟨e1, sG⟩ := hv
        have hx := mid_at e
        obtain ⟨k, hk⟩ : ∃ k, pre.length = k := ⟨_, rfl⟩
        rw [hk] at hx e1
        have hkl : k < ds.length := by have := (List.getElem?_eq_some_iff.mp hx).1; rw [List.length_map] at this; omega
        obtain ⟨r, d, k1, k2, k3, k4⟩ := (hD1.same sG).row hkl
        rw [k3] at hx
        have hx' := (Option.some.inj hx).symm
        subst hx'
        wtm_at "unf"
        refine ⟨rfl, ?_⟩
        wtm_at "gx"
        refine ⟨r, d, rfl, k4, hp d (List.mem_of_getElem? k2), fun G2 g2 => ?_⟩
        refine lc_put (g2 _ _ e1) (by simp; omega) fun G3 b3 e3 => ⟨?_, Same.b0 b3 (sG.trans g2) nm⟩
        rw [List.length_append, hk, show k + [V.ref r].length = k + 1 from rfl, (cut_at k2).1, List.map_append, List.map_append]
        exact e3
      · obtain ⟨e1, sG⟩ := hv
        rw [List.length_map, hrl, List.take_length] at e1
        have hs := words_sum hp
        refine g_joinT (sq_of e1) (by rw [List.length_map]; show _ + ds.length * 2 ≤ 100000; omega) ?_
        have := q G (s1.trans sG)
        unfold showL at this
        rw [if_neg h0] at this
        exact this
/-! deed_in -/
def sp_deed_in : Sp := fun vs H Q _ => ∃ (d : Deed), vs = [Tx (wordL d)] ∧ gdB d = true ∧ ∀ (t : Addr) (H' : Hp), H t = none → Same H H' → H' t = some (.tup (ddV d)) → Q (.ref t) H'
theorem ok_deed_in (T : Facts w K mg) : C8.Cal P w K mg base 2 "deed_in" sp_deed_in [] := by
  refine calD T.f_deed_in sc_deed_in (fun vs H Q E h => ?_) (fun f cdv A outer s H vs Q E hr h => ?_)
  · obtain ⟨d, rfl, hd, q⟩ := h; rfl
  · obtain ⟨d, rfl, hd, q⟩ := h
    refine ⟨_, (pss_cons (ps_set (i := 1) sc_deed_in.nd rfl (Or.inl rfl) (pe_bm PySem.F.plainAttrs_str PySem.F.slot_str_rstrip PySem.F.type_str_rstrip mt_rstrT (pv 0) (pa_cons (pe_op op_addT (pe_op op_addT (pe_strS (l := [43, 45, 61]) (by decide +kernel)) (C8.pe_gc rfl T.c_OPENING)) (C8.pe_gc rfl T.c_CLOSING)) pa_nil)))
       (pss_cons (ps_set (i := 2) sc_deed_in.nd rfl (Or.inl rfl) (pe_slice sl_tx (pv 0) (po_some (pe_callB call_lenT rfl T.b_len PySem.boot_len (pa_cons (pv 1) pa_nil))) (po_some (pe_op op_add (pe_callB call_lenT rfl T.b_len PySem.boot_len (pa_cons (pv 1) pa_nil)) pe_int))))
       (pss_cons (ps_set (i := 3) sc_deed_in.nd rfl (Or.inl rfl) (pe_slice sl_tx (pv 0) (po_some (pe_op op_add (pe_callB call_lenT rfl T.b_len PySem.boot_len (pa_cons (pv 1) pa_nil)) pe_int)) po_none))
       (pss_cons (ps_ifC (PW.pt (pw_or (pt_not (pt_chain op_le op_le pe_int (pe_callB call_lenT rfl T.b_len PySem.boot_len (pa_cons (pv 1) pa_nil)) pe_int)) (pw_or (pt_cmpR (op_neE hr.units) (pe_lc (own := [("one", 6)]) (by rfl) sc_deed_in.nd (pi_str (pv 1)) (blkOk_by (own := [("one", 6)]) (N := N_deed_in) (sc := defScope s_deed_in) (by decide +kernel)) (fun _ _ _ _ _ => (pg_name (i := 6) sc_deed_in.nd rfl (Or.inl rfl))) (fun _ _ _ _ _ => (pts_one (pt_cmpR op_notInT (pv 6) (C8.pe_gc rfl T.c_FIGURES) (by rfl)))) (fun _ _ _ _ _ => (pv 6))) (pe_lst pa_nil) (nomark _)) (pw_or1 (pt_cmpR (op_ninKd T.d_MARKS) (pv 2) (C8.pe_gc rfl T.c_MARKS) (by rfl))))))
       (pss_one ps_never)
       pss_nil)
       (pss_cons (ps_set (i := 4) sc_deed_in.nd rfl (Or.inl rfl) (pe_callTy (call_listT rfl) rfl T.b_list (by decide +kernel) (pa_cons (pe_op op_addT (C8.pe_gc rfl T.c_OPENING) (C8.pe_gc rfl T.c_CLOSING)) pa_nil)))
       (pss_cons (ps_ifC (PW.pt (pw_or (PW.pt (pw_and (pt_cmpR op_eq (pv 2) (pe_strS (l := [45]) (by decide +kernel)) (nomark _)) (pw_and1 (pt_cmpR op_ne (pv 3) (pe_strS (l := []) (by decide +kernel)) (nomark _))))) (pw_or1 (PW.pt (pw_and (pt_cmpR op_ne (pv 2) (pe_strS (l := [45]) (by decide +kernel)) (nomark _)) (pw_and1 (pt_cmpR op_notIn_seq (pv 3) (pv 4) (by rfl))))))))
       (pss_one ps_never)
       pss_nil)
       (pss_cons (ps_set (i := 5) sc_deed_in.nd rfl (Or.inl rfl) (pe_tup (pa_cons (pe_callTy call_int_str rfl T.b_int (by decide +kernel) (pa_cons (pv 1) pa_nil)) (pa_cons (pe_ix (ix_kd T.d_MARKS) (C8.pe_gc rfl T.c_MARKS) (pv 2) (fun _ _ => rfl)) (pa_cons (pv 3) pa_nil)))))
       (pss_cons (ps_ifC (PW.pt (pw_or (pt_cmpR op_gt (pe_ix ix_tup (pv 5) pe_int (fun _ _ => rfl)) (pe_op op_sub (C8.pe_gc rfl T.c_MOST) (pe_callTy call_intB rfl T.b_int (by decide +kernel) (pa_cons (pe_cmpR op_ne (pv 2) (pe_strS (l := [43]) (by decide +kernel)) (nomark _)) pa_nil))) (nomark _)) (pw_or1 (pt_cmpR op_ne (pe_own (ok_shown_deed T) hr (by omega) rfl (pa_cons (pv 5) pa_nil)) (pv 0) (nomark _)))))
       (pss_one ps_never)
       pss_nil)
       (pss_one (ps_ret (pv 5))))))))))), ?_⟩
    rw [st_deed_in]
    have hp : d.1 < 100 := by have := gd_le hd; omega
    have hwl := wordL_len hp
    have hfl : 1 ≤ (figs d.1).length ∧ (figs d.1).length ≤ 2 := by rw [figs_len d.1 hp]; split <;> omega
    have hgd := gd_sgn hd
    have hmk : byK kv_MARKS (S [d.2.mk]) = some (S d.2.w) := by
      obtain ⟨p, w⟩ := d
      cases w <;> rfl
    wtm_at "unf"
    wtm_at "gx"
    refine ⟨rfl, ?_⟩
    refine g_addT (by decide) (g_addT (by decide) ?_)
    refine g_rstrT (by omega) ?_
    rw [rstr_word hp hgd]
    wtm_at "gx"
    refine g_slOne2 (l := wordL d) (by omega) ?_
    rw [show ((wordL d).drop (figs d.1).length).take 1 = [d.2.mk] by unfold wordL; rw [List.append_assoc, List.drop_left]; rfl]
    wtm_at "gx"
    refine g_slFrom (l := wordL d) (by omega) (by omega) ?_
    rw [show (wordL d).drop ((((figs d.1).length : Nat) : Int) + 1).toNat = d.2.s by
      rw [show (((figs d.1).length : Int) + 1).toNat = (figs d.1 ++ [d.2.mk]).length by rw [List.length_append]; exact rfl]
      unfold wordL
      rw [List.drop_left]]
    wtm_at "unfS"
    refine g_ifH (b := false) (G := fun G1 => Same H G1) (fun Q' q' => ?_) (fun G1 g h => by cases h) (fun G1 g1 _ => ?_)
    · wtm_at "unf"
      wtm_at "gx"
      refine ⟨_, rfl, lc_txt (l := figs d.1) fun m H1 nm s1 em => ⟨fun pre G => G m = some (.lst []) ∧ Same H G, ⟨em, s1⟩, fun pre c post G e hv => ?_, fun G hv => ?_⟩⟩
      · obtain ⟨e1, sG⟩ := hv
        have hc := figs_dig d.1 hp c (by rw [e]; simp)
        wtm_at "unf"
        refine ⟨rfl, ?_⟩
        wtm_at "gx"
        exact ⟨e1, sG⟩
      · obtain ⟨e1, sG⟩ := hv
        refine g_lst (by show 0 ≤ 100000; decide) fun l0 G1 nl0 g1 el0 => ?_
        refine g_neE (sq_of (g1 _ _ e1)) el0 ?_
        refine ⟨false, rfl, ?_⟩
        rw [if_neg Bool.false_ne_true]
        wtm_at "gx"
        refine ⟨_, rfl, rfl, ?_⟩
        rw [hmk]
        exact ⟨false, rfl, q' _ (sG.trans g1)⟩
    wtm_at "unf"
    wtm_at "gx"
    refine g_addT (by decide) ?_
    refine g_listT (by decide) fun br G2 nbr g2 ebr => ?_
    wtm_at "unfS"
    refine g_ifH (b := false) (G := fun G3 => Same G2 G3) (fun Q' q' => ?_) (fun G3 g h => by cases h) (fun G3 g3 _ => ?_)
    · wtm_at "unf"
      wtm_at "gx"
      cases hw : d.2 with
      | str =>
        wtm_at "gx"
        exact q' _ (Same.refl _)
      | put c =>
        have hcb : c ∈ BRK := hgd c (by rw [hw]; exact List.mem_singleton.mpr rfl)
        rw [show (Dw.put c).mk = 43 from rfl, show (Dw.put c).s = [c] from rfl]
        wtm_at "gx"
        refine ⟨br, _, rfl, .inl (sq_of ebr), flat_one c hcb, by decide +kernel, ?_⟩
        rw [if_pos rfl, in_brks c hcb]
        exact ⟨false, rfl, q' _ (Same.refl _)⟩
      | trn c =>
        have hcb : c ∈ BRK := hgd c (by rw [hw]; exact List.mem_singleton.mpr rfl)
        rw [show (Dw.trn c).mk = 61 from rfl, show (Dw.trn c).s = [c] from rfl]
        wtm_at "gx"
        refine ⟨br, _, rfl, .inl (sq_of ebr), flat_one c hcb, by decide +kernel, ?_⟩
        rw [if_pos rfl, in_brks c hcb]
        exact ⟨false, rfl, q' _ (Same.refl _)⟩
    wtm_at "unf"
    wtm_at "gx"
    refine ⟨S (figs d.1), d.1, rfl, int_figs hp, by rw [S_len]; omega, ?_⟩
    wtm_at "gx"
    refine ⟨rfl, _, _, rfl, hmk, ?_⟩
    wtm_at "gx"
    refine g_tup (by show 3 ≤ 100000; decide) fun t G4 nt g4 et => ?_
    have s04 : Same H G4 := g1.trans (g2.trans (g3.trans g4))
    wtm_at "unfS"
    refine g_ifH (b := false) (G := fun G5 => Same G4 G5) (fun Q' q' => ?_) (fun G3 g h => by cases h) (fun G5 g5 _ => ?_)
    · wtm_at "unf"
      wtm_at "gx"
      refine ⟨false, by rw [decide_eq_false (gd_lim hd)], ?_⟩
      rw [if_neg Bool.false_ne_true]
      wtm_at "gx"
      refine ⟨t, d, rfl, et, hp, fun G5 g5 => ?_⟩
      wtm_at "gx"
      exact q' _ g5
    wtm_at "unf"
    wtm_at "gx"
    exact q t G5 ((g1.trans (g2.trans g3)).free nt) (s04.trans g5) (g5 _ _ et)
/-! read_deeds -/
def sp_read_deeds : Sp := fun vs H Q _ => ∃ (ds : List Deed), vs = [Tx (showL ds)] ∧ gdDs ds = true ∧ ds.length ≤ 80 ∧ ∀ (b : Addr) (rs : List Addr) (H' : Hp), H b = none → Same H H' → Dds H' b rs ds → Q (.ref b) H'
theorem ok_read_deeds (T : Facts w K mg) : C8.Cal P w K mg base 3 "read_deeds" sp_read_deeds [] := by
  refine calD T.f_read_deeds sc_read_deeds (fun vs H Q E h => ?_) (fun f cdv A outer s H vs Q E hr h => ?_)
  · obtain ⟨ds, rfl, hd, hl, q⟩ := h; rfl
  · obtain ⟨ds, rfl, hd, hl, q⟩ := h
    refine ⟨_, (pss_cons (ps_if (pt_cmpR op_eq (pv 0) (pe_strS (l := [110, 111, 110, 101]) (by decide +kernel)) (nomark _))
       (pss_one (ps_ret (pe_lst pa_nil)))
       pss_nil)
       (pss_cons (ps_setLc (i := 1) (own := [("word", 4)]) (by rfl) sc_read_deeds.nd rfl rfl (sw_true rfl rfl rfl (by decide +kernel)) (pi_list (pe_m1 PySem.F.slot_str_split PySem.F.type_str_split mt_splitT (pv 0) (pe_strS (l := [44, 32]) (by decide +kernel)))) (blkOk_by (own := [("word", 4)]) (N := N_read_deeds) (sc := defScope s_read_deeds) (by decide +kernel)) (fun _ _ _ _ _ => (pg_name (i := 4) sc_read_deeds.nd rfl (Or.inl rfl))) (fun _ _ _ _ _ => pts_nil) (fun _ _ _ _ _ => (pe_own (ok_deed_in T) hr (by omega) rfl (pa_cons (pv 4) pa_nil))))
       (pss_cons (ps_for PassesOwn.never rfl (pi_zip rfl T.b_zip (pa_cons (pv 1) (pa_cons (pe_slice sl_list (pv 1) (po_some pe_int) po_none) pa_nil))) (pg_tup rfl (pgs_cons (pg_name (i := 2) sc_read_deeds.nd rfl (Or.inl rfl)) (pgs_cons (pg_name (i := 3) sc_read_deeds.nd rfl (Or.inl rfl)) pgs_nil)))
       (pss_one (ps_ifC (PW.pt (pw_or (pt_cmpR op_gt (pe_ix ix_tup (pv 2) pe_int (fun _ _ => rfl)) (pe_ix ix_tup (pv 3) pe_int (fun _ _ => rfl)) (nomark _)) (pw_or1 (PW.pt (pw_and (pt_cmpR op_eq (pe_ix ix_tup (pv 2) pe_int (fun _ _ => rfl)) (pe_ix ix_tup (pv 3) pe_int (fun _ _ => rfl)) (nomark _)) (pw_and1 (pt_cmpR op_ne (pe_ix ix_tup (pv 2) pe_int (fun _ _ => rfl)) (pe_strS (l := [112, 117, 116]) (by decide +kernel)) (nomark _))))))))
       (pss_one ps_never)
       pss_nil)))
       (pss_one (ps_ret (pv 1)))))), ?_⟩
    rw [st_read_deeds]
    have hg : ∀ d ∈ ds, gdB d = true := fun d h => by unfold gdDs at hd; rw [Bool.and_eq_true] at hd; exact List.all_eq_true.mp hd.1 d h
    have hc : chB ds = true := by unfold gdDs at hd; rw [Bool.and_eq_true] at hd; exact hd.2
    have hp : ∀ d ∈ ds, d.1 < 100 := fun d h => by have := gd_le (hg d h); omega
    wtm_at "unf"
    wtm_at "gx"
    rcases List.eq_nil_or_concat ds with rfl | ⟨ds', d', e'⟩
    · refine ⟨true, by rw [decide_eq_true (show Tx (showL []) = Tx [110, 111, 110, 101] from rfl)], ?_⟩
      rw [if_pos rfl]
      refine g_lst (by show 0 ≤ 100000; decide) fun b H1 nb s1 eb => ?_
      exact q b [] H1 nb s1 ⟨eb, rfl, fun k r d h => by simp at h⟩
    have h0 : ds ≠ [] := by rw [e', List.concat_eq_append]; simp
    have hsh : showL ds = TL.joinL commaL (ds.map wordL) := by unfold showL; rw [if_neg h0]
    have hne : ¬ Tx (showL ds) = Tx [110, 111, 110, 101] := fun e => showL_ne h0 hp (Tx_inj.mp e)
    refine ⟨false, by rw [decide_eq_false hne], ?_⟩
    rw [if_neg Bool.false_ne_true]
    wtm_at "gx"
    have hsl : (showL ds).length ≤ 1000 := by have := showL_len hp; omega
    refine g_splitT (by decide) (by decide) (by omega) fun ws H1 nws s1 ews => ?_
    rw [hsh, show TL.spl [44, 32] 0 [] (TL.joinL commaL (ds.map wordL)) = ds.map wordL from TL.spl_join (by simp [h0]) (fun p hp' => by
      obtain ⟨d, hd', rfl⟩ := List.mem_map.mp hp'
      exact word_comma (hp d hd') (gd_sgn (hg d hd')))] at ews
    refine ⟨_, rfl, ⟨_, sq_of ews⟩, lc_lst ((ds.map wordL).map Tx) fun b H2 nb s2 eb => ⟨fun pre G => ∃ rs, Dds G b rs (ds.take pre.length) ∧ Same H1 G, ⟨[], ⟨eb, rfl, fun k r d h => by simp at h⟩, s2⟩, fun pre post G e hv => sq_of (hv.choose_spec.2 _ _ ews), fun pre x post G e hv => ?_, fun G hv => ?_⟩⟩
    · obtain ⟨rs, hD, sG⟩ := hv
      have hx := mid_at e
      obtain ⟨k, hk⟩ : ∃ k, pre.length = k := ⟨_, rfl⟩
      rw [hk] at hx hD
      have hkl : k < ds.length := by have := (List.getElem?_eq_some_iff.mp hx).1; rw [List.length_map, List.length_map] at this; exact this
      have hdk : ds[k]? = some ds[k] := List.getElem?_eq_getElem hkl
      rw [List.getElem?_map, List.getElem?_map, hdk] at hx
      have hx' := (Option.some.inj hx).symm
      subst hx'
      have hrl := hD.len
      wtm_at "unf"
      refine ⟨rfl, ?_⟩
      wtm_at "gx"
      refine ⟨ds[k], rfl, hg _ (List.getElem_mem hkl), fun t1 G2 nt1 g2 et1 => ?_⟩
      refine lc_put (g2 _ _ hD.hd) (by rw [List.length_map, hrl, List.length_take]; omega) fun G3 b3 e3 => ⟨rs ++ [t1], ?_, Same.b0 b3 (sG.trans g2) nb⟩
      rw [List.length_append, hk]
      rw [show k + [Tx (wordL ds[k])].length = k + 1 from rfl, (cut_at hdk).1]
      exact (hD.same g2).snoc (d := ds[k]) et1 b3 e3
    obtain ⟨rs, hD, sG⟩ := hv
    rw [List.length_map, List.length_map, List.take_length] at hD
    have hrl := hD.len
    wtm_at "unf"
    wtm_at "gx"
    refine g_slL (sq_of hD.hd) fun b2 H3 nb2 s3 eb2 => ?_
    rw [show cutV (rs.map V.ref) (some 1) none = (rs.map V.ref).drop 1 from cutV_from (i := 1)] at eb2
    have hD3 := hD.same s3
    refine ⟨_, _, _, _, rfl, sq_of hD3.hd, sq_of eb2, for_zipN (xs := rs.map V.ref) (ys := (rs.map V.ref).drop 1) ((rs.map V.ref).length - 1) (fun i σ H' => ∃ y2 y3 y4, σ = [some (Tx (showL ds)), some (V.ref b), y2, y3, y4] ∧ Same H3 H') (by rw [List.length_drop]; omega) ⟨_, _, _, rfl, Same.refl _⟩ (fun i σ H' hi hv => ?_) (fun i x y σ H' t H'' hx hy hv nt st et => ?_) (fun σ H' hv => ?_)⟩
    · obtain ⟨y2, y3, y4, rfl, sH⟩ := hv
      exact ⟨sq_of (sH _ _ hD3.hd), sq_of (sH _ _ eb2)⟩
    · obtain ⟨y2, y3, y4, rfl, sH⟩ := hv
      rw [List.getElem?_drop, Nat.add_comm] at hy
      have hi1 : i + 1 < ds.length := by have := (List.getElem?_eq_some_iff.mp hy).1; rw [List.length_map] at this; omega
      have hD4 := hD3.same (sH.trans st)
      obtain ⟨r1, d1, k1, k2, k3, k4⟩ := hD4.row (k := i) (by omega)
      obtain ⟨r2, d2, j1, j2, j3, j4⟩ := hD4.row hi1
      rw [k3] at hx
      rw [j3] at hy
      have hx' := (Option.some.inj hx).symm
      have hy' := (Option.some.inj hy).symm
      subst hx' hy'
      have hnx := chB_iff.mp hc i d1 d2 k2 j2
      wtm_at "unf"
      refine ⟨t, _, rfl, st_of et, rfl, _, _, rfl, _, _, rfl, rfl, ?_⟩
      wtm_at "unfS"
      refine g_ifC (b := false) (fun Q' q' => ?_) (fun h => by cases h) (fun _ => ?_)
      · unfold nxB at hnx
        rw [Bool.or_eq_true, Bool.and_eq_true, decide_eq_true_eq, decide_eq_true_eq] at hnx
        wtm_at "unf"
        wtm_at "gx"
        refine g_test (fun he => ?_) (fun he => q')
        have he' : d1.1 = d2.1 := by have := V.int.inj he; omega
        have hput : d1.2.isPut = true := by rcases hnx with h | h; omega; exact h.2
        wtm_at "gx"
        obtain ⟨p1, w1⟩ := d1
        cases w1 with
        | put c => exact ⟨false, by rw [decide_eq_true (show Tx (Dw.put c).w = Tx [112, 117, 116] from rfl)]; rfl, q'⟩
        | str => cases hput
        | trn c => cases hput
      · wtm_at "unf"
        exact ⟨_, _, _, rfl, sH.trans st⟩
    · obtain ⟨y2, y3, y4, rfl, sH⟩ := hv
      wtm_at "unf"
      wtm_at "gx"
      exact q b rs H' ((s1).free nb) (s1.trans (sG.trans (s3.trans sH))) (hD3.same sH)
end
end K46

set_option maxHeartbeats 4000000
namespace K46
open PySem PySem.Spec PyProof.Rows L2 SX Ly
local macro_rules | `(tactic| wtm_at "unf") => `(tactic| (try simp only [tMetX, tOwnX, tChain, tSeq, tNext, tBreak, tCont, tDrop, tRet, tRetN, tIfS, tAsg, tAug, tC, tOp, tUn, tNil, tCons, tOwn, tCB, tTest, tB, tAnd, tOr, tNot, tAndV, tOrV, tNotV, tIf, gName, gSub, tBM, tBM0, tM0, tM1, tSl, tPart_eq, tNoPart, tLst_eq, tTup_eq, tRevL_eq, tReplT, tRevS, tDGet_eq, sDPut_eq, tDNewT_eq, tMet, tMak, tFld_eq, sFld_eq, C8.tCut, wipe, tYes, gTup, gCons, gNil, List.set_cons_zero, List.set_cons_succ, if_true, if_false, Bool.false_eq_true, Bool.not_true, Bool.not_false, true_and, reduceIte, cx_K, tFor_eq, tLc_eq, iStr, iList, iTup, iRng1, iRng2, iRng3, iEnum, iZip, tLstRg, tRg1, gLst, RZ.iZipA, iEnumS, iZipS, tDNewK_eq, tDGet2, tDIn, tDNotIn, iKd]))
local macro_rules | `(tactic| wtm_at "unfA") => `(tactic| (try simp only [tMetX, tOwnX, tChain, tSeq, tNext, tBreak, tCont, tDrop, tRet, tRetN, tIfS, tAsg, tAug, tC, tOp, tUn, tNil, tCons, tOwn, tCB, tTest, tB, tAnd, tOr, tNot, tIf, gName, gSub, tBM, tBM0, tM0, tM1, tSl, tPart_eq, tNoPart, tLst_eq, tTup_eq, tRevL_eq, tReplT, tRevS, tDGet_eq, sDPut_eq, tDNewT_eq, tMet, tMak, tFld_eq, sFld_eq, C8.tCut, wipe, tYes, gTup, gCons, gNil, List.set_cons_zero, List.set_cons_succ, if_true, if_false, Bool.false_eq_true, Bool.not_true, Bool.not_false, true_and, reduceIte, cx_K, tFor_eq, tLc_eq, iStr, iList, iTup, iRng1, iRng2, iRng3, iEnum, iZip, tLstRg, tRg1, gLst, RZ.iZipA, iEnumS, iZipS, tDNewK_eq, tDGet2, tDIn, tDNotIn, iKd]))
local macro_rules | `(tactic| wtm_at "ne") => `(tactic| first | assumption | (apply Ne.symm; assumption) | (apply ne_new; (· assumption); (· wtm_at "lk")) | (apply Ne.symm; apply ne_new; (· assumption); (· wtm_at "lk")))
local macro_rules | `(tactic| wtm_at "lk") => `(tactic| first | assumption | exact upd_same | (apply Same.get; (· assumption); (· wtm_at "lk")) | (apply But.get; (· assumption); (· wtm_at "ne"); (· wtm_at "lk")))
local macro_rules | `(tactic| wtm_at "sq") => `(tactic| first | assumption | (apply sq_of; wtm_at "lk") | (apply Same.seq; (· assumption); (· wtm_at "sq")) | (apply But.sq; (· assumption); (· wtm_at "ne"); (· wtm_at "sq")))
local macro_rules | `(tactic| wtm_at "fr") => `(tactic| first | assumption | (apply Same.fr; (· assumption); (· wtm_at "sm")) | (apply But.fr; (· assumption); (· wtm_at "sm"); (· wtm_at "ne")))
local macro_rules | `(tactic| wtm_at "sm") => `(tactic| first | exact Same.refl _ | exact But.refl | assumption | (apply Same.tr; (· assumption); (· wtm_at "sm")) | (apply Same.b0; (· assumption); (· wtm_at "sm"); (· wtm_at "fr")) | (apply But.sa; (· assumption); (· wtm_at "sm")) | (apply But.tr; (· assumption); (· wtm_at "sm")) | (apply But.b0; (· assumption); (· wtm_at "sm"); (· wtm_at "fr")) | (apply Same.toBut; wtm_at "sm"))
local macro_rules | `(tactic| wtm_at "sc") => `(tactic| first | exact Int.zero_lt_one | (show (0 : Int) < _; omega) | (show (0 : Int) < _; decide) | exact ⟨by omega, by omega⟩ | exact .inl ⟨by omega, by omega⟩ | exact .inr ⟨by omega, by omega⟩)
local macro_rules | `(tactic| wtm_at "go1") => `(tactic| first | ((with_reducible apply g_var); (· exact rfl)) | with_reducible apply g_I0 | ((with_reducible apply g_I); (· wtm_at "sc")) | with_reducible apply g_U | with_reducible apply g_ipI | ((with_reducible apply g_addT); (· first | omega | (simp; done) | (simp; omega))) | with_reducible apply g_inT | with_reducible apply g_ninT | ((with_reducible apply g_lenT); (· omega)) | with_reducible apply g_findT1 | with_reducible apply g_str | with_reducible apply g_part | with_reducible apply g_intB | ((with_reducible apply g_ixL); (· wtm_at "sq"); (· exact rfl)) | ((with_reducible apply g_setL); (· wtm_at "lk"); (· exact rfl)) | ((with_reducible apply g_eq); (· rfl)) | ((with_reducible apply g_ne); (· rfl)))
local macro_rules | `(tactic| wtm_at "go") => `(tactic| repeat wtm_at "go1")
local macro_rules | `(tactic| wtm_at "lp") => `(tactic| skip)
local macro_rules | `(tactic| wtm_at "om") => `(tactic| first | omega | (simp; done) | (simp; omega) | (simp at *; omega))
local macro_rules | `(tactic| wtm_at "ty") => `(tactic| first | exact ty_str | exact ty_int | exact ty_bl | exact ty_non | (apply ty_lst; wtm_at "lk") | (apply ty_tup; wtm_at "lk"))
local macro_rules | `(tactic| wtm_at "kb") => `(tactic| first | exact kb_str_str | exact kb_str_int | exact kb_str_bool | exact kb_str_list | exact kb_str_tuple | exact kb_int_str | exact kb_int_int | exact kb_int_bool | exact kb_int_list | exact kb_int_tuple | exact kb_bool_str | exact kb_bool_int | exact kb_bool_bool | exact kb_bool_list | exact kb_bool_tuple | exact kb_list_str | exact kb_list_int | exact kb_list_bool | exact kb_list_list | exact kb_list_tuple | exact kb_tuple_str | exact kb_tuple_int | exact kb_tuple_bool | exact kb_tuple_list | exact kb_tuple_tuple | exact kb_NoneType_str | exact kb_NoneType_int | exact kb_NoneType_bool | exact kb_NoneType_list | exact kb_NoneType_tuple | exact kb_dict_str | exact kb_dict_int | exact kb_dict_bool | exact kb_dict_list | exact kb_dict_tuple)
local macro_rules | `(tactic| wtm_at "gx1") => `(tactic| first | ((with_reducible apply g_eqS); (· exact rfl)) | ((with_reducible apply g_neS); (· exact rfl)) | wtm_at "go1" | with_reducible apply g_min2 | with_reducible apply g_max2 | with_reducible apply g_T | with_reducible apply g_F | with_reducible apply g_NT | with_reducible apply g_NF | with_reducible apply g_nT | with_reducible apply g_nF | with_reducible apply g_RT | with_reducible apply g_RF | ((with_reducible apply g_isi); (· wtm_at "ty"); (· wtm_at "kb")) | ((with_reducible apply g_ixAU3); (· wtm_at "lk"); (· exact rfl)) | ((with_reducible apply g_ixAL3); (· wtm_at "lk"); (· exact rfl)) | ((with_reducible apply g_ixU3); (· wtm_at "lk"); (· exact rfl)) | ((with_reducible apply g_lenL3); (· wtm_at "lk")) | ((with_reducible apply g_lenU3); (· wtm_at "lk")) | ((with_reducible apply g_tyL3); (· wtm_at "lk")) | ((with_reducible apply g_lenT); (· wtm_at "pv")) | wtm_at "tr" | with_reducible apply g_ET | with_reducible apply g_EF | with_reducible apply g_EnT | with_reducible apply g_EnF)
local macro_rules | `(tactic| wtm_at "pv") => `(tactic| first | exact rfl | assumption | omega | (simp; done) | (simp; omega))
local macro_rules | `(tactic| wtm_at "tr") => `(tactic| first | ((with_reducible apply g_Td); (· wtm_at "pv")) | ((with_reducible apply g_Fd); (· wtm_at "pv")) | ((with_reducible apply g_NTd); (· wtm_at "pv")) | ((with_reducible apply g_NFd); (· wtm_at "pv")) | ((with_reducible apply g_nTd); (· wtm_at "pv")) | ((with_reducible apply g_nFd); (· wtm_at "pv")) | ((with_reducible apply g_RTd); (· wtm_at "pv")) | ((with_reducible apply g_RFd); (· wtm_at "pv")))
local macro_rules | `(tactic| wtm_at "gx") => `(tactic| repeat wtm_at "gx1")
local macro_rules | `(tactic| wtm_at "unfS") => `(tactic| (try simp only [tSeq, tNext, tAsg, tFor_eq, C8.tCut, wipe, gName, tDrop, List.set_cons_zero, List.set_cons_succ, cx_K]))
local macro_rules | `(tactic| wtm_at "rd1") => `(tactic| first | exact rd_int | exact rd_str | exact rd_bl | exact rd_non | exact rda_nil | apply rda_cons | (with_reducible apply rd_tup; (· assumption)) | (with_reducible apply rd_lst; (· assumption)) | exact rd_dic (by assumption) | exact rd_var rfl (.int _) | exact rd_var rfl (.str _) | exact rd_var rfl (.bl _) | exact rd_var rfl (by assumption) | (with_reducible apply rd_cat; (· assumption)) | (with_reducible apply rd_rep2; (· assumption)) | (with_reducible apply rd_rev; (· assumption)) | (with_reducible apply rd_to; (· assumption)) | (with_reducible apply rd_from; (· assumption)) | (with_reducible apply rd_tupOf; (· assumption)) | (with_reducible apply rd_lstOf; (· assumption)) | with_reducible apply rd_lenL | with_reducible apply rd_lenT | with_reducible apply rd_I0 | with_reducible apply rd_I | with_reducible apply rd_U | with_reducible apply rd_eqI | with_reducible apply rd_ixL | with_reducible apply rd_ixT | exact atI_hd _ _ | exact ‹atI _ _ = some _›)
local macro_rules | `(tactic| wtm_at "rdl") => `(tactic| first | decide | omega | wtm_at "sc" | (simp only [List.length_append, List.length_cons, List.length_nil, List.length_map, List.length_take, List.length_drop, List.length_reverse, cutTo]; omega))
local macro_rules | `(tactic| wtm_at "rd") => `(tactic| ((repeat' wtm_at "rd1"); (all_goals wtm_at "rdl")))
local macro_rules | `(tactic| wtm_at "nc") => `(tactic| repeat' (first | assumption | exact nca_nil | exact nc_non | exact nc_bl | exact nc_dic | exact nc_tup0 | exact nc_lst0 | (refine nc_strS (by decide) (by decide)) | (refine nc_int (by omega)) | (refine nc_big (by decide +kernel)) | refine nca_app ?_ ?_ | refine nca_cons ?_ ?_ | refine nca_take ?_ | refine nca_drop ?_ | refine nca_cutTo ?_ | refine nca_rev ?_ | refine nc_tup (by decide) ?_ | refine nc_lst (by decide) ?_ | refine nc_lst (Nat.le_trans (show _ ≤ 45 by wtm_at "rdl") (by decide)) ?_ | refine nc_tup (Nat.le_trans (show _ ≤ 45 by wtm_at "rdl") (by decide)) ?_))

section
variable {P : Program} {w : World} {K : PySem.W.Frag} {mg : Str → Option Value} {base : Heap}
/-- the deeds found so far, by a row that is drawn from -/
structure LwS (H G : Hp) (p f : Addr) (P : Rw) (rs : List Addr) (ds : List Deed) (pl : Nat) : Prop where
  hp : G p = some P.o
  hD : Dds G f rs ds
  hg : gdDs ds = true
  hl : pl ≤ 40
  hx : ∀ x ∈ ds, x.1 ≤ pl
  hb : But p H G
def PutAt (ds : List Deed) (pl : Nat) : Prop := ∀ x ∈ ds, x.1 = pl → x.2.isPut = true
theorem PutAt.snoc {ds : List Deed} {pl : Nat} {w : Dw} (h : PutAt ds pl) (hw : w.isPut = true) : PutAt (ds ++ [(pl, w)]) pl := fun x hx e => by
  rcases List.mem_append.mp hx with hx | hx
  · exact h x hx e
  · rw [List.mem_singleton.mp hx]; exact hw
theorem LwS.draw {H G G1 : Hp} {p f : Addr} {P P1 : Rw} {rs : List Addr} {ds : List Deed} {pl : Nat} (L : LwS H G p f P rs ds pl) (b : But p G G1) (e : G1 p = some P1.o) (hn : f ≠ p) : LwS H G1 p f P1 rs ds pl :=
  ⟨e, L.hD.but b L.hp hn, L.hg, L.hl, L.hx, But.tr b L.hb⟩
theorem LwS.same {H G G1 : Hp} {p f : Addr} {P : Rw} {rs : List Addr} {ds : List Deed} {pl : Nat} (L : LwS H G p f P rs ds pl) (s : Same G G1) : LwS H G1 p f P rs ds pl :=
  ⟨s _ _ L.hp, L.hD.same s, L.hg, L.hl, L.hx, But.sa s L.hb⟩
theorem gdDs_snoc {ds : List Deed} {d : Deed} (h : gdDs ds = true) (hd : gdB d = true) (hn : ∀ e ∈ ds, nxB e d = true) : gdDs (ds ++ [d]) = true := by
  unfold gdDs at h ⊢
  rw [Bool.and_eq_true] at h ⊢
  refine ⟨by rw [List.all_append, h.1]; simp [hd], chB_iff.mpr fun k x y hx hy => ?_⟩
  have hk : k + 1 < ds.length + 1 := by have := (List.getElem?_eq_some_iff.mp hy).1; simpa using this
  rw [List.getElem?_append_left (by omega)] at hx
  by_cases hk2 : k + 1 < ds.length
  · rw [List.getElem?_append_left hk2] at hy
    exact chB_iff.mp h.2 k x y hx hy
  · rw [List.getElem?_append_right (by omega), show k + 1 - ds.length = 0 by omega] at hy
    rw [← Option.some.inj hy]
    exact hn x (List.mem_of_getElem? hx)
theorem LwS.snoc {H G G1 : Hp} {p f t : Addr} {P : Rw} {rs : List Addr} {ds : List Deed} {pl : Nat} {w : Dw} (L : LwS H G p f P rs ds pl) (nf : H f = none) (hn : f ≠ p) (hd : gdB (pl, w) = true) (hpa : PutAt ds pl) (ht : G t = some (.tup [.int (pl : Nat), Tx w.w, Tx w.s])) (b : But f G G1) (e : G1 f = some (.lst (rs.map V.ref ++ [.ref t]))) : LwS H G1 p f P (rs ++ [t]) (ds ++ [(pl, w)]) pl := by
  refine ⟨b _ _ (Ne.symm hn) L.hp, L.hD.snoc (d := (pl, w)) ht b e, gdDs_snoc L.hg hd fun x hx => ?_, L.hl, fun x hx => ?_, But.b0 b L.hb nf⟩
  · have h1 := L.hx x hx
    rcases Nat.lt_or_ge x.1 pl with h2 | h2
    · exact nxB_lt h2
    · exact nxB_put h1 (hpa x hx (by omega))
  · rcases List.mem_append.mp hx with hx | hx
    · exact L.hx x hx
    · rw [List.mem_singleton.mp hx]; exact Nat.le_refl _
theorem gd_put {d : Deed} (h : gdB d = true) (h40 : d.1 = 40) : d.2.isPut = true := by
  obtain ⟨p, w⟩ := d
  cases w with
  | put c => rfl
  | str => simp [gdB] at h; omega
  | trn c => simp [gdB] at h; omega
theorem LwS.move {H G : Hp} {p f : Addr} {P : Rw} {rs : List Addr} {ds : List Deed} {pl pl2 : Nat} (L : LwS H G p f P rs ds pl) (h1 : pl2 ≤ 40) (h2 : pl < pl2 ∨ (pl = 40 ∧ pl2 = 40)) : LwS H G p f P rs ds pl2 ∧ PutAt ds pl2 := by
  refine ⟨⟨L.hp, L.hD, L.hg, h1, fun x hx => by have := L.hx x hx; omega, L.hb⟩, fun x hx e => ?_⟩
  have h3 := L.hx x hx
  have hg := L.hg
  unfold gdDs at hg
  rw [Bool.and_eq_true] at hg
  exact gd_put (List.all_eq_true.mp hg.1 x hx) (by omega)
theorem brk_lt3 : ∀ c ∈ BRK, c < 1114112 := by decide
theorem gd_sgD {ds : List Deed} (h : gdDs ds = true) : sgD ds := by
  unfold gdDs at h
  rw [Bool.and_eq_true] at h
  intro d hd c hc
  exact brk_lt3 c (gd_sgn (List.all_eq_true.mp h.1 d hd) c hc)
/-! _law_deeds -/
def sp_law_deeds : Sp := fun vs H Q _ => ∃ (p : Addr) (P0 : Rw), vs = [.ref p] ∧ H p = some P0.o ∧ ∀ (P1 : Rw) (b : Addr) (rs : List Addr) (ds : List Deed) (H' : Hp), H b = none → But p H H' → H' p = some P1.o → Dds H' b rs ds → gdDs ds = true → ds.length ≤ 40 → Q (.ref b) H'
theorem ok_law_deeds (T : Facts w K mg) : C8.Cal P w K mg base 2 "_law_deeds" sp_law_deeds [] := by
  refine calD T.f_law_deeds sc_law_deeds (fun vs H Q E h => ?_) (fun f cdv A outer s H vs Q E hr h => ?_)
  · obtain ⟨p, P0, rfl, hp, q⟩ := h; rfl
  · obtain ⟨p, P0, rfl, hp, q⟩ := h
    refine ⟨_, (pss_cons (ps_set (i := 1) sc_law_deeds.nd rfl (Or.inl rfl) (pe_lst pa_nil))
       (pss_cons (ps_set (i := 2) sc_law_deeds.nd rfl (Or.inl rfl) (pe_own (ok_law_take T) hr (by omega) rfl (pa_cons (pv 0) (pa_cons pe_int pa_nil))))
       (pss_cons (ps_for PassesOwn.never rfl (pi_range1 rfl T.b_range (pa_cons (pe_own (ok_law_take T) hr (by omega) rfl (pa_cons (pv 0) (pa_cons pe_int pa_nil))) pa_nil)) (pg_name (i := 3) sc_law_deeds.nd rfl (Or.inl rfl))
       (pss_cons (ps_for PassesOwn.never rfl (pi_range1 rfl T.b_range (pa_cons (pe_own (ok_law_take T) hr (by omega) rfl (pa_cons (pv 0) (pa_cons pe_int pa_nil))) pa_nil)) (pg_name (i := 4) sc_law_deeds.nd rfl (Or.inl rfl))
       (pss_one (ps_expr (pe_bm PySem.F.plainAttrs_list PySem.F.slot_list_append PySem.F.type_list_append mt_append (pv 1) (pa_cons (pe_tup (pa_cons (pv 2) (pa_cons (pe_strS (l := [112, 117, 116]) (by decide +kernel)) (pa_cons (pe_ix ix_txt (pe_strS (l := BRK) (by decide +kernel)) (pe_own (ok_law_take T) hr (by omega) rfl (pa_cons (pv 0) (pa_cons pe_int pa_nil))) (fun _ _ => rfl)) pa_nil)))) pa_nil)))))
       (pss_cons (ps_set (i := 5) sc_law_deeds.nd rfl (Or.inl rfl) (pe_own (ok_law_take T) hr (by omega) rfl (pa_cons (pv 0) (pa_cons pe_int pa_nil))))
       (C8.pss_cut (ps_ifC (PW.pt (pw_and (pt_cmpR op_eq (pv 5) pe_int (nomark _)) (pw_and1 (pt_cmpR op_lt (pv 2) pe_int (nomark _)))))
       (pss_one (ps_expr (pe_bm PySem.F.plainAttrs_list PySem.F.slot_list_append PySem.F.type_list_append mt_append (pv 1) (pa_cons (pe_tup (pa_cons (pv 2) (pa_cons (pe_strS (l := [115, 116, 114, 105, 107, 101]) (by decide +kernel)) (pa_cons (pe_strS (l := []) (by decide +kernel)) pa_nil)))) pa_nil))))
       pss_nil)
       (C8.pss_cut (ps_ifC (PW.pt (pw_and (pt_cmpR op_eq (pv 5) pe_int (nomark _)) (pw_and1 (pt_cmpR op_lt (pv 2) pe_int (nomark _)))))
       (pss_one (ps_expr (pe_bm PySem.F.plainAttrs_list PySem.F.slot_list_append PySem.F.type_list_append mt_append (pv 1) (pa_cons (pe_tup (pa_cons (pv 2) (pa_cons (pe_strS (l := [116, 117, 114, 110]) (by decide +kernel)) (pa_cons (pe_ix ix_txt (pe_strS (l := BRK) (by decide +kernel)) (pe_own (ok_law_take T) hr (by omega) rfl (pa_cons (pv 0) (pa_cons pe_int pa_nil))) (fun _ _ => rfl)) pa_nil)))) pa_nil))))
       pss_nil)
       (pss_one (ps_set (i := 2) sc_law_deeds.nd rfl (Or.inl rfl) (pe_callB (call_min2' rfl) rfl T.b_min (by decide +kernel) (pa_cons pe_int (pa_cons (pe_op op_add (pe_op op_add (pv 2) pe_int) (pe_ix ix_list (pe_lst (pa_cons (pe_own (ok_law_take T) hr (by omega) rfl (pa_cons (pv 0) (pa_cons pe_int pa_nil))) (pa_cons (pe_own (ok_law_take T) hr (by omega) rfl (pa_cons (pv 0) (pa_cons pe_int pa_nil))) pa_nil))) (pe_own (ok_law_take T) hr (by omega) rfl (pa_cons (pv 0) (pa_cons pe_int pa_nil))) (fun _ _ => rfl))) pa_nil))))))))))
       (pss_one (ps_ret (pv 1)))))), ?_⟩
    rw [st_law_deeds]
    wtm_at "unf"
    wtm_at "gx"
    refine g_lst (by show 0 ≤ 100000; decide) fun f H1 nf s1 ef => ?_
    have hfp : f ≠ p := Ne.symm (ne_new nf hp)
    wtm_at "gx"
    refine ⟨p, P0, 4, rfl, s1 _ _ hp, by decide, by decide, fun r P1 H2 r0 r1 b2 e2 => ?_⟩
    obtain ⟨pl0, rfl⟩ := Int.eq_ofNat_of_zero_le r0
    wtm_at "gx"
    refine ⟨p, P1, 8, rfl, e2, by decide, by decide, fun n P2 H3 n0 n1 b3 e3 => ?_⟩
    have ef3 : H3 f = some (.lst []) := b3 _ _ hfp (b2 _ _ hfp ef)
    refine ⟨_, rfl, by omega, by omega, for_rng (fun i σ G => ∃ (rs : List Addr) (ds : List Deed) (P : Rw) (pl : Nat) (y3 y4 y5 : Option V), σ = [some (V.ref p), some (V.ref f), some (V.int (pl : Nat)), y3, y4, y5] ∧ LwS H G p f P rs ds pl ∧ PutAt ds pl ∧ ds.length ≤ 3 * i) ⟨[], [], P2, pl0, _, _, _, rfl, ⟨e3, ⟨ef3, rfl, fun k r d h => by simp at h⟩, rfl, by omega, fun x h => by simp at h, But.tr b3 (But.tr b2 (Same.toBut s1))⟩, fun x h => by simp at h, by simp⟩ (fun i σ G hi hv => ?_) (fun σ G hv => ?_)⟩
    · obtain ⟨rs, ds, P, pl, y3, y4, y5, rfl, L, hpa, hlen⟩ := hv
      have hi7 : i < 8 := by omega
      wtm_at "unf"
      wtm_at "gx"
      refine ⟨p, P, 3, rfl, L.hp, by decide, by decide, fun m P3 H4 m0 m1 b4 e4 => ?_⟩
      have L4 := L.draw b4 e4 hfp
      refine ⟨_, rfl, by omega, by omega, for_rng (fun j σ G => ∃ (rs : List Addr) (ds : List Deed) (P : Rw) (y4 : Option V), σ = [some (V.ref p), some (V.ref f), some (V.int (pl : Nat)), some (V.int (0 + (i : Int))), y4, y5] ∧ LwS H G p f P rs ds pl ∧ PutAt ds pl ∧ ds.length ≤ 3 * i + j) ⟨rs, ds, P3, _, rfl, L4, hpa, by omega⟩ (fun j σ G hj hv => ?_) (fun σ G hv => ?_)⟩
      · obtain ⟨rs, ds, P, y4, rfl, L, hpa, hlen⟩ := hv
        have hj3 : j < 3 := by omega
        have efG := L.hD.hd
        wtm_at "unf"
        wtm_at "gx"
        refine ⟨p, P, 8, rfl, L.hp, by decide, by decide, fun z P4 H5 z0 z1 b5 e5 => ?_⟩
        obtain ⟨zz, rfl⟩ := Int.eq_ofNat_of_zero_le z0
        obtain ⟨c, hc1, hc2⟩ := brk_at (z := zz) (by omega)
        refine g_ixT (by decide) (atI_of hc1) ?_
        refine g_tup (by show 3 ≤ 100000; decide) fun t1 H6 nt1 s6 et1 => ?_
        have L6 := (L.draw b5 e5 hfp).same s6
        have hrl := L6.hD.len
        refine g_append1 L6.hD.hd (by rw [List.length_map, hrl]; omega) fun H7 b7 e7 => ?_
        exact ⟨rs ++ [t1], ds ++ [(pl, Dw.put c)], P4, _, rfl, L6.snoc (w := Dw.put c) nf hfp (by show (decide (pl ≤ 40) && decide (c ∈ BRK)) = true; rw [decide_eq_true L6.hl, decide_eq_true hc2]; rfl) hpa et1 b7 e7, hpa.snoc rfl, by simp; omega⟩
      · obtain ⟨rs, ds, P, y4, rfl, L, hpa, hlen⟩ := hv
        have hlen2 : ds.length ≤ 3 * i + 2 := by omega
        have efG := L.hD.hd
        wtm_at "unf"
        wtm_at "gx"
        refine ⟨p, P, 3, rfl, L.hp, by decide, by decide, fun kd P4 H5 k0 k1 b5 e5 => ?_⟩
        have L5 := L.draw b5 e5 hfp
        refine ⟨fun σ' G => ∃ (rs : List Addr) (ds : List Deed) (P : Rw), σ' = [some (V.ref p), some (V.ref f), some (V.int (pl : Nat)), some (V.int (0 + (i : Int))), y4, some (V.int kd)] ∧ LwS H G p f P rs ds pl ∧ (kd = 1 ∨ (PutAt ds pl ∧ ds.length ≤ 3 * i + 2)) ∧ ds.length ≤ 3 * i + 3, ?_, ?_⟩
        · refine g_ifC (b := decide (kd = 1 ∧ pl < 40)) (fun Q' q' => ?_) (fun h => ?_) (fun h => ?_)
          · wtm_at "unf"
            wtm_at "gx"
            refine g_test (fun h1 => ?_) (fun h1 => ?_)
            · have hk : kd = 1 := V.int.inj h1
              wtm_at "gx"
              refine ⟨_, rfl, ?_⟩
              rw [show decide (kd = 1 ∧ pl < 40) = decide ((pl : Int) < 40) by rw [decide_eq_decide]; omega] at q'
              exact q'
            · rw [decide_eq_false (fun h => h1 (congrArg V.int h.1))] at q'
              exact q'
          · obtain ⟨hk, hpl⟩ := of_decide_eq_true h
            have ef5 := L5.hD.hd
            wtm_at "unf"
            wtm_at "gx"
            refine g_tup (by show 3 ≤ 100000; decide) fun t1 H6 nt1 s6 et1 => ?_
            have L6 := L5.same s6
            have hrl := L6.hD.len
            refine g_append1 L6.hD.hd (by rw [List.length_map, hrl]; omega) fun H7 b7 e7 => ?_
            exact ⟨rs ++ [t1], ds ++ [(pl, Dw.str)], P4, L6.snoc (w := Dw.str) nf hfp (by show decide (pl < 40) = true; exact decide_eq_true hpl) hpa et1 b7 e7, .inl hk, by simp; omega⟩
          · wtm_at "unf"
            exact ⟨rs, ds, P4, L5, .inr ⟨hpa, hlen2⟩, by omega⟩
        · rintro σ' G ⟨rs, ds, P, rfl, L, hk1, hlen3⟩
          wtm_at "unf"
          refine ⟨fun σ' G => ∃ (rs : List Addr) (ds : List Deed) (P : Rw), σ' = [some (V.ref p), some (V.ref f), some (V.int (pl : Nat)), some (V.int (0 + (i : Int))), y4, some (V.int kd)] ∧ LwS H G p f P rs ds pl ∧ ds.length ≤ 3 * i + 3, ?_, ?_⟩
          · refine g_ifC (b := decide (kd = 2 ∧ pl < 40)) (fun Q' q' => ?_) (fun h => ?_) (fun h => ?_)
            · wtm_at "unf"
              wtm_at "gx"
              refine g_test (fun h1 => ?_) (fun h1 => ?_)
              · have hk : kd = 2 := V.int.inj h1
                wtm_at "gx"
                refine ⟨_, rfl, ?_⟩
                rw [show decide (kd = 2 ∧ pl < 40) = decide ((pl : Int) < 40) by rw [decide_eq_decide]; omega] at q'
                exact q'
              · rw [decide_eq_false (fun h => h1 (congrArg V.int h.1))] at q'
                exact q'
            · obtain ⟨hk, hpl⟩ := of_decide_eq_true h
              obtain ⟨hpa, hlen4⟩ : PutAt ds pl ∧ ds.length ≤ 3 * i + 2 := by rcases hk1 with h | h; omega; exact h
              have ef5 := L.hD.hd
              wtm_at "unf"
              wtm_at "gx"
              refine ⟨p, P, 8, rfl, L.hp, by decide, by decide, fun z P5 H6 z0 z1 b6 e6 => ?_⟩
              obtain ⟨zz, rfl⟩ := Int.eq_ofNat_of_zero_le z0
              obtain ⟨c, hc1, hc2⟩ := brk_at (z := zz) (by omega)
              refine g_ixT (by decide) (atI_of hc1) ?_
              refine g_tup (by show 3 ≤ 100000; decide) fun t1 H7 nt1 s7 et1 => ?_
              have L7 := (L.draw b6 e6 hfp).same s7
              have hrl := L7.hD.len
              refine g_append1 L7.hD.hd (by rw [List.length_map, hrl]; omega) fun H8 b8 e8 => ?_
              exact ⟨rs ++ [t1], ds ++ [(pl, Dw.trn c)], P5, L7.snoc (w := Dw.trn c) nf hfp (by show (decide (pl < 40) && decide (c ∈ BRK)) = true; rw [decide_eq_true hpl, decide_eq_true hc2]; rfl) hpa et1 b8 e8, by simp; omega⟩
            · wtm_at "unf"
              exact ⟨rs, ds, P, L, hlen3⟩
          · rintro σ' G ⟨rs, ds, P, rfl, L, hlen3⟩
            wtm_at "unf"
            wtm_at "gx"
            refine ⟨p, P, 4, rfl, L.hp, by decide, by decide, fun a P5 H6 a0 a1 b6 e6 => ?_⟩
            wtm_at "gx"
            refine ⟨p, P5, 40, rfl, e6, by decide, by decide, fun a2 P6 H7 c0 c1 b7 e7 => ?_⟩
            refine g_lst (by show 2 ≤ 100000; decide) fun la H8 nla s8 ela => ?_
            wtm_at "gx"
            have hla : la ≠ p := Ne.symm (ne_new nla e7)
            refine ⟨p, P6, 2, rfl, s8 _ _ e7, by decide, by decide, fun a3 P7 H9 d0 d1 b9 e9 => ?_⟩
            obtain ⟨x, hx1, hx2⟩ : ∃ x : Int, atI [V.int a, V.int a2] a3 = some (V.int x) ∧ 0 ≤ x := by
              rcases (show a3 = 0 ∨ a3 = 1 by omega) with rfl | rfl
              · exact ⟨a, rfl, a0⟩
              · exact ⟨a2, rfl, c0⟩
            refine g_ixL (sq_of (b9 _ _ hla ela)) hx1 ?_
            wtm_at "gx"
            have L9 := (((L.draw b6 e6 hfp).draw b7 e7 hfp).same s8).draw b9 e9 hfp
            obtain ⟨pl2, hpl2⟩ : ∃ pl2 : Nat, min (40 : Int) ((pl : Int) + 1 + x) = (pl2 : Nat) := ⟨(min (40 : Int) ((pl : Int) + 1 + x)).toNat, by omega⟩
            rw [hpl2]
            have hpl40 := L.hl
            obtain ⟨L10, hpa2⟩ := L9.move (pl2 := pl2) (by omega) (by omega)
            exact ⟨rs, ds, P7, pl2, _, _, _, rfl, L10, hpa2, by omega⟩
    · obtain ⟨rs, ds, P, pl, y3, y4, y5, rfl, L, hpa, hlen⟩ := hv
      wtm_at "unf"
      wtm_at "gx"
      exact q P f rs ds G nf L.hb L.hp L.hD L.hg (by omega)
/-! _law_word -/
def sp_law_word : Sp := fun vs H Q _ => ∃ (a : Addr) (d : Deed), vs = [.ref a] ∧ H a = some (.tup (ddV d)) ∧ d.1 < 100 ∧ ∀ H', Same H H' → Q (Tx (wordL d)) H'
theorem ok_law_word (T : Facts w K mg) : C8.Cal P w K mg base 1 "_law_word" sp_law_word [] := by
  refine calD T.f_law_word sc_law_word (fun vs H Q E h => ?_) (fun f cdv A outer s H vs Q E hr h => ?_)
  · obtain ⟨a, d, rfl, ha, hp, q⟩ := h; rfl
  · obtain ⟨a, d, rfl, ha, hp, q⟩ := h
    refine ⟨_, (pss_cons (ps_asg (pv 0) (pg_tup rfl (pgs_cons (pg_name (i := 1) sc_law_word.nd rfl (Or.inl rfl)) (pgs_cons (pg_name (i := 2) sc_law_word.nd rfl (Or.inl rfl)) (pgs_cons (pg_name (i := 3) sc_law_word.nd rfl (Or.inl rfl)) pgs_nil)))))
       (pss_one (ps_ret (pe_op op_addT (pe_op op_addT (pe_callTy call_str_int rfl T.b_str (by decide +kernel) (pa_cons (pv 1) pa_nil)) (pe_dget (hu_of hr) (pe_disp (pps_cons (pe_strS (l := [112, 117, 116]) (by decide +kernel)) (pe_strS (l := [43]) (by decide +kernel)) (pps_cons (pe_strS (l := [115, 116, 114, 105, 107, 101]) (by decide +kernel)) (pe_strS (l := [45]) (by decide +kernel)) (pps_cons (pe_strS (l := [116, 117, 114, 110]) (by decide +kernel)) (pe_strS (l := [61]) (by decide +kernel)) pps_nil))) rfl rfl (fun h => nomatch h) (by decide)) (pv 2) (fun _ _ => rfl))) (pv 3))))), ?_⟩
    rw [st_law_word]
    wtm_at "unf"
    wtm_at "gx"
    refine ⟨a, _, rfl, st_of ha, rfl, _, _, rfl, _, _, rfl, _, _, rfl, rfl, ?_⟩
    wtm_at "gx"
    refine ⟨_, rfl, log_sm hp, ?_⟩
    refine disp_m fun dp H1 ndp s1 edp => ?_
    simp only [tPairs]
    wtm_at "unf"
    wtm_at "gx"
    refine ⟨edp, [(.inr (S [112, 117, 116]), Tx [43]), (.inr (S [115, 116, 114, 105, 107, 101]), Tx [45]), (.inr (S [116, 117, 114, 110]), Tx [61])], rfl, by show 3 ≤ 15; decide, ?_⟩
    have b2 : But dp H1 (upd H1 dp (.dK (mergeK [] [(.inr (S [112, 117, 116]), Tx [43]), (.inr (S [115, 116, 114, 105, 107, 101]), Tx [45]), (.inr (S [116, 117, 114, 110]), Tx [61])]))) := But.set
    have e2 : (upd H1 dp (.dK (mergeK [] [(.inr (S [112, 117, 116]), Tx [43]), (.inr (S [115, 116, 114, 105, 107, 101]), Tx [45]), (.inr (S [116, 117, 114, 110]), Tx [61])]))) dp = some (.dK (mergeK [] [(.inr (S [112, 117, 116]), Tx [43]), (.inr (S [115, 116, 114, 105, 107, 101]), Tx [45]), (.inr (S [116, 117, 114, 110]), Tx [61])])) := upd_same
    generalize upd H1 dp (.dK (mergeK [] [(.inr (S [112, 117, 116]), Tx [43]), (.inr (S [115, 116, 114, 105, 107, 101]), Tx [45]), (.inr (S [116, 117, 114, 110]), Tx [61])])) = H2 at b2 e2 ⊢
    have hv : valV (mergeK [] [(.inr (S [112, 117, 116]), Tx [43]), (.inr (S [115, 116, 114, 105, 107, 101]), Tx [45]), (.inr (S [116, 117, 114, 110]), Tx [61])] : List (Key × V)) (.inr (S d.2.w)) = some (Tx [d.2.mk]) := by
      obtain ⟨p, w⟩ := d
      cases w <;> rfl
    have hg := DGet.k (k := .inr (S d.2.w)) e2
    rw [hv] at hg
    wtm_at "gx"
    refine ⟨dp, _, rfl, hg, ?_⟩
    rw [fgs_eq, fgs_figs _ hp]
    have hl := wordL_len hp
    unfold wordL at hl
    rw [List.length_append, List.length_append] at hl
    refine g_addT (by rw [List.length_singleton] at *; omega) ?_
    wtm_at "gx"
    exact q _ (Same.b0 b2 s1 ndp)
/-! _law_shown -/
def sp_law_shown : Sp := fun vs H Q _ => ∃ (a : Addr) (rs : List Addr) (ds : List Deed), vs = [.ref a] ∧ Dds H a rs ds ∧ (∀ d ∈ ds, d.1 < 100) ∧ ds.length ≤ 1000 ∧ ∀ H', Same H H' → Q (Tx (showL ds)) H'
theorem ok_law_shown (T : Facts w K mg) : C8.Cal P w K mg base 2 "_law_shown" sp_law_shown [] := by
  refine calD T.f_law_shown sc_law_shown (fun vs H Q E h => ?_) (fun f cdv A outer s H vs Q E hr h => ?_)
  · obtain ⟨a, rs, ds, rfl, hD, hp, hl, q⟩ := h; rfl
  · obtain ⟨a, rs, ds, rfl, hD, hp, hl, q⟩ := h
    refine ⟨_, (pss_cons (ps_if (pt_cmpR (op_eqE hr.units) (pv 0) (pe_lst pa_nil) (nomark _))
       (pss_one (ps_ret (pe_strS (l := [110, 111, 110, 101]) (by decide +kernel))))
       pss_nil)
       (pss_one (ps_ret (pe_m1 PySem.F.slot_str_join PySem.F.type_str_join mt_joinT (pe_strS (l := [44, 32]) (by decide +kernel)) (pe_lc (own := [("deed", 1)]) (by rfl) sc_law_shown.nd (pi_list (pv 0)) (blkOk_by (own := [("deed", 1)]) (N := N_law_shown) (sc := defScope s_law_shown) (by decide +kernel)) (fun _ _ _ _ _ => (pg_name (i := 1) sc_law_shown.nd rfl (Or.inl rfl))) (fun _ _ _ _ _ => pts_nil) (fun _ _ _ _ _ => (pe_own (ok_law_word T) hr (by omega) rfl (pa_cons (pv 1) pa_nil)))))))), ?_⟩
    rw [st_law_shown]
    wtm_at "unf"
    wtm_at "gx"
    refine g_lst (by show 0 ≤ 100000; decide) fun l0 H1 nl0 s1 el0 => ?_
    have hD1 := hD.same s1
    refine g_eqE (sq_of hD1.hd) el0 ?_
    have hrl := hD.len
    refine ⟨_, rfl, ?_⟩
    by_cases h0 : ds = []
    · subst h0
      have : rs = [] := List.eq_nil_of_length_eq_zero hrl
      rw [if_pos (by rw [this]; rfl)]
      exact q _ s1
    · have h1 : ¬ rs.map V.ref = [] := fun e => h0 (List.eq_nil_of_length_eq_zero (by rw [← hrl, ← List.length_map V.ref, e]; rfl))
      rw [if_neg (by rw [decide_eq_false h1]; exact Bool.false_ne_true)]
      wtm_at "gx"
      refine ⟨_, rfl, ⟨_, sq_of hD1.hd⟩, lc_lst (rs.map V.ref) fun m H2 nm s2 em => ⟨fun pre G => G m = some (.lst (((ds.take pre.length).map wordL).map Tx)) ∧ Same H1 G, ⟨em, s2⟩, fun pre post G e hv => sq_of (hv.2 _ _ hD1.hd), fun pre x post G e hv => ?_, fun G hv => ?_⟩⟩
      · obtain ⟨e1, sG⟩ := hv
        have hx := mid_at e
        obtain ⟨k, hk⟩ : ∃ k, pre.length = k := ⟨_, rfl⟩
        rw [hk] at hx e1
        have hkl : k < ds.length := by have := (List.getElem?_eq_some_iff.mp hx).1; rw [List.length_map] at this; omega
        obtain ⟨r, d, k1, k2, k3, k4⟩ := (hD1.same sG).row hkl
        rw [k3] at hx
        have hx' := (Option.some.inj hx).symm
        subst hx'
        wtm_at "unf"
        refine ⟨rfl, ?_⟩
        wtm_at "gx"
        refine ⟨r, d, rfl, k4, hp d (List.mem_of_getElem? k2), fun G2 g2 => ?_⟩
        refine lc_put (g2 _ _ e1) (by simp; omega) fun G3 b3 e3 => ⟨?_, Same.b0 b3 (sG.trans g2) nm⟩
        rw [List.length_append, hk, show k + [V.ref r].length = k + 1 from rfl, (cut_at k2).1, List.map_append, List.map_append]
        exact e3
      · obtain ⟨e1, sG⟩ := hv
        rw [List.length_map, hrl, List.take_length] at e1
        have hs := words_sum hp
        refine g_joinT (sq_of e1) (by rw [List.length_map]; show _ + ds.length * 2 ≤ 100000; omega) ?_
        have := q G (s1.trans sG)
        unfold showL at this
        rw [if_neg h0] at this
        exact this
/-! _law_right -/
def sp_law_right : Sp := fun vs H Q _ => ∃ (a : Addr) (rs : List Addr) (ds : List Deed), vs = [.ref a] ∧ Dds H a rs ds ∧ gdDs ds = true ∧ ds.length ≤ 80 ∧ ∀ H', Same H H' → Q (.bl true) H'
theorem ok_law_right (T : Facts w K mg) : C8.Cal P w K mg base 4 "_law_right" sp_law_right [] := by
  refine calD T.f_law_right sc_law_right (fun vs H Q E h => ?_) (fun f cdv A outer s H vs Q E hr h => ?_)
  · obtain ⟨a, rs, ds, rfl, hD, hg, hl, q⟩ := h; rfl
  · obtain ⟨a, rs, ds, rfl, hD, hg, hl, q⟩ := h
    refine ⟨_, (pss_cons (ps_set (i := 1) sc_law_right.nd rfl (Or.inl rfl) (pe_callTy call_list_of rfl T.b_list (by decide +kernel) (pa_cons (pv 0) pa_nil)))
       (pss_cons (ps_set (i := 2) sc_law_right.nd rfl (Or.inl rfl) (pe_own (ok_show_deeds T) hr (by omega) rfl (pa_cons (pv 1) pa_nil)))
       (pss_cons (ps_ifC (PW.pt (pw_or (pt_not (pt_val (pe_callB call_isi rfl T.b_isinstance (by decide +kernel) (pa_cons (pv 2) (pa_cons (pe_bltn (v := .ty "str") rfl T.b_str (by decide +kernel) rfl) pa_nil))))) (pw_or (pt_cmpR op_ne (pv 2) (pe_own (ok_law_shown T) hr (by omega) rfl (pa_cons (pv 0) pa_nil)) (nomark _)) (pw_or1 (pt_cmpR (op_neD hr.units) (pv 1) (pv 0) (nomark _))))))
       (pss_one (ps_ret pe_bl))
       pss_nil)
       (pss_cons (ps_set (i := 3) sc_law_right.nd rfl (Or.inl rfl) (pe_own (ok_read_deeds T) hr (by omega) rfl (pa_cons (pv 2) pa_nil)))
       (pss_cons (ps_ifC (PW.pt (pw_or (pt_not (pt_val (pe_callB call_isi rfl T.b_isinstance (by decide +kernel) (pa_cons (pv 3) (pa_cons (pe_bltn (v := .ty "list") rfl T.b_list (by decide +kernel) rfl) pa_nil))))) (pw_or (pt_cmpR (op_neD hr.units) (pv 3) (pv 0) (nomark _)) (pw_or1 (pt_cmpR (op_neE hr.units) (pe_lc (own := [("one", 4)]) (by rfl) sc_law_right.nd (pi_list (pv 3)) (blkOk_by (own := [("one", 4)]) (N := N_law_right) (sc := defScope s_law_right) (by decide +kernel)) (fun _ _ _ _ _ => (pg_name (i := 4) sc_law_right.nd rfl (Or.inl rfl))) (fun _ _ _ _ _ => (pts_one (pt_not (pt_val (pe_callB (r := rIsi K) call_isi rfl T.b_isinstance (by decide +kernel) (pa_cons (pv 4) (pa_cons (pe_bltn (v := .ty "tuple") rfl T.b_tuple (by decide +kernel) rfl) pa_nil))))))) (fun _ _ _ _ _ => (pv 4))) (pe_lst pa_nil) (nomark _))))))
       (pss_one (ps_ret pe_bl))
       pss_nil)
       (pss_cons (ps_if (pt_cmpR (op_neE hr.units) (pe_lc (own := [("one", 4)]) (by rfl) sc_law_right.nd (pi_list (pv 3)) (blkOk_by (own := [("one", 4)]) (N := N_law_right) (sc := defScope s_law_right) (by decide +kernel)) (fun _ _ _ _ _ => (pg_name (i := 4) sc_law_right.nd rfl (Or.inl rfl))) (fun _ _ _ _ _ => (pts_one (pt_val (pe_callB (r := rIsi K) call_isi rfl T.b_isinstance (by decide +kernel) (pa_cons (pe_ix (r := rIxT K) ix_tup (pv 4) pe_int (fun _ _ => rfl)) (pa_cons (pe_bltn (v := .ty "bool") rfl T.b_bool (by decide +kernel) rfl) pa_nil)))))) (fun _ _ _ _ _ => (pv 4))) (pe_lst pa_nil) (nomark _))
       (pss_one (ps_ret pe_bl))
       pss_nil)
       (pss_cons (ps_expr (pe_bm PySem.F.plainAttrs_list PySem.F.slot_list_append PySem.F.type_list_append mt_append (pv 3) (pa_cons (pe_tup (pa_cons pe_int (pa_cons (pe_strS (l := [112, 117, 116]) (by decide +kernel)) (pa_cons (pe_strS (l := [40]) (by decide +kernel)) pa_nil)))) pa_nil)))
       (pss_one (ps_ret (pe_cmpR (op_eqD hr.units) (pe_own (ok_read_deeds T) hr (by omega) rfl (pa_cons (pv 2) pa_nil)) (pv 0) (nomark _))))))))))), ?_⟩
    rw [st_law_right]
    have hp : ∀ d ∈ ds, d.1 < 100 := fun d h => by unfold gdDs at hg; rw [Bool.and_eq_true] at hg; have := gd_le (List.all_eq_true.mp hg.1 d h); omega
    have hsg : SeqAt.shaped (ddsD ds) = true := dds_shaped (gd_sgD hg)
    wtm_at "unf"
    wtm_at "gx"
    refine ⟨a, _, rfl, .inl (sq_of hD.hd), fun cp ncp => ?_⟩
    have s1 : Same H (upd H cp (.lst (rs.map V.ref))) := Same.new ncp
    have e1 : (upd H cp (.lst (rs.map V.ref))) cp = some (.lst (rs.map V.ref)) := upd_same
    generalize upd H cp (.lst (rs.map V.ref)) = H1 at s1 e1 ⊢
    have hC : Dds H1 cp rs ds := ⟨e1, hD.len, fun k r d q1 q2 => s1 _ _ (hD.it k r d q1 q2)⟩
    wtm_at "gx"
    refine ⟨cp, rs, ds, rfl, hC, hp, by omega, fun H2 s2 => ?_⟩
    have hD2 := (hD.same s1).same s2
    have hC2 := hC.same s2
    wtm_at "unfS"
    refine g_ifH (b := false) (G := fun G3 => Same H2 G3) (fun Q' q' => ?_) (fun G3 g h => by cases h) (fun H3 s3 _ => ?_)
    · wtm_at "unf"
      wtm_at "gx"
      refine ⟨a, rs, ds, rfl, hD2, hp, by omega, fun G3 g3 => ?_⟩
      wtm_at "gx"
      refine g_neDp (hC2.same g3).dp (hD2.same g3).dp hsg ?_
      exact ⟨false, rfl, q' _ g3⟩
    have hD3 := hD2.same s3
    wtm_at "unf"
    wtm_at "gx"
    refine ⟨ds, rfl, hg, hl, fun b rs2 H4 nb s4 hB => ?_⟩
    have hD4 := hD3.same s4
    wtm_at "unfS"
    refine g_ifH (b := false) (G := fun G3 => Same H4 G3) (fun Q' q' => ?_) (fun G3 g h => by cases h) (fun H5 s5 _ => ?_)
    · have ebb := hB.hd
      wtm_at "unf"
      wtm_at "gx"
      refine g_neDp hB.dp hD4.dp hsg ?_
      refine ⟨false, rfl, ?_⟩
      rw [if_neg Bool.false_ne_true]
      wtm_at "gx"
      refine ⟨_, rfl, ⟨_, sq_of ebb⟩, lc_lst (rs2.map V.ref) fun m G1 nm g1 em => ⟨fun pre G => G m = some (.lst []) ∧ Same H4 G, ⟨em, g1⟩, fun pre post G e hv => sq_of (hv.2 _ _ ebb), fun pre x post G e hv => ?_, fun G hv => ?_⟩⟩
      · obtain ⟨e1, sG⟩ := hv
        have hx := mid_at e
        have hkl : pre.length < ds.length := by have := (List.getElem?_eq_some_iff.mp hx).1; rw [List.length_map, hB.len] at this; exact this
        obtain ⟨r, d, k1, k2, k3, k4⟩ := (hB.same sG).row hkl
        rw [k3] at hx
        have hx' := (Option.some.inj hx).symm
        subst hx'
        wtm_at "unf"
        refine ⟨rfl, ?_⟩
        wtm_at "gx"
        exact ⟨e1, sG⟩
      · obtain ⟨e1, sG⟩ := hv
        refine g_lst (by show 0 ≤ 100000; decide) fun l0 G1 nl0 g1 el0 => ?_
        refine g_neE (sq_of (g1 _ _ e1)) el0 ?_
        exact ⟨false, rfl, q' _ (sG.trans g1)⟩
    have hB5 := hB.same s5
    wtm_at "unfS"
    refine g_ifSH (b := false) (G := fun G3 => Same H5 G3) (fun Q' q' => ?_) (fun G3 g h => by cases h) (fun H6 s6 _ => ?_)
    · have ebb := hB5.hd
      wtm_at "unf"
      wtm_at "gx"
      refine ⟨_, rfl, ⟨_, sq_of ebb⟩, lc_lst (rs2.map V.ref) fun m G1 nm g1 em => ⟨fun pre G => G m = some (.lst []) ∧ Same H5 G, ⟨em, g1⟩, fun pre post G e hv => sq_of (hv.2 _ _ ebb), fun pre x post G e hv => ?_, fun G hv => ?_⟩⟩
      · obtain ⟨e1, sG⟩ := hv
        have hx := mid_at e
        have hkl : pre.length < ds.length := by have := (List.getElem?_eq_some_iff.mp hx).1; rw [List.length_map, hB.len] at this; exact this
        obtain ⟨r, d, k1, k2, k3, k4⟩ := (hB5.same sG).row hkl
        rw [k3] at hx
        have hx' := (Option.some.inj hx).symm
        subst hx'
        wtm_at "unf"
        refine ⟨rfl, ?_⟩
        wtm_at "gx"
        exact ⟨e1, sG⟩
      · obtain ⟨e1, sG⟩ := hv
        refine g_lst (by show 0 ≤ 100000; decide) fun l0 G1 nl0 g1 el0 => ?_
        refine g_neE (sq_of (g1 _ _ e1)) el0 ?_
        exact ⟨false, rfl, q' _ (sG.trans g1)⟩
    have hB6 := hB5.same s6
    have ebb := hB6.hd
    wtm_at "unf"
    wtm_at "gx"
    refine g_tup (by show 3 ≤ 100000; decide) fun t1 H7 nt1 s7 et1 => ?_
    have hB7 := hB6.same s7
    refine g_append1 hB7.hd (by rw [List.length_map, hB.len]; omega) fun H8 b8 e8 => ?_
    wtm_at "gx"
    have s38 : Same H3 H8 := Same.b0 b8 (s4.trans (s5.trans (s6.trans s7))) nb
    refine ⟨ds, rfl, hg, hl, fun b2 rs3 H9 nb2 s9 hB9 => ?_⟩
    wtm_at "gx"
    refine g_eqDp hB9.dp ((hD3.same s38).same s9).dp hsg ?_
    exact q _ (s1.trans (s2.trans (s3.trans (s38.trans s9))))
def fE (k : Nat) : Deed := (k, Dw.trn (BRK.getD (k % 8) 0))
def fM (k : Nat) : Deed := (17, Dw.put (BRK.getD (k % 3) 0))
def fS (k : Nat) : Deed := (k, Dw.str)
/-! law -/
def spLaw (K : PySem.W.Frag) : Sp := fun vs H Q _ => ∃ (a : Addr) (ns : List Int), vs = [.ref a] ∧ SqL K H a (ns.map V.int) ∧ ns.length ≤ 63 ∧ ∀ H', Q (.bl true) H'
theorem ok_law {f : Addr} {fd : FuncData} (T : Facts w K mg) (F : FunD K "law" "law" (defArgs s_law) (defBody s_law) (defScope s_law) [] [] f fd) : FnOk P w K mg base C8.CX0 5 f fd ["script"] (spLaw K) := by
  refine fnD F sc_law (fun vs H Q E h => ?_) (fun cdv A outer s H vs Q E hr h => ?_)
  · obtain ⟨a, ns, rfl, hS, hlen, q⟩ := h; rfl
  · obtain ⟨a, ns, rfl, hS, hlen, q⟩ := h
    refine ⟨_, (pss_cons (ps_for PassesOwn.never rfl (pi_list (pe_op op_cat (pe_lst (pa_cons pe_int pa_nil)) (pe_slice sl_list (pv 0) po_none (po_some pe_int)))) (pg_name (i := 1) sc_law.nd rfl (Or.inl rfl))
       (pss_one (ps_if (pt_not (pt_val (pe_own (ok_law_right T) hr (by omega) rfl (pa_cons (pe_own (ok_law_deeds T) hr (by omega) rfl (pa_cons (pe_own (ok_law_stream T) hr (by omega) rfl (pa_cons (pv 1) pa_nil)) pa_nil)) pa_nil))))
       (pss_one (ps_ret pe_bl))
       pss_nil)))
       (pss_cons (ps_set (i := 2) sc_law.nd rfl (Or.inl rfl) (pe_op op_cat (pe_lc (own := [("k", 4)]) (by rfl) sc_law.nd (pi_range1 rfl T.b_range (pa_cons pe_int pa_nil)) (blkOk_by (own := [("k", 4)]) (N := N_law) (sc := defScope s_law) (by decide +kernel)) (fun _ _ _ _ _ => (pg_name (i := 4) sc_law.nd rfl (Or.inl rfl))) (fun _ _ _ _ _ => pts_nil) (fun _ _ _ _ _ => (pe_tup (pa_cons (pv 4) (pa_cons (pe_strS (l := [116, 117, 114, 110]) (by decide +kernel)) (pa_cons (pe_ix ix_txt (pe_strS (l := BRK) (by decide +kernel)) (pe_op op_mod (pv 4) pe_int) (fun _ _ => rfl)) pa_nil)))))) (pe_lst (pa_cons (pe_tup (pa_cons pe_int (pa_cons (pe_strS (l := [112, 117, 116]) (by decide +kernel)) (pa_cons (pe_strS (l := [125]) (by decide +kernel)) pa_nil)))) (pa_cons (pe_tup (pa_cons pe_int (pa_cons (pe_strS (l := [112, 117, 116]) (by decide +kernel)) (pa_cons (pe_strS (l := [40]) (by decide +kernel)) pa_nil)))) pa_nil)))))
       (pss_cons (ps_set (i := 3) sc_law.nd rfl (Or.inl rfl) (pe_op op_cat (pe_lc (own := [("k", 4)]) (by rfl) sc_law.nd (pi_range1 rfl T.b_range (pa_cons pe_int pa_nil)) (blkOk_by (own := [("k", 4)]) (N := N_law) (sc := defScope s_law) (by decide +kernel)) (fun _ _ _ _ _ => (pg_name (i := 4) sc_law.nd rfl (Or.inl rfl))) (fun _ _ _ _ _ => pts_nil) (fun _ _ _ _ _ => (pe_tup (pa_cons pe_int (pa_cons (pe_strS (l := [112, 117, 116]) (by decide +kernel)) (pa_cons (pe_ix ix_txt (pe_strS (l := BRK) (by decide +kernel)) (pe_op op_mod (pv 4) pe_int) (fun _ _ => rfl)) pa_nil)))))) (pe_lst (pa_cons (pe_tup (pa_cons pe_int (pa_cons (pe_strS (l := [116, 117, 114, 110]) (by decide +kernel)) (pa_cons (pe_strS (l := [60]) (by decide +kernel)) pa_nil)))) pa_nil))))
       (pss_cons (ps_ifC (PW.pt (pw_or (pt_not (pt_val (pe_own (ok_law_right T) hr (by omega) rfl (pa_cons (pv 3) pa_nil)))) (pw_or1 (pt_not (pt_val (pe_own (ok_law_right T) hr (by omega) rfl (pa_cons (pe_op op_rep (pe_lst (pa_cons (pe_tup (pa_cons pe_int (pa_cons (pe_strS (l := [112, 117, 116]) (by decide +kernel)) (pa_cons (pe_strS (l := [93]) (by decide +kernel)) pa_nil)))) pa_nil)) pe_int) pa_nil)))))))
       (pss_one (ps_ret pe_bl))
       pss_nil)
       (pss_one (ps_ret (pe_and (pe_own (ok_law_right T) hr (by omega) rfl (pa_cons (pe_lst pa_nil) pa_nil)) (pe_and (pe_own (ok_law_right T) hr (by omega) rfl (pa_cons (pv 2) pa_nil)) (pe_one (pe_own (ok_law_right T) hr (by omega) rfl (pa_cons (pe_lc (own := [("k", 4)]) (by rfl) sc_law.nd (pi_range1 rfl T.b_range (pa_cons pe_int pa_nil)) (blkOk_by (own := [("k", 4)]) (N := N_law) (sc := defScope s_law) (by decide +kernel)) (fun _ _ _ _ _ => (pg_name (i := 4) sc_law.nd rfl (Or.inl rfl))) (fun _ _ _ _ _ => pts_nil) (fun _ _ _ _ _ => (pe_tup (pa_cons (pv 4) (pa_cons (pe_strS (l := [115, 116, 114, 105, 107, 101]) (by decide +kernel)) (pa_cons (pe_strS (l := []) (by decide +kernel)) pa_nil)))))) pa_nil))))))))))), ?_⟩
    rw [st_law]
    have hrng : ∀ (i : Nat), List.range (i + 1) = List.range i ++ [i] := fun i => List.range_succ
    wtm_at "unf"
    wtm_at "gx"
    refine g_lst (by show 1 ≤ 100000; decide) fun c1 H1 n1 s1 e1 => ?_
    wtm_at "gx"
    refine g_slL (Same.seq s1 hS) fun c2 H2 n2 s2 e2 => ?_
    obtain ⟨ms, ems, hms⟩ := cut_ints ns none (some 40)
    rw [ems] at e2
    refine g_cat (s2 _ _ e1) e2 (by simp; omega) fun c3 H3 n3 s3 e3 => ?_
    obtain ⟨zs, ezs⟩ : ∃ zs : List Int, [V.int 0] ++ ms.map V.int = zs.map V.int := ⟨0 :: ms, rfl⟩
    rw [ezs] at e3
    refine ⟨_, rfl, ⟨_, sq_of e3⟩, for_lst (zs.map V.int) (fun pre σ H' => ∃ y1 y2 y3 y4, σ = [some (V.ref a), y1, y2, y3, y4] ∧ Same H3 H') ⟨_, _, _, _, rfl, Same.refl _⟩ (fun pre post σ H' e hv => ?_) (fun pre x post σ H' e hv => ?_) (fun σ H' hv => ?_)⟩
    · obtain ⟨y1, y2, y3, y4, rfl, sH⟩ := hv
      exact sq_of (sH _ _ e3)
    · obtain ⟨y1, y2, y3, y4, rfl, sH⟩ := hv
      obtain ⟨z, rfl⟩ : ∃ z, x = V.int z := by
        have hm : x ∈ zs.map V.int := by rw [e]; simp
        obtain ⟨z, _, hz⟩ := List.mem_map.mp hm
        exact ⟨z, hz.symm⟩
      wtm_at "unf"
      wtm_at "gx"
      refine ⟨z, rfl, fun p P1 G1 np g1 f1 => ?_⟩
      refine ⟨p, P1, rfl, f1, fun P2 b rs ds G2 nb b2 f2 hD hg hl => ?_⟩
      refine ⟨b, rs, ds, rfl, hD, hg, by omega, fun G3 g3 => ?_⟩
      wtm_at "gx"
      exact ⟨_, _, _, _, rfl, sH.trans ((Same.b0 b2 g1 np).trans g3)⟩
    · obtain ⟨y1, y2, y3, y4, rfl, sH⟩ := hv
      wtm_at "unf"
      wtm_at "gx"
      refine ⟨_, rfl, by decide, by decide, lc_rng fun d1 G1 nd1 g1 ed1 => ⟨fun i G => (∃ rs, Dds G d1 rs ((List.range i).map fE)) ∧ Same H' G, ⟨⟨[], ed1, rfl, fun k r d h => by simp at h⟩, g1⟩, fun i G hi hv => ?_, fun G hv => ?_⟩⟩
      · obtain ⟨⟨rs, hD⟩, sG⟩ := hv
        have hi' : i < 40 := hi
        wtm_at "unf"
        refine ⟨rfl, ?_⟩
        wtm_at "gx"
        refine g_ixTn (i % 8) (by decide) (by omega) (brk_getD (Nat.mod_lt _ (by decide))) ?_
        refine g_tup (by show 3 ≤ 100000; decide) fun t1 G2 nt1 g2 et1 => ?_
        have hD2 := hD.same g2
        rw [show (0 : Int) + (i : Int) = (i : Int) by omega] at et1
        refine lc_put hD2.hd (by rw [List.length_map, hD.len, List.length_map, List.length_range]; omega) fun G3 b3 e3 => ⟨⟨rs ++ [t1], ?_⟩, Same.b0 b3 (sG.trans g2) nd1⟩
        rw [hrng, List.map_append]
        exact hD2.snoc (d := fE i) et1 b3 e3
      obtain ⟨⟨rs1, hD1⟩, sG1⟩ := hv
      have hD1 : Dds G d1 rs1 ((List.range 40).map fE) := hD1
      refine g_tup (by show 3 ≤ 100000; decide) fun t1 G2 nt1 g2 et1 => ?_
      refine g_tup (by show 3 ≤ 100000; decide) fun t2 G3 nt2 g3 et2 => ?_
      refine g_lst (by show 2 ≤ 100000; decide) fun l1 G4 nl1 g4 el1 => ?_
      have g24 : Same G G4 := g2.trans (g3.trans g4)
      have hT : Dds G4 l1 [t1, t2] [((40, Dw.put 125) : Deed), (40, Dw.put 40)] := ⟨el1, rfl, fun k r d h1 h2 => by
        match k, h1, h2 with
        | 0, h1, h2 => rw [← Option.some.inj h1, ← Option.some.inj h2]; exact g4 _ _ (g3 _ _ et1)
        | 1, h1, h2 => rw [← Option.some.inj h1, ← Option.some.inj h2]; exact g4 _ _ et2
        | k + 2, h1, h2 => cases h1⟩
      have hrl1 := hD1.len
      refine g_cat (g24 _ _ hD1.hd) el1 (by rw [List.length_map, hrl1, List.length_map, List.length_range]; show 40 + 2 ≤ 100000; decide) fun ev G5 nev g5 eev => ?_
      have hEv : Dds G5 ev (rs1 ++ [t1, t2]) ((List.range 40).map fE ++ [((40, Dw.put 125) : Deed), (40, Dw.put 40)]) := (hD1.same g24).app hT g5 eev
      refine ⟨_, rfl, by decide, by decide, lc_rng fun d2 G6 nd2 g6 ed2 => ⟨fun i G => (∃ rs, Dds G d2 rs ((List.range i).map fM)) ∧ Same G5 G, ⟨⟨[], ed2, rfl, fun k r d h => by simp at h⟩, g6⟩, fun i G hi hv => ?_, fun G hv => ?_⟩⟩
      · obtain ⟨⟨rs, hD⟩, sG⟩ := hv
        have hi' : i < 79 := hi
        wtm_at "unf"
        refine ⟨rfl, ?_⟩
        wtm_at "gx"
        refine g_ixTn (i % 3) (by decide) (by omega) (brk_getD (by omega)) ?_
        refine g_tup (by show 3 ≤ 100000; decide) fun t1 G2 nt1 g2 et1 => ?_
        have hD2 := hD.same g2
        refine lc_put hD2.hd (by rw [List.length_map, hD.len, List.length_map, List.length_range]; omega) fun G3 b3 e3 => ⟨⟨rs ++ [t1], ?_⟩, Same.b0 b3 (sG.trans g2) nd2⟩
        rw [hrng, List.map_append]
        exact hD2.snoc (d := fM i) et1 b3 e3
      rename_i G' _
      clear hD1 hT
      obtain ⟨⟨rs2, hD2⟩, sG2⟩ := hv
      have hD2 : Dds G d2 rs2 ((List.range 79).map fM) := hD2
      refine g_tup (by show 3 ≤ 100000; decide) fun t3 G7 nt3 g7 et3 => ?_
      refine g_lst (by show 1 ≤ 100000; decide) fun l2 G8 nl2 g8 el2 => ?_
      have hT : Dds G8 l2 [t3] [((17, Dw.trn 60) : Deed)] := Dds.one (d := ((17, Dw.trn 60) : Deed)) et3 g8 el2
      have hrl2 := hD2.len
      have hD28 := (hD2.same g7).same g8
      refine g_cat hD28.hd el2 (by rw [List.length_map, hrl2, List.length_map, List.length_range]; show 79 + 1 ≤ 100000; decide) fun mn G9 nmn g9 emn => ?_
      have hMn : Dds G9 mn (rs2 ++ [t3]) ((List.range 79).map fM ++ [((17, Dw.trn 60) : Deed)]) := hD28.app hT g9 emn
      have hEv9 := (hEv.same sG2).same (g7.trans (g8.trans g9))
      wtm_at "unfS"
      refine g_ifH (b := false) (G := fun G3 => Same G9 G3) (fun Q' q' => ?_) (fun G3 g h => by cases h) (fun H5 s5 _ => ?_)
      · wtm_at "unf"
        wtm_at "gx"
        refine ⟨mn, _, _, rfl, hMn, by decide +kernel, by decide +kernel, fun G10 g10 => ?_⟩
        wtm_at "gx"
        refine g_tup (by show 3 ≤ 100000; decide) fun t4 G11 nt4 g11 et4 => ?_
        refine g_lst (by show 1 ≤ 100000; decide) fun l3 G12 nl3 g12 el3 => ?_
        refine g_rep (n := 80) el3 (by show 1 * 80 ≤ 100000; decide) (by decide) fun l4 G13 nl4 g13 el4 => ?_
        refine ⟨l4, _, _, rfl, Dds.rep (d := ((40, Dw.put 93) : Deed)) (g12 _ _ et4) g13 el4, by decide +kernel, by decide +kernel, fun G14 g14 => ?_⟩
        wtm_at "gx"
        exact q' _ (g10.trans (g11.trans (g12.trans (g13.trans g14))))
      have hEv5 := hEv9.same s5
      wtm_at "unf"
      wtm_at "gx"
      refine g_lst (by show 0 ≤ 100000; decide) fun l5 G10 nl5 g10 el5 => ?_
      refine ⟨l5, [], [], rfl, ⟨el5, rfl, fun k r d h => by simp at h⟩, rfl, by decide, fun G11 g11 => ?_⟩
      wtm_at "gx"
      refine ⟨ev, _, _, rfl, (hEv5.same g10).same g11, by decide +kernel, by decide +kernel, fun G12 g12 => ?_⟩
      wtm_at "gx"
      refine ⟨_, rfl, by decide, by decide, lc_rng fun d3 G13 nd3 g13 ed3 => ⟨fun i G => (∃ rs, Dds G d3 rs ((List.range i).map fS)) ∧ Same G12 G, ⟨⟨[], ed3, rfl, fun k r d h => by simp at h⟩, g13⟩, fun i G hi hv => ?_, fun G hv => ?_⟩⟩
      · obtain ⟨⟨rs, hD⟩, sG⟩ := hv
        have hi' : i < 40 := hi
        wtm_at "unf"
        refine ⟨rfl, ?_⟩
        wtm_at "gx"
        refine g_tup (by show 3 ≤ 100000; decide) fun t1 G2 nt1 g2 et1 => ?_
        have hD2 := hD.same g2
        rw [show (0 : Int) + (i : Int) = (i : Int) by omega] at et1
        refine lc_put hD2.hd (by rw [List.length_map, hD.len, List.length_map, List.length_range]; omega) fun G3 b3 e3 => ⟨⟨rs ++ [t1], ?_⟩, Same.b0 b3 (sG.trans g2) nd3⟩
        rw [hrng, List.map_append]
        exact hD2.snoc (d := fS i) et1 b3 e3
      · obtain ⟨⟨rs3, hD3⟩, sG3⟩ := hv
        exact ⟨d3, rs3, _, rfl, hD3, by decide +kernel, by decide +kernel, fun G14 g14 => q _⟩
end
end K46

set_option maxHeartbeats 0
namespace K46
open PySem PySem.Spec PyProof.Rows L2 SX Ly
/-! ### the head -/
def d_shown_deed : He.DefD := ⟨("shown_deed", none), "shown_deed", "shown_deed", defArgs s_shown_deed, defBody s_shown_deed, defScope s_shown_deed, [], []⟩
def d_show_deeds : He.DefD := ⟨("show_deeds", none), "show_deeds", "show_deeds", defArgs s_show_deeds, defBody s_show_deeds, defScope s_show_deeds, [], []⟩
def d_deed_in : He.DefD := ⟨("deed_in", none), "deed_in", "deed_in", defArgs s_deed_in, defBody s_deed_in, defScope s_deed_in, [], []⟩
def d_read_deeds : He.DefD := ⟨("read_deeds", none), "read_deeds", "read_deeds", defArgs s_read_deeds, defBody s_read_deeds, defScope s_read_deeds, [], []⟩
def d_law_stream : He.DefD := ⟨("_law_stream", none), "_law_stream", "_law_stream", defArgs s_law_stream, defBody s_law_stream, defScope s_law_stream, [], []⟩
def d_law_take : He.DefD := ⟨("_law_take", none), "_law_take", "_law_take", defArgs s_law_take, defBody s_law_take, defScope s_law_take, [], []⟩
def d_law_deeds : He.DefD := ⟨("_law_deeds", none), "_law_deeds", "_law_deeds", defArgs s_law_deeds, defBody s_law_deeds, defScope s_law_deeds, [], []⟩
def d_law_word : He.DefD := ⟨("_law_word", none), "_law_word", "_law_word", defArgs s_law_word, defBody s_law_word, defScope s_law_word, [], []⟩
def d_law_shown : He.DefD := ⟨("_law_shown", none), "_law_shown", "_law_shown", defArgs s_law_shown, defBody s_law_shown, defScope s_law_shown, [], []⟩
def d_law_right : He.DefD := ⟨("_law_right", none), "_law_right", "_law_right", defArgs s_law_right, defBody s_law_right, defScope s_law_right, [], []⟩
def d_law : He.DefD := ⟨("law", none), "law", "law", defArgs s_law, defBody s_law, defScope s_law, [], []⟩
def fn : List He.DefD := [d_shown_deed, d_show_deeds, d_deed_in, d_read_deeds, d_law_stream, d_law_take, d_law_deeds, d_law_word, d_law_shown, d_law_right, d_law]
def exL (K : PySem.W.Frag) : List Bool := (errB K (He.ga K "NoWriting") (He.ga K "MendError")) :: (PySem.W.kitOne K (.ref (He.ga K "NoWriting")) (.type "ValueError") == some true) :: (PySem.W.kitOne K (.ref (He.ga K "NoWriting")) (.ref (He.ga K "NoWriting")) == some true) :: []
def ex (K : PySem.W.Frag) : Bool := (exL K).all id
def fa : List He.Fa := [.glo "shown_deed", .glo "show_deeds", .glo "deed_in", .glo "read_deeds", .glo "_law_stream", .glo "_law_take", .glo "_law_deeds", .glo "_law_word", .glo "_law_shown", .glo "_law_right", .glo "law", .str "OPENING" (S OPN), .str "CLOSING" (S CLO), .str "FIGURES" (S [48, 49, 50, 51, 52, 53, 54, 55, 56, 57]), .int "MOST" 40, .free "len", .free "int", .free "str", .free "range", .free "zip", .free "isinstance", .free "list", .free "tuple", .free "bool", .free "min", .free "ValueError", .glo "MARKS", .glo "MendError", .glo "NoWriting"]
abbrev R : PySem.W.OpenRow := PySem.W.OpenLaw.row PySem.Challenge.rw_nestmend_k46_deeds_written
def dl : List KdD := [⟨fun K => He.ga K "MARKS", kv_MARKS⟩]
abbrev hk : PySem.W.Hook := hookM 4 fa fn ex dl
def ob (s : PySem.W.SharedT) : AlM := obsMG 4 fa fn ex dl (HandSHeadRun.getT s)
theorem ob_eq (s : PySem.W.SharedT) : ob s = hk.obs s.abs := obsMG_eq (HandSHeadRun.getT_eq s)
def loose : List Str := ["MendError", "NoWriting", "OPENING", "CLOSING", "FIGURES", "MOST", "MARKS", "shown_deed", "show_deeds", "deed_in", "read_deeds", "_law_stream", "_law_take", "_law_deeds", "_law_word", "_law_shown", "_law_right"]
def wB (b : Bool) (w : World) : World := { w with params := { w.params with followText := fun row => bif row == "special-get-raises" then b else w.params.followText row } }
theorem wB_eq (w : World) : wB (w.params.followText "special-get-raises") w = w := by
  have e : (fun row => bif row == "special-get-raises" then w.params.followText "special-get-raises" else w.params.followText row) = w.params.followText := by
    funext row
    cases h : (row == "special-get-raises") with
    | true => rw [eq_of_beq h]; rfl
    | false => rfl
  show { w with params := { w.params with followText := fun row => bif row == "special-get-raises" then w.params.followText "special-get-raises" else w.params.followText row } } = w
  rw [e]
theorem run_true (w : World) : HandSHeadRun.RunEq R (PySem.W.view R.prog [20]) hk ob 6000 loose (wB true w) := by
  intro os
  kernel_rfl
theorem run_false (w : World) : HandSHeadRun.RunEq R (PySem.W.view R.prog [20]) hk ob 6000 loose (wB false w) := by
  intro os
  kernel_rfl
theorem run (w : World) : HandSHeadRun.RunEq R (PySem.W.view R.prog [20]) hk ob 6000 loose w := by
  have h : ∀ b, HandSHeadRun.RunEq R (PySem.W.view R.prog [20]) hk ob 6000 loose (wB b w) := fun b => match b with | true => run_true w | false => run_false w
  have h1 := h (w.params.followText "special-get-raises")
  rw [wB_eq w] at h1
  exact h1
theorem facts {K : PySem.W.Frag} {h : Heap} {mg : Str → Option Value} (X : K.In h) (G : h.Ns mainGlobals mg) (c : He.SaysD fa fn K) (cx : ex K = true) {w : World} (cd : SaysM dl w K) : Facts w K mg where
  f_shown_deed := by
    obtain ⟨fd, F⟩ := c.def_ 0 (d := d_shown_deed) rfl
    exact ⟨_, fd, F, He.glo_ok X G (c.fact 0 (f := .glo "shown_deed") rfl), FunD.bindsN F fun _ _ _ _ _ _ us hl => match us, hl with | [_], _ => rfl⟩
  f_show_deeds := by
    obtain ⟨fd, F⟩ := c.def_ 1 (d := d_show_deeds) rfl
    exact ⟨_, fd, F, He.glo_ok X G (c.fact 1 (f := .glo "show_deeds") rfl), FunD.bindsN F fun _ _ _ _ _ _ us hl => match us, hl with | [_], _ => rfl⟩
  f_deed_in := by
    obtain ⟨fd, F⟩ := c.def_ 2 (d := d_deed_in) rfl
    exact ⟨_, fd, F, He.glo_ok X G (c.fact 2 (f := .glo "deed_in") rfl), FunD.bindsN F fun _ _ _ _ _ _ us hl => match us, hl with | [_], _ => rfl⟩
  f_read_deeds := by
    obtain ⟨fd, F⟩ := c.def_ 3 (d := d_read_deeds) rfl
    exact ⟨_, fd, F, He.glo_ok X G (c.fact 3 (f := .glo "read_deeds") rfl), FunD.bindsN F fun _ _ _ _ _ _ us hl => match us, hl with | [_], _ => rfl⟩
  f_law_stream := by
    obtain ⟨fd, F⟩ := c.def_ 4 (d := d_law_stream) rfl
    exact ⟨_, fd, F, He.glo_ok X G (c.fact 4 (f := .glo "_law_stream") rfl), FunD.bindsN F fun _ _ _ _ _ _ us hl => match us, hl with | [_], _ => rfl⟩
  f_law_take := by
    obtain ⟨fd, F⟩ := c.def_ 5 (d := d_law_take) rfl
    exact ⟨_, fd, F, He.glo_ok X G (c.fact 5 (f := .glo "_law_take") rfl), FunD.bindsN F fun _ _ _ _ _ _ us hl => match us, hl with | [_, _], _ => rfl⟩
  f_law_deeds := by
    obtain ⟨fd, F⟩ := c.def_ 6 (d := d_law_deeds) rfl
    exact ⟨_, fd, F, He.glo_ok X G (c.fact 6 (f := .glo "_law_deeds") rfl), FunD.bindsN F fun _ _ _ _ _ _ us hl => match us, hl with | [_], _ => rfl⟩
  f_law_word := by
    obtain ⟨fd, F⟩ := c.def_ 7 (d := d_law_word) rfl
    exact ⟨_, fd, F, He.glo_ok X G (c.fact 7 (f := .glo "_law_word") rfl), FunD.bindsN F fun _ _ _ _ _ _ us hl => match us, hl with | [_], _ => rfl⟩
  f_law_shown := by
    obtain ⟨fd, F⟩ := c.def_ 8 (d := d_law_shown) rfl
    exact ⟨_, fd, F, He.glo_ok X G (c.fact 8 (f := .glo "_law_shown") rfl), FunD.bindsN F fun _ _ _ _ _ _ us hl => match us, hl with | [_], _ => rfl⟩
  f_law_right := by
    obtain ⟨fd, F⟩ := c.def_ 9 (d := d_law_right) rfl
    exact ⟨_, fd, F, He.glo_ok X G (c.fact 9 (f := .glo "_law_right") rfl), FunD.bindsN F fun _ _ _ _ _ _ us hl => match us, hl with | [_], _ => rfl⟩
  c_OPENING := by
    obtain ⟨t, e⟩ := He.str_ok X G (c.fact 11 (f := .str "OPENING" (S OPN)) rfl)
    exact ⟨_, e, ⟨t, rfl⟩⟩
  c_CLOSING := by
    obtain ⟨t, e⟩ := He.str_ok X G (c.fact 12 (f := .str "CLOSING" (S CLO)) rfl)
    exact ⟨_, e, ⟨t, rfl⟩⟩
  c_FIGURES := by
    obtain ⟨t, e⟩ := He.str_ok X G (c.fact 13 (f := .str "FIGURES" (S [48, 49, 50, 51, 52, 53, 54, 55, 56, 57])) rfl)
    exact ⟨_, e, ⟨t, rfl⟩⟩
  c_MOST := by
    obtain ⟨t, e⟩ := He.int_ok X G (c.fact 14 (f := .int "MOST" 40) rfl)
    exact ⟨_, e, ⟨t, rfl⟩⟩
  b_len := He.free_ok X G (c.fact 15 (f := .free "len") rfl)
  b_int := He.free_ok X G (c.fact 16 (f := .free "int") rfl)
  b_str := He.free_ok X G (c.fact 17 (f := .free "str") rfl)
  b_range := He.free_ok X G (c.fact 18 (f := .free "range") rfl)
  b_zip := He.free_ok X G (c.fact 19 (f := .free "zip") rfl)
  b_isinstance := He.free_ok X G (c.fact 20 (f := .free "isinstance") rfl)
  b_list := He.free_ok X G (c.fact 21 (f := .free "list") rfl)
  b_tuple := He.free_ok X G (c.fact 22 (f := .free "tuple") rfl)
  b_bool := He.free_ok X G (c.fact 23 (f := .free "bool") rfl)
  b_min := He.free_ok X G (c.fact 24 (f := .free "min") rfl)
  b_ValueError := He.free_ok X G (c.fact 25 (f := .free "ValueError") rfl)
  c_MARKS := ⟨_, He.glo_ok X G (c.fact 26 (f := .glo "MARKS") rfl), rfl⟩
  d_MARKS := cd.at_ 0
  g_MendError := He.glo_ok X G (c.fact 27 (f := .glo "MendError") rfl)
  c_MendError := ⟨_, He.glo_ok X G (c.fact 27 (f := .glo "MendError") rfl), rfl⟩
  g_NoWriting := He.glo_ok X G (c.fact 28 (f := .glo "NoWriting") rfl)
  c_NoWriting := ⟨_, He.glo_ok X G (c.fact 28 (f := .glo "NoWriting") rfl), rfl⟩
  z_NoWriting := errB_ok (all_at cx (i := 0) rfl)
  kv_NoWriting := beq_iff_eq.mp (all_at cx (i := 1) rfl)
  kk_NoWriting_NoWriting := beq_iff_eq.mp (all_at cx (i := 2) rfl)
theorem law_at {K : PySem.W.Frag} {h : Heap} {mg : Str → Option Value} {f : Addr} (X : K.In h) (G : h.Ns mainGlobals mg) (hfa : mg ("law" : Str) = some (.ref f)) (c : He.SaysD fa fn K) :
    ∃ fd : FuncData, (∀ (s : Shared) (v : Value), BindsTo s fd ⟨[v], []⟩ [("script", v)]) ∧ FunD K "law" "law" (defArgs s_law) (defBody s_law) (defScope s_law) [] [] f fd := by
  obtain ⟨fd, F⟩ := c.def_ 10 (d := d_law) rfl
  have e := hfa.symm.trans (He.glo_ok X G (c.fact 10 (f := .glo "law") rfl))
  cases e
  have b := FunD.bindsA (ps := ["script"]) F fun _ _ _ _ _ _ us hl => match us, hl with | [_], _ => rfl
  exact ⟨fd, fun s v => b s [v] rfl, F⟩

end K46
open PySem PySem.W PySem.Calls PyProof.Rows
theorem PySem.Challenge.cw_nestmend_k46_deeds_written_holds : PySem.Challenge.rw_nestmend_k46_deeds_written.Holds := by
  w_on; o_law
  refine HandSHeadRun.head_any (r := OpenLaw.row PySem.Challenge.rw_nestmend_k46_deeds_written) (q := view (OpenLaw.row PySem.Challenge.rw_nestmend_k46_deeds_written).prog [20]) (H := K46.hk) (ob := K46.ob) (M := 6000) (loose := K46.loose) (d := HandSHeadRun.topDef (OpenLaw.row PySem.Challenge.rw_nestmend_k46_deeds_written).prog 20) (kwd := []) K46.ob_eq
    (by kernel_rfl) (fun s => by kernel_rfl) K46.run (by kernel_rfl) (by kernel_rfl) (by kernel_rfl) (by rfl) (by first | assumption | decide +kernel) (by decide +kernel) ⟨rfl, rfl, rfl, rfl, rfl, by decide +kernel⟩ ?hw ?hc
  case hw => w_witness2
  case hc =>
    refine L2.walk_ofE (l := PySem.Challenge.rw_nestmend_k46_deeds_written) (n := 63) (k := 5) (x := "script") (CX := C8.CX0) rfl (by decide) (by kernel_rfl) ⟨rfl, by decide, by decide⟩ ?F (fun _ _ _ _ z => z)
    intro w mg fa h Y G hmg0
    obtain ⟨K, KX, c, cx, cd⟩ := Y
    have hmg : mg ("law" : PySem.Str) = some (.ref fa) := by
      have e : (HandSHeadRun.topDef (OpenLaw.row PySem.Challenge.rw_nestmend_k46_deeds_written).prog 20).name = ("law" : PySem.Str) := by kernel_rfl
      rw [← e]
      exact hmg0
    obtain ⟨fd, hb, F⟩ := K46.law_at KX G hmg c
    exact ⟨K, fd, K46.spLaw K, KX, hb, fun H a ns hl _ hS => ⟨a, ns, rfl, hS, hl, fun _ => rfl⟩, fun base _ _ => K46.ok_law (K46.facts KX G c cx cd) F⟩
