import PyProof.Rows.All
import Wide.All
import OpenK.AllK
import Wide.FinOn
import HandS.ForMost
import HandS.Codes
import HandS.Style
import HandS.Walk
import HandS.IsInst
import HandS.Wide
import HandS.Defaults
import HandS.Flow
import HandS.Replace
import KE.GoesMore
import KE.GoesZip
import KE.GoesEnum
import PyProof.ListStr
import PyProof.StrBlock2
import PySem.Challenge.RW_nestmend_k03_turned_about_and_in_kinds
import HandS.Head0
import HandS.Head1
import HandS.Head2
import HandS.HeadEnd
import HandS.HeadHook1
import HandS.HeadHook2
set_option Elab.async false
set_option linter.all false
set_option maxRecDepth 100000
set_option maxHeartbeats 4000000
namespace Ly
open PySem PySem.Spec PyProof.Rows L2 SX

/-- a text by its codes -/
abbrev Tx (l : List Nat) : V := V.str (S l)
theorem Tx_inj {a b : List Nat} : Tx a = Tx b ↔ a = b := ⟨fun h => S_inj (V.str.inj h), fun h => by rw [h]⟩
def OPN : List Nat := [40, 60, 91, 123]
def CLO : List Nat := [41, 62, 93, 125]
def BRK : List Nat := [40, 41, 60, 62, 91, 93, 123, 125]
def LET : List Nat := [97, 98, 99, 100, 101, 102, 103, 104, 105, 106, 107, 108, 109, 110, 111, 112, 113, 114, 115, 116, 117, 118, 119, 120, 121, 122]

/-! ### rules -/
section
variable {X : Cx} {k j : Nat} {x : Str} {sp : Sp} {p pos : Pos} {e : Expr} {es : List Expr} {t : TA} {ta tb : TE}
def tOwn (sp : Sp) (t : TA) : TE := fun σ H Q => t σ H fun vs H1 => sp vs H1 Q C8.E0
theorem pe_own (c : C8.Cal X.prog X.w X.K X.mg X.base k x sp []) (hr : Room j X.A) (hk : k ≤ j) (hg : Gl X x) (ha : PA X (e :: es) t)
    (hdb : (x == ("__debug__" : Str)) = false := by decide) (he : starEach (e :: es) X.env = (false, eval e X.env) :: starEach es X.env := by rfl) (hpl : (backTo pos (starEach es X.env)).any (·.1) = false := by rfl) :
    PE X (.Call (.Name x p) (e :: es) [] pos) (tOwn sp t) := by
  have h := C8.pe_c (p := p) c hr hk hg ha hdb he hpl
  have e : tCall sp [] C8.E0 t = tOwn sp t := by
    funext σ H Q
    show (t σ H fun vs H1 => sp (vs ++ []) H1 Q C8.E0) = _
    simp only [List.append_nil]
    rfl
  rw [← e]
  exact h
theorem pe_strS {z : Str} {jj : Nat} {l : List Nat} (h : z = S l) : PE X (.Constant (.str z) jj pos) (tC (Tx l)) := by
  subst h
  exact pe_str
/-- operators by names -/
def rAddT : R2 := fun x y H Q => ∃ a b : List Nat, x = Tx a ∧ y = Tx b ∧ a.length + b.length ≤ 100000 ∧ Q (Tx (a ++ b)) H
theorem op_addT : OpR X (binaryOp .Add) rAddT := fun pins s σ H x y v u Q I rx ry h => by
  obtain ⟨a, b, rfl, rfl, hl, q⟩ := h
  refine op_add_str pins s σ H _ _ v u Q I rx ry ⟨_, _, rfl, rfl, ?_, ?_⟩
  · rw [S_len, S_len]
    exact Nat.le_trans hl (by decide)
  · rw [S_cat]
    exact q
theorem iop_addT : PIp X .Add rAddT := fun pins s σ H x y v u Q I rx ry h => by
  obtain ⟨a, b, rfl, rfl, hl, q⟩ := h
  refine iop_add_str pins s σ H _ _ v u Q I rx ry ⟨_, _, rfl, rfl, ?_, ?_⟩
  · rw [S_len, S_len]
    exact Nat.le_trans hl (by decide)
  · rw [S_cat]
    exact q
def rInT (neg : Bool) : R2 := fun x y H Q => ∃ (c : Nat) (l : List Nat), x = Tx [c] ∧ y = Tx l ∧ Q (.bl (if neg then !decide (c ∈ l) else decide (c ∈ l))) H
theorem op_inT : OpR X (compareOp .In) (rInT false) := fun pins s σ H x y v u Q I rx ry h => by
  obtain ⟨c, l, rfl, rfl, q⟩ := h
  exact op_in_sign pins s σ H _ _ v u Q I rx ry ⟨c, S l, rfl, rfl, q⟩
theorem op_notInT : OpR X (compareOp .NotIn) (rInT true) := fun pins s σ H x y v u Q I rx ry h => by
  obtain ⟨c, l, rfl, rfl, q⟩ := h
  exact op_notIn_sign pins s σ H _ _ v u Q I rx ry ⟨c, S l, rfl, rfl, q⟩
def rIxT1 : R2 := fun x y H Q => ∃ (l : List Nat) (i : Int) (c : Nat), x = Tx l ∧ y = .int i ∧ l.length ≤ 100000 ∧ atI l i = some c ∧ Q (Tx [c]) H
theorem ix_txt : IxR X rIxT1 := fun value slice pins s σ H x y v u Q I rx ry h hs => by
  obtain ⟨l, i, c, rfl, rfl, hl, h1, q⟩ := h
  refine ix_str value slice pins s σ H _ _ v u Q I rx ry ⟨S l, i, c, rfl, rfl, ?_, h1, q⟩ hs
  rw [S_len]
  exact Nat.le_trans hl (by decide)
def rLenT : List V → Hp → VK → Prop := fun xs H Q => ∃ l : List Nat, xs = [Tx l] ∧ l.length ≤ 100000 ∧ Q (.int l.length) H
theorem call_lenT : CallR X (.builtin "len") rLenT := fun pins s σ H xs us Q I r h => by
  obtain ⟨l, rfl, hl, q⟩ := h
  refine call_len_str pins s σ H _ us Q I r ⟨S l, rfl, ?_, ?_⟩
  · rw [S_len]
    exact Nat.le_trans hl (by decide)
  · rw [S_len]
    exact q
def rIntB : List V → Hp → VK → Prop := fun xs H Q => ∃ b : Bool, xs = [.bl b] ∧ Q (.int (if b then 1 else 0)) H
theorem call_intB : CallR X (.type "int") rIntB := fun pins s σ H xs us Q I r h => by
  obtain ⟨b, rfl, q⟩ := h
  exact call_int1 pins s σ H _ us Q I r (.inr ⟨b, rfl, q⟩)
def rLenL (K : PySem.W.Frag) : List V → Hp → VK → Prop := fun xs H Q => ∃ p ys, xs = [.ref p] ∧ (SqL K H p ys ∨ SqT K H p ys) ∧ Q (.int ys.length) H
theorem call_lenL : CallR X (.builtin "len") (rLenL X.K) := call_len_seq
def rFindT : V → List V → Hp → VK → Prop := fun x xs H Q => ∃ a b : List Nat, x = Tx a ∧ xs = [Tx b] ∧ Q (.int (Txt.find (S a) (S b))) H
theorem mt_findT : MtR X "str.find" rFindT := fun pins s σ H x xs v us Q I rx rs h => by
  obtain ⟨a, b, h1, h2, q⟩ := h
  exact mt_find pins s σ H x xs v us Q I rx rs ⟨S a, S b, h1, h2, q⟩
def rIdxT : V → List V → Hp → VK → Prop := fun x xs H Q => ∃ (a b : List Nat) (i : Nat), x = Tx a ∧ xs = [Tx b] ∧ Txt.find (S a) (S b) = (i : Int) ∧ Q (.int i) H
theorem mt_idxT : MtR X "str.index" rIdxT := fun pins s σ H x xs v us Q I rx rs h => by
  obtain ⟨a, b, i, h1, h2, h3, q⟩ := h
  unfold Txt.find at h3
  cases ho : Builtin.Str.occurrences (S a) (S b) 0 (S a).length 1 with
  | nil =>
    rw [ho] at h3
    exact absurd h3 (by show ¬ ((-1 : Int) = (i : Int)); omega)
  | cons j r =>
    rw [ho] at h3
    have e : (j : Int) = (i : Int) := h3
    have e2 : j = i := by omega
    subst e2
    exact mt_sindex pins s σ H x xs v us Q I rx rs ⟨S a, S b, j, r, h1, h2, ho, q⟩
def rSlTx : V → Option Int → Option Int → Hp → VK → Prop := fun x lo hi H Q => ∃ l : List Nat, x = Tx l ∧ l.length ≤ 100000 ∧ Q (.str (Txt.slice (S l) lo hi)) H
theorem sl_tx : SlR X rSlTx := by
  intro pins s σ H x v vl vu lo hi sl Q I rx hs pl pu h
  obtain ⟨l, hx, hz, q⟩ := h
  refine C8.sl_txt pins s σ H x v vl vu lo hi sl Q I rx hs pl pu ⟨S l, hx, ?_, q⟩
  rw [S_len]
  exact Nat.le_trans hz (by decide)
end

/-! ### heaps -/
def But (p : Addr) (H H' : Hp) : Prop := ∀ b o, b ≠ p → H b = some o → H' b = some o
section
variable {H H' H1 H2 : Hp} {a b p : Addr} {o u : HO}
theorem upd_old (h : H a = some o) (n : a ≠ p) : upd H p u a = some o := by
  rw [upd_ne n]
  exact h
theorem Same.new (h : H p = none) : Same H (upd H p u) := fun b x e => by
  rw [upd_ne (ne_of_none e h)]
  exact e
theorem Same.mut (s : Same H H') (h : H p = none) : Same H (upd H' p u) := fun b x e => by
  rw [upd_ne (ne_of_none e h)]
  exact s b x e
theorem But.refl : But p H H := fun _ _ _ h => h
theorem But.set : But p H (upd H p u) := fun b x n e => by
  rw [upd_ne n]
  exact e
theorem But.trans (x : But p H H1) (y : But p H1 H2) : But p H H2 := fun b o n h => y b o n (x b o n h)
theorem But.same (x : But p H H1) (y : Same H1 H2) : But p H H2 := fun b o n h => y b o (x b o n h)
theorem Same.but (x : Same H H1) (y : But p H1 H2) : But p H H2 := fun b o n h => y b o n (x b o h)
theorem Same.toBut (x : Same H H1) : But p H H1 := fun b o _ h => x b o h
/-- p is new since H -/
theorem Same.but0 (x : Same H H1) (y : But p H1 H2) (n : H p = none) : Same H H2 := fun b o h => y b o (ne_of_none h n) (x b o h)
theorem But.mut (x : But p H H1) (n : H a = none) : But p H (upd H1 a u) := fun b o m h => by
  rw [upd_ne (ne_of_none h n)]
  exact x b o m h
theorem But.mutP (x : But p H H1) : But p H (upd H1 p u) := fun b o m h => by
  rw [upd_ne m]
  exact x b o m h
theorem But.free (x : But p H H1) (n : a ≠ p) (h : H1 a = none) : H a = none := by
  cases q : H a with
  | none => rfl
  | some o =>
    rw [x a o n q] at h
    cases h
theorem But.but0 {q : Addr} (x : But p H H1) (y : But q H1 H2) (n : H q = none) : But p H H2 := fun b o m h => y b o (ne_of_none h n) (x b o m h)
theorem Same.get (s : Same H H1) (h : H a = some o) : H1 a = some o := s a o h
theorem But.get (s : But p H H1) (n : a ≠ p) (h : H a = some o) : H1 a = some o := s a o n h
theorem ne_new (n : H b = none) (h : H a = some o) : a ≠ b := ne_of_none h n
theorem ne_kind (h : H a = some o) (h' : H b = some u) (n : o ≠ u) : a ≠ b := ne_of h h' n
theorem Same.fr (n : H1 a = none) (x : Same H H1) : H a = none := x.free n
theorem But.fr (n : H1 a = none) (x : But p H H1) (m : a ≠ p) : H a = none := x.free m n
theorem Same.tr (y : Same H1 H2) (x : Same H H1) : Same H H2 := x.trans y
theorem Same.b0 (y : But p H1 H2) (x : Same H H1) (n : H p = none) : Same H H2 := Same.but0 x y n
theorem But.sa (y : Same H1 H2) (x : But p H H1) : But p H H2 := But.same x y
theorem But.tr (y : But p H1 H2) (x : But p H H1) : But p H H2 := x.trans y
theorem But.b0 {q : Addr} (y : But q H1 H2) (x : But p H H1) (n : H q = none) : But p H H2 := But.but0 x y n
theorem upd_free (h : upd H p u a = none) : H a = none := by
  by_cases e : a = p
  · rw [e, upd_same] at h
    cases h
  · rw [upd_ne e] at h
    exact h
theorem sq_of {K : PySem.W.Frag} {xs : List V} (h : H a = some (.lst xs)) : SqL K H a xs := .inl (.inl h)
theorem st_of {K : PySem.W.Frag} {xs : List V} (h : H a = some (.tup xs)) : SqT K H a xs := .inl (.inl h)
theorem But.sq {K : PySem.W.Frag} {xs : List V} (x : But p H H1) (n : a ≠ p) (h : SqL K H a xs) : SqL K H1 a xs := by
  rcases h with (h | ⟨o, h⟩) | h
  · exact .inl (.inl (x _ _ n h))
  · exact .inl (.inr ⟨o, x _ _ n h⟩)
  · exact .inr h
end

/-! ### readings, step by step -/
theorem cx_K {CX : CXT} {P : Program} {w : World} {K : PySem.W.Frag} {mg : Str → Option Value} {base : Heap} {N : List Str} {q : Str} {sc : Scope} {f : Addr} {cd : Value} {A : Around} {outer : List Env} {s : Shared} {H : Hp} {E : XK} : (cxOf CX P w K mg base N q sc f cd A outer s H E).K = K := rfl
section
variable {K : PySem.W.Frag} {σ : L2.St} {H : Hp} {Q : VK} {R : Hp → Prop} {i j : Int} {n : Nat} {v : V} {a p : Addr} {l m : List Nat} {xs ys : List V}
theorem g_var (h : σ[n]? = some (some v)) (q : Q v H) : tVar n σ H Q := ⟨v, h, q⟩
theorem g_I0 {g : Int → Int → V} (q : Q (g i j) H) : rI0 g (.int i) (.int j) H Q := ⟨i, j, rfl, rfl, q⟩
theorem g_I {C : Int → Int → Prop} {g : Int → Int → V} (c : C i j) (q : Q (g i j) H) : rI C g (.int i) (.int j) H Q := ⟨i, j, rfl, rfl, c, q⟩
theorem g_U {g : Int → V} (q : Q (g i) H) : rU g (.int i) H Q := ⟨i, rfl, q⟩
theorem g_ipI {g : Int → Int → Int} (q : Q (.int (g i j)) H) : ipI g (.int i) (.int j) H Q := ⟨i, j, rfl, rfl, q⟩
theorem g_addT (h : l.length + m.length ≤ 100000) (q : Q (Tx (l ++ m)) H) : rAddT (Tx l) (Tx m) H Q := ⟨l, m, rfl, rfl, h, q⟩
theorem g_inT {c : Nat} (q : Q (.bl (decide (c ∈ l))) H) : rInT false (Tx [c]) (Tx l) H Q := ⟨c, l, rfl, rfl, q⟩
theorem g_ninT {c : Nat} (q : Q (.bl (!decide (c ∈ l))) H) : rInT true (Tx [c]) (Tx l) H Q := ⟨c, l, rfl, rfl, q⟩
theorem g_ixT {c : Nat} (h : l.length ≤ 100000) (h1 : atI l i = some c) (q : Q (Tx [c]) H) : rIxT1 (Tx l) (.int i) H Q := ⟨l, i, c, rfl, rfl, h, h1, q⟩
theorem g_ixL (h : SqL K H p xs) (h1 : atI xs i = some v) (q : Q v H) : rIxL K (.ref p) (.int i) H Q := ⟨p, xs, i, v, rfl, rfl, h, h1, q⟩
theorem g_ixU (h : SqT K H p xs) (h1 : atI xs i = some v) (q : Q v H) : rIxT K (.ref p) (.int i) H Q := ⟨p, xs, i, v, rfl, rfl, h, h1, q⟩
theorem g_lenT (h : l.length ≤ 100000) (q : Q (.int l.length) H) : rLenT [Tx l] H Q := ⟨l, rfl, h, q⟩
theorem g_lenL (h : SqL K H p xs) (q : Q (.int xs.length) H) : rLenL K [.ref p] H Q := ⟨p, xs, rfl, .inl h, q⟩
theorem g_lenU (h : SqT K H p xs) (q : Q (.int xs.length) H) : rLenL K [.ref p] H Q := ⟨p, xs, rfl, .inr h, q⟩
theorem g_findT (q : Q (.int (Txt.find (S l) (S m))) H) : (∃ z, Tx l = .str z) ∧ rFindT (Tx l) [Tx m] H Q := ⟨⟨_, rfl⟩, l, m, rfl, rfl, q⟩
theorem g_findT1 (q : Q (.int (Txt.find (S l) (S m))) H) : rFindT (Tx l) [Tx m] H Q := ⟨l, m, rfl, rfl, q⟩
theorem g_idxT1 {k : Nat} (h : Txt.find (S l) (S m) = (k : Int)) (q : Q (.int k) H) : rIdxT (Tx l) [Tx m] H Q := ⟨l, m, k, rfl, rfl, h, q⟩
theorem g_str {A : Prop} (q : A) : (∃ z, Tx l = .str z) ∧ A := ⟨⟨_, rfl⟩, q⟩
theorem g_intB {b : Bool} (q : Q (.int (if b then 1 else 0)) H) : rIntB [.bl b] H Q := ⟨b, rfl, q⟩
theorem g_eq {x y : V} (h : scal x y = true) (q : Q (.bl (decide (x = y))) H) : rEq x y H Q := ⟨h, q⟩
theorem g_ne {x y : V} (h : scal x y = true) (q : Q (.bl (!decide (x = y))) H) : rNe x y H Q := ⟨h, q⟩
theorem g_tyL (h : SqL K H p xs) : tyV K "list" (.ref p) H := .inl ⟨rfl, _, h⟩
/-! new objects, changed ones -/
def rLstN (xs : List V) (H : Hp) (Q : VK) : Prop := xs.length ≤ sizeLine ∧ ∀ p, H p = none → Q (.ref p) (upd H p (.lst xs))
def rTupN (xs : List V) (H : Hp) (Q : VK) : Prop := xs.length ≤ sizeLine ∧ ∀ p, H p = none → Q (.ref p) (upd H p (.tup xs))
def rRevN (K : PySem.W.Frag) (x : V) (H : Hp) (Q : VK) : Prop := ∃ a xs, x = .ref a ∧ SqL K H a xs ∧ ∀ p, H p = none → Q (.ref p) (upd H p (.lst xs.reverse))
theorem tLst_eq {t : TA} : tLst t σ H Q = t σ H fun xs H1 => rLstN xs H1 Q := rfl
theorem tTup_eq {t : TA} : tTup t σ H Q = t σ H fun xs H1 => rTupN xs H1 Q := rfl
theorem tRevL_eq {t : TE} : tRevL K t σ H Q = t σ H fun x H1 => rRevN K x H1 Q := rfl
def rPart (x : V) (H : Hp) (Q : Option Int → Hp → Prop) : Prop := ∃ i, x = .int i ∧ Q (some i) H
theorem tPart_eq {t : TE} {Q : Option Int → Hp → Prop} : tPart t σ H Q = t σ H fun x H1 => rPart x H1 Q := rfl
theorem g_part {Q : Option Int → Hp → Prop} (q : Q (some i) H) : rPart (.int i) H Q := ⟨i, rfl, q⟩
theorem g_lst (h : xs.length ≤ 100000) (q : ∀ p H1, H p = none → Same H H1 → H1 p = some (.lst xs) → Q (.ref p) H1) : rLstN xs H Q :=
  ⟨Nat.le_trans h (by decide), fun p np => q p _ np (Same.new np) upd_same⟩
theorem g_tup (h : xs.length ≤ 100000) (q : ∀ p H1, H p = none → Same H H1 → H1 p = some (.tup xs) → Q (.ref p) H1) : rTupN xs H Q :=
  ⟨Nat.le_trans h (by decide), fun p np => q p _ np (Same.new np) upd_same⟩
theorem g_new {o : HO} (q : ∀ p H1, H p = none → Same H H1 → H1 p = some o → Q (.ref p) H1) : ∀ p, H p = none → Q (.ref p) (upd H p o) := fun p np => q p _ np (Same.new np) upd_same
theorem g_setL (h : H p = some (.lst xs)) (h1 : ixN xs.length i = some n) (q : ∀ H1, But p H H1 → H1 p = some (.lst (xs.set n v)) → R H1) : rSetL (.ref p) (.int i) v H R := ⟨p, xs, i, n, rfl, rfl, h, h1, q _ But.set upd_same⟩
theorem g_append (h : H p = some (.lst xs)) (hl : xs.length < 100000) (q : ∀ H1, But p H H1 → H1 p = some (.lst (xs ++ [v])) → Q .non H1) : tyV K "list" (.ref p) H ∧ rAppend (.ref p) [v] H Q :=
  ⟨g_tyL (sq_of h), p, xs, v, rfl, rfl, h, Nat.lt_of_lt_of_le hl (by decide), q _ But.set upd_same⟩
theorem g_append1 (h : H p = some (.lst xs)) (hl : xs.length < 100000) (q : ∀ H1, But p H H1 → H1 p = some (.lst (xs ++ [v])) → Q .non H1) : rAppend (.ref p) [v] H Q :=
  ⟨p, xs, v, rfl, rfl, h, Nat.lt_of_lt_of_le hl (by decide), q _ But.set upd_same⟩
theorem g_pop (h : H p = some (.lst (xs ++ [v]))) (q : ∀ H1, But p H H1 → H1 p = some (.lst xs) → Q v H1) : tyV K "list" (.ref p) H ∧ rPop (.ref p) [] H Q := by
  refine ⟨g_tyL (sq_of h), p, xs ++ [v], v, rfl, rfl, h, ?_, ?_⟩
  · simp
  · rw [List.dropLast_concat]
    exact q _ But.set upd_same
theorem g_slL {lo hi : Option Int} (h : SqL K H p xs) (q : ∀ p H1, H p = none → Same H H1 → H1 p = some (.lst (cutV xs lo hi)) → Q (.ref p) H1) : rSlL K (.ref p) lo hi H Q := ⟨p, xs, rfl, h, g_new q⟩
theorem g_revL (h : SqL K H p xs) (q : ∀ p H1, H p = none → Same H H1 → H1 p = some (.lst xs.reverse) → Q (.ref p) H1) : rRevN K (.ref p) H Q := ⟨p, xs, rfl, h, g_new q⟩
theorem g_cat (h : H a = some (.lst xs)) (h2 : H p = some (.lst ys)) (hl : xs.length + ys.length ≤ 100000) (q : ∀ p H1, H p = none → Same H H1 → H1 p = some (.lst (xs ++ ys)) → Q (.ref p) H1) : rCat (.ref a) (.ref p) H Q := ⟨a, p, xs, ys, rfl, rfl, h, h2, Nat.le_trans hl (by decide), g_new q⟩
theorem g_slTo (h : l.length ≤ 100000) (hi : 0 ≤ i) (q : Q (Tx (l.take i.toNat)) H) : rSlTx (Tx l) none (some i) H Q := ⟨l, rfl, h, by rw [slice_to hi]; exact q⟩
theorem g_slFrom (h : l.length ≤ 100000) (hi : 0 ≤ i) (q : Q (Tx (l.drop i.toNat)) H) : rSlTx (Tx l) (some i) none H Q := ⟨l, rfl, h, by rw [slice_from hi]; exact q⟩
/-! tests -/
theorem g_test {c : Prop} [Decidable c] {A B : Prop} (h1 : c → A) (h2 : ¬ c → B) : ∃ k, V.bl (decide c) = V.bl k ∧ if k = true then A else B := by
  refine ⟨_, rfl, ?_⟩
  by_cases h : c
  · rw [decide_eq_true h, if_pos rfl]
    exact h1 h
  · rw [decide_eq_false h, if_neg Bool.false_ne_true]
    exact h2 h
theorem g_testN {c : Prop} [Decidable c] {A B : Prop} (h1 : ¬ c → A) (h2 : c → B) : ∃ k, V.bl (!decide c) = V.bl k ∧ if k = true then A else B := by
  refine ⟨_, rfl, ?_⟩
  by_cases h : c
  · rw [decide_eq_true h]
    exact h2 h
  · rw [decide_eq_false h]
    exact h1 h
theorem g_testB {b : Bool} {A B : Prop} (h1 : b = true → A) (h2 : b = false → B) : ∃ k, V.bl b = V.bl k ∧ if k = true then A else B := by
  refine ⟨_, rfl, ?_⟩
  cases b with
  | true => exact h1 rfl
  | false => exact h2 rfl
theorem g_testS {b : Bool} {R : Bool → Hp → Prop} (q : R b H) : ∃ k, V.bl b = V.bl k ∧ R k H := ⟨_, rfl, q⟩
end

/-! ### loops -/
def ForR (J : It) (g : TG) (tb : TS) (D : Ends) (σ : L2.St) (H : Hp) : Prop := ∃ W : Nat → Nat → L2.St → Hp → Prop, (∃ m, W 0 m σ H) ∧ ∀ i m σ H, W i m σ H →
  (J.stop i H ∧ D.nx σ H) ∨ (J.go i H ∧ ∃ N : L2.St → Hp → Prop, (∀ σ' H', N σ' H' → ∃ m', m' < m ∧ W (i + 1) m' σ' H') ∧ ∀ x H', J.yld i H x H' → g x σ H' fun σ2 H2 => tb { D with nx := N, ct := N, bk := D.nx } σ2 H2)
theorem tFor_eq {wi : TI} {g : TG} {tb : TS} {D : Ends} {σ : L2.St} {H : Hp} : tFor wi g tb D σ H = wi σ H fun J H1 => ForR J g tb D σ H1 := rfl
def LcR (J : It) (g : TG) (tt : TT) (te : TE) (vs : List Nat) (σ : L2.St) (H1 : Hp) (Q : VK) : Prop := ∀ D, H1 D = none → ∃ W : Nat → Nat → Hp → Prop, (∃ m, W 0 m (upd H1 D (.lst []))) ∧ ∀ i m H, W i m H →
  (J.stop i H ∧ Q (.ref D) H) ∨ (J.go i H ∧ ∃ Nx : Hp → Prop, (∀ H', Nx H' → ∃ m', m' < m ∧ W (i + 1) m' H') ∧ ∀ x H', J.yld i H x H' → g x (wipe σ vs) H' fun σ2 H2 => wipe σ2 vs = wipe σ vs ∧ tt σ2 H2 fun b H3 =>
    if b = true then te σ2 H3 fun y H4 => ∃ acc, H4 D = some (.lst acc) ∧ acc.length < sizeLine ∧ Nx (upd H4 D (.lst (acc ++ [y]))) else Nx H3)
theorem tLc_eq {wi : TI} {g : TG} {tt : TT} {te : TE} {vs : List Nat} {σ : L2.St} {H : Hp} {Q : VK} : tLc wi g tt te vs σ H Q = wi σ H fun J H1 => LcR J g tt te vs σ H1 Q := rfl
section
variable {K : PySem.W.Frag} {σ : L2.St} {H : Hp} {g : TG} {tb : TS} {D : Ends} {l : List Nat} {xs : List V} {a : Addr} {tt : TT} {te : TE} {vs : List Nat} {Q : VK} {n : Nat} {lo : Int}
/-- for c in text, by what is gone through -/
theorem for_txt (Pv : List Nat → L2.St → Hp → Prop) (h0 : Pv [] σ H)
    (hs : ∀ pre c post σ H, l = pre ++ c :: post → Pv pre σ H → g (Tx [c]) σ H fun σ2 H2 => tb { D with nx := Pv (pre ++ [c]), ct := Pv (pre ++ [c]), bk := D.nx } σ2 H2) (hd : ∀ σ H, Pv l σ H → D.nx σ H) : ForR (Its (S l)) g tb D σ H := by
  refine ⟨fun i m σ H => m = l.length - i ∧ i ≤ l.length ∧ Pv (l.take i) σ H, ⟨l.length, by simp, Nat.zero_le _, by simpa using h0⟩, ?_⟩
  rintro i m σ H ⟨rfl, hi, p⟩
  have sz : (S l).cps.size = l.length := by simp
  by_cases hlt : i < l.length
  · have e : l.take (i + 1) = l.take i ++ [l[i]] := by rw [List.take_succ_eq_append_getElem hlt]
    have e2 : l = l.take i ++ l[i] :: l.drop (i + 1) := by rw [← List.drop_eq_getElem_cons hlt, List.take_append_drop]
    refine .inr ⟨by show i < (S l).cps.size; rw [sz]; exact hlt, Pv (l.take (i + 1)), fun σ' H' p' => ⟨l.length - (i + 1), by omega, rfl, hlt, p'⟩, fun x H' y => ?_⟩
    obtain ⟨e1, c, hc, rfl⟩ := y
    subst e1
    have ec : c = l[i] := by
      have : (S l).cps[i]? = some l[i] := by simp [hlt]
      rw [this] at hc
      exact (Option.some.inj hc).symm
    subst ec
    rw [e]
    exact hs (l.take i) l[i] (l.drop (i + 1)) σ _ e2 p
  · have e : i = l.length := by omega
    subst e
    rw [List.take_length] at p
    exact .inl ⟨by show (S l).cps.size ≤ l.length; rw [sz]; exact Nat.le_refl _, hd σ H p⟩
theorem cut_at {α : Type} {xs : List α} {i : Nat} {x : α} (hx : xs[i]? = some x) : xs.take (i + 1) = xs.take i ++ [x] ∧ xs = xs.take i ++ x :: xs.drop (i + 1) := by
  obtain ⟨hlt, ex⟩ := List.getElem?_eq_some_iff.mp hx
  subst ex
  exact ⟨by rw [List.take_succ_eq_append_getElem hlt], by rw [← List.drop_eq_getElem_cons hlt, List.take_append_drop]⟩
/-- for x in list, by what is gone through; the list stays -/
theorem for_lst (xs : List V) (Pv : List V → L2.St → Hp → Prop) (h0 : Pv [] σ H) (hl : ∀ pre post σ H, xs = pre ++ post → Pv pre σ H → SqL K H a xs)
    (hs : ∀ pre x post σ H, xs = pre ++ x :: post → Pv pre σ H → g x σ H fun σ2 H2 => tb { D with nx := Pv (pre ++ [x]), ct := Pv (pre ++ [x]), bk := D.nx } σ2 H2) (hd : ∀ σ H, Pv xs σ H → D.nx σ H) : ForR (Itl K a) g tb D σ H := by
  refine for_list (xs := xs) (fun i σ H => Pv (xs.take i) σ H) (by simpa using h0) (fun i σ H _ p => hl _ (xs.drop i) σ H (List.take_append_drop i xs).symm p) (fun i x σ H hx p => ?_) (fun σ H p => hd σ H (by simpa using p))
  obtain ⟨e, e2⟩ := cut_at hx
  have z := hs (xs.take i) x (xs.drop (i + 1)) σ H e2 p
  rw [← e] at z
  exact z
/-- for i, x in enumerate(list), by what is gone through -/
theorem for_enum (xs : List V) (Pv : List V → L2.St → Hp → Prop) (h0 : Pv [] σ H) (hl : ∀ pre post σ H, xs = pre ++ post → Pv pre σ H → SqL K H a xs)
    (hs : ∀ pre x post σ H t H1, xs = pre ++ x :: post → Pv pre σ H → H t = none → Same H H1 → H1 t = some (.tup [.int pre.length, x]) → g (.ref t) σ H1 fun σ2 H2 => tb { D with nx := Pv (pre ++ [x]), ct := Pv (pre ++ [x]), bk := D.nx } σ2 H2) (hd : ∀ σ H, Pv xs σ H → D.nx σ H) : ForR (Ite K a) g tb D σ H := by
  refine for_it (walk_enum (xs := xs)) (fun i σ H => Pv (xs.take i) σ H) (by simpa using h0) (fun i σ H _ p => hl _ (xs.drop i) σ H (List.take_append_drop i xs).symm p) (fun i v σ H H' hi p y => ?_) (fun σ H p => hd σ H (by simpa using p))
  obtain ⟨t, x1, x2, rfl, nt, rfl, e1, e2⟩ := y
  cases e1
  obtain ⟨e, e3⟩ := cut_at e2
  have z := hs (xs.take i) x2 (xs.drop (i + 1)) σ H t _ e3 p nt (Same.new nt) (by
    rw [upd_same, List.length_take, Nat.min_eq_left (Nat.le_of_lt hi)])
  rw [← e] at z
  exact z
/-- for i in range -/
theorem for_rng (Pv : Nat → L2.St → Hp → Prop) (h0 : Pv 0 σ H)
    (hs : ∀ i σ H, i < n → Pv i σ H → g (.int (lo + i)) σ H fun σ2 H2 => tb { D with nx := Pv (i + 1), ct := Pv (i + 1), bk := D.nx } σ2 H2) (hd : ∀ σ H, Pv n σ H → D.nx σ H) : ForR (Itr lo n) g tb D σ H := for_range Pv h0 hs hd
/-- what a comprehension's turn is to reach: y put behind the new list at d -/
def LcPut (d : Addr) (R : Hp → Prop) (y : V) (H : Hp) : Prop := ∃ acc, H d = some (.lst acc) ∧ acc.length < sizeLine ∧ R (upd H d (.lst (acc ++ [y])))
theorem lc_put {d : Addr} {R : Hp → Prop} {y : V} {acc : List V} (h : H d = some (.lst acc)) (hl : acc.length < 100000) (q : ∀ H5, But d H H5 → H5 d = some (.lst (acc ++ [y])) → R H5) : LcPut d R y H := ⟨acc, h, Nat.lt_of_lt_of_le hl (by decide), q _ But.set upd_same⟩
theorem lc_w {J : It} {G : Hp → Prop} {Y : Nat → Hp → V → Hp → Prop} (w : Walk J n G Y)
    (h : ∀ d H1, H d = none → Same H H1 → H1 d = some (.lst []) → ∃ Pv : Nat → Hp → Prop, Pv 0 H1 ∧ (∀ i H, i ≤ n → Pv i H → G H) ∧
      (∀ i x H H', i < n → Pv i H → Y i H x H' → g x (wipe σ vs) H' fun σ2 H2 => wipe σ2 vs = wipe σ vs ∧ tt σ2 H2 fun b H3 => if b = true then te σ2 H3 fun y H4 => LcPut d (Pv (i + 1)) y H4 else Pv (i + 1) H3) ∧ ∀ H, Pv n H → Q (.ref d) H) : LcR J g tt te vs σ H Q := by
  intro d nd
  obtain ⟨Pv, h0, hG, hs, hd⟩ := h d _ nd (Same.new nd) upd_same
  exact lc_it w Pv h0 hG hs hd
theorem lc_rng (h : ∀ d H1, H d = none → Same H H1 → H1 d = some (.lst []) → ∃ Pv : Nat → Hp → Prop, Pv 0 H1 ∧
      (∀ (i : Nat) H, i < n → Pv i H → g (.int (lo + i)) (wipe σ vs) H fun σ2 H2 => wipe σ2 vs = wipe σ vs ∧ tt σ2 H2 fun b H3 => if b = true then te σ2 H3 fun y H4 => LcPut d (Pv (i + 1)) y H4 else Pv (i + 1) H3) ∧ ∀ H, Pv n H → Q (.ref d) H) : LcR (Itr lo n) g tt te vs σ H Q := by
  refine lc_w walk_range fun d H1 nd s e => ?_
  obtain ⟨Pv, h0, hs, hd⟩ := h d H1 nd s e
  refine ⟨Pv, h0, fun _ _ _ _ => trivial, fun i x H H' hi p y => ?_, hd⟩
  obtain ⟨rfl, rfl⟩ := y
  exact hs i _ hi p
theorem lc_txt (h : ∀ d H1, H d = none → Same H H1 → H1 d = some (.lst []) → ∃ Pv : List Nat → Hp → Prop, Pv [] H1 ∧
      (∀ pre c post H, l = pre ++ c :: post → Pv pre H → g (Tx [c]) (wipe σ vs) H fun σ2 H2 => wipe σ2 vs = wipe σ vs ∧ tt σ2 H2 fun b H3 => if b = true then te σ2 H3 fun y H4 => LcPut d (Pv (pre ++ [c])) y H4 else Pv (pre ++ [c]) H3) ∧ ∀ H, Pv l H → Q (.ref d) H) : LcR (Its (S l)) g tt te vs σ H Q := by
  refine lc_w walk_str fun d H1 nd s e => ?_
  obtain ⟨Pv, h0, hs, hd⟩ := h d H1 nd s e
  have sz : (S l).cps.size = l.length := by simp
  refine ⟨fun i => Pv (l.take i), by simpa using h0, fun _ _ _ _ => trivial, fun i x H H' hi p y => ?_, fun H p => hd H (by rw [sz, List.take_length] at p; exact p)⟩
  obtain ⟨rfl, c, hc, rfl⟩ := y
  have hc2 : l[i]? = some c := by simpa using hc
  obtain ⟨e1, e2⟩ := cut_at hc2
  have z := hs (l.take i) c (l.drop (i + 1)) _ e2 p
  rw [← e1] at z
  exact z
theorem lc_lst (xs : List V) (h : ∀ d H1, H d = none → Same H H1 → H1 d = some (.lst []) → ∃ Pv : List V → Hp → Prop, Pv [] H1 ∧ (∀ pre post H, xs = pre ++ post → Pv pre H → SqL K H a xs) ∧
      (∀ pre x post H, xs = pre ++ x :: post → Pv pre H → g x (wipe σ vs) H fun σ2 H2 => wipe σ2 vs = wipe σ vs ∧ tt σ2 H2 fun b H3 => if b = true then te σ2 H3 fun y H4 => LcPut d (Pv (pre ++ [x])) y H4 else Pv (pre ++ [x]) H3) ∧ ∀ H, Pv xs H → Q (.ref d) H) : LcR (Itl K a) g tt te vs σ H Q := by
  refine lc_w (walk_list (xs := xs)) fun d H1 nd s e => ?_
  obtain ⟨Pv, h0, hl, hs, hd⟩ := h d H1 nd s e
  refine ⟨fun i => Pv (xs.take i), by simpa using h0, fun i H _ p => hl _ (xs.drop i) H (List.take_append_drop i xs).symm p, fun i x H H' hi p y => ?_, fun H p => hd H (by simpa using p)⟩
  obtain ⟨rfl, hc⟩ := y
  obtain ⟨e1, e2⟩ := cut_at hc
  have z := hs (xs.take i) x (xs.drop (i + 1)) _ e2 p
  rw [← e1] at z
  exact z
end

/-! ### a def of the text -/
def DefAt (K : PySem.W.Frag) (mg : Str → Option Value) (x : Str) (st : Stmt) (ps : List Str) : Prop := ∃ (f : Addr) (fd : FuncData), FunD K x x (defArgs st) (defBody st) (defScope st) [] [] f fd ∧ mg x = some (.ref f) ∧ Binds K fd ps []
section
variable {P : Program} {w : World} {K : PySem.W.Frag} {mg : Str → Option Value} {base : Heap}
theorem fnD {x : Str} {st : Stmt} {f : Addr} {fd : FuncData} {N ps : List Str} {k : Nat} {sp : Sp} (F : FunD K x x (defArgs st) (defBody st) (defScope st) [] [] f fd) (S : FnScope N ps (defScope st)) (len : ∀ vs H Q E, sp vs H Q E → vs.length = ps.length)
    (hbody : ∀ (cdv : Value) (A : Around) (outer : List Env) (s : Shared) (H : Hp) (vs : List V) (Q : VK) (E : XK), Room k (A.deeper (envOfC x (defScope st) s.heap.objs.size f cdv)) → sp vs H Q E →
      ∃ t, PSs (cxOf C8.CX0 P w K mg base N x (defScope st) f cdv A outer s H E).nox (defBody st) t ∧ t { nx := fun _ H' => Q .non H', rt := Q } (start N vs) H) : FnOk P w K mg base C8.CX0 (k + 1) f fd ps sp := by
  refine F.ok S len fun cdv A outer s H vs Q E hr hsp => ?_
  obtain ⟨t, h, q⟩ := hbody cdv A outer s H vs Q E hr hsp
  exact ⟨t, h.nox, q⟩
theorem calD {x : Str} {st : Stmt} {N ps : List Str} {k : Nat} {sp : Sp} (D : DefAt K mg x st ps) (S : FnScope N ps (defScope st)) (len : ∀ vs H Q E, sp vs H Q E → vs.length = ps.length)
    (hbody : ∀ (f : Addr) (cdv : Value) (A : Around) (outer : List Env) (s : Shared) (H : Hp) (vs : List V) (Q : VK) (E : XK), Room k (A.deeper (envOfC x (defScope st) s.heap.objs.size f cdv)) → sp vs H Q E →
      ∃ t, PSs (cxOf C8.CX0 P w K mg base N x (defScope st) f cdv A outer s H E).nox (defBody st) t ∧ t { nx := fun _ H' => Q .non H', rt := Q } (start N vs) H) : C8.Cal P w K mg base (k + 1) x sp [] := by
  obtain ⟨f, fd, F, hm, b⟩ := D
  exact ⟨f, fd, ps, [], fnD F S len (hbody f), hm, F.kp, b, .nil⟩
end
end Ly

set_option maxHeartbeats 4000000
namespace Ly
open PySem SX
/-! ### signs -/
def isSg (c : Nat) : Prop := c ∈ LET ∨ c ∈ BRK
/-- the number of a bracket's kind -/
def knd (c : Nat) : Nat := if c ∈ OPN then OPN.idxOf c else CLO.idxOf c
/-- the other bracket of a bracket's kind -/
def oth (c : Nat) : Nat := if c ∈ OPN then CLO.getD (OPN.idxOf c) 0 else OPN.getD (CLO.idxOf c) 0
theorem find_opn : ∀ c ∈ OPN, Txt.find (S OPN) (S [c]) = (knd c : Int) := by decide +kernel
theorem find_clo : ∀ c ∈ CLO, Txt.find (S CLO) (S [c]) = (knd c : Int) := by decide +kernel
theorem brk_or {c : Nat} : c ∈ BRK ↔ c ∈ OPN ∨ c ∈ CLO := by
  unfold BRK OPN CLO
  simp
  omega
theorem knd_lt : ∀ c ∈ BRK, knd c < 4 := by decide
theorem at_clo : ∀ c ∈ OPN, CLO[knd c]? = some (oth c) := by decide
theorem at_opn : ∀ c ∈ CLO, OPN[knd c]? = some (oth c) := by decide
theorem oth_clo : ∀ c ∈ OPN, oth c ∈ CLO := by decide
theorem oth_opn : ∀ c ∈ CLO, oth c ∈ OPN := by decide
theorem oth_brk : ∀ c ∈ BRK, oth c ∈ BRK := by decide
theorem oth_oth : ∀ c ∈ BRK, oth (oth c) = c := by decide
theorem opn_clo : ∀ c ∈ OPN, c ∉ CLO := by decide
theorem atI_of {α : Type} {l : List α} {k : Nat} {c : α} (h : l[k]? = some c) : L2.atI l (k : Int) = some c := L2.atI_nat h

/-! ### clean texts, by a pile of awaited closing brackets -/
def stp (s : Option (List Nat)) (c : Nat) : Option (List Nat) := match s with
  | none => none
  | some st => if c ∈ OPN then some (oth c :: st) else if c ∈ CLO then (match st with
    | d :: r => if d = c then some r else none
    | [] => none) else some st
def run (l : List Nat) : Option (List Nat) := l.foldl stp (some [])
def clean (l : List Nat) : Prop := run l = some []
instance (l : List Nat) : Decidable (clean l) := inferInstanceAs (Decidable (run l = some []))
theorem run_app (a b : List Nat) : run (a ++ b) = b.foldl stp (run a) := by
  unfold run
  rw [List.foldl_append]
theorem run_snoc (a : List Nat) (c : Nat) : run (a ++ [c]) = stp (run a) c := by
  rw [run_app]
  rfl
theorem stp_let {s : Option (List Nat)} {c : Nat} (h1 : c ∉ OPN) (h2 : c ∉ CLO) : stp s c = s := by
  cases s with
  | none => rfl
  | some st => unfold stp; simp only [h1, h2, if_false]
theorem stp_opn {st : List Nat} {c : Nat} (h1 : c ∈ OPN) : stp (some st) c = some (oth c :: st) := by
  unfold stp
  simp only [h1, if_true]
theorem stp_clo {st : List Nat} {c : Nat} (h2 : c ∈ CLO) : stp (some (c :: st)) c = some st := by
  have h1 : c ∉ OPN := fun h => opn_clo c h h2
  unfold stp
  simp only [h1, h2, if_true, if_false]
theorem let_opn : ∀ c ∈ LET, c ∉ OPN := by decide
theorem let_clo : ∀ c ∈ LET, c ∉ CLO := by decide
theorem sg_lt {c : Nat} (h : isSg c) : c < 1114112 := by
  have a : ∀ c ∈ LET, c < 1114112 := by decide
  have b : ∀ c ∈ BRK, c < 1114112 := by decide
  exact h.elim (a c) (b c)
/-- what is waited for, closed -/
theorem fold_clo : ∀ st : List Nat, (∀ c ∈ st, c ∈ CLO) → st.foldl stp (some st) = some []
  | [], _ => rfl
  | c :: st, h => by
    rw [List.foldl_cons, stp_clo (h c (List.mem_cons_self ..))]
    exact fold_clo st fun d hd => h d (List.mem_cons_of_mem _ hd)
theorem opn_at {z : Nat} (h : z < 4) : ∃ c, OPN[z]? = some c ∧ CLO[z]? = some (oth c) ∧ c ∈ OPN ∧ oth c ∈ CLO := by
  have e : z = 0 ∨ z = 1 ∨ z = 2 ∨ z = 3 := by omega
  rcases e with rfl | rfl | rfl | rfl
  · exact ⟨40, rfl, rfl, by decide, by decide⟩
  · exact ⟨60, rfl, rfl, by decide, by decide⟩
  · exact ⟨91, rfl, rfl, by decide, by decide⟩
  · exact ⟨123, rfl, rfl, by decide, by decide⟩
theorem brk_at {z : Nat} (h : z < 8) : ∃ c, BRK[z]? = some c ∧ c ∈ BRK := ⟨BRK[z]'h, List.getElem?_eq_getElem h, List.getElem_mem h⟩
theorem let_at {z : Nat} (h : z < 26) : ∃ c, LET[z]? = some c ∧ c ∈ LET := ⟨LET[z]'h, List.getElem?_eq_getElem h, List.getElem_mem h⟩
theorem ixN_nat {n j : Nat} (h : j < n) : L2.ixN n (j : Int) = some j := by
  unfold L2.ixN
  rw [if_pos (by omega), if_pos (by omega), Int.toNat_natCast]
theorem erase_map {α β : Type} (f : α → β) : ∀ (l : List α) (j : Nat), (l.map f).eraseIdx j = (l.eraseIdx j).map f
  | [], _ => rfl
  | _ :: _, 0 => rfl
  | a :: l, j + 1 => by
    show f a :: (l.map f).eraseIdx j = f a :: (l.eraseIdx j).map f
    rw [erase_map f l j]
theorem erase_perm {α : Type} : ∀ (l : List α) (j : Nat) (h : j < l.length), (l[j] :: l.eraseIdx j).Perm l
  | [], j, h => absurd h (Nat.not_lt_zero _)
  | a :: l, 0, _ => List.Perm.refl _
  | a :: l, j + 1, h => by
    have hl : j < l.length := Nat.lt_of_succ_lt_succ h
    have ih := erase_perm l j hl
    show (l[j] :: a :: l.eraseIdx j).Perm (a :: l)
    exact (List.Perm.swap a l[j] (l.eraseIdx j)).trans (List.Perm.cons a ih)
end Ly

set_option maxHeartbeats 4000000
namespace Ly
open PySem PySem.Spec PyProof.Rows L2 SX

/-! ### list(text) -/
def sgV (l : List Nat) : List V := l.map fun c => Tx [c]
section
variable {X : Cx}
def rListT : List V → Hp → VK → Prop := fun xs H Q => ∃ l : List Nat, xs = [Tx l] ∧ l.length ≤ 100000 ∧ ∀ p, H p = none → Q (.ref p) (upd H p (.lst (sgV l)))
theorem vals_signs {l : List Nat} {acc : Array Value} (h : ItemsOf (SignAt (S l)) acc (S l).cps.size) : Vals (sgV l) acc.toList := by
  have hsz : acc.size = l.length := by rw [h.1]; simp
  have key : ∀ (l2 : List Nat) (us : List Value), us.length = l2.length → (∀ j, j < l2.length → ∃ c u, l2[j]? = some c ∧ us[j]? = some (.str ⟨#[c]⟩ u)) → Vals (sgV l2) us := by
    intro l2
    induction l2 with
    | nil =>
      intro us hl _
      cases us with
      | nil => exact .nil
      | cons a b => simp at hl
    | cons c l2 ih =>
      intro us hl hj
      cases us with
      | nil => simp at hl
      | cons a b =>
        obtain ⟨c', u, e1, e2⟩ := hj 0 (by simp)
        simp at e1 e2
        subst e1 e2
        refine .cons ⟨u, rfl⟩ (ih b (by simpa using hl) fun j hlt => ?_)
        obtain ⟨c2, u2, e3, e4⟩ := hj (j + 1) (by simp; omega)
        exact ⟨c2, u2, by simpa using e3, by simpa using e4⟩
  refine key l acc.toList (by simpa using hsz) fun j hj => ?_
  have hj2 : j < acc.size := by omega
  obtain ⟨c, u, e1, e2⟩ := h.2 j acc[j] (by simp [hj2])
  refine ⟨c, u, by simpa using e1, ?_⟩
  rw [← e2]
  simp [hj2]
theorem call_listT (hc : X.calm = true) : CallR X (.type "list") rListT := by
  intro pins s σ H xs us Q I r h
  obtain ⟨l, rfl, hl, q⟩ := h
  obtain ⟨u, rfl, t, rfl⟩ := vals1 r
  have hs : (S l).cps.size ≤ sizeLine := by
    have e : (S l).cps.size = l.length := by simp
    rw [e]
    exact Nat.le_trans hl (by decide)
  refine call_list_str (I.ok.hd hc) (S l) t (fun h' tk acc c' kp e it => ?_) hs
  refine ⟨.ref s.heap.objs.size, _, I.laid (t' := tk) kp (Nat.le_refl _) (show ObjOk X.prog X.w _ h' _ (.lst (sgV l)) from ⟨?_, acc.toList, c', vals_signs it, by simpa using e⟩), rfl, q _ (I.hok.fresh (Nat.le_refl _))⟩
  unfold sgV
  rw [List.length_map]
  exact Nat.le_trans hl (by decide)

/-! ### joins of texts -/
def rJoinT (K : PySem.W.Frag) : V → List V → Hp → VK → Prop := fun x xs H Q => ∃ (a : List Nat) (p : Addr) (ps : List (List Nat)), x = Tx a ∧ xs = [.ref p] ∧ SqL K H p (ps.map Tx) ∧ (ps.map (·.length)).sum + ps.length * a.length ≤ 100000 ∧ Q (Tx (TL.joinL a ps)) H
theorem mt_joinT : MtR X "str.join" (rJoinT X.K) := fun pins s σ H x xs v us Q I rx rs h => by
  obtain ⟨a, p, ps, h1, h2, h3, h4, q⟩ := h
  refine mt_join pins s σ H x xs v us Q I rx rs ⟨S a, p, ps.map S, h1, h2, .inl ?_, ?_, ?_⟩
  · rw [List.map_map]
    exact h3
  · rw [lens, List.length_map, S_len]
    exact Nat.le_trans h4 (by decide)
  · rw [join_S]
    exact q

/-! ### text * n -/
def repT (n : Nat) (l : List Nat) : List Nat := (List.replicate n l).flatten
theorem fold_cat (n : Nat) (x : Array Nat) : ∀ acc : Array Nat, ((List.replicate n x).foldl (· ++ ·) acc).toList = acc.toList ++ repT n x.toList := by
  induction n with
  | zero => intro acc; simp [repT]
  | succ n ih =>
    intro acc
    rw [List.replicate_succ, List.foldl_cons, ih]
    simp [repT, List.replicate_succ]
theorem mul_S (l : List Nat) (n : Nat) : Txt.mul (S l) (n : Int) = S (repT n l) := by
  refine TL.ext_tl ?_
  show (Txt.mul (S l) (n : Int)).cps.toList = repT n l
  unfold Txt.mul
  by_cases h1 : (n : Int) < 1
  · rw [if_pos h1]
    have : n = 0 := by omega
    subst this
    rfl
  · rw [if_neg h1]
    by_cases h2 : ((n : Int) == 1 || (S l).length == 0) = true
    · rw [if_pos h2]
      rw [Bool.or_eq_true] at h2
      rcases h2 with h2 | h2
      · have : n = 1 := by
          have := eq_of_beq h2
          omega
        subst this
        simp [repT]
      · have : l = [] := by
          have := eq_of_beq h2
          rw [S_len] at this
          exact List.eq_nil_of_length_eq_zero this
        subst this
        simp [repT]
    · rw [if_neg h2]
      show ((List.replicate (n : Int).toNat (S l).cps).foldl (· ++ ·) #[]).toList = _
      rw [Int.toNat_natCast, fold_cat]
      rfl
theorem repT_len (n : Nat) (l : List Nat) : (repT n l).length = n * l.length := by
  unfold repT
  simp
def rMulT : R2 := fun x y H Q => ∃ (l : List Nat) (n : Nat), x = Tx l ∧ y = .int (n : Int) ∧ n ≤ 100000 ∧ n * l.length ≤ 100000 ∧ Q (Tx (repT n l)) H
theorem op_mulT : OpR X (binaryOp .Mult) rMulT := fun pins s σ H x y v u Q I rx ry h => by
  obtain ⟨l, n, rfl, rfl, hn, hl, q⟩ := h
  obtain ⟨t, rfl⟩ := rx
  obtain ⟨t', rfl⟩ := ry
  refine SB.mul ⟨?_, ?_, ?_⟩ fun t'' k => ⟨Tx (repT n l), H, I.tok _, ⟨t'', by rw [mul_S]⟩, q⟩
  · have e1 : decide ((n : Int) < -(2 ^ 63 : Int)) = false := decide_eq_false (by omega)
    have e2 : decide ((n : Int) ≥ 2 ^ 63) = false := decide_eq_false (by omega)
    rw [e1, e2]
    rfl
  · intro h1 _
    rw [S_len]
    have h2 : (0 : Int) < n := by omega
    have h3 : (l.length : Int) * n ≤ 100000 := by
      have : ((n * l.length : Nat) : Int) ≤ 100000 := by omega
      rw [Int.natCast_mul, Int.mul_comm] at this
      exact this
    have h4 : (l.length : Int) ≤ (2 ^ 63 - 1) / n := by
      rw [Int.le_ediv_iff_mul_le h2]
      omega
    omega
  · intro _ _
    rw [S_len, Int.toNat_natCast, Nat.mul_comm]
    exact decide_eq_false (Nat.not_lt.mpr (Nat.le_trans hl (by decide)))
end

/-! ### enumerate(text) -/
def IteS (x : Str) : It := ⟨fun i _ => i < x.cps.size, fun i H v H' => ∃ T c, v = .ref T ∧ H T = none ∧ H' = upd H T (.tup [.int (i : Nat), .str ⟨#[c]⟩]) ∧ x.cps[i]? = some c, fun i _ => i = x.cps.size⟩
theorem turn_enumS {P : Program} {w : World} {K : PySem.W.Frag} {elts : List Expr} {kk : Nat} {tpos : Pos} (x : Str) (t : Tok) (e it : Addr) :
    Turn P w K (.Tuple elts kk tpos) (IteS x) [e, it] e (fun i h => (∃ old, IsEnum h e it ((i : Nat) : Int) old) ∧ h.IsStrIter it (strIterType x) x t i ∧ e ≠ it) where
  mem := by simp
  obj := fun i h st b hb => by
    obtain ⟨⟨old, he⟩, ⟨o, ho, hc, hd⟩, _⟩ := st
    have e' : b = e ∨ b = it := by simpa using hb
    rcases e' with z | z
    · rw [z]; exact ⟨_, he, fun v q => nomatch q⟩
    · rw [z]; exact ⟨o, ho, fun v q => by rw [hd] at q; cases q⟩
  keep := fun i h h' st k => let ⟨⟨old, he⟩, ⟨o, ho, r⟩, hne⟩ := st; ⟨⟨old, k e (by simp) _ he⟩, ⟨o, k it (by simp) o ho, r⟩, hne⟩
  item := by
    intro X hP hw hK hc i pins s σ H E I hf st hg
    subst hP hw hK
    obtain ⟨⟨old, he⟩, hit, hne⟩ := st
    have hel : e < s.heap.objs.size := Heap.lt_size he
    have hil : it < s.heap.objs.size := by obtain ⟨_, q, _⟩ := hit; exact Heap.lt_size q
    refine wpAny_pyNext_enum_itemD (Draws.text (A := X.A.in1) (I.ok.hd hc) it x t) he hit hg hne (by simpa using hne) fun u h' tk hP ho hit' hT hsz hk => ?_
    obtain ⟨c, tu, hcx, rfl⟩ := hP
    refine ⟨_, rfl, wpAny_letOwnedTupleGo_enum (s := { s with heap := h', toks := tk + 1 }) ho fun h'' he' sb => ?_⟩
    have hT2 : h''.get? s.heap.objs.size = some { cls := .type "tuple", data := .seq #[.int i tk, .str ⟨#[c]⟩ tu] } := (sb.2 _ (Nat.ne_of_gt hel)).trans hT
    have new : ObjOk X.prog X.w (upd H s.heap.objs.size (.tup [.int (i : Nat), .str ⟨#[c]⟩])) h'' s.heap.objs.size (.tup [.int (i : Nat), .str ⟨#[c]⟩]) :=
      ⟨by show 2 ≤ sizeLine; decide, [.int i tk, .str ⟨#[c]⟩ tu], .cons ⟨_, rfl⟩ (.cons ⟨_, rfl⟩ .nil), ⟨_, hT2, rfl, _, rfl⟩⟩
    have I1 : Inv X pins σ (upd H s.heap.objs.size (.tup [.int (i : Nat), .str ⟨#[c]⟩])) { s with heap := h'', toks := tk + 1 } :=
      I.turnedNew (ch := [e, it]) (fun b ob hb q => (sb.2 b (fun z => hb (by simp [z]))).trans (hk b ob (fun z => hb (by simp [z])) (fun z => hb (by simp [z])) q)) hf (Nat.le_refl _) new
    refine ⟨.ref s.heap.objs.size, _, I1, rfl, ⟨_, c, rfl, I.hok.fresh (Nat.le_refl _), rfl, hcx⟩, ⟨⟨.str ⟨#[c]⟩ tu, ?_⟩, ?_, hne⟩, fun b hb => ?_⟩
    · have e1 : ((i + 1 : Nat) : Int) = (i : Int) + 1 := by omega
      rw [e1]; exact he'
    · obtain ⟨o, ho', r⟩ := hit'
      exact ⟨o, (sb.2 it (Ne.symm hne)).trans ho', r⟩
    · have hb' : b < s.heap.objs.size := by
        have e' : b = e ∨ b = it := by simpa using hb
        rcases e' with z | z
        · rw [z]; exact hel
        · rw [z]; exact hil
      rw [upd_ne (Nat.ne_of_lt hb')]
      exact (hf b hb).1
  done := by
    intro X hP hw hK hc i pins s σ H E I hf st hg
    subst hP hw hK
    obtain ⟨⟨old, he⟩, hit, hne⟩ := st
    obtain ⟨f0, f1, f2, f3, f4, f5⟩ := hf it (by simp)
    have hg2 : i = x.cps.size := hg
    subst hg2
    exact wpAny_pyNext_enum_endD (Draws.text (A := X.A.in1) (I.ok.hd hc) it x t) he hit fun h' eb => ⟨rfl, I.turned (t' := s.toks) (fun b o hb q => eb b o hb q) f0 f1 f3 f4 f5⟩
  self := fun A i s Q E st h => let ⟨⟨_, he⟩, _⟩ := st; wpAny_pyIter_enum he h
def iEnumS (ta : TA) : TI := fun σ H R => ta σ H fun vs H1 => ∃ l : List Nat, vs = [Tx l] ∧ R (IteS (S l)) H1
theorem pi_enumS {X : Cx} {e : Expr} {ta : TA} {p pos tpos : Pos} {elts : List Expr} {kk : Nat} (hg : Gl X "enumerate") (hm : X.mg "enumerate" = none) (ha : PA X [e] ta) (hs : starEach [e] X.env = [(false, eval e X.env)] := by rfl) :
    PI X (.Tuple elts kk tpos) (.Call (.Name "enumerate" p) [e] [] pos) (iEnumS ta) := by
  refine ⟨fun pins s σ H R I h => ?_⟩
  refine Call_ (ld_blt I hg hm boot_enumerate (PyProof.Rows.callWith_type1 (thn (ha.run pos pins s σ H _ I h) fun us s1 ⟨vs, H1, I1, r1, q1⟩ => ?_) hs rfl))
  obtain ⟨l, ex, q⟩ := q1
  subst ex
  obtain ⟨u, rfl, t, rfl⟩ := vals1 r1
  refine call_enumerate_str fun h' he hit hsz hk => wpAny_pyIter_enum he ?_
  have I2 : Inv X pins σ H1 { s1 with heap := h' } := I1.kept (t' := s1.toks) hk
  refine ⟨s1.heap.objs.size + 1, [s1.heap.objs.size + 1, s1.heap.objs.size], _, _, H1, rfl, I2, turn_enumS (S l) t (s1.heap.objs.size + 1) s1.heap.objs.size, ⟨⟨.none, he⟩, hit, Nat.succ_ne_self _⟩, fun b hb => ?_, q⟩
  have e' : b = s1.heap.objs.size + 1 ∨ b = s1.heap.objs.size := by simpa using hb
  have hle : s1.heap.objs.size ≤ b := by
    rcases e' with z | z
    · rw [z]; exact Nat.le_add_right _ _
    · rw [z]; exact Nat.le_refl _
  exact I1.fpOk hle (I1.hok.fresh hle)
theorem walk_enumS {l : List Nat} : Walk (IteS (S l)) l.length (fun _ => True) (fun i H v H' => ∃ T c, v = .ref T ∧ H T = none ∧ H' = upd H T (.tup [.int (i : Nat), Tx [c]]) ∧ l[i]? = some c) :=
  ⟨fun _ _ hi _ => by show _ < (S l).cps.size; simpa using hi, fun _ _ => by show _ = (S l).cps.size; simp, fun i _ _ _ _ _ y => by
    obtain ⟨T, c, h1, h2, h3, h4⟩ := y
    exact ⟨T, c, h1, h2, h3, by simpa using h4⟩⟩
section
variable {K : PySem.W.Frag} {σ : L2.St} {H : Hp} {g : TG} {tb : TS} {D : Ends} {l : List Nat} {xs : List V} {a : Addr}
/-- for i, c in enumerate(text), by what is gone through -/
theorem for_enumS (Pv : List Nat → L2.St → Hp → Prop) (h0 : Pv [] σ H)
    (hs : ∀ pre c post σ H t H1, l = pre ++ c :: post → Pv pre σ H → H t = none → Same H H1 → H1 t = some (.tup [.int pre.length, Tx [c]]) → g (.ref t) σ H1 fun σ2 H2 => tb { D with nx := Pv (pre ++ [c]), ct := Pv (pre ++ [c]), bk := D.nx } σ2 H2) (hd : ∀ σ H, Pv l σ H → D.nx σ H) : ForR (IteS (S l)) g tb D σ H := by
  refine for_it (walk_enumS (l := l)) (fun i σ H => Pv (l.take i) σ H) (by simpa using h0) (fun _ _ _ _ _ => trivial) (fun i v σ H H' hi p y => ?_) (fun σ H p => hd σ H (by simpa using p))
  obtain ⟨t, c, rfl, nt, rfl, e2⟩ := y
  obtain ⟨e, e3⟩ := cut_at e2
  have z := hs (l.take i) c (l.drop (i + 1)) σ H t _ e3 p nt (Same.new nt) (by
    rw [upd_same, List.length_take, Nat.min_eq_left (Nat.le_of_lt hi)])
  rw [← e] at z
  exact z
/-! readings -/
variable {Q : VK} {p : Addr} {m : List Nat} {n : Nat}
theorem g_listT (h : l.length ≤ 100000) (q : ∀ p H1, H p = none → Same H H1 → H1 p = some (.lst (sgV l)) → Q (.ref p) H1) : rListT [Tx l] H Q := ⟨l, rfl, h, g_new q⟩
theorem g_joinT {ps : List (List Nat)} (h : SqL K H p (ps.map Tx)) (hl : (ps.map (·.length)).sum + ps.length * m.length ≤ 100000) (q : Q (Tx (TL.joinL m ps)) H) : rJoinT K (Tx m) [.ref p] H Q := ⟨m, p, ps, rfl, rfl, h, hl, q⟩
theorem g_mulT (h : n ≤ 100000) (h2 : n * l.length ≤ 100000) (q : Q (Tx (repT n l)) H) : rMulT (Tx l) (.int (n : Int)) H Q := ⟨l, n, rfl, rfl, h, h2, q⟩
theorem joinL_nil : ∀ ps : List (List Nat), TL.joinL [] ps = ps.flatten
  | [] => rfl
  | [p] => by simp [TL.joinL]
  | p :: q :: r => by
    show p ++ ([] ++ TL.joinL [] (q :: r)) = _
    rw [joinL_nil (q :: r)]
    simp
/-- ''.join of signs -/
theorem g_join0 (h : SqL K H p (sgV l)) (hl : l.length ≤ 100000) (q : Q (Tx l) H) : rJoinT K (Tx []) [.ref p] H Q := by
  refine g_joinT (ps := l.map fun c => [c]) ?_ ?_ ?_
  · rw [List.map_map]
    exact h
  · rw [List.map_map]
    have : ((fun x : List Nat => x.length) ∘ fun c : Nat => [c]) = fun _ => 1 := rfl
    rw [this]
    have e : ∀ l : List Nat, (l.map fun _ => 1).sum = l.length := by
      intro l
      induction l with
      | nil => rfl
      | cons c l ih => simp [ih]; omega
    rw [e]
    simpa using hl
  · rw [joinL_nil]
    have : ∀ l : List Nat, (l.map fun c => [c]).flatten = l := by
      intro l
      induction l with
      | nil => rfl
      | cons c l ih => simp [ih]
    rw [this]
    exact q
end

/-! ### an if whose test is told once -/
def tIfC (c : TT) (t u : TS) : TS := tIfS c t u
theorem ps_ifC {X : Cx} {pos : Pos} {c : Expr} {a b : List Stmt} {tc : TT} {t u : TS} (hc : PT X c tc) (ha : PSs X a t) (hb : PSs X b u) : PS X (.If c a b pos) (tIfC tc t u) := ps_if hc ha hb
/-- the test c comes out as b and leaves the heap -/
def Tst (c : TT) (σ : L2.St) (H : Hp) (b : Bool) : Prop := ∀ Q : Bool → Hp → Prop, Q b H → c σ H Q
theorem g_ifC {c : TT} {t u : TS} {D : Ends} {σ : L2.St} {H : Hp} {b : Bool} (hA : Tst c σ H b) (h1 : b = true → t D σ H) (h2 : b = false → u D σ H) : tIfC c t u D σ H := by
  refine hA _ ?_
  cases b with
  | true => exact h1 rfl
  | false => exact h2 rfl
/-- the test changes the heap as G says -/
def TstH (c : TT) (σ : L2.St) (H : Hp) (b : Bool) (G : Hp → Prop) : Prop := ∀ Q : Bool → Hp → Prop, (∀ H1, G H1 → Q b H1) → c σ H Q
theorem g_ifH {c : TT} {t u : TS} {D : Ends} {σ : L2.St} {H : Hp} {b : Bool} {G : Hp → Prop} (hA : TstH c σ H b G) (h1 : ∀ H1, G H1 → b = true → t D σ H1) (h2 : ∀ H1, G H1 → b = false → u D σ H1) : tIfC c t u D σ H := by
  refine hA _ fun H1 g => ?_
  cases b with
  | true => exact h1 H1 g rfl
  | false => exact h2 H1 g rfl
/-! ### while -/
section
variable {c : TT} {tb : TS} {D : Ends} {σ : L2.St} {H : Hp}
def WhB (tb : TS) (D : Ends) (W : Nat → L2.St → Hp → Prop) (m : Nat) (σ : L2.St) (H : Hp) : Prop := ∃ N : L2.St → Hp → Prop, (∀ σ' H', N σ' H' → ∃ m', m' < m ∧ W m' σ' H') ∧ tb { D with nx := N, ct := N, bk := D.nx } σ H
theorem g_while (W : Nat → L2.St → Hp → Prop) (m : Nat) (h0 : W m σ H) (hs : ∀ m σ H, W m σ H → c σ H fun b H1 => if b = true then WhB tb D W m σ H1 else D.nx σ H1) : tWhile c tb D σ H := ⟨W, ⟨m, h0⟩, hs⟩
theorem g_whb {W : Nat → L2.St → Hp → Prop} {m : Nat} (q : tb { D with nx := fun σ' H' => ∃ m', m' < m ∧ W m' σ' H', ct := fun σ' H' => ∃ m', m' < m ∧ W m' σ' H', bk := D.nx } σ H) : WhB tb D W m σ H := ⟨_, fun _ _ h => h, q⟩
end
/-! ### data: == and != -/
def txD (l : List Nat) : PyData := .str (S l)
section
variable {K : PySem.W.Frag} {H : Hp} {Q : VK} {p a : Addr} {X : Cx}
theorem dp_txs : ∀ ps : List (List Nat), DpAll K H (ps.map Tx) (ps.map txD)
  | [] => .nil
  | l :: ps => .cons (.str _) (dp_txs ps)
theorem can_tx {l : List Nat} (h : ∀ c ∈ l, c < 1114112) : PyData.canLay0 (txD l) = true := by
  show PyData.strOk (S l) = true
  unfold PyData.strOk
  rw [← Array.all_toList]
  exact List.all_eq_true.mpr fun c hc => decide_eq_true (h c hc)
theorem can_txs : ∀ ps : List (List Nat), (∀ l ∈ ps, ∀ c ∈ l, c < 1114112) → PyData.canLayAll0 (ps.map txD) = true
  | [], _ => rfl
  | l :: ps, h => by
    show (PyData.canLay0 (txD l) && PyData.canLayAll0 (ps.map txD)) = true
    rw [can_tx (h l (List.mem_cons_self ..)), can_txs ps fun m hm => h m (List.mem_cons_of_mem _ hm)]
    rfl
theorem depth_txs : ∀ ps : List (List Nat), PyData.depthAll (ps.map txD) = 0
  | [] => rfl
  | l :: ps => by
    show max 0 (PyData.depthAll (ps.map txD)) = 0
    rw [depth_txs ps]
    rfl
theorem shaped_txs {ps : List (List Nat)} (h : ∀ l ∈ ps, ∀ c ∈ l, c < 1114112) : SeqAt.shaped (.list (ps.map txD)) = true := by
  unfold SeqAt.shaped
  rw [show PyData.canLay0 (.list (ps.map txD)) = PyData.canLayAll0 (ps.map txD) from rfl, can_txs ps h, show PyData.depth (.list (ps.map txD)) = PyData.depthAll (ps.map txD) + 1 from rfl, depth_txs]
  rfl
theorem g_neNilT {ps : List (List Nat)} (h : SqL K H p (ps.map Tx)) (hc : ∀ l ∈ ps, ∀ c ∈ l, c < 1114112) (h2 : SqL K H a []) (q : Q (.bl (!decide (ps = []))) H) : rNeD K (.ref p) (.ref a) H Q := by
  refine ⟨.list (ps.map txD), .list [], .lst h (dp_txs ps), .lst h2 .nil, shaped_txs hc, rfl, ?_⟩
  have e : PyData.eqv (.list (ps.map txD)) (.list []) = decide (ps = []) := by
    cases ps with
    | nil => rfl
    | cons l ps => rfl
  rw [e]
  exact q
theorem sgV_eq (l : List Nat) : sgV l = (l.map fun c => [c]).map Tx := by
  unfold sgV
  rw [List.map_map]
  rfl
/-- a list of signs against [] -/
theorem g_neNilS {l : List Nat} (h : SqL K H p (sgV l)) (hc : ∀ c ∈ l, c < 1114112) (h2 : SqL K H a []) (q : Q (.bl (!decide (l = []))) H) : rNeD K (.ref p) (.ref a) H Q := by
  rw [sgV_eq] at h
  refine g_neNilT h (fun m hm c hcm => ?_) h2 ?_
  · obtain ⟨d, hd, rfl⟩ := List.mem_map.mp hm
    rw [List.mem_singleton] at hcm
    subst hcm
    exact hc _ hd
  · have e : ((l.map fun c => [c]) = []) ↔ l = [] := by simp
    rw [decide_eq_decide.mpr e]
    exact q
end
theorem sgV_snoc (l : List Nat) (c : Nat) : sgV (l ++ [c]) = sgV l ++ [Tx [c]] := by
  unfold sgV
  rw [List.map_append]
  rfl
theorem sgV_rev (l : List Nat) : (sgV l).reverse = sgV l.reverse := by
  unfold sgV
  rw [List.map_reverse]
theorem sgV_len (l : List Nat) : (sgV l).length = l.length := by
  unfold sgV
  rw [List.length_map]

section
variable {K : PySem.W.Frag} {H : Hp} {Q : VK} {p a : Addr} {xs : List V} {v : V} {i : Nat}
theorem g_popAt (h : H p = some (.lst xs)) (hi : xs[i]? = some v) (hl : xs.length ≤ 100000) (q : ∀ H1, But p H H1 → H1 p = some (.lst (xs.eraseIdx i)) → Q v H1) : rPopAt (.ref p) [.int (i : Int)] H Q := by
  obtain ⟨hlt, _⟩ := List.getElem?_eq_some_iff.mp hi
  refine ⟨p, xs, i, i, v, rfl, rfl, h, by omega, by omega, ?_, hi, q _ But.set upd_same⟩
  unfold seqIndex?
  simp
  omega
theorem g_isi {x : V} {t u : String} {b : Bool} (ty : TyX K H x (.type t)) (h : kitB t u = some b) (q : Q (.bl b) H) : rIsi K [x, .ty u] H Q := ⟨x, .ty u, .type t, .type u, b, rfl, .ty u, ty, kit_ty h, q⟩
theorem ty_str {x : Str} : TyX K H (.str x) (.type "str") := .base (.str x)
theorem ty_int {n : Int} : TyX K H (.int n) (.type "int") := .base (.int n)
theorem ty_bl {b : Bool} : TyX K H (.bl b) (.type "bool") := .base (.bl b)
theorem ty_lst (h : H p = some (.lst xs)) : TyX K H (.ref p) (.type "list") := .base (.lst h)
theorem ty_tup (h : H p = some (.tup xs)) : TyX K H (.ref p) (.type "tuple") := .base (.tup h)
theorem cut_ints (ns : List Int) (lo hi : Option Int) : ∃ ms : List Int, cutV (ns.map V.int) lo hi = ms.map V.int ∧ ms.length ≤ ns.length := by
  unfold cutV
  refine ⟨(ns.drop (HT.sIx (ns.map V.int).length 0 lo)).take (HT.sIx (ns.map V.int).length (ns.map V.int).length hi - HT.sIx (ns.map V.int).length 0 lo), ?_, ?_⟩
  · rw [List.map_take, List.map_drop]
  · rw [List.length_take, List.length_drop]
    omega
theorem find_no {l : List Nat} {c : Nat} (h : c ∉ l) : Txt.find (S l) (S [c]) = -1 := by
  have e := in_one l c
  rw [decide_eq_false h] at e
  unfold Txt.find
  cases ho : Builtin.Str.occurrences (S l) (S [c]) 0 (S l).length 1 with
  | nil => rfl
  | cons a b =>
    rw [ho] at e
    cases e
theorem mid_at {α : Type} {xs pre post : List α} {x : α} (e : xs = pre ++ x :: post) : xs[pre.length]? = some x := by
  rw [e]
  simp
end
end Ly

set_option maxHeartbeats 4000000
namespace K03
open PySem PySem.Spec PyProof.Rows L2 SX Ly
def topS (i : Nat) : Stmt := PySem.Challenge.pw_nestmend_k03_turned_about_and_in_kinds.main.body.getD i (.Pass ⟨0, 0, 0, 0⟩)
abbrev s_kind_of : Stmt := topS 4
abbrev N_kind_of : List Str := ["bracket"]
theorem st_kind_of (v0 : V) : L2.start N_kind_of [v0] = [some v0] := rfl
theorem sc_kind_of : FnScope N_kind_of ["bracket"] (defScope s_kind_of) := ⟨rfl, rfl, rfl, by decide +kernel, rfl, by decide +kernel, by decide +kernel⟩
abbrev s_other_side : Stmt := topS 5
abbrev N_other_side : List Str := ["bracket"]
theorem st_other_side (v0 : V) : L2.start N_other_side [v0] = [some v0] := rfl
theorem sc_other_side : FnScope N_other_side ["bracket"] (defScope s_other_side) := ⟨rfl, rfl, rfl, by decide +kernel, rfl, by decide +kernel, by decide +kernel⟩
abbrev s_turned_about : Stmt := topS 6
abbrev N_turned_about : List Str := ["text", "found", "sign"]
theorem st_turned_about (v0 : V) : L2.start N_turned_about [v0] = [some v0, none, none] := rfl
theorem sc_turned_about : FnScope N_turned_about ["text"] (defScope s_turned_about) := ⟨rfl, rfl, rfl, by decide +kernel, rfl, by decide +kernel, by decide +kernel⟩
abbrev s_in_kinds : Stmt := topS 7
abbrev N_in_kinds : List Str := ["text", "order", "found", "sign"]
theorem st_in_kinds (v0 v1 : V) : L2.start N_in_kinds [v0, v1] = [some v0, some v1, none, none] := rfl
theorem sc_in_kinds : FnScope N_in_kinds ["text", "order"] (defScope s_in_kinds) := ⟨rfl, rfl, rfl, by decide +kernel, rfl, by decide +kernel, by decide +kernel⟩
abbrev s_law_mixed : Stmt := topS 9
abbrev N_law_mixed : List Str := ["cell", "k", "number"]
theorem st_law_mixed (v0 v1 : V) : L2.start N_law_mixed [v0, v1] = [some v0, some v1, none] := rfl
theorem sc_law_mixed : FnScope N_law_mixed ["cell", "k"] (defScope s_law_mixed) := ⟨rfl, rfl, rfl, by decide +kernel, rfl, by decide +kernel, by decide +kernel⟩
abbrev s_law_pot : Stmt := topS 10
abbrev N_law_pot : List Str := ["cell"]
theorem st_law_pot (v0 : V) : L2.start N_law_pot [v0] = [some v0] := rfl
theorem sc_law_pot : FnScope N_law_pot ["cell"] (defScope s_law_pot) := ⟨rfl, rfl, rfl, by decide +kernel, rfl, by decide +kernel, by decide +kernel⟩
abbrev s_law_take : Stmt := topS 11
abbrev N_law_take : List Str := ["pot", "many", "told"]
theorem st_law_take (v0 v1 : V) : L2.start N_law_take [v0, v1] = [some v0, some v1, none] := rfl
theorem sc_law_take : FnScope N_law_take ["pot", "many"] (defScope s_law_take) := ⟨rfl, rfl, rfl, by decide +kernel, rfl, by decide +kernel, by decide +kernel⟩
abbrev s_law_sign : Stmt := topS 12
abbrev N_law_sign : List Str := ["pot", "way"]
theorem st_law_sign (v0 : V) : L2.start N_law_sign [v0] = [some v0, none] := rfl
theorem sc_law_sign : FnScope N_law_sign ["pot"] (defScope s_law_sign) := ⟨rfl, rfl, rfl, by decide +kernel, rfl, by decide +kernel, by decide +kernel⟩
abbrev s_law_clean : Stmt := topS 13
abbrev N_law_clean : List Str := ["pot", "most", "text", "waiting", "shape", "left", "way", "k"]
theorem st_law_clean (v0 v1 : V) : L2.start N_law_clean [v0, v1] = [some v0, some v1, none, none, none, none, none, none] := rfl
theorem sc_law_clean : FnScope N_law_clean ["pot", "most"] (defScope s_law_clean) := ⟨rfl, rfl, rfl, by decide +kernel, rfl, by decide +kernel, by decide +kernel⟩
abbrev s_law_bent : Stmt := topS 14
abbrev N_law_bent : List Str := ["pot", "text", "at", "way", "to", "signs"]
theorem st_law_bent (v0 v1 : V) : L2.start N_law_bent [v0, v1] = [some v0, some v1, none, none, none, none] := rfl
theorem sc_law_bent : FnScope N_law_bent ["pot", "text"] (defScope s_law_bent) := ⟨rfl, rfl, rfl, by decide +kernel, rfl, by decide +kernel, by decide +kernel⟩
abbrev s_law_long : Stmt := topS 15
abbrev N_law_long : List Str := ["pot", "k"]
theorem st_law_long (v0 v1 : V) : L2.start N_law_long [v0, v1] = [some v0, some v1] := rfl
theorem sc_law_long : FnScope N_law_long ["pot", "k"] (defScope s_law_long) := ⟨rfl, rfl, rfl, by decide +kernel, rfl, by decide +kernel, by decide +kernel⟩
abbrev s_law_text : Stmt := topS 16
abbrev N_law_text : List Str := ["pot", "most", "way", "text", "k"]
theorem st_law_text (v0 v1 : V) : L2.start N_law_text [v0, v1] = [some v0, some v1, none, none, none] := rfl
theorem sc_law_text : FnScope N_law_text ["pot", "most"] (defScope s_law_text) := ⟨rfl, rfl, rfl, by decide +kernel, rfl, by decide +kernel, by decide +kernel⟩
abbrev s_law_from_behind : Stmt := topS 17
abbrev N_law_from_behind : List Str := ["text", "found", "sign", "at"]
theorem st_law_from_behind (v0 : V) : L2.start N_law_from_behind [v0] = [some v0, none, none, none] := rfl
theorem sc_law_from_behind : FnScope N_law_from_behind ["text"] (defScope s_law_from_behind) := ⟨rfl, rfl, rfl, by decide +kernel, rfl, by decide +kernel, by decide +kernel⟩
abbrev s_law_by : Stmt := topS 18
abbrev N_law_by : List Str := ["text", "order", "found", "sign"]
theorem st_law_by (v0 v1 : V) : L2.start N_law_by [v0, v1] = [some v0, some v1, none, none] := rfl
theorem sc_law_by : FnScope N_law_by ["text", "order"] (defScope s_law_by) := ⟨rfl, rfl, rfl, by decide +kernel, rfl, by decide +kernel, by decide +kernel⟩
abbrev s_law_order : Stmt := topS 19
abbrev N_law_order : List Str := ["number", "left", "found", "many"]
theorem st_law_order (v0 : V) : L2.start N_law_order [v0] = [some v0, none, none, none] := rfl
theorem sc_law_order : FnScope N_law_order ["number"] (defScope s_law_order) := ⟨rfl, rfl, rfl, by decide +kernel, rfl, by decide +kernel, by decide +kernel⟩
abbrev s_law_right : Stmt := topS 20
abbrev N_law_right : List Str := ["text", "order", "found", "due"]
theorem st_law_right (v0 v1 : V) : L2.start N_law_right [v0, v1] = [some v0, some v1, none, none] := rfl
theorem sc_law_right : FnScope N_law_right ["text", "order"] (defScope s_law_right) := ⟨rfl, rfl, rfl, by decide +kernel, rfl, by decide +kernel, by decide +kernel⟩
abbrev s_law : Stmt := topS 21
abbrev N_law : List Str := ["script", "k", "cell", "pot", "text", "number"]
theorem st_law (v0 : V) : L2.start N_law [v0] = [some v0, none, none, none, none, none] := rfl
theorem sc_law : FnScope N_law ["script"] (defScope s_law) := ⟨rfl, rfl, rfl, by decide +kernel, rfl, by decide +kernel, by decide +kernel⟩
structure Facts (K : PySem.W.Frag) (mg : Str → Option Value) : Prop where
  f_kind_of : DefAt K mg "kind_of" s_kind_of ["bracket"]
  f_other_side : DefAt K mg "other_side" s_other_side ["bracket"]
  f_turned_about : DefAt K mg "turned_about" s_turned_about ["text"]
  f_in_kinds : DefAt K mg "in_kinds" s_in_kinds ["text", "order"]
  f_law_mixed : DefAt K mg "_law_mixed" s_law_mixed ["cell", "k"]
  f_law_pot : DefAt K mg "_law_pot" s_law_pot ["cell"]
  f_law_take : DefAt K mg "_law_take" s_law_take ["pot", "many"]
  f_law_sign : DefAt K mg "_law_sign" s_law_sign ["pot"]
  f_law_clean : DefAt K mg "_law_clean" s_law_clean ["pot", "most"]
  f_law_bent : DefAt K mg "_law_bent" s_law_bent ["pot", "text"]
  f_law_long : DefAt K mg "_law_long" s_law_long ["pot", "k"]
  f_law_text : DefAt K mg "_law_text" s_law_text ["pot", "most"]
  f_law_from_behind : DefAt K mg "_law_from_behind" s_law_from_behind ["text"]
  f_law_by : DefAt K mg "_law_by" s_law_by ["text", "order"]
  f_law_order : DefAt K mg "_law_order" s_law_order ["number"]
  f_law_right : DefAt K mg "_law_right" s_law_right ["text", "order"]
  c_OPENING : ∃ u, mg "OPENING" = some u ∧ RelV (Tx OPN) u
  c_CLOSING : ∃ u, mg "CLOSING" = some u ∧ RelV (Tx CLO) u
  c_BRACKETS : ∃ u, mg "BRACKETS" = some u ∧ RelV (Tx BRK) u
  b_len : mg "len" = none
  b_int : mg "int" = none
  b_str : mg "str" = none
  b_range : mg "range" = none
  b_enumerate : mg "enumerate" = none
  b_isinstance : mg "isinstance" = none
  b_list : mg "list" = none
end K03

set_option maxHeartbeats 4000000
namespace K03
open PySem PySem.Spec PyProof.Rows L2 SX Ly
local macro_rules | `(tactic| wtm_at "unf") => `(tactic| (try simp only [tSeq, tNext, tBreak, tCont, tDrop, tRet, tRetN, tIfS, tAsg, tAug, tC, tOp, tUn, tNil, tCons, tOwn, tCB, tTest, tB, tAnd, tOr, tNot, tAndV, tOrV, tNotV, tIf, gName, gSub, tBM, tBM0, tM0, tM1, tSl, tPart_eq, tNoPart, tLst_eq, tTup_eq, tRevL_eq, C8.tCut, wipe, tYes, gTup, gCons, gNil, List.set_cons_zero, List.set_cons_succ, if_true, if_false, Bool.false_eq_true, Bool.not_true, Bool.not_false, reduceIte, cx_K, tFor_eq, tLc_eq, iStr, iList, iTup, iRng1, iRng2, iRng3, iEnum, iZip, iEnumS]))
local macro_rules | `(tactic| wtm_at "ne") => `(tactic| first | assumption | (apply Ne.symm; assumption) | (apply ne_new; (· assumption); (· wtm_at "lk")) | (apply Ne.symm; apply ne_new; (· assumption); (· wtm_at "lk")))
local macro_rules | `(tactic| wtm_at "lk") => `(tactic| first | assumption | exact upd_same | (apply Same.get; (· assumption); (· wtm_at "lk")) | (apply But.get; (· assumption); (· wtm_at "ne"); (· wtm_at "lk")))
local macro_rules | `(tactic| wtm_at "sq") => `(tactic| first | assumption | (apply sq_of; wtm_at "lk") | (apply Same.seq; (· assumption); (· wtm_at "sq")) | (apply But.sq; (· assumption); (· wtm_at "ne"); (· wtm_at "sq")))
local macro_rules | `(tactic| wtm_at "fr") => `(tactic| first | assumption | (apply Same.fr; (· assumption); (· wtm_at "sm")) | (apply But.fr; (· assumption); (· wtm_at "sm"); (· wtm_at "ne")))
local macro_rules | `(tactic| wtm_at "sm") => `(tactic| first | exact Same.refl _ | exact But.refl | assumption | (apply Same.tr; (· assumption); (· wtm_at "sm")) | (apply Same.b0; (· assumption); (· wtm_at "sm"); (· wtm_at "fr")) | (apply But.sa; (· assumption); (· wtm_at "sm")) | (apply But.tr; (· assumption); (· wtm_at "sm")) | (apply But.b0; (· assumption); (· wtm_at "sm"); (· wtm_at "fr")) | (apply Same.toBut; wtm_at "sm"))
local macro_rules | `(tactic| wtm_at "sc") => `(tactic| first | exact Int.zero_lt_one | (show (0 : Int) < _; omega) | (show (0 : Int) < _; decide) | exact ⟨by omega, by omega⟩ | exact .inl ⟨by omega, by omega⟩ | exact .inr ⟨by omega, by omega⟩)
local macro_rules | `(tactic| wtm_at "go1") => `(tactic| first | ((with_reducible apply g_var); (· exact rfl)) | with_reducible apply g_I0 | ((with_reducible apply g_I); (· wtm_at "sc")) | with_reducible apply g_U | with_reducible apply g_ipI | ((with_reducible apply g_addT); (· first | omega | (simp; omega))) | with_reducible apply g_inT | with_reducible apply g_ninT | ((with_reducible apply g_lenT); (· omega)) | with_reducible apply g_findT1 | with_reducible apply g_str | with_reducible apply g_part | with_reducible apply g_intB | ((with_reducible apply g_ixL); (· wtm_at "sq"); (· exact rfl)) | ((with_reducible apply g_setL); (· wtm_at "lk"); (· exact rfl)) | ((with_reducible apply g_eq); (· rfl)) | ((with_reducible apply g_ne); (· rfl)))
local macro_rules | `(tactic| wtm_at "go") => `(tactic| repeat wtm_at "go1")
local macro_rules | `(tactic| wtm_at "lp") => `(tactic| skip)
local macro_rules | `(tactic| wtm_at "om") => `(tactic| first | omega | (simp; done) | (simp; omega) | (simp at *; omega))

section
variable {P : Program} {w : World} {K : PySem.W.Frag} {mg : Str → Option Value} {base : Heap}
/-- a pot: three ints, the first not below 0 -/
structure Pt where
  a : Int
  c : Int
  n : Int
  h : 0 ≤ a
def Pt.o (P : Pt) : HO := .lst [.int P.a, .int P.c, .int P.n]
/-! _law_mixed -/
def sp_law_mixed : Sp := fun vs H Q _ => ∃ c k : Int, vs = [.int c, .int k] ∧ ∀ r : Int, Q (.int r) H
theorem ok_law_mixed (T : Facts K mg) : C8.Cal P w K mg base 1 "_law_mixed" sp_law_mixed [] := by
  refine calD T.f_law_mixed sc_law_mixed (fun vs H Q E h => ?_) (fun f cdv A outer s H vs Q E hr h => ?_)
  · obtain ⟨c, k, rfl, q⟩ := h; rfl
  · obtain ⟨c, k, rfl, q⟩ := h
    refine ⟨_, (pss_cons (ps_set (i := 2) sc_law_mixed.nd rfl (Or.inl rfl) (pe_op op_mod (pe_op op_mul (pe_op op_add (pe_op op_add (pe_op op_mod (pv 0) pe_int) (pe_op op_mul pe_int (pv 1))) pe_int) pe_int) pe_int))
       (pss_cons (ps_set (i := 2) sc_law_mixed.nd rfl (Or.inl rfl) (pe_op op_mod (pe_op op_mul (pv 2) (pv 2)) pe_int))
       (pss_one (ps_ret (pe_op op_fdiv (pe_op op_mod (pe_op op_mul (pe_op op_add (pv 2) (pe_op op_mul pe_int (pe_op op_add (pv 1) pe_int))) pe_int) pe_int) pe_int))))), ?_⟩
    rw [st_law_mixed]
    wtm_at "unf"
    wtm_at "go"
    exact q _
/-! _law_pot -/
def sp_law_pot : Sp := fun vs H Q _ => ∃ c : Int, vs = [.int c] ∧ ∀ (p : Addr) (P1 : Pt) (H' : Hp), H p = none → Same H H' → H' p = some P1.o → Q (.ref p) H'
theorem ok_law_pot (T : Facts K mg) : C8.Cal P w K mg base 1 "_law_pot" sp_law_pot [] := by
  refine calD T.f_law_pot sc_law_pot (fun vs H Q E h => ?_) (fun f cdv A outer s H vs Q E hr h => ?_)
  · obtain ⟨c, rfl, q⟩ := h; rfl
  · obtain ⟨c, rfl, q⟩ := h
    refine ⟨_, (pss_one (ps_ret (pe_lst (pa_cons (pe_op op_mulW (pe_op op_mod (pv 0) (pe_op op_mulW (pe_op op_mulW (pe_op op_mulW (pe_op op_pow pe_int pe_int) (pe_op op_pow pe_int pe_int)) (pe_op op_pow pe_int pe_int)) (pe_op op_pow pe_int pe_int))) (pe_callTy call_intB rfl T.b_int (by decide +kernel) (pa_cons (pe_cmpR op_ge (pv 0) (pe_op op_pow pe_int pe_int) (nomark _)) pa_nil))) (pa_cons (pv 0) (pa_cons pe_int pa_nil)))))), ?_⟩
    rw [st_law_pot]
    wtm_at "unf"
    wtm_at "go"
    refine g_I (by unfold CMulW; decide +kernel) ?_
    wtm_at "go"
    refine g_I (by unfold CMulW; decide +kernel) ?_
    wtm_at "go"
    refine g_I (by unfold CMulW; decide +kernel) ?_
    refine g_I (by show (0 : Int) < _; decide +kernel) ?_
    wtm_at "go"
    generalize hM : (10 : Int) ^ Int.toNat 50 * 10 ^ Int.toNat 50 * 10 ^ Int.toNat 50 * 10 ^ Int.toNat 50 = M
    have hM0 : 0 < M := by rw [← hM]; decide +kernel
    have hM1 : M.natAbs < 2 ^ 700 := by rw [← hM]; decide +kernel
    have h0 : 0 ≤ c % M := Int.emod_nonneg _ (by omega)
    have h1 : c % M < M := Int.emod_lt_of_pos _ hM0
    refine g_I ?_ ?_
    · refine wide_mul (a := 700) (b := 1) (by omega) ?_ (by decide) (by decide) (by decide)
      split <;> decide
    wtm_at "go"
    refine g_lst (by show 3 ≤ 100000; decide) fun p H1 np s1 e1 => ?_
    refine q p ⟨c % M * (if decide ((10 : Int) ^ Int.toNat 18 ≤ c) = true then 1 else 0), c, 0, ?_⟩ H1 np s1 e1
    split <;> omega
/-! _law_take -/
def sp_law_take : Sp := fun vs H Q _ => ∃ (p : Addr) (P0 : Pt) (m : Int), vs = [.ref p, .int m] ∧ H p = some P0.o ∧ 0 < m ∧ m < 1000000 ∧ ∀ (r : Int) (P1 : Pt) (H' : Hp), 0 ≤ r → r < m → But p H H' → H' p = some P1.o → Q (.int r) H'
theorem ok_law_take (T : Facts K mg) : C8.Cal P w K mg base 2 "_law_take" sp_law_take [] := by
  refine calD T.f_law_take sc_law_take (fun vs H Q E h => ?_) (fun f cdv A outer s H vs Q E hr h => ?_)
  · obtain ⟨p, P0, m, rfl, hp, h0, h1, q⟩ := h; rfl
  · obtain ⟨p, P0, m, rfl, hp, h0, h1, q⟩ := h
    refine ⟨_, (pss_cons (ps_asg (pe_op op_add (pe_ix ix_list (pv 0) pe_int (fun _ _ => rfl)) pe_int) (pg_sub (pv 0) pe_int set_list))
       (pss_cons (ps_if (pt_cmpR op_gt (pe_ix ix_list (pv 0) pe_int (fun _ _ => rfl)) pe_int (nomark _))
       (pss_cons (ps_set (i := 2) sc_law_take.nd rfl (Or.inl rfl) (pe_op op_mod (pe_ix ix_list (pv 0) pe_int (fun _ _ => rfl)) (pv 1)))
       (pss_cons (ps_asg (pe_op op_fdiv (pe_ix ix_list (pv 0) pe_int (fun _ _ => rfl)) (pv 1)) (pg_sub (pv 0) pe_int set_list))
       (pss_one (ps_ret (pv 2)))))
       pss_nil)
       (pss_one (ps_ret (pe_op op_mod (pe_own (ok_law_mixed T) hr (by decide) rfl (pa_cons (pe_ix ix_list (pv 0) pe_int (fun _ _ => rfl)) (pa_cons (pe_ix ix_list (pv 0) pe_int (fun _ _ => rfl)) pa_nil))) (pv 1)))))), ?_⟩
    rw [st_law_take]
    have hp' : H p = some (.lst [.int P0.a, .int P0.c, .int P0.n]) := hp
    wtm_at "unf"
    wtm_at "go"
    intro H1 b1 e1
    wtm_at "go"
    refine g_test (fun h => ?_) (fun h => ?_)
    · wtm_at "go"
      intro H2 b2 e2
      wtm_at "go"
      exact q (P0.a % m) ⟨P0.a / m, P0.c, P0.n + 1, Int.ediv_nonneg P0.h (by omega)⟩ H2 (Int.emod_nonneg _ (by omega)) (Int.emod_lt_of_pos _ h0) (by wtm_at "sm") e2
    · wtm_at "go"
      refine ⟨_, _, rfl, fun r => ?_⟩
      wtm_at "go"
      exact q (r % m) ⟨P0.a, P0.c, P0.n + 1, P0.h⟩ H1 (Int.emod_nonneg _ (by omega)) (Int.emod_lt_of_pos _ h0) (by wtm_at "sm") e1
end
end K03

set_option maxHeartbeats 4000000
namespace K03
open PySem PySem.Spec PyProof.Rows L2 SX Ly
local macro_rules | `(tactic| wtm_at "unf") => `(tactic| (try simp only [tSeq, tNext, tBreak, tCont, tDrop, tRet, tRetN, tIfS, tAsg, tAug, tC, tOp, tUn, tNil, tCons, tOwn, tCB, tTest, tB, tAnd, tOr, tNot, tAndV, tOrV, tNotV, tIf, gName, gSub, tBM, tBM0, tM0, tM1, tSl, tPart_eq, tNoPart, tLst_eq, tTup_eq, tRevL_eq, C8.tCut, wipe, tYes, gTup, gCons, gNil, List.set_cons_zero, List.set_cons_succ, if_true, if_false, Bool.false_eq_true, Bool.not_true, Bool.not_false, reduceIte, cx_K, tFor_eq, tLc_eq, iStr, iList, iTup, iRng1, iRng2, iRng3, iEnum, iZip, iEnumS]))
local macro_rules | `(tactic| wtm_at "ne") => `(tactic| first | assumption | (apply Ne.symm; assumption) | (apply ne_new; (· assumption); (· wtm_at "lk")) | (apply Ne.symm; apply ne_new; (· assumption); (· wtm_at "lk")))
local macro_rules | `(tactic| wtm_at "lk") => `(tactic| first | assumption | exact upd_same | (apply Same.get; (· assumption); (· wtm_at "lk")) | (apply But.get; (· assumption); (· wtm_at "ne"); (· wtm_at "lk")))
local macro_rules | `(tactic| wtm_at "sq") => `(tactic| first | assumption | (apply sq_of; wtm_at "lk") | (apply Same.seq; (· assumption); (· wtm_at "sq")) | (apply But.sq; (· assumption); (· wtm_at "ne"); (· wtm_at "sq")))
local macro_rules | `(tactic| wtm_at "fr") => `(tactic| first | assumption | (apply Same.fr; (· assumption); (· wtm_at "sm")) | (apply But.fr; (· assumption); (· wtm_at "sm"); (· wtm_at "ne")))
local macro_rules | `(tactic| wtm_at "sm") => `(tactic| first | exact Same.refl _ | exact But.refl | assumption | (apply Same.tr; (· assumption); (· wtm_at "sm")) | (apply Same.b0; (· assumption); (· wtm_at "sm"); (· wtm_at "fr")) | (apply But.sa; (· assumption); (· wtm_at "sm")) | (apply But.tr; (· assumption); (· wtm_at "sm")) | (apply But.b0; (· assumption); (· wtm_at "sm"); (· wtm_at "fr")) | (apply Same.toBut; wtm_at "sm"))
local macro_rules | `(tactic| wtm_at "sc") => `(tactic| first | exact Int.zero_lt_one | (show (0 : Int) < _; omega) | (show (0 : Int) < _; decide) | exact ⟨by omega, by omega⟩ | exact .inl ⟨by omega, by omega⟩ | exact .inr ⟨by omega, by omega⟩)
local macro_rules | `(tactic| wtm_at "go1") => `(tactic| first | ((with_reducible apply g_var); (· exact rfl)) | with_reducible apply g_I0 | ((with_reducible apply g_I); (· wtm_at "sc")) | with_reducible apply g_U | with_reducible apply g_ipI | ((with_reducible apply g_addT); (· first | omega | (simp; omega))) | with_reducible apply g_inT | with_reducible apply g_ninT | ((with_reducible apply g_lenT); (· omega)) | with_reducible apply g_findT1 | with_reducible apply g_str | with_reducible apply g_part | with_reducible apply g_intB | ((with_reducible apply g_ixL); (· wtm_at "sq"); (· exact rfl)) | ((with_reducible apply g_setL); (· wtm_at "lk"); (· exact rfl)) | ((with_reducible apply g_eq); (· rfl)) | ((with_reducible apply g_ne); (· rfl)))
local macro_rules | `(tactic| wtm_at "go") => `(tactic| repeat wtm_at "go1")
local macro_rules | `(tactic| wtm_at "lp") => `(tactic| skip)
local macro_rules | `(tactic| wtm_at "om") => `(tactic| first | omega | (simp; done) | (simp; omega) | (simp at *; omega))

section
variable {P : Program} {w : World} {K : PySem.W.Frag} {mg : Str → Option Value} {base : Heap}
/-! kind_of -/
def sp_kind_of : Sp := fun vs H Q _ => ∃ c : Nat, vs = [Tx [c]] ∧ c ∈ BRK ∧ Q (.int (knd c)) H
theorem ok_kind_of (T : Facts K mg) : C8.Cal P w K mg base 1 "kind_of" sp_kind_of [] := by
  refine calD T.f_kind_of sc_kind_of (fun vs H Q E h => ?_) (fun f cdv A outer s H vs Q E hr h => ?_)
  · obtain ⟨c, rfl, hc, q⟩ := h; rfl
  · obtain ⟨c, rfl, hc, q⟩ := h
    refine ⟨_, (pss_cons (ps_if (pt_cmpR op_inT (pv 0) (C8.pe_gc rfl T.c_OPENING) (by rfl))
       (pss_one (ps_ret (pe_m1 PySem.F.slot_str_index PySem.F.type_str_index mt_idxT (C8.pe_gc rfl T.c_OPENING) (pv 0))))
       pss_nil)
       (pss_one (ps_ret (pe_m1 PySem.F.slot_str_index PySem.F.type_str_index mt_idxT (C8.pe_gc rfl T.c_CLOSING) (pv 0))))), ?_⟩
    rw [st_kind_of]
    wtm_at "unf"
    wtm_at "go"
    refine g_test (fun h => ?_) (fun h => ?_)
    · wtm_at "go"
      exact g_idxT1 (find_opn c h) q
    · wtm_at "go"
      exact g_idxT1 (find_clo c ((brk_or.mp hc).resolve_left h)) q
/-! other_side -/
def sp_other_side : Sp := fun vs H Q _ => ∃ c : Nat, vs = [Tx [c]] ∧ c ∈ BRK ∧ Q (Tx [oth c]) H
theorem ok_other_side (T : Facts K mg) : C8.Cal P w K mg base 2 "other_side" sp_other_side [] := by
  refine calD T.f_other_side sc_other_side (fun vs H Q E h => ?_) (fun f cdv A outer s H vs Q E hr h => ?_)
  · obtain ⟨c, rfl, hc, q⟩ := h; rfl
  · obtain ⟨c, rfl, hc, q⟩ := h
    refine ⟨_, (pss_cons (ps_if (pt_cmpR op_inT (pv 0) (C8.pe_gc rfl T.c_OPENING) (by rfl))
       (pss_one (ps_ret (pe_ix ix_txt (C8.pe_gc rfl T.c_CLOSING) (pe_own (ok_kind_of T) hr (by decide) rfl (pa_cons (pv 0) pa_nil)) (fun _ _ => rfl))))
       pss_nil)
       (pss_one (ps_ret (pe_ix ix_txt (C8.pe_gc rfl T.c_OPENING) (pe_own (ok_kind_of T) hr (by decide) rfl (pa_cons (pv 0) pa_nil)) (fun _ _ => rfl))))), ?_⟩
    rw [st_other_side]
    wtm_at "unf"
    wtm_at "go"
    refine g_test (fun h => ?_) (fun h => ?_)
    · wtm_at "go"
      refine ⟨c, rfl, hc, ?_⟩
      exact g_ixT (by decide) (atI_of (at_clo c h)) q
    · wtm_at "go"
      refine ⟨c, rfl, hc, ?_⟩
      exact g_ixT (by decide) (atI_of (at_opn c ((brk_or.mp hc).resolve_left h))) q
/-- a text's signs from behind, each bracket the other one of its kind -/
def oth1 (c : Nat) : Nat := if c ∈ BRK then oth c else c
def about (l : List Nat) : List Nat := (l.map oth1).reverse
theorem about_snoc (l : List Nat) (c : Nat) : about (l ++ [c]) = oth1 c :: about l := by
  unfold about
  rw [List.map_append, List.reverse_append]
  rfl
theorem about_len (l : List Nat) : (about l).length = l.length := by
  unfold about
  rw [List.length_reverse, List.length_map]
/-! turned_about -/
def sp_turned_about : Sp := fun vs H Q _ => ∃ l : List Nat, vs = [Tx l] ∧ l.length ≤ 1000 ∧ Q (Tx (about l)) H
theorem ok_turned_about (T : Facts K mg) : C8.Cal P w K mg base 3 "turned_about" sp_turned_about [] := by
  refine calD T.f_turned_about sc_turned_about (fun vs H Q E h => ?_) (fun f cdv A outer s H vs Q E hr h => ?_)
  · obtain ⟨l, rfl, hl, q⟩ := h; rfl
  · obtain ⟨l, rfl, hl, q⟩ := h
    refine ⟨_, (pss_cons (ps_set (i := 1) sc_turned_about.nd rfl (Or.inl rfl) (pe_strS (l := []) (by decide +kernel)))
       (pss_cons (ps_for PassesOwn.never rfl (pi_str (pv 0)) (pg_name (i := 2) sc_turned_about.nd rfl (Or.inl rfl))
       (C8.pss_cut (ps_if (pt_cmpR op_inT (pv 2) (C8.pe_gc rfl T.c_BRACKETS) (by rfl))
       (pss_one (ps_set (i := 2) sc_turned_about.nd rfl (Or.inl rfl) (pe_own (ok_other_side T) hr (by decide) rfl (pa_cons (pv 2) pa_nil))))
       pss_nil)
       (pss_one (ps_set (i := 1) sc_turned_about.nd rfl (Or.inl rfl) (pe_op op_addT (pv 2) (pv 1))))))
       (pss_one (ps_ret (pv 1))))), ?_⟩
    rw [st_turned_about]
    wtm_at "unf"
    wtm_at "lp"
    wtm_at "go"
    refine ⟨_, rfl, for_txt (fun pre σ H' => ∃ y, σ = [some (Tx l), some (Tx (about pre)), y] ∧ H' = H) ⟨_, rfl, rfl⟩ (fun pre c post σ H' e hv => ?_) (fun σ H' hv => ?_)⟩
    · obtain ⟨y, rfl, rfl⟩ := hv
      have hl2 : pre.length + 1 ≤ 1000 := by rw [e] at hl; simp at hl; omega
      wtm_at "unf"
      refine ⟨fun σ' H'' => σ' = [some (Tx l), some (Tx (about pre)), some (Tx [oth1 c])] ∧ H'' = H', ?_, ?_⟩
      · wtm_at "go"
        refine g_test (fun h => ?_) (fun h => ?_)
        · wtm_at "go"
          exact ⟨c, rfl, h, by rw [oth1, if_pos h], rfl⟩
        · exact ⟨by rw [oth1, if_neg h], rfl⟩
      · rintro σ' H'' ⟨rfl, rfl⟩
        wtm_at "go"
        refine g_addT (by rw [about_len]; simp; omega) ?_
        exact ⟨_, by rw [about_snoc]; rfl, rfl⟩
    · obtain ⟨y, rfl, rfl⟩ := hv
      wtm_at "unf"
      wtm_at "go"
      exact q
/-- a text with its brackets' kinds changed by an order -/
def bykind (o : List Nat) (c : Nat) : Nat := if c ∈ OPN then o.getD (knd c) 0 else if c ∈ CLO then oth (o.getD (knd c) 0) else c
def isOrd (o : List Nat) : Prop := o.length = 4 ∧ ∀ c ∈ o, c ∈ OPN
theorem ord_at {o : List Nat} (h : isOrd o) {k : Nat} (hk : k < 4) : o[k]? = some (o.getD k 0) ∧ o.getD k 0 ∈ OPN := by
  have hl : k < o.length := by rw [h.1]; exact hk
  have e : o[k]? = some o[k] := List.getElem?_eq_getElem hl
  have e2 : o.getD k 0 = o[k] := by rw [List.getD_eq_getElem?_getD, e]; rfl
  rw [e2]
  exact ⟨e, h.2 _ (List.getElem_mem hl)⟩
/-! in_kinds -/
def sp_in_kinds : Sp := fun vs H Q _ => ∃ l o : List Nat, vs = [Tx l, Tx o] ∧ l.length ≤ 1000 ∧ isOrd o ∧ Q (Tx (l.map (bykind o))) H
theorem ok_in_kinds (T : Facts K mg) : C8.Cal P w K mg base 3 "in_kinds" sp_in_kinds [] := by
  refine calD T.f_in_kinds sc_in_kinds (fun vs H Q E h => ?_) (fun f cdv A outer s H vs Q E hr h => ?_)
  · obtain ⟨l, o, rfl, hl, ho, q⟩ := h; rfl
  · obtain ⟨l, o, rfl, hl, ho, q⟩ := h
    refine ⟨_, (pss_cons (ps_set (i := 2) sc_in_kinds.nd rfl (Or.inl rfl) (pe_strS (l := []) (by decide +kernel)))
       (pss_cons (ps_for PassesOwn.never rfl (pi_str (pv 0)) (pg_name (i := 3) sc_in_kinds.nd rfl (Or.inl rfl))
       (C8.pss_cut (ps_if (pt_cmpR op_inT (pv 3) (C8.pe_gc rfl T.c_OPENING) (by rfl))
       (pss_one (ps_set (i := 3) sc_in_kinds.nd rfl (Or.inl rfl) (pe_ix ix_txt (pv 1) (pe_own (ok_kind_of T) hr (by decide) rfl (pa_cons (pv 3) pa_nil)) (fun _ _ => rfl))))
       (pss_one (ps_if (pt_cmpR op_inT (pv 3) (C8.pe_gc rfl T.c_CLOSING) (by rfl))
       (pss_one (ps_set (i := 3) sc_in_kinds.nd rfl (Or.inl rfl) (pe_own (ok_other_side T) hr (by decide) rfl (pa_cons (pe_ix ix_txt (pv 1) (pe_own (ok_kind_of T) hr (by decide) rfl (pa_cons (pv 3) pa_nil)) (fun _ _ => rfl)) pa_nil))))
       pss_nil)))
       (pss_one (ps_aug (i := 2) sc_in_kinds.nd rfl (Or.inl rfl) (pv 3) iop_addT))))
       (pss_one (ps_ret (pv 2))))), ?_⟩
    rw [st_in_kinds]
    wtm_at "unf"
    wtm_at "lp"
    wtm_at "go"
    have ho4 : o.length ≤ 100000 := by rw [ho.1]; decide
    refine ⟨_, rfl, for_txt (fun pre σ H' => ∃ y, σ = [some (Tx l), some (Tx o), some (Tx (pre.map (bykind o))), y] ∧ H' = H) ⟨_, rfl, rfl⟩ (fun pre c post σ H' e hv => ?_) (fun σ H' hv => ?_)⟩
    · obtain ⟨y, rfl, rfl⟩ := hv
      have hl2 : pre.length + 1 ≤ 1000 := by rw [e] at hl; simp at hl; omega
      wtm_at "unf"
      refine ⟨fun σ' H'' => σ' = [some (Tx l), some (Tx o), some (Tx (pre.map (bykind o))), some (Tx [bykind o c])] ∧ H'' = H', ?_, ?_⟩
      · wtm_at "go"
        refine g_test (fun h => ?_) (fun h => ?_)
        · have hb : c ∈ BRK := brk_or.mpr (.inl h)
          wtm_at "go"
          refine ⟨c, rfl, hb, ?_⟩
          refine g_ixT ho4 (atI_of (ord_at ho (knd_lt c hb)).1) ?_
          exact ⟨by rw [bykind, if_pos h], rfl⟩
        · wtm_at "go"
          refine g_test (fun h2 => ?_) (fun h2 => ?_)
          · have hb : c ∈ BRK := brk_or.mpr (.inr h2)
            wtm_at "go"
            refine ⟨c, rfl, hb, ?_⟩
            refine g_ixT ho4 (atI_of (ord_at ho (knd_lt c hb)).1) ?_
            refine ⟨_, rfl, brk_or.mpr (.inl (ord_at ho (knd_lt c hb)).2), ?_⟩
            exact ⟨by rw [bykind, if_neg h, if_pos h2], rfl⟩
          · exact ⟨by rw [bykind, if_neg h, if_neg h2], rfl⟩
      · rintro σ' H'' ⟨rfl, rfl⟩
        refine ⟨_, rfl, ?_⟩
        wtm_at "go"
        exact ⟨_, by rw [List.map_append]; rfl, rfl⟩
    · obtain ⟨y, rfl, rfl⟩ := hv
      wtm_at "unf"
      wtm_at "go"
      exact q
end
end K03

set_option maxHeartbeats 4000000
namespace K03
open PySem PySem.Spec PyProof.Rows L2 SX Ly
local macro_rules | `(tactic| wtm_at "unf") => `(tactic| (try simp only [tSeq, tNext, tBreak, tCont, tDrop, tRet, tRetN, tIfS, tAsg, tAug, tC, tOp, tUn, tNil, tCons, tOwn, tCB, tTest, tB, tAnd, tOr, tNot, tAndV, tOrV, tNotV, tIf, gName, gSub, tBM, tBM0, tM0, tM1, tSl, tPart_eq, tNoPart, tLst_eq, tTup_eq, tRevL_eq, C8.tCut, wipe, tYes, gTup, gCons, gNil, List.set_cons_zero, List.set_cons_succ, if_true, if_false, Bool.false_eq_true, Bool.not_true, Bool.not_false, reduceIte, cx_K, tFor_eq, tLc_eq, iStr, iList, iTup, iRng1, iRng2, iRng3, iEnum, iZip, iEnumS]))
local macro_rules | `(tactic| wtm_at "ne") => `(tactic| first | assumption | (apply Ne.symm; assumption) | (apply ne_new; (· assumption); (· wtm_at "lk")) | (apply Ne.symm; apply ne_new; (· assumption); (· wtm_at "lk")))
local macro_rules | `(tactic| wtm_at "lk") => `(tactic| first | assumption | exact upd_same | (apply Same.get; (· assumption); (· wtm_at "lk")) | (apply But.get; (· assumption); (· wtm_at "ne"); (· wtm_at "lk")))
local macro_rules | `(tactic| wtm_at "sq") => `(tactic| first | assumption | (apply sq_of; wtm_at "lk") | (apply Same.seq; (· assumption); (· wtm_at "sq")) | (apply But.sq; (· assumption); (· wtm_at "ne"); (· wtm_at "sq")))
local macro_rules | `(tactic| wtm_at "fr") => `(tactic| first | assumption | (apply Same.fr; (· assumption); (· wtm_at "sm")) | (apply But.fr; (· assumption); (· wtm_at "sm"); (· wtm_at "ne")))
local macro_rules | `(tactic| wtm_at "sm") => `(tactic| first | exact Same.refl _ | exact But.refl | assumption | (apply Same.tr; (· assumption); (· wtm_at "sm")) | (apply Same.b0; (· assumption); (· wtm_at "sm"); (· wtm_at "fr")) | (apply But.sa; (· assumption); (· wtm_at "sm")) | (apply But.tr; (· assumption); (· wtm_at "sm")) | (apply But.b0; (· assumption); (· wtm_at "sm"); (· wtm_at "fr")) | (apply Same.toBut; wtm_at "sm"))
local macro_rules | `(tactic| wtm_at "sc") => `(tactic| first | exact Int.zero_lt_one | (show (0 : Int) < _; omega) | (show (0 : Int) < _; decide) | exact ⟨by omega, by omega⟩ | exact .inl ⟨by omega, by omega⟩ | exact .inr ⟨by omega, by omega⟩)
local macro_rules | `(tactic| wtm_at "go1") => `(tactic| first | ((with_reducible apply g_var); (· exact rfl)) | with_reducible apply g_I0 | ((with_reducible apply g_I); (· wtm_at "sc")) | with_reducible apply g_U | with_reducible apply g_ipI | ((with_reducible apply g_addT); (· first | omega | (simp; omega))) | with_reducible apply g_inT | with_reducible apply g_ninT | ((with_reducible apply g_lenT); (· omega)) | with_reducible apply g_findT1 | with_reducible apply g_str | with_reducible apply g_part | with_reducible apply g_intB | ((with_reducible apply g_ixL); (· wtm_at "sq"); (· exact rfl)) | ((with_reducible apply g_setL); (· wtm_at "lk"); (· exact rfl)) | ((with_reducible apply g_eq); (· rfl)) | ((with_reducible apply g_ne); (· rfl)))
local macro_rules | `(tactic| wtm_at "go") => `(tactic| repeat wtm_at "go1")
local macro_rules | `(tactic| wtm_at "lp") => `(tactic| skip)
local macro_rules | `(tactic| wtm_at "om") => `(tactic| first | omega | (simp; done) | (simp; omega) | (simp at *; omega))

section
variable {P : Program} {w : World} {K : PySem.W.Frag} {mg : Str → Option Value} {base : Heap}
/-! _law_sign -/
def sp_law_sign : Sp := fun vs H Q _ => ∃ (p : Addr) (P0 : Pt), vs = [.ref p] ∧ H p = some P0.o ∧ ∀ (c : Nat) (P1 : Pt) (H' : Hp), isSg c → But p H H' → H' p = some P1.o → Q (Tx [c]) H'
theorem ok_law_sign (T : Facts K mg) : C8.Cal P w K mg base 3 "_law_sign" sp_law_sign [] := by
  refine calD T.f_law_sign sc_law_sign (fun vs H Q E h => ?_) (fun f cdv A outer s H vs Q E hr h => ?_)
  · obtain ⟨p, P0, rfl, hp, q⟩ := h; rfl
  · obtain ⟨p, P0, rfl, hp, q⟩ := h
    refine ⟨_, (pss_cons (ps_set (i := 1) sc_law_sign.nd rfl (Or.inl rfl) (pe_own (ok_law_take T) hr (by decide) rfl (pa_cons (pv 0) (pa_cons pe_int pa_nil))))
       (pss_cons (ps_if (pt_cmpR op_lt (pv 1) pe_int (nomark _))
       (pss_one (ps_ret (pe_ix ix_txt (pe_strS (l := LET) (by decide +kernel)) (pe_ix ix_list (pe_lst (pa_cons (pe_own (ok_law_take T) hr (by decide) rfl (pa_cons (pv 0) (pa_cons pe_int pa_nil))) (pa_cons (pe_own (ok_law_take T) hr (by decide) rfl (pa_cons (pv 0) (pa_cons pe_int pa_nil))) pa_nil))) (pv 1) (fun _ _ => rfl)) (fun _ _ => rfl))))
       pss_nil)
       (pss_cons (ps_if (pt_cmpR op_lt (pv 1) pe_int (nomark _))
       (pss_one (ps_ret (pe_ix ix_txt (pe_strS (l := [40, 41, 91, 93]) (by decide +kernel)) (pe_own (ok_law_take T) hr (by decide) rfl (pa_cons (pv 0) (pa_cons pe_int pa_nil))) (fun _ _ => rfl))))
       pss_nil)
       (pss_one (ps_ret (pe_ix ix_txt (pe_strS (l := BRK) (by decide +kernel)) (pe_own (ok_law_take T) hr (by decide) rfl (pa_cons (pv 0) (pa_cons pe_int pa_nil))) (fun _ _ => rfl))))))), ?_⟩
    rw [st_law_sign]
    wtm_at "unf"
    wtm_at "go"
    refine ⟨p, P0, 8, rfl, hp, by decide, by decide, fun r P1 H1 r0 r1 b1 e1 => ?_⟩
    wtm_at "go"
    refine g_test (fun h => ?_) (fun h => ?_)
    · wtm_at "go"
      refine ⟨p, P1, 3, rfl, e1, by decide, by decide, fun x P2 H2 x0 x1 b2 e2 => ?_⟩
      wtm_at "go"
      refine ⟨p, P2, 26, rfl, e2, by decide, by decide, fun y P3 H3 y0 y1 b3 e3 => ?_⟩
      refine g_lst (by show 2 ≤ 100000; decide) fun a H4 na s4 e4 => ?_
      wtm_at "go"
      have key : ∃ z : Nat, (z : Int) < 26 ∧ atI [V.int x, V.int y] r = some (.int z) := by
        by_cases hr : r = 0
        · subst hr
          exact ⟨x.toNat, by omega, by rw [Int.toNat_of_nonneg x0]; rfl⟩
        · have : r = 1 := by omega
          subst this
          exact ⟨y.toNat, by omega, by rw [Int.toNat_of_nonneg y0]; rfl⟩
      obtain ⟨z, hz, ez⟩ := key
      refine g_ixL (sq_of e4) ez ?_
      have hz2 : z < LET.length := by show z < 26; omega
      refine g_ixT (by decide) (atI_of (List.getElem?_eq_getElem hz2)) ?_
      refine q _ P3 H4 (.inl (List.getElem_mem hz2)) (by wtm_at "sm") (by wtm_at "lk")
    · wtm_at "go"
      refine g_test (fun h => ?_) (fun h => ?_)
      · wtm_at "go"
        refine ⟨p, P1, 4, rfl, e1, by decide, by decide, fun x P2 H2 x0 x1 b2 e2 => ?_⟩
        obtain ⟨k, rfl⟩ := Int.eq_ofNat_of_zero_le x0
        have hk : k < [40, 41, 91, 93].length := by show k < 4; omega
        refine g_ixT (by decide) (atI_of (List.getElem?_eq_getElem hk)) ?_
        refine q _ P2 H2 (.inr ?_) (by wtm_at "sm") e2
        have hm : ∀ c ∈ [40, 41, 91, 93], c ∈ BRK := by decide
        exact hm _ (List.getElem_mem hk)
      · wtm_at "go"
        refine ⟨p, P1, 8, rfl, e1, by decide, by decide, fun x P2 H2 x0 x1 b2 e2 => ?_⟩
        obtain ⟨k, rfl⟩ := Int.eq_ofNat_of_zero_le x0
        have hk : k < BRK.length := by show k < 8; omega
        refine g_ixT (by decide) (atI_of (List.getElem?_eq_getElem hk)) ?_
        exact q _ P2 H2 (.inr (List.getElem_mem hk)) (by wtm_at "sm") e2
/-! _law_long -/
def sp_law_long : Sp := fun vs H Q _ => ∃ (p : Addr) (P0 : Pt) (k : Int), vs = [.ref p, .int k] ∧ H p = some P0.o ∧ ∀ (r : Nat) (P1 : Pt) (H' : Hp), r ≤ 120 → But p H H' → H' p = some P1.o → Q (.int r) H'
theorem ok_law_long (T : Facts K mg) : C8.Cal P w K mg base 3 "_law_long" sp_law_long [] := by
  refine calD T.f_law_long sc_law_long (fun vs H Q E h => ?_) (fun f cdv A outer s H vs Q E hr h => ?_)
  · obtain ⟨p, P0, k, rfl, hp, q⟩ := h; rfl
  · obtain ⟨p, P0, k, rfl, hp, q⟩ := h
    refine ⟨_, (pss_cons (ps_ifC (PW.pt (pw_and (pt_cmpR op_eq (pv 1) pe_int (nomark _)) (pw_and1 (pt_cmpR op_eq (pe_own (ok_law_take T) hr (by decide) rfl (pa_cons (pv 0) (pa_cons pe_int pa_nil))) pe_int (nomark _)))))
       (pss_one (ps_ret (pe_op op_sub pe_int (pe_op op_mul (pe_own (ok_law_take T) hr (by decide) rfl (pa_cons (pv 0) (pa_cons pe_int pa_nil))) (pe_own (ok_law_take T) hr (by decide) rfl (pa_cons (pv 0) (pa_cons pe_int pa_nil)))))))
       pss_nil)
       (pss_one (ps_ret (pe_own (ok_law_take T) hr (by decide) rfl (pa_cons (pv 0) (pa_cons (pe_ix ix_list (pe_lst (pa_cons pe_int (pa_cons pe_int (pa_cons pe_int pa_nil)))) (pe_own (ok_law_take T) hr (by decide) rfl (pa_cons (pv 0) (pa_cons pe_int pa_nil))) (fun _ _ => rfl)) pa_nil)))))), ?_⟩
    rw [st_law_long]
    have tail : ∀ (Hx : Hp) (Px : Pt), But p H Hx → Hx p = some Px.o → rLstN [V.int 6, V.int 14, V.int 30] Hx (fun v H1 => tVar 0 [some (V.ref p), some (V.int k)] H1 fun x1 H1 => sp_law_take [x1, V.int 3] H1 (fun y H2 => rIxL K v y H2 fun x2 H1 => sp_law_take [V.ref p, x2] H1 Q C8.E0) C8.E0) := by
      intro Hx Px bx ex
      refine g_lst (by show 3 ≤ 100000; decide) fun a H4 na s4 e4 => ?_
      wtm_at "go"
      refine ⟨p, Px, 3, rfl, by wtm_at "lk", by decide, by decide, fun r P1 H1 r0 r1 b1 e1 => ?_⟩
      have key : ∃ z : Int, 0 < z ∧ z ≤ 30 ∧ atI [V.int 6, V.int 14, V.int 30] r = some (.int z) := by
        by_cases h0 : r = 0
        · subst h0; exact ⟨6, by decide, by decide, rfl⟩
        by_cases h1 : r = 1
        · subst h1; exact ⟨14, by decide, by decide, rfl⟩
        · have : r = 2 := by omega
          subst this; exact ⟨30, by decide, by decide, rfl⟩
      obtain ⟨z, z0, z1, ez⟩ := key
      have nap : a ≠ p := by wtm_at "ne"
      refine g_ixL (sq_of (by wtm_at "lk")) ez ?_
      refine ⟨p, P1, z, rfl, e1, z0, by omega, fun y P2 H2 y0 y1 b2 e2 => ?_⟩
      obtain ⟨y', rfl⟩ := Int.eq_ofNat_of_zero_le y0
      exact q y' P2 H2 (by omega) (by wtm_at "sm") e2
    simp only [tIfC]
    wtm_at "unf"
    wtm_at "go"
    refine g_test (fun h => ?_) (fun h => ?_)
    · wtm_at "go"
      refine ⟨p, P0, 8, rfl, hp, by decide, by decide, fun r P1 H1 r0 r1 b1 e1 => ?_⟩
      wtm_at "go"
      refine g_test (fun h => ?_) (fun h => ?_)
      · wtm_at "go"
        refine ⟨p, P1, 2, rfl, e1, by decide, by decide, fun x P2 H2 x0 x1 b2 e2 => ?_⟩
        wtm_at "go"
        refine ⟨p, P2, 90, rfl, e2, by decide, by decide, fun y P3 H3 y0 y1 b3 e3 => ?_⟩
        wtm_at "go"
        have hx : x = 0 ∨ x = 1 := by omega
        have e : ∃ z : Nat, z ≤ 120 ∧ 120 - x * y = (z : Int) := by
          rcases hx with rfl | rfl
          · exact ⟨120, by omega, by omega⟩
          · exact ⟨(120 - y).toNat, by omega, by omega⟩
        obtain ⟨z, hz, ez⟩ := e
        rw [ez]
        exact q z P3 H3 hz (by wtm_at "sm") e3
      · wtm_at "go"
        exact tail _ _ (by wtm_at "sm") e1
    · wtm_at "go"
      exact tail _ _ But.refl hp
/-! _law_clean -/
def sp_law_clean : Sp := fun vs H Q _ => ∃ (p : Addr) (P0 : Pt) (m : Nat), vs = [.ref p, .int m] ∧ H p = some P0.o ∧ m ≤ 1000 ∧ ∀ (l : List Nat) (P1 : Pt) (H' : Hp), (∀ c ∈ l, isSg c) → l.length ≤ m → clean l → But p H H' → H' p = some P1.o → Q (Tx l) H'
theorem ok_law_clean (T : Facts K mg) : C8.Cal P w K mg base 3 "_law_clean" sp_law_clean [] := by
  refine calD T.f_law_clean sc_law_clean (fun vs H Q E h => ?_) (fun f cdv A outer s H vs Q E hr h => ?_)
  · obtain ⟨p, P0, m, rfl, hp, hm, q⟩ := h; rfl
  · obtain ⟨p, P0, m, rfl, hp, hm, q⟩ := h
    refine ⟨_, (pss_cons (ps_set (i := 2) sc_law_clean.nd rfl (Or.inl rfl) (pe_strS (l := []) (by decide +kernel)))
       (pss_cons (ps_set (i := 3) sc_law_clean.nd rfl (Or.inl rfl) (pe_lst pa_nil))
       (pss_cons (ps_set (i := 4) sc_law_clean.nd rfl (Or.inl rfl) (pe_lst (pa_cons (pe_op op_add pe_int (pe_own (ok_law_take T) hr (by decide) rfl (pa_cons (pv 0) (pa_cons pe_int pa_nil)))) (pa_cons (pe_op op_add pe_int (pe_own (ok_law_take T) hr (by decide) rfl (pa_cons (pv 0) (pa_cons pe_int pa_nil)))) pa_nil))))
       (pss_cons (ps_set (i := 5) sc_law_clean.nd rfl (Or.inl rfl) (pv 1))
       (pss_cons (ps_while PassesOwn.never (pt_cmpR op_gt (pv 5) pe_int (nomark _))
       (pss_cons (ps_set (i := 6) sc_law_clean.nd rfl (Or.inl rfl) (pe_own (ok_law_take T) hr (by decide) rfl (pa_cons (pv 0) (pa_cons (pe_op op_add (pe_op op_add pe_int (pe_ix ix_list (pv 4) pe_int (fun _ _ => rfl))) (pe_ix ix_list (pv 4) pe_int (fun _ _ => rfl))) pa_nil))))
       (pss_one (ps_if (pt_cmpR op_eq (pv 6) pe_int (nomark _))
       (pss_cons (ps_set (i := 2) sc_law_clean.nd rfl (Or.inl rfl) (pe_op op_addT (pv 2) (pe_ix ix_txt (pe_strS (l := LET) (by decide +kernel)) (pe_own (ok_law_take T) hr (by decide) rfl (pa_cons (pv 0) (pa_cons pe_int pa_nil))) (fun _ _ => rfl))))
       (pss_one (ps_set (i := 5) sc_law_clean.nd rfl (Or.inl rfl) (pe_op op_sub (pv 5) pe_int))))
       (pss_one (ps_ifC (PW.pt (pw_and (pt_cmpR op_le (pv 6) (pe_ix ix_list (pv 4) pe_int (fun _ _ => rfl)) (nomark _)) (pw_and1 (pt_cmpR op_gt (pv 5) pe_int (nomark _)))))
       (pss_cons (ps_set (i := 7) sc_law_clean.nd rfl (Or.inl rfl) (pe_own (ok_law_take T) hr (by decide) rfl (pa_cons (pv 0) (pa_cons pe_int pa_nil))))
       (pss_cons (ps_set (i := 2) sc_law_clean.nd rfl (Or.inl rfl) (pe_op op_addT (pv 2) (pe_ix ix_txt (pe_strS (l := OPN) (by decide +kernel)) (pv 7) (fun _ _ => rfl))))
       (pss_cons (ps_expr (pe_bm PySem.F.plainAttrs_list PySem.F.slot_list_append PySem.F.type_list_append mt_append (pv 3) (pa_cons (pe_ix ix_txt (pe_strS (l := CLO) (by decide +kernel)) (pv 7) (fun _ _ => rfl)) pa_nil)))
       (pss_one (ps_set (i := 5) sc_law_clean.nd rfl (Or.inl rfl) (pe_op op_sub (pv 5) pe_int))))))
       (pss_one (ps_if (pt_cmpR (op_neD hr.units) (pv 3) (pe_lst pa_nil) (nomark _))
       (pss_one (ps_set (i := 2) sc_law_clean.nd rfl (Or.inl rfl) (pe_op op_addT (pv 2) (pe_bm0 PySem.F.plainAttrs_list PySem.F.slot_list_pop PySem.F.type_list_pop mt_pop (pv 3)))))
       (pss_one (ps_set (i := 5) sc_law_clean.nd rfl (Or.inl rfl) (pe_op op_sub (pv 5) pe_int)))))))))))
       (pss_one (ps_ret (pe_op op_addT (pv 2) (pe_m1 PySem.F.slot_str_join PySem.F.type_str_join mt_joinT (pe_strS (l := []) (by decide +kernel)) (pe_revL (pv 3))))))))))), ?_⟩
    rw [st_law_clean]
    wtm_at "unf"
    wtm_at "go"
    refine g_lst (by show 0 ≤ 100000; decide) fun wa H1 nwa s1 ewa => ?_
    wtm_at "go"
    refine ⟨p, P0, 4, rfl, by wtm_at "lk", by decide, by decide, fun a P2 H2 a0 a1 b2 e2 => ?_⟩
    wtm_at "go"
    refine ⟨p, P2, 3, rfl, e2, by decide, by decide, fun b P3 H3 b0 b1 b3 e3 => ?_⟩
    wtm_at "go"
    refine g_lst (by show 2 ≤ 100000; decide) fun sh H4 nsh s4 esh => ?_
    wtm_at "go"
    have hwp : wa ≠ p := by wtm_at "ne"
    have hw4 : H4 wa = some (.lst []) := by wtm_at "lk"
    have hp4 : H4 p = some P3.o := by wtm_at "lk"
    have hsw : sh ≠ wa := by wtm_at "ne"
    have hsp : sh ≠ p := by wtm_at "ne"
    have b4 : But p H H4 := by wtm_at "sm"
    have nsh0 : H sh = none := by wtm_at "fr"
    refine g_while (fun k σ H' => ∃ (t w : List Nat) (left : Nat) (y6 y7 : Option V) (P5 : Pt), σ = [some (V.ref p), some (V.int m), some (Tx t), some (V.ref wa), some (V.ref sh), some (V.int left), y6, y7] ∧ k = 2 * left + w.length ∧
      t.length + w.length + left ≤ m ∧ (∀ c ∈ t, isSg c) ∧ (∀ c ∈ w, c ∈ CLO) ∧ run t = some w.reverse ∧ H' wa = some (.lst (sgV w)) ∧ H' sh = some (.lst [.int (1 + a), .int (1 + b)]) ∧ H' p = some P5.o ∧ But p H H') (2 * m) ⟨[], [], m, none, none, P3, rfl, by simp, by simp, by simp, by simp, rfl, hw4, esh, hp4, b4⟩ (fun k σ H' hv => ?_)
    obtain ⟨t, w, left, y6, y7, P5, rfl, rfl, hlen, ht, hw, hrun, ew, es, ep, bH⟩ := hv
    wtm_at "unf"
    wtm_at "go"
    refine g_test (fun h => ?_) (fun h => ?_)
    · refine g_whb ?_
      wtm_at "unf"
      wtm_at "go"
      refine ⟨p, P5, _, rfl, ep, by omega, by omega, fun r P6 H6 r0 r1 b6 e6 => ?_⟩
      wtm_at "go"
      have ew6 : H6 wa = some (.lst (sgV w)) := by wtm_at "lk"
      have es6 : H6 sh = some (.lst [.int (1 + a), .int (1 + b)]) := by wtm_at "lk"
      refine g_test (fun h1 => ?_) (fun h1 => ?_)
      · wtm_at "go"
        refine ⟨p, P6, 26, rfl, e6, by decide, by decide, fun x P7 H7 x0 x1 b7 e7 => ?_⟩
        obtain ⟨z, rfl⟩ := Int.eq_ofNat_of_zero_le x0
        have hz2 : z < LET.length := by show z < 26; omega
        refine g_ixT (by decide) (atI_of (List.getElem?_eq_getElem hz2)) ?_
        wtm_at "go"
        have hmem : LET[z] ∈ LET := List.getElem_mem hz2
        refine ⟨2 * (left - 1) + w.length, by omega, t ++ [LET[z]], w, left - 1, _, _, P7, by rw [show ((left - 1 : Nat) : Int) = (left : Int) - 1 by omega], rfl, by simp; omega, ?_, hw, ?_, by wtm_at "lk", by wtm_at "lk", e7, by wtm_at "sm"⟩
        · intro c hc
          rcases List.mem_append.mp hc with hc | hc
          · exact ht c hc
          · rw [List.mem_singleton] at hc
            subst hc
            exact .inl hmem
        · rw [run_snoc, hrun, stp_let (let_opn _ hmem) (let_clo _ hmem)]
      · wtm_at "go"
        refine g_ifC (b := decide (r ≤ 1 + a) && decide ((1 : Int) < left)) (fun Q q => ?_) (fun h2 => ?_) (fun h2 => ?_)
        · wtm_at "unf"
          wtm_at "go"
          refine g_test (fun h => ?_) (fun h => ?_)
          · wtm_at "go"
            refine ⟨_, rfl, ?_⟩
            rw [decide_eq_true h, Bool.true_and] at q
            exact q
          · rw [decide_eq_false h, Bool.false_and] at q
            exact q
        · have h3 : 1 < left := by simp at h2; omega
          wtm_at "unf"
          wtm_at "go"
          refine ⟨p, P6, 4, rfl, e6, by decide, by decide, fun x P7 H7 x0 x1 b7 e7 => ?_⟩
          obtain ⟨z, rfl⟩ := Int.eq_ofNat_of_zero_le x0
          obtain ⟨c, ec, ed, hco, hdc⟩ := opn_at (z := z) (by omega)
          wtm_at "go"
          refine g_ixT (by decide) (atI_of ec) ?_
          wtm_at "go"
          refine ⟨g_tyL (sq_of (show H7 wa = some (.lst (sgV w)) by wtm_at "lk")), ?_⟩
          wtm_at "go"
          refine g_ixT (by decide) (atI_of ed) ?_
          refine g_append1 (show H7 wa = some (.lst (sgV w)) by wtm_at "lk") (by rw [sgV_len]; omega) fun H8 b8 e8 => ?_
          wtm_at "go"
          rw [← sgV_snoc] at e8
          refine ⟨2 * (left - 2) + (w.length + 1), by omega, t ++ [c], w ++ [oth c], left - 2, _, _, P7, by rw [show ((left - 2 : Nat) : Int) = (left : Int) - 2 by omega] <;> rfl, by simp, by simp; omega, ?_, ?_, ?_, e8, by wtm_at "lk", by wtm_at "lk", by wtm_at "sm"⟩
          · intro d hd
            rcases List.mem_append.mp hd with hd | hd
            · exact ht d hd
            · rw [List.mem_singleton] at hd
              subst hd
              exact .inr (brk_or.mpr (.inl hco))
          · intro d hd
            rcases List.mem_append.mp hd with hd | hd
            · exact hw d hd
            · rw [List.mem_singleton] at hd
              subst hd
              exact hdc
          · rw [run_snoc, hrun, stp_opn hco]
            simp
        · wtm_at "unf"
          wtm_at "go"
          refine g_lst (by show 0 ≤ 100000; decide) fun em H7 nem s7 eem => ?_
          refine g_neNilS (sq_of (Same.get s7 ew6)) (fun c hc => sg_lt (.inr (brk_or.mpr (.inr (hw c hc))))) (sq_of eem) ?_
          refine g_testN (fun h4 => ?_) (fun h4 => ?_)
          · obtain ⟨w', c, rfl⟩ : ∃ w' c, w = w' ++ [c] := ⟨w.dropLast, w.getLast h4, (List.dropLast_concat_getLast h4).symm⟩
            rw [sgV_snoc] at ew6
            wtm_at "go"
            refine g_pop (Same.get s7 ew6) fun H8 b8 e8 => ?_
            wtm_at "go"
            have hc : c ∈ CLO := hw c (by simp)
            simp only [List.length_append, List.length_singleton] at hlen
            refine ⟨2 * left + w'.length, by wtm_at "om", t ++ [c], w', left, _, _, P6, rfl, rfl, by simp; omega, ?_, fun d hd => hw d (by simp [hd]), ?_, e8, by wtm_at "lk", by wtm_at "lk", by wtm_at "sm"⟩
            · intro d hd
              rcases List.mem_append.mp hd with hd | hd
              · exact ht d hd
              · rw [List.mem_singleton] at hd
                subst hd
                exact .inr (brk_or.mpr (.inr hc))
            · rw [run_snoc, hrun, List.reverse_append]
              exact stp_clo hc
          · subst h4
            wtm_at "go"
            exact ⟨2 * (left - 1), by wtm_at "om", t, [], left - 1, _, _, P6, by rw [show ((left - 1 : Nat) : Int) = (left : Int) - 1 by omega], by simp, by simp at hlen ⊢; omega, ht, hw, hrun, by wtm_at "lk", by wtm_at "lk", by wtm_at "lk", by wtm_at "sm"⟩
    · wtm_at "unf"
      wtm_at "go"
      refine g_revL (sq_of ew) fun rv H6 nrv s6 erv => ?_
      rw [sgV_rev] at erv
      refine g_join0 (l := w.reverse) (sq_of erv) (by wtm_at "om") ?_
      wtm_at "go"
      refine q (t ++ w.reverse) P5 H6 ?_ (by wtm_at "om") ?_ (by wtm_at "sm") (by wtm_at "lk")
      · intro d hd
        rcases List.mem_append.mp hd with hd | hd
        · exact ht d hd
        · exact .inr (brk_or.mpr (.inr (hw d (by simpa using hd))))
      · show Ly.run _ = some []
        rw [run_app, hrun]
        exact fold_clo _ fun d hd => hw d (by simpa using hd)
/-! _law_bent -/
def sp_law_bent : Sp := fun vs H Q _ => ∃ (p : Addr) (P0 : Pt) (l : List Nat), vs = [.ref p, Tx l] ∧ H p = some P0.o ∧ l.length ≤ 120 ∧ (∀ c ∈ l, isSg c) ∧ ∀ (l' : List Nat) (P1 : Pt) (H' : Hp), l'.length ≤ 120 → (∀ c ∈ l', isSg c) → But p H H' → H' p = some P1.o → Q (Tx l') H'
theorem ok_law_bent (T : Facts K mg) : C8.Cal P w K mg base 4 "_law_bent" sp_law_bent [] := by
  refine calD T.f_law_bent sc_law_bent (fun vs H Q E h => ?_) (fun f cdv A outer s H vs Q E hr h => ?_)
  · obtain ⟨p, P0, l, rfl, hp, hl, hs, q⟩ := h; rfl
  · obtain ⟨p, P0, l, rfl, hp, hl, hs, q⟩ := h
    refine ⟨_, (pss_cons (ps_set (i := 2) sc_law_bent.nd rfl (Or.inl rfl) (pe_own (ok_law_take T) hr (by decide) rfl (pa_cons (pv 0) (pa_cons (pe_op op_add (pe_callB call_lenT rfl T.b_len PySem.boot_len (pa_cons (pv 1) pa_nil)) pe_int) pa_nil))))
       (pss_cons (ps_set (i := 3) sc_law_bent.nd rfl (Or.inl rfl) (pe_own (ok_law_take T) hr (by decide) rfl (pa_cons (pv 0) (pa_cons pe_int pa_nil))))
       (pss_cons (ps_ifC (PW.pt (pw_or (pt_cmpR op_eq (pv 3) pe_int (nomark _)) (pw_or1 (pt_cmpR op_eq (pv 1) (pe_strS (l := []) (by decide +kernel)) (nomark _)))))
       (pss_one (ps_ret (pe_slice sl_tx (pe_op op_addT (pe_op op_addT (pe_slice sl_tx (pv 1) po_none (po_some (pv 2))) (pe_own (ok_law_sign T) hr (by decide) rfl (pa_cons (pv 0) pa_nil))) (pe_slice sl_tx (pv 1) (po_some (pv 2)) po_none)) po_none (po_some pe_int))))
       pss_nil)
       (pss_cons (ps_set (i := 2) sc_law_bent.nd rfl (Or.inl rfl) (pe_op op_mod (pv 2) (pe_callB call_lenT rfl T.b_len PySem.boot_len (pa_cons (pv 1) pa_nil))))
       (pss_cons (ps_set (i := 4) sc_law_bent.nd rfl (Or.inl rfl) (pe_own (ok_law_take T) hr (by decide) rfl (pa_cons (pv 0) (pa_cons (pe_callB call_lenT rfl T.b_len PySem.boot_len (pa_cons (pv 1) pa_nil)) pa_nil))))
       (pss_cons (ps_if (pt_cmpR op_eq (pv 3) pe_int (nomark _))
       (pss_one (ps_ret (pe_op op_addT (pe_slice sl_tx (pv 1) po_none (po_some (pv 2))) (pe_slice sl_tx (pv 1) (po_some (pe_op op_add (pv 2) pe_int)) po_none))))
       pss_nil)
       (pss_cons (ps_if (pt_cmpR op_eq (pv 3) pe_int (nomark _))
       (pss_one (ps_ret (pe_op op_addT (pe_op op_addT (pe_slice sl_tx (pv 1) po_none (po_some (pv 2))) (pe_own (ok_law_sign T) hr (by decide) rfl (pa_cons (pv 0) pa_nil))) (pe_slice sl_tx (pv 1) (po_some (pe_op op_add (pv 2) pe_int)) po_none))))
       pss_nil)
       (pss_cons (ps_set (i := 5) sc_law_bent.nd rfl (Or.inl rfl) (pe_callTy (call_listT rfl) rfl T.b_list (by decide +kernel) (pa_cons (pv 1) pa_nil)))
       (pss_cons (ps_asg (pe_ix ix_txt (pv 1) (pv 4) (fun _ _ => rfl)) (pg_sub (pv 5) (pv 2) set_list))
       (pss_cons (ps_asg (pe_ix ix_txt (pv 1) (pv 2) (fun _ _ => rfl)) (pg_sub (pv 5) (pv 4) set_list))
       (pss_one (ps_ret (pe_m1 PySem.F.slot_str_join PySem.F.type_str_join mt_joinT (pe_strS (l := []) (by decide +kernel)) (pv 5)))))))))))))), ?_⟩
    rw [st_law_bent]
    wtm_at "unf"
    wtm_at "go"
    refine ⟨p, P0, _, rfl, hp, by omega, by omega, fun at_ P1 H1 a0 a1 b1 e1 => ?_⟩
    obtain ⟨i, rfl⟩ := Int.eq_ofNat_of_zero_le a0
    wtm_at "go"
    refine ⟨p, P1, 4, rfl, e1, by decide, by decide, fun way P2 H2 w0 w1 b2 e2 => ?_⟩
    have hput : ∀ (a b : List Nat) (c : Nat), (∀ d ∈ a, isSg d) → isSg c → (∀ d ∈ b, isSg d) → ∀ d ∈ a ++ [c] ++ b, isSg d := by
      intro a b c ha hc hb d hd
      rcases List.mem_append.mp hd with hd | hd
      · rcases List.mem_append.mp hd with hd | hd
        · exact ha d hd
        · rw [List.mem_singleton] at hd
          subst hd
          exact hc
      · exact hb d hd
    have htake : ∀ n, ∀ d ∈ l.take n, isSg d := fun n d hd => hs d (List.mem_of_mem_take hd)
    have hdrop : ∀ n, ∀ d ∈ l.drop n, isSg d := fun n d hd => hs d (List.mem_of_mem_drop hd)
    refine g_ifC (b := decide (way = 0) || decide (l = [])) (fun Q q => ?_) (fun h2 => ?_) (fun h2 => ?_)
    · wtm_at "unf"
      wtm_at "go"
      refine g_test (fun h => ?_) (fun h => ?_)
      · rw [V.int.injEq] at h
        rw [decide_eq_true h, Bool.true_or] at q
        exact q
      · wtm_at "go"
        refine ⟨_, rfl, ?_⟩
        rw [V.int.injEq] at h
        rw [decide_eq_false h, Bool.false_or] at q
        rw [decide_eq_decide.mpr (Tx_inj (a := l) (b := []))]
        exact q
    · wtm_at "unf"
      wtm_at "go"
      refine g_slTo (by omega) (by omega) ?_
      wtm_at "go"
      refine ⟨p, P2, rfl, e2, fun c P3 H3 hc b3 e3 => ?_⟩
      wtm_at "go"
      refine g_slFrom (by omega) (by omega) ?_
      wtm_at "go"
      refine g_slTo (by wtm_at "om") (by decide) ?_
      exact q _ P3 H3 (by wtm_at "om") (fun d hd => hput _ _ c (htake _) hc (hdrop _) d (List.mem_of_mem_take hd)) (by wtm_at "sm") e3
    · have hway : way ≠ 0 := by intro h; subst h; simp at h2
      have hne : l ≠ [] := by intro h; subst h; simp at h2
      have hpos : 0 < l.length := List.length_pos_iff.mpr hne
      wtm_at "unf"
      wtm_at "go"
      generalize hj : (i : Int) % (l.length : Int) = jj
      have hj0 : 0 ≤ jj := by rw [← hj]; exact Int.emod_nonneg _ (by omega)
      have hj1 : jj < l.length := by rw [← hj]; exact Int.emod_lt_of_pos _ (by omega)
      obtain ⟨j, rfl⟩ := Int.eq_ofNat_of_zero_le hj0
      refine ⟨p, P2, _, rfl, e2, by omega, by omega, fun to_ P3 H3 t0 t1 b3 e3 => ?_⟩
      obtain ⟨k, rfl⟩ := Int.eq_ofNat_of_zero_le t0
      wtm_at "go"
      refine g_test (fun h => ?_) (fun h => ?_)
      · wtm_at "go"
        refine g_slTo (by omega) (by omega) ?_
        wtm_at "go"
        refine g_slFrom (by omega) (by omega) ?_
        wtm_at "go"
        refine q _ P3 H3 (by wtm_at "om") (fun d hd => ?_) (by wtm_at "sm") e3
        rcases List.mem_append.mp hd with hd | hd
        · exact htake _ d hd
        · exact hdrop _ d hd
      wtm_at "go"
      refine g_test (fun h => ?_) (fun h => ?_)
      · wtm_at "go"
        refine g_slTo (by omega) (by omega) ?_
        wtm_at "go"
        refine ⟨p, P3, rfl, e3, fun c P4 H4 hc b4 e4 => ?_⟩
        wtm_at "go"
        refine g_slFrom (by omega) (by omega) ?_
        wtm_at "go"
        exact q _ P4 H4 (by wtm_at "om") (hput _ _ c (htake _) hc (hdrop _)) (by wtm_at "sm") e4
      have hjl : j < l.length := by omega
      have hkl : k < l.length := by omega
      wtm_at "go"
      refine g_listT (by omega) fun sg H4 nsg s4 esg => ?_
      wtm_at "go"
      refine g_ixT (by omega) (atI_of (List.getElem?_eq_getElem hkl)) ?_
      wtm_at "go"
      refine g_setL (n := j) esg (by rw [sgV_len]; exact ixN_nat hjl) fun H5 b5 e5 => ?_
      wtm_at "go"
      refine g_ixT (by omega) (atI_of (List.getElem?_eq_getElem hjl)) ?_
      wtm_at "go"
      refine g_setL (n := k) e5 (by rw [List.length_set, sgV_len]; exact ixN_nat hkl) fun H6 b6 e6 => ?_
      wtm_at "go"
      have ee : ((sgV l).set j (Tx [l[k]])).set k (Tx [l[j]]) = sgV ((l.set j l[k]).set k l[j]) := by
        unfold sgV
        rw [List.map_set, List.map_set]
      rw [ee] at e6
      refine g_join0 (sq_of e6) (by simp; omega) ?_
      refine q _ P3 H6 (by simp; omega) (fun d hd => ?_) (by wtm_at "sm") (by wtm_at "lk")
      rcases List.mem_or_eq_of_mem_set hd with hd | rfl
      · rcases List.mem_or_eq_of_mem_set hd with hd | rfl
        · exact hs d hd
        · exact hs _ (List.getElem_mem hkl)
      · exact hs _ (List.getElem_mem hjl)
/-! _law_text -/
def sp_law_text : Sp := fun vs H Q _ => ∃ (p : Addr) (P0 : Pt) (m : Nat), vs = [.ref p, .int m] ∧ H p = some P0.o ∧ m ≤ 120 ∧ ∀ (l : List Nat) (P1 : Pt) (H' : Hp), l.length ≤ 120 → (∀ c ∈ l, isSg c) → But p H H' → H' p = some P1.o → Q (Tx l) H'
theorem ok_law_text (T : Facts K mg) : C8.Cal P w K mg base 5 "_law_text" sp_law_text [] := by
  refine calD T.f_law_text sc_law_text (fun vs H Q E h => ?_) (fun f cdv A outer s H vs Q E hr h => ?_)
  · obtain ⟨p, P0, m, rfl, hp, hm, q⟩ := h; rfl
  · obtain ⟨p, P0, m, rfl, hp, hm, q⟩ := h
    refine ⟨_, (pss_cons (ps_set (i := 2) sc_law_text.nd rfl (Or.inl rfl) (pe_own (ok_law_take T) hr (by decide) rfl (pa_cons (pv 0) (pa_cons pe_int pa_nil))))
       (pss_cons (ps_if (pt_cmpR op_eq (pv 2) pe_int (nomark _))
       (pss_one (ps_ret (pe_m1 PySem.F.slot_str_join PySem.F.type_str_join mt_joinT (pe_strS (l := []) (by decide +kernel)) (pe_lc (own := [("k", 4)]) (by rfl) sc_law_text.nd (pi_range1 rfl T.b_range (pa_cons (pv 1) pa_nil)) (blkOk_by (own := [("k", 4)]) (N := N_law_text) (sc := defScope s_law_text) (by decide +kernel)) (fun _ _ _ _ _ => (pg_name (i := 4) sc_law_text.nd rfl (Or.inl rfl))) (fun _ _ _ _ _ => pts_nil) (fun _ _ _ _ _ => (pe_own (ok_law_sign T) hr (by decide) rfl (pa_cons (pv 0) pa_nil)))))))
       pss_nil)
       (pss_cons (ps_set (i := 3) sc_law_text.nd rfl (Or.inl rfl) (pe_own (ok_law_clean T) hr (by decide) rfl (pa_cons (pv 0) (pa_cons (pv 1) pa_nil))))
       (pss_cons (ps_for PassesOwn.never rfl (pi_range1 rfl T.b_range (pa_cons (pe_ix ix_list (pe_lst (pa_cons pe_int (pa_cons pe_int (pa_cons pe_int (pa_cons pe_int (pa_cons pe_int pa_nil)))))) (pv 2) (fun _ _ => rfl)) pa_nil)) (pg_name (i := 4) sc_law_text.nd rfl (Or.inl rfl))
       (pss_one (ps_set (i := 3) sc_law_text.nd rfl (Or.inl rfl) (pe_own (ok_law_bent T) hr (by decide) rfl (pa_cons (pv 0) (pa_cons (pv 3) pa_nil))))))
       (pss_one (ps_ret (pv 3))))))), ?_⟩
    rw [st_law_text]
    wtm_at "unf"
    wtm_at "go"
    refine ⟨p, P0, 5, rfl, hp, by decide, by decide, fun way P1 H1 w0 w1 b1 e1 => ?_⟩
    wtm_at "go"
    refine g_test (fun h => ?_) (fun h => ?_)
    · wtm_at "go"
      refine ⟨_, rfl, by omega, by omega, ?_⟩
      refine lc_rng fun d H2 nd s2 ed => ?_
      refine ⟨fun i H' => ∃ (l : List Nat) (P2 : Pt), l.length = i ∧ (∀ c ∈ l, isSg c) ∧ H' d = some (.lst (sgV l)) ∧ H' p = some P2.o ∧ But p H1 H', ⟨[], P1, rfl, by simp, ed, by wtm_at "lk", by wtm_at "sm"⟩, fun i H' hi hv => ?_, fun H' hv => ?_⟩
      · obtain ⟨l, P2, hl, hs, ed', ep, bp⟩ := hv
        have hi2 : i < m := by omega
        wtm_at "unf"
        refine ⟨rfl, ?_⟩
        wtm_at "go"
        refine ⟨p, P2, rfl, ep, fun c P3 H3 hc b3 e3 => ?_⟩
        have hdp : d ≠ p := by wtm_at "ne"
        refine lc_put (acc := sgV l) (by wtm_at "lk") (by rw [sgV_len]; omega) fun H5 b5 e5 => ?_
        rw [← sgV_snoc] at e5
        refine ⟨l ++ [c], P3, by simp [hl], ?_, e5, by wtm_at "lk", by wtm_at "sm"⟩
        intro x hx
        rcases List.mem_append.mp hx with hx | hx
        · exact hs x hx
        · rw [List.mem_singleton] at hx
          subst hx
          exact hc
      · obtain ⟨l, P2, hl, hs, ed', ep, bp⟩ := hv
        exact g_join0 (sq_of ed') (by omega) (q l P2 H' (by omega) hs (by wtm_at "sm") ep)
    · wtm_at "go"
      refine ⟨p, P1, m, rfl, e1, by omega, fun l P2 H2 hs hl hcl b2 e2 => ?_⟩
      refine g_lst (by show 5 ≤ 100000; decide) fun a H3 na s3 e3 => ?_
      wtm_at "go"
      have key : ∃ z : Int, 0 ≤ z ∧ z ≤ 3 ∧ atI [V.int 0, V.int 0, V.int 1, V.int 2, V.int 3] way = some (.int z) := by
        have e : way = 0 ∨ way = 1 ∨ way = 2 ∨ way = 3 ∨ way = 4 := by omega
        rcases e with rfl | rfl | rfl | rfl | rfl
        · exact ⟨0, by decide, by decide, rfl⟩
        · exact ⟨0, by decide, by decide, rfl⟩
        · exact ⟨1, by decide, by decide, rfl⟩
        · exact ⟨2, by decide, by decide, rfl⟩
        · exact ⟨3, by decide, by decide, rfl⟩
      obtain ⟨z, z0, z1, ez⟩ := key
      refine g_ixL (sq_of e3) ez ?_
      refine ⟨z, rfl, by omega, by omega, ?_⟩
      refine for_rng (fun i σ H' => ∃ (l : List Nat) (P4 : Pt) (y : Option V), σ = [some (V.ref p), some (V.int m), some (V.int way), some (Tx l), y] ∧ l.length ≤ 120 ∧ (∀ c ∈ l, isSg c) ∧ H' p = some P4.o ∧ But p H H') ⟨l, P2, none, rfl, by omega, hs, by wtm_at "lk", by wtm_at "sm"⟩ (fun i σ H' hi hv => ?_) (fun σ H' hv => ?_)
      · obtain ⟨l4, P4, y, rfl, hl4, hs4, ep, bp⟩ := hv
        wtm_at "unf"
        wtm_at "go"
        refine ⟨p, P4, l4, rfl, ep, hl4, hs4, fun l5 P5 H5 hl5 hs5 b5 e5 => ?_⟩
        exact ⟨l5, P5, _, rfl, hl5, hs5, e5, by wtm_at "sm"⟩
      · obtain ⟨l4, P4, y, rfl, hl4, hs4, ep, bp⟩ := hv
        wtm_at "unf"
        wtm_at "go"
        exact q l4 P4 H' hl4 hs4 bp ep
end
end K03

set_option maxHeartbeats 4000000
namespace K03
open PySem PySem.Spec PyProof.Rows L2 SX Ly
local macro_rules | `(tactic| wtm_at "unf") => `(tactic| (try simp only [tSeq, tNext, tBreak, tCont, tDrop, tRet, tRetN, tIfS, tAsg, tAug, tC, tOp, tUn, tNil, tCons, tOwn, tCB, tTest, tB, tAnd, tOr, tNot, tAndV, tOrV, tNotV, tIf, gName, gSub, tBM, tBM0, tM0, tM1, tSl, tPart_eq, tNoPart, tLst_eq, tTup_eq, tRevL_eq, C8.tCut, wipe, tYes, gTup, gCons, gNil, List.set_cons_zero, List.set_cons_succ, if_true, if_false, Bool.false_eq_true, Bool.not_true, Bool.not_false, reduceIte, cx_K, tFor_eq, tLc_eq, iStr, iList, iTup, iRng1, iRng2, iRng3, iEnum, iZip, iEnumS]))
local macro_rules | `(tactic| wtm_at "ne") => `(tactic| first | assumption | (apply Ne.symm; assumption) | (apply ne_new; (· assumption); (· wtm_at "lk")) | (apply Ne.symm; apply ne_new; (· assumption); (· wtm_at "lk")))
local macro_rules | `(tactic| wtm_at "lk") => `(tactic| first | assumption | exact upd_same | (apply Same.get; (· assumption); (· wtm_at "lk")) | (apply But.get; (· assumption); (· wtm_at "ne"); (· wtm_at "lk")))
local macro_rules | `(tactic| wtm_at "sq") => `(tactic| first | assumption | (apply sq_of; wtm_at "lk") | (apply Same.seq; (· assumption); (· wtm_at "sq")) | (apply But.sq; (· assumption); (· wtm_at "ne"); (· wtm_at "sq")))
local macro_rules | `(tactic| wtm_at "fr") => `(tactic| first | assumption | (apply Same.fr; (· assumption); (· wtm_at "sm")) | (apply But.fr; (· assumption); (· wtm_at "sm"); (· wtm_at "ne")))
local macro_rules | `(tactic| wtm_at "sm") => `(tactic| first | exact Same.refl _ | exact But.refl | assumption | (apply Same.tr; (· assumption); (· wtm_at "sm")) | (apply Same.b0; (· assumption); (· wtm_at "sm"); (· wtm_at "fr")) | (apply But.sa; (· assumption); (· wtm_at "sm")) | (apply But.tr; (· assumption); (· wtm_at "sm")) | (apply But.b0; (· assumption); (· wtm_at "sm"); (· wtm_at "fr")) | (apply Same.toBut; wtm_at "sm"))
local macro_rules | `(tactic| wtm_at "sc") => `(tactic| first | exact Int.zero_lt_one | (show (0 : Int) < _; omega) | (show (0 : Int) < _; decide) | exact ⟨by omega, by omega⟩ | exact .inl ⟨by omega, by omega⟩ | exact .inr ⟨by omega, by omega⟩)
local macro_rules | `(tactic| wtm_at "go1") => `(tactic| first | ((with_reducible apply g_var); (· exact rfl)) | with_reducible apply g_I0 | ((with_reducible apply g_I); (· wtm_at "sc")) | with_reducible apply g_U | with_reducible apply g_ipI | ((with_reducible apply g_addT); (· first | omega | (simp; omega))) | with_reducible apply g_inT | with_reducible apply g_ninT | ((with_reducible apply g_lenT); (· omega)) | with_reducible apply g_findT1 | with_reducible apply g_str | with_reducible apply g_part | with_reducible apply g_intB | ((with_reducible apply g_ixL); (· wtm_at "sq"); (· exact rfl)) | ((with_reducible apply g_setL); (· wtm_at "lk"); (· exact rfl)) | ((with_reducible apply g_eq); (· rfl)) | ((with_reducible apply g_ne); (· rfl)))
local macro_rules | `(tactic| wtm_at "go") => `(tactic| repeat wtm_at "go1")
local macro_rules | `(tactic| wtm_at "lp") => `(tactic| skip)
local macro_rules | `(tactic| wtm_at "om") => `(tactic| first | omega | (simp; done) | (simp; omega) | (simp at *; omega))

section
variable {P : Program} {w : World} {K : PySem.W.Frag} {mg : Str → Option Value} {base : Heap}
theorem find_oc : ∀ c ∈ BRK, ∃ k : Nat, Txt.find (S [40, 60, 91, 123, 41, 62, 93, 125]) (S [c]) = (k : Int) ∧ ([41, 62, 93, 125, 40, 60, 91, 123] : List Nat)[k]? = some (oth c) := by
  have h : ∀ c ∈ BRK, Txt.find (S [40, 60, 91, 123, 41, 62, 93, 125]) (S [c]) = ((Txt.find (S [40, 60, 91, 123, 41, 62, 93, 125]) (S [c])).toNat : Int) ∧ ([41, 62, 93, 125, 40, 60, 91, 123] : List Nat)[(Txt.find (S [40, 60, 91, 123, 41, 62, 93, 125]) (S [c])).toNat]? = some (oth c) := by decide +kernel
  exact fun c hc => ⟨_, h c hc⟩
theorem oc_brk {c : Nat} (h : c ∉ BRK) : c ∉ ([40, 60, 91, 123, 41, 62, 93, 125] : List Nat) := by
  intro hc
  have : ∀ c ∈ ([40, 60, 91, 123, 41, 62, 93, 125] : List Nat), c ∈ BRK := by decide
  exact h (this c hc)
/-! _law_from_behind -/
def sp_law_from_behind : Sp := fun vs H Q _ => ∃ l : List Nat, vs = [Tx l] ∧ l.length ≤ 1000 ∧ ∀ H', Same H H' → Q (Tx (about l)) H'
theorem ok_law_from_behind (T : Facts K mg) : C8.Cal P w K mg base 1 "_law_from_behind" sp_law_from_behind [] := by
  refine calD T.f_law_from_behind sc_law_from_behind (fun vs H Q E h => ?_) (fun f cdv A outer s H vs Q E hr h => ?_)
  · obtain ⟨l, rfl, hl, q⟩ := h; rfl
  · obtain ⟨l, rfl, hl, q⟩ := h
    refine ⟨_, (pss_cons (ps_set (i := 1) sc_law_from_behind.nd rfl (Or.inl rfl) (pe_lst pa_nil))
       (pss_cons (ps_for PassesOwn.never rfl (pi_str (pv 0)) (pg_name (i := 2) sc_law_from_behind.nd rfl (Or.inl rfl))
       (pss_cons (ps_set (i := 3) sc_law_from_behind.nd rfl (Or.inl rfl) (pe_m1 PySem.F.slot_str_find PySem.F.type_str_find mt_findT (pe_strS (l := [40, 60, 91, 123, 41, 62, 93, 125]) (by decide +kernel)) (pv 2)))
       (C8.pss_cut (ps_if (pt_cmpR op_ge (pv 3) pe_int (nomark _))
       (pss_one (ps_set (i := 2) sc_law_from_behind.nd rfl (Or.inl rfl) (pe_ix ix_txt (pe_strS (l := [41, 62, 93, 125, 40, 60, 91, 123]) (by decide +kernel)) (pv 3) (fun _ _ => rfl))))
       pss_nil)
       (pss_one (ps_expr (pe_bm PySem.F.plainAttrs_list PySem.F.slot_list_append PySem.F.type_list_append mt_append (pv 1) (pa_cons (pv 2) pa_nil)))))))
       (pss_one (ps_ret (pe_m1 PySem.F.slot_str_join PySem.F.type_str_join mt_joinT (pe_strS (l := []) (by decide +kernel)) (pe_revL (pv 1))))))), ?_⟩
    rw [st_law_from_behind]
    wtm_at "unf"
    wtm_at "go"
    refine g_lst (by show 0 ≤ 100000; decide) fun fa H1 nfa s1 efa => ?_
    wtm_at "go"
    refine ⟨_, rfl, for_txt (fun pre σ H' => ∃ y z, σ = [some (Tx l), some (V.ref fa), y, z] ∧ H' fa = some (.lst (sgV (pre.map oth1))) ∧ Same H H') ⟨_, _, rfl, efa, s1⟩ (fun pre c post σ H' e hv => ?_) (fun σ H' hv => ?_)⟩
    · obtain ⟨y, z, rfl, ef, sH⟩ := hv
      have hl2 : pre.length + 1 ≤ 1000 := by rw [e] at hl; simp at hl; omega
      wtm_at "unf"
      wtm_at "go"
      refine ⟨fun σ' H'' => ∃ z, σ' = [some (Tx l), some (V.ref fa), some (Tx [oth1 c]), z] ∧ H'' = H', ?_, ?_⟩
      · wtm_at "go"
        by_cases hb : c ∈ BRK
        · obtain ⟨k, ek, ec⟩ := find_oc c hb
          rw [ek]
          refine g_test (fun h => ?_) (fun h => ?_)
          · wtm_at "go"
            refine g_ixT (by decide) (atI_of ec) ?_
            exact ⟨_, by rw [oth1, if_pos hb], rfl⟩
          · exact absurd h (by omega)
        · rw [find_no (oc_brk hb)]
          refine g_test (fun h => ?_) (fun h => ?_)
          · exact absurd h (by decide)
          · exact ⟨_, by rw [oth1, if_neg hb], rfl⟩
      · rintro σ' H'' ⟨z', rfl, rfl⟩
        wtm_at "go"
        refine ⟨g_tyL (sq_of ef), ?_⟩
        wtm_at "go"
        refine g_append1 ef (by rw [sgV_len]; simp; omega) fun H3 b3 e3 => ?_
        rw [← sgV_snoc] at e3
        exact ⟨_, _, rfl, by rw [List.map_append]; exact e3, by wtm_at "sm"⟩
    · obtain ⟨y, z, rfl, ef, sH⟩ := hv
      wtm_at "unf"
      wtm_at "go"
      refine g_revL (sq_of ef) fun rv H6 nrv s6 erv => ?_
      rw [sgV_rev] at erv
      refine g_join0 (l := (l.map oth1).reverse) (sq_of erv) (by simp; omega) ?_
      exact q H6 (by wtm_at "sm")
/-! _law_by -/
def sp_law_by : Sp := fun vs H Q _ => ∃ l o : List Nat, vs = [Tx l, Tx o] ∧ l.length ≤ 1000 ∧ isOrd o ∧ ∀ H', Same H H' → Q (Tx (l.map (bykind o))) H'
theorem ok_law_by (T : Facts K mg) : C8.Cal P w K mg base 1 "_law_by" sp_law_by [] := by
  refine calD T.f_law_by sc_law_by (fun vs H Q E h => ?_) (fun f cdv A outer s H vs Q E hr h => ?_)
  · obtain ⟨l, o, rfl, hl, ho, q⟩ := h; rfl
  · obtain ⟨l, o, rfl, hl, ho, q⟩ := h
    refine ⟨_, (pss_cons (ps_set (i := 2) sc_law_by.nd rfl (Or.inl rfl) (pe_lst pa_nil))
       (pss_cons (ps_for PassesOwn.never rfl (pi_str (pv 0)) (pg_name (i := 3) sc_law_by.nd rfl (Or.inl rfl))
       (C8.pss_cut (ps_if (pt_cmpR op_inT (pv 3) (pe_strS (l := OPN) (by decide +kernel)) (by rfl))
       (pss_one (ps_set (i := 3) sc_law_by.nd rfl (Or.inl rfl) (pe_ix ix_txt (pv 1) (pe_m1 PySem.F.slot_str_find PySem.F.type_str_find mt_findT (pe_strS (l := OPN) (by decide +kernel)) (pv 3)) (fun _ _ => rfl))))
       (pss_one (ps_if (pt_cmpR op_inT (pv 3) (pe_strS (l := CLO) (by decide +kernel)) (by rfl))
       (pss_one (ps_set (i := 3) sc_law_by.nd rfl (Or.inl rfl) (pe_ix ix_txt (pe_strS (l := CLO) (by decide +kernel)) (pe_m1 PySem.F.slot_str_find PySem.F.type_str_find mt_findT (pe_strS (l := OPN) (by decide +kernel)) (pe_ix ix_txt (pv 1) (pe_m1 PySem.F.slot_str_find PySem.F.type_str_find mt_findT (pe_strS (l := CLO) (by decide +kernel)) (pv 3)) (fun _ _ => rfl))) (fun _ _ => rfl))))
       pss_nil)))
       (pss_one (ps_expr (pe_bm PySem.F.plainAttrs_list PySem.F.slot_list_append PySem.F.type_list_append mt_append (pv 2) (pa_cons (pv 3) pa_nil))))))
       (pss_one (ps_ret (pe_m1 PySem.F.slot_str_join PySem.F.type_str_join mt_joinT (pe_strS (l := []) (by decide +kernel)) (pv 2)))))), ?_⟩
    rw [st_law_by]
    have ho4 : o.length ≤ 100000 := by rw [ho.1]; decide
    wtm_at "unf"
    wtm_at "go"
    refine g_lst (by show 0 ≤ 100000; decide) fun fa H1 nfa s1 efa => ?_
    wtm_at "go"
    refine ⟨_, rfl, for_txt (fun pre σ H' => ∃ y, σ = [some (Tx l), some (Tx o), some (V.ref fa), y] ∧ H' fa = some (.lst (sgV (pre.map (bykind o)))) ∧ Same H H') ⟨_, rfl, efa, s1⟩ (fun pre c post σ H' e hv => ?_) (fun σ H' hv => ?_)⟩
    · obtain ⟨y, rfl, ef, sH⟩ := hv
      have hl2 : pre.length + 1 ≤ 1000 := by rw [e] at hl; simp at hl; omega
      wtm_at "unf"
      wtm_at "go"
      refine ⟨fun σ' H'' => σ' = [some (Tx l), some (Tx o), some (V.ref fa), some (Tx [bykind o c])] ∧ H'' = H', ?_, ?_⟩
      · wtm_at "go"
        refine g_test (fun h => ?_) (fun h => ?_)
        · have hb : c ∈ BRK := brk_or.mpr (.inl h)
          wtm_at "go"
          rw [find_opn c h]
          refine g_ixT ho4 (atI_of (ord_at ho (knd_lt c hb)).1) ?_
          exact ⟨by rw [bykind, if_pos h], rfl⟩
        · wtm_at "go"
          refine g_test (fun h2 => ?_) (fun h2 => ?_)
          · have hb : c ∈ BRK := brk_or.mpr (.inr h2)
            have ho2 := (ord_at ho (knd_lt c hb)).2
            wtm_at "go"
            rw [find_clo c h2]
            refine g_ixT ho4 (atI_of (ord_at ho (knd_lt c hb)).1) ?_
            wtm_at "go"
            rw [find_opn _ ho2]
            refine g_ixT (by decide) (atI_of (at_clo _ ho2)) ?_
            exact ⟨by rw [bykind, if_neg h, if_pos h2], rfl⟩
          · exact ⟨by rw [bykind, if_neg h, if_neg h2], rfl⟩
      · rintro σ' H'' ⟨rfl, rfl⟩
        wtm_at "go"
        refine ⟨g_tyL (sq_of ef), ?_⟩
        wtm_at "go"
        refine g_append1 ef (by rw [sgV_len]; simp; omega) fun H3 b3 e3 => ?_
        rw [← sgV_snoc] at e3
        exact ⟨_, rfl, by rw [List.map_append]; exact e3, by wtm_at "sm"⟩
    · obtain ⟨y, rfl, ef, sH⟩ := hv
      wtm_at "unf"
      wtm_at "go"
      exact g_join0 (sq_of ef) (by simp; omega) (q H' sH)
/-! _law_order -/
def sp_law_order : Sp := fun vs H Q _ => ∃ n : Int, vs = [.int n] ∧ ∀ (o : List Nat) (H' : Hp), o.Perm OPN → Same H H' → Q (Tx o) H'
theorem ok_law_order (T : Facts K mg) : C8.Cal P w K mg base 1 "_law_order" sp_law_order [] := by
  refine calD T.f_law_order sc_law_order (fun vs H Q E h => ?_) (fun f cdv A outer s H vs Q E hr h => ?_)
  · obtain ⟨n, rfl, q⟩ := h; rfl
  · obtain ⟨n, rfl, q⟩ := h
    refine ⟨_, (pss_cons (ps_set (i := 1) sc_law_order.nd rfl (Or.inl rfl) (pe_callTy (call_listT rfl) rfl T.b_list (by decide +kernel) (pa_cons (pe_strS (l := OPN) (by decide +kernel)) pa_nil)))
       (pss_cons (ps_set (i := 2) sc_law_order.nd rfl (Or.inl rfl) (pe_strS (l := []) (by decide +kernel)))
       (pss_cons (ps_for PassesOwn.never rfl (pi_list (pe_lst (pa_cons pe_int (pa_cons pe_int (pa_cons pe_int (pa_cons pe_int pa_nil)))))) (pg_name (i := 3) sc_law_order.nd rfl (Or.inl rfl))
       (pss_cons (ps_set (i := 2) sc_law_order.nd rfl (Or.inl rfl) (pe_op op_addT (pv 2) (pe_bm PySem.F.plainAttrs_list PySem.F.slot_list_pop PySem.F.type_list_pop mt_popAt (pv 1) (pa_cons (pe_op op_mod (pv 0) (pv 3)) pa_nil))))
       (pss_one (ps_set (i := 0) sc_law_order.nd rfl (Or.inl rfl) (pe_op op_fdiv (pv 0) (pv 3))))))
       (pss_one (ps_ret (pv 2)))))), ?_⟩
    rw [st_law_order]
    wtm_at "unf"
    wtm_at "go"
    refine g_listT (by decide) fun la H1 nla s1 ela => ?_
    wtm_at "go"
    refine g_lst (by show 4 ≤ 100000; decide) fun ms H2 nms s2 ems => ?_
    have hml : ms ≠ la := by wtm_at "ne"
    refine ⟨_, rfl, ⟨_, sq_of ems⟩, for_lst [V.int 4, V.int 3, V.int 2, V.int 1] (fun pre σ H' => ∃ (o left : List Nat) (n : Int) (y : Option V), σ = [some (V.int n), some (V.ref la), some (Tx o), y] ∧ left.length + pre.length = 4 ∧ o.length ≤ pre.length ∧ (o ++ left).Perm OPN ∧ H' la = some (.lst (sgV left)) ∧ H' ms = some (.lst [V.int 4, V.int 3, V.int 2, V.int 1]) ∧ Same H H')
      ⟨[], OPN, n, none, rfl, rfl, Nat.le_refl _, List.Perm.refl _, by wtm_at "lk", ems, by wtm_at "sm"⟩ (fun pre post σ H' e hv => ?_) (fun pre x post σ H' e hv => ?_) (fun σ H' hv => ?_)⟩
    · obtain ⟨o, left, n, y, rfl, h1, h2, h3, h4, h5, h6⟩ := hv
      exact sq_of h5
    · obtain ⟨o, left, n, y, rfl, h1, h2, h3, h4, h5, h6⟩ := hv
      have hx : ∃ z : Nat, x = .int (z : Int) ∧ z = left.length ∧ 0 < z ∧ z ≤ 4 := by
        have hm := mid_at e
        have hlt : pre.length < 4 := by
          have := congrArg List.length e
          simp at this
          omega
        have hc : pre.length = 0 ∨ pre.length = 1 ∨ pre.length = 2 ∨ pre.length = 3 := by omega
        rcases hc with hc | hc | hc | hc
        · rw [hc] at hm; exact ⟨4, (Option.some.inj hm).symm, by omega, by decide, by decide⟩
        · rw [hc] at hm; exact ⟨3, (Option.some.inj hm).symm, by omega, by decide, by decide⟩
        · rw [hc] at hm; exact ⟨2, (Option.some.inj hm).symm, by omega, by decide, by decide⟩
        · rw [hc] at hm; exact ⟨1, (Option.some.inj hm).symm, by omega, by decide, by decide⟩
      obtain ⟨z, rfl, hz, z0, z4⟩ := hx
      wtm_at "unf"
      wtm_at "go"
      refine ⟨g_tyL (sq_of h4), ?_⟩
      wtm_at "go"
      generalize hj : n % (z : Int) = jj
      have hj0 : 0 ≤ jj := by rw [← hj]; exact Int.emod_nonneg _ (by omega)
      have hj1 : jj < z := by rw [← hj]; exact Int.emod_lt_of_pos _ (by omega)
      obtain ⟨j, rfl⟩ := Int.eq_ofNat_of_zero_le hj0
      have hjl : j < left.length := by omega
      have hj2 : (sgV left)[j]? = some (Tx [left[j]]) := by
        unfold sgV
        rw [List.getElem?_map, List.getElem?_eq_getElem hjl]
        rfl
      refine g_popAt h4 hj2 (by rw [sgV_len]; omega) fun H3 b3 e3 => ?_
      have ee : (sgV left).eraseIdx j = sgV (left.eraseIdx j) := by
        unfold sgV
        rw [erase_map]
      rw [ee] at e3
      wtm_at "go"
      refine ⟨o ++ [left[j]], left.eraseIdx j, n / z, _, rfl, ?_, by simp; omega, ?_, e3, by wtm_at "lk", by wtm_at "sm"⟩
      · rw [List.length_eraseIdx_of_lt hjl]
        simp
        omega
      · refine List.Perm.trans ?_ h3
        rw [List.append_assoc]
        exact List.Perm.append_left o (erase_perm left j hjl)
    · obtain ⟨o, left, n, y, rfl, h1, h2, h3, h4, h5, h6⟩ := hv
      wtm_at "unf"
      wtm_at "go"
      have hl0 : left = [] := List.eq_nil_of_length_eq_zero (by have h1' : left.length + 4 = 4 := h1; omega)
      subst hl0
      rw [List.append_nil] at h3
      exact q o H' h3 h6
theorem ord_perm {o : List Nat} (h : o.Perm OPN) : isOrd o := ⟨h.length_eq, fun c hc => h.mem_iff.mp hc⟩
/-! _law_right -/
def sp_law_right : Sp := fun vs H Q _ => ∃ l o : List Nat, vs = [Tx l, Tx o] ∧ l.length ≤ 1000 ∧ isOrd o ∧ ∀ H', Same H H' → Q (.bl true) H'
theorem ok_law_right (T : Facts K mg) : C8.Cal P w K mg base 4 "_law_right" sp_law_right [] := by
  refine calD T.f_law_right sc_law_right (fun vs H Q E h => ?_) (fun f cdv A outer s H vs Q E hr h => ?_)
  · obtain ⟨l, o, rfl, hl, ho, q⟩ := h; rfl
  · obtain ⟨l, o, rfl, hl, ho, q⟩ := h
    refine ⟨_, (pss_cons (ps_for PassesOwn.never rfl (pi_list (pe_lst (pa_cons (pe_tup (pa_cons (pe_own (ok_turned_about T) hr (by decide) rfl (pa_cons (pv 0) pa_nil)) (pa_cons (pe_own (ok_law_from_behind T) hr (by decide) rfl (pa_cons (pv 0) pa_nil)) pa_nil))) (pa_cons (pe_tup (pa_cons (pe_own (ok_in_kinds T) hr (by decide) rfl (pa_cons (pv 0) (pa_cons (pv 1) pa_nil))) (pa_cons (pe_own (ok_law_by T) hr (by decide) rfl (pa_cons (pv 0) (pa_cons (pv 1) pa_nil))) pa_nil))) pa_nil)))) (pg_tup rfl (pgs_cons (pg_name (i := 2) sc_law_right.nd rfl (Or.inl rfl)) (pgs_cons (pg_name (i := 3) sc_law_right.nd rfl (Or.inl rfl)) pgs_nil)))
       (pss_one (ps_ifC (PW.pt (pw_or (pt_not (pt_val (pe_callB call_isi rfl T.b_isinstance (by decide +kernel) (pa_cons (pv 2) (pa_cons (pe_bltn (v := .ty "str") rfl T.b_str (by decide +kernel) rfl) pa_nil))))) (pw_or1 (pt_cmpR op_ne (pv 2) (pv 3) (nomark _)))))
       (pss_one (ps_ret pe_bl))
       pss_nil)))
       (pss_one (ps_ret pe_bl))), ?_⟩
    rw [st_law_right]
    wtm_at "unf"
    wtm_at "go"
    refine ⟨l, rfl, hl, ?_⟩
    wtm_at "go"
    refine ⟨l, rfl, hl, fun H1 s1 => ?_⟩
    refine g_tup (by show 2 ≤ 100000; decide) fun t1 H2 n1 s2 e1 => ?_
    wtm_at "go"
    refine ⟨l, o, rfl, hl, ho, ?_⟩
    wtm_at "go"
    refine ⟨l, o, rfl, hl, ho, fun H3 s3 => ?_⟩
    refine g_tup (by show 2 ≤ 100000; decide) fun t2 H4 n2 s4 e2 => ?_
    refine g_lst (by show 2 ≤ 100000; decide) fun tl H5 n5 s5 e5 => ?_
    refine ⟨_, rfl, ⟨_, sq_of e5⟩, for_lst [V.ref t1, V.ref t2] (fun pre σ H' => ∃ y z, σ = [some (Tx l), some (Tx o), y, z] ∧ Same H5 H') ⟨_, _, rfl, Same.refl _⟩ (fun pre post σ H' e hv => ?_) (fun pre x post σ H' e hv => ?_) (fun σ H' hv => ?_)⟩
    · obtain ⟨y, z, rfl, sH⟩ := hv
      wtm_at "sq"
    · obtain ⟨y, z, rfl, sH⟩ := hv
      have hx : ∃ (t : Addr) (r : List Nat), x = .ref t ∧ H' t = some (.tup [Tx r, Tx r]) := by
        have hm : x ∈ [V.ref t1, V.ref t2] := by rw [e]; simp
        rcases List.mem_cons.mp hm with h | h
        · exact ⟨t1, about l, h, by wtm_at "lk"⟩
        · rw [List.mem_singleton] at h
          exact ⟨t2, _, h, by wtm_at "lk"⟩
      obtain ⟨t, r, rfl, et⟩ := hx
      wtm_at "unf"
      refine ⟨t, _, rfl, st_of et, rfl, _, _, rfl, _, _, rfl, rfl, ?_⟩
      refine g_ifC (b := false) (fun Q q => ?_) (fun h => ?_) (fun h => ?_)
      · wtm_at "unf"
        wtm_at "go"
        refine g_isi (b := true) ty_str (by decide +kernel) ?_
        refine ⟨_, rfl, ?_⟩
        wtm_at "unf"
        wtm_at "go"
        refine ⟨_, rfl, ?_⟩
        rw [decide_eq_true rfl]
        exact q
      · cases h
      · exact ⟨_, _, rfl, sH⟩
    · obtain ⟨y, z, rfl, sH⟩ := hv
      exact q H' (by wtm_at "sm")
/-! law -/
def spLaw (K : PySem.W.Frag) : Sp := fun vs H Q _ => ∃ (a : Addr) (ns : List Int), vs = [.ref a] ∧ SqL K H a (ns.map V.int) ∧ ns.length ≤ 63 ∧ ∀ H', Q (.bl true) H'
theorem ok_law {f : Addr} {fd : FuncData} (T : Facts K mg) (F : FunD K "law" "law" (defArgs s_law) (defBody s_law) (defScope s_law) [] [] f fd) : FnOk P w K mg base C8.CX0 6 f fd ["script"] (spLaw K) := by
  refine fnD F sc_law (fun vs H Q E h => ?_) (fun cdv A outer s H vs Q E hr h => ?_)
  · obtain ⟨a, ns, rfl, hS, hlen, q⟩ := h; rfl
  · obtain ⟨a, ns, rfl, hS, hlen, q⟩ := h
    refine ⟨_, (pss_cons (ps_for PassesOwn.never rfl (pi_enum rfl T.b_enumerate (pa_cons (pe_op op_cat (pe_slice sl_list (pv 0) po_none (po_some pe_int)) (pe_lst (pa_cons (pe_callB call_lenL rfl T.b_len PySem.boot_len (pa_cons (pv 0) pa_nil)) pa_nil))) pa_nil)) (pg_tup rfl (pgs_cons (pg_name (i := 1) sc_law.nd rfl (Or.inl rfl)) (pgs_cons (pg_name (i := 2) sc_law.nd rfl (Or.inl rfl)) pgs_nil)))
       (pss_cons (ps_set (i := 3) sc_law.nd rfl (Or.inl rfl) (pe_own (ok_law_pot T) hr (by decide) rfl (pa_cons (pv 2) pa_nil)))
       (pss_cons (ps_set (i := 4) sc_law.nd rfl (Or.inl rfl) (pe_own (ok_law_text T) hr (by decide) rfl (pa_cons (pv 3) (pa_cons (pe_own (ok_law_long T) hr (by decide) rfl (pa_cons (pv 3) (pa_cons (pv 1) pa_nil))) pa_nil))))
       (pss_one (ps_if (pt_not (pt_val (pe_own (ok_law_right T) hr (by decide) rfl (pa_cons (pv 4) (pa_cons (pe_own (ok_law_order T) hr (by decide) rfl (pa_cons (pe_own (ok_law_take T) hr (by decide) rfl (pa_cons (pv 3) (pa_cons pe_int pa_nil))) pa_nil)) pa_nil)))))
       (pss_one (ps_ret pe_bl))
       pss_nil)))))
       (pss_cons (ps_for PassesOwn.never rfl (pi_range1 rfl T.b_range (pa_cons pe_int pa_nil)) (pg_name (i := 5) sc_law.nd rfl (Or.inl rfl))
       (pss_one (ps_if (pt_not (pt_val (pe_own (ok_law_right T) hr (by decide) rfl (pa_cons (pe_strS (l := [97, 98, 99, 122, 40, 41, 60, 62, 91, 93, 123, 125, 120, 121, 122, 125, 123, 93, 91, 62, 60, 41, 40]) (by decide +kernel)) (pa_cons (pe_own (ok_law_order T) hr (by decide) rfl (pa_cons (pv 5) pa_nil)) pa_nil)))))
       (pss_one (ps_ret pe_bl))
       pss_nil)))
       (pss_one (ps_ret (pe_own (ok_law_right T) hr (by decide) rfl (pa_cons (pe_strS (l := []) (by decide +kernel)) (pa_cons (pe_strS (l := [60, 40, 123, 91]) (by decide +kernel)) pa_nil))))))), ?_⟩
    rw [st_law]
    wtm_at "unf"
    wtm_at "go"
    refine g_slL hS fun c1 H1 n1 s1 e1 => ?_
    obtain ⟨ms, ems, hms⟩ := cut_ints ns none (some 8)
    rw [ems] at e1
    wtm_at "go"
    refine g_lenL (Same.seq s1 hS) ?_
    refine g_lst (by show 1 ≤ 100000; decide) fun c2 H2 n2 s2 e2 => ?_
    refine g_cat (by wtm_at "lk") e2 (by simp; omega) fun c3 H3 n3 s3 e3 => ?_
    obtain ⟨zs, ezs⟩ : ∃ zs : List Int, ms.map V.int ++ [V.int (ns.map V.int).length] = zs.map V.int := ⟨ms ++ [((ns.map V.int).length : Int)], by rw [List.map_append]; rfl⟩
    rw [ezs] at e3
    refine ⟨_, _, rfl, sq_of e3, for_enum (zs.map V.int) (fun pre σ H' => ∃ y1 y2 y3 y4 y5, σ = [some (V.ref a), y1, y2, y3, y4, y5] ∧ Same H3 H') ⟨_, _, _, _, _, rfl, Same.refl _⟩ (fun pre post σ H' e hv => ?_) (fun pre x post σ H' t H'' e hv nt st et => ?_) (fun σ H' hv => ?_)⟩
    · obtain ⟨y1, y2, y3, y4, y5, rfl, sH⟩ := hv
      exact sq_of (by wtm_at "lk")
    · obtain ⟨y1, y2, y3, y4, y5, rfl, sH⟩ := hv
      obtain ⟨z, rfl⟩ : ∃ z, x = V.int z := by
        have hm : x ∈ zs.map V.int := by rw [e]; simp
        obtain ⟨z, _, hz⟩ := List.mem_map.mp hm
        exact ⟨z, hz.symm⟩
      wtm_at "unf"
      refine ⟨t, _, rfl, st_of et, rfl, _, _, rfl, _, _, rfl, rfl, ?_⟩
      wtm_at "go"
      refine ⟨z, rfl, fun p P1 H5 np s5 e5 => ?_⟩
      wtm_at "go"
      refine ⟨p, P1, _, rfl, e5, fun r P2 H6 hr b6 e6 => ?_⟩
      refine ⟨p, P2, r, rfl, e6, hr, fun l P3 H7 hl hs b7 e7 => ?_⟩
      wtm_at "go"
      refine ⟨p, P3, 24, rfl, e7, by decide, by decide, fun x P4 H8 x0 x1 b8 e8 => ?_⟩
      refine ⟨x, rfl, fun o H9 ho s9 => ?_⟩
      refine ⟨l, o, rfl, by omega, ord_perm ho, fun H10 s10 => ?_⟩
      refine ⟨_, rfl, ?_⟩
      wtm_at "unf"
      refine ⟨_, _, _, _, _, rfl, by wtm_at "sm"⟩
    · obtain ⟨y1, y2, y3, y4, y5, rfl, sH⟩ := hv
      wtm_at "unf"
      refine ⟨_, rfl, by decide, by decide, for_rng (fun i σ H' => ∃ y1 y2 y3 y4 y5, σ = [some (V.ref a), y1, y2, y3, y4, y5] ∧ True) ⟨_, _, _, _, _, rfl, trivial⟩ (fun i σ H' hi hv => ?_) (fun σ H' hv => ?_)⟩
      · obtain ⟨y1, y2, y3, y4, y5, rfl, _⟩ := hv
        wtm_at "unf"
        wtm_at "go"
        refine ⟨_, rfl, fun o H9 ho s9 => ?_⟩
        refine ⟨_, o, rfl, by decide, ord_perm ho, fun H10 s10 => ?_⟩
        refine ⟨_, rfl, ?_⟩
        wtm_at "unf"
        exact ⟨_, _, _, _, _, rfl, trivial⟩
      · obtain ⟨y1, y2, y3, y4, y5, rfl, _⟩ := hv
        wtm_at "unf"
        exact ⟨[], _, rfl, by decide, ⟨rfl, by decide⟩, fun H10 s10 => q _⟩
end
end K03

set_option maxHeartbeats 0
namespace K03
open PySem PySem.Spec PyProof.Rows L2 SX Ly
/-! ### the head -/
def d_kind_of : He.DefD := ⟨("kind_of", none), "kind_of", "kind_of", defArgs s_kind_of, defBody s_kind_of, defScope s_kind_of, [], []⟩
def d_other_side : He.DefD := ⟨("other_side", none), "other_side", "other_side", defArgs s_other_side, defBody s_other_side, defScope s_other_side, [], []⟩
def d_turned_about : He.DefD := ⟨("turned_about", none), "turned_about", "turned_about", defArgs s_turned_about, defBody s_turned_about, defScope s_turned_about, [], []⟩
def d_in_kinds : He.DefD := ⟨("in_kinds", none), "in_kinds", "in_kinds", defArgs s_in_kinds, defBody s_in_kinds, defScope s_in_kinds, [], []⟩
def d_law_mixed : He.DefD := ⟨("_law_mixed", none), "_law_mixed", "_law_mixed", defArgs s_law_mixed, defBody s_law_mixed, defScope s_law_mixed, [], []⟩
def d_law_pot : He.DefD := ⟨("_law_pot", none), "_law_pot", "_law_pot", defArgs s_law_pot, defBody s_law_pot, defScope s_law_pot, [], []⟩
def d_law_take : He.DefD := ⟨("_law_take", none), "_law_take", "_law_take", defArgs s_law_take, defBody s_law_take, defScope s_law_take, [], []⟩
def d_law_sign : He.DefD := ⟨("_law_sign", none), "_law_sign", "_law_sign", defArgs s_law_sign, defBody s_law_sign, defScope s_law_sign, [], []⟩
def d_law_clean : He.DefD := ⟨("_law_clean", none), "_law_clean", "_law_clean", defArgs s_law_clean, defBody s_law_clean, defScope s_law_clean, [], []⟩
def d_law_bent : He.DefD := ⟨("_law_bent", none), "_law_bent", "_law_bent", defArgs s_law_bent, defBody s_law_bent, defScope s_law_bent, [], []⟩
def d_law_long : He.DefD := ⟨("_law_long", none), "_law_long", "_law_long", defArgs s_law_long, defBody s_law_long, defScope s_law_long, [], []⟩
def d_law_text : He.DefD := ⟨("_law_text", none), "_law_text", "_law_text", defArgs s_law_text, defBody s_law_text, defScope s_law_text, [], []⟩
def d_law_from_behind : He.DefD := ⟨("_law_from_behind", none), "_law_from_behind", "_law_from_behind", defArgs s_law_from_behind, defBody s_law_from_behind, defScope s_law_from_behind, [], []⟩
def d_law_by : He.DefD := ⟨("_law_by", none), "_law_by", "_law_by", defArgs s_law_by, defBody s_law_by, defScope s_law_by, [], []⟩
def d_law_order : He.DefD := ⟨("_law_order", none), "_law_order", "_law_order", defArgs s_law_order, defBody s_law_order, defScope s_law_order, [], []⟩
def d_law_right : He.DefD := ⟨("_law_right", none), "_law_right", "_law_right", defArgs s_law_right, defBody s_law_right, defScope s_law_right, [], []⟩
def d_law : He.DefD := ⟨("law", none), "law", "law", defArgs s_law, defBody s_law, defScope s_law, [], []⟩
def fn : List He.DefD := [d_kind_of, d_other_side, d_turned_about, d_in_kinds, d_law_mixed, d_law_pot, d_law_take, d_law_sign, d_law_clean, d_law_bent, d_law_long, d_law_text, d_law_from_behind, d_law_by, d_law_order, d_law_right, d_law]
def fa : List He.Fa := [.glo "kind_of", .glo "other_side", .glo "turned_about", .glo "in_kinds", .glo "_law_mixed", .glo "_law_pot", .glo "_law_take", .glo "_law_sign", .glo "_law_clean", .glo "_law_bent", .glo "_law_long", .glo "_law_text", .glo "_law_from_behind", .glo "_law_by", .glo "_law_order", .glo "_law_right", .glo "law", .str "OPENING" (S OPN), .str "CLOSING" (S CLO), .str "BRACKETS" (S BRK), .free "len", .free "int", .free "str", .free "range", .free "enumerate", .free "isinstance", .free "list"]
abbrev R : PySem.W.OpenRow := PySem.W.OpenLaw.row PySem.Challenge.rw_nestmend_k03_turned_about_and_in_kinds
abbrev hk : PySem.W.Hook := He.hookD 4 fa fn
def ob (s : PySem.W.SharedT) : He.AlD := He.obsDG 4 fa fn (HandSHeadRun.getT s)
theorem ob_eq (s : PySem.W.SharedT) : ob s = hk.obs s.abs := He.obsDG_eq (HandSHeadRun.getT_eq s)
def loose : List Str := ["OPENING", "CLOSING", "BRACKETS", "kind_of", "other_side", "turned_about", "in_kinds", "_law_mixed", "_law_pot", "_law_take", "_law_sign", "_law_clean", "_law_bent", "_law_long", "_law_text", "_law_from_behind", "_law_by", "_law_order", "_law_right"]
theorem run (w : World) : HandSHeadRun.RunEq R (PySem.W.view R.prog [21]) hk ob 3000 loose w := by
  intro os
  kernel_rfl
theorem facts {K : PySem.W.Frag} {h : Heap} {mg : Str → Option Value} (X : K.In h) (G : h.Ns mainGlobals mg) (c : He.SaysD fa fn K) : Facts K mg where
  f_kind_of := by
    obtain ⟨fd, F⟩ := c.def_ 0 (d := d_kind_of) rfl
    exact ⟨_, fd, F, He.glo_ok X G (c.fact 0 (f := .glo "kind_of") rfl), FunD.bindsN F fun _ _ _ _ _ _ us hl => match us, hl with | [_], _ => rfl⟩
  f_other_side := by
    obtain ⟨fd, F⟩ := c.def_ 1 (d := d_other_side) rfl
    exact ⟨_, fd, F, He.glo_ok X G (c.fact 1 (f := .glo "other_side") rfl), FunD.bindsN F fun _ _ _ _ _ _ us hl => match us, hl with | [_], _ => rfl⟩
  f_turned_about := by
    obtain ⟨fd, F⟩ := c.def_ 2 (d := d_turned_about) rfl
    exact ⟨_, fd, F, He.glo_ok X G (c.fact 2 (f := .glo "turned_about") rfl), FunD.bindsN F fun _ _ _ _ _ _ us hl => match us, hl with | [_], _ => rfl⟩
  f_in_kinds := by
    obtain ⟨fd, F⟩ := c.def_ 3 (d := d_in_kinds) rfl
    exact ⟨_, fd, F, He.glo_ok X G (c.fact 3 (f := .glo "in_kinds") rfl), FunD.bindsN F fun _ _ _ _ _ _ us hl => match us, hl with | [_, _], _ => rfl⟩
  f_law_mixed := by
    obtain ⟨fd, F⟩ := c.def_ 4 (d := d_law_mixed) rfl
    exact ⟨_, fd, F, He.glo_ok X G (c.fact 4 (f := .glo "_law_mixed") rfl), FunD.bindsN F fun _ _ _ _ _ _ us hl => match us, hl with | [_, _], _ => rfl⟩
  f_law_pot := by
    obtain ⟨fd, F⟩ := c.def_ 5 (d := d_law_pot) rfl
    exact ⟨_, fd, F, He.glo_ok X G (c.fact 5 (f := .glo "_law_pot") rfl), FunD.bindsN F fun _ _ _ _ _ _ us hl => match us, hl with | [_], _ => rfl⟩
  f_law_take := by
    obtain ⟨fd, F⟩ := c.def_ 6 (d := d_law_take) rfl
    exact ⟨_, fd, F, He.glo_ok X G (c.fact 6 (f := .glo "_law_take") rfl), FunD.bindsN F fun _ _ _ _ _ _ us hl => match us, hl with | [_, _], _ => rfl⟩
  f_law_sign := by
    obtain ⟨fd, F⟩ := c.def_ 7 (d := d_law_sign) rfl
    exact ⟨_, fd, F, He.glo_ok X G (c.fact 7 (f := .glo "_law_sign") rfl), FunD.bindsN F fun _ _ _ _ _ _ us hl => match us, hl with | [_], _ => rfl⟩
  f_law_clean := by
    obtain ⟨fd, F⟩ := c.def_ 8 (d := d_law_clean) rfl
    exact ⟨_, fd, F, He.glo_ok X G (c.fact 8 (f := .glo "_law_clean") rfl), FunD.bindsN F fun _ _ _ _ _ _ us hl => match us, hl with | [_, _], _ => rfl⟩
  f_law_bent := by
    obtain ⟨fd, F⟩ := c.def_ 9 (d := d_law_bent) rfl
    exact ⟨_, fd, F, He.glo_ok X G (c.fact 9 (f := .glo "_law_bent") rfl), FunD.bindsN F fun _ _ _ _ _ _ us hl => match us, hl with | [_, _], _ => rfl⟩
  f_law_long := by
    obtain ⟨fd, F⟩ := c.def_ 10 (d := d_law_long) rfl
    exact ⟨_, fd, F, He.glo_ok X G (c.fact 10 (f := .glo "_law_long") rfl), FunD.bindsN F fun _ _ _ _ _ _ us hl => match us, hl with | [_, _], _ => rfl⟩
  f_law_text := by
    obtain ⟨fd, F⟩ := c.def_ 11 (d := d_law_text) rfl
    exact ⟨_, fd, F, He.glo_ok X G (c.fact 11 (f := .glo "_law_text") rfl), FunD.bindsN F fun _ _ _ _ _ _ us hl => match us, hl with | [_, _], _ => rfl⟩
  f_law_from_behind := by
    obtain ⟨fd, F⟩ := c.def_ 12 (d := d_law_from_behind) rfl
    exact ⟨_, fd, F, He.glo_ok X G (c.fact 12 (f := .glo "_law_from_behind") rfl), FunD.bindsN F fun _ _ _ _ _ _ us hl => match us, hl with | [_], _ => rfl⟩
  f_law_by := by
    obtain ⟨fd, F⟩ := c.def_ 13 (d := d_law_by) rfl
    exact ⟨_, fd, F, He.glo_ok X G (c.fact 13 (f := .glo "_law_by") rfl), FunD.bindsN F fun _ _ _ _ _ _ us hl => match us, hl with | [_, _], _ => rfl⟩
  f_law_order := by
    obtain ⟨fd, F⟩ := c.def_ 14 (d := d_law_order) rfl
    exact ⟨_, fd, F, He.glo_ok X G (c.fact 14 (f := .glo "_law_order") rfl), FunD.bindsN F fun _ _ _ _ _ _ us hl => match us, hl with | [_], _ => rfl⟩
  f_law_right := by
    obtain ⟨fd, F⟩ := c.def_ 15 (d := d_law_right) rfl
    exact ⟨_, fd, F, He.glo_ok X G (c.fact 15 (f := .glo "_law_right") rfl), FunD.bindsN F fun _ _ _ _ _ _ us hl => match us, hl with | [_, _], _ => rfl⟩
  c_OPENING := by
    obtain ⟨t, e⟩ := He.str_ok X G (c.fact 17 (f := .str "OPENING" (S OPN)) rfl)
    exact ⟨_, e, ⟨t, rfl⟩⟩
  c_CLOSING := by
    obtain ⟨t, e⟩ := He.str_ok X G (c.fact 18 (f := .str "CLOSING" (S CLO)) rfl)
    exact ⟨_, e, ⟨t, rfl⟩⟩
  c_BRACKETS := by
    obtain ⟨t, e⟩ := He.str_ok X G (c.fact 19 (f := .str "BRACKETS" (S BRK)) rfl)
    exact ⟨_, e, ⟨t, rfl⟩⟩
  b_len := He.free_ok X G (c.fact 20 (f := .free "len") rfl)
  b_int := He.free_ok X G (c.fact 21 (f := .free "int") rfl)
  b_str := He.free_ok X G (c.fact 22 (f := .free "str") rfl)
  b_range := He.free_ok X G (c.fact 23 (f := .free "range") rfl)
  b_enumerate := He.free_ok X G (c.fact 24 (f := .free "enumerate") rfl)
  b_isinstance := He.free_ok X G (c.fact 25 (f := .free "isinstance") rfl)
  b_list := He.free_ok X G (c.fact 26 (f := .free "list") rfl)
theorem law_at {K : PySem.W.Frag} {h : Heap} {mg : Str → Option Value} {f : Addr} (X : K.In h) (G : h.Ns mainGlobals mg) (hfa : mg ("law" : Str) = some (.ref f)) (c : He.SaysD fa fn K) :
    ∃ fd : FuncData, (∀ (s : Shared) (v : Value), BindsTo s fd ⟨[v], []⟩ [("script", v)]) ∧ FunD K "law" "law" (defArgs s_law) (defBody s_law) (defScope s_law) [] [] f fd := by
  obtain ⟨fd, F⟩ := c.def_ 16 (d := d_law) rfl
  have e := hfa.symm.trans (He.glo_ok X G (c.fact 16 (f := .glo "law") rfl))
  cases e
  have b := FunD.bindsA (ps := ["script"]) F fun _ _ _ _ _ _ us hl => match us, hl with | [_], _ => rfl
  exact ⟨fd, fun s v => b s [v] rfl, F⟩

end K03
open PySem PySem.W PySem.Calls PyProof.Rows
theorem PySem.Challenge.cw_nestmend_k03_turned_about_and_in_kinds_holds : PySem.Challenge.rw_nestmend_k03_turned_about_and_in_kinds.Holds := by
  w_on; o_law
  refine HandSHeadRun.head_any (r := OpenLaw.row PySem.Challenge.rw_nestmend_k03_turned_about_and_in_kinds) (q := view (OpenLaw.row PySem.Challenge.rw_nestmend_k03_turned_about_and_in_kinds).prog [21]) (H := K03.hk) (ob := K03.ob) (M := 3000) (loose := K03.loose) (d := HandSHeadRun.topDef (OpenLaw.row PySem.Challenge.rw_nestmend_k03_turned_about_and_in_kinds).prog 21) (kwd := []) K03.ob_eq
    (by kernel_rfl) (fun s => by kernel_rfl) K03.run (by kernel_rfl) (by kernel_rfl) (by kernel_rfl) (by rfl) (by first | assumption | decide +kernel) (by decide +kernel) ⟨rfl, rfl, rfl, rfl, rfl, by decide +kernel⟩ ?hw ?hc
  case hw => w_witness2
  case hc =>
    refine L2.walk_ofE (l := PySem.Challenge.rw_nestmend_k03_turned_about_and_in_kinds) (n := 63) (k := 6) (x := "script") (CX := C8.CX0) rfl (by decide) (by kernel_rfl) ⟨rfl, by decide, by decide⟩ ?F (fun _ _ _ _ z => z)
    intro w mg fa h Y G hmg0
    obtain ⟨K, KX, c⟩ := Y
    have hmg : mg ("law" : PySem.Str) = some (.ref fa) := by
      have e : (HandSHeadRun.topDef (OpenLaw.row PySem.Challenge.rw_nestmend_k03_turned_about_and_in_kinds).prog 21).name = ("law" : PySem.Str) := by kernel_rfl
      rw [← e]
      exact hmg0
    obtain ⟨fd, hb, F⟩ := K03.law_at KX G hmg c
    exact ⟨K, fd, K03.spLaw K, KX, hb, fun H a ns hl _ hS => ⟨a, ns, rfl, hS, hl, fun _ => rfl⟩, fun base _ _ => K03.ok_law (K03.facts KX G c) F⟩
