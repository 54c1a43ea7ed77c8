import PyProof.Rows.All
import Wide.All
import OpenK.AllK
import Wide.FinOn
import HandS.ForMost
import HandS.Codes
import HandS.Style
import HandS.Walk
import HandS.IsInst
import HandS.Wide
import HandS.Defaults
import HandS.Flow
import HandS.Replace
import KE.GoesMore
import KE.GoesZip
import KE.GoesEnum
import PyProof.ListStr
import PyProof.StrBlock2
import HandS.Conv
import HandS.ReplaceLit
import HandS.ReplaceList
import PySem.Challenge.RW_nestmend_k37_clean_stretches
import HandS.Head0
import HandS.Head1
import HandS.Head2
import HandS.HeadEnd
import HandS.HeadHook1
import HandS.HeadHook2
set_option Elab.async false
set_option linter.all false
set_option maxRecDepth 100000
set_option maxHeartbeats 4000000
namespace Ly
open PySem PySem.Spec PyProof.Rows L2 SX

/-- a text by its codes -/
abbrev Tx (l : List Nat) : V := V.str (S l)
theorem Tx_inj {a b : List Nat} : Tx a = Tx b ↔ a = b := ⟨fun h => S_inj (V.str.inj h), fun h => by rw [h]⟩
def OPN : List Nat := [40, 60, 91, 123]
def CLO : List Nat := [41, 62, 93, 125]
def BRK : List Nat := [40, 41, 60, 62, 91, 93, 123, 125]
def LET : List Nat := [97, 98, 99, 100, 101, 102, 103, 104, 105, 106, 107, 108, 109, 110, 111, 112, 113, 114, 115, 116, 117, 118, 119, 120, 121, 122]

/-! ### rules -/
section
variable {X : Cx} {k j : Nat} {x : Str} {sp : Sp} {p pos : Pos} {e : Expr} {es : List Expr} {t : TA} {ta tb : TE}
def tOwn (sp : Sp) (t : TA) : TE := fun σ H Q => t σ H fun vs H1 => sp vs H1 Q C8.E0
theorem pe_own (c : C8.Cal X.prog X.w X.K X.mg X.base k x sp []) (hr : Room j X.A) (hk : k ≤ j) (hg : Gl X x) (ha : PA X (e :: es) t)
    (hdb : (x == ("__debug__" : Str)) = false := by decide) (he : starEach (e :: es) X.env = (false, eval e X.env) :: starEach es X.env := by rfl) (hpl : (backTo pos (starEach es X.env)).any (·.1) = false := by rfl) :
    PE X (.Call (.Name x p) (e :: es) [] pos) (tOwn sp t) := by
  have h := C8.pe_c (p := p) c hr hk hg ha hdb he hpl
  have e : tCall sp [] C8.E0 t = tOwn sp t := by
    funext σ H Q
    show (t σ H fun vs H1 => sp (vs ++ []) H1 Q C8.E0) = _
    simp only [List.append_nil]
    rfl
  rw [← e]
  exact h
theorem pe_strS {z : Str} {jj : Nat} {l : List Nat} (h : z = S l) : PE X (.Constant (.str z) jj pos) (tC (Tx l)) := by
  subst h
  exact pe_str
/-- operators by names -/
def rAddT : R2 := fun x y H Q => ∃ a b : List Nat, x = Tx a ∧ y = Tx b ∧ a.length + b.length ≤ 100000 ∧ Q (Tx (a ++ b)) H
theorem op_addT : OpR X (binaryOp .Add) rAddT := fun pins s σ H x y v u Q I rx ry h => by
  obtain ⟨a, b, rfl, rfl, hl, q⟩ := h
  refine op_add_str pins s σ H _ _ v u Q I rx ry ⟨_, _, rfl, rfl, ?_, ?_⟩
  · rw [S_len, S_len]
    exact Nat.le_trans hl (by decide)
  · rw [S_cat]
    exact q
theorem iop_addT : PIp X .Add rAddT := fun pins s σ H x y v u Q I rx ry h => by
  obtain ⟨a, b, rfl, rfl, hl, q⟩ := h
  refine iop_add_str pins s σ H _ _ v u Q I rx ry ⟨_, _, rfl, rfl, ?_, ?_⟩
  · rw [S_len, S_len]
    exact Nat.le_trans hl (by decide)
  · rw [S_cat]
    exact q
def rInT (neg : Bool) : R2 := fun x y H Q => ∃ (c : Nat) (l : List Nat), x = Tx [c] ∧ y = Tx l ∧ Q (.bl (if neg then !decide (c ∈ l) else decide (c ∈ l))) H
theorem op_inT : OpR X (compareOp .In) (rInT false) := fun pins s σ H x y v u Q I rx ry h => by
  obtain ⟨c, l, rfl, rfl, q⟩ := h
  exact op_in_sign pins s σ H _ _ v u Q I rx ry ⟨c, S l, rfl, rfl, q⟩
theorem op_notInT : OpR X (compareOp .NotIn) (rInT true) := fun pins s σ H x y v u Q I rx ry h => by
  obtain ⟨c, l, rfl, rfl, q⟩ := h
  exact op_notIn_sign pins s σ H _ _ v u Q I rx ry ⟨c, S l, rfl, rfl, q⟩
def rIxT1 : R2 := fun x y H Q => ∃ (l : List Nat) (i : Int) (c : Nat), x = Tx l ∧ y = .int i ∧ l.length ≤ 100000 ∧ atI l i = some c ∧ Q (Tx [c]) H
theorem ix_txt : IxR X rIxT1 := fun value slice pins s σ H x y v u Q I rx ry h hs => by
  obtain ⟨l, i, c, rfl, rfl, hl, h1, q⟩ := h
  refine ix_str value slice pins s σ H _ _ v u Q I rx ry ⟨S l, i, c, rfl, rfl, ?_, h1, q⟩ hs
  rw [S_len]
  exact Nat.le_trans hl (by decide)
def rLenT : List V → Hp → VK → Prop := fun xs H Q => ∃ l : List Nat, xs = [Tx l] ∧ l.length ≤ 100000 ∧ Q (.int l.length) H
theorem call_lenT : CallR X (.builtin "len") rLenT := fun pins s σ H xs us Q I r h => by
  obtain ⟨l, rfl, hl, q⟩ := h
  refine call_len_str pins s σ H _ us Q I r ⟨S l, rfl, ?_, ?_⟩
  · rw [S_len]
    exact Nat.le_trans hl (by decide)
  · rw [S_len]
    exact q
def rIntB : List V → Hp → VK → Prop := fun xs H Q => ∃ b : Bool, xs = [.bl b] ∧ Q (.int (if b then 1 else 0)) H
theorem call_intB : CallR X (.type "int") rIntB := fun pins s σ H xs us Q I r h => by
  obtain ⟨b, rfl, q⟩ := h
  exact call_int1 pins s σ H _ us Q I r (.inr ⟨b, rfl, q⟩)
def rLenL (K : PySem.W.Frag) : List V → Hp → VK → Prop := fun xs H Q => ∃ p ys, xs = [.ref p] ∧ (SqL K H p ys ∨ SqT K H p ys) ∧ Q (.int ys.length) H
theorem call_lenL : CallR X (.builtin "len") (rLenL X.K) := call_len_seq
def rFindT : V → List V → Hp → VK → Prop := fun x xs H Q => ∃ a b : List Nat, x = Tx a ∧ xs = [Tx b] ∧ Q (.int (Txt.find (S a) (S b))) H
theorem mt_findT : MtR X "str.find" rFindT := fun pins s σ H x xs v us Q I rx rs h => by
  obtain ⟨a, b, h1, h2, q⟩ := h
  exact mt_find pins s σ H x xs v us Q I rx rs ⟨S a, S b, h1, h2, q⟩
def rIdxT : V → List V → Hp → VK → Prop := fun x xs H Q => ∃ (a b : List Nat) (i : Nat), x = Tx a ∧ xs = [Tx b] ∧ Txt.find (S a) (S b) = (i : Int) ∧ Q (.int i) H
theorem mt_idxT : MtR X "str.index" rIdxT := fun pins s σ H x xs v us Q I rx rs h => by
  obtain ⟨a, b, i, h1, h2, h3, q⟩ := h
  unfold Txt.find at h3
  cases ho : Builtin.Str.occurrences (S a) (S b) 0 (S a).length 1 with
  | nil =>
    rw [ho] at h3
    exact absurd h3 (by show ¬ ((-1 : Int) = (i : Int)); omega)
  | cons j r =>
    rw [ho] at h3
    have e : (j : Int) = (i : Int) := h3
    have e2 : j = i := by omega
    subst e2
    exact mt_sindex pins s σ H x xs v us Q I rx rs ⟨S a, S b, j, r, h1, h2, ho, q⟩
def rSlTx : V → Option Int → Option Int → Hp → VK → Prop := fun x lo hi H Q => ∃ l : List Nat, x = Tx l ∧ l.length ≤ 100000 ∧ Q (.str (Txt.slice (S l) lo hi)) H
theorem sl_tx : SlR X rSlTx := by
  intro pins s σ H x v vl vu lo hi sl Q I rx hs pl pu h
  obtain ⟨l, hx, hz, q⟩ := h
  refine C8.sl_txt pins s σ H x v vl vu lo hi sl Q I rx hs pl pu ⟨S l, hx, ?_, q⟩
  rw [S_len]
  exact Nat.le_trans hz (by decide)
end

/-! ### heaps -/
def But (p : Addr) (H H' : Hp) : Prop := ∀ b o, b ≠ p → H b = some o → H' b = some o
section
variable {H H' H1 H2 : Hp} {a b p : Addr} {o u : HO}
theorem upd_old (h : H a = some o) (n : a ≠ p) : upd H p u a = some o := by
  rw [upd_ne n]
  exact h
theorem Same.new (h : H p = none) : Same H (upd H p u) := fun b x e => by
  rw [upd_ne (ne_of_none e h)]
  exact e
theorem Same.mut (s : Same H H') (h : H p = none) : Same H (upd H' p u) := fun b x e => by
  rw [upd_ne (ne_of_none e h)]
  exact s b x e
theorem But.refl : But p H H := fun _ _ _ h => h
theorem But.set : But p H (upd H p u) := fun b x n e => by
  rw [upd_ne n]
  exact e
theorem But.trans (x : But p H H1) (y : But p H1 H2) : But p H H2 := fun b o n h => y b o n (x b o n h)
theorem But.same (x : But p H H1) (y : Same H1 H2) : But p H H2 := fun b o n h => y b o (x b o n h)
theorem Same.but (x : Same H H1) (y : But p H1 H2) : But p H H2 := fun b o n h => y b o n (x b o h)
theorem Same.toBut (x : Same H H1) : But p H H1 := fun b o _ h => x b o h
/-- p is new since H -/
theorem Same.but0 (x : Same H H1) (y : But p H1 H2) (n : H p = none) : Same H H2 := fun b o h => y b o (ne_of_none h n) (x b o h)
theorem But.mut (x : But p H H1) (n : H a = none) : But p H (upd H1 a u) := fun b o m h => by
  rw [upd_ne (ne_of_none h n)]
  exact x b o m h
theorem But.mutP (x : But p H H1) : But p H (upd H1 p u) := fun b o m h => by
  rw [upd_ne m]
  exact x b o m h
theorem But.free (x : But p H H1) (n : a ≠ p) (h : H1 a = none) : H a = none := by
  cases q : H a with
  | none => rfl
  | some o =>
    rw [x a o n q] at h
    cases h
theorem But.but0 {q : Addr} (x : But p H H1) (y : But q H1 H2) (n : H q = none) : But p H H2 := fun b o m h => y b o (ne_of_none h n) (x b o m h)
theorem Same.get (s : Same H H1) (h : H a = some o) : H1 a = some o := s a o h
theorem But.get (s : But p H H1) (n : a ≠ p) (h : H a = some o) : H1 a = some o := s a o n h
theorem ne_new (n : H b = none) (h : H a = some o) : a ≠ b := ne_of_none h n
theorem ne_kind (h : H a = some o) (h' : H b = some u) (n : o ≠ u) : a ≠ b := ne_of h h' n
theorem Same.fr (n : H1 a = none) (x : Same H H1) : H a = none := x.free n
theorem But.fr (n : H1 a = none) (x : But p H H1) (m : a ≠ p) : H a = none := x.free m n
theorem Same.tr (y : Same H1 H2) (x : Same H H1) : Same H H2 := x.trans y
theorem Same.b0 (y : But p H1 H2) (x : Same H H1) (n : H p = none) : Same H H2 := Same.but0 x y n
theorem But.sa (y : Same H1 H2) (x : But p H H1) : But p H H2 := But.same x y
theorem But.tr (y : But p H1 H2) (x : But p H H1) : But p H H2 := x.trans y
theorem But.b0 {q : Addr} (y : But q H1 H2) (x : But p H H1) (n : H q = none) : But p H H2 := But.but0 x y n
theorem upd_free (h : upd H p u a = none) : H a = none := by
  by_cases e : a = p
  · rw [e, upd_same] at h
    cases h
  · rw [upd_ne e] at h
    exact h
theorem sq_of {K : PySem.W.Frag} {xs : List V} (h : H a = some (.lst xs)) : SqL K H a xs := .inl (.inl h)
theorem st_of {K : PySem.W.Frag} {xs : List V} (h : H a = some (.tup xs)) : SqT K H a xs := .inl (.inl h)
theorem But.sq {K : PySem.W.Frag} {xs : List V} (x : But p H H1) (n : a ≠ p) (h : SqL K H a xs) : SqL K H1 a xs := by
  rcases h with (h | ⟨o, h⟩) | h
  · exact .inl (.inl (x _ _ n h))
  · exact .inl (.inr ⟨o, x _ _ n h⟩)
  · exact .inr h
end

/-! ### readings, step by step -/
theorem cx_K {CX : CXT} {P : Program} {w : World} {K : PySem.W.Frag} {mg : Str → Option Value} {base : Heap} {N : List Str} {q : Str} {sc : Scope} {f : Addr} {cd : Value} {A : Around} {outer : List Env} {s : Shared} {H : Hp} {E : XK} : (cxOf CX P w K mg base N q sc f cd A outer s H E).K = K := rfl
section
variable {K : PySem.W.Frag} {σ : L2.St} {H : Hp} {Q : VK} {R : Hp → Prop} {i j : Int} {n : Nat} {v : V} {a p : Addr} {l m : List Nat} {xs ys : List V}
theorem g_var (h : σ[n]? = some (some v)) (q : Q v H) : tVar n σ H Q := ⟨v, h, q⟩
theorem g_I0 {g : Int → Int → V} (q : Q (g i j) H) : rI0 g (.int i) (.int j) H Q := ⟨i, j, rfl, rfl, q⟩
theorem g_I {C : Int → Int → Prop} {g : Int → Int → V} (c : C i j) (q : Q (g i j) H) : rI C g (.int i) (.int j) H Q := ⟨i, j, rfl, rfl, c, q⟩
theorem g_U {g : Int → V} (q : Q (g i) H) : rU g (.int i) H Q := ⟨i, rfl, q⟩
theorem g_ipI {g : Int → Int → Int} (q : Q (.int (g i j)) H) : ipI g (.int i) (.int j) H Q := ⟨i, j, rfl, rfl, q⟩
theorem g_addT (h : l.length + m.length ≤ 100000) (q : Q (Tx (l ++ m)) H) : rAddT (Tx l) (Tx m) H Q := ⟨l, m, rfl, rfl, h, q⟩
theorem g_inT {c : Nat} (q : Q (.bl (decide (c ∈ l))) H) : rInT false (Tx [c]) (Tx l) H Q := ⟨c, l, rfl, rfl, q⟩
theorem g_ninT {c : Nat} (q : Q (.bl (!decide (c ∈ l))) H) : rInT true (Tx [c]) (Tx l) H Q := ⟨c, l, rfl, rfl, q⟩
theorem g_ixT {c : Nat} (h : l.length ≤ 100000) (h1 : atI l i = some c) (q : Q (Tx [c]) H) : rIxT1 (Tx l) (.int i) H Q := ⟨l, i, c, rfl, rfl, h, h1, q⟩
theorem g_ixL (h : SqL K H p xs) (h1 : atI xs i = some v) (q : Q v H) : rIxL K (.ref p) (.int i) H Q := ⟨p, xs, i, v, rfl, rfl, h, h1, q⟩
theorem g_ixU (h : SqT K H p xs) (h1 : atI xs i = some v) (q : Q v H) : rIxT K (.ref p) (.int i) H Q := ⟨p, xs, i, v, rfl, rfl, h, h1, q⟩
theorem g_lenT (h : l.length ≤ 100000) (q : Q (.int l.length) H) : rLenT [Tx l] H Q := ⟨l, rfl, h, q⟩
theorem g_lenL (h : SqL K H p xs) (q : Q (.int xs.length) H) : rLenL K [.ref p] H Q := ⟨p, xs, rfl, .inl h, q⟩
theorem g_lenU (h : SqT K H p xs) (q : Q (.int xs.length) H) : rLenL K [.ref p] H Q := ⟨p, xs, rfl, .inr h, q⟩
theorem g_findT (q : Q (.int (Txt.find (S l) (S m))) H) : (∃ z, Tx l = .str z) ∧ rFindT (Tx l) [Tx m] H Q := ⟨⟨_, rfl⟩, l, m, rfl, rfl, q⟩
theorem g_findT1 (q : Q (.int (Txt.find (S l) (S m))) H) : rFindT (Tx l) [Tx m] H Q := ⟨l, m, rfl, rfl, q⟩
theorem g_idxT1 {k : Nat} (h : Txt.find (S l) (S m) = (k : Int)) (q : Q (.int k) H) : rIdxT (Tx l) [Tx m] H Q := ⟨l, m, k, rfl, rfl, h, q⟩
theorem g_str {A : Prop} (q : A) : (∃ z, Tx l = .str z) ∧ A := ⟨⟨_, rfl⟩, q⟩
theorem g_intB {b : Bool} (q : Q (.int (if b then 1 else 0)) H) : rIntB [.bl b] H Q := ⟨b, rfl, q⟩
theorem g_eq {x y : V} (h : scal x y = true) (q : Q (.bl (decide (x = y))) H) : rEq x y H Q := ⟨h, q⟩
theorem g_ne {x y : V} (h : scal x y = true) (q : Q (.bl (!decide (x = y))) H) : rNe x y H Q := ⟨h, q⟩
theorem g_tyL (h : SqL K H p xs) : tyV K "list" (.ref p) H := .inl ⟨rfl, _, h⟩
/-! new objects, changed ones -/
def rLstN (xs : List V) (H : Hp) (Q : VK) : Prop := xs.length ≤ sizeLine ∧ ∀ p, H p = none → Q (.ref p) (upd H p (.lst xs))
def rTupN (xs : List V) (H : Hp) (Q : VK) : Prop := xs.length ≤ sizeLine ∧ ∀ p, H p = none → Q (.ref p) (upd H p (.tup xs))
def rRevN (K : PySem.W.Frag) (x : V) (H : Hp) (Q : VK) : Prop := ∃ a xs, x = .ref a ∧ SqL K H a xs ∧ ∀ p, H p = none → Q (.ref p) (upd H p (.lst xs.reverse))
theorem tLst_eq {t : TA} : tLst t σ H Q = t σ H fun xs H1 => rLstN xs H1 Q := rfl
theorem tTup_eq {t : TA} : tTup t σ H Q = t σ H fun xs H1 => rTupN xs H1 Q := rfl
theorem tRevL_eq {t : TE} : tRevL K t σ H Q = t σ H fun x H1 => rRevN K x H1 Q := rfl
def rPart (x : V) (H : Hp) (Q : Option Int → Hp → Prop) : Prop := ∃ i, x = .int i ∧ Q (some i) H
theorem tPart_eq {t : TE} {Q : Option Int → Hp → Prop} : tPart t σ H Q = t σ H fun x H1 => rPart x H1 Q := rfl
theorem g_part {Q : Option Int → Hp → Prop} (q : Q (some i) H) : rPart (.int i) H Q := ⟨i, rfl, q⟩
theorem g_lst (h : xs.length ≤ 100000) (q : ∀ p H1, H p = none → Same H H1 → H1 p = some (.lst xs) → Q (.ref p) H1) : rLstN xs H Q :=
  ⟨Nat.le_trans h (by decide), fun p np => q p _ np (Same.new np) upd_same⟩
theorem g_tup (h : xs.length ≤ 100000) (q : ∀ p H1, H p = none → Same H H1 → H1 p = some (.tup xs) → Q (.ref p) H1) : rTupN xs H Q :=
  ⟨Nat.le_trans h (by decide), fun p np => q p _ np (Same.new np) upd_same⟩
theorem g_new {o : HO} (q : ∀ p H1, H p = none → Same H H1 → H1 p = some o → Q (.ref p) H1) : ∀ p, H p = none → Q (.ref p) (upd H p o) := fun p np => q p _ np (Same.new np) upd_same
theorem g_setL (h : H p = some (.lst xs)) (h1 : ixN xs.length i = some n) (q : ∀ H1, But p H H1 → H1 p = some (.lst (xs.set n v)) → R H1) : rSetL (.ref p) (.int i) v H R := ⟨p, xs, i, n, rfl, rfl, h, h1, q _ But.set upd_same⟩
theorem g_append (h : H p = some (.lst xs)) (hl : xs.length < 100000) (q : ∀ H1, But p H H1 → H1 p = some (.lst (xs ++ [v])) → Q .non H1) : tyV K "list" (.ref p) H ∧ rAppend (.ref p) [v] H Q :=
  ⟨g_tyL (sq_of h), p, xs, v, rfl, rfl, h, Nat.lt_of_lt_of_le hl (by decide), q _ But.set upd_same⟩
theorem g_append1 (h : H p = some (.lst xs)) (hl : xs.length < 100000) (q : ∀ H1, But p H H1 → H1 p = some (.lst (xs ++ [v])) → Q .non H1) : rAppend (.ref p) [v] H Q :=
  ⟨p, xs, v, rfl, rfl, h, Nat.lt_of_lt_of_le hl (by decide), q _ But.set upd_same⟩
theorem g_pop (h : H p = some (.lst (xs ++ [v]))) (q : ∀ H1, But p H H1 → H1 p = some (.lst xs) → Q v H1) : tyV K "list" (.ref p) H ∧ rPop (.ref p) [] H Q := by
  refine ⟨g_tyL (sq_of h), p, xs ++ [v], v, rfl, rfl, h, ?_, ?_⟩
  · simp
  · rw [List.dropLast_concat]
    exact q _ But.set upd_same
theorem g_slL {lo hi : Option Int} (h : SqL K H p xs) (q : ∀ p H1, H p = none → Same H H1 → H1 p = some (.lst (cutV xs lo hi)) → Q (.ref p) H1) : rSlL K (.ref p) lo hi H Q := ⟨p, xs, rfl, h, g_new q⟩
theorem g_revL (h : SqL K H p xs) (q : ∀ p H1, H p = none → Same H H1 → H1 p = some (.lst xs.reverse) → Q (.ref p) H1) : rRevN K (.ref p) H Q := ⟨p, xs, rfl, h, g_new q⟩
theorem g_cat (h : H a = some (.lst xs)) (h2 : H p = some (.lst ys)) (hl : xs.length + ys.length ≤ 100000) (q : ∀ p H1, H p = none → Same H H1 → H1 p = some (.lst (xs ++ ys)) → Q (.ref p) H1) : rCat (.ref a) (.ref p) H Q := ⟨a, p, xs, ys, rfl, rfl, h, h2, Nat.le_trans hl (by decide), g_new q⟩
theorem g_slTo (h : l.length ≤ 100000) (hi : 0 ≤ i) (q : Q (Tx (l.take i.toNat)) H) : rSlTx (Tx l) none (some i) H Q := ⟨l, rfl, h, by rw [slice_to hi]; exact q⟩
theorem g_slFrom (h : l.length ≤ 100000) (hi : 0 ≤ i) (q : Q (Tx (l.drop i.toNat)) H) : rSlTx (Tx l) (some i) none H Q := ⟨l, rfl, h, by rw [slice_from hi]; exact q⟩
/-! tests -/
theorem g_test {c : Prop} [Decidable c] {A B : Prop} (h1 : c → A) (h2 : ¬ c → B) : ∃ k, V.bl (decide c) = V.bl k ∧ if k = true then A else B := by
  refine ⟨_, rfl, ?_⟩
  by_cases h : c
  · rw [decide_eq_true h, if_pos rfl]
    exact h1 h
  · rw [decide_eq_false h, if_neg Bool.false_ne_true]
    exact h2 h
theorem g_testN {c : Prop} [Decidable c] {A B : Prop} (h1 : ¬ c → A) (h2 : c → B) : ∃ k, V.bl (!decide c) = V.bl k ∧ if k = true then A else B := by
  refine ⟨_, rfl, ?_⟩
  by_cases h : c
  · rw [decide_eq_true h]
    exact h2 h
  · rw [decide_eq_false h]
    exact h1 h
theorem g_testB {b : Bool} {A B : Prop} (h1 : b = true → A) (h2 : b = false → B) : ∃ k, V.bl b = V.bl k ∧ if k = true then A else B := by
  refine ⟨_, rfl, ?_⟩
  cases b with
  | true => exact h1 rfl
  | false => exact h2 rfl
theorem g_testS {b : Bool} {R : Bool → Hp → Prop} (q : R b H) : ∃ k, V.bl b = V.bl k ∧ R k H := ⟨_, rfl, q⟩
end

/-! ### loops -/
def ForR (J : It) (g : TG) (tb : TS) (D : Ends) (σ : L2.St) (H : Hp) : Prop := ∃ W : Nat → Nat → L2.St → Hp → Prop, (∃ m, W 0 m σ H) ∧ ∀ i m σ H, W i m σ H →
  (J.stop i H ∧ D.nx σ H) ∨ (J.go i H ∧ ∃ N : L2.St → Hp → Prop, (∀ σ' H', N σ' H' → ∃ m', m' < m ∧ W (i + 1) m' σ' H') ∧ ∀ x H', J.yld i H x H' → g x σ H' fun σ2 H2 => tb { D with nx := N, ct := N, bk := D.nx } σ2 H2)
theorem tFor_eq {wi : TI} {g : TG} {tb : TS} {D : Ends} {σ : L2.St} {H : Hp} : tFor wi g tb D σ H = wi σ H fun J H1 => ForR J g tb D σ H1 := rfl
def LcR (J : It) (g : TG) (tt : TT) (te : TE) (vs : List Nat) (σ : L2.St) (H1 : Hp) (Q : VK) : Prop := ∀ D, H1 D = none → ∃ W : Nat → Nat → Hp → Prop, (∃ m, W 0 m (upd H1 D (.lst []))) ∧ ∀ i m H, W i m H →
  (J.stop i H ∧ Q (.ref D) H) ∨ (J.go i H ∧ ∃ Nx : Hp → Prop, (∀ H', Nx H' → ∃ m', m' < m ∧ W (i + 1) m' H') ∧ ∀ x H', J.yld i H x H' → g x (wipe σ vs) H' fun σ2 H2 => wipe σ2 vs = wipe σ vs ∧ tt σ2 H2 fun b H3 =>
    if b = true then te σ2 H3 fun y H4 => ∃ acc, H4 D = some (.lst acc) ∧ acc.length < sizeLine ∧ Nx (upd H4 D (.lst (acc ++ [y]))) else Nx H3)
theorem tLc_eq {wi : TI} {g : TG} {tt : TT} {te : TE} {vs : List Nat} {σ : L2.St} {H : Hp} {Q : VK} : tLc wi g tt te vs σ H Q = wi σ H fun J H1 => LcR J g tt te vs σ H1 Q := rfl
section
variable {K : PySem.W.Frag} {σ : L2.St} {H : Hp} {g : TG} {tb : TS} {D : Ends} {l : List Nat} {xs : List V} {a : Addr} {tt : TT} {te : TE} {vs : List Nat} {Q : VK} {n : Nat} {lo : Int}
/-- for c in text, by what is gone through -/
theorem for_txt (Pv : List Nat → L2.St → Hp → Prop) (h0 : Pv [] σ H)
    (hs : ∀ pre c post σ H, l = pre ++ c :: post → Pv pre σ H → g (Tx [c]) σ H fun σ2 H2 => tb { D with nx := Pv (pre ++ [c]), ct := Pv (pre ++ [c]), bk := D.nx } σ2 H2) (hd : ∀ σ H, Pv l σ H → D.nx σ H) : ForR (Its (S l)) g tb D σ H := by
  refine ⟨fun i m σ H => m = l.length - i ∧ i ≤ l.length ∧ Pv (l.take i) σ H, ⟨l.length, by simp, Nat.zero_le _, by simpa using h0⟩, ?_⟩
  rintro i m σ H ⟨rfl, hi, p⟩
  have sz : (S l).cps.size = l.length := by simp
  by_cases hlt : i < l.length
  · have e : l.take (i + 1) = l.take i ++ [l[i]] := by rw [List.take_succ_eq_append_getElem hlt]
    have e2 : l = l.take i ++ l[i] :: l.drop (i + 1) := by rw [← List.drop_eq_getElem_cons hlt, List.take_append_drop]
    refine .inr ⟨by show i < (S l).cps.size; rw [sz]; exact hlt, Pv (l.take (i + 1)), fun σ' H' p' => ⟨l.length - (i + 1), by omega, rfl, hlt, p'⟩, fun x H' y => ?_⟩
    obtain ⟨e1, c, hc, rfl⟩ := y
    subst e1
    have ec : c = l[i] := by
      have : (S l).cps[i]? = some l[i] := by simp [hlt]
      rw [this] at hc
      exact (Option.some.inj hc).symm
    subst ec
    rw [e]
    exact hs (l.take i) l[i] (l.drop (i + 1)) σ _ e2 p
  · have e : i = l.length := by omega
    subst e
    rw [List.take_length] at p
    exact .inl ⟨by show (S l).cps.size ≤ l.length; rw [sz]; exact Nat.le_refl _, hd σ H p⟩
theorem cut_at {α : Type} {xs : List α} {i : Nat} {x : α} (hx : xs[i]? = some x) : xs.take (i + 1) = xs.take i ++ [x] ∧ xs = xs.take i ++ x :: xs.drop (i + 1) := by
  obtain ⟨hlt, ex⟩ := List.getElem?_eq_some_iff.mp hx
  subst ex
  exact ⟨by rw [List.take_succ_eq_append_getElem hlt], by rw [← List.drop_eq_getElem_cons hlt, List.take_append_drop]⟩
/-- for x in list, by what is gone through; the list stays -/
theorem for_lst (xs : List V) (Pv : List V → L2.St → Hp → Prop) (h0 : Pv [] σ H) (hl : ∀ pre post σ H, xs = pre ++ post → Pv pre σ H → SqL K H a xs)
    (hs : ∀ pre x post σ H, xs = pre ++ x :: post → Pv pre σ H → g x σ H fun σ2 H2 => tb { D with nx := Pv (pre ++ [x]), ct := Pv (pre ++ [x]), bk := D.nx } σ2 H2) (hd : ∀ σ H, Pv xs σ H → D.nx σ H) : ForR (Itl K a) g tb D σ H := by
  refine for_list (xs := xs) (fun i σ H => Pv (xs.take i) σ H) (by simpa using h0) (fun i σ H _ p => hl _ (xs.drop i) σ H (List.take_append_drop i xs).symm p) (fun i x σ H hx p => ?_) (fun σ H p => hd σ H (by simpa using p))
  obtain ⟨e, e2⟩ := cut_at hx
  have z := hs (xs.take i) x (xs.drop (i + 1)) σ H e2 p
  rw [← e] at z
  exact z
/-- for i, x in enumerate(list), by what is gone through -/
theorem for_enum (xs : List V) (Pv : List V → L2.St → Hp → Prop) (h0 : Pv [] σ H) (hl : ∀ pre post σ H, xs = pre ++ post → Pv pre σ H → SqL K H a xs)
    (hs : ∀ pre x post σ H t H1, xs = pre ++ x :: post → Pv pre σ H → H t = none → Same H H1 → H1 t = some (.tup [.int pre.length, x]) → g (.ref t) σ H1 fun σ2 H2 => tb { D with nx := Pv (pre ++ [x]), ct := Pv (pre ++ [x]), bk := D.nx } σ2 H2) (hd : ∀ σ H, Pv xs σ H → D.nx σ H) : ForR (Ite K a) g tb D σ H := by
  refine for_it (walk_enum (xs := xs)) (fun i σ H => Pv (xs.take i) σ H) (by simpa using h0) (fun i σ H _ p => hl _ (xs.drop i) σ H (List.take_append_drop i xs).symm p) (fun i v σ H H' hi p y => ?_) (fun σ H p => hd σ H (by simpa using p))
  obtain ⟨t, x1, x2, rfl, nt, rfl, e1, e2⟩ := y
  cases e1
  obtain ⟨e, e3⟩ := cut_at e2
  have z := hs (xs.take i) x2 (xs.drop (i + 1)) σ H t _ e3 p nt (Same.new nt) (by
    rw [upd_same, List.length_take, Nat.min_eq_left (Nat.le_of_lt hi)])
  rw [← e] at z
  exact z
/-- for i in range -/
theorem for_rng (Pv : Nat → L2.St → Hp → Prop) (h0 : Pv 0 σ H)
    (hs : ∀ i σ H, i < n → Pv i σ H → g (.int (lo + i)) σ H fun σ2 H2 => tb { D with nx := Pv (i + 1), ct := Pv (i + 1), bk := D.nx } σ2 H2) (hd : ∀ σ H, Pv n σ H → D.nx σ H) : ForR (Itr lo n) g tb D σ H := for_range Pv h0 hs hd
/-- what a comprehension's turn is to reach: y put behind the new list at d -/
def LcPut (d : Addr) (R : Hp → Prop) (y : V) (H : Hp) : Prop := ∃ acc, H d = some (.lst acc) ∧ acc.length < sizeLine ∧ R (upd H d (.lst (acc ++ [y])))
theorem lc_put {d : Addr} {R : Hp → Prop} {y : V} {acc : List V} (h : H d = some (.lst acc)) (hl : acc.length < 100000) (q : ∀ H5, But d H H5 → H5 d = some (.lst (acc ++ [y])) → R H5) : LcPut d R y H := ⟨acc, h, Nat.lt_of_lt_of_le hl (by decide), q _ But.set upd_same⟩
theorem lc_w {J : It} {G : Hp → Prop} {Y : Nat → Hp → V → Hp → Prop} (w : Walk J n G Y)
    (h : ∀ d H1, H d = none → Same H H1 → H1 d = some (.lst []) → ∃ Pv : Nat → Hp → Prop, Pv 0 H1 ∧ (∀ i H, i ≤ n → Pv i H → G H) ∧
      (∀ i x H H', i < n → Pv i H → Y i H x H' → g x (wipe σ vs) H' fun σ2 H2 => wipe σ2 vs = wipe σ vs ∧ tt σ2 H2 fun b H3 => if b = true then te σ2 H3 fun y H4 => LcPut d (Pv (i + 1)) y H4 else Pv (i + 1) H3) ∧ ∀ H, Pv n H → Q (.ref d) H) : LcR J g tt te vs σ H Q := by
  intro d nd
  obtain ⟨Pv, h0, hG, hs, hd⟩ := h d _ nd (Same.new nd) upd_same
  exact lc_it w Pv h0 hG hs hd
theorem lc_rng (h : ∀ d H1, H d = none → Same H H1 → H1 d = some (.lst []) → ∃ Pv : Nat → Hp → Prop, Pv 0 H1 ∧
      (∀ (i : Nat) H, i < n → Pv i H → g (.int (lo + i)) (wipe σ vs) H fun σ2 H2 => wipe σ2 vs = wipe σ vs ∧ tt σ2 H2 fun b H3 => if b = true then te σ2 H3 fun y H4 => LcPut d (Pv (i + 1)) y H4 else Pv (i + 1) H3) ∧ ∀ H, Pv n H → Q (.ref d) H) : LcR (Itr lo n) g tt te vs σ H Q := by
  refine lc_w walk_range fun d H1 nd s e => ?_
  obtain ⟨Pv, h0, hs, hd⟩ := h d H1 nd s e
  refine ⟨Pv, h0, fun _ _ _ _ => trivial, fun i x H H' hi p y => ?_, hd⟩
  obtain ⟨rfl, rfl⟩ := y
  exact hs i _ hi p
theorem lc_txt (h : ∀ d H1, H d = none → Same H H1 → H1 d = some (.lst []) → ∃ Pv : List Nat → Hp → Prop, Pv [] H1 ∧
      (∀ pre c post H, l = pre ++ c :: post → Pv pre H → g (Tx [c]) (wipe σ vs) H fun σ2 H2 => wipe σ2 vs = wipe σ vs ∧ tt σ2 H2 fun b H3 => if b = true then te σ2 H3 fun y H4 => LcPut d (Pv (pre ++ [c])) y H4 else Pv (pre ++ [c]) H3) ∧ ∀ H, Pv l H → Q (.ref d) H) : LcR (Its (S l)) g tt te vs σ H Q := by
  refine lc_w walk_str fun d H1 nd s e => ?_
  obtain ⟨Pv, h0, hs, hd⟩ := h d H1 nd s e
  have sz : (S l).cps.size = l.length := by simp
  refine ⟨fun i => Pv (l.take i), by simpa using h0, fun _ _ _ _ => trivial, fun i x H H' hi p y => ?_, fun H p => hd H (by rw [sz, List.take_length] at p; exact p)⟩
  obtain ⟨rfl, c, hc, rfl⟩ := y
  have hc2 : l[i]? = some c := by simpa using hc
  obtain ⟨e1, e2⟩ := cut_at hc2
  have z := hs (l.take i) c (l.drop (i + 1)) _ e2 p
  rw [← e1] at z
  exact z
theorem lc_lst (xs : List V) (h : ∀ d H1, H d = none → Same H H1 → H1 d = some (.lst []) → ∃ Pv : List V → Hp → Prop, Pv [] H1 ∧ (∀ pre post H, xs = pre ++ post → Pv pre H → SqL K H a xs) ∧
      (∀ pre x post H, xs = pre ++ x :: post → Pv pre H → g x (wipe σ vs) H fun σ2 H2 => wipe σ2 vs = wipe σ vs ∧ tt σ2 H2 fun b H3 => if b = true then te σ2 H3 fun y H4 => LcPut d (Pv (pre ++ [x])) y H4 else Pv (pre ++ [x]) H3) ∧ ∀ H, Pv xs H → Q (.ref d) H) : LcR (Itl K a) g tt te vs σ H Q := by
  refine lc_w (walk_list (xs := xs)) fun d H1 nd s e => ?_
  obtain ⟨Pv, h0, hl, hs, hd⟩ := h d H1 nd s e
  refine ⟨fun i => Pv (xs.take i), by simpa using h0, fun i H _ p => hl _ (xs.drop i) H (List.take_append_drop i xs).symm p, fun i x H H' hi p y => ?_, fun H p => hd H (by simpa using p)⟩
  obtain ⟨rfl, hc⟩ := y
  obtain ⟨e1, e2⟩ := cut_at hc
  have z := hs (xs.take i) x (xs.drop (i + 1)) _ e2 p
  rw [← e1] at z
  exact z
end

/-! ### a def of the text -/
def DefAt (K : PySem.W.Frag) (mg : Str → Option Value) (x : Str) (st : Stmt) (ps : List Str) : Prop := ∃ (f : Addr) (fd : FuncData), FunD K x x (defArgs st) (defBody st) (defScope st) [] [] f fd ∧ mg x = some (.ref f) ∧ Binds K fd ps []
section
variable {P : Program} {w : World} {K : PySem.W.Frag} {mg : Str → Option Value} {base : Heap}
theorem fnD {x : Str} {st : Stmt} {f : Addr} {fd : FuncData} {N ps : List Str} {k : Nat} {sp : Sp} (F : FunD K x x (defArgs st) (defBody st) (defScope st) [] [] f fd) (S : FnScope N ps (defScope st)) (len : ∀ vs H Q E, sp vs H Q E → vs.length = ps.length)
    (hbody : ∀ (cdv : Value) (A : Around) (outer : List Env) (s : Shared) (H : Hp) (vs : List V) (Q : VK) (E : XK), Room k (A.deeper (envOfC x (defScope st) s.heap.objs.size f cdv)) → sp vs H Q E →
      ∃ t, PSs (cxOf C8.CX0 P w K mg base N x (defScope st) f cdv A outer s H E).nox (defBody st) t ∧ t { nx := fun _ H' => Q .non H', rt := Q } (start N vs) H) : FnOk P w K mg base C8.CX0 (k + 1) f fd ps sp := by
  refine F.ok S len fun cdv A outer s H vs Q E hr hsp => ?_
  obtain ⟨t, h, q⟩ := hbody cdv A outer s H vs Q E hr hsp
  exact ⟨t, h.nox, q⟩
theorem calD {x : Str} {st : Stmt} {N ps : List Str} {k : Nat} {sp : Sp} (D : DefAt K mg x st ps) (S : FnScope N ps (defScope st)) (len : ∀ vs H Q E, sp vs H Q E → vs.length = ps.length)
    (hbody : ∀ (f : Addr) (cdv : Value) (A : Around) (outer : List Env) (s : Shared) (H : Hp) (vs : List V) (Q : VK) (E : XK), Room k (A.deeper (envOfC x (defScope st) s.heap.objs.size f cdv)) → sp vs H Q E →
      ∃ t, PSs (cxOf C8.CX0 P w K mg base N x (defScope st) f cdv A outer s H E).nox (defBody st) t ∧ t { nx := fun _ H' => Q .non H', rt := Q } (start N vs) H) : C8.Cal P w K mg base (k + 1) x sp [] := by
  obtain ⟨f, fd, F, hm, b⟩ := D
  exact ⟨f, fd, ps, [], fnD F S len (hbody f), hm, F.kp, b, .nil⟩
end
end Ly

set_option maxHeartbeats 4000000
namespace Ly
open PySem SX
/-! ### signs -/
def isSg (c : Nat) : Prop := c ∈ LET ∨ c ∈ BRK
/-- the number of a bracket's kind -/
def knd (c : Nat) : Nat := if c ∈ OPN then OPN.idxOf c else CLO.idxOf c
/-- the other bracket of a bracket's kind -/
def oth (c : Nat) : Nat := if c ∈ OPN then CLO.getD (OPN.idxOf c) 0 else OPN.getD (CLO.idxOf c) 0
theorem find_opn : ∀ c ∈ OPN, Txt.find (S OPN) (S [c]) = (knd c : Int) := by decide +kernel
theorem find_clo : ∀ c ∈ CLO, Txt.find (S CLO) (S [c]) = (knd c : Int) := by decide +kernel
theorem brk_or {c : Nat} : c ∈ BRK ↔ c ∈ OPN ∨ c ∈ CLO := by
  unfold BRK OPN CLO
  simp
  omega
theorem knd_lt : ∀ c ∈ BRK, knd c < 4 := by decide
theorem at_clo : ∀ c ∈ OPN, CLO[knd c]? = some (oth c) := by decide
theorem at_opn : ∀ c ∈ CLO, OPN[knd c]? = some (oth c) := by decide
theorem oth_clo : ∀ c ∈ OPN, oth c ∈ CLO := by decide
theorem oth_opn : ∀ c ∈ CLO, oth c ∈ OPN := by decide
theorem oth_brk : ∀ c ∈ BRK, oth c ∈ BRK := by decide
theorem oth_oth : ∀ c ∈ BRK, oth (oth c) = c := by decide
theorem opn_clo : ∀ c ∈ OPN, c ∉ CLO := by decide
theorem atI_of {α : Type} {l : List α} {k : Nat} {c : α} (h : l[k]? = some c) : L2.atI l (k : Int) = some c := L2.atI_nat h

/-! ### clean texts, by a pile of awaited closing brackets -/
def stp (s : Option (List Nat)) (c : Nat) : Option (List Nat) := match s with
  | none => none
  | some st => if c ∈ OPN then some (oth c :: st) else if c ∈ CLO then (match st with
    | d :: r => if d = c then some r else none
    | [] => none) else some st
def run (l : List Nat) : Option (List Nat) := l.foldl stp (some [])
def clean (l : List Nat) : Prop := run l = some []
instance (l : List Nat) : Decidable (clean l) := inferInstanceAs (Decidable (run l = some []))
theorem run_app (a b : List Nat) : run (a ++ b) = b.foldl stp (run a) := by
  unfold run
  rw [List.foldl_append]
theorem run_snoc (a : List Nat) (c : Nat) : run (a ++ [c]) = stp (run a) c := by
  rw [run_app]
  rfl
theorem stp_let {s : Option (List Nat)} {c : Nat} (h1 : c ∉ OPN) (h2 : c ∉ CLO) : stp s c = s := by
  cases s with
  | none => rfl
  | some st => unfold stp; simp only [h1, h2, if_false]
theorem stp_opn {st : List Nat} {c : Nat} (h1 : c ∈ OPN) : stp (some st) c = some (oth c :: st) := by
  unfold stp
  simp only [h1, if_true]
theorem stp_clo {st : List Nat} {c : Nat} (h2 : c ∈ CLO) : stp (some (c :: st)) c = some st := by
  have h1 : c ∉ OPN := fun h => opn_clo c h h2
  unfold stp
  simp only [h1, h2, if_true, if_false]
theorem let_opn : ∀ c ∈ LET, c ∉ OPN := by decide
theorem let_clo : ∀ c ∈ LET, c ∉ CLO := by decide
theorem sg_lt {c : Nat} (h : isSg c) : c < 1114112 := by
  have a : ∀ c ∈ LET, c < 1114112 := by decide
  have b : ∀ c ∈ BRK, c < 1114112 := by decide
  exact h.elim (a c) (b c)
/-- what is waited for, closed -/
theorem fold_clo : ∀ st : List Nat, (∀ c ∈ st, c ∈ CLO) → st.foldl stp (some st) = some []
  | [], _ => rfl
  | c :: st, h => by
    rw [List.foldl_cons, stp_clo (h c (List.mem_cons_self ..))]
    exact fold_clo st fun d hd => h d (List.mem_cons_of_mem _ hd)
theorem opn_at {z : Nat} (h : z < 4) : ∃ c, OPN[z]? = some c ∧ CLO[z]? = some (oth c) ∧ c ∈ OPN ∧ oth c ∈ CLO := by
  have e : z = 0 ∨ z = 1 ∨ z = 2 ∨ z = 3 := by omega
  rcases e with rfl | rfl | rfl | rfl
  · exact ⟨40, rfl, rfl, by decide, by decide⟩
  · exact ⟨60, rfl, rfl, by decide, by decide⟩
  · exact ⟨91, rfl, rfl, by decide, by decide⟩
  · exact ⟨123, rfl, rfl, by decide, by decide⟩
theorem brk_at {z : Nat} (h : z < 8) : ∃ c, BRK[z]? = some c ∧ c ∈ BRK := ⟨BRK[z]'h, List.getElem?_eq_getElem h, List.getElem_mem h⟩
theorem let_at {z : Nat} (h : z < 26) : ∃ c, LET[z]? = some c ∧ c ∈ LET := ⟨LET[z]'h, List.getElem?_eq_getElem h, List.getElem_mem h⟩
theorem ixN_nat {n j : Nat} (h : j < n) : L2.ixN n (j : Int) = some j := by
  unfold L2.ixN
  rw [if_pos (by omega), if_pos (by omega), Int.toNat_natCast]
theorem erase_map {α β : Type} (f : α → β) : ∀ (l : List α) (j : Nat), (l.map f).eraseIdx j = (l.eraseIdx j).map f
  | [], _ => rfl
  | _ :: _, 0 => rfl
  | a :: l, j + 1 => by
    show f a :: (l.map f).eraseIdx j = f a :: (l.eraseIdx j).map f
    rw [erase_map f l j]
theorem erase_perm {α : Type} : ∀ (l : List α) (j : Nat) (h : j < l.length), (l[j] :: l.eraseIdx j).Perm l
  | [], j, h => absurd h (Nat.not_lt_zero _)
  | a :: l, 0, _ => List.Perm.refl _
  | a :: l, j + 1, h => by
    have hl : j < l.length := Nat.lt_of_succ_lt_succ h
    have ih := erase_perm l j hl
    show (l[j] :: a :: l.eraseIdx j).Perm (a :: l)
    exact (List.Perm.swap a l[j] (l.eraseIdx j)).trans (List.Perm.cons a ih)
end Ly

set_option maxHeartbeats 4000000
namespace Ly
open PySem PySem.Spec PyProof.Rows L2 SX

/-! ### list(text) -/
def sgV (l : List Nat) : List V := l.map fun c => Tx [c]
section
variable {X : Cx}
def rListT : List V → Hp → VK → Prop := fun xs H Q => ∃ l : List Nat, xs = [Tx l] ∧ l.length ≤ 100000 ∧ ∀ p, H p = none → Q (.ref p) (upd H p (.lst (sgV l)))
theorem vals_signs {l : List Nat} {acc : Array Value} (h : ItemsOf (SignAt (S l)) acc (S l).cps.size) : Vals (sgV l) acc.toList := by
  have hsz : acc.size = l.length := by rw [h.1]; simp
  have key : ∀ (l2 : List Nat) (us : List Value), us.length = l2.length → (∀ j, j < l2.length → ∃ c u, l2[j]? = some c ∧ us[j]? = some (.str ⟨#[c]⟩ u)) → Vals (sgV l2) us := by
    intro l2
    induction l2 with
    | nil =>
      intro us hl _
      cases us with
      | nil => exact .nil
      | cons a b => simp at hl
    | cons c l2 ih =>
      intro us hl hj
      cases us with
      | nil => simp at hl
      | cons a b =>
        obtain ⟨c', u, e1, e2⟩ := hj 0 (by simp)
        simp at e1 e2
        subst e1 e2
        refine .cons ⟨u, rfl⟩ (ih b (by simpa using hl) fun j hlt => ?_)
        obtain ⟨c2, u2, e3, e4⟩ := hj (j + 1) (by simp; omega)
        exact ⟨c2, u2, by simpa using e3, by simpa using e4⟩
  refine key l acc.toList (by simpa using hsz) fun j hj => ?_
  have hj2 : j < acc.size := by omega
  obtain ⟨c, u, e1, e2⟩ := h.2 j acc[j] (by simp [hj2])
  refine ⟨c, u, by simpa using e1, ?_⟩
  rw [← e2]
  simp [hj2]
theorem call_listT (hc : X.calm = true) : CallR X (.type "list") rListT := by
  intro pins s σ H xs us Q I r h
  obtain ⟨l, rfl, hl, q⟩ := h
  obtain ⟨u, rfl, t, rfl⟩ := vals1 r
  have hs : (S l).cps.size ≤ sizeLine := by
    have e : (S l).cps.size = l.length := by simp
    rw [e]
    exact Nat.le_trans hl (by decide)
  refine call_list_str (I.ok.hd hc) (S l) t (fun h' tk acc c' kp e it => ?_) hs
  refine ⟨.ref s.heap.objs.size, _, I.laid (t' := tk) kp (Nat.le_refl _) (show ObjOk X.prog X.w _ h' _ (.lst (sgV l)) from ⟨?_, acc.toList, c', vals_signs it, by simpa using e⟩), rfl, q _ (I.hok.fresh (Nat.le_refl _))⟩
  unfold sgV
  rw [List.length_map]
  exact Nat.le_trans hl (by decide)

/-! ### joins of texts -/
def rJoinT (K : PySem.W.Frag) : V → List V → Hp → VK → Prop := fun x xs H Q => ∃ (a : List Nat) (p : Addr) (ps : List (List Nat)), x = Tx a ∧ xs = [.ref p] ∧ SqL K H p (ps.map Tx) ∧ (ps.map (·.length)).sum + ps.length * a.length ≤ 100000 ∧ Q (Tx (TL.joinL a ps)) H
theorem mt_joinT : MtR X "str.join" (rJoinT X.K) := fun pins s σ H x xs v us Q I rx rs h => by
  obtain ⟨a, p, ps, h1, h2, h3, h4, q⟩ := h
  refine mt_join pins s σ H x xs v us Q I rx rs ⟨S a, p, ps.map S, h1, h2, .inl ?_, ?_, ?_⟩
  · rw [List.map_map]
    exact h3
  · rw [lens, List.length_map, S_len]
    exact Nat.le_trans h4 (by decide)
  · rw [join_S]
    exact q

/-! ### text * n -/
def repT (n : Nat) (l : List Nat) : List Nat := (List.replicate n l).flatten
theorem fold_cat (n : Nat) (x : Array Nat) : ∀ acc : Array Nat, ((List.replicate n x).foldl (· ++ ·) acc).toList = acc.toList ++ repT n x.toList := by
  induction n with
  | zero => intro acc; simp [repT]
  | succ n ih =>
    intro acc
    rw [List.replicate_succ, List.foldl_cons, ih]
    simp [repT, List.replicate_succ]
theorem mul_S (l : List Nat) (n : Nat) : Txt.mul (S l) (n : Int) = S (repT n l) := by
  refine TL.ext_tl ?_
  show (Txt.mul (S l) (n : Int)).cps.toList = repT n l
  unfold Txt.mul
  by_cases h1 : (n : Int) < 1
  · rw [if_pos h1]
    have : n = 0 := by omega
    subst this
    rfl
  · rw [if_neg h1]
    by_cases h2 : ((n : Int) == 1 || (S l).length == 0) = true
    · rw [if_pos h2]
      rw [Bool.or_eq_true] at h2
      rcases h2 with h2 | h2
      · have : n = 1 := by
          have := eq_of_beq h2
          omega
        subst this
        simp [repT]
      · have : l = [] := by
          have := eq_of_beq h2
          rw [S_len] at this
          exact List.eq_nil_of_length_eq_zero this
        subst this
        simp [repT]
    · rw [if_neg h2]
      show ((List.replicate (n : Int).toNat (S l).cps).foldl (· ++ ·) #[]).toList = _
      rw [Int.toNat_natCast, fold_cat]
      rfl
theorem repT_len (n : Nat) (l : List Nat) : (repT n l).length = n * l.length := by
  unfold repT
  simp
def rMulT : R2 := fun x y H Q => ∃ (l : List Nat) (n : Nat), x = Tx l ∧ y = .int (n : Int) ∧ n ≤ 100000 ∧ n * l.length ≤ 100000 ∧ Q (Tx (repT n l)) H
theorem op_mulT : OpR X (binaryOp .Mult) rMulT := fun pins s σ H x y v u Q I rx ry h => by
  obtain ⟨l, n, rfl, rfl, hn, hl, q⟩ := h
  obtain ⟨t, rfl⟩ := rx
  obtain ⟨t', rfl⟩ := ry
  refine SB.mul ⟨?_, ?_, ?_⟩ fun t'' k => ⟨Tx (repT n l), H, I.tok _, ⟨t'', by rw [mul_S]⟩, q⟩
  · have e1 : decide ((n : Int) < -(2 ^ 63 : Int)) = false := decide_eq_false (by omega)
    have e2 : decide ((n : Int) ≥ 2 ^ 63) = false := decide_eq_false (by omega)
    rw [e1, e2]
    rfl
  · intro h1 _
    rw [S_len]
    have h2 : (0 : Int) < n := by omega
    have h3 : (l.length : Int) * n ≤ 100000 := by
      have : ((n * l.length : Nat) : Int) ≤ 100000 := by omega
      rw [Int.natCast_mul, Int.mul_comm] at this
      exact this
    have h4 : (l.length : Int) ≤ (2 ^ 63 - 1) / n := by
      rw [Int.le_ediv_iff_mul_le h2]
      omega
    omega
  · intro _ _
    rw [S_len, Int.toNat_natCast, Nat.mul_comm]
    exact decide_eq_false (Nat.not_lt.mpr (Nat.le_trans hl (by decide)))
end

/-! ### enumerate(text) -/
def IteS (x : Str) : It := ⟨fun i _ => i < x.cps.size, fun i H v H' => ∃ T c, v = .ref T ∧ H T = none ∧ H' = upd H T (.tup [.int (i : Nat), .str ⟨#[c]⟩]) ∧ x.cps[i]? = some c, fun i _ => i = x.cps.size⟩
theorem turn_enumS {P : Program} {w : World} {K : PySem.W.Frag} {elts : List Expr} {kk : Nat} {tpos : Pos} (x : Str) (t : Tok) (e it : Addr) :
    Turn P w K (.Tuple elts kk tpos) (IteS x) [e, it] e (fun i h => (∃ old, IsEnum h e it ((i : Nat) : Int) old) ∧ h.IsStrIter it (strIterType x) x t i ∧ e ≠ it) where
  mem := by simp
  obj := fun i h st b hb => by
    obtain ⟨⟨old, he⟩, ⟨o, ho, hc, hd⟩, _⟩ := st
    have e' : b = e ∨ b = it := by simpa using hb
    rcases e' with z | z
    · rw [z]; exact ⟨_, he, fun v q => nomatch q⟩
    · rw [z]; exact ⟨o, ho, fun v q => by rw [hd] at q; cases q⟩
  keep := fun i h h' st k => let ⟨⟨old, he⟩, ⟨o, ho, r⟩, hne⟩ := st; ⟨⟨old, k e (by simp) _ he⟩, ⟨o, k it (by simp) o ho, r⟩, hne⟩
  item := by
    intro X hP hw hK hc i pins s σ H E I hf st hg
    subst hP hw hK
    obtain ⟨⟨old, he⟩, hit, hne⟩ := st
    have hel : e < s.heap.objs.size := Heap.lt_size he
    have hil : it < s.heap.objs.size := by obtain ⟨_, q, _⟩ := hit; exact Heap.lt_size q
    refine wpAny_pyNext_enum_itemD (Draws.text (A := X.A.in1) (I.ok.hd hc) it x t) he hit hg hne (by simpa using hne) fun u h' tk hP ho hit' hT hsz hk => ?_
    obtain ⟨c, tu, hcx, rfl⟩ := hP
    refine ⟨_, rfl, wpAny_letOwnedTupleGo_enum (s := { s with heap := h', toks := tk + 1 }) ho fun h'' he' sb => ?_⟩
    have hT2 : h''.get? s.heap.objs.size = some { cls := .type "tuple", data := .seq #[.int i tk, .str ⟨#[c]⟩ tu] } := (sb.2 _ (Nat.ne_of_gt hel)).trans hT
    have new : ObjOk X.prog X.w (upd H s.heap.objs.size (.tup [.int (i : Nat), .str ⟨#[c]⟩])) h'' s.heap.objs.size (.tup [.int (i : Nat), .str ⟨#[c]⟩]) :=
      ⟨by show 2 ≤ sizeLine; decide, [.int i tk, .str ⟨#[c]⟩ tu], .cons ⟨_, rfl⟩ (.cons ⟨_, rfl⟩ .nil), ⟨_, hT2, rfl, _, rfl⟩⟩
    have I1 : Inv X pins σ (upd H s.heap.objs.size (.tup [.int (i : Nat), .str ⟨#[c]⟩])) { s with heap := h'', toks := tk + 1 } :=
      I.turnedNew (ch := [e, it]) (fun b ob hb q => (sb.2 b (fun z => hb (by simp [z]))).trans (hk b ob (fun z => hb (by simp [z])) (fun z => hb (by simp [z])) q)) hf (Nat.le_refl _) new
    refine ⟨.ref s.heap.objs.size, _, I1, rfl, ⟨_, c, rfl, I.hok.fresh (Nat.le_refl _), rfl, hcx⟩, ⟨⟨.str ⟨#[c]⟩ tu, ?_⟩, ?_, hne⟩, fun b hb => ?_⟩
    · have e1 : ((i + 1 : Nat) : Int) = (i : Int) + 1 := by omega
      rw [e1]; exact he'
    · obtain ⟨o, ho', r⟩ := hit'
      exact ⟨o, (sb.2 it (Ne.symm hne)).trans ho', r⟩
    · have hb' : b < s.heap.objs.size := by
        have e' : b = e ∨ b = it := by simpa using hb
        rcases e' with z | z
        · rw [z]; exact hel
        · rw [z]; exact hil
      rw [upd_ne (Nat.ne_of_lt hb')]
      exact (hf b hb).1
  done := by
    intro X hP hw hK hc i pins s σ H E I hf st hg
    subst hP hw hK
    obtain ⟨⟨old, he⟩, hit, hne⟩ := st
    obtain ⟨f0, f1, f2, f3, f4, f5⟩ := hf it (by simp)
    have hg2 : i = x.cps.size := hg
    subst hg2
    exact wpAny_pyNext_enum_endD (Draws.text (A := X.A.in1) (I.ok.hd hc) it x t) he hit fun h' eb => ⟨rfl, I.turned (t' := s.toks) (fun b o hb q => eb b o hb q) f0 f1 f3 f4 f5⟩
  self := fun A i s Q E st h => let ⟨⟨_, he⟩, _⟩ := st; wpAny_pyIter_enum he h
def iEnumS (ta : TA) : TI := fun σ H R => ta σ H fun vs H1 => ∃ l : List Nat, vs = [Tx l] ∧ R (IteS (S l)) H1
theorem pi_enumS {X : Cx} {e : Expr} {ta : TA} {p pos tpos : Pos} {elts : List Expr} {kk : Nat} (hg : Gl X "enumerate") (hm : X.mg "enumerate" = none) (ha : PA X [e] ta) (hs : starEach [e] X.env = [(false, eval e X.env)] := by rfl) :
    PI X (.Tuple elts kk tpos) (.Call (.Name "enumerate" p) [e] [] pos) (iEnumS ta) := by
  refine ⟨fun pins s σ H R I h => ?_⟩
  refine Call_ (ld_blt I hg hm boot_enumerate (PyProof.Rows.callWith_type1 (thn (ha.run pos pins s σ H _ I h) fun us s1 ⟨vs, H1, I1, r1, q1⟩ => ?_) hs rfl))
  obtain ⟨l, ex, q⟩ := q1
  subst ex
  obtain ⟨u, rfl, t, rfl⟩ := vals1 r1
  refine call_enumerate_str fun h' he hit hsz hk => wpAny_pyIter_enum he ?_
  have I2 : Inv X pins σ H1 { s1 with heap := h' } := I1.kept (t' := s1.toks) hk
  refine ⟨s1.heap.objs.size + 1, [s1.heap.objs.size + 1, s1.heap.objs.size], _, _, H1, rfl, I2, turn_enumS (S l) t (s1.heap.objs.size + 1) s1.heap.objs.size, ⟨⟨.none, he⟩, hit, Nat.succ_ne_self _⟩, fun b hb => ?_, q⟩
  have e' : b = s1.heap.objs.size + 1 ∨ b = s1.heap.objs.size := by simpa using hb
  have hle : s1.heap.objs.size ≤ b := by
    rcases e' with z | z
    · rw [z]; exact Nat.le_add_right _ _
    · rw [z]; exact Nat.le_refl _
  exact I1.fpOk hle (I1.hok.fresh hle)
theorem walk_enumS {l : List Nat} : Walk (IteS (S l)) l.length (fun _ => True) (fun i H v H' => ∃ T c, v = .ref T ∧ H T = none ∧ H' = upd H T (.tup [.int (i : Nat), Tx [c]]) ∧ l[i]? = some c) :=
  ⟨fun _ _ hi _ => by show _ < (S l).cps.size; simpa using hi, fun _ _ => by show _ = (S l).cps.size; simp, fun i _ _ _ _ _ y => by
    obtain ⟨T, c, h1, h2, h3, h4⟩ := y
    exact ⟨T, c, h1, h2, h3, by simpa using h4⟩⟩
section
variable {K : PySem.W.Frag} {σ : L2.St} {H : Hp} {g : TG} {tb : TS} {D : Ends} {l : List Nat} {xs : List V} {a : Addr}
/-- for i, c in enumerate(text), by what is gone through -/
theorem for_enumS (Pv : List Nat → L2.St → Hp → Prop) (h0 : Pv [] σ H)
    (hs : ∀ pre c post σ H t H1, l = pre ++ c :: post → Pv pre σ H → H t = none → Same H H1 → H1 t = some (.tup [.int pre.length, Tx [c]]) → g (.ref t) σ H1 fun σ2 H2 => tb { D with nx := Pv (pre ++ [c]), ct := Pv (pre ++ [c]), bk := D.nx } σ2 H2) (hd : ∀ σ H, Pv l σ H → D.nx σ H) : ForR (IteS (S l)) g tb D σ H := by
  refine for_it (walk_enumS (l := l)) (fun i σ H => Pv (l.take i) σ H) (by simpa using h0) (fun _ _ _ _ _ => trivial) (fun i v σ H H' hi p y => ?_) (fun σ H p => hd σ H (by simpa using p))
  obtain ⟨t, c, rfl, nt, rfl, e2⟩ := y
  obtain ⟨e, e3⟩ := cut_at e2
  have z := hs (l.take i) c (l.drop (i + 1)) σ H t _ e3 p nt (Same.new nt) (by
    rw [upd_same, List.length_take, Nat.min_eq_left (Nat.le_of_lt hi)])
  rw [← e] at z
  exact z
/-! readings -/
variable {Q : VK} {p : Addr} {m : List Nat} {n : Nat}
theorem g_listT (h : l.length ≤ 100000) (q : ∀ p H1, H p = none → Same H H1 → H1 p = some (.lst (sgV l)) → Q (.ref p) H1) : rListT [Tx l] H Q := ⟨l, rfl, h, g_new q⟩
theorem g_joinT {ps : List (List Nat)} (h : SqL K H p (ps.map Tx)) (hl : (ps.map (·.length)).sum + ps.length * m.length ≤ 100000) (q : Q (Tx (TL.joinL m ps)) H) : rJoinT K (Tx m) [.ref p] H Q := ⟨m, p, ps, rfl, rfl, h, hl, q⟩
theorem g_mulT (h : n ≤ 100000) (h2 : n * l.length ≤ 100000) (q : Q (Tx (repT n l)) H) : rMulT (Tx l) (.int (n : Int)) H Q := ⟨l, n, rfl, rfl, h, h2, q⟩
theorem joinL_nil : ∀ ps : List (List Nat), TL.joinL [] ps = ps.flatten
  | [] => rfl
  | [p] => by simp [TL.joinL]
  | p :: q :: r => by
    show p ++ ([] ++ TL.joinL [] (q :: r)) = _
    rw [joinL_nil (q :: r)]
    simp
/-- ''.join of signs -/
theorem g_join0 (h : SqL K H p (sgV l)) (hl : l.length ≤ 100000) (q : Q (Tx l) H) : rJoinT K (Tx []) [.ref p] H Q := by
  refine g_joinT (ps := l.map fun c => [c]) ?_ ?_ ?_
  · rw [List.map_map]
    exact h
  · rw [List.map_map]
    have : ((fun x : List Nat => x.length) ∘ fun c : Nat => [c]) = fun _ => 1 := rfl
    rw [this]
    have e : ∀ l : List Nat, (l.map fun _ => 1).sum = l.length := by
      intro l
      induction l with
      | nil => rfl
      | cons c l ih => simp [ih]; omega
    rw [e]
    simpa using hl
  · rw [joinL_nil]
    have : ∀ l : List Nat, (l.map fun c => [c]).flatten = l := by
      intro l
      induction l with
      | nil => rfl
      | cons c l ih => simp [ih]
    rw [this]
    exact q
end

/-! ### an if whose test is told once -/
def tIfC (c : TT) (t u : TS) : TS := tIfS c t u
theorem ps_ifC {X : Cx} {pos : Pos} {c : Expr} {a b : List Stmt} {tc : TT} {t u : TS} (hc : PT X c tc) (ha : PSs X a t) (hb : PSs X b u) : PS X (.If c a b pos) (tIfC tc t u) := ps_if hc ha hb
/-- the test c comes out as b and leaves the heap -/
def Tst (c : TT) (σ : L2.St) (H : Hp) (b : Bool) : Prop := ∀ Q : Bool → Hp → Prop, Q b H → c σ H Q
theorem g_ifC {c : TT} {t u : TS} {D : Ends} {σ : L2.St} {H : Hp} {b : Bool} (hA : Tst c σ H b) (h1 : b = true → t D σ H) (h2 : b = false → u D σ H) : tIfC c t u D σ H := by
  refine hA _ ?_
  cases b with
  | true => exact h1 rfl
  | false => exact h2 rfl
/-- the test changes the heap as G says -/
def TstH (c : TT) (σ : L2.St) (H : Hp) (b : Bool) (G : Hp → Prop) : Prop := ∀ Q : Bool → Hp → Prop, (∀ H1, G H1 → Q b H1) → c σ H Q
theorem g_ifH {c : TT} {t u : TS} {D : Ends} {σ : L2.St} {H : Hp} {b : Bool} {G : Hp → Prop} (hA : TstH c σ H b G) (h1 : ∀ H1, G H1 → b = true → t D σ H1) (h2 : ∀ H1, G H1 → b = false → u D σ H1) : tIfC c t u D σ H := by
  refine hA _ fun H1 g => ?_
  cases b with
  | true => exact h1 H1 g rfl
  | false => exact h2 H1 g rfl
/-! ### while -/
section
variable {c : TT} {tb : TS} {D : Ends} {σ : L2.St} {H : Hp}
def WhB (tb : TS) (D : Ends) (W : Nat → L2.St → Hp → Prop) (m : Nat) (σ : L2.St) (H : Hp) : Prop := ∃ N : L2.St → Hp → Prop, (∀ σ' H', N σ' H' → ∃ m', m' < m ∧ W m' σ' H') ∧ tb { D with nx := N, ct := N, bk := D.nx } σ H
theorem g_while (W : Nat → L2.St → Hp → Prop) (m : Nat) (h0 : W m σ H) (hs : ∀ m σ H, W m σ H → c σ H fun b H1 => if b = true then WhB tb D W m σ H1 else D.nx σ H1) : tWhile c tb D σ H := ⟨W, ⟨m, h0⟩, hs⟩
theorem g_whb {W : Nat → L2.St → Hp → Prop} {m : Nat} (q : tb { D with nx := fun σ' H' => ∃ m', m' < m ∧ W m' σ' H', ct := fun σ' H' => ∃ m', m' < m ∧ W m' σ' H', bk := D.nx } σ H) : WhB tb D W m σ H := ⟨_, fun _ _ h => h, q⟩
end
/-! ### data: == and != -/
def txD (l : List Nat) : PyData := .str (S l)
section
variable {K : PySem.W.Frag} {H : Hp} {Q : VK} {p a : Addr} {X : Cx}
theorem dp_txs : ∀ ps : List (List Nat), DpAll K H (ps.map Tx) (ps.map txD)
  | [] => .nil
  | l :: ps => .cons (.str _) (dp_txs ps)
theorem can_tx {l : List Nat} (h : ∀ c ∈ l, c < 1114112) : PyData.canLay0 (txD l) = true := by
  show PyData.strOk (S l) = true
  unfold PyData.strOk
  rw [← Array.all_toList]
  exact List.all_eq_true.mpr fun c hc => decide_eq_true (h c hc)
theorem can_txs : ∀ ps : List (List Nat), (∀ l ∈ ps, ∀ c ∈ l, c < 1114112) → PyData.canLayAll0 (ps.map txD) = true
  | [], _ => rfl
  | l :: ps, h => by
    show (PyData.canLay0 (txD l) && PyData.canLayAll0 (ps.map txD)) = true
    rw [can_tx (h l (List.mem_cons_self ..)), can_txs ps fun m hm => h m (List.mem_cons_of_mem _ hm)]
    rfl
theorem depth_txs : ∀ ps : List (List Nat), PyData.depthAll (ps.map txD) = 0
  | [] => rfl
  | l :: ps => by
    show max 0 (PyData.depthAll (ps.map txD)) = 0
    rw [depth_txs ps]
    rfl
theorem shaped_txs {ps : List (List Nat)} (h : ∀ l ∈ ps, ∀ c ∈ l, c < 1114112) : SeqAt.shaped (.list (ps.map txD)) = true := by
  unfold SeqAt.shaped
  rw [show PyData.canLay0 (.list (ps.map txD)) = PyData.canLayAll0 (ps.map txD) from rfl, can_txs ps h, show PyData.depth (.list (ps.map txD)) = PyData.depthAll (ps.map txD) + 1 from rfl, depth_txs]
  rfl
theorem g_neNilT {ps : List (List Nat)} (h : SqL K H p (ps.map Tx)) (hc : ∀ l ∈ ps, ∀ c ∈ l, c < 1114112) (h2 : SqL K H a []) (q : Q (.bl (!decide (ps = []))) H) : rNeD K (.ref p) (.ref a) H Q := by
  refine ⟨.list (ps.map txD), .list [], .lst h (dp_txs ps), .lst h2 .nil, shaped_txs hc, rfl, ?_⟩
  have e : PyData.eqv (.list (ps.map txD)) (.list []) = decide (ps = []) := by
    cases ps with
    | nil => rfl
    | cons l ps => rfl
  rw [e]
  exact q
theorem sgV_eq (l : List Nat) : sgV l = (l.map fun c => [c]).map Tx := by
  unfold sgV
  rw [List.map_map]
  rfl
/-- a list of signs against [] -/
theorem g_neNilS {l : List Nat} (h : SqL K H p (sgV l)) (hc : ∀ c ∈ l, c < 1114112) (h2 : SqL K H a []) (q : Q (.bl (!decide (l = []))) H) : rNeD K (.ref p) (.ref a) H Q := by
  rw [sgV_eq] at h
  refine g_neNilT h (fun m hm c hcm => ?_) h2 ?_
  · obtain ⟨d, hd, rfl⟩ := List.mem_map.mp hm
    rw [List.mem_singleton] at hcm
    subst hcm
    exact hc _ hd
  · have e : ((l.map fun c => [c]) = []) ↔ l = [] := by simp
    rw [decide_eq_decide.mpr e]
    exact q
end
theorem sgV_snoc (l : List Nat) (c : Nat) : sgV (l ++ [c]) = sgV l ++ [Tx [c]] := by
  unfold sgV
  rw [List.map_append]
  rfl
theorem sgV_rev (l : List Nat) : (sgV l).reverse = sgV l.reverse := by
  unfold sgV
  rw [List.map_reverse]
theorem sgV_len (l : List Nat) : (sgV l).length = l.length := by
  unfold sgV
  rw [List.length_map]

section
variable {K : PySem.W.Frag} {H : Hp} {Q : VK} {p a : Addr} {xs : List V} {v : V} {i : Nat}
theorem g_popAt (h : H p = some (.lst xs)) (hi : xs[i]? = some v) (hl : xs.length ≤ 100000) (q : ∀ H1, But p H H1 → H1 p = some (.lst (xs.eraseIdx i)) → Q v H1) : rPopAt (.ref p) [.int (i : Int)] H Q := by
  obtain ⟨hlt, _⟩ := List.getElem?_eq_some_iff.mp hi
  refine ⟨p, xs, i, i, v, rfl, rfl, h, by omega, by omega, ?_, hi, q _ But.set upd_same⟩
  unfold seqIndex?
  simp
  omega
theorem g_isi {x : V} {t u : String} {b : Bool} (ty : TyX K H x (.type t)) (h : kitB t u = some b) (q : Q (.bl b) H) : rIsi K [x, .ty u] H Q := ⟨x, .ty u, .type t, .type u, b, rfl, .ty u, ty, kit_ty h, q⟩
theorem ty_str {x : Str} : TyX K H (.str x) (.type "str") := .base (.str x)
theorem ty_int {n : Int} : TyX K H (.int n) (.type "int") := .base (.int n)
theorem ty_bl {b : Bool} : TyX K H (.bl b) (.type "bool") := .base (.bl b)
theorem ty_lst (h : H p = some (.lst xs)) : TyX K H (.ref p) (.type "list") := .base (.lst h)
theorem ty_tup (h : H p = some (.tup xs)) : TyX K H (.ref p) (.type "tuple") := .base (.tup h)
theorem cut_ints (ns : List Int) (lo hi : Option Int) : ∃ ms : List Int, cutV (ns.map V.int) lo hi = ms.map V.int ∧ ms.length ≤ ns.length := by
  unfold cutV
  refine ⟨(ns.drop (HT.sIx (ns.map V.int).length 0 lo)).take (HT.sIx (ns.map V.int).length (ns.map V.int).length hi - HT.sIx (ns.map V.int).length 0 lo), ?_, ?_⟩
  · rw [List.map_take, List.map_drop]
  · rw [List.length_take, List.length_drop]
    omega
theorem find_no {l : List Nat} {c : Nat} (h : c ∉ l) : Txt.find (S l) (S [c]) = -1 := by
  have e := in_one l c
  rw [decide_eq_false h] at e
  unfold Txt.find
  cases ho : Builtin.Str.occurrences (S l) (S [c]) 0 (S l).length 1 with
  | nil => rfl
  | cons a b =>
    rw [ho] at e
    cases e
theorem mid_at {α : Type} {xs pre post : List α} {x : α} (e : xs = pre ++ x :: post) : xs[pre.length]? = some x := by
  rw [e]
  simp
end
end Ly

set_option maxHeartbeats 4000000
namespace Ly
open PySem PySem.Spec PyProof.Rows L2 SX
/-! ### zip(text, list) -/
def ItzS (K : PySem.W.Frag) (x : Str) (b : Addr) : It :=
  ⟨fun i H => ∃ (ys : List V) (y : V), i < x.cps.size ∧ SqL K H b ys ∧ ys[i]? = some y,
    fun i H v H' => ∃ T c y, v = .ref T ∧ H T = none ∧ H' = upd H T (.tup [.str ⟨#[c]⟩, y]) ∧ x.cps[i]? = some c ∧ ∀ ys, SqL K H b ys → ys[i]? = some y,
    fun i H => ∃ ys : List V, SqL K H b ys ∧ (i = x.cps.size ∨ i = ys.length) ∧ i ≤ x.cps.size ∧ i ≤ ys.length⟩
theorem turn_zipS {P : Program} {w : World} {K : PySem.W.Frag} {elts : List Expr} {kk : Nat} {tpos : Pos} {x : Str} {t : Tok} {b z TI TO i1 i2 : Addr} (D : ZipSep2 z TI TO i1 i2 [i1] [i2, b]) (hb : b ≠ i2) :
    Turn P w K (.Tuple elts kk tpos) (ItzS K x b) [z, TI, TO, i1, i2] z (fun i h => IsZip h z TI TO .none ∧ IsTupOf2 h TI (.ref i1) (.ref i2) ∧ (∃ x y, IsTupOf2 h TO x y) ∧ h.IsStrIter i1 (strIterType x) x t i ∧ h.IsListIter i2 b i) where
  mem := by simp
  obj := fun i h st c hc => by
    obtain ⟨hz, hTI, ⟨x, y, hTO⟩, ⟨o1, e1, _, d1⟩, ⟨o2, e2, _, d2⟩⟩ := st
    have e' : c = z ∨ c = TI ∨ c = TO ∨ c = i1 ∨ c = i2 := by simpa using hc
    rcases e' with q | q | q | q | q
    · rw [q]; exact ⟨_, hz, fun v q => nomatch q⟩
    · rw [q]; exact ⟨_, hTI, fun v q => nomatch q⟩
    · rw [q]; exact ⟨_, hTO, fun v q => nomatch q⟩
    · rw [q]; exact ⟨o1, e1, fun v q => by rw [d1] at q; cases q⟩
    · rw [q]; exact ⟨o2, e2, fun v q => by rw [d2] at q; cases q⟩
  keep := fun i h h' st k => by
    obtain ⟨hz, hTI, ⟨x, y, hTO⟩, ⟨o1, e1, r1⟩, h2⟩ := st
    exact ⟨k z (by simp) _ hz, k TI (by simp) _ hTI, ⟨x, y, k TO (by simp) _ hTO⟩, ⟨o1, k i1 (by simp) o1 e1, r1⟩, h2.at fun o q => k i2 (by simp) o q⟩
  item := by
    intro X hP hw hK hc i pins s σ H E I hf st hg
    subst hP hw hK
    obtain ⟨hz, hTI, ⟨x0, y0, hTO⟩, h1, h2⟩ := st
    obtain ⟨ys, y, hlt, hqy, hy⟩ := hg
    obtain ⟨its2, rv2, p2, _⟩ := I.list hqy
    obtain ⟨u2, hu2, ru2⟩ := rv2.get hy
    have hzl : z < s.heap.objs.size := Heap.lt_size hz
    have hi2 : i < its2.toArray.size := by
      obtain ⟨h, _⟩ := List.getElem?_eq_some_iff.mp hu2
      simpa using h
    refine wpAny_pyNext_zipD2_item D (Draws.text (A := X.A.in1) (I.ok.hd hc) i1 x t) (Draws.list (A := X.A.in1) (I.ok.hd hc) i2 b hb its2.toArray) hz hTI hTO h1 ⟨h2, p2.isList⟩ hlt hi2 fun x1 x2 h' tk hP1 hP2 z' TO' h1' h2' hT hsz hk => ?_
    obtain ⟨c, tu, hcx, rfl⟩ := hP1
    have ex2 : x2 = u2 := by
      have e : its2.toArray[i]? = some u2 := by simpa using hu2
      rw [e] at hP2
      exact (Option.some.inj hP2).symm
    subst ex2
    refine ⟨_, rfl, wpAny_letOwnedTupleGo_zip (s := { s with heap := h', toks := tk }) z' fun h'' z'' sb => ?_⟩
    have hT2 : h''.get? s.heap.objs.size = some { cls := .type "tuple", data := .seq #[.str ⟨#[c]⟩ tu, x2] } := (sb.2 _ (Nat.ne_of_gt hzl)).trans hT
    have new : ObjOk X.prog X.w (upd H s.heap.objs.size (.tup [.str ⟨#[c]⟩, y])) h'' s.heap.objs.size (.tup [.str ⟨#[c]⟩, y]) :=
      ⟨by show 2 ≤ sizeLine; decide, [.str ⟨#[c]⟩ tu, x2], .cons ⟨_, rfl⟩ (.cons ru2 .nil), ⟨_, hT2, rfl, _, rfl⟩⟩
    have I1 : Inv X pins σ (upd H s.heap.objs.size (.tup [.str ⟨#[c]⟩, y])) { s with heap := h'', toks := tk } :=
      I.turnedNew (ch := [z, TI, TO, i1, i2]) (fun c o hb q => (sb.2 c (fun q' => hb (by simp [q']))).trans (hk c o (fun q' => hb (by simp [q'])) (fun q' => hb (by simp [q'])) (fun q' => hb (by simp [q'])) (fun q' => hb (by simp [q'])) q)) hf (Nat.le_refl _) new
    refine ⟨.ref s.heap.objs.size, _, I1, rfl, ⟨_, c, y, rfl, I.hok.fresh (Nat.le_refl _), rfl, hcx, fun l hl => by rw [I.list_inj hl hqy]; exact hy⟩, ⟨z'', ?_, ⟨.str ⟨#[c]⟩ tu, x2, ?_⟩, ?_, ?_⟩, fun c hcm => ?_⟩
    · exact (sb.2 _ D.TIz).trans (hk _ _ D.TIz D.TITO D.TIi1 D.TIi2 hTI)
    · exact (sb.2 _ D.TOz).trans TO'
    · obtain ⟨o, ho', r⟩ := h1'
      exact ⟨o, (sb.2 _ (Ne.symm D.zi1)).trans ho', r⟩
    · exact h2'.1.at fun o q => (sb.2 _ (Ne.symm D.zi2)).trans q
    · have hlt : c < s.heap.objs.size := by
        have e' : c = z ∨ c = TI ∨ c = TO ∨ c = i1 ∨ c = i2 := by simpa using hcm
        rcases e' with q | q | q | q | q
        · rw [q]; exact hzl
        · rw [q]; exact Heap.lt_size hTI
        · rw [q]; exact Heap.lt_size hTO
        · rw [q]; obtain ⟨_, e1, _⟩ := h1; exact Heap.lt_size e1
        · rw [q]; obtain ⟨_, e2, _⟩ := h2; exact Heap.lt_size e2
      rw [upd_ne (Nat.ne_of_lt hlt)]
      exact (hf c hcm).1
  done := by
    intro X hP hw hK hc i pins s σ H E I hf st hg
    subst hP hw hK
    obtain ⟨hz, hTI, ⟨x0, y0, hTO⟩, h1, h2⟩ := st
    obtain ⟨ys, hqy, hend, l1, l2⟩ := hg
    obtain ⟨its2, rv2, p2, _⟩ := I.list hqy
    have ll := rv2.length
    exact wpAny_pyNext_zipD2_end D (Draws.text (A := X.A.in1) (I.ok.hd hc) i1 x t) (Draws.list (A := X.A.in1) (I.ok.hd hc) i2 b hb its2.toArray) hz hTI hTO h1 ⟨h2, p2.isList⟩ l1 (by simp; omega) (by simp; omega)
      fun h' tk hk => ⟨rfl, I.turnedL (t' := tk) (ch := [z, TI, TO, i1, i2]) (fun c o hb q =>
        hk c o (fun q' => hb (by simp [q'])) (fun q' => hb (by simp [q'])) (fun q' => hb (by simp [q'])) (fun q' => hb (by simp [q'])) q) hf⟩
  self := fun A i s Q E st h => wpAny_pyIter_zip st.1 h
def iZipS (K : PySem.W.Frag) (ta : TA) : TI := fun σ H R => ta σ H fun vs H1 => ∃ (l : List Nat) (b : Addr) (ys : List V), vs = [Tx l, .ref b] ∧ SqL K H1 b ys ∧ R (ItzS K (S l) b) H1
theorem pi_zipS {X : Cx} {e e2 : Expr} {ta : TA} {p pos tpos : Pos} {elts : List Expr} {kk : Nat} (hg : Gl X "zip") (hm : X.mg "zip" = none) (ha : PA X [e, e2] ta)
    (hs : starEach [e, e2] X.env = (false, eval e X.env) :: starEach [e2] X.env := by rfl) (hpl : (backTo pos (starEach [e2] X.env)).any (·.1) = false := by rfl) :
    PI X (.Tuple elts kk tpos) (.Call (.Name "zip" p) [e, e2] [] pos) (iZipS X.K ta) := by
  refine ⟨fun pins s σ H R I h => ?_⟩
  refine Call_ (ld_blt I hg hm PyProof.Rows.boot_zip (PyProof.Rows.callWith_type1 (thn (ha.run pos pins s σ H _ I h) fun us s1 ⟨vs, H1, I1, r1, q1⟩ => ?_) hs hpl))
  obtain ⟨l, b, ys, ex, hqy, q⟩ := q1
  subst ex
  obtain ⟨u1, u2, rfl, ⟨t, rfl⟩, r2⟩ := vals2 r1
  cases r2
  obtain ⟨its2, rv2, p2, _⟩ := I1.list hqy
  have lb : b < s1.heap.objs.size := p2.lt
  refine zip_begins2 (begins_text (S l) t) (begins_list b its2.toArray) trivial p2.isList fun h' hz hTI hTO h1 h2 hsz hk => wpAny_pyIter_zip hz ?_
  have I2 : Inv X pins σ H1 { s1 with heap := h' } := I1.kept (t' := s1.toks) hk
  refine ⟨s1.heap.objs.size + 4, [s1.heap.objs.size + 4, s1.heap.objs.size + 2, s1.heap.objs.size + 3, s1.heap.objs.size, s1.heap.objs.size + 1], _, _, H1, rfl, I2,
    turn_zipS (x := S l) (t := t) (b := b) (zip_sep2 (N := s1.heap.objs.size) (fp1 := []) (fp2 := [b]) (by simp) (by simpa using lb)) (Nat.ne_of_lt (Nat.lt_succ_of_lt lb)), ⟨hz, hTI, ⟨_, _, hTO⟩, ⟨_, h1, rfl, rfl⟩, ⟨_, h2, rfl, rfl⟩⟩, fun c hcm => ?_, q⟩
  have e' : c = s1.heap.objs.size + 4 ∨ c = s1.heap.objs.size + 2 ∨ c = s1.heap.objs.size + 3 ∨ c = s1.heap.objs.size ∨ c = s1.heap.objs.size + 1 := by simpa using hcm
  have hle : s1.heap.objs.size ≤ c := by
    rcases e' with z | z | z | z | z
    · rw [z]; exact Nat.le_add_right _ _
    · rw [z]; exact Nat.le_add_right _ _
    · rw [z]; exact Nat.le_add_right _ _
    · rw [z]; exact Nat.le_refl _
    · rw [z]; exact Nat.le_add_right _ _
  exact I1.fpOk hle (I1.hok.fresh hle)
theorem walk_zipS {K : PySem.W.Frag} {l : List Nat} {b : Addr} {ys : List V} (hl : l.length = ys.length) : Walk (ItzS K (S l) b) l.length (fun H => SqL K H b ys) (fun i H v H' => ∃ T c y, v = .ref T ∧ H T = none ∧ H' = upd H T (.tup [Tx [c], y]) ∧ l[i]? = some c ∧ ys[i]? = some y) := by
  have sz : (S l).cps.size = l.length := by simp
  refine ⟨fun i H hi g => ⟨ys, ys[i]'(by omega), by rw [sz]; exact hi, g, by simp [show i < ys.length by omega]⟩, fun H g => ⟨ys, g, .inl sz.symm, by rw [sz]; exact Nat.le_refl _, by omega⟩, fun i H v H' hi g y => ?_⟩
  obtain ⟨T, c, y, h1, h2, h3, h4, h5⟩ := y
  exact ⟨T, c, y, h1, h2, h3, by simpa using h4, h5 ys g⟩

/-! ### flat data -/
def Flat (v : V) : Prop := ∃ d : PyData, (∀ K H, Dp K H v d) ∧ d.canLay0 = true ∧ d.depth = 0
theorem flat_int (i : Int) : Flat (.int i) := ⟨.int i, fun _ _ => .int i, rfl, rfl⟩
theorem flat_non : Flat .non := ⟨.none, fun _ _ => .non, rfl, rfl⟩
theorem flat_bl (b : Bool) : Flat (.bl b) := ⟨.bool b, fun _ _ => .bl b, rfl, rfl⟩
theorem flat_tx {l : List Nat} (h : ∀ c ∈ l, c < 1114112) : Flat (Tx l) := ⟨txD l, fun _ _ => .str _, can_tx h, rfl⟩
theorem flat_all {xs : List V} (h : ∀ v ∈ xs, Flat v) : ∃ ds : List PyData, ds.length = xs.length ∧ (∀ K H, DpAll K H xs ds) ∧ PyData.canLayAll0 ds = true ∧ PyData.depthAll ds = 0 := by
  induction xs with
  | nil => exact ⟨[], rfl, fun _ _ => .nil, rfl, rfl⟩
  | cons v xs ih =>
    obtain ⟨d, h1, h2, h3⟩ := h v (List.mem_cons_self ..)
    obtain ⟨ds, hl, h4, h5, h6⟩ := ih fun x hx => h x (List.mem_cons_of_mem _ hx)
    refine ⟨d :: ds, by simp [hl], fun K H => .cons (h1 K H) (h4 K H), ?_, ?_⟩
    · show (d.canLay0 && PyData.canLayAll0 ds) = true
      rw [h2, h5]
      rfl
    · show max d.depth (PyData.depthAll ds) = 0
      rw [h3, h6]
      rfl
section
variable {K : PySem.W.Frag} {H : Hp} {Q : VK} {p a : Addr} {xs : List V}
theorem nil_eqv {ds : List PyData} : PyData.eqv (.list ds) (.list []) = ds.isEmpty := by cases ds <;> rfl
theorem g_neNil (h : SqL K H p xs) (hf : ∀ v ∈ xs, Flat v) (h2 : SqL K H a []) (q : Q (.bl (!xs.isEmpty)) H) : rNeD K (.ref p) (.ref a) H Q := by
  obtain ⟨ds, hl, h4, h5, h6⟩ := flat_all hf
  refine ⟨.list ds, .list [], .lst h (h4 K H), .lst h2 .nil, ?_, rfl, ?_⟩
  · unfold SeqAt.shaped
    rw [show PyData.canLay0 (.list ds) = PyData.canLayAll0 ds from rfl, h5, show PyData.depth (.list ds) = PyData.depthAll ds + 1 from rfl, h6]
    rfl
  · have e : ds.isEmpty = xs.isEmpty := by
      cases ds <;> cases xs <;> simp at hl ⊢
    rw [nil_eqv, e]
    exact q
theorem g_eqNil (h : SqL K H p xs) (hf : ∀ v ∈ xs, Flat v) (h2 : SqL K H a []) (q : Q (.bl xs.isEmpty) H) : rEqD K (.ref p) (.ref a) H Q := by
  obtain ⟨ds, hl, h4, h5, h6⟩ := flat_all hf
  refine ⟨.list ds, .list [], .lst h (h4 K H), .lst h2 .nil, ?_, rfl, ?_⟩
  · unfold SeqAt.shaped
    rw [show PyData.canLay0 (.list ds) = PyData.canLayAll0 ds from rfl, h5, show PyData.depth (.list ds) = PyData.depthAll ds + 1 from rfl, h6]
    rfl
  · have e : ds.isEmpty = xs.isEmpty := by
      cases ds <;> cases xs <;> simp at hl ⊢
    rw [nil_eqv, e]
    exact q
theorem g_rep {n : Nat} (h : H p = some (.lst xs)) (hl : xs.length * n ≤ 100000) (hn : n ≤ 100000) (q : ∀ p H1, H p = none → Same H H1 → H1 p = some (.lst (List.replicate n xs).flatten) → Q (.ref p) H1) : rRep (.ref p) (.int (n : Int)) H Q := by
  refine ⟨p, n, xs, rfl, rfl, h, by omega, by omega, Nat.le_trans (by rw [Int.toNat_natCast]; exact hl) (by decide), ?_⟩
  rw [Int.toNat_natCast]
  exact g_new q
end

/-! ### downward ranges -/
theorem rgc_dn {n : Nat} (h : n ≤ 100000) : RgC ((n : Int) - 1) (-1) (-1) n := by
  have e := RgC.neg (i := (n : Int) - 1) (j := -1) (by omega) (by omega) (by omega) (by omega)
  rw [show ((n : Int) - 1 - -1).toNat = n by omega] at e
  exact e
section
variable {σ : L2.St} {H : Hp} {g : TG} {tb : TS} {D : Ends} {n : Nat}
/-- for k in range(n - 1, -1, -1): Pv k: those from k on are gone through -/
theorem for_dn (Pv : Nat → L2.St → Hp → Prop) (h0 : Pv n σ H)
    (hs : ∀ (k : Nat) σ H, k < n → Pv (k + 1) σ H → g (.int (k : Int)) σ H fun σ2 H2 => tb { D with nx := Pv k, ct := Pv k, bk := D.nx } σ2 H2) (hd : ∀ σ H, Pv 0 σ H → D.nx σ H) : ForR (Itc ((n : Int) - 1) (-1) n) g tb D σ H := by
  refine for_it walk_rangeC (fun i σ H => Pv (n - i) σ H) h0 (fun _ _ _ _ _ => trivial) (fun i x σ H H' hi p y => ?_) (fun σ H p => hd σ H (by rw [Nat.sub_self] at p; exact p))
  obtain ⟨rfl, rfl⟩ := y
  have e : ((n : Int) - 1 + (i : Nat) * -1) = ((n - (i + 1) : Nat) : Int) := by omega
  show g (V.int ((n : Int) - 1 + (i : Nat) * -1)) σ H' fun σ2 H2 => tb { D with nx := Pv (n - (i + 1)), ct := Pv (n - (i + 1)), bk := D.nx } σ2 H2
  rw [e]
  refine hs (n - (i + 1)) σ _ (by omega) ?_
  rw [show n - (i + 1) + 1 = n - i by omega]
  exact p
end
/-! ### a promise that nobody asks -/
theorem cal_false {P : Program} {w : World} {K : PySem.W.Frag} {mg : Str → Option Value} {base : Heap} {x : Str} {st : Stmt} {N ps : List Str} {k : Nat} {sp : Sp} (D : DefAt K mg x st ps) (S : FnScope N ps (defScope st)) (hf : ∀ vs H Q E, ¬ sp vs H Q E) : C8.Cal P w K mg base (k + 1) x sp [] :=
  calD D S (fun vs H Q E h => (hf vs H Q E h).elim) (fun _ _ _ _ _ H vs Q E _ h => (hf vs H Q E h).elim)
end Ly

set_option maxHeartbeats 4000000
namespace Ly
/-! ### stretches, partners -/
/-- the signs from a on and below b -/
def seg (l : List Nat) (a b : Nat) : List Nat := (l.take b).drop a
theorem seg_snoc {l : List Nat} {a n : Nat} (h : a ≤ n) (hn : n < l.length) : seg l a (n + 1) = seg l a n ++ [l[n]] := by
  unfold seg
  rw [List.take_succ_eq_append_getElem hn, List.drop_append_of_le_length (by rw [List.length_take]; omega)]
theorem seg_self {l : List Nat} {a : Nat} : seg l a a = [] := by
  unfold seg
  exact List.drop_eq_nil_of_le (by rw [List.length_take]; omega)
theorem seg_app {l : List Nat} {a b c : Nat} (h1 : a ≤ b) (h2 : b ≤ c) (h3 : b ≤ l.length) : seg l a c = seg l a b ++ seg l b c := by
  unfold seg
  have e : (l.take c).drop a = ((l.take c).take b ++ (l.take c).drop b).drop a := by rw [List.take_append_drop]
  rw [e, List.take_take, Nat.min_eq_left h2, List.drop_append_of_le_length (by rw [List.length_take]; omega)]
theorem seg_len {l : List Nat} {a b : Nat} (h : b ≤ l.length) : (seg l a b).length = b - a := by
  unfold seg
  rw [List.length_drop, List.length_take]
  omega
theorem seg_all {l : List Nat} : seg l 0 l.length = l := by
  unfold seg
  rw [List.take_length, List.drop_zero]
/-- i an opening bracket, j its partner -/
def ptn (l : List Nat) (i j : Nat) : Prop := i < j ∧ ∃ c, l[i]? = some c ∧ c ∈ OPN ∧ l[j]? = some (oth c) ∧ clean (seg l (i + 1) j)
/-! the pile from any begin -/
theorem fold_none : ∀ l : List Nat, l.foldl stp none = none
  | [] => rfl
  | c :: l => by
    rw [List.foldl_cons]
    exact fold_none l
/-- what lies deeper in the pile stays -/
theorem fold_deep : ∀ (l : List Nat) (st r : List Nat) (t : List Nat), l.foldl stp (some st) = some r → l.foldl stp (some (st ++ t)) = some (r ++ t)
  | [], st, r, t, h => by
    cases h
    rfl
  | c :: l, st, r, t, h => by
    rw [List.foldl_cons] at h ⊢
    by_cases h1 : c ∈ OPN
    · rw [stp_opn h1] at h ⊢
      exact fold_deep l (oth c :: st) r t h
    · by_cases h2 : c ∈ CLO
      · cases st with
        | nil =>
          have e : stp (some []) c = none := by unfold stp; simp only [h1, h2, if_true, if_false]
          rw [e, fold_none] at h
          cases h
        | cons d st =>
          by_cases hd : d = c
          · subst hd
            rw [stp_clo h2] at h
            rw [List.cons_append, stp_clo h2]
            exact fold_deep l st r t h
          · have e : stp (some (d :: st)) c = none := by unfold stp; simp only [h1, h2, hd, if_true, if_false]
            rw [e, fold_none] at h
            cases h
      · rw [stp_let h1 h2] at h ⊢
        exact fold_deep l st r t h
theorem run_clean_app {a b : List Nat} (h : clean a) : run (a ++ b) = run b := by
  rw [run_app, h]
  rfl
theorem fold_run {l : List Nat} {st r : List Nat} (h : run l = some r) : l.foldl stp (some st) = some (r ++ st) := by
  have := fold_deep l [] r st h
  simpa using this
/-- a clean text leaves each pile -/
theorem fold_clean {l : List Nat} (h : clean l) (st : Option (List Nat)) : l.foldl stp st = st := by
  cases st with
  | none => exact fold_none l
  | some st => simpa using fold_run (st := st) h
theorem clean_app {a b : List Nat} (h1 : clean a) (h2 : clean b) : clean (a ++ b) := by
  unfold clean
  rw [run_clean_app h1]
  exact h2
theorem clean_nil : clean [] := rfl
theorem clean_pair {c : Nat} {a : List Nat} (hc : c ∈ OPN) (h : clean a) : clean (c :: (a ++ [oth c])) := by
  show (c :: (a ++ [oth c])).foldl stp (some []) = some []
  rw [List.foldl_cons, stp_opn hc, List.foldl_append, fold_clean h]
  exact stp_clo (oth_clo c hc)
/-! ### the program's way -/
def pstep (l : List Nat) (s : List (Option Nat) × List Nat) (i c : Nat) : List (Option Nat) × List Nat :=
  if c ∈ OPN then (s.1, i :: s.2) else if c ∈ CLO then (match s.2 with
    | j :: w => if l[j]? = some (oth c) then ((s.1.set i (some j)).set j (some i), w) else (s.1, [])
    | [] => (s.1, [])) else s
def pst (l pre : List Nat) : List (Option Nat) × List Nat := pre.zipIdx.foldl (fun s ci => pstep l s ci.2 ci.1) (List.replicate l.length none, [])
theorem pst_snoc (l pre : List Nat) (c : Nat) : pst l (pre ++ [c]) = pstep l (pst l pre) pre.length c := by
  unfold pst
  rw [List.zipIdx_append, List.foldl_append]
  simp
def mates (l : List Nat) : List (Option Nat) := (pst l l).1
/-- what holds of both lists when the signs below n are gone over -/
structure PInv (l : List Nat) (n : Nat) (f : List (Option Nat)) (ws : List Nat) : Prop where
  len : f.length = l.length
  fnd : ∀ i j, f[i]? = some (some j) ↔ (ptn l i j ∧ j < n) ∨ (ptn l j i ∧ i < n)
  opn : ∀ j ∈ ws, j < n ∧ ∃ c, l[j]? = some c ∧ c ∈ OPN
  pile : ∀ k j, ws[k]? = some j → run (seg l (j + 1) n) = some ((ws.take k).map fun j => oth (l.getD j 0))
  all : ∀ i c, i < n → l[i]? = some c → c ∈ OPN → (run (seg l (i + 1) n)).isSome = true → i ∈ ws
  good : ∀ st, run (l.take n) = some st → ws.map (fun j => oth (l.getD j 0)) = st ∧ ∀ i c, i < n → l[i]? = some c → c ∈ BRK → f[i]? = some none → i ∈ ws
  bad : run (l.take n) = none → ∃ i c, i < n ∧ l[i]? = some c ∧ c ∈ CLO ∧ ∀ j, ¬ ptn l j i
theorem getD_of {l : List Nat} {j c : Nat} (h : l[j]? = some c) : l.getD j 0 = c := by
  rw [List.getD_eq_getElem?_getD, h]
  rfl
theorem ptn_lt {l : List Nat} {i j : Nat} (h : ptn l i j) : j < l.length := by
  obtain ⟨_, c, _, _, h2, _⟩ := h
  exact (List.getElem?_eq_some_iff.mp h2).1
theorem seg_run_snoc {l : List Nat} {a n c : Nat} (h : a ≤ n) (hc : l[n]? = some c) : run (seg l a (n + 1)) = stp (run (seg l a n)) c := by
  obtain ⟨hn, e⟩ := List.getElem?_eq_some_iff.mp hc
  rw [seg_snoc h hn, e, run_snoc]
theorem take_run_snoc {l : List Nat} {n c : Nat} (hc : l[n]? = some c) : run (l.take (n + 1)) = stp (run (l.take n)) c := by
  obtain ⟨hn, e⟩ := List.getElem?_eq_some_iff.mp hc
  rw [List.take_succ_eq_append_getElem hn, e, run_snoc]
/-- one closing bracket closes at most the last that waits -/
theorem PInv.top {l : List Nat} {n c : Nat} {f : List (Option Nat)} {ws : List Nat} (I : PInv l n f ws) (hc : l[n]? = some c) (h2 : c ∈ CLO) {i : Nat} (h : ptn l i n) : ∃ w, ws = i :: w ∧ l[i]? = some (oth c) := by
  obtain ⟨hlt, d, hd, hdo, hnd, hcl⟩ := h
  rw [hnd] at hc
  have ed : oth d = c := Option.some.inj hc
  have hi : i ∈ ws := I.all i d hlt hd hdo (by rw [hcl]; rfl)
  obtain ⟨k, hk⟩ := List.mem_iff_getElem?.mp hi
  have hp := I.pile k i hk
  rw [hcl] at hp
  have hk0 : ws.take k = [] := by
    have := Option.some.inj hp
    exact List.map_eq_nil_iff.mp this.symm
  have hk00 : k = 0 := by
    rcases Nat.eq_zero_or_pos k with h | h
    · exact h
    · exfalso
      have hlen : k < ws.length := (List.getElem?_eq_some_iff.mp hk).1
      have := congrArg List.length hk0
      rw [List.length_take, List.length_nil] at this
      omega
  subst hk00
  cases ws with
  | nil => cases hk
  | cons a w =>
    have : a = i := Option.some.inj hk
    subst this
    refine ⟨w, rfl, ?_⟩
    rw [hd, ← ed, oth_oth d (brk_or.mpr (.inl hdo))]
theorem pinv_step {l : List Nat} {n c : Nat} {f : List (Option Nat)} {ws : List Nat} (I : PInv l n f ws) (hc : l[n]? = some c) : PInv l (n + 1) (pstep l (f, ws) n c).1 (pstep l (f, ws) n c).2 := by
  have hn : n < l.length := (List.getElem?_eq_some_iff.mp hc).1
  by_cases h1 : c ∈ OPN
  · -- an opening bracket waits
    have e : pstep l (f, ws) n c = (f, n :: ws) := by unfold pstep; simp only [h1, if_true]
    rw [e]
    have hnc : c ∉ CLO := opn_clo c h1
    refine ⟨I.len, fun i j => ?_, fun j hj => ?_, fun k j hk => ?_, fun i d hi hd hdo hs => ?_, fun st hst => ?_, fun hb => ?_⟩
    · rw [I.fnd i j]
      have key : ∀ i, ¬ ptn l i n := by
        rintro i ⟨_, d, _, hdo, hnd, _⟩
        rw [hnd] at hc
        have : oth d = c := Option.some.inj hc
        exact hnc (this ▸ oth_clo d hdo)
      constructor
      · rintro (⟨p, h⟩ | ⟨p, h⟩)
        · exact .inl ⟨p, by omega⟩
        · exact .inr ⟨p, by omega⟩
      · rintro (⟨p, h⟩ | ⟨p, h⟩)
        · refine .inl ⟨p, ?_⟩
          rcases Nat.lt_or_ge j n with h' | h'
          · exact h'
          · have : j = n := by omega
            subst this
            exact absurd p (key i)
        · refine .inr ⟨p, ?_⟩
          rcases Nat.lt_or_ge i n with h' | h'
          · exact h'
          · have : i = n := by omega
            subst this
            exact absurd p (key j)
    · rcases List.mem_cons.mp hj with rfl | hj
      · exact ⟨by omega, c, hc, h1⟩
      · obtain ⟨a, b⟩ := I.opn j hj
        exact ⟨by omega, b⟩
    · cases k with
      | zero =>
        have : n = j := Option.some.inj hk
        subst this
        rw [seg_self]
        rfl
      | succ k =>
        have hk' : ws[k]? = some j := hk
        have hj := (I.opn j (List.mem_of_getElem? hk')).1
        rw [seg_run_snoc (by omega) hc, I.pile k j hk', stp_opn h1]
        show some (oth c :: _) = some (oth (l.getD n 0) :: _)
        rw [getD_of hc]
    · rcases Nat.lt_or_ge i n with h' | h'
      · refine List.mem_cons_of_mem _ (I.all i d h' hd hdo ?_)
        rw [seg_run_snoc (by omega) hc] at hs
        cases hr : run (seg l (i + 1) n) with
        | none => rw [hr] at hs; cases hs
        | some st => rfl
      · have : i = n := by omega
        subst this
        exact List.mem_cons_self ..
    · rw [take_run_snoc hc] at hst
      cases hr : run (l.take n) with
      | none => rw [hr] at hst; cases hst
      | some st0 =>
        rw [hr, stp_opn h1] at hst
        cases hst
        obtain ⟨a, b⟩ := I.good st0 hr
        refine ⟨?_, fun i d hi hd hdb hfi => ?_⟩
        · show oth (l.getD n 0) :: _ = oth c :: st0
          rw [a, getD_of hc]
        · rcases Nat.lt_or_ge i n with h' | h'
          · exact List.mem_cons_of_mem _ (b i d h' hd hdb hfi)
          · have : i = n := by omega
            subst this
            exact List.mem_cons_self ..
    · rw [take_run_snoc hc] at hb
      cases hr : run (l.take n) with
      | none =>
        obtain ⟨i, d, a, b⟩ := I.bad hr
        exact ⟨i, d, by omega, b⟩
      | some st0 =>
        rw [hr, stp_opn h1] at hb
        cases hb
  · by_cases h2 : c ∈ CLO
    · by_cases hm : ∃ j w, ws = j :: w ∧ l[j]? = some (oth c)
      · -- the last that waits is closed
        obtain ⟨j, w, rfl, hj⟩ := hm
        have e : pstep l (f, j :: w) n c = ((f.set n (some j)).set j (some n), w) := by unfold pstep; simp only [h1, h2, hj, if_true, if_false]
        rw [e]
        have hjn : j < n := (I.opn j (List.mem_cons_self ..)).1
        have hp0 := I.pile 0 j rfl
        have hclj : clean (seg l (j + 1) n) := hp0
        have hcc : oth (oth c) = c := oth_oth c (brk_or.mpr (.inr h2))
        have hpt : ptn l j n := ⟨hjn, oth c, hj, oth_opn c h2, by rw [hcc]; exact hc, hclj⟩
        have uniq : ∀ i, ptn l i n → i = j := fun i hi => by
          obtain ⟨w', ew, _⟩ := I.top hc h2 hi
          cases ew
          rfl
        have uniq2 : ∀ k, ptn l j k → k < n + 1 → k = n := fun k hk hkn => by
          rcases Nat.lt_or_ge k n with h' | h'
          · exfalso
            obtain ⟨hjk, d, hd, hdo, hkd, hcl⟩ := hk
            have hk2 : run (seg l (j + 1) (k + 1)) = none := by
              rw [seg_run_snoc (by omega) hkd, hcl]
              have a1 : oth d ∉ OPN := fun h => opn_clo _ h (oth_clo d hdo)
              unfold stp
              simp only [a1, oth_clo d hdo, if_true, if_false]
            have : run (seg l (j + 1) n) = none := by
              rw [seg_app (b := k + 1) (by omega) (by omega) (by omega), run_app, hk2, fold_none]
            rw [hclj] at this
            cases this
          · omega
        refine ⟨by simp [I.len], fun i k => ?_, fun i hi => ?_, fun k i hk => ?_, fun i d hi hd hdo hs => ?_, fun st hst => ?_, fun hb => ?_⟩
        · have hjl : j < f.length := by rw [I.len]; omega
          have hnl : n < f.length := by rw [I.len]; exact hn
          by_cases hij : i = j
          · subst hij
            rw [List.getElem?_set_self (by simp [hjl])]
            constructor
            · intro h
              cases h
              exact .inl ⟨hpt, by omega⟩
            · rintro (⟨p, h⟩ | ⟨p, h⟩)
              · rw [uniq2 k p h]
              · exfalso
                obtain ⟨_, d, _, hdo, hid, _⟩ := p
                rw [hj] at hid
                have : oth c = oth d := Option.some.inj hid
                exact opn_clo _ (oth_opn c h2) (this ▸ oth_clo d hdo)
          · rw [List.getElem?_set_ne (Ne.symm hij)]
            by_cases hin : i = n
            · subst hin
              rw [List.getElem?_set_self hnl]
              constructor
              · intro h
                cases h
                exact .inr ⟨hpt, by omega⟩
              · rintro (⟨p, h⟩ | ⟨p, h⟩)
                · have := p.1
                  omega
                · rw [uniq k p]
            · rw [List.getElem?_set_ne (Ne.symm hin), I.fnd i k]
              constructor
              · rintro (⟨p, h⟩ | ⟨p, h⟩)
                · exact .inl ⟨p, by omega⟩
                · exact .inr ⟨p, by omega⟩
              · rintro (⟨p, h⟩ | ⟨p, h⟩)
                · refine .inl ⟨p, ?_⟩
                  rcases Nat.lt_or_ge k n with h' | h'
                  · exact h'
                  · have : k = n := by omega
                    subst this
                    exact absurd (uniq i p) hij
                · exact .inr ⟨p, by omega⟩
        · obtain ⟨a, b⟩ := I.opn i (List.mem_cons_of_mem _ hi)
          exact ⟨by omega, b⟩
        · have hk' : (j :: w)[k + 1]? = some i := hk
          have hin := (I.opn i (List.mem_of_getElem? hk')).1
          have hpk := I.pile (k + 1) i hk'
          rw [seg_run_snoc (by omega) hc, hpk]
          show stp (some (oth (l.getD j 0) :: _)) c = _
          rw [getD_of hj, hcc, stp_clo h2]
        · have hin : i < n := by
            rcases Nat.lt_or_ge i n with h' | h'
            · exact h'
            · have : i = n := by omega
              subst this
              rw [hc] at hd
              cases hd
              exact absurd hdo h1
          rw [seg_run_snoc (by omega) hc] at hs
          have hmem : i ∈ j :: w := I.all i d hin hd hdo (by
            cases hr : run (seg l (i + 1) n) with
            | none => rw [hr] at hs; cases hs
            | some st => rfl)
          rcases List.mem_cons.mp hmem with rfl | h'
          · exfalso
            rw [hclj] at hs
            have : stp (some []) c = none := by unfold stp; simp only [h1, h2, if_true, if_false]
            rw [this] at hs
            cases hs
          · exact h'
        · rw [take_run_snoc hc] at hst
          cases hr : run (l.take n) with
          | none => rw [hr] at hst; cases hst
          | some st0 =>
            obtain ⟨a, b⟩ := I.good st0 hr
            have a' : oth (l.getD j 0) :: w.map (fun j => oth (l.getD j 0)) = st0 := a
            rw [getD_of hj, hcc] at a'
            rw [hr, ← a', stp_clo h2] at hst
            have hst' := Option.some.inj hst
            refine ⟨hst', fun i d hi hd hdb hfi => ?_⟩
            have hjl : j < f.length := by rw [I.len]; omega
            have hnl : n < f.length := by rw [I.len]; exact hn
            by_cases hij : i = j
            · subst hij
              rw [List.getElem?_set_self (by simp [hjl])] at hfi
              cases hfi
            · rw [List.getElem?_set_ne (Ne.symm hij)] at hfi
              by_cases hin : i = n
              · subst hin
                rw [List.getElem?_set_self hnl] at hfi
                cases hfi
              · rw [List.getElem?_set_ne (Ne.symm hin)] at hfi
                rcases List.mem_cons.mp (b i d (by omega) hd hdb hfi) with rfl | h'
                · exact absurd rfl hij
                · exact h'
        · rw [take_run_snoc hc] at hb
          cases hr : run (l.take n) with
          | none =>
            obtain ⟨i, d, a, b⟩ := I.bad hr
            exact ⟨i, d, by omega, b⟩
          | some st0 =>
            obtain ⟨a, b⟩ := I.good st0 hr
            have a' : oth (l.getD j 0) :: w.map (fun j => oth (l.getD j 0)) = st0 := a
            rw [getD_of hj, hcc] at a'
            rw [hr, ← a', stp_clo h2] at hb
            cases hb
      · -- nothing is closed: all is forgotten
        have e : pstep l (f, ws) n c = (f, []) := by
          unfold pstep
          simp only [h1, h2, if_true, if_false]
          cases ws with
          | nil => rfl
          | cons j w =>
            have : ¬ l[j]? = some (oth c) := fun h => hm ⟨j, w, rfl, h⟩
            simp only [this, if_false]
        rw [e]
        have none_n : ∀ i, ¬ ptn l i n := fun i hi => by
          obtain ⟨w, ew, hl⟩ := I.top hc h2 hi
          exact hm ⟨i, w, ew, hl⟩
        refine ⟨I.len, fun i j => ?_, fun j hj => (by cases hj), fun k j hk => (by cases hk), fun i d hi hd hdo hs => ?_, fun st hst => ?_, fun hb => ⟨n, c, by omega, hc, h2, none_n⟩⟩
        · rw [I.fnd i j]
          constructor
          · rintro (⟨p, h⟩ | ⟨p, h⟩)
            · exact .inl ⟨p, by omega⟩
            · exact .inr ⟨p, by omega⟩
          · rintro (⟨p, h⟩ | ⟨p, h⟩)
            · refine .inl ⟨p, ?_⟩
              rcases Nat.lt_or_ge j n with h' | h'
              · exact h'
              · have : j = n := by omega
                subst this
                exact absurd p (none_n i)
            · refine .inr ⟨p, ?_⟩
              rcases Nat.lt_or_ge i n with h' | h'
              · exact h'
              · have : i = n := by omega
                subst this
                exact absurd p (none_n j)
        · exfalso
          have hin : i < n := by
            rcases Nat.lt_or_ge i n with h' | h'
            · exact h'
            · have : i = n := by omega
              subst this
              rw [hc] at hd
              cases hd
              exact absurd hdo h1
          rw [seg_run_snoc (by omega) hc] at hs
          cases hr : run (seg l (i + 1) n) with
          | none => rw [hr] at hs; cases hs
          | some st =>
            have hmem : i ∈ ws := I.all i d hin hd hdo (by rw [hr]; rfl)
            obtain ⟨k, hk⟩ := List.mem_iff_getElem?.mp hmem
            have hp := I.pile k i hk
            rw [hr] at hs
            rw [hr] at hp
            have hp' := Option.some.inj hp
            subst hp'
            cases k with
            | zero =>
              have : stp (some []) c = none := by unfold stp; simp only [h1, h2, if_true, if_false]
              rw [List.take_zero, List.map_nil, this] at hs
              cases hs
            | succ k =>
              cases ws with
              | nil => cases hk
              | cons j w =>
                obtain ⟨hjn, cj, hcj, hcjo⟩ := I.opn j (List.mem_cons_self ..)
                rw [List.take_succ_cons, List.map_cons, getD_of hcj] at hs
                have hne : oth cj ≠ c := fun h => hm ⟨j, w, rfl, by rw [hcj, ← h, oth_oth cj (brk_or.mpr (.inl hcjo))]⟩
                have : stp (some (oth cj :: (w.take k).map fun j => oth (l.getD j 0))) c = none := by unfold stp; simp only [h1, h2, hne, if_true, if_false]
                rw [this] at hs
                cases hs
        · exfalso
          rw [take_run_snoc hc] at hst
          cases hr : run (l.take n) with
          | none => rw [hr] at hst; cases hst
          | some st0 =>
            obtain ⟨a, b⟩ := I.good st0 hr
            subst a
            rw [hr] at hst
            cases ws with
            | nil =>
              have : stp (some []) c = none := by unfold stp; simp only [h1, h2, if_true, if_false]
              rw [List.map_nil, this] at hst
              cases hst
            | cons j w =>
              obtain ⟨hjn, cj, hcj, hcjo⟩ := I.opn j (List.mem_cons_self ..)
              rw [List.map_cons, getD_of hcj] at hst
              have hne : oth cj ≠ c := fun h => hm ⟨j, w, rfl, by rw [hcj, ← h, oth_oth cj (brk_or.mpr (.inl hcjo))]⟩
              have : stp (some (oth cj :: w.map fun j => oth (l.getD j 0))) c = none := by unfold stp; simp only [h1, h2, hne, if_true, if_false]
              rw [this] at hst
              cases hst
    · -- a letter
      have e : pstep l (f, ws) n c = (f, ws) := by unfold pstep; simp only [h1, h2, if_false]
      rw [e]
      have none_n : ∀ i, ¬ ptn l i n := by
        rintro i ⟨_, d, _, hdo, hnd, _⟩
        rw [hnd] at hc
        have : oth d = c := Option.some.inj hc
        exact h2 (this ▸ oth_clo d hdo)
      refine ⟨I.len, fun i j => ?_, fun j hj => ?_, fun k j hk => ?_, fun i d hi hd hdo hs => ?_, fun st hst => ?_, fun hb => ?_⟩
      · rw [I.fnd i j]
        constructor
        · rintro (⟨p, h⟩ | ⟨p, h⟩)
          · exact .inl ⟨p, by omega⟩
          · exact .inr ⟨p, by omega⟩
        · rintro (⟨p, h⟩ | ⟨p, h⟩)
          · refine .inl ⟨p, ?_⟩
            rcases Nat.lt_or_ge j n with h' | h'
            · exact h'
            · have : j = n := by omega
              subst this
              exact absurd p (none_n i)
          · refine .inr ⟨p, ?_⟩
            rcases Nat.lt_or_ge i n with h' | h'
            · exact h'
            · have : i = n := by omega
              subst this
              exact absurd p (none_n j)
      · obtain ⟨a, b⟩ := I.opn j hj
        exact ⟨by omega, b⟩
      · have hj := (I.opn j (List.mem_of_getElem? hk)).1
        rw [seg_run_snoc (by omega) hc, I.pile k j hk, stp_let h1 h2]
      · have hin : i < n := by
          rcases Nat.lt_or_ge i n with h' | h'
          · exact h'
          · have : i = n := by omega
            subst this
            rw [hc] at hd
            cases hd
            exact absurd hdo h1
        rw [seg_run_snoc (by omega) hc, stp_let h1 h2] at hs
        exact I.all i d hin hd hdo hs
      · rw [take_run_snoc hc, stp_let h1 h2] at hst
        obtain ⟨a, b⟩ := I.good st hst
        refine ⟨a, fun i d hi hd hdb hfi => ?_⟩
        rcases Nat.lt_or_ge i n with h' | h'
        · exact b i d h' hd hdb hfi
        · have : i = n := by omega
          subst this
          rw [hc] at hd
          cases hd
          exact absurd (brk_or.mp hdb) (by simp [h1, h2])
      · rw [take_run_snoc hc, stp_let h1 h2] at hb
        obtain ⟨i, d, a, b⟩ := I.bad hb
        exact ⟨i, d, by omega, b⟩
theorem pinv_start (l : List Nat) : PInv l 0 (List.replicate l.length none) [] := by
  refine ⟨by simp, fun i j => ⟨fun h => ?_, fun h => ?_⟩, fun j hj => (by cases hj), fun k j hk => (by cases hk), fun i d hi => absurd hi (Nat.not_lt_zero _), fun st hst => ?_, fun hb => ?_⟩
  · rw [List.getElem?_replicate] at h
    split at h <;> cases h
  · rcases h with ⟨_, h⟩ | ⟨_, h⟩ <;> exact absurd h (Nat.not_lt_zero _)
  · rw [List.take_zero] at hst
    cases hst
    exact ⟨rfl, fun i d hi => absurd hi (Nat.not_lt_zero _)⟩
  · rw [List.take_zero] at hb
    cases hb
theorem pinv_all (l : List Nat) : ∀ n, n ≤ l.length → PInv l n (pst l (l.take n)).1 (pst l (l.take n)).2
  | 0, _ => by
    rw [List.take_zero]
    exact pinv_start l
  | n + 1, h => by
    have hn : n < l.length := h
    have ih := pinv_all l n (Nat.le_of_lt hn)
    rw [List.take_succ_eq_append_getElem hn, pst_snoc, List.length_take, Nat.min_eq_left (Nat.le_of_lt hn)]
    exact pinv_step ih (List.getElem?_eq_getElem hn)
theorem pinv_end (l : List Nat) : PInv l l.length (mates l) (pst l l).2 := by
  have h := pinv_all l l.length (Nat.le_refl _)
  rw [List.take_length] at h
  exact h
/-- POINT 5: the told partners -/
theorem mates_ptn (l : List Nat) (i j : Nat) : (mates l)[i]? = some (some j) ↔ ptn l i j ∨ ptn l j i := by
  rw [(pinv_end l).fnd i j]
  constructor
  · rintro (⟨p, _⟩ | ⟨p, _⟩)
    · exact .inl p
    · exact .inr p
  · rintro (p | p)
    · exact .inl ⟨p, ptn_lt p⟩
    · exact .inr ⟨p, ptn_lt p⟩
theorem mates_len (l : List Nat) : (mates l).length = l.length := (pinv_end l).len
/-- clean just where each bracket has a partner -/
theorem clean_mates (l : List Nat) : clean l ↔ ∀ (i c : Nat), l[i]? = some c → c ∈ BRK → (mates l)[i]? ≠ some none := by
  have I := pinv_end l
  constructor
  · intro h i c hi hc hn
    have hr : run (l.take l.length) = some [] := by rw [List.take_length]; exact h
    obtain ⟨a, b⟩ := I.good [] hr
    have hw : (pst l l).2 = [] := List.map_eq_nil_iff.mp a
    have := b i c (List.getElem?_eq_some_iff.mp hi).1 hi hc hn
    rw [hw] at this
    cases this
  · intro h
    cases hr : run (l.take l.length) with
    | none =>
      exfalso
      obtain ⟨i, c, hi, hc, hcc, hp⟩ := I.bad hr
      have hi' : i < (mates l).length := by rw [mates_len]; exact hi
      have hm : (mates l)[i]? = some (mates l)[i] := List.getElem?_eq_getElem hi'
      refine h i c hc (brk_or.mpr (.inr hcc)) ?_
      cases hv : (mates l)[i] with
      | none => rw [hm, hv]
      | some j =>
        exfalso
        rw [hv] at hm
        rcases (mates_ptn l i j).mp hm with p | p
        · obtain ⟨_, d, hd, hdo, _⟩ := p
          rw [hc] at hd
          cases hd
          exact opn_clo _ hdo hcc
        · exact hp j p
    | some st =>
      obtain ⟨a, _⟩ := I.good st hr
      rw [List.take_length] at hr
      cases hw : (pst l l).2 with
      | nil =>
        rw [hw] at a
        show run l = some []
        rw [hr, ← a]
        rfl
      | cons j w =>
        exfalso
        have hj : j ∈ (pst l l).2 := by rw [hw]; exact List.mem_cons_self ..
        obtain ⟨hjl, c, hc, hco⟩ := I.opn j hj
        have hj' : j < (mates l).length := by rw [mates_len]; exact hjl
        have hm : (mates l)[j]? = some (mates l)[j] := List.getElem?_eq_getElem hj'
        refine h j c hc (brk_or.mpr (.inl hco)) ?_
        cases hv : (mates l)[j] with
        | none => rw [hm, hv]
        | some k =>
          exfalso
          rw [hv] at hm
          rcases (mates_ptn l j k).mp hm with p | p
          · obtain ⟨m, hmm⟩ := List.mem_iff_getElem?.mp hj
            have hp := I.pile m j hmm
            have hkl := ptn_lt p
            obtain ⟨hjk, d, hd, hdo, hkd, hcl⟩ := p
            have hk2 : run (seg l (j + 1) (k + 1)) = none := by
              rw [seg_run_snoc (by omega) hkd, hcl]
              have a1 : oth d ∉ OPN := fun h => opn_clo _ h (oth_clo d hdo)
              unfold stp
              simp only [a1, oth_clo d hdo, if_true, if_false]
            rw [seg_app (b := k + 1) (by omega) (by omega) (by omega), run_app, hk2, fold_none] at hp
            cases hp
          · obtain ⟨_, d, hd, hdo, hkd, _⟩ := p
            rw [hc] at hkd
            have : c = oth d := Option.some.inj hkd
            exact opn_clo _ hco (this ▸ oth_clo d hdo)
end Ly

set_option maxHeartbeats 4000000
namespace Ly
/-- the first place at which the pile is as it was below d -/
theorem fold_split : ∀ (n : Nat) (r d st t), r.length ≤ n → d ∈ CLO → r.foldl stp (some (d :: st)) = some t → t.length ≤ st.length → ∃ a b, r = a ++ d :: b ∧ clean a ∧ b.foldl stp (some st) = some t
  | n, [], d, st, t, _, _, h, hl => by
    cases h
    simp at hl
    omega
  | 0, e :: r, d, st, t, hn, _, _, _ => by simp at hn
  | n + 1, e :: r, d, st, t, hn, hd, h, hl => by
    have hn' : r.length ≤ n := by simpa using hn
    rw [List.foldl_cons] at h
    by_cases h1 : e ∈ OPN
    · rw [stp_opn h1] at h
      obtain ⟨a1, b1, e1, c1, f1⟩ := fold_split n r (oth e) (d :: st) t hn' (oth_clo e h1) h (by simp; omega)
      have hb1 : b1.length ≤ n := by
        rw [e1] at hn'
        simp at hn'
        omega
      obtain ⟨a2, b2, e2, c2, f2⟩ := fold_split n b1 d st t hb1 hd f1 hl
      refine ⟨e :: (a1 ++ [oth e]) ++ a2, b2, by rw [e1, e2]; simp, clean_app (clean_pair h1 c1) c2, f2⟩
    · by_cases h2 : e ∈ CLO
      · by_cases hde : d = e
        · subst hde
          rw [stp_clo h2] at h
          exact ⟨[], r, rfl, clean_nil, h⟩
        · exfalso
          have : stp (some (d :: st)) e = none := by unfold stp; simp only [h1, h2, hde, if_true, if_false]
          rw [this, fold_none] at h
          cases h
      · rw [stp_let h1 h2] at h
        obtain ⟨a, b, e1, c1, f1⟩ := fold_split n r d st t hn' hd h hl
        refine ⟨e :: a, b, by rw [e1]; rfl, ?_, f1⟩
        show (e :: a).foldl stp (some []) = some []
        rw [List.foldl_cons, stp_let h1 h2]
        exact c1
/-- a clean text that begins with an opening bracket -/
theorem clean_opn {c : Nat} {r : List Nat} (hc : c ∈ OPN) (h : clean (c :: r)) : ∃ a b, r = a ++ oth c :: b ∧ clean a ∧ clean b := by
  have h' : (c :: r).foldl stp (some []) = some [] := h
  rw [List.foldl_cons, stp_opn hc] at h'
  obtain ⟨a, b, e, c1, f1⟩ := fold_split r.length r (oth c) [] [] (Nat.le_refl _) (oth_clo c hc) h' (Nat.le_refl _)
  exact ⟨a, b, e, c1, f1⟩
theorem clean_let {c : Nat} {r : List Nat} (h1 : c ∉ OPN) (h2 : c ∉ CLO) : clean (c :: r) ↔ clean r := by
  show (c :: r).foldl stp (some []) = some [] ↔ _
  rw [List.foldl_cons, stp_let h1 h2]
  rfl
theorem clean_clo {c : Nat} {r : List Nat} (h2 : c ∈ CLO) : ¬ clean (c :: r) := by
  intro h
  have h' : (c :: r).foldl stp (some []) = some [] := h
  have h1 : c ∉ OPN := fun h => opn_clo c h h2
  have : stp (some []) c = none := by unfold stp; simp only [h1, h2, if_true, if_false]
  rw [List.foldl_cons, this, fold_none] at h'
  cases h'
theorem clean_cancel {a b : List Nat} (h : clean a) : clean (a ++ b) ↔ clean b := by
  unfold clean
  rw [run_clean_app h]
/-! ### by places -/
theorem seg_cons {l : List Nat} {a b c : Nat} (h : l[a]? = some c) (hb : a < b) (hl : b ≤ l.length) : seg l a b = c :: seg l (a + 1) b := by
  obtain ⟨ha, e⟩ := List.getElem?_eq_some_iff.mp h
  rw [seg_app (b := a + 1) (by omega) (by omega) (by omega), seg_snoc (Nat.le_refl a) ha, seg_self, e]
  rfl
/-- a clean stretch from an opening bracket on holds its partner -/
theorem seg_opn {l : List Nat} {a b c : Nat} (h : l[a]? = some c) (hc : c ∈ OPN) (hb : a < b) (hl : b ≤ l.length) (hcl : clean (seg l a b)) : ∃ k, ptn l a k ∧ k < b ∧ clean (seg l (k + 1) b) := by
  rw [seg_cons h hb hl] at hcl
  obtain ⟨x, y, e, cx, cy⟩ := clean_opn hc hcl
  have hlen := congrArg List.length e
  rw [seg_len hl] at hlen
  simp at hlen
  have hk : a + 1 + x.length < b := by omega
  have hx : seg l (a + 1) (a + 1 + x.length) = x := by
    have e1 := seg_app (l := l) (a := a + 1) (b := a + 1 + x.length) (c := b) (by omega) (by omega) (by omega)
    rw [e] at e1
    exact ((List.append_inj e1 (by rw [seg_len (by omega)]; omega)).1).symm
  have hy : seg l (a + 1 + x.length) b = oth c :: y := by
    have e1 := seg_app (l := l) (a := a + 1) (b := a + 1 + x.length) (c := b) (by omega) (by omega) (by omega)
    rw [e] at e1
    exact ((List.append_inj e1 (by rw [seg_len (by omega)]; omega)).2).symm
  have hlk : l[a + 1 + x.length]? = some (oth c) := by
    have hlt : a + 1 + x.length < l.length := by omega
    have e2 := List.getElem?_eq_getElem hlt
    have e3 := seg_cons e2 hk hl
    rw [hy] at e3
    rw [e2]
    exact congrArg some (List.cons.inj e3).1.symm
  refine ⟨a + 1 + x.length, ⟨by omega, c, h, hc, hlk, by rw [hx]; exact cx⟩, hk, ?_⟩
  have e3 := seg_cons hlk hk hl
  rw [hy] at e3
  rw [← (List.cons.inj e3).2]
  exact cy
theorem seg_let {l : List Nat} {a b c : Nat} (h : l[a]? = some c) (h1 : c ∉ OPN) (h2 : c ∉ CLO) (hb : a < b) (hl : b ≤ l.length) : clean (seg l a b) ↔ clean (seg l (a + 1) b) := by
  rw [seg_cons h hb hl]
  exact clean_let h1 h2
theorem seg_clo {l : List Nat} {a b c : Nat} (h : l[a]? = some c) (h2 : c ∈ CLO) (hb : a < b) (hl : b ≤ l.length) : ¬ clean (seg l a b) := by
  rw [seg_cons h hb hl]
  exact clean_clo h2
/-- the pair itself is clean -/
theorem ptn_clean {l : List Nat} {i j : Nat} (h : ptn l i j) : clean (seg l i (j + 1)) := by
  have hj := ptn_lt h
  obtain ⟨hij, c, hc, hco, hd, hcl⟩ := h
  have e : seg l i (j + 1) = c :: (seg l (i + 1) j ++ [oth c]) := by
    rw [seg_cons hc (by omega) (by omega), seg_snoc (by omega) hj, (List.getElem?_eq_some_iff.mp hd).2]
  rw [e]
  exact clean_pair hco hcl
theorem ptn_fun {l : List Nat} {i j k : Nat} (h1 : ptn l i j) (h2 : ptn l i k) : j = k := by
  have a := (mates_ptn l i j).mpr (.inl h1)
  have b := (mates_ptn l i k).mpr (.inl h2)
  rw [a] at b
  exact Option.some.inj (Option.some.inj b)
theorem ptn_inj {l : List Nat} {i j k : Nat} (h1 : ptn l i k) (h2 : ptn l j k) : i = j := by
  have a := (mates_ptn l k i).mpr (.inr h1)
  have b := (mates_ptn l k j).mpr (.inr h2)
  rw [a] at b
  exact Option.some.inj (Option.some.inj b)
end Ly

set_option maxHeartbeats 4000000
namespace Ly
/-! ### partners found from behind -/
def over (l : List Nat) (m : List (Option Nat)) (s : Nat) : Bool := match l[s]? with
  | none => false
  | some c => if c ∈ CLO then false else if c ∈ OPN then (match m[s]? with | some (some _) => true | _ => false) else true
/-- the opening brackets from k on have their partners -/
def Beh (l : List Nat) (m : List (Option Nat)) (k : Nat) : Prop := m.length = l.length ∧ ∀ i j, m[i]? = some (some j) ↔ k ≤ i ∧ ptn l i j
/-- the way of the inner loop -/
def Spt (l : List Nat) (a s : Nat) : Prop := a < s ∧ s ≤ l.length ∧ clean (seg l (a + 1) s) ∧ ∀ j, ptn l a j → s ≤ j
theorem beh_start (l : List Nat) : Beh l (List.replicate l.length none) l.length := by
  refine ⟨by simp, fun i j => ?_⟩
  constructor
  · intro h
    rw [List.getElem?_replicate] at h
    split at h <;> cases h
  · rintro ⟨h1, h2⟩
    have := ptn_lt h2
    have := h2.1
    omega
theorem spt_start {l : List Nat} {a : Nat} (h : a < l.length) : Spt l a (a + 1) := ⟨by omega, by omega, by rw [seg_self]; exact clean_nil, fun j hj => hj.1⟩
theorem spt_rest {l : List Nat} {a s j : Nat} (S : Spt l a s) (h : ptn l a j) : clean (seg l s j) := by
  have hj := ptn_lt h
  have h2 := S.2.2.2 j h
  obtain ⟨h1, c, _, _, _, hc⟩ := h
  rw [seg_app (b := s) (by have := S.1; omega) h2 S.2.1] at hc
  exact (clean_cancel S.2.2.1).mp hc
theorem seg_one {l : List Nat} {a c : Nat} (h : l[a]? = some c) : seg l a (a + 1) = [c] := by
  obtain ⟨hl, e⟩ := List.getElem?_eq_some_iff.mp h
  rw [seg_snoc (Nat.le_refl a) hl, seg_self, e]
  rfl
theorem spt_let {l : List Nat} {a s c : Nat} (S : Spt l a s) (h : l[s]? = some c) (h1 : c ∉ OPN) (h2 : c ∉ CLO) : Spt l a (s + 1) := by
  obtain ⟨hl, e⟩ := List.getElem?_eq_some_iff.mp h
  refine ⟨by have := S.1; omega, hl, ?_, fun j hj => ?_⟩
  · rw [seg_app (b := s) (by have := S.1; omega) (by omega) (by omega), clean_cancel S.2.2.1, seg_one h]
    exact (clean_let h1 h2).mpr clean_nil
  · have := S.2.2.2 j hj
    rcases Nat.lt_or_ge s j with h' | h'
    · exact h'
    · exfalso
      have : s = j := by omega
      subst this
      obtain ⟨_, d, _, hd, he, _⟩ := hj
      rw [h] at he
      cases he
      exact h2 (oth_clo d hd)
theorem spt_opn {l : List Nat} {a s c k : Nat} (S : Spt l a s) (h : l[s]? = some c) (h1 : c ∈ OPN) (hk : ptn l s k) : Spt l a (k + 1) := by
  obtain ⟨hl, e⟩ := List.getElem?_eq_some_iff.mp h
  have hkl := ptn_lt hk
  have hsk := hk.1
  refine ⟨by have := S.1; omega, hkl, ?_, fun j hj => ?_⟩
  · rw [seg_app (b := s) (by have := S.1; omega) (by omega) (by omega), clean_cancel S.2.2.1]
    exact ptn_clean hk
  · have h3 := S.2.2.2 j hj
    have hjl := ptn_lt hj
    rcases Nat.lt_or_ge s j with h' | h'
    · obtain ⟨k', p', q', _⟩ := seg_opn h h1 h' (by omega) (spt_rest S hj)
      have := ptn_fun hk p'
      omega
    · exfalso
      have : s = j := by omega
      subst this
      obtain ⟨_, d, _, hd, he, _⟩ := hj
      rw [h] at he
      cases he
      exact opn_clo _ h1 (oth_clo d hd)
theorem spt_end {l : List Nat} {m : List (Option Nat)} {a s j : Nat} (S : Spt l a s) (B : Beh l m (a + 1)) (ho : over l m s = false) (h : ptn l a j) : s = j := by
  have h3 := S.2.2.2 j h
  have hjl := ptn_lt h
  rcases Nat.lt_or_ge s j with h' | h'
  · exfalso
    have hs : s < l.length := by omega
    have e := List.getElem?_eq_getElem hs
    have r := spt_rest S h
    have h2 : l[s] ∉ CLO := fun h2 => seg_clo e h2 h' (by omega) r
    unfold over at ho
    simp only [e, h2, if_false] at ho
    by_cases h1 : l[s] ∈ OPN
    · obtain ⟨k', p', q', _⟩ := seg_opn e h1 h' (by omega) r
      have hm := (B.2 s k').mpr ⟨S.1, p'⟩
      simp only [h1, if_true, hm] at ho
      cases ho
    · simp only [h1, if_false] at ho
      cases ho
  · omega
theorem spt_ptn {l : List Nat} {a s c : Nat} (S : Spt l a s) (h : l[a]? = some c) (h1 : c ∈ OPN) (he : l[s]? = some (oth c)) : ptn l a s := ⟨S.1, c, h, h1, he, S.2.2.1⟩
theorem beh_other {l : List Nat} {m : List (Option Nat)} {a : Nat} (B : Beh l m (a + 1)) (h : ∀ j, ¬ ptn l a j) : Beh l m a := by
  refine ⟨B.1, fun i j => ?_⟩
  rw [B.2]
  constructor
  · rintro ⟨x, y⟩
    exact ⟨by omega, y⟩
  · rintro ⟨x, y⟩
    rcases Nat.lt_or_ge a i with h' | h'
    · exact ⟨h', y⟩
    · have : i = a := by omega
      subst this
      exact absurd y (h j)
theorem beh_set {l : List Nat} {m : List (Option Nat)} {a s : Nat} (B : Beh l m (a + 1)) (h : ptn l a s) : Beh l (m.set a (some s)) a := by
  have hal : a < m.length := by rw [B.1]; have := ptn_lt h; have := h.1; omega
  refine ⟨by rw [List.length_set]; exact B.1, fun i j => ?_⟩
  by_cases e : i = a
  · subst e
    rw [List.getElem?_set_self hal]
    constructor
    · intro h'
      have : s = j := Option.some.inj (Option.some.inj h')
      subst this
      exact ⟨Nat.le_refl _, h⟩
    · rintro ⟨_, h'⟩
      rw [ptn_fun h h']
  · rw [List.getElem?_set_ne (fun h => e h.symm), B.2]
    constructor
    · rintro ⟨x, y⟩
      exact ⟨by omega, y⟩
    · rintro ⟨x, y⟩
      exact ⟨by omega, y⟩
/-- the closing brackets whose partners lie below k have them too -/
def Bot (l : List Nat) (m : List (Option Nat)) (k : Nat) : Prop := m.length = l.length ∧ ∀ i j, m[i]? = some (some j) ↔ ptn l i j ∨ (ptn l j i ∧ j < k)
theorem bot_start {l : List Nat} {m : List (Option Nat)} (B : Beh l m 0) : Bot l m 0 := by
  refine ⟨B.1, fun i j => ?_⟩
  rw [B.2]
  constructor
  · rintro ⟨_, y⟩
    exact .inl y
  · rintro (y | ⟨_, y⟩)
    · exact ⟨Nat.zero_le _, y⟩
    · omega
theorem ptn_not {l : List Nat} {i j k : Nat} (h : ptn l i j) : ¬ ptn l j k := by
  rintro ⟨_, c, h1, h2, _⟩
  obtain ⟨_, d, _, h3, h4, _⟩ := h
  rw [h1] at h4
  cases h4
  exact opn_clo _ h2 (oth_clo d h3)
theorem bot_set {l : List Nat} {m : List (Option Nat)} {k j : Nat} (B : Bot l m k) (h : m[k]? = some (some j)) (hj : k < j) : Bot l (m.set j (some k)) (k + 1) := by
  have hp : ptn l k j := by
    rcases (B.2 k j).mp h with h | ⟨h, h2⟩
    · exact h
    · have := h.1
      omega
  have hjl : j < m.length := by rw [B.1]; exact ptn_lt hp
  refine ⟨by rw [List.length_set]; exact B.1, fun i x => ?_⟩
  by_cases e : i = j
  · subst e
    rw [List.getElem?_set_self hjl]
    constructor
    · intro h'
      have : k = x := Option.some.inj (Option.some.inj h')
      subst this
      exact .inr ⟨hp, by omega⟩
    · rintro (h' | ⟨h', _⟩)
      · exact absurd h' (ptn_not hp)
      · rw [ptn_inj hp h']
  · rw [List.getElem?_set_ne (fun h => e h.symm), B.2]
    constructor
    · rintro (h' | ⟨h', h2⟩)
      · exact .inl h'
      · exact .inr ⟨h', by omega⟩
    · rintro (h' | ⟨h', h2⟩)
      · exact .inl h'
      · refine .inr ⟨h', ?_⟩
        rcases Nat.lt_or_ge x k with h3 | h3
        · exact h3
        · have : x = k := by omega
          subst this
          exact absurd (ptn_fun hp h') (fun h => e h.symm)
theorem bot_keep {l : List Nat} {m : List (Option Nat)} {k : Nat} (B : Bot l m k) (h : ∀ j, m[k]? = some (some j) → j ≤ k) : Bot l m (k + 1) := by
  refine ⟨B.1, fun i x => ?_⟩
  rw [B.2]
  constructor
  · rintro (h' | ⟨h', h2⟩)
    · exact .inl h'
    · exact .inr ⟨h', by omega⟩
  · rintro (h' | ⟨h', h2⟩)
    · exact .inl h'
    · refine .inr ⟨h', ?_⟩
      rcases Nat.lt_or_ge x k with h3 | h3
      · exact h3
      · have : x = k := by omega
        subst this
        have h4 := h i ((B.2 x i).mpr (.inl h'))
        have := h'.1
        omega
theorem bot_end {l : List Nat} {m : List (Option Nat)} (B : Bot l m l.length) : m = mates l := by
  have key : ∀ i j : Nat, m[i]? = some (some j) ↔ (mates l)[i]? = some (some j) := by
    intro i j
    rw [B.2, mates_ptn]
    constructor
    · rintro (h | ⟨h, _⟩)
      · exact .inl h
      · exact .inr h
    · rintro (h | h)
      · exact .inl h
      · exact .inr ⟨h, by have := ptn_lt h; have := h.1; omega⟩
  apply List.ext_getElem?
  intro i
  have hlen : m.length = (mates l).length := by rw [B.1, mates_len]
  rcases Nat.lt_or_ge i m.length with h | h
  · have e1 := List.getElem?_eq_getElem h
    have e2 := List.getElem?_eq_getElem (l := mates l) (by rw [← hlen]; exact h)
    cases hx : m[i] with
    | some j =>
      rw [hx] at e1
      rw [e1, (key i j).mp e1]
    | none =>
      cases hy : (mates l)[i]'(by rw [← hlen]; exact h) with
      | none => rw [e1, e2, hx, hy]
      | some j =>
        rw [hy] at e2
        have := (key i j).mpr e2
        rw [e1, hx] at this
        cases this
  · rw [List.getElem?_eq_none h, List.getElem?_eq_none (by omega)]
end Ly

set_option maxHeartbeats 4000000
namespace Ly
/-! ### clean texts put together -/
theorem run_mid {a m b : List Nat} (h : clean m) : run (a ++ m ++ b) = run (a ++ b) := by
  rw [run_app, run_app, fold_clean h, ← run_app]
theorem clean_mid {a m b : List Nat} (h : clean m) : clean (a ++ m ++ b) ↔ clean (a ++ b) := by
  unfold clean
  rw [run_mid h]
theorem clean_both {m t : List Nat} (h : clean m) : clean (m ++ t ++ m) ↔ clean t := by
  have e : m ++ t ++ m = (m ++ t) ++ m ++ [] := by simp
  rw [e, clean_mid h, List.append_nil]
  exact clean_cancel h
theorem fold_only : ∀ (l : List Nat) (st : Option (List Nat)), (l.filter fun c => decide (c ∈ BRK)).foldl stp st = l.foldl stp st
  | [], st => rfl
  | c :: l, st => by
    by_cases h : c ∈ BRK
    · rw [List.filter_cons_of_pos (by simpa using h), List.foldl_cons, List.foldl_cons, fold_only l]
    · rw [List.filter_cons_of_neg (by simpa using h), List.foldl_cons, fold_only l, stp_let (fun h' => h (brk_or.mpr (.inl h'))) (fun h' => h (brk_or.mpr (.inr h')))]
theorem clean_only (l : List Nat) : clean (l.filter fun c => decide (c ∈ BRK)) ↔ clean l := by
  unfold clean run
  rw [fold_only]
def cntO (l : List Nat) : Nat := l.countP fun c => decide (c ∈ OPN)
def cntC (l : List Nat) : Nat := l.countP fun c => decide (c ∈ CLO)
theorem fold_cnt : ∀ (l st r : List Nat), l.foldl stp (some st) = some r → cntC l + r.length = cntO l + st.length
  | [], st, r, h => by
    cases h
    simp [cntC, cntO]
  | c :: l, st, r, h => by
    rw [List.foldl_cons] at h
    have eC : cntC (c :: l) = cntC l + if c ∈ CLO then 1 else 0 := by
      unfold cntC
      rw [List.countP_cons]
      simp
    have eO : cntO (c :: l) = cntO l + if c ∈ OPN then 1 else 0 := by
      unfold cntO
      rw [List.countP_cons]
      simp
    by_cases h1 : c ∈ OPN
    · have h2 : c ∉ CLO := opn_clo c h1
      rw [stp_opn h1] at h
      have := fold_cnt l _ r h
      rw [eC, eO, if_pos h1, if_neg h2]
      simp at this
      omega
    · by_cases h2 : c ∈ CLO
      · cases st with
        | nil =>
          have e : stp (some []) c = none := by unfold stp; simp only [h1, h2, if_true, if_false]
          rw [e, fold_none] at h
          cases h
        | cons d st =>
          by_cases hd : d = c
          · subst hd
            rw [stp_clo h2] at h
            have := fold_cnt l _ r h
            rw [eC, eO, if_neg h1, if_pos h2]
            simp
            omega
          · have e : stp (some (d :: st)) c = none := by unfold stp; simp only [h1, h2, hd, if_true, if_false]
            rw [e, fold_none] at h
            cases h
      · rw [stp_let h1 h2] at h
        have := fold_cnt l _ r h
        rw [eC, eO, if_neg h1, if_neg h2]
        omega
theorem clean_cnt {l : List Nat} (h : clean l) : cntC l = cntO l := by
  have := fold_cnt l [] [] h
  simpa using this
/-- one bracket more is not clean -/
theorem clean_alone {a b : List Nat} {c : Nat} (h : clean (a ++ b)) (hc : c ∈ BRK) : ¬ clean (a ++ [c] ++ b) := by
  intro h'
  have e1 := clean_cnt h
  have e2 := clean_cnt h'
  have x1 : cntC (a ++ b) = cntC a + cntC b := List.countP_append
  have x2 : cntO (a ++ b) = cntO a + cntO b := List.countP_append
  have x3 : cntC (a ++ [c] ++ b) = cntC a + cntC [c] + cntC b := by
    unfold cntC
    rw [List.countP_append, List.countP_append]
  have x4 : cntO (a ++ [c] ++ b) = cntO a + cntO [c] + cntO b := by
    unfold cntO
    rw [List.countP_append, List.countP_append]
  have x5 : cntC [c] ≠ cntO [c] := by
    have : ∀ c ∈ BRK, cntC [c] ≠ cntO [c] := by decide
    exact this c hc
  omega
theorem seg_drop {l : List Nat} {a b : Nat} : seg l a b = (l.take b).drop a := rfl
/-- the partner of a bracket put before -/
theorem mates_around {c : Nat} {t : List Nat} (hc : c ∈ OPN) : (mates (c :: (t ++ [oth c])))[0]? = some (some (t.length + 1)) ↔ clean t := by
  have hs : seg (c :: (t ++ [oth c])) (0 + 1) (t.length + 1) = t := by
    unfold seg
    simp
  rw [mates_ptn]
  constructor
  · rintro (⟨_, d, _, _, _, h⟩ | ⟨h, _⟩)
    · rw [hs] at h
      exact h
    · omega
  · intro h
    refine .inl ⟨by omega, c, rfl, hc, by simp, ?_⟩
    rw [hs]
    exact h
/-- what the partners say of a pair -/
theorem mate_sym {l : List Nat} {i j : Nat} (h : (mates l)[i]? = some (some j)) : (mates l)[j]? = some (some i) := by
  rw [mates_ptn] at h ⊢
  exact h.symm
theorem mate_brk {l : List Nat} {i j c : Nat} (h : (mates l)[i]? = some (some j)) (hc : l[i]? = some c) : c ∈ BRK := by
  rw [mates_ptn] at h
  rcases h with ⟨_, d, h1, h2, _⟩ | ⟨_, d, _, h2, h1, _⟩
  · rw [hc] at h1
    cases h1
    exact brk_or.mpr (.inl h2)
  · rw [hc] at h1
    cases h1
    exact brk_or.mpr (.inr (oth_clo d h2))
theorem mate_fwd {l : List Nat} {i j : Nat} (h : (mates l)[i]? = some (some j)) (hj : i < j) : ptn l i j := by
  rw [mates_ptn] at h
  rcases h with h | h
  · exact h
  · have := h.1
    omega
end Ly

set_option maxHeartbeats 4000000
namespace Ly
open PySem PySem.Spec PyProof.Rows L2 SX
/-! ### text[i:j] -/
theorem slice_both {a : List Nat} {i j : Nat} (h1 : i ≤ j) (h2 : j ≤ a.length) : Txt.slice (S a) (some (i : Int)) (some (j : Int)) = S ((a.take j).drop i) := by
  have hl : ((S a).length : Int) = (a.length : Int) := by rw [S_len]
  have e := beq_iff_eq.mp (PyProof.Rows.slice_closesL (x := S a) (i := (i : Int)) (j := (j : Int)) (by omega) (by omega) (by omega))
  refine e.trans (TL.ext_tl ?_)
  show (a.drop (i : Int).toNat).take ((j : Int) - i).toNat = (a.take j).drop i
  rw [Int.toNat_natCast, show ((j : Int) - i).toNat = j - i by omega, List.drop_take]
theorem g_slBoth {H : Hp} {Q : VK} {l : List Nat} {i j : Nat} (h : l.length ≤ 100000) (h1 : i ≤ j) (h2 : j ≤ l.length) (q : Q (Tx ((l.take j).drop i)) H) : rSlTx (Tx l) (some (i : Int)) (some (j : Int)) H Q := ⟨l, rfl, h, by rw [slice_both h1 h2]; exact q⟩
theorem inV_pair : ∀ c ∈ OPN, inV (Tx [c, oth c]) [Tx [40, 41], Tx [60, 62], Tx [91, 93], Tx [123, 125]] = true := by decide +kernel
section
variable {K : PySem.W.Frag} {H : Hp} {Q : VK} {p a : Addr} {xs : List V}
theorem shaped_flat {ds : List PyData} (h5 : PyData.canLayAll0 ds = true) (h6 : PyData.depthAll ds = 0) : SeqAt.shaped (.list ds) = true := by
  unfold SeqAt.shaped
  rw [show PyData.canLay0 (.list ds) = PyData.canLayAll0 ds from rfl, h5, show PyData.depth (.list ds) = PyData.depthAll ds + 1 from rfl, h6]
  rfl
theorem g_neSame (h : SqL K H p xs) (h2 : SqL K H a xs) (hf : ∀ v ∈ xs, Flat v) (q : Q (.bl false) H) : rNeD K (.ref p) (.ref a) H Q := by
  obtain ⟨ds, hl, h4, h5, h6⟩ := flat_all hf
  refine ⟨.list ds, .list ds, .lst h (h4 K H), .lst h2 (h4 K H), shaped_flat h5 h6, shaped_flat h5 h6, ?_⟩
  rw [SeqAt.eqv_refl (.list ds) h5]
  exact q
theorem g_neSameT (h : SqT K H p xs) (h2 : SqT K H a xs) (hf : ∀ v ∈ xs, Flat v) (q : Q (.bl false) H) : rNeD K (.ref p) (.ref a) H Q := by
  obtain ⟨ds, hl, h4, h5, h6⟩ := flat_all hf
  have sh : SeqAt.shaped (.tuple ds) = true := by
    unfold SeqAt.shaped
    rw [show PyData.canLay0 (.tuple ds) = PyData.canLayAll0 ds from rfl, h5, show PyData.depth (.tuple ds) = PyData.depthAll ds + 1 from rfl, h6]
    rfl
  refine ⟨.tuple ds, .tuple ds, .tup h (h4 K H), .tup h2 (h4 K H), sh, sh, ?_⟩
  rw [SeqAt.eqv_refl (.tuple ds) h5]
  exact q
theorem g_eqSame (h : SqL K H p xs) (h2 : SqL K H a xs) (hf : ∀ v ∈ xs, Flat v) (q : Q (.bl true) H) : rEqD K (.ref p) (.ref a) H Q := by
  obtain ⟨ds, hl, h4, h5, h6⟩ := flat_all hf
  refine ⟨.list ds, .list ds, .lst h (h4 K H), .lst h2 (h4 K H), shaped_flat h5 h6, shaped_flat h5 h6, ?_⟩
  rw [SeqAt.eqv_refl (.list ds) h5]
  exact q
end
end Ly

set_option maxHeartbeats 4000000
namespace Ly
/-- lists of the same length that name the same are the same -/
theorem opt_ext {m n : List (Option Nat)} (hl : m.length = n.length) (key : ∀ i j : Nat, m[i]? = some (some j) ↔ n[i]? = some (some j)) : m = n := by
  apply List.ext_getElem?
  intro i
  rcases Nat.lt_or_ge i m.length with h | h
  · have e1 := List.getElem?_eq_getElem h
    have e2 := List.getElem?_eq_getElem (l := n) (by rw [← hl]; exact h)
    cases hx : m[i] with
    | some j =>
      rw [hx] at e1
      rw [e1, (key i j).mp e1]
    | none =>
      cases hy : n[i]'(by rw [← hl]; exact h) with
      | none => rw [e1, e2, hx, hy]
      | some j =>
        rw [hy] at e2
        have := (key i j).mpr e2
        rw [e1, hx] at this
        cases this
  · rw [List.getElem?_eq_none h, List.getElem?_eq_none (by omega)]
/-! ### kinds renamed -/
/-- a renaming of the kinds -/
structure Ren (f : Nat → Nat) : Prop where
  inj : ∀ {a b}, f a = f b → a = b
  opn : ∀ {c}, f c ∈ OPN ↔ c ∈ OPN
  clo : ∀ {c}, f c ∈ CLO ↔ c ∈ CLO
  oth : ∀ {c}, c ∈ OPN → f (oth c) = oth (f c)
theorem ren_fold {f : Nat → Nat} (R : Ren f) : ∀ (l : List Nat) (st : Option (List Nat)), (l.map f).foldl stp (st.map (List.map f)) = (l.foldl stp st).map (List.map f)
  | [], st => rfl
  | c :: l, st => by
    rw [List.map_cons, List.foldl_cons, List.foldl_cons, ← ren_fold R l]
    congr 1
    cases st with
    | none => rfl
    | some st =>
      show stp (some (st.map f)) (f c) = (stp (some st) c).map (List.map f)
      by_cases h1 : c ∈ OPN
      · rw [stp_opn h1, stp_opn (R.opn.mpr h1)]
        show some (Ly.oth (f c) :: st.map f) = some (f (Ly.oth c) :: st.map f)
        rw [R.oth h1]
      · have h1' : f c ∉ OPN := fun h => h1 (R.opn.mp h)
        by_cases h2 : c ∈ CLO
        · have h2' := R.clo.mpr h2
          cases st with
          | nil =>
            have e : stp (some []) c = none := by unfold stp; simp only [h1, h2, if_true, if_false]
            have e' : stp (some []) (f c) = none := by unfold stp; simp only [h1', h2', if_true, if_false]
            rw [e]
            exact e'
          | cons d st =>
            by_cases hd : d = c
            · subst hd
              rw [stp_clo h2, List.map_cons, stp_clo h2']
              rfl
            · have hd' : ¬ f d = f c := fun h => hd (R.inj h)
              have e : stp (some (d :: st)) c = none := by unfold stp; simp only [h1, h2, hd, if_true, if_false]
              have e' : stp (some (f d :: st.map f)) (f c) = none := by unfold stp; simp only [h1', h2', hd', if_true, if_false]
              rw [e]
              exact e'
        · rw [stp_let h1 h2, stp_let h1' (fun h => h2 (R.clo.mp h))]
          rfl
theorem ren_clean {f : Nat → Nat} (R : Ren f) (l : List Nat) : clean (l.map f) ↔ clean l := by
  have e := ren_fold R l (some [])
  show (l.map f).foldl stp (Option.map (List.map f) (some [])) = some [] ↔ l.foldl stp (some []) = some []
  rw [e]
  generalize l.foldl stp (some []) = r
  cases r with
  | none => simp
  | some r => simp
theorem ren_seg {f : Nat → Nat} (l : List Nat) (a b : Nat) : seg (l.map f) a b = (seg l a b).map f := by
  unfold seg
  rw [← List.map_take, ← List.map_drop]
theorem ren_ptn {f : Nat → Nat} (R : Ren f) (l : List Nat) (i j : Nat) : ptn (l.map f) i j ↔ ptn l i j := by
  unfold ptn
  rw [ren_seg, ren_clean R, List.getElem?_map, List.getElem?_map]
  constructor
  · rintro ⟨h, c', h1, h2, h3, h4⟩
    cases hi : l[i]? with
    | none => rw [hi] at h1; cases h1
    | some c =>
      rw [hi] at h1
      have h1' : f c = c' := Option.some.inj h1
      subst h1'
      have hc := R.opn.mp h2
      cases hj : l[j]? with
      | none => rw [hj] at h3; cases h3
      | some d =>
        rw [hj] at h3
        have h3' : f d = Ly.oth (f c) := Option.some.inj h3
        rw [← R.oth hc] at h3'
        exact ⟨h, c, rfl, hc, by rw [R.inj h3'], h4⟩
  · rintro ⟨h, c, h1, h2, h3, h4⟩
    refine ⟨h, f c, by rw [h1]; rfl, R.opn.mpr h2, ?_, h4⟩
    rw [h3, ← R.oth h2]
    rfl
theorem ren_mates {f : Nat → Nat} (R : Ren f) (l : List Nat) : mates (l.map f) = mates l := by
  refine opt_ext (by rw [mates_len, mates_len, List.length_map]) fun i j => ?_
  rw [mates_ptn, mates_ptn, ren_ptn R, ren_ptn R]
/-! ### turned about -/
/-- the sign turned -/
def tn (c : Nat) : Nat := if c ∈ BRK then oth c else c
def abt (l : List Nat) : List Nat := (l.map tn).reverse
theorem tn_brk {c : Nat} (h : c ∈ BRK) : tn c = oth c := by unfold tn; rw [if_pos h]
theorem tn_tn (c : Nat) : tn (tn c) = c := by
  by_cases h : c ∈ BRK
  · rw [tn_brk h, tn_brk (oth_brk c h), oth_oth c h]
  · have e : tn c = c := by unfold tn; rw [if_neg h]
    rw [e, e]
theorem abt_abt (l : List Nat) : abt (abt l) = l := by
  unfold abt
  rw [List.map_reverse, List.reverse_reverse, List.map_map]
  have : tn ∘ tn = id := funext tn_tn
  rw [this, List.map_id]
theorem abt_app (a b : List Nat) : abt (a ++ b) = abt b ++ abt a := by
  unfold abt
  rw [List.map_append, List.reverse_append]
theorem abt_len (l : List Nat) : (abt l).length = l.length := by
  unfold abt
  rw [List.length_reverse, List.length_map]
theorem abt_cons (c : Nat) (l : List Nat) : abt (c :: l) = abt l ++ [tn c] := by
  unfold abt
  rw [List.map_cons, List.reverse_cons]
theorem abt_clean1 : ∀ (n : Nat) (l : List Nat), l.length ≤ n → clean l → clean (abt l)
  | n, [], _, _ => clean_nil
  | 0, c :: l, hn, _ => by simp at hn
  | n + 1, c :: l, hn, h => by
    have hn' : l.length ≤ n := by simpa using hn
    by_cases h1 : c ∈ OPN
    · obtain ⟨a, b, e, ca, cb⟩ := clean_opn h1 h
      have hb : c ∈ BRK := brk_or.mpr (.inl h1)
      rw [e] at hn'
      simp at hn'
      have ia := abt_clean1 n a (by omega) ca
      have ib := abt_clean1 n b (by omega) cb
      rw [abt_cons, e, abt_app, abt_cons, tn_brk hb, tn_brk (oth_brk c hb), oth_oth c hb]
      have e2 : abt b ++ [c] ++ abt a ++ [oth c] = abt b ++ (c :: (abt a ++ [oth c])) := by simp
      rw [e2]
      exact clean_app ib (clean_pair h1 ia)
    · by_cases h2 : c ∈ CLO
      · exact absurd h (clean_clo h2)
      · have hb : c ∉ BRK := fun hb => by rcases brk_or.mp hb with h | h; exact h1 h; exact h2 h
        have e : tn c = c := by unfold tn; rw [if_neg hb]
        rw [abt_cons, e]
        exact clean_app (abt_clean1 n l hn' ((clean_let h1 h2).mp h)) ((clean_let h1 h2).mpr clean_nil)
theorem abt_clean (l : List Nat) : clean (abt l) ↔ clean l :=
  ⟨fun h => by have := abt_clean1 _ _ (Nat.le_refl _) h; rw [abt_abt] at this; exact this, abt_clean1 _ _ (Nat.le_refl _)⟩
theorem abt_seg (l : List Nat) {a b : Nat} (h : a ≤ b) (hb : b ≤ l.length) : seg (abt l) a b = abt (seg l (l.length - b) (l.length - a)) := by
  unfold seg abt
  rw [List.take_reverse, List.drop_reverse, List.length_map, List.length_drop, List.length_map, List.map_drop, List.map_take, List.drop_take]
  congr 2
  omega
theorem abt_at (l : List Nat) {i : Nat} (h : i < l.length) : (abt l)[i]? = (l[l.length - 1 - i]?).map tn := by
  unfold abt
  rw [List.getElem?_reverse (by rw [List.length_map]; exact h), List.length_map, List.getElem?_map]
theorem abt_ptn1 {l : List Nat} {i j : Nat} (h : ptn l i j) : ptn (abt l) (l.length - 1 - j) (l.length - 1 - i) := by
  have hj := ptn_lt h
  obtain ⟨hij, c, h1, h2, h3, h4⟩ := h
  have hb : c ∈ BRK := brk_or.mpr (.inl h2)
  refine ⟨by omega, c, ?_, h2, ?_, ?_⟩
  · rw [abt_at l (by omega), show l.length - 1 - (l.length - 1 - j) = j by omega, h3]
    show some (tn (oth c)) = some c
    rw [tn_brk (oth_brk c hb), oth_oth c hb]
  · rw [abt_at l (by omega), show l.length - 1 - (l.length - 1 - i) = i by omega, h1]
    show some (tn c) = some (oth c)
    rw [tn_brk hb]
  · rw [abt_seg l (by omega) (by omega), abt_clean, show l.length - (l.length - 1 - i) = i + 1 by omega, show l.length - (l.length - 1 - j + 1) = j by omega]
    exact h4
theorem abt_ptn {l : List Nat} {i j : Nat} (hi : i < l.length) (hj : j < l.length) : ptn (abt l) i j ↔ ptn l (l.length - 1 - j) (l.length - 1 - i) := by
  constructor
  · intro h
    have := abt_ptn1 h
    rw [abt_abt, abt_len] at this
    exact this
  · intro h
    have := abt_ptn1 h
    rw [show l.length - 1 - (l.length - 1 - i) = i by omega, show l.length - 1 - (l.length - 1 - j) = j by omega] at this
    exact this
/-- the partners counted from behind -/
def matesB (m : List (Option Nat)) : List (Option Nat) := m.reverse.map fun x => x.map fun j => m.length - 1 - j
theorem matesB_len (m : List (Option Nat)) : (matesB m).length = m.length := by
  unfold matesB
  rw [List.length_map, List.length_reverse]
theorem ptn_lt2 {l : List Nat} {i j : Nat} (h : ptn l i j) : i < l.length ∧ j < l.length := ⟨by have := ptn_lt h; have := h.1; omega, ptn_lt h⟩
theorem abt_mates (l : List Nat) : mates (abt l) = matesB (mates l) := by
  refine opt_ext (by rw [mates_len, matesB_len, mates_len, abt_len]) fun i j => ?_
  rcases Nat.lt_or_ge i l.length with hi | hi
  · have e : (matesB (mates l))[i]? = ((mates l)[l.length - 1 - i]?).map fun x => x.map fun j => l.length - 1 - j := by
      unfold matesB
      rw [List.getElem?_map, List.getElem?_reverse (by rw [mates_len]; exact hi), mates_len]
    rw [e, mates_ptn]
    constructor
    · intro h
      have hj : j < l.length := by
        rcases h with h | h
        · have := ptn_lt h; rw [abt_len] at this; exact this
        · have := (ptn_lt2 h).1; rw [abt_len] at this; exact this
      have h2 : (mates l)[l.length - 1 - i]? = some (some (l.length - 1 - j)) := by
        rw [mates_ptn]
        rcases h with h | h
        · exact .inr ((abt_ptn hi hj).mp h)
        · exact .inl ((abt_ptn hj hi).mp h)
      rw [h2]
      show some (some (l.length - 1 - (l.length - 1 - j))) = some (some j)
      rw [show l.length - 1 - (l.length - 1 - j) = j by omega]
    · intro h
      cases hm : (mates l)[l.length - 1 - i]? with
      | none => rw [hm] at h; cases h
      | some x =>
        cases x with
        | none => rw [hm] at h; cases h
        | some k =>
          rw [hm] at h
          have hk : l.length - 1 - k = j := Option.some.inj (Option.some.inj h)
          rw [mates_ptn] at hm
          have hkl : k < l.length := by
            rcases hm with hm | hm
            · exact (ptn_lt2 hm).2
            · exact (ptn_lt2 hm).1
          have hk2 : k = l.length - 1 - j := by omega
          subst hk2
          have hj : j < l.length := by omega
          rcases hm with hm | hm
          · exact .inr ((abt_ptn hj hi).mpr hm)
          · exact .inl ((abt_ptn hi hj).mpr hm)
  · rw [List.getElem?_eq_none (by rw [mates_len, abt_len]; exact hi), List.getElem?_eq_none (by rw [matesB_len, mates_len]; exact hi)]
end Ly

set_option maxHeartbeats 4000000
namespace Ly
/-! ### clean stretches counted -/
/-- how many begins of l that are not empty are clean -/
def cp (l : List Nat) : Nat := (List.range l.length).countP fun k => decide (clean (l.take (k + 1)))
def many : List Nat → Nat
  | [] => 0
  | c :: r => cp (c :: r) + many r
theorem cp_nil : cp [] = 0 := rfl
theorem range_add (a b : Nat) : List.range (a + b) = List.range a ++ (List.range b).map (a + ·) := List.range_add
/-- in general -/
theorem cp_two (s b : List Nat) : cp (s ++ b) = cp s + (List.range b.length).countP fun k => decide (clean (s ++ b.take (k + 1))) := by
  unfold cp
  rw [List.length_append, range_add, List.countP_append, List.countP_map]
  congr 1
  · apply List.countP_congr
    intro k hk
    have hk' : k < s.length := List.mem_range.mp hk
    rw [List.take_append_of_le_length (by omega)]
  · apply List.countP_congr
    intro k hk
    show (decide (clean ((s ++ b).take (s.length + k + 1))) = true ↔ _)
    rw [show s.length + k + 1 = s.length + (k + 1) by omega, List.take_append, List.take_of_length_le (by omega), show s.length + (k + 1) - s.length = k + 1 by omega]
theorem cp_app {a b : List Nat} (h : clean a) : cp (a ++ b) = cp a + cp b := by
  rw [cp_two]
  congr 1
  unfold cp
  apply List.countP_congr
  intro k hk
  rw [decide_eq_true_iff, decide_eq_true_iff, clean_cancel h]
theorem run_pre {p s r : List Nat} (h : run (p ++ s) = some r) : ∃ q, run p = some q := by
  cases e : run p with
  | none => rw [run_app, e, fold_none] at h; cases h
  | some q => exact ⟨q, rfl⟩
theorem cnt_pre {p s : List Nat} (h : clean (p ++ s)) : cntC p ≤ cntO p := by
  obtain ⟨q, e⟩ := run_pre h
  have := fold_cnt p [] q e
  simp at this
  omega
theorem cntC_app (a b : List Nat) : cntC (a ++ b) = cntC a + cntC b := List.countP_append
theorem cntO_app (a b : List Nat) : cntO (a ++ b) = cntO a + cntO b := List.countP_append
theorem cnt_suf {p s : List Nat} (h : clean (p ++ s)) : cntO s ≤ cntC s := by
  have h1 := cnt_pre h
  have h2 := clean_cnt h
  rw [cntC_app, cntO_app] at h2
  omega
/-- a begin of a clean text with as many opened as closed is clean -/
theorem pre_clean {p s : List Nat} (h : clean (p ++ s)) (hc : cntO p ≤ cntC p) : clean p := by
  obtain ⟨q, e⟩ := run_pre h
  have := fold_cnt p [] q e
  simp at this
  have hq : q = [] := List.eq_nil_of_length_eq_zero (by omega)
  rw [hq] at e
  exact e
theorem cp_clo {c : Nat} {r : List Nat} (h : c ∈ CLO) : cp (c :: r) = 0 := by
  unfold cp
  rw [List.countP_eq_zero]
  intro k hk hd
  rw [decide_eq_true_iff, List.take_succ_cons] at hd
  exact clean_clo h hd
theorem cp_let {c : Nat} {r : List Nat} (h1 : c ∉ OPN) (h2 : c ∉ CLO) : cp (c :: r) = 1 + cp r := by
  have h : clean [c] := (clean_let h1 h2).mpr clean_nil
  have e : c :: r = [c] ++ r := rfl
  rw [e, cp_app h]
  congr 1
  unfold cp
  simp only [List.length_singleton, List.range_one, List.countP_cons, List.countP_nil, List.take_succ_cons, List.take_zero]
  simp [h]
theorem cp_pair {c : Nat} {x : List Nat} (hc : c ∈ OPN) (hx : clean x) : cp (c :: (x ++ [oth c])) = 1 := by
  have e : c :: (x ++ [oth c]) = (c :: x) ++ [oth c] := rfl
  have hcl : clean ((c :: x) ++ [oth c]) := clean_pair hc hx
  rw [e, cp_two]
  have h0 : cp (c :: x) = 0 := by
    unfold cp
    rw [List.countP_eq_zero]
    intro k hk hd
    have hk' : k < x.length + 1 := by simpa using List.mem_range.mp hk
    rw [decide_eq_true_iff, List.take_succ_cons] at hd
    have h1 := clean_cnt hd
    have h2 : cntC (x.take k) ≤ cntO (x.take k) := cnt_pre (s := x.drop k) (by rw [List.take_append_drop]; exact hx)
    have e1 : cntC (c :: x.take k) = cntC [c] + cntC (x.take k) := cntC_app [c] _
    have e2 : cntO (c :: x.take k) = cntO [c] + cntO (x.take k) := cntO_app [c] _
    have e3 : cntC [c] = 0 ∧ cntO [c] = 1 := by
      have : ∀ c ∈ OPN, cntC [c] = 0 ∧ cntO [c] = 1 := by decide
      exact this c hc
    omega
  rw [h0]
  simp [hcl]
  exact hcl
theorem cp_none {l : List Nat} {c : Nat} {r : List Nat} (e : l = c :: r) (h : ∀ a b, r = a ++ oth c :: b → ¬ clean a) (hc : c ∈ OPN) : cp l = 0 := by
  subst e
  unfold cp
  rw [List.countP_eq_zero]
  intro k hk hd
  rw [decide_eq_true_iff, List.take_succ_cons] at hd
  obtain ⟨a, b, e1, ca, cb⟩ := clean_opn hc hd
  refine h a (b ++ r.drop k) ?_ ca
  have e2 : r.take k ++ r.drop k = r := List.take_append_drop k r
  rw [e1] at e2
  exact e2.symm.trans (by simp)
/-! sums -/
theorem many_pair1 {c : Nat} (hc : c ∈ CLO) : ∀ (p s : List Nat), clean (p ++ s) → many (s ++ [c]) = many s
  | p, [], _ => by
    show cp [c] + many [] = 0
    rw [cp_clo hc]
    rfl
  | p, d :: r, h => by
    have ih := many_pair1 hc (p ++ [d]) r (by simpa using h)
    show cp ((d :: r) ++ [c]) + many (r ++ [c]) = cp (d :: r) + many r
    rw [ih, cp_two]
    have h0 : ¬ clean ((d :: r) ++ [c]) := by
      intro h'
      have h1 := clean_cnt h'
      have h2 := cnt_suf h
      rw [cntC_app, cntO_app] at h1
      have e3 : cntC [c] = 1 ∧ cntO [c] = 0 := by
        have : ∀ c ∈ CLO, cntC [c] = 1 ∧ cntO [c] = 0 := by decide
        exact this c hc
      omega
    simp only [List.length_singleton, List.range_one, List.countP_cons, List.countP_nil, List.take_succ_cons, List.take_zero]
    simp only [h0, decide_false]
    simp
theorem many_pair {c : Nat} {x : List Nat} (hc : c ∈ OPN) (hx : clean x) : many (c :: (x ++ [oth c])) = many x + 1 := by
  show cp (c :: (x ++ [oth c])) + many (x ++ [oth c]) = _
  rw [cp_pair hc hx, many_pair1 (oth_clo c hc) [] x hx]
  omega
/-- how many ends of l that are not empty are clean -/
def dn : List Nat → Nat
  | [] => 0
  | c :: r => (if clean (c :: r) then 1 else 0) + dn r
theorem many_two {b : List Nat} (hb : clean b) : ∀ (p s : List Nat), clean (p ++ s) → many (s ++ b) = many s + many b + dn s * cp b
  | p, [], _ => by
    show many b = 0 + many b + 0 * cp b
    omega
  | p, d :: r, h => by
    have ih := many_two hb (p ++ [d]) r (by simpa using h)
    show cp ((d :: r) ++ b) + many (r ++ b) = cp (d :: r) + many r + many b + ((if clean (d :: r) then 1 else 0) + dn r) * cp b
    rw [ih]
    by_cases hc : clean (d :: r)
    · rw [cp_app hc, if_pos hc, Nat.add_mul, Nat.one_mul]
      omega
    · have h0 : (List.range b.length).countP (fun k => decide (clean ((d :: r) ++ b.take (k + 1)))) = 0 := by
        rw [List.countP_eq_zero]
        intro k hk hd
        rw [decide_eq_true_iff] at hd
        exact hc (pre_clean hd (cnt_suf h))
      rw [cp_two, h0, if_neg hc, Nat.zero_add]
      omega
theorem dn_rng (l : List Nat) : dn l = (List.range l.length).countP fun i => decide (clean (l.drop i)) := by
  induction l with
  | nil => rfl
  | cons c r ih =>
    rw [List.length_cons, List.range_succ_eq_map, List.countP_cons, List.countP_map]
    show (if clean (c :: r) then 1 else 0) + dn r = _
    rw [ih, Nat.add_comm]
    congr 1
    simp
theorem drop_clean {l : List Nat} (h : clean l) (i : Nat) : clean (l.drop i) ↔ clean (l.take i) := by
  have e := List.take_append_drop i l
  constructor
  · intro h2
    have h' := h
    rw [← e] at h'
    unfold clean at h'
    rw [run_app, fold_clean h2] at h'
    exact h'
  · intro h2
    have h' := h
    rw [← e] at h'
    exact (clean_cancel h2).mp h'
theorem dn_cp {l : List Nat} (h : clean l) : dn l = cp l := by
  rw [dn_rng]
  have e1 : (List.range l.length).countP (fun i => decide (clean (l.drop i))) = (List.range l.length).countP fun i => decide (clean (l.take i)) := by
    apply List.countP_congr
    intro k hk
    rw [decide_eq_true_iff, decide_eq_true_iff, drop_clean h]
  rw [e1]
  unfold cp
  have a1 : (List.range (l.length + 1)).countP (fun i => decide (clean (l.take i))) = (List.range l.length).countP (fun i => decide (clean (l.take i))) + 1 := by
    rw [List.range_succ, List.countP_append]
    simp [h]
  have a2 : (List.range (l.length + 1)).countP (fun i => decide (clean (l.take i))) = (List.range l.length).countP (fun i => decide (clean (l.take (i + 1)))) + 1 := by
    rw [List.range_succ_eq_map, List.countP_cons, List.countP_map]
    simp [clean_nil]
    rfl
  omega
theorem many_app {a b : List Nat} (ha : clean a) (hb : clean b) : many (a ++ b) = many a + many b + cp a * cp b := by
  rw [many_two hb [] a ha, dn_cp ha]
/-! ### by places -/
/-- where the first clean piece from i on ends -/
def aft (l : List Nat) (i : Nat) : Option Nat := match l[i]? with
  | none => none
  | some c => if c ∈ CLO then none else if c ∈ OPN then (((mates l)[i]?).join).map (· + 1) else some (i + 1)
theorem drop_at {l : List Nat} {i c : Nat} (h : l[i]? = some c) : l.drop i = c :: l.drop (i + 1) := by
  obtain ⟨hl, e⟩ := List.getElem?_eq_some_iff.mp h
  rw [List.drop_eq_getElem_cons hl, e]
theorem aft_clo {l : List Nat} {i c : Nat} (h : l[i]? = some c) (hc : c ∈ CLO) : aft l i = none := by
  unfold aft
  simp only [h, hc, if_true]
theorem aft_let {l : List Nat} {i c : Nat} (h : l[i]? = some c) (h1 : c ∉ OPN) (h2 : c ∉ CLO) : aft l i = some (i + 1) := by
  unfold aft
  simp only [h, h1, h2, if_false]
theorem aft_opn {l : List Nat} {i c : Nat} {x : Option Nat} (h : l[i]? = some c) (h1 : c ∈ OPN) (hm : (mates l)[i]? = some x) : aft l i = x.map (· + 1) := by
  unfold aft
  simp only [h, h1, opn_clo c h1, if_true, if_false, hm, Option.join_some]
/-- what aft says -/
theorem aft_spec {l : List Nat} {i : Nat} (hi : i < l.length) : (aft l i = none ∧ ∃ c, l[i]? = some c ∧ (c ∈ CLO ∨ (c ∈ OPN ∧ ∀ k, ¬ ptn l i k))) ∨ (∃ c, l[i]? = some c ∧ c ∉ OPN ∧ c ∉ CLO ∧ aft l i = some (i + 1)) ∨ ∃ c k, l[i]? = some c ∧ c ∈ OPN ∧ ptn l i k ∧ aft l i = some (k + 1) := by
  obtain ⟨c, hc⟩ : ∃ c, l[i]? = some c := ⟨_, List.getElem?_eq_getElem hi⟩
  by_cases h2 : c ∈ CLO
  · exact .inl ⟨aft_clo hc h2, c, hc, .inl h2⟩
  by_cases h1 : c ∈ OPN
  · obtain ⟨x, hx⟩ : ∃ x, (mates l)[i]? = some x := ⟨_, List.getElem?_eq_getElem (by rw [mates_len]; exact hi)⟩
    have e := aft_opn hc h1 hx
    cases x with
    | none =>
      refine .inl ⟨e, c, hc, .inr ⟨h1, fun k hk => ?_⟩⟩
      have := (mates_ptn l i k).mpr (.inl hk)
      rw [hx] at this
      cases this
    | some k =>
      refine .inr (.inr ⟨c, k, hc, h1, ?_, e⟩)
      rcases (mates_ptn l i k).mp hx with h | h
      · exact h
      · obtain ⟨_, d, _, h3, h4, _⟩ := h
        rw [hc] at h4
        cases h4
        exact absurd (oth_clo d h3) h2
  · exact .inr (.inl ⟨c, hc, h1, h2, aft_let hc h1 h2⟩)
theorem ptn_drop {l : List Nat} {i k c : Nat} (h : ptn l i k) (hc : l[i]? = some c) : l.drop i = (c :: (seg l (i + 1) k ++ [oth c])) ++ l.drop (k + 1) ∧ clean (seg l (i + 1) k) := by
  have hk := ptn_lt h
  obtain ⟨hik, c', h1, h2, h3, h4⟩ := h
  rw [hc] at h1
  cases h1
  refine ⟨?_, h4⟩
  rw [drop_at hc, List.cons_append, List.append_assoc]
  congr 1
  have e1 : l.drop (i + 1) = seg l (i + 1) k ++ l.drop k := by
    unfold seg
    have e2 : l.drop (i + 1) = (l.take k ++ l.drop k).drop (i + 1) := by rw [List.take_append_drop]
    rw [e2, List.drop_append_of_le_length (by rw [List.length_take]; omega)]
  rw [e1, drop_at h3]
  rfl
theorem cp_aft {l : List Nat} {i : Nat} (hi : i < l.length) : (aft l i = none ∧ cp (l.drop i) = 0) ∨ ∃ k, aft l i = some k ∧ i < k ∧ k ≤ l.length ∧ cp (l.drop i) = 1 + cp (l.drop k) := by
  rcases aft_spec hi with ⟨e, c, hc, h⟩ | ⟨c, hc, h1, h2, e⟩ | ⟨c, k, hc, h1, hk, e⟩
  · refine .inl ⟨e, ?_⟩
    rcases h with h | ⟨h1, h⟩
    · rw [drop_at hc, cp_clo h]
    · refine cp_none (drop_at hc) (fun a b eab ca => ?_) h1
      have hlen := congrArg List.length eab
      simp at hlen
      have e3 : l[i + 1 + a.length]? = some (oth c) := by
        have : (l.drop (i + 1))[a.length]? = some (oth c) := by rw [eab]; simp
        rw [List.getElem?_drop] at this
        exact this
      have e4 : seg l (i + 1) (i + 1 + a.length) = a := by
        unfold seg
        rw [List.drop_take, eab, show i + 1 + a.length - (i + 1) = a.length by omega, List.take_left]
      exact h (i + 1 + a.length) ⟨by omega, c, hc, h1, e3, by rw [e4]; exact ca⟩
  · exact .inr ⟨i + 1, e, by omega, hi, by rw [drop_at hc, cp_let h1 h2]⟩
  · have hkl := ptn_lt hk
    obtain ⟨e2, hcl⟩ := ptn_drop hk hc
    refine .inr ⟨k + 1, e, by have := hk.1; omega, hkl, ?_⟩
    rw [e2, cp_app (clean_pair h1 hcl), cp_pair h1 hcl]
/-- e is where the longest clean stretch from i on ends -/
def Lng (l : List Nat) (i e : Nat) : Prop := i ≤ e ∧ e ≤ l.length ∧ ∀ j, i ≤ j → j ≤ l.length → clean (seg l i j) → j ≤ e
theorem lng_aft {l : List Nat} {i : Nat} (hi : i < l.length) : (aft l i = none ∧ Lng l i i) ∨ ∃ k, aft l i = some k ∧ i < k ∧ k ≤ l.length ∧ ∀ e, Lng l k e → Lng l i e := by
  rcases aft_spec hi with ⟨e, c, hc, h⟩ | ⟨c, hc, h1, h2, e⟩ | ⟨c, k, hc, h1, hk, e⟩
  · refine .inl ⟨e, Nat.le_refl _, by omega, fun j h1 h2 h3 => ?_⟩
    rcases Nat.lt_or_ge i j with hij | hij
    · exfalso
      rcases h with h | ⟨h4, h⟩
      · exact seg_clo hc h hij h2 h3
      · obtain ⟨k, hk, _⟩ := seg_opn hc h4 hij h2 h3
        exact h k hk
    · exact hij
  · refine .inr ⟨i + 1, e, by omega, hi, fun e' h => ⟨by have := h.1; omega, h.2.1, fun j a b d => ?_⟩⟩
    rcases Nat.lt_or_ge i j with hij | hij
    · exact h.2.2 j hij b ((seg_let hc h1 h2 hij b).mp d)
    · have := h.1; omega
  · have hkl := ptn_lt hk
    have hik := hk.1
    refine .inr ⟨k + 1, e, by omega, hkl, fun e' h => ⟨by have := h.1; omega, h.2.1, fun j a b d => ?_⟩⟩
    rcases Nat.lt_or_ge i j with hij | hij
    · obtain ⟨k', hk', h3, h4⟩ := seg_opn hc h1 hij b d
      have := ptn_fun hk hk'
      subst this
      exact h.2.2 j h3 b h4
    · have := h.1; omega
theorem lng_end (l : List Nat) : Lng l l.length l.length := ⟨Nat.le_refl _, Nat.le_refl _, fun j _ h _ => h⟩
theorem lng_clean {l : List Nat} {e : Nat} (h : Lng l 0 e) (hc : clean l) : e = l.length := by
  have := h.2.2 l.length (Nat.zero_le _) (Nat.le_refl _) (by rw [seg_all]; exact hc)
  have := h.2.1
  omega
def cps (l : List Nat) : List Nat := (List.range (l.length + 1)).map fun i => cp (l.drop i)
theorem cps_sum (l : List Nat) : (cps l).sum = many l := by
  induction l with
  | nil => rfl
  | cons c r ih =>
    have e : cps (c :: r) = cp (c :: r) :: cps r := by
      unfold cps
      rw [List.length_cons, List.range_succ_eq_map, List.map_cons, List.map_map]
      rfl
    rw [e, List.sum_cons, ih]
    rfl
/-! ### texts of one kind -/
def repL (n : Nat) (u : List Nat) : List Nat := (List.replicate n u).flatten
theorem repL_succ (n : Nat) (u : List Nat) : repL (n + 1) u = u ++ repL n u := by
  unfold repL
  rw [List.replicate_succ, List.flatten_cons]
theorem rep_unit {u : List Nat} (hu : clean u) (h1 : cp u = 1) (h2 : many u = 1) : ∀ n, clean (repL n u) ∧ cp (repL n u) = n ∧ 2 * many (repL n u) = n * (n + 1)
  | 0 => ⟨clean_nil, rfl, rfl⟩
  | n + 1 => by
    obtain ⟨a, b, c⟩ := rep_unit hu h1 h2 n
    rw [repL_succ]
    refine ⟨clean_app hu a, by rw [cp_app hu, h1, b]; omega, ?_⟩
    rw [many_app hu a, h1, h2, b]
    simp only [Nat.mul_add, Nat.add_mul, Nat.mul_one, Nat.one_mul] at c ⊢
    omega
theorem rep_snoc (n : Nat) (d : Nat) : repL (n + 1) [d] = repL n [d] ++ [d] := by
  induction n with
  | zero => rfl
  | succ n ih =>
    rw [repL_succ, ih, ← List.append_assoc, ← repL_succ, ih]
theorem rep_deep {c : Nat} (hc : c ∈ OPN) : ∀ n, clean (repL n [c] ++ repL n [oth c]) ∧ many (repL n [c] ++ repL n [oth c]) = n
  | 0 => ⟨clean_nil, rfl⟩
  | n + 1 => by
    obtain ⟨a, b⟩ := rep_deep hc n
    have e : repL (n + 1) [c] ++ repL (n + 1) [oth c] = c :: ((repL n [c] ++ repL n [oth c]) ++ [oth c]) := by
      rw [repL_succ, rep_snoc, List.append_assoc, List.append_assoc]
      rfl
    rw [e]
    exact ⟨clean_pair hc a, by rw [many_pair hc a, b]⟩
theorem unit_let {c : Nat} (h1 : c ∉ OPN) (h2 : c ∉ CLO) : clean [c] ∧ cp [c] = 1 ∧ many [c] = 1 := by
  have e : cp [c] = 1 := by rw [cp_let h1 h2]; rfl
  exact ⟨(clean_let h1 h2).mpr clean_nil, e, by show cp [c] + 0 = 1; rw [e]⟩
theorem unit_pair {c : Nat} (h : c ∈ OPN) : clean [c, oth c] ∧ cp [c, oth c] = 1 ∧ many [c, oth c] = 1 :=
  ⟨clean_pair (a := []) h clean_nil, cp_pair (x := []) h clean_nil, many_pair (x := []) h clean_nil⟩
/-! ### units -/
theorem unit_step {l pre post : List Nat} {c : Nat} (hl : clean l) (e : l = pre ++ c :: post) : (List.range (pre.length + 1)).countP (fun k => decide (clean (l.take (k + 1)))) = (List.range pre.length).countP (fun k => decide (clean (l.take (k + 1)))) + if cntO (pre ++ [c]) = cntC (pre ++ [c]) then 1 else 0 := by
  rw [List.range_succ, List.countP_append]
  congr 1
  have e2 : l.take (pre.length + 1) = pre ++ [c] := by
    rw [e, show pre ++ c :: post = (pre ++ [c]) ++ post by simp]
    exact List.take_left' (by simp)
  have hcl : clean ((pre ++ [c]) ++ post) := by rw [e] at hl; simpa using hl
  simp only [List.countP_cons, List.countP_nil, e2]
  by_cases h : cntO (pre ++ [c]) = cntC (pre ++ [c])
  · simp [pre_clean hcl (by omega), h]
  · have : ¬ clean (pre ++ [c]) := fun h' => h (clean_cnt h').symm
    simp [this, h]
end Ly

set_option maxHeartbeats 4000000
namespace Ly
open PySem PySem.Spec PyProof.Rows L2 SX
/-! ### texts with their tokens: for y in [texts]: x = x.replace(y, z) -/
/-- what a local name holds, as it is -/
def Raw (X : Cx) (s : Shared) (x : Str) (u : Value) : Prop := ∃ m, s.heap.Ns X.env.locals m ∧ m x = some u
section
variable {X : Cx} {pins : List (Addr × Obj)} {σ : L2.St} {H : Hp} {s : Shared}
/-- a local name is stored: its value is known, a token is out -/
theorem store_raw {M : Model} {A : Around} {E : Value → Shared → Prop} {i : Nat} {x : Str} {v : V} {u : Value} {Q : Unit → Shared → Prop} (I : Inv X pins σ H s) (hN : X.N.Nodup) (hi : X.N[i]? = some x) (hk : X.env.scope.names.lookup x = some .local) (r : RelV v u)
    (h : ∀ s', Inv X pins (σ.set i (some v)) H s' → Raw X s' x u → s'.toks = s.toks + 1 → (∃ a, Heap.SameBut a s.heap s'.heap ∧ a = X.env.locals) → Q () s') : wpAny M A (storeName X.env x u) Q E s := by
  obtain ⟨m, hn, hl⟩ := id I.loc
  have hcls : (X.env.scope.kind == .class || (X.env.scope.kind == .module && X.env.locals != X.env.globals)) = false := by rw [I.ok.kind]; rfl
  have hiσ : i < σ.length := by rw [I.len]; exact (List.getElem?_eq_some_iff.mp hi).1
  have cne := I.cne
  refine wpAny_storeName_local hk hn (fun h' hn' hs => ?_) hcls
  obtain ⟨oL, _, _, hoL, _⟩ := id hn
  have old : ∀ b o, X.s_0.heap.get? b = some o → h'.get? b = s.heap.get? b := fun b o e => hs.2 b (Nat.ne_of_lt (Nat.lt_of_lt_of_le (Heap.lt_size e) I.ok.above))
  refine h _ ⟨I.ok, I.os, I.bare, ⟨fun b o e n hb hx => (old b o e).trans (I.base.keep b o e n hb hx), fun b o e n hb hx => ?_, I.base.free, fun b o e hx => ?_, I.base.tups, I.base.frzs, I.base.tbls⟩, ⟨_, hn', fun j y v' e1 e2 e3 => ?_⟩, fun y c e => ?_, I.free, I.freeC, fun p hp => ?_, fun b ob e => ?_, by simpa using I.len⟩ ⟨_, hn', by simp⟩ rfl ⟨_, hs, rfl⟩
  · obtain ⟨sl, e1⟩ := I.base.slot b o e n hb hx
    exact ⟨sl, (old b o e).trans e1⟩
  · obtain ⟨o', e1⟩ := I.base.there b o e hx
    exact ⟨o', (old b o e).trans e1⟩
  · by_cases hj : j = i
    · subst hj
      rw [hi] at e1; cases e1
      rw [List.getElem?_set_self hiσ] at e2
      cases e2
      exact ⟨u, r, .inl ⟨hk, by simp⟩⟩
    · rw [List.getElem?_set_ne (Ne.symm hj)] at e2
      obtain ⟨u', r', q⟩ := hl j y v' e1 e2 e3
      refine ⟨u', r', ?_⟩
      rcases q with ⟨k, e⟩ | ⟨k, c, e, z⟩
      · have : y ≠ x := fun e => hj (nodup_ix hN e1 (e ▸ hi))
        exact .inl ⟨k, by simp [this, e]⟩
      · exact .inr ⟨k, c, e, z.sameBut hs (cne y c e)⟩
  · obtain ⟨w', z⟩ := I.cell y c e
    exact ⟨w', z.sameBut hs (cne y c e)⟩
  · obtain ⟨e, n, ne, nf, d⟩ := I.pin p hp
    exact ⟨(hs.2 p.1 ne).trans e, n, ne, nf, d⟩
  · refine (I.hok b ob e).stay (fun c w' hc q => (hs.2 c ?_).trans q) (fun _ q => q) fun _ _ q => q
    rintro rfl
    rcases hc with rfl | hc
    · rw [I.free] at e; cases e
    · rw [I.free] at hc; cases hc
/-- behind a store a token is out -/
theorem pss_asgT {i : Nat} {x : Str} {e : Expr} {te : TE} {rest : List Stmt} {u : TS} {pos' pos : Pos} (hN : X.N.Nodup) (hi : X.N[i]? = some x) (hk : X.env.scope.names.lookup x = some .local) (he : PE X e te) (h2 : PSsT X rest u)
    (hs : swapsWith e (some (.Name x pos')) pos.line X.env = pure false := by rfl) : PSs X (.Assign [.Name x pos'] e pos :: rest) (tSeq (tAsg te (gName i)) u) := by
  refine ⟨fun pins s σ H D I h => ?_⟩
  refine wpAny_execs_cons (wpAny_Assign_Name (thn (he.run pins s σ H _ I h) fun v s1 ⟨y, H1, I1, r1, q1⟩ => ?_) hs)
  exact store_raw I1 hN hi hk r1 fun s2 I2 _ ht _ => h2 pins s2 _ H1 D (by omega) I2 q1
theorem raw_load {x : Str} {u : Value} {pos : Pos} {Q E : Value → Shared → Prop} (hk : X.env.scope.names.lookup x = some .local) (I : Inv X pins σ H s) (h : Raw X s x u) (fin : Q u s)
    (hd : (x == ("__debug__" : Str)) = false) : wpAny (model X.prog X.w) X.A (eval (.Name x pos) X.env) Q E s := by
  obtain ⟨m, hn, hm⟩ := h
  exact wpAny_Name (wpAny_loadName_local I.ok.kind hk hn hm fin) hd
end
section
variable {X : Cx} {ik ip : Nat} {kx px z : Str} {y1 y2 y3 y4 : Str}
def yAt (y1 y2 y3 y4 : Str) (i : Nat) : Str := match i with | 0 => y1 | 1 => y2 | 2 => y3 | _ => y4
/-- the reading: F i is the state ahead of turn i, xs i the text there -/
def tRepl (ik ip : Nat) (y1 y2 y3 y4 z : Str) : TS := fun D σ H => ∃ (F : Nat → L2.St) (xs : Nat → Str), F 0 = σ ∧ (∀ i, i < 4 → (F i)[ik]? = some (some (.str (xs i))) ∧ (xs i).length + ((xs i).length + 1) * z.length ≤ 16777216 ∧ F (i + 1) = ((F i).set ip (some (.str (yAt y1 y2 y3 y4 i)))).set ik (some (.str (Txt.replace (xs i) (yAt y1 y2 y3 y4 i) z)))) ∧
  ∀ a o, H a = none → D.nx (F 4) (upd H a (.frz o (.lst [.str y1, .str y2, .str y3, .str y4])))
theorem pst_repl {j1 j2 j3 j4 jz : Nat} {p0 c1 c2 c3 c4 pl pa p1 apos p2 cz pos pos2 pos3 : Pos} (hp : PassesOwn (model X.prog X.w) X.A X.env X.xe) (hc : X.calm = true) (hN : X.N.Nodup) (hNk : X.N[ik]? = some kx) (hvk : X.env.scope.names.lookup kx = some .local)
    (hNp : X.N[ip]? = some px) (hvp : X.env.scope.names.lookup px = some .local) (hne : ik ≠ ip) (hy : ∀ i, (yAt y1 y2 y3 y4 i == z) = false)
    (hdk : (kx == ("__debug__" : Str)) = false) (hck : (kx == ("__classdict__" : Str)) = false) (hdp : (px == ("__debug__" : Str)) = false)
    (hs : ∀ x, foldedSetIterable (.List [.Constant (.str y1) j1 c1, .Constant (.str y2) j2 c2, .Constant (.str y3) j3 c3, .Constant (.str y4) j4 c4] pl) X.env x = pure x := by intro _; rfl)
    (hst : starEach [.Name px p2, .Constant (.str z) jz cz] X.env = [(false, eval (.Name px p2) X.env), (false, eval (.Constant (.str z) jz cz) X.env)] := by rfl)
    (hbase : attributeBase (.Name kx p1) "replace" X.env (eval (.Name kx p1) X.env) = eval (.Name kx p1) X.env := by rfl) (hline : (apos.endLine == pos.line) = true := by rfl)
    (hsw : swapsWith (.Call (.Attribute (.Name kx p1) "replace" apos) [.Name px p2, .Constant (.str z) jz cz] [] pos) (some (.Name kx pa)) pos2.line X.env = pure false := by rfl) :
    PST X (.For (.Name px p0) (.List [.Constant (.str y1) j1 c1, .Constant (.str y2) j2 c2, .Constant (.str y3) j3 c3, .Constant (.str y4) j4 c4] pl)
      [.Assign [.Name kx pa] (.Call (.Attribute (.Name kx p1) "replace" apos) [.Name px p2, .Constant (.str z) jz cz] [] pos) pos2] [] pos3) (tRepl ik ip y1 y2 y3 y4 z) := by
  intro pins s σ H D h0 I h
  obtain ⟨F, xs, F0, hF, fin⟩ := h
  refine wpAny_For ?_ hs
  refine wpAny_List_spliced ?_
  show wpAny _ _ (spliced ((false, eval (.Constant (.str y1) j1 c1) X.env) :: backTo pl (starEach [.Constant (.str y2) j2 c2, .Constant (.str y3) j3 c3, .Constant (.str y4) j4 c4] X.env))) _ _ s
  refine Calls.spliced_cons (Calls.Constant_str ?_)
  show wpAny _ _ (spliced ((false, eval (.Constant (.str y2) j2 c2) X.env) :: backTo pl (starEach [.Constant (.str y3) j3 c3, .Constant (.str y4) j4 c4] X.env))) _ _ _
  refine Calls.spliced_cons (Calls.Constant_str ?_)
  show wpAny _ _ (spliced ((false, eval (.Constant (.str y3) j3 c3) X.env) :: backTo pl (starEach [.Constant (.str y4) j4 c4] X.env))) _ _ _
  refine Calls.spliced_cons (Calls.Constant_str ?_)
  show wpAny _ _ (spliced ((false, eval (.Constant (.str y4) j4 c4) X.env) :: backTo pl (starEach [] X.env))) _ _ _
  refine Calls.spliced_cons (Calls.Constant_str (Calls.spliced_nil ?_))
  have h4 : (4 : Nat) ≤ sizeLine := by decide
  refine ⟨h4, ?_⟩
  have nfr : H s.heap.objs.size = none := I.hok.fresh (Nat.le_refl _)
  have I1 : Inv X pins σ (upd H s.heap.objs.size (.frz { cls := .type "list", data := .seq #[.str y1 s.toks, .str y2 (s.toks + 1), .str y3 (s.toks + 1 + 1), .str y4 (s.toks + 1 + 1 + 1)] 0 } (.lst [.str y1, .str y2, .str y3, .str y4]))) { s with heap := s.heap.push { cls := .type "list", data := .seq #[.str y1 s.toks, .str y2 (s.toks + 1), .str y3 (s.toks + 1 + 1), .str y4 (s.toks + 1 + 1 + 1)] 0 }, toks := s.toks + 1 + 1 + 1 + 1 } :=
    I.laid (t' := s.toks + 1 + 1 + 1 + 1) (fun b u e => Heap.get?_push_of_some _ e) (Nat.le_refl _) ⟨Heap.get?_push_size _ rfl, h4, [.str y1 s.toks, .str y2 (s.toks + 1), .str y3 (s.toks + 1 + 1), .str y4 (s.toks + 1 + 1 + 1)], 0, .cons ⟨_, rfl⟩ (.cons ⟨_, rfl⟩ (.cons ⟨_, rfl⟩ (.cons ⟨_, rfl⟩ .nil))), Heap.get?_push_size _ rfl⟩
  obtain ⟨T0, hT0⟩ : ∃ T0, T0 = s.toks := ⟨_, rfl⟩
  rw [← hT0] at I1 h0 ⊢
  obtain ⟨o, ho⟩ : ∃ o : Obj, o = { cls := .type "list", data := .seq #[.str y1 T0, .str y2 (T0 + 1), .str y3 (T0 + 1 + 1), .str y4 (T0 + 1 + 1 + 1)] 0 } := ⟨_, rfl⟩
  rw [← ho] at I1
  obtain ⟨a, ha⟩ : ∃ a, a = s.heap.objs.size := ⟨_, rfl⟩
  rw [← ha] at nfr I1
  have isL : ∀ {pins' : List (Addr × Obj)} {σ' : L2.St} {s' : Shared}, Inv X pins' σ' (upd H a (.frz o (.lst [.str y1, .str y2, .str y3, .str y4]))) s' → s'.heap.IsList a #[.str y1 T0, .str y2 (T0 + 1), .str y3 (T0 + 1 + 1), .str y4 (T0 + 1 + 1 + 1)] := by
    intro pins' σ' s' I'
    obtain ⟨h5, _⟩ := I'.hok a _ upd_same
    exact ⟨o, h5, by rw [ho], 0, by rw [ho]⟩
  have sq : SqL X.K (upd H a (.frz o (.lst [.str y1, .str y2, .str y3, .str y4]))) a [.str y1, .str y2, .str y3, .str y4] := .inl (.inr ⟨o, upd_same⟩)
  have itAt : ∀ i, i < 4 → ∃ t, (#[Value.str y1 T0, Value.str y2 (T0 + 1), Value.str y3 (T0 + 1 + 1), Value.str y4 (T0 + 1 + 1 + 1)] : Array Value)[i]? = some (.str (yAt y1 y2 y3 y4 i) t) ∧ 1 ≤ t ∧ t < T0 + 4 := by
    intro i hi
    have hc : i = 0 ∨ i = 1 ∨ i = 2 ∨ i = 3 := by omega
    rcases hc with rfl | rfl | rfl | rfl
    · exact ⟨T0, rfl, by omega, by omega⟩
    · exact ⟨T0 + 1, rfl, by omega, by omega⟩
    · exact ⟨T0 + 1 + 1, rfl, by omega, by omega⟩
    · exact ⟨T0 + 1 + 1 + 1, rfl, by omega, by omega⟩
  have vAt : ∀ i, i < 4 → ([.str y1, .str y2, .str y3, .str y4] : List V)[i]? = some (.str (yAt y1 y2 y3 y4 i)) := by
    intro i hi
    have hc : i = 0 ∨ i = 1 ∨ i = 2 ∨ i = 3 := by omega
    rcases hc with rfl | rfl | rfl | rfl <;> rfl
  generalize hH1 : upd H a (.frz o (.lst [.str y1, .str y2, .str y3, .str y4])) = H1 at I1 isL sq
  rw [← ha, ← ho]
  generalize hs1 : ({ s with heap := s.heap.push o, toks := T0 + 1 + 1 + 1 + 1 } : Shared) = s1 at I1
  have ht1 : T0 + 4 ≤ s1.toks := by rw [← hs1]; exact Nat.le_refl _
  refine thn (show wpAny _ _ (pyIter (.ref a)) (fun itv s2 => ∃ it, itv = .ref it ∧ Inv X pins σ H1 s2 ∧ s2.heap.IsListIter it a 0 ∧ (∀ b ∈ [it], FpOk X pins H1 b) ∧ T0 + 4 ≤ s2.toks) _ s1 from ?_) fun itv s2 h2 => ?_
  · refine wpAny_pyIter_list (isL I1) ?_
    refine ⟨s1.heap.objs.size, rfl, I1.kept (t' := s1.toks) fun b o e => Heap.get?_push_of_some _ e, ⟨_, Heap.get?_push_size _ rfl, rfl, rfl⟩, fun b hb => ?_, ht1⟩
    have e : b = s1.heap.objs.size := by simpa using hb
    subst e
    exact I1.fpOk (Nat.le_refl _) (I1.hok.fresh (Nat.le_refl _))
  obtain ⟨it, rfl, I2, st2, f2, ht2⟩ := h2
  have T := turn_list (P := X.prog) (w := X.w) (K := X.K) (tg := .Name px p0) a it
  have stat : ∀ {H' : Hp}, (∀ b ∈ [it], H' b = none) → ∀ b ∈ [it], FpOk X pins H' b := fun hn b hb => ⟨hn b hb, (f2 b hb).2⟩
  have fr2 : ∀ b ∈ [it], H1 b = none := fun b hb => (f2 b hb).1
  refine codeAny_forLoop_any (fun n s' => ∃ i, i + n = 4 ∧ Inv X pins (F i) H1 s' ∧ s'.heap.IsListIter it a i ∧ T0 + 4 ≤ s'.toks) ?_ 4 ⟨0, rfl, by rw [F0]; exact I2, st2, ht2⟩
  rintro n s3 ⟨i, hin, I3, st3, ht3⟩
  by_cases hi : i < 4
  · obtain ⟨t, hu, t1, t2⟩ := itAt i hi
    obtain ⟨hx, hb, hFi⟩ := hF i hi
    obtain ⟨f0, f1, f2', f3, f4, f5⟩ := stat fr2 it (by simp)
    refine wpAny_passesOwn hp (wpAny_pyNext_list_item st3 (isL I3) hu fun h' st' sb => ?_)
    have I4 : Inv X pins (F i) H1 { s3 with heap := h' } := I3.turned (t' := s3.toks) (fun b o hb e => (sb.2 b hb).trans e) f0 f1 f3 f4 f5
    obtain ⟨oi, e, c, d⟩ := id st'
    refine wpAny_passesOwn hp (go_of (s := { s3 with heap := h' }) e c d (by decide) ?_)
    have I4' := I4.pinned (stat fr2) (T.obj _ _ st')
    refine wpAny_passesOwn hp (wpAny_assign_Name (store_raw (v := V.str (yAt y1 y2 y3 y4 i)) I4' hN hNp hvp ⟨t, rfl⟩ fun s6 I6 raw6 ht6 _ => ?_))
    have ht6' : T0 + 4 ≤ s6.toks := by rw [ht6]; exact Nat.le_trans ht3 (Nat.le_add_right _ _)
    refine wpAny_passesOwn hp (thn (show wpAny (model X.prog X.w) X.A (execs [.Assign [.Name kx pa] (.Call (.Attribute (.Name kx p1) "replace" apos) [.Name px p2, .Constant (.str z) jz cz] [] pos) pos2] X.env) (fun f s7 => f = .next ∧ Inv X (pins ++ pinsAt [it] h') (F (i + 1)) H1 s7 ∧ T0 + 4 ≤ s7.toks) X.xe s6 from ?_) fun f s7 q7 => ?_)
    · refine wpAny_execs_cons (wpAny_Assign_Name (PySem.Call_method2 hbase hst hline ?_) hsw)
      have hx6 : ((F i).set ip (some (V.str (yAt y1 y2 y3 y4 i))))[ik]? = some (some (.str (xs i))) := by
        rw [List.getElem?_set_ne (Ne.symm hne)]
        exact hx
      refine raw_name hNk (.inl hvk) I6 hx6 (fun v r => ?_) hdk hck
      obtain ⟨tx, ev⟩ := r
      subst ev
      refine ⟨"str", _, PySem.F.plainAttrs_str, PySem.F.slot_str_replace, PySem.F.type_str_replace, typeIs_str _ _ _, (fun _ e => nomatch e), Calls.callWith_builtin rfl (Calls.evalArgs_plain (Calls.spliced_cons ?_))⟩
      refine raw_load hvp I6 raw6 ?_ hdp
      refine Calls.spliced_cons (Calls.Constant_str (Calls.spliced_nil ?_))
      refine wpAny_mono (PySem.wpAny_toks_of (n := T0 + 4) (Nat.le_trans ht6' (Nat.le_add_right _ 1)) (PySem.SC.replace (Q := fun v s8 => ∃ t', v = Value.str (Txt.replace (xs i) (yAt y1 y2 y3 y4 i) z) t' ∧ Inv X (pins ++ pinsAt [it] h') ((F i).set ip (some (V.str (yAt y1 y2 y3 y4 i)))) H1 s8) (by show t ≠ 0; omega) (by show s6.toks ≠ 0; omega) (by show t ≠ s6.toks; omega) (hy i) hb fun t' k => ⟨t', rfl, I6.tok k⟩)) (fun v s8 q8 => ?_) fun _ _ q => q.2
      obtain ⟨ht8, t', rfl, I8⟩ := q8
      refine store_raw (v := V.str (Txt.replace (xs i) (yAt y1 y2 y3 y4 i) z)) I8 hN hNk hvk ⟨t', rfl⟩ fun s9 I9 _ ht9 _ => ?_
      refine wpAny_execs_nil ⟨rfl, by rw [hFi]; exact I9, by omega⟩
    · obtain ⟨rfl, I7, ht7⟩ := q7
      refine ⟨n - 1, by omega, i + 1, by omega, I7.unpinned, T.keep _ _ _ st' fun b hb o e => (I7.pin (b, o) (List.mem_append_right _ (List.mem_append_right _ (mem_pinsAt hb e)))).1, ht7⟩
  · have hi4 : i = 4 := by omega
    subst hi4
    refine wpAny_passesOwn hp (thn (T.done X rfl rfl rfl hc 4 pins s3 (F 4) H1 X.xe I3 (stat fr2) st3 ⟨_, sq, Nat.le_refl _⟩) fun r s4 ⟨hr, I4⟩ => ?_)
    subst hr
    exact wpAny_execs_nil ⟨F 4, H1, I4, by rw [← hH1]; exact fin a o nfr⟩
end
end Ly

set_option maxHeartbeats 4000000
namespace Ly
open PySem PySem.Spec PyProof.Rows L2 SX PySem.StrLaws
/-! ### pairs struck out -/
def rm (o : Nat) (l : List Nat) : List Nat := replL [o, oth o] [] l
theorem rm_nil (o : Nat) : rm o [] = [] := replL_nil
theorem rm_hit (o : Nat) (r : List Nat) : rm o (o :: oth o :: r) = rm o r := by
  unfold rm
  rw [replL_hit (by simp) rfl]
  rfl
theorem rm_miss {o c : Nat} {r : List Nat} (h : ¬ (c = o ∧ ∃ t, r = oth o :: t)) : rm o (c :: r) = c :: rm o r := by
  unfold rm
  refine replL_miss fun e => h ?_
  cases r with
  | nil => cases e
  | cons d t =>
    have e1 : c :: [d] = o :: [oth o] := e
    exact ⟨(List.cons.inj e1).1, t, by rw [(List.cons.inj (List.cons.inj e1).2).1]⟩
theorem rm_cases (o : Nat) : ∀ l : List Nat, l = [] ∨ (∃ r, l = o :: oth o :: r) ∨ ∃ c r, l = c :: r ∧ ¬ (c = o ∧ ∃ t, r = oth o :: t)
  | [] => .inl rfl
  | c :: r => by
    by_cases h : c = o ∧ ∃ t, r = oth o :: t
    · obtain ⟨rfl, t, rfl⟩ := h
      exact .inr (.inl ⟨t, rfl⟩)
    · exact .inr (.inr ⟨c, r, rfl, h⟩)
theorem rm_fold {o : Nat} (ho : o ∈ OPN) : ∀ (n : Nat) (l : List Nat) (st : Option (List Nat)), l.length ≤ n → (rm o l).foldl stp st = l.foldl stp st
  | n, l, st, hn => by
    rcases rm_cases o l with rfl | ⟨r, rfl⟩ | ⟨c, r, rfl, h⟩
    · rw [rm_nil]
    · cases n with
      | zero => simp at hn
      | succ n =>
        rw [rm_hit, rm_fold ho n r st (by simp at hn; omega), List.foldl_cons, List.foldl_cons]
        congr 1
        cases st with
        | none => rfl
        | some st => rw [stp_opn ho, stp_clo (oth_clo o ho)]
    · cases n with
      | zero => simp at hn
      | succ n => rw [rm_miss h, List.foldl_cons, List.foldl_cons, rm_fold ho n r _ (by simpa using hn)]
theorem rm_clean {o : Nat} (ho : o ∈ OPN) (l : List Nat) : clean (rm o l) ↔ clean l := by
  unfold clean run
  rw [rm_fold ho _ l _ (Nat.le_refl _)]
theorem rm_le (o : Nat) : ∀ (n : Nat) (l : List Nat), l.length ≤ n → (rm o l).length ≤ l.length ∧ ((rm o l).length = l.length → rm o l = l) ∧ ∀ c ∈ rm o l, c ∈ l
  | n, l, hn => by
    rcases rm_cases o l with rfl | ⟨r, rfl⟩ | ⟨c, r, rfl, h⟩
    · rw [rm_nil]
      exact ⟨Nat.le_refl _, fun _ => rfl, fun _ h => h⟩
    · cases n with
      | zero => simp at hn
      | succ n =>
        obtain ⟨h1, h2, h3⟩ := rm_le o n r (by simp at hn; omega)
        rw [rm_hit]
        refine ⟨by simp; omega, fun e => ?_, fun c hc => List.mem_cons_of_mem _ (List.mem_cons_of_mem _ (h3 c hc))⟩
        simp at e
        omega
    · cases n with
      | zero => simp at hn
      | succ n =>
        obtain ⟨h1, h2, h3⟩ := rm_le o n r (by simpa using hn)
        rw [rm_miss h]
        refine ⟨by simp; omega, fun e => ?_, fun d hd => ?_⟩
        · rw [h2 (by simpa using e)]
        · rcases List.mem_cons.mp hd with rfl | hd
          · exact List.mem_cons_self ..
          · exact List.mem_cons_of_mem _ (h3 d hd)
theorem rm_lt (o : Nat) : ∀ (u v : List Nat), (rm o (u ++ o :: oth o :: v)).length < (u ++ o :: oth o :: v).length
  | [], v => by
    have := (rm_le o v.length v (Nat.le_refl _)).1
    show (rm o (o :: oth o :: v)).length < (o :: oth o :: v).length
    rw [rm_hit]
    simp
    omega
  | c :: u, v => by
    have ih := rm_lt o u v
    rcases rm_cases o (c :: u ++ o :: oth o :: v) with h | ⟨r, h⟩ | ⟨d, r, h, hn⟩
    · cases h
    · rw [h, rm_hit]
      have := (rm_le o r.length r (Nat.le_refl _)).1
      simp
      omega
    · have e := List.cons.inj h
      rw [h, rm_miss hn, ← e.2]
      simp at ih ⊢
      omega
def allB (l : List Nat) : Prop := ∀ c ∈ l, c ∈ BRK
/-- a clean text of brackets that is not empty has a pair side by side -/
theorem clean_side : ∀ (n : Nat) (l : List Nat), l.length ≤ n → clean l → allB l → l ≠ [] → ∃ u o v, o ∈ OPN ∧ l = u ++ o :: oth o :: v
  | n, [], _, _, _, h => absurd rfl h
  | 0, c :: l, hn, _, _, _ => by simp at hn
  | n + 1, c :: r, hn, h, hb, _ => by
    have hcb := hb c (List.mem_cons_self ..)
    rcases brk_or.mp hcb with h1 | h2
    · obtain ⟨a, b, e, ca, cb⟩ := clean_opn h1 h
      subst e
      cases a with
      | nil => exact ⟨[], c, b, h1, rfl⟩
      | cons d a =>
        obtain ⟨u, o, v, ho, e⟩ := clean_side n (d :: a) (by simp at hn ⊢; omega) ca (fun x hx => hb x (List.mem_cons_of_mem _ (List.mem_append_left _ hx))) (by simp)
        refine ⟨c :: u, o, v ++ oth c :: b, ho, ?_⟩
        rw [e]
        simp
    · exact absurd h (clean_clo h2)
/-- all four kinds, one behind the other -/
def rm4 (l : List Nat) : List Nat := rm 123 (rm 91 (rm 60 (rm 40 l)))
theorem rm4_le (l : List Nat) : (rm4 l).length ≤ l.length ∧ ((rm4 l).length = l.length → ∀ o ∈ OPN, rm o l = l) ∧ ∀ c ∈ rm4 l, c ∈ l := by
  obtain ⟨a1, a2, a3⟩ := rm_le 40 _ l (Nat.le_refl _)
  obtain ⟨b1, b2, b3⟩ := rm_le 60 _ (rm 40 l) (Nat.le_refl _)
  obtain ⟨c1, c2, c3⟩ := rm_le 91 _ (rm 60 (rm 40 l)) (Nat.le_refl _)
  obtain ⟨d1, d2, d3⟩ := rm_le 123 _ (rm 91 (rm 60 (rm 40 l))) (Nat.le_refl _)
  refine ⟨by unfold rm4; omega, fun e => ?_, fun c hc => a3 c (b3 c (c3 c (d3 c hc)))⟩
  have e' : (rm 123 (rm 91 (rm 60 (rm 40 l)))).length = l.length := e
  have x1 := a2 (by omega)
  rw [x1] at b1 b2 c1 c2 d1 d2 e'
  have x2 := b2 (by omega)
  rw [x2] at c1 c2 d1 d2 e'
  have x3 := c2 (by omega)
  rw [x3] at d1 d2 e'
  have x4 := d2 (by omega)
  intro o ho
  have : o = 40 ∨ o = 60 ∨ o = 91 ∨ o = 123 := by simpa [OPN] using ho
  rcases this with rfl | rfl | rfl | rfl
  · exact x1
  · exact x2
  · exact x3
  · exact x4
theorem rm4_clean (l : List Nat) : clean (rm4 l) ↔ clean l := by
  unfold rm4
  rw [rm_clean (by decide), rm_clean (by decide), rm_clean (by decide), rm_clean (by decide)]
/-- nothing more to strike: clean just where nothing is left -/
theorem rm4_end {l : List Nat} (hb : allB l) (h : (rm4 l).length = l.length) : clean l ↔ l = [] := by
  constructor
  · intro hc
    by_cases e : l = []
    · exact e
    · exfalso
      obtain ⟨u, o, v, ho, e2⟩ := clean_side _ l (Nat.le_refl _) hc hb e
      have x := (rm4_le l).2.1 h o ho
      have y := rm_lt o u v
      rw [← e2, x] at y
      omega
  · rintro rfl
    exact clean_nil
/-! the program's texts -/
theorem replace_rm {o : Nat} {l : List Nat} : Txt.replace (S l) (S [o, oth o]) (S []) = S (rm o l) := by
  have e := replace_list (x := S l) (y := S [o, oth o]) (z := S []) (by rw [S_len]; exact Nat.le_succ_of_le (Nat.le_refl 1))
  refine TL.ext_tl ?_
  exact e
end Ly

set_option maxHeartbeats 4000000
namespace Ly
open PySem PySem.Spec PyProof.Rows L2 SX
/-- pairs struck out of the text at ik, all four kinds -/
def tRm (ik ip : Nat) : TS := fun D σ H => ∃ l : List Nat, σ[ik]? = some (some (Tx l)) ∧ l.length ≤ 1000 ∧ ∀ H', Same H H' → D.nx ((σ.set ip (some (Tx [123, 125]))).set ik (some (Tx (rm4 l)))) H'
theorem set_again {α : Type} {A : List α} {p k : Nat} {a b c d : α} (h : k ≠ p) : (((A.set p a).set k b).set p c).set k d = (A.set p c).set k d := by
  rw [List.set_comm b c h, List.set_set, List.set_set]
def rmF (σ : L2.St) (ik ip : Nat) (l : List Nat) : Nat → L2.St
  | 0 => σ
  | 1 => (σ.set ip (some (Tx [40, 41]))).set ik (some (Tx (rm 40 l)))
  | 2 => (σ.set ip (some (Tx [60, 62]))).set ik (some (Tx (rm 60 (rm 40 l))))
  | 3 => (σ.set ip (some (Tx [91, 93]))).set ik (some (Tx (rm 91 (rm 60 (rm 40 l)))))
  | _ => (σ.set ip (some (Tx [123, 125]))).set ik (some (Tx (rm4 l)))
def rmX (l : List Nat) : Nat → List Nat
  | 0 => l
  | 1 => rm 40 l
  | 2 => rm 60 (rm 40 l)
  | _ => rm 91 (rm 60 (rm 40 l))
theorem rep_one {l : List Nat} {o c : Nat} (h : oth o = c) : Txt.replace (S l) (S [o, c]) (S []) = S (rm o l) := by
  rw [← h]
  exact replace_rm
theorem tRm_repl {ik ip : Nat} (hne : ik ≠ ip) {D : Ends} {σ : L2.St} {H : Hp} (h : tRm ik ip D σ H) : tRepl ik ip (S [40, 41]) (S [60, 62]) (S [91, 93]) (S [123, 125]) (S []) D σ H := by
  obtain ⟨l, hk, hl, q⟩ := h
  have a1 := (rm_le 40 _ l (Nat.le_refl _)).1
  have a2 := (rm_le 60 _ (rm 40 l) (Nat.le_refl _)).1
  have a3 := (rm_le 91 _ (rm 60 (rm 40 l)) (Nat.le_refl _)).1
  have hik : ik < σ.length := (List.getElem?_eq_some_iff.mp hk).1
  have bound : ∀ x : List Nat, x.length ≤ 1000 → (S x).length + ((S x).length + 1) * (S []).length ≤ 16777216 := by
    intro x hx
    rw [S_len, S_len]
    simp
    omega
  have at_ : ∀ (A : L2.St) (v : Option V), A.length = σ.length → (A.set ik v)[ik]? = some v := fun A v hA => List.getElem?_set_self (by omega)
  refine ⟨rmF σ ik ip l, fun i => S (rmX l i), rfl, fun i hi => ?_, fun a o na => q _ (Same.new na)⟩
  have hc : i = 0 ∨ i = 1 ∨ i = 2 ∨ i = 3 := by omega
  rcases hc with rfl | rfl | rfl | rfl
  · refine ⟨hk, bound _ hl, ?_⟩
    show (σ.set ip (some (Tx [40, 41]))).set ik (some (Tx (rm 40 l))) = _
    rw [show Tx (rm 40 l) = V.str (Txt.replace (S l) (S [40, 41]) (S [])) by rw [rep_one (by decide)]]
    rfl
  · refine ⟨at_ _ _ (by simp), bound _ (by show (rm 40 l).length ≤ 1000; omega), ?_⟩
    show (σ.set ip (some (Tx [60, 62]))).set ik (some (Tx (rm 60 (rm 40 l)))) = (((σ.set ip (some (Tx [40, 41]))).set ik (some (Tx (rm 40 l)))).set ip (some (Tx [60, 62]))).set ik (some (V.str (Txt.replace (S (rm 40 l)) (S [60, 62]) (S []))))
    rw [rep_one (by decide), set_again hne]
  · refine ⟨at_ _ _ (by simp), bound _ (by show (rm 60 (rm 40 l)).length ≤ 1000; omega), ?_⟩
    show (σ.set ip (some (Tx [91, 93]))).set ik (some (Tx (rm 91 (rm 60 (rm 40 l))))) = (((σ.set ip (some (Tx [60, 62]))).set ik (some (Tx (rm 60 (rm 40 l))))).set ip (some (Tx [91, 93]))).set ik (some (V.str (Txt.replace (S (rm 60 (rm 40 l))) (S [91, 93]) (S []))))
    rw [rep_one (by decide), set_again hne]
  · refine ⟨at_ _ _ (by simp), bound _ (by show (rm 91 (rm 60 (rm 40 l))).length ≤ 1000; omega), ?_⟩
    show (σ.set ip (some (Tx [123, 125]))).set ik (some (Tx (rm4 l))) = (((σ.set ip (some (Tx [91, 93]))).set ik (some (Tx (rm 91 (rm 60 (rm 40 l)))))).set ip (some (Tx [123, 125]))).set ik (some (V.str (Txt.replace (S (rm 91 (rm 60 (rm 40 l)))) (S [123, 125]) (S []))))
    rw [rep_one (by decide), set_again hne]
    rfl
section
variable {X : Cx} {ik ip : Nat} {kx px z : Str} {y1 y2 y3 y4 : Str}
theorem pst_rm {j1 j2 j3 j4 jz : Nat} {p0 c1 c2 c3 c4 pl pa p1 apos p2 cz pos pos2 pos3 : Pos} (hp : PassesOwn (model X.prog X.w) X.A X.env X.xe) (hc : X.calm = true) (hN : X.N.Nodup) (hNk : X.N[ik]? = some kx) (hvk : X.env.scope.names.lookup kx = some .local)
    (hNp : X.N[ip]? = some px) (hvp : X.env.scope.names.lookup px = some .local) (hne : ik ≠ ip) (e1 : y1 = S [40, 41]) (e2 : y2 = S [60, 62]) (e3 : y3 = S [91, 93]) (e4 : y4 = S [123, 125]) (ez : z = S [])
    (hdk : (kx == ("__debug__" : Str)) = false) (hck : (kx == ("__classdict__" : Str)) = false) (hdp : (px == ("__debug__" : Str)) = false)
    (hs : ∀ x, foldedSetIterable (.List [.Constant (.str y1) j1 c1, .Constant (.str y2) j2 c2, .Constant (.str y3) j3 c3, .Constant (.str y4) j4 c4] pl) X.env x = pure x := by intro _; rfl)
    (hst : starEach [.Name px p2, .Constant (.str z) jz cz] X.env = [(false, eval (.Name px p2) X.env), (false, eval (.Constant (.str z) jz cz) X.env)] := by rfl)
    (hbase : attributeBase (.Name kx p1) "replace" X.env (eval (.Name kx p1) X.env) = eval (.Name kx p1) X.env := by rfl) (hline : (apos.endLine == pos.line) = true := by rfl)
    (hsw : swapsWith (.Call (.Attribute (.Name kx p1) "replace" apos) [.Name px p2, .Constant (.str z) jz cz] [] pos) (some (.Name kx pa)) pos2.line X.env = pure false := by rfl) :
    PST X (.For (.Name px p0) (.List [.Constant (.str y1) j1 c1, .Constant (.str y2) j2 c2, .Constant (.str y3) j3 c3, .Constant (.str y4) j4 c4] pl)
      [.Assign [.Name kx pa] (.Call (.Attribute (.Name kx p1) "replace" apos) [.Name px p2, .Constant (.str z) jz cz] [] pos) pos2] [] pos3) (tRm ik ip) := by
  have hy : ∀ i, (yAt y1 y2 y3 y4 i == z) = false := by
    subst e1 e2 e3 e4 ez
    intro i
    unfold yAt
    split <;> decide +kernel
  intro pins s σ H D h0 I h
  refine pst_repl (y1 := y1) (y2 := y2) (y3 := y3) (y4 := y4) (z := z) hp hc hN hNk hvk hNp hvp hne hy hdk hck hdp hs hst hbase hline hsw pins s σ H D h0 I ?_
  subst e1 e2 e3 e4 ez
  exact tRm_repl hne h
end
end Ly

set_option maxHeartbeats 4000000
namespace Ly
/-! ### from piece to piece -/
theorem seg_clean1 {l : List Nat} {i k : Nat} (h : ptn l i k) : clean (seg l i (k + 1)) := ptn_clean h
theorem aft_chain {l : List Nat} {i : Nat} (hi : i < l.length) : (aft l i = none ∧ ∀ j, i < j → j ≤ l.length → ¬ clean (seg l i j)) ∨ ∃ k, aft l i = some k ∧ i < k ∧ k ≤ l.length ∧ clean (seg l i k) ∧ ∀ j, i < j → j ≤ l.length → clean (seg l i j) → k ≤ j := by
  rcases aft_spec hi with ⟨e, c, hc, h⟩ | ⟨c, hc, h1, h2, e⟩ | ⟨c, k, hc, h1, hk, e⟩
  · refine .inl ⟨e, fun j hij h2 h3 => ?_⟩
    rcases h with h | ⟨h4, h⟩
    · exact seg_clo hc h hij h2 h3
    · obtain ⟨k, hk, _⟩ := seg_opn hc h4 hij h2 h3
      exact h k hk
  · refine .inr ⟨i + 1, e, by omega, hi, ?_, fun j hij _ _ => hij⟩
    rw [seg_one hc]
    exact (clean_let h1 h2).mpr clean_nil
  · have hkl := ptn_lt hk
    have hik := hk.1
    refine .inr ⟨k + 1, e, by omega, hkl, ptn_clean hk, fun j hij hj hc2 => ?_⟩
    obtain ⟨k', hk', h3, _⟩ := seg_opn hc h1 hij hj hc2
    have := ptn_fun hk hk'
    omega
/-- on the way from b to e, at a -/
def Chn (l : List Nat) (b e a : Nat) : Prop := b < a ∧ a ≤ l.length ∧ clean (seg l b a) ∧ (clean (seg l b e) → a ≤ e)
theorem chn_step {l : List Nat} {b e a : Nat} (C : Chn l b e a) (ha : a < e) (he : e ≤ l.length) : (aft l a = none ∧ ¬ clean (seg l b e)) ∨ ∃ k, aft l a = some k ∧ a < k ∧ Chn l b e k := by
  obtain ⟨c1, c2, c3, c4⟩ := C
  have app : ∀ j, a ≤ j → seg l b j = seg l b a ++ seg l a j := fun j hj => seg_app (by omega) hj c2
  rcases aft_chain (l := l) (i := a) (by omega) with ⟨h1, h2⟩ | ⟨k, h1, h2, h3, h4, h5⟩
  · refine .inl ⟨h1, fun h => ?_⟩
    rw [app e (by omega), clean_cancel c3] at h
    exact h2 e ha he h
  · refine .inr ⟨k, h1, h2, by omega, h3, ?_, fun h => ?_⟩
    · rw [app k (by omega)]
      exact clean_app c3 h4
    · rw [app e (by omega), clean_cancel c3] at h
      exact h5 e ha he h
theorem chn_end {l : List Nat} {b e a : Nat} (C : Chn l b e a) (ha : e ≤ a) : a = e ↔ clean (seg l b e) := by
  constructor
  · rintro rfl
    exact C.2.2.1
  · intro h
    have := C.2.2.2 h
    omega
/-! ### sums -/
def sumTo (l : List Nat) (b : Nat) : Nat := ((List.range b).map fun i => cp (l.drop i)).sum
theorem sumTo_succ (l : List Nat) (b : Nat) : sumTo l (b + 1) = sumTo l b + cp (l.drop b) := by
  unfold sumTo
  rw [List.range_succ, List.map_append, List.sum_append]
  simp
theorem sumTo_all (l : List Nat) : sumTo l l.length = many l := by
  rw [← cps_sum]
  have : (cps l).sum = sumTo l (l.length + 1) := rfl
  rw [this, sumTo_succ, List.drop_length]
  rfl
def cpTo (l : List Nat) (b j : Nat) : Nat := (List.range j).countP fun k => decide (clean (seg l b (b + 1 + k)))
theorem cpTo_succ (l : List Nat) (b j : Nat) : cpTo l b (j + 1) = cpTo l b j + if clean (seg l b (b + 1 + j)) then 1 else 0 := by
  unfold cpTo
  rw [List.range_succ, List.countP_append]
  simp [List.countP_cons]
theorem cpTo_all (l : List Nat) (b : Nat) : cpTo l b (l.length - b) = cp (l.drop b) := by
  unfold cpTo cp
  rw [List.length_drop]
  apply List.countP_congr
  intro k _
  unfold seg
  rw [List.drop_take, show b + 1 + k - b = k + 1 by omega]
end Ly

set_option maxHeartbeats 4000000
namespace K37
open PySem PySem.Spec PyProof.Rows L2 SX Ly
def topS (i : Nat) : Stmt := PySem.Challenge.pw_nestmend_k37_clean_stretches.main.body.getD i (.Pass ⟨0, 0, 0, 0⟩)
abbrev s_kind_of : Stmt := topS 3
abbrev N_kind_of : List Str := ["bracket"]
theorem st_kind_of (v0 : V) : L2.start N_kind_of [v0] = [some v0] := rfl
theorem sc_kind_of : FnScope N_kind_of ["bracket"] (defScope s_kind_of) := ⟨rfl, rfl, rfl, by decide +kernel, rfl, by decide +kernel, by decide +kernel⟩
abbrev s_other_side : Stmt := topS 4
abbrev N_other_side : List Str := ["bracket"]
theorem st_other_side (v0 : V) : L2.start N_other_side [v0] = [some v0] := rfl
theorem sc_other_side : FnScope N_other_side ["bracket"] (defScope s_other_side) := ⟨rfl, rfl, rfl, by decide +kernel, rfl, by decide +kernel, by decide +kernel⟩
abbrev s_partners : Stmt := topS 5
abbrev N_partners : List Str := ["text", "found", "waiting", "place", "sign"]
theorem st_partners (v0 : V) : L2.start N_partners [v0] = [some v0, none, none, none, none] := rfl
theorem sc_partners : FnScope N_partners ["text"] (defScope s_partners) := ⟨rfl, rfl, rfl, by decide +kernel, rfl, by decide +kernel, by decide +kernel⟩
abbrev s_next_places : Stmt := topS 7
abbrev N_next_places : List Str := ["text", "mates", "found", "place", "sign"]
theorem st_next_places (v0 : V) : L2.start N_next_places [v0] = [some v0, none, none, none, none] := rfl
theorem sc_next_places : FnScope N_next_places ["text"] (defScope s_next_places) := ⟨rfl, rfl, rfl, by decide +kernel, rfl, by decide +kernel, by decide +kernel⟩
abbrev s_is_clean_stretch : Stmt := topS 8
abbrev N_is_clean_stretch : List Str := ["text", "begin", "end", "after", "at"]
theorem st_is_clean_stretch (v0 v1 v2 : V) : L2.start N_is_clean_stretch [v0, v1, v2] = [some v0, some v1, some v2, none, none] := rfl
theorem sc_is_clean_stretch : FnScope N_is_clean_stretch ["text", "begin", "end"] (defScope s_is_clean_stretch) := ⟨rfl, rfl, rfl, by decide +kernel, rfl, by decide +kernel, by decide +kernel⟩
abbrev s_many_clean : Stmt := topS 9
abbrev N_many_clean : List Str := ["text", "after", "many", "place"]
theorem st_many_clean (v0 : V) : L2.start N_many_clean [v0] = [some v0, none, none, none] := rfl
theorem sc_many_clean : FnScope N_many_clean ["text"] (defScope s_many_clean) := ⟨rfl, rfl, rfl, by decide +kernel, rfl, by decide +kernel, by decide +kernel⟩
abbrev s_law_stream : Stmt := topS 11
abbrev N_law_stream : List Str := ["cell", "low"]
theorem st_law_stream (v0 : V) : L2.start N_law_stream [v0] = [some v0, none] := rfl
theorem sc_law_stream : FnScope N_law_stream ["cell"] (defScope s_law_stream) := ⟨rfl, rfl, rfl, by decide +kernel, rfl, by decide +kernel, by decide +kernel⟩
abbrev s_law_take : Stmt := topS 12
abbrev N_law_take : List Str := ["row", "many", "got"]
theorem st_law_take (v0 v1 : V) : L2.start N_law_take [v0, v1] = [some v0, some v1, none] := rfl
theorem sc_law_take : FnScope N_law_take ["row", "many"] (defScope s_law_take) := ⟨rfl, rfl, rfl, by decide +kernel, rfl, by decide +kernel, by decide +kernel⟩
abbrev s_law_bracket : Stmt := topS 13
abbrev N_law_bracket : List Str := ["row", "kinds"]
theorem st_law_bracket (v0 v1 : V) : L2.start N_law_bracket [v0, v1] = [some v0, some v1] := rfl
theorem sc_law_bracket : FnScope N_law_bracket ["row", "kinds"] (defScope s_law_bracket) := ⟨rfl, rfl, rfl, by decide +kernel, rfl, by decide +kernel, by decide +kernel⟩
abbrev s_law_clean : Stmt := topS 14
abbrev N_law_clean : List Str := ["row", "most", "kinds", "text", "k", "at", "kind", "inner"]
theorem st_law_clean (v0 v1 v2 : V) : L2.start N_law_clean [v0, v1, v2] = [some v0, some v1, some v2, none, none, none, none, none] := rfl
theorem sc_law_clean : FnScope N_law_clean ["row", "most", "kinds"] (defScope s_law_clean) := ⟨rfl, rfl, rfl, by decide +kernel, rfl, by decide +kernel, by decide +kernel⟩
abbrev s_law_text : Stmt := topS 15
abbrev N_law_text : List Str := ["row", "most", "kinds", "signs", "letter", "text", "k", "at", "others", "sign"]
theorem st_law_text (v0 v1 : V) : L2.start N_law_text [v0, v1] = [some v0, some v1, none, none, none, none, none, none, none, none] := rfl
theorem sc_law_text : FnScope N_law_text ["row", "most"] (defScope s_law_text) := ⟨rfl, rfl, rfl, by decide +kernel, rfl, by decide +kernel, by decide +kernel⟩
abbrev s_law_is_clean : Stmt := topS 16
abbrev N_law_is_clean : List Str := ["text", "many", "pair", "sign"]
theorem st_law_is_clean (v0 : V) : L2.start N_law_is_clean [v0] = [some v0, none, none, none] := rfl
theorem sc_law_is_clean : FnScope N_law_is_clean ["text"] (defScope s_law_is_clean) := ⟨rfl, rfl, rfl, by decide +kernel, rfl, by decide +kernel, by decide +kernel⟩
abbrev s_law_right : Stmt := topS 17
abbrev N_law_right : List Str := ["text", "many", "begin", "end", "due", "found"]
theorem st_law_right (v0 : V) : L2.start N_law_right [v0] = [some v0, none, none, none, none, none] := rfl
theorem sc_law_right : FnScope N_law_right ["text"] (defScope s_law_right) := ⟨rfl, rfl, rfl, by decide +kernel, rfl, by decide +kernel, by decide +kernel⟩
abbrev s_law : Stmt := topS 18
abbrev N_law : List Str := ["script", "cell"]
theorem st_law (v0 : V) : L2.start N_law [v0] = [some v0, none] := rfl
theorem sc_law : FnScope N_law ["script"] (defScope s_law) := ⟨rfl, rfl, rfl, by decide +kernel, rfl, by decide +kernel, by decide +kernel⟩
structure Facts (K : PySem.W.Frag) (mg : Str → Option Value) : Prop where
  f_kind_of : DefAt K mg "kind_of" s_kind_of ["bracket"]
  f_other_side : DefAt K mg "other_side" s_other_side ["bracket"]
  f_partners : DefAt K mg "partners" s_partners ["text"]
  f_next_places : DefAt K mg "next_places" s_next_places ["text"]
  f_is_clean_stretch : DefAt K mg "is_clean_stretch" s_is_clean_stretch ["text", "begin", "end"]
  f_many_clean : DefAt K mg "many_clean" s_many_clean ["text"]
  f_law_stream : DefAt K mg "_law_stream" s_law_stream ["cell"]
  f_law_take : DefAt K mg "_law_take" s_law_take ["row", "many"]
  f_law_bracket : DefAt K mg "_law_bracket" s_law_bracket ["row", "kinds"]
  f_law_clean : DefAt K mg "_law_clean" s_law_clean ["row", "most", "kinds"]
  f_law_text : DefAt K mg "_law_text" s_law_text ["row", "most"]
  f_law_is_clean : DefAt K mg "_law_is_clean" s_law_is_clean ["text"]
  f_law_right : DefAt K mg "_law_right" s_law_right ["text"]
  c_OPENING : ∃ u, mg "OPENING" = some u ∧ RelV (Tx OPN) u
  c_CLOSING : ∃ u, mg "CLOSING" = some u ∧ RelV (Tx CLO) u
  b_len : mg "len" = none
  b_int : mg "int" = none
  b_range : mg "range" = none
  b_enumerate : mg "enumerate" = none
  b_isinstance : mg "isinstance" = none
  b_bool : mg "bool" = none
  b_sum : mg "sum" = none
end K37

set_option maxHeartbeats 4000000
namespace K37
open PySem PySem.Spec PyProof.Rows L2 SX Ly
local macro_rules | `(tactic| wtm_at "unf") => `(tactic| (try simp only [tSeq, tNext, tBreak, tCont, tDrop, tRet, tRetN, tIfS, tAsg, tAug, tC, tOp, tUn, tNil, tCons, tOwn, tCB, tTest, tB, tAnd, tOr, tNot, tAndV, tOrV, tNotV, tIf, gName, gSub, tBM, tBM0, tM0, tM1, tSl, tPart_eq, tNoPart, tLst_eq, tTup_eq, tRevL_eq, C8.tCut, wipe, tYes, gTup, gCons, gNil, List.set_cons_zero, List.set_cons_succ, if_true, if_false, Bool.false_eq_true, Bool.not_true, Bool.not_false, true_and, reduceIte, cx_K, tFor_eq, tLc_eq, iStr, iList, iTup, iRng1, iRng2, iRng3, iEnum, iZip, iEnumS, iZipS]))
local macro_rules | `(tactic| wtm_at "ne") => `(tactic| first | assumption | (apply Ne.symm; assumption) | (apply ne_new; (· assumption); (· wtm_at "lk")) | (apply Ne.symm; apply ne_new; (· assumption); (· wtm_at "lk")))
local macro_rules | `(tactic| wtm_at "lk") => `(tactic| first | assumption | exact upd_same | (apply Same.get; (· assumption); (· wtm_at "lk")) | (apply But.get; (· assumption); (· wtm_at "ne"); (· wtm_at "lk")))
local macro_rules | `(tactic| wtm_at "sq") => `(tactic| first | assumption | (apply sq_of; wtm_at "lk") | (apply Same.seq; (· assumption); (· wtm_at "sq")) | (apply But.sq; (· assumption); (· wtm_at "ne"); (· wtm_at "sq")))
local macro_rules | `(tactic| wtm_at "fr") => `(tactic| first | assumption | (apply Same.fr; (· assumption); (· wtm_at "sm")) | (apply But.fr; (· assumption); (· wtm_at "sm"); (· wtm_at "ne")))
local macro_rules | `(tactic| wtm_at "sm") => `(tactic| first | exact Same.refl _ | exact But.refl | assumption | (apply Same.tr; (· assumption); (· wtm_at "sm")) | (apply Same.b0; (· assumption); (· wtm_at "sm"); (· wtm_at "fr")) | (apply But.sa; (· assumption); (· wtm_at "sm")) | (apply But.tr; (· assumption); (· wtm_at "sm")) | (apply But.b0; (· assumption); (· wtm_at "sm"); (· wtm_at "fr")) | (apply Same.toBut; wtm_at "sm"))
local macro_rules | `(tactic| wtm_at "sc") => `(tactic| first | exact Int.zero_lt_one | (show (0 : Int) < _; omega) | (show (0 : Int) < _; decide) | exact ⟨by omega, by omega⟩ | exact .inl ⟨by omega, by omega⟩ | exact .inr ⟨by omega, by omega⟩)
local macro_rules | `(tactic| wtm_at "go1") => `(tactic| first | ((with_reducible apply g_var); (· exact rfl)) | with_reducible apply g_I0 | ((with_reducible apply g_I); (· wtm_at "sc")) | with_reducible apply g_U | with_reducible apply g_ipI | ((with_reducible apply g_addT); (· first | omega | (simp; done) | (simp; omega))) | with_reducible apply g_inT | with_reducible apply g_ninT | ((with_reducible apply g_lenT); (· omega)) | with_reducible apply g_findT1 | with_reducible apply g_str | with_reducible apply g_part | with_reducible apply g_intB | ((with_reducible apply g_ixL); (· wtm_at "sq"); (· exact rfl)) | ((with_reducible apply g_setL); (· wtm_at "lk"); (· exact rfl)) | ((with_reducible apply g_eq); (· rfl)) | ((with_reducible apply g_ne); (· rfl)))
local macro_rules | `(tactic| wtm_at "go") => `(tactic| repeat wtm_at "go1")
local macro_rules | `(tactic| wtm_at "lp") => `(tactic| skip)
local macro_rules | `(tactic| wtm_at "om") => `(tactic| first | omega | (simp; done) | (simp; omega) | (simp at *; omega))

section
variable {P : Program} {w : World} {K : PySem.W.Frag} {mg : Str → Option Value} {base : Heap}
/-- a row: three ints -/
structure Rw where
  a : Int
  b : Int
  c : Int
  h0 : 0 ≤ b
  h1 : b < 536870909
def Rw.o (P : Rw) : HO := .lst [.int P.a, .int P.b, .int P.c]
/-! _law_stream -/
def sp_law_stream : Sp := fun vs H Q _ => ∃ c : Int, vs = [.int c] ∧ ∀ (p : Addr) (P1 : Rw) (H' : Hp), H p = none → Same H H' → H' p = some P1.o → Q (.ref p) H'
theorem ok_law_stream (T : Facts K mg) : C8.Cal P w K mg base 1 "_law_stream" sp_law_stream [] := by
  refine calD T.f_law_stream sc_law_stream (fun vs H Q E h => ?_) (fun f cdv A outer s H vs Q E hr h => ?_)
  · obtain ⟨c, rfl, q⟩ := h; rfl
  · obtain ⟨c, rfl, q⟩ := h
    refine ⟨_, (pss_cons (ps_set (i := 1) sc_law_stream.nd rfl (Or.inl rfl) (pe_op op_mod (pv 0) pe_int))
       (pss_cons (ps_set (i := 1) sc_law_stream.nd rfl (Or.inl rfl) (pe_op op_mod (pe_op op_add (pe_op op_mul (pe_op op_mod (pe_op op_mul (pv 1) (pv 1)) pe_int) (pe_op op_add (pv 1) pe_int)) pe_int) pe_int))
       (pss_one (ps_ret (pe_lst (pa_cons (pv 0) (pa_cons (pv 1) (pa_cons (pe_callTy call_intB rfl T.b_int (by decide +kernel) (pa_cons (pe_cmpR op_ge (pv 0) (pe_op op_pow pe_int pe_int) (nomark _)) pa_nil)) pa_nil)))))))), ?_⟩
    rw [st_law_stream]
    wtm_at "unf"
    wtm_at "go"
    refine g_lst (by show 3 ≤ 100000; decide) fun p H1 np s1 e1 => ?_
    exact q p ⟨_, _, _, Int.emod_nonneg _ (by decide), Int.emod_lt_of_pos _ (by decide)⟩ H1 np s1 e1
/-! _law_take -/
def sp_law_take : Sp := fun vs H Q _ => ∃ (p : Addr) (P0 : Rw) (m : Int), vs = [.ref p, .int m] ∧ H p = some P0.o ∧ 0 < m ∧ m < 1000000 ∧ ∀ (r : Int) (P1 : Rw) (H' : Hp), 0 ≤ r → r < m → But p H H' → H' p = some P1.o → Q (.int r) H'
theorem ok_law_take (T : Facts K mg) : C8.Cal P w K mg base 1 "_law_take" sp_law_take [] := by
  refine calD T.f_law_take sc_law_take (fun vs H Q E h => ?_) (fun f cdv A outer s H vs Q E hr h => ?_)
  · obtain ⟨p, P0, m, rfl, hp, h0, h1, q⟩ := h; rfl
  · obtain ⟨p, P0, m, rfl, hp, h0, h1, q⟩ := h
    refine ⟨_, (pss_cons (ps_if (pt_cmpR op_eq (pe_ix ix_list (pv 0) pe_int (fun _ _ => rfl)) pe_int (nomark _))
       (pss_cons (ps_set (i := 2) sc_law_take.nd rfl (Or.inl rfl) (pe_op op_mod (pe_ix ix_list (pv 0) pe_int (fun _ _ => rfl)) (pv 1)))
       (pss_cons (ps_asg (pe_op op_fdiv (pe_ix ix_list (pv 0) pe_int (fun _ _ => rfl)) (pv 1)) (pg_sub (pv 0) pe_int set_list))
       (pss_one (ps_ret (pv 2)))))
       pss_nil)
       (pss_cons (ps_asg (pe_op op_mod (pe_op op_mul (pe_op op_add (pe_ix ix_list (pv 0) pe_int (fun _ _ => rfl)) pe_int) (pe_op op_add (pe_ix ix_list (pv 0) pe_int (fun _ _ => rfl)) pe_int)) pe_int) (pg_sub (pv 0) pe_int set_list))
       (pss_one (ps_ret (pe_op op_mod (pe_op op_fdiv (pe_op op_add (pe_op op_mul (pe_ix ix_list (pv 0) pe_int (fun _ _ => rfl)) pe_int) pe_int) pe_int) (pv 1)))))), ?_⟩
    rw [st_law_take]
    have hp' : H p = some (.lst [.int P0.a, .int P0.b, .int P0.c]) := hp
    wtm_at "unf"
    wtm_at "go"
    refine g_testB (fun h => ?_) (fun h => ?_)
    · wtm_at "go"
      intro H2 b2 e2
      wtm_at "go"
      exact q (P0.a % m) ⟨P0.a / m, P0.b, P0.c, P0.h0, P0.h1⟩ H2 (Int.emod_nonneg _ (by omega)) (Int.emod_lt_of_pos _ h0) (by wtm_at "sm") e2
    · have i0 := P0.h0
      have i1 := P0.h1
      wtm_at "go"
      generalize hx : (P0.b + 7919) * (P0.b + 104729) % 536870909 = x
      have x0 : 0 ≤ x := by rw [← hx]; exact Int.emod_nonneg _ (by decide)
      have x1 : x < 536870909 := by rw [← hx]; exact Int.emod_lt_of_pos _ (by decide)
      intro H2 b2 e2
      wtm_at "go"
      exact q _ ⟨P0.a, x, P0.c, x0, x1⟩ H2 (Int.emod_nonneg _ (by omega)) (Int.emod_lt_of_pos _ h0) (by wtm_at "sm") e2
end
end K37

set_option maxHeartbeats 4000000
namespace K37
open PySem PySem.Spec PyProof.Rows L2 SX Ly
local macro_rules | `(tactic| wtm_at "unf") => `(tactic| (try simp only [tSeq, tNext, tBreak, tCont, tDrop, tRet, tRetN, tIfS, tAsg, tAug, tC, tOp, tUn, tNil, tCons, tOwn, tCB, tTest, tB, tAnd, tOr, tNot, tAndV, tOrV, tNotV, tIf, gName, gSub, tBM, tBM0, tM0, tM1, tSl, tPart_eq, tNoPart, tLst_eq, tTup_eq, tRevL_eq, C8.tCut, wipe, tYes, gTup, gCons, gNil, List.set_cons_zero, List.set_cons_succ, if_true, if_false, Bool.false_eq_true, Bool.not_true, Bool.not_false, true_and, reduceIte, cx_K, tFor_eq, tLc_eq, iStr, iList, iTup, iRng1, iRng2, iRng3, iEnum, iZip, iEnumS, iZipS]))
local macro_rules | `(tactic| wtm_at "ne") => `(tactic| first | assumption | (apply Ne.symm; assumption) | (apply ne_new; (· assumption); (· wtm_at "lk")) | (apply Ne.symm; apply ne_new; (· assumption); (· wtm_at "lk")))
local macro_rules | `(tactic| wtm_at "lk") => `(tactic| first | assumption | exact upd_same | (apply Same.get; (· assumption); (· wtm_at "lk")) | (apply But.get; (· assumption); (· wtm_at "ne"); (· wtm_at "lk")))
local macro_rules | `(tactic| wtm_at "sq") => `(tactic| first | assumption | (apply sq_of; wtm_at "lk") | (apply Same.seq; (· assumption); (· wtm_at "sq")) | (apply But.sq; (· assumption); (· wtm_at "ne"); (· wtm_at "sq")))
local macro_rules | `(tactic| wtm_at "fr") => `(tactic| first | assumption | (apply Same.fr; (· assumption); (· wtm_at "sm")) | (apply But.fr; (· assumption); (· wtm_at "sm"); (· wtm_at "ne")))
local macro_rules | `(tactic| wtm_at "sm") => `(tactic| first | exact Same.refl _ | exact But.refl | assumption | (apply Same.tr; (· assumption); (· wtm_at "sm")) | (apply Same.b0; (· assumption); (· wtm_at "sm"); (· wtm_at "fr")) | (apply But.sa; (· assumption); (· wtm_at "sm")) | (apply But.tr; (· assumption); (· wtm_at "sm")) | (apply But.b0; (· assumption); (· wtm_at "sm"); (· wtm_at "fr")) | (apply Same.toBut; wtm_at "sm"))
local macro_rules | `(tactic| wtm_at "sc") => `(tactic| first | exact Int.zero_lt_one | (show (0 : Int) < _; omega) | (show (0 : Int) < _; decide) | exact ⟨by omega, by omega⟩ | exact .inl ⟨by omega, by omega⟩ | exact .inr ⟨by omega, by omega⟩)
local macro_rules | `(tactic| wtm_at "go1") => `(tactic| first | ((with_reducible apply g_var); (· exact rfl)) | with_reducible apply g_I0 | ((with_reducible apply g_I); (· wtm_at "sc")) | with_reducible apply g_U | with_reducible apply g_ipI | ((with_reducible apply g_addT); (· first | omega | (simp; done) | (simp; omega))) | with_reducible apply g_inT | with_reducible apply g_ninT | ((with_reducible apply g_lenT); (· omega)) | with_reducible apply g_findT1 | with_reducible apply g_str | with_reducible apply g_part | with_reducible apply g_intB | ((with_reducible apply g_ixL); (· wtm_at "sq"); (· exact rfl)) | ((with_reducible apply g_setL); (· wtm_at "lk"); (· exact rfl)) | ((with_reducible apply g_eq); (· rfl)) | ((with_reducible apply g_ne); (· rfl)))
local macro_rules | `(tactic| wtm_at "go") => `(tactic| repeat wtm_at "go1")
local macro_rules | `(tactic| wtm_at "lp") => `(tactic| skip)
local macro_rules | `(tactic| wtm_at "om") => `(tactic| first | omega | (simp; done) | (simp; omega) | (simp at *; omega))

section
variable {P : Program} {w : World} {K : PySem.W.Frag} {mg : Str → Option Value} {base : Heap}
/-! kind_of -/
def sp_kind_of : Sp := fun vs H Q _ => ∃ c : Nat, vs = [Tx [c]] ∧ c ∈ BRK ∧ Q (.int (knd c)) H
theorem ok_kind_of (T : Facts K mg) : C8.Cal P w K mg base 1 "kind_of" sp_kind_of [] := by
  refine calD T.f_kind_of sc_kind_of (fun vs H Q E h => ?_) (fun f cdv A outer s H vs Q E hr h => ?_)
  · obtain ⟨c, rfl, hc, q⟩ := h; rfl
  · obtain ⟨c, rfl, hc, q⟩ := h
    refine ⟨_, (pss_cons (ps_if (pt_cmpR op_inT (pv 0) (C8.pe_gc rfl T.c_OPENING) (by rfl))
       (pss_one (ps_ret (pe_m1 PySem.F.slot_str_index PySem.F.type_str_index mt_idxT (C8.pe_gc rfl T.c_OPENING) (pv 0))))
       pss_nil)
       (pss_one (ps_ret (pe_m1 PySem.F.slot_str_index PySem.F.type_str_index mt_idxT (C8.pe_gc rfl T.c_CLOSING) (pv 0))))), ?_⟩
    rw [st_kind_of]
    wtm_at "unf"
    wtm_at "go"
    refine g_test (fun h => ?_) (fun h => ?_)
    · wtm_at "go"
      exact g_idxT1 (find_opn c h) q
    · wtm_at "go"
      exact g_idxT1 (find_clo c ((brk_or.mp hc).resolve_left h)) q
/-! other_side -/
def sp_other_side : Sp := fun vs H Q _ => ∃ c : Nat, vs = [Tx [c]] ∧ c ∈ BRK ∧ Q (Tx [oth c]) H
theorem ok_other_side (T : Facts K mg) : C8.Cal P w K mg base 2 "other_side" sp_other_side [] := by
  refine calD T.f_other_side sc_other_side (fun vs H Q E h => ?_) (fun f cdv A outer s H vs Q E hr h => ?_)
  · obtain ⟨c, rfl, hc, q⟩ := h; rfl
  · obtain ⟨c, rfl, hc, q⟩ := h
    refine ⟨_, (pss_cons (ps_if (pt_cmpR op_inT (pv 0) (C8.pe_gc rfl T.c_OPENING) (by rfl))
       (pss_one (ps_ret (pe_ix ix_txt (C8.pe_gc rfl T.c_CLOSING) (pe_own (ok_kind_of T) hr (by decide) rfl (pa_cons (pv 0) pa_nil)) (fun _ _ => rfl))))
       pss_nil)
       (pss_one (ps_ret (pe_ix ix_txt (C8.pe_gc rfl T.c_OPENING) (pe_own (ok_kind_of T) hr (by decide) rfl (pa_cons (pv 0) pa_nil)) (fun _ _ => rfl))))), ?_⟩
    rw [st_other_side]
    wtm_at "unf"
    wtm_at "go"
    refine g_test (fun h => ?_) (fun h => ?_)
    · wtm_at "go"
      refine ⟨c, rfl, hc, ?_⟩
      exact g_ixT (by decide) (atI_of (at_clo c h)) q
    · wtm_at "go"
      refine ⟨c, rfl, hc, ?_⟩
      exact g_ixT (by decide) (atI_of (at_opn c ((brk_or.mp hc).resolve_left h))) q
/-- a text's signs from behind, each bracket the other one of its kind -/
def oth1 (c : Nat) : Nat := if c ∈ BRK then oth c else c
def about (l : List Nat) : List Nat := (l.map oth1).reverse
theorem about_snoc (l : List Nat) (c : Nat) : about (l ++ [c]) = oth1 c :: about l := by
  unfold about
  rw [List.map_append, List.reverse_append]
  rfl
theorem about_len (l : List Nat) : (about l).length = l.length := by
  unfold about
  rw [List.length_reverse, List.length_map]
/-- a text with its brackets' kinds changed by an order -/
def bykind (o : List Nat) (c : Nat) : Nat := if c ∈ OPN then o.getD (knd c) 0 else if c ∈ CLO then oth (o.getD (knd c) 0) else c
def isOrd (o : List Nat) : Prop := o.length = 4 ∧ ∀ c ∈ o, c ∈ OPN
theorem ord_at {o : List Nat} (h : isOrd o) {k : Nat} (hk : k < 4) : o[k]? = some (o.getD k 0) ∧ o.getD k 0 ∈ OPN := by
  have hl : k < o.length := by rw [h.1]; exact hk
  have e : o[k]? = some o[k] := List.getElem?_eq_getElem hl
  have e2 : o.getD k 0 = o[k] := by rw [List.getD_eq_getElem?_getD, e]; rfl
  rw [e2]
  exact ⟨e, h.2 _ (List.getElem_mem hl)⟩
end
end K37

set_option maxHeartbeats 4000000
namespace K37
open PySem PySem.Spec PyProof.Rows L2 SX Ly
local macro_rules | `(tactic| wtm_at "unf") => `(tactic| (try simp only [tSeq, tNext, tBreak, tCont, tDrop, tRet, tRetN, tIfS, tAsg, tAug, tC, tOp, tUn, tNil, tCons, tOwn, tCB, tTest, tB, tAnd, tOr, tNot, tAndV, tOrV, tNotV, tIf, gName, gSub, tBM, tBM0, tM0, tM1, tSl, tPart_eq, tNoPart, tLst_eq, tTup_eq, tRevL_eq, C8.tCut, wipe, tYes, gTup, gCons, gNil, List.set_cons_zero, List.set_cons_succ, if_true, if_false, Bool.false_eq_true, Bool.not_true, Bool.not_false, true_and, reduceIte, cx_K, tFor_eq, tLc_eq, iStr, iList, iTup, iRng1, iRng2, iRng3, iEnum, iZip, iEnumS, iZipS]))
local macro_rules | `(tactic| wtm_at "ne") => `(tactic| first | assumption | (apply Ne.symm; assumption) | (apply ne_new; (· assumption); (· wtm_at "lk")) | (apply Ne.symm; apply ne_new; (· assumption); (· wtm_at "lk")))
local macro_rules | `(tactic| wtm_at "lk") => `(tactic| first | assumption | exact upd_same | (apply Same.get; (· assumption); (· wtm_at "lk")) | (apply But.get; (· assumption); (· wtm_at "ne"); (· wtm_at "lk")))
local macro_rules | `(tactic| wtm_at "sq") => `(tactic| first | assumption | (apply sq_of; wtm_at "lk") | (apply Same.seq; (· assumption); (· wtm_at "sq")) | (apply But.sq; (· assumption); (· wtm_at "ne"); (· wtm_at "sq")))
local macro_rules | `(tactic| wtm_at "fr") => `(tactic| first | assumption | (apply Same.fr; (· assumption); (· wtm_at "sm")) | (apply But.fr; (· assumption); (· wtm_at "sm"); (· wtm_at "ne")))
local macro_rules | `(tactic| wtm_at "sm") => `(tactic| first | exact Same.refl _ | exact But.refl | assumption | (apply Same.tr; (· assumption); (· wtm_at "sm")) | (apply Same.b0; (· assumption); (· wtm_at "sm"); (· wtm_at "fr")) | (apply But.sa; (· assumption); (· wtm_at "sm")) | (apply But.tr; (· assumption); (· wtm_at "sm")) | (apply But.b0; (· assumption); (· wtm_at "sm"); (· wtm_at "fr")) | (apply Same.toBut; wtm_at "sm"))
local macro_rules | `(tactic| wtm_at "sc") => `(tactic| first | exact Int.zero_lt_one | (show (0 : Int) < _; omega) | (show (0 : Int) < _; decide) | exact ⟨by omega, by omega⟩ | exact .inl ⟨by omega, by omega⟩ | exact .inr ⟨by omega, by omega⟩)
local macro_rules | `(tactic| wtm_at "go1") => `(tactic| first | ((with_reducible apply g_var); (· exact rfl)) | with_reducible apply g_I0 | ((with_reducible apply g_I); (· wtm_at "sc")) | with_reducible apply g_U | with_reducible apply g_ipI | ((with_reducible apply g_addT); (· first | omega | (simp; done) | (simp; omega))) | with_reducible apply g_inT | with_reducible apply g_ninT | ((with_reducible apply g_lenT); (· omega)) | with_reducible apply g_findT1 | with_reducible apply g_str | with_reducible apply g_part | with_reducible apply g_intB | ((with_reducible apply g_ixL); (· wtm_at "sq"); (· exact rfl)) | ((with_reducible apply g_setL); (· wtm_at "lk"); (· exact rfl)) | ((with_reducible apply g_eq); (· rfl)) | ((with_reducible apply g_ne); (· rfl)))
local macro_rules | `(tactic| wtm_at "go") => `(tactic| repeat wtm_at "go1")
local macro_rules | `(tactic| wtm_at "lp") => `(tactic| skip)
local macro_rules | `(tactic| wtm_at "om") => `(tactic| first | omega | (simp; done) | (simp; omega) | (simp at *; omega))

section
variable {P : Program} {w : World} {K : PySem.W.Frag} {mg : Str → Option Value} {base : Heap}
def optV : Option Nat → V
  | none => .non
  | some n => .int n
def mtV (f : List (Option Nat)) : List V := f.map optV
def wsV (ws : List Nat) : List V := ws.reverse.map fun (n : Nat) => V.int (n : Int)
theorem wsV_cons (j : Nat) (w : List Nat) : wsV (j :: w) = wsV w ++ [V.int j] := by
  unfold wsV
  rw [List.reverse_cons, List.map_append]
  rfl
theorem wsV_len (w : List Nat) : (wsV w).length = w.length := by
  unfold wsV
  rw [List.length_map, List.length_reverse]
theorem mtV_len (f : List (Option Nat)) : (mtV f).length = f.length := by
  unfold mtV
  rw [List.length_map]
theorem flat_wsV (w : List Nat) : ∀ v ∈ wsV w, Flat v := by
  intro v hv
  obtain ⟨n, _, rfl⟩ := List.mem_map.mp hv
  exact flat_int _
theorem ws_lt {l pre post : List Nat} {c : Nat} (e : l = pre ++ c :: post) : PInv l pre.length (pst l pre).1 (pst l pre).2 := by
  have h := pinv_all l pre.length (by rw [e]; simp)
  have e2 : l.take pre.length = pre := by rw [e]; simp
  rw [e2] at h
  exact h
theorem pstep_len (l : List Nat) (s : List (Option Nat) × List Nat) (i c : Nat) : (pstep l s i c).2.length ≤ s.2.length + 1 := by
  obtain ⟨f, ws⟩ := s
  unfold pstep
  split
  · simp
  · split
    · cases ws with
      | nil => simp
      | cons j w =>
        show (if l[j]? = some (oth c) then _ else _ : List (Option Nat) × List Nat).2.length ≤ _
        split
        · simp; omega
        · simp
    · simp
theorem mtV_set (f : List (Option Nat)) (i j : Nat) : mtV (f.set i (some j)) = (mtV f).set i (V.int j) := by
  unfold mtV
  rw [List.map_set]
  rfl
def topM (l ws : List Nat) (c : Nat) : Bool := match ws with
  | [] => false
  | j :: _ => decide (l[j]? = some (oth c))
theorem atI_last1 {α : Type} (xs : List α) (x : α) : atI (xs ++ [x]) (-1) = some x := L2.atI_last xs x
/-! partners -/
def sp_partners : Sp := fun vs H Q _ => ∃ l : List Nat, vs = [Tx l] ∧ l.length ≤ 1000 ∧ ∀ (p : Addr) (H' : Hp), H p = none → Same H H' → H' p = some (.lst (mtV (mates l))) → Q (.ref p) H'
theorem ok_partners (T : Facts K mg) : C8.Cal P w K mg base 3 "partners" sp_partners [] := by
  refine calD T.f_partners sc_partners (fun vs H Q E h => ?_) (fun f cdv A outer s H vs Q E hr h => ?_)
  · obtain ⟨l, rfl, hl, q⟩ := h; rfl
  · obtain ⟨l, rfl, hl, q⟩ := h
    refine ⟨_, (pss_cons (ps_set (i := 1) sc_partners.nd rfl (Or.inl rfl) (pe_op op_rep (pe_lst (pa_cons pe_non pa_nil)) (pe_callB call_lenT rfl T.b_len PySem.boot_len (pa_cons (pv 0) pa_nil))))
       (pss_cons (ps_set (i := 2) sc_partners.nd rfl (Or.inl rfl) (pe_lst pa_nil))
       (pss_cons (ps_for PassesOwn.never rfl (pi_enumS rfl T.b_enumerate (pa_cons (pv 0) pa_nil)) (pg_tup rfl (pgs_cons (pg_name (i := 3) sc_partners.nd rfl (Or.inl rfl)) (pgs_cons (pg_name (i := 4) sc_partners.nd rfl (Or.inl rfl)) pgs_nil)))
       (pss_one (ps_if (pt_cmpR op_inT (pv 4) (C8.pe_gc rfl T.c_OPENING) (by rfl))
       (pss_one (ps_expr (pe_bm PySem.F.plainAttrs_list PySem.F.slot_list_append PySem.F.type_list_append mt_append (pv 2) (pa_cons (pv 3) pa_nil))))
       (pss_one (ps_if (pt_cmpR op_inT (pv 4) (C8.pe_gc rfl T.c_CLOSING) (by rfl))
       (pss_one (ps_ifC (PW.pt (pw_and (pt_cmpR (op_neD hr.units) (pv 2) (pe_lst pa_nil) (nomark _)) (pw_and1 (pt_cmpR op_eq (pe_ix ix_txt (pv 0) (pe_ix ix_list (pv 2) (pe_un un_neg pe_int) (fun _ _ => rfl)) (fun _ _ => rfl)) (pe_own (ok_other_side T) hr (by decide) rfl (pa_cons (pv 4) pa_nil)) (nomark _)))))
       (pss_cons (ps_asg (pe_bm0 PySem.F.plainAttrs_list PySem.F.slot_list_pop PySem.F.type_list_pop mt_pop (pv 2)) (pg_sub (pv 1) (pv 3) set_list))
       (pss_one (ps_asg (pv 3) (pg_sub (pv 1) (pe_ix ix_list (pv 1) (pv 3) (fun _ _ => rfl)) set_list))))
       (pss_one (ps_set (i := 2) sc_partners.nd rfl (Or.inl rfl) (pe_lst pa_nil)))))
       pss_nil)))))
       (pss_one (ps_ret (pv 1)))))), ?_⟩
    rw [st_partners]
    wtm_at "unf"
    wtm_at "go"
    refine g_lst (by show 1 ≤ 100000; decide) fun c0 H0 n0 s0 e0 => ?_
    wtm_at "go"
    refine g_rep e0 (by simp; omega) (by omega) fun fa H1 nfa s1 efa => ?_
    wtm_at "go"
    refine g_lst (by show 0 ≤ 100000; decide) fun wa H2 nwa s2 ewa => ?_
    have efa' : H1 fa = some (.lst (mtV (List.replicate l.length none))) := by
      rw [efa]
      unfold mtV
      congr 2
      have : ∀ n, (List.replicate n [V.non]).flatten = (List.replicate n none).map optV := by
        intro n
        induction n with
        | zero => rfl
        | succ n ih => rw [List.replicate_succ, List.flatten_cons, ih, List.replicate_succ]; rfl
      exact this _
    have hfw : fa ≠ wa := by wtm_at "ne"
    have nf0 : H fa = none := by wtm_at "fr"
    have nw0 : H wa = none := by wtm_at "fr"
    wtm_at "go"
    refine ⟨_, rfl, for_enumS (fun pre σ H' => ∃ (wa : Addr) (y z : Option V), σ = [some (Tx l), some (V.ref fa), some (V.ref wa), y, z] ∧ H wa = none ∧ fa ≠ wa ∧ H' fa = some (.lst (mtV (pst l pre).1)) ∧ H' wa = some (.lst (wsV (pst l pre).2)) ∧ Same H H' ∧ (pst l pre).2.length ≤ pre.length)
      ⟨wa, _, _, rfl, nw0, hfw, by wtm_at "lk", ewa, by wtm_at "sm", Nat.le_refl _⟩ (fun pre c post σ H' t H'' e hv nt st et => ?_) (fun σ H' hv => ?_)⟩
    · obtain ⟨wa, y, z, rfl, nw, hne, ef, ew, sH, hwl⟩ := hv
      have I := ws_lt e
      have hsl := pstep_len l (pst l pre) pre.length c
      have hpl : pre.length < l.length := by rw [e]; simp
      have hfl : (pst l pre).1.length = l.length := I.len
      have nt0 : H t = none := by wtm_at "fr"
      have ef2 : H'' fa = some (.lst (mtV (pst l pre).1)) := by wtm_at "lk"
      have ew2 : H'' wa = some (.lst (wsV (pst l pre).2)) := by wtm_at "lk"
      have sH2 : Same H H'' := by wtm_at "sm"
      wtm_at "unf"
      refine ⟨t, _, rfl, st_of et, rfl, _, _, rfl, _, _, rfl, rfl, ?_⟩
      wtm_at "go"
      rw [pst_snoc]
      refine g_test (fun h => ?_) (fun h => ?_)
      · wtm_at "go"
        refine ⟨g_tyL (sq_of ew2), ?_⟩
        wtm_at "go"
        refine g_append1 ew2 (by rw [wsV_len]; omega) fun H3 b3 e3 => ?_
        have es : pstep l (pst l pre) pre.length c = ((pst l pre).1, pre.length :: (pst l pre).2) := by unfold pstep; simp only [h, if_true]
        rw [es]
        exact ⟨wa, _, _, rfl, nw, hne, by wtm_at "lk", by rw [wsV_cons]; exact e3, by wtm_at "sm", by simp; omega⟩
      · wtm_at "go"
        refine g_test (fun h2 => ?_) (fun h2 => ?_)
        · have hb : c ∈ BRK := brk_or.mpr (.inr h2)
          have hws : ∃ ws, (pst l pre).2 = ws := ⟨_, rfl⟩
          obtain ⟨ws, ews⟩ := hws
          obtain ⟨f0, ef0⟩ : ∃ f0, (pst l pre).1 = f0 := ⟨_, rfl⟩
          have epst : pst l pre = (f0, ws) := by rw [← ews, ← ef0]
          rw [epst] at ef2 ew2 hsl hfl ⊢
          rw [ews] at hwl
          rw [epst] at I
          have hfl' : f0.length = l.length := hfl
          refine g_ifH (b := topM l ws c) (G := fun H3 => Same H'' H3) (fun Q q => ?_) (fun H3 s3 hb3 => ?_) (fun H3 s3 hb3 => ?_)
          · wtm_at "unf"
            wtm_at "go"
            refine g_lst (by show 0 ≤ 100000; decide) fun em H3 nem s3 eem => ?_
            refine g_neNil (sq_of (Same.get s3 ew2)) (flat_wsV _) (sq_of eem) ?_
            refine g_testB (fun h4 => ?_) (fun h4 => ?_)
            · cases ws with
              | nil => simp [wsV] at h4
              | cons j w =>
                obtain ⟨hjn, cj, hcj, hcjo⟩ := I.opn j (List.mem_cons_self ..)
                rw [wsV_cons] at ew2
                wtm_at "go"
                refine g_ixL (sq_of (Same.get s3 ew2)) (atI_last1 _ _) ?_
                refine g_ixT (by omega) (atI_of hcj) ?_
                wtm_at "go"
                refine ⟨c, rfl, hb, ?_⟩
                wtm_at "go"
                refine ⟨_, rfl, ?_⟩
                have hh : decide (Tx [cj] = Tx [oth c]) = topM l (j :: w) c := by
                  show _ = decide (l[j]? = some (oth c))
                  rw [decide_eq_decide, Tx_inj, hcj]
                  simp
                rw [hh]
                exact q H3 s3
            · cases ws with
              | cons j w => simp [wsV] at h4
              | nil =>
                exact q H3 s3
          · obtain ⟨j, w, rfl, hj⟩ : ∃ j w, ws = j :: w ∧ l[j]? = some (oth c) := by
              cases ws with
              | nil => cases hb3
              | cons j w => exact ⟨j, w, rfl, of_decide_eq_true hb3⟩
            have es : pstep l (f0, j :: w) pre.length c = ((f0.set pre.length (some j)).set j (some pre.length), w) := by unfold pstep; simp only [h, h2, hj, if_true, if_false]
            rw [es]
            have hjn : j < pre.length := (I.opn j (List.mem_cons_self ..)).1
            rw [wsV_cons] at ew2
            wtm_at "unf"
            wtm_at "go"
            refine g_pop (Same.get s3 ew2) fun H4 b4 e4 => ?_
            have ef4 : H4 fa = some (.lst (mtV f0)) := by wtm_at "lk"
            wtm_at "go"
            refine g_setL (n := pre.length) ef4 (by rw [mtV_len]; exact ixN_nat (by omega)) fun H5 b5 e5 => ?_
            have e5' : H5 fa = some (.lst (mtV (f0.set pre.length (some j)))) := by
              rw [e5, mtV_set]
            have hget : (mtV (f0.set pre.length (some j)))[pre.length]? = some (V.int j) := by
              unfold mtV
              rw [List.getElem?_map, List.getElem?_set_self (by omega)]
              rfl
            wtm_at "go"
            refine g_ixL (sq_of e5') (atI_of hget) ?_
            refine g_setL (n := j) e5' (by rw [mtV_len, List.length_set]; exact ixN_nat (by omega)) fun H6 b6 e6 => ?_
            have e6' : H6 fa = some (.lst (mtV ((f0.set pre.length (some j)).set j (some pre.length)))) := by
              rw [e6, mtV_set (f0.set pre.length (some j))]
            simp only [List.length_cons] at hwl
            exact ⟨wa, _, _, rfl, nw, hne, e6', by wtm_at "lk", by wtm_at "sm", by simp; omega⟩
          · have es : pstep l (f0, ws) pre.length c = (f0, []) := by
              unfold pstep
              simp only [h, h2, if_true, if_false]
              cases ws with
              | nil => rfl
              | cons j w =>
                have : ¬ l[j]? = some (oth c) := of_decide_eq_false hb3
                simp only [this, if_false]
            rw [es]
            wtm_at "unf"
            refine g_lst (by show 0 ≤ 100000; decide) fun em H4 nem s4 eem => ?_
            have hfe : fa ≠ em := by wtm_at "ne"
            exact ⟨em, _, _, rfl, by wtm_at "fr", hfe, by wtm_at "lk", eem, by wtm_at "sm", by simp⟩
        · have es : pstep l (pst l pre) pre.length c = pst l pre := by unfold pstep; simp only [h, h2, if_false]
          rw [es]
          exact ⟨wa, _, _, rfl, nw, hne, ef2, ew2, sH2, by simp; omega⟩
    · obtain ⟨wa, y, z, rfl, nw, hne, ef, ew, sH, hwl⟩ := hv
      wtm_at "unf"
      wtm_at "go"
      exact q fa H' nf0 sH ef
theorem mid_mate {l : List Nat} {i c : Nat} (h : l[i]? = some c) : ∃ m, (mates l)[i]? = some m := ⟨_, List.getElem?_eq_getElem (by rw [mates_len]; exact (List.getElem?_eq_some_iff.mp h).1)⟩
end
end K37

set_option maxHeartbeats 4000000
namespace K37
open PySem PySem.Spec PyProof.Rows L2 SX Ly
local macro_rules | `(tactic| wtm_at "unf") => `(tactic| (try simp only [tSeq, tNext, tBreak, tCont, tDrop, tRet, tRetN, tIfS, tAsg, tAug, tC, tOp, tUn, tNil, tCons, tOwn, tCB, tTest, tB, tAnd, tOr, tNot, tAndV, tOrV, tNotV, tIf, gName, gSub, tBM, tBM0, tM0, tM1, tSl, tPart_eq, tNoPart, tLst_eq, tTup_eq, tRevL_eq, C8.tCut, wipe, tYes, gTup, gCons, gNil, List.set_cons_zero, List.set_cons_succ, if_true, if_false, Bool.false_eq_true, Bool.not_true, Bool.not_false, true_and, reduceIte, cx_K, tFor_eq, tLc_eq, iStr, iList, iTup, iRng1, iRng2, iRng3, iEnum, iZip, iEnumS, iZipS]))
local macro_rules | `(tactic| wtm_at "ne") => `(tactic| first | assumption | (apply Ne.symm; assumption) | (apply ne_new; (· assumption); (· wtm_at "lk")) | (apply Ne.symm; apply ne_new; (· assumption); (· wtm_at "lk")))
local macro_rules | `(tactic| wtm_at "lk") => `(tactic| first | assumption | exact upd_same | (apply Same.get; (· assumption); (· wtm_at "lk")) | (apply But.get; (· assumption); (· wtm_at "ne"); (· wtm_at "lk")))
local macro_rules | `(tactic| wtm_at "sq") => `(tactic| first | assumption | (apply sq_of; wtm_at "lk") | (apply Same.seq; (· assumption); (· wtm_at "sq")) | (apply But.sq; (· assumption); (· wtm_at "ne"); (· wtm_at "sq")))
local macro_rules | `(tactic| wtm_at "fr") => `(tactic| first | assumption | (apply Same.fr; (· assumption); (· wtm_at "sm")) | (apply But.fr; (· assumption); (· wtm_at "sm"); (· wtm_at "ne")))
local macro_rules | `(tactic| wtm_at "sm") => `(tactic| first | exact Same.refl _ | exact But.refl | assumption | (apply Same.tr; (· assumption); (· wtm_at "sm")) | (apply Same.b0; (· assumption); (· wtm_at "sm"); (· wtm_at "fr")) | (apply But.sa; (· assumption); (· wtm_at "sm")) | (apply But.tr; (· assumption); (· wtm_at "sm")) | (apply But.b0; (· assumption); (· wtm_at "sm"); (· wtm_at "fr")) | (apply Same.toBut; wtm_at "sm"))
local macro_rules | `(tactic| wtm_at "sc") => `(tactic| first | exact Int.zero_lt_one | (show (0 : Int) < _; omega) | (show (0 : Int) < _; decide) | exact ⟨by omega, by omega⟩ | exact .inl ⟨by omega, by omega⟩ | exact .inr ⟨by omega, by omega⟩)
local macro_rules | `(tactic| wtm_at "go1") => `(tactic| first | ((with_reducible apply g_var); (· exact rfl)) | with_reducible apply g_I0 | ((with_reducible apply g_I); (· wtm_at "sc")) | with_reducible apply g_U | with_reducible apply g_ipI | ((with_reducible apply g_addT); (· first | omega | (simp; done) | (simp; omega))) | with_reducible apply g_inT | with_reducible apply g_ninT | ((with_reducible apply g_lenT); (· omega)) | with_reducible apply g_findT1 | with_reducible apply g_str | with_reducible apply g_part | with_reducible apply g_intB | ((with_reducible apply g_ixL); (· wtm_at "sq"); (· exact rfl)) | ((with_reducible apply g_setL); (· wtm_at "lk"); (· exact rfl)) | ((with_reducible apply g_eq); (· rfl)) | ((with_reducible apply g_ne); (· rfl)))
local macro_rules | `(tactic| wtm_at "go") => `(tactic| repeat wtm_at "go1")
local macro_rules | `(tactic| wtm_at "lp") => `(tactic| skip)
local macro_rules | `(tactic| wtm_at "om") => `(tactic| first | omega | (simp; done) | (simp; omega) | (simp at *; omega))

section
variable {P : Program} {w : World} {K : PySem.W.Frag} {mg : Str → Option Value} {base : Heap}
theorem mtV_at {m : List (Option Nat)} {i : Nat} {x : Option Nat} (h : m[i]? = some x) : (mtV m)[i]? = some (optV x) := by
  unfold mtV
  rw [List.getElem?_map, h]
  rfl
theorem mtV_snoc (m : List (Option Nat)) (x : Option Nat) : mtV m ++ [optV x] = mtV (m ++ [x]) := by
  unfold mtV
  rw [List.map_append]
  rfl
def aftL (l : List Nat) : List (Option Nat) := (List.range l.length).map (aft l)
def nxL (l : List Nat) : List (Option Nat) := aftL l ++ [none]
def aftP (l : List Nat) (n : Nat) : List (Option Nat) := (List.range n).map (aft l)
theorem aftP_succ (l : List Nat) (n : Nat) : aftP l (n + 1) = aftP l n ++ [aft l n] := by
  unfold aftP
  rw [List.range_succ, List.map_append]
  rfl
theorem nxL_at {l : List Nat} {i : Nat} (h : i < l.length) : (nxL l)[i]? = some (aft l i) := by
  unfold nxL aftL
  rw [List.getElem?_append_left (by simpa using h), List.getElem?_map, List.getElem?_range h]
  rfl
/-! next_places -/
def sp_next_places : Sp := fun vs H Q _ => ∃ l : List Nat, vs = [Tx l] ∧ l.length ≤ 1000 ∧ ∀ (p : Addr) (H' : Hp), H p = none → Same H H' → H' p = some (.lst (mtV (nxL l))) → Q (.ref p) H'
theorem ok_next_places (T : Facts K mg) : C8.Cal P w K mg base 4 "next_places" sp_next_places [] := by
  refine calD T.f_next_places sc_next_places (fun vs H Q E h => ?_) (fun f cdv A outer s H vs Q E hr h => ?_)
  · obtain ⟨l, rfl, hl, q⟩ := h; rfl
  · obtain ⟨l, rfl, hl, q⟩ := h
    refine ⟨_, (pss_cons (ps_set (i := 1) sc_next_places.nd rfl (Or.inl rfl) (pe_own (ok_partners T) hr (by decide) rfl (pa_cons (pv 0) pa_nil)))
       (pss_cons (ps_set (i := 2) sc_next_places.nd rfl (Or.inl rfl) (pe_lst pa_nil))
       (pss_cons (ps_for PassesOwn.never rfl (pi_enumS rfl T.b_enumerate (pa_cons (pv 0) pa_nil)) (pg_tup rfl (pgs_cons (pg_name (i := 3) sc_next_places.nd rfl (Or.inl rfl)) (pgs_cons (pg_name (i := 4) sc_next_places.nd rfl (Or.inl rfl)) pgs_nil)))
       (pss_one (ps_ifC (PW.pt (pw_or (pt_cmpR op_inT (pv 4) (C8.pe_gc rfl T.c_CLOSING) (by rfl)) (pw_or1 (PW.pt (pw_and (pt_cmpR op_inT (pv 4) (C8.pe_gc rfl T.c_OPENING) (by rfl)) (pw_and1 (pt_cmpR op_isN (pe_ix ix_list (pv 1) (pv 3) (fun _ _ => rfl)) pe_non (nomark _))))))))
       (pss_one (ps_expr (pe_bm PySem.F.plainAttrs_list PySem.F.slot_list_append PySem.F.type_list_append mt_append (pv 2) (pa_cons pe_non pa_nil))))
       (pss_one (ps_if (pt_cmpR op_inT (pv 4) (C8.pe_gc rfl T.c_OPENING) (by rfl))
       (pss_one (ps_expr (pe_bm PySem.F.plainAttrs_list PySem.F.slot_list_append PySem.F.type_list_append mt_append (pv 2) (pa_cons (pe_op op_add (pe_ix ix_list (pv 1) (pv 3) (fun _ _ => rfl)) pe_int) pa_nil))))
       (pss_one (ps_expr (pe_bm PySem.F.plainAttrs_list PySem.F.slot_list_append PySem.F.type_list_append mt_append (pv 2) (pa_cons (pe_op op_add (pv 3) pe_int) pa_nil)))))))))
       (pss_one (ps_ret (pe_op op_cat (pv 2) (pe_lst (pa_cons pe_non pa_nil)))))))), ?_⟩
    rw [st_next_places]
    wtm_at "unf"
    wtm_at "go"
    refine ⟨l, rfl, hl, fun ma H1 nma s1 ema => ?_⟩
    refine g_lst (by show 0 ≤ 100000; decide) fun fa H2 nfa s2 efa => ?_
    have hne : ma ≠ fa := ne_new nfa ema
    have nf0 : H fa = none := by wtm_at "fr"
    wtm_at "go"
    refine ⟨_, rfl, for_enumS (fun pre σ H' => ∃ (y z : Option V), σ = [some (Tx l), some (V.ref ma), some (V.ref fa), y, z] ∧ H' fa = some (.lst (mtV (aftP l pre.length))) ∧ H' ma = some (.lst (mtV (mates l))) ∧ Same H H')
      ⟨_, _, rfl, efa, by wtm_at "lk", by wtm_at "sm"⟩ (fun pre c post σ H' t H'' e hv nt st et => ?_) (fun σ H' hv => ?_)⟩
    · obtain ⟨y, z, rfl, ef, em, sH⟩ := hv
      obtain ⟨i, hi⟩ : ∃ i, pre.length = i := ⟨_, rfl⟩
      rw [hi] at ef et
      have hc : l[i]? = some c := by rw [← hi]; exact mid_at e
      have hil : i < l.length := (List.getElem?_eq_some_iff.mp hc).1
      have ef2 : H'' fa = some (.lst (mtV (aftP l i))) := by wtm_at "lk"
      have em2 : H'' ma = some (.lst (mtV (mates l))) := by wtm_at "lk"
      have sH2 : Same H H'' := by wtm_at "sm"
      obtain ⟨x, hx⟩ : ∃ x, (mates l)[i]? = some x := ⟨_, List.getElem?_eq_getElem (by rw [mates_len]; exact hil)⟩
      have hlen : (mtV (aftP l i)).length < 100000 := by rw [mtV_len]; unfold aftP; simp; omega
      rw [List.length_append, hi, show i + [c].length = i + 1 from rfl, aftP_succ, ← mtV_snoc]
      wtm_at "unf"
      refine ⟨t, _, rfl, st_of et, rfl, _, _, rfl, _, _, rfl, rfl, ?_⟩
      refine g_ifC (b := decide (aft l i = none)) (fun Q q => ?_) (fun h => ?_) (fun h => ?_)
      · wtm_at "unf"
        wtm_at "go"
        refine g_test (fun h => ?_) (fun h => ?_)
        · rw [decide_eq_true (aft_clo hc h)] at q
          exact q
        · wtm_at "go"
          refine g_test (fun h1 => ?_) (fun h1 => ?_)
          · wtm_at "go"
            refine g_ixL (sq_of em2) (atI_of (mtV_at hx)) ?_
            have hh : decide (aft l i = none) = decide (optV x = V.non) := by
              rw [aft_opn hc h1 hx, decide_eq_decide]
              cases x <;> simp [optV]
            rw [hh] at q
            exact ⟨_, rfl, q⟩
          · rw [aft_let hc h1 h] at q
            exact q
      · rw [of_decide_eq_true h]
        wtm_at "unf"
        wtm_at "go"
        refine ⟨g_tyL (sq_of ef2), ?_⟩
        refine g_append1 ef2 hlen fun H3 b3 e3 => ?_
        exact ⟨_, _, rfl, e3, by wtm_at "lk", by wtm_at "sm"⟩
      · have h' : aft l i ≠ none := of_decide_eq_false h
        wtm_at "unf"
        wtm_at "go"
        refine g_test (fun h1 => ?_) (fun h1 => ?_)
        · cases x with
          | none => exact absurd (aft_opn hc h1 hx) h'
          | some k =>
            wtm_at "go"
            refine ⟨g_tyL (sq_of ef2), ?_⟩
            wtm_at "go"
            refine g_ixL (v := V.int (k : Int)) (sq_of em2) (atI_of (mtV_at hx)) ?_
            wtm_at "go"
            refine g_append1 ef2 hlen fun H3 b3 e3 => ?_
            rw [show aft l i = some (k + 1) from aft_opn hc h1 hx]
            exact ⟨_, _, rfl, e3, by wtm_at "lk", by wtm_at "sm"⟩
        · have h2 : c ∉ CLO := fun h2 => h' (aft_clo hc h2)
          wtm_at "go"
          refine ⟨g_tyL (sq_of ef2), ?_⟩
          wtm_at "go"
          refine g_append1 ef2 hlen fun H3 b3 e3 => ?_
          rw [aft_let hc h1 h2]
          exact ⟨_, _, rfl, e3, by wtm_at "lk", by wtm_at "sm"⟩
    · obtain ⟨y, z, rfl, ef, em, sH⟩ := hv
      wtm_at "unf"
      wtm_at "go"
      refine g_lst (by show 1 ≤ 100000; decide) fun na H3 nna s3 ena => ?_
      refine g_cat (by wtm_at "lk") ena (by rw [mtV_len]; unfold aftP; simp; omega) fun pa H4 npa s4 epa => ?_
      rw [show mtV (aftP l l.length) ++ [V.non] = mtV (nxL l) from mtV_snoc _ none] at epa
      exact q pa H4 (by wtm_at "fr") (by wtm_at "sm") epa
def mk (l : List Nat) (k : Nat) : List Nat := (List.range (l.length + 1)).map fun i => if k ≤ i then cp (l.drop i) else 0
def mkV (l : List Nat) (k : Nat) : List V := (mk l k).map fun n : Nat => V.int (n : Int)
theorem mk_at {l : List Nat} {k i : Nat} (h : i ≤ l.length) : (mk l k)[i]? = some (if k ≤ i then cp (l.drop i) else 0) := by
  unfold mk
  rw [List.getElem?_map, List.getElem?_range (by omega)]
  rfl
theorem mk_len (l : List Nat) (k : Nat) : (mk l k).length = l.length + 1 := by unfold mk; simp
theorem mkV_len (l : List Nat) (k : Nat) : (mkV l k).length = l.length + 1 := by unfold mkV; rw [List.length_map, mk_len]
theorem mkV_at {l : List Nat} {k i : Nat} (h : i ≤ l.length) (hk : k ≤ i) : (mkV l k)[i]? = some (V.int (cp (l.drop i) : Int)) := by
  unfold mkV
  rw [List.getElem?_map, mk_at h, if_pos hk]
  rfl
theorem mk_start (l : List Nat) : mkV l l.length = (List.replicate (l.length + 1) [V.int 0]).flatten := by
  have e : mk l l.length = List.replicate (l.length + 1) 0 := by
    rw [List.eq_replicate_iff]
    refine ⟨mk_len _ _, fun b hb => ?_⟩
    unfold mk at hb
    obtain ⟨i, hi, rfl⟩ := List.mem_map.mp hb
    have := List.mem_range.mp hi
    show (if l.length ≤ i then cp (l.drop i) else 0) = 0
    split
    · rw [List.drop_eq_nil_of_le (by omega)]
      rfl
    · rfl
  unfold mkV
  rw [e, List.map_replicate]
  generalize l.length + 1 = n
  induction n with
  | zero => rfl
  | succ n ih => rw [List.replicate_succ, List.replicate_succ, List.flatten_cons, ← ih]; rfl
theorem mk_set {l : List Nat} {k : Nat} (h : k < l.length) : (mk l (k + 1)).set k (cp (l.drop k)) = mk l k := by
  apply List.ext_getElem?
  intro i
  rcases Nat.lt_or_ge l.length i with hi | hi
  · rw [List.getElem?_eq_none (by rw [List.length_set, mk_len]; omega), List.getElem?_eq_none (by rw [mk_len]; omega)]
  · by_cases e : i = k
    · subst e
      rw [List.getElem?_set_self (by rw [mk_len]; omega), mk_at hi, if_pos (Nat.le_refl _)]
    · rw [List.getElem?_set_ne (fun h => e h.symm), mk_at hi, mk_at hi]
      by_cases h' : k ≤ i
      · rw [if_pos h', if_pos (by omega)]
      · rw [if_neg h', if_neg (by omega)]
theorem mkV_set {l : List Nat} {k : Nat} (h : k < l.length) : (mkV l (k + 1)).set k (V.int (cp (l.drop k) : Int)) = mkV l k := by
  unfold mkV
  rw [← mk_set h, List.map_set]
theorem mkV_keep {l : List Nat} {k : Nat} (h : k < l.length) (h0 : cp (l.drop k) = 0) : mkV l (k + 1) = mkV l k := by
  rw [← mkV_set h, h0]
  have e : (mkV l (k + 1))[k]? = some (V.int 0) := by
    unfold mkV
    rw [List.getElem?_map, mk_at (by omega), if_neg (by omega)]
    rfl
  obtain ⟨h1, h2⟩ := List.getElem?_eq_some_iff.mp e
  have := List.set_getElem_self h1
  rw [h2] at this
  exact this.symm
theorem sum_cast : ∀ xs : List Nat, (xs.map fun n : Nat => (n : Int)).sum = (xs.sum : Int)
  | [] => rfl
  | x :: xs => by
    rw [List.map_cons, List.sum_cons, List.sum_cons, sum_cast xs]
    omega
/-! many_clean -/
def sp_many_clean : Sp := fun vs H Q _ => ∃ l : List Nat, vs = [Tx l] ∧ l.length ≤ 1000 ∧ ∀ H', Same H H' → Q (.int (many l)) H'
theorem ok_many_clean (T : Facts K mg) : C8.Cal P w K mg base 5 "many_clean" sp_many_clean [] := by
  refine calD T.f_many_clean sc_many_clean (fun vs H Q E h => ?_) (fun f cdv A outer s H vs Q E hr h => ?_)
  · obtain ⟨l, rfl, hl, q⟩ := h; rfl
  · obtain ⟨l, rfl, hl, q⟩ := h
    refine ⟨_, (pss_cons (ps_set (i := 1) sc_many_clean.nd rfl (Or.inl rfl) (pe_own (ok_next_places T) hr (by decide) rfl (pa_cons (pv 0) pa_nil)))
       (pss_cons (ps_set (i := 2) sc_many_clean.nd rfl (Or.inl rfl) (pe_op op_rep (pe_lst (pa_cons pe_int pa_nil)) (pe_op op_add (pe_callB call_lenT rfl T.b_len PySem.boot_len (pa_cons (pv 0) pa_nil)) pe_int)))
       (pss_cons (ps_for PassesOwn.never rfl (pi_range3 rfl T.b_range (pa_cons (pe_op op_sub (pe_callB call_lenT rfl T.b_len PySem.boot_len (pa_cons (pv 0) pa_nil)) pe_int) (pa_cons (pe_un un_neg pe_int) (pa_cons (pe_un un_neg pe_int) pa_nil)))) (pg_name (i := 3) sc_many_clean.nd rfl (Or.inl rfl))
       (pss_one (ps_if (pt_cmpR op_notN (pe_ix ix_list (pv 1) (pv 3) (fun _ _ => rfl)) pe_non (nomark _))
       (pss_one (ps_asg (pe_op op_add pe_int (pe_ix ix_list (pv 2) (pe_ix ix_list (pv 1) (pv 3) (fun _ _ => rfl)) (fun _ _ => rfl))) (pg_sub (pv 2) (pv 3) set_list)))
       pss_nil)))
       (pss_one (ps_ret (pe_callB (cr_sum rfl) rfl T.b_sum (by decide +kernel) (pa_cons (pv 2) pa_nil))))))), ?_⟩
    rw [st_many_clean]
    wtm_at "unf"
    wtm_at "go"
    refine ⟨l, rfl, hl, fun na H1 nna s1 ena => ?_⟩
    refine g_lst (by show 1 ≤ 100000; decide) fun c0 H2 nc0 s2 ec0 => ?_
    wtm_at "go"
    refine g_rep (n := l.length + 1) ec0 (by simp; omega) (by omega) fun fa H3 nfa s3 efa => ?_
    rw [← mk_start] at efa
    have hne : na ≠ fa := ne_new nfa (Same.get s2 ena)
    have nf0 : H fa = none := by wtm_at "fr"
    wtm_at "go"
    refine ⟨_, _, _, _, rfl, rgc_dn (by omega), for_dn (fun k σ H' => ∃ (y : Option V), σ = [some (Tx l), some (V.ref na), some (V.ref fa), y] ∧ H' na = some (.lst (mtV (nxL l))) ∧ H' fa = some (.lst (mkV l k)) ∧ Same H H')
      ⟨_, rfl, by wtm_at "lk", efa, by wtm_at "sm"⟩ (fun k σ H' hk hv => ?_) (fun σ H' hv => ?_)⟩
    · obtain ⟨y, rfl, en, ef, sH⟩ := hv
      wtm_at "unf"
      wtm_at "go"
      refine g_ixL (sq_of en) (atI_of (mtV_at (nxL_at hk))) ?_
      rcases cp_aft hk with ⟨e, h0⟩ | ⟨j, e, h1, h2, h3⟩
      · rw [e]
        refine ⟨false, rfl, ?_⟩
        rw [mkV_keep hk h0] at ef
        exact ⟨_, rfl, en, ef, sH⟩
      · have hat := nxL_at hk
        rw [e] at hat ⊢
        refine ⟨true, rfl, ?_⟩
        rw [if_pos rfl]
        wtm_at "go"
        refine g_ixL (v := V.int (j : Int)) (sq_of en) (atI_of (mtV_at hat)) ?_
        refine g_ixL (sq_of ef) (atI_of (mkV_at h2 (by omega))) ?_
        wtm_at "go"
        refine g_setL (n := k) ef (by rw [mkV_len]; exact ixN_nat (by omega)) fun H5 b5 e5 => ?_
        rw [show ((1 : Int) + (cp (l.drop j) : Int)) = (cp (l.drop k) : Int) by rw [h3]; omega, mkV_set hk] at e5
        exact ⟨_, rfl, by wtm_at "lk", e5, by wtm_at "sm"⟩
    · obtain ⟨y, rfl, en, ef, sH⟩ := hv
      wtm_at "unf"
      wtm_at "go"
      refine ⟨fa, (mk l 0).map fun n : Nat => (n : Int), rfl, sq_of (by rw [ef]; unfold mkV; rw [List.map_map]; rfl), ?_⟩
      rw [sum_cast, show mk l 0 = cps l by unfold mk cps; simp, cps_sum]
      exact q H' sH
end
end K37

set_option maxHeartbeats 4000000
namespace K37
open PySem PySem.Spec PyProof.Rows L2 SX Ly
local macro_rules | `(tactic| wtm_at "unf") => `(tactic| (try simp only [tSeq, tNext, tBreak, tCont, tDrop, tRet, tRetN, tIfS, tAsg, tAug, tC, tOp, tUn, tNil, tCons, tOwn, tCB, tTest, tB, tAnd, tOr, tNot, tAndV, tOrV, tNotV, tIf, gName, gSub, tBM, tBM0, tM0, tM1, tSl, tPart_eq, tNoPart, tLst_eq, tTup_eq, tRevL_eq, C8.tCut, wipe, tYes, gTup, gCons, gNil, List.set_cons_zero, List.set_cons_succ, if_true, if_false, Bool.false_eq_true, Bool.not_true, Bool.not_false, true_and, reduceIte, cx_K, tFor_eq, tLc_eq, iStr, iList, iTup, iRng1, iRng2, iRng3, iEnum, iZip, iEnumS, iZipS]))
local macro_rules | `(tactic| wtm_at "ne") => `(tactic| first | assumption | (apply Ne.symm; assumption) | (apply ne_new; (· assumption); (· wtm_at "lk")) | (apply Ne.symm; apply ne_new; (· assumption); (· wtm_at "lk")))
local macro_rules | `(tactic| wtm_at "lk") => `(tactic| first | assumption | exact upd_same | (apply Same.get; (· assumption); (· wtm_at "lk")) | (apply But.get; (· assumption); (· wtm_at "ne"); (· wtm_at "lk")))
local macro_rules | `(tactic| wtm_at "sq") => `(tactic| first | assumption | (apply sq_of; wtm_at "lk") | (apply Same.seq; (· assumption); (· wtm_at "sq")) | (apply But.sq; (· assumption); (· wtm_at "ne"); (· wtm_at "sq")))
local macro_rules | `(tactic| wtm_at "fr") => `(tactic| first | assumption | (apply Same.fr; (· assumption); (· wtm_at "sm")) | (apply But.fr; (· assumption); (· wtm_at "sm"); (· wtm_at "ne")))
local macro_rules | `(tactic| wtm_at "sm") => `(tactic| first | exact Same.refl _ | exact But.refl | assumption | (apply Same.tr; (· assumption); (· wtm_at "sm")) | (apply Same.b0; (· assumption); (· wtm_at "sm"); (· wtm_at "fr")) | (apply But.sa; (· assumption); (· wtm_at "sm")) | (apply But.tr; (· assumption); (· wtm_at "sm")) | (apply But.b0; (· assumption); (· wtm_at "sm"); (· wtm_at "fr")) | (apply Same.toBut; wtm_at "sm"))
local macro_rules | `(tactic| wtm_at "sc") => `(tactic| first | exact Int.zero_lt_one | (show (0 : Int) < _; omega) | (show (0 : Int) < _; decide) | exact ⟨by omega, by omega⟩ | exact .inl ⟨by omega, by omega⟩ | exact .inr ⟨by omega, by omega⟩)
local macro_rules | `(tactic| wtm_at "go1") => `(tactic| first | ((with_reducible apply g_var); (· exact rfl)) | with_reducible apply g_I0 | ((with_reducible apply g_I); (· wtm_at "sc")) | with_reducible apply g_U | with_reducible apply g_ipI | ((with_reducible apply g_addT); (· first | omega | (simp; done) | (simp; omega))) | with_reducible apply g_inT | with_reducible apply g_ninT | ((with_reducible apply g_lenT); (· omega)) | with_reducible apply g_findT1 | with_reducible apply g_str | with_reducible apply g_part | with_reducible apply g_intB | ((with_reducible apply g_ixL); (· wtm_at "sq"); (· exact rfl)) | ((with_reducible apply g_setL); (· wtm_at "lk"); (· exact rfl)) | ((with_reducible apply g_eq); (· rfl)) | ((with_reducible apply g_ne); (· rfl)))
local macro_rules | `(tactic| wtm_at "go") => `(tactic| repeat wtm_at "go1")
local macro_rules | `(tactic| wtm_at "lp") => `(tactic| skip)
local macro_rules | `(tactic| wtm_at "om") => `(tactic| first | omega | (simp; done) | (simp; omega) | (simp at *; omega))

section
variable {P : Program} {w : World} {K : PySem.W.Frag} {mg : Str → Option Value} {base : Heap}
theorem pair_at {z : Nat} (h : z < 4) : ∃ c, ([Tx [40, 41], Tx [60, 62], Tx [91, 93], Tx [123, 125]] : List V)[z]? = some (Tx [c, oth c]) ∧ c ∈ OPN := by
  have hc : z = 0 ∨ z = 1 ∨ z = 2 ∨ z = 3 := by omega
  rcases hc with rfl | rfl | rfl | rfl
  · exact ⟨40, by rw [show oth 40 = 41 by decide]; rfl, by decide⟩
  · exact ⟨60, by rw [show oth 60 = 62 by decide]; rfl, by decide⟩
  · exact ⟨91, by rw [show oth 91 = 93 by decide]; rfl, by decide⟩
  · exact ⟨123, by rw [show oth 123 = 125 by decide]; rfl, by decide⟩
theorem abz_at {z : Nat} (h : z < 3) : ∃ c, ([97, 98, 122] : List Nat)[z]? = some c ∧ clean [c] := by
  have hc : z = 0 ∨ z = 1 ∨ z = 2 := by omega
  rcases hc with rfl | rfl | rfl
  · exact ⟨97, rfl, by decide⟩
  · exact ⟨98, rfl, by decide⟩
  · exact ⟨122, rfl, by decide⟩
theorem abz_at2 {z : Nat} (h : z < 3) : ∃ c, ([97, 98, 122] : List Nat)[z]? = some c ∧ clean [c] ∧ isSg c := by
  have hc : z = 0 ∨ z = 1 ∨ z = 2 := by omega
  rcases hc with rfl | rfl | rfl
  · exact ⟨97, rfl, by decide, .inl (by decide)⟩
  · exact ⟨98, rfl, by decide, .inl (by decide)⟩
  · exact ⟨122, rfl, by decide, .inl (by decide)⟩
theorem repT_repL (n : Nat) (u : List Nat) : repT n u = repL n u := rfl
theorem repL_len (n : Nat) (u : List Nat) : (repL n u).length = n * u.length := by
  unfold repL
  rw [List.length_flatten, List.map_replicate, List.sum_replicate_nat]
/-! _law_bracket -/
def sp_law_bracket : Sp := fun vs H Q _ => ∃ (p : Addr) (P0 : Rw) (n : Nat), vs = [.ref p, .int n] ∧ H p = some P0.o ∧ 0 < n ∧ n ≤ 4 ∧ ∀ (c : Nat) (P1 : Rw) (H' : Hp), c ∈ BRK → But p H H' → H' p = some P1.o → Q (Tx [c]) H'
theorem ok_law_bracket (T : Facts K mg) : C8.Cal P w K mg base 2 "_law_bracket" sp_law_bracket [] := by
  refine calD T.f_law_bracket sc_law_bracket (fun vs H Q E h => ?_) (fun f cdv A outer s H vs Q E hr h => ?_)
  · obtain ⟨p, P0, n, rfl, hp, h0, h1, q⟩ := h; rfl
  · obtain ⟨p, P0, n, rfl, hp, h0, h1, q⟩ := h
    refine ⟨_, (pss_one (ps_ret (pe_ix ix_txt (pe_strS (l := BRK) (by decide +kernel)) (pe_own (ok_law_take T) hr (by decide) rfl (pa_cons (pv 0) (pa_cons (pe_op op_mul pe_int (pv 1)) pa_nil))) (fun _ _ => rfl)))), ?_⟩
    rw [st_law_bracket]
    wtm_at "unf"
    wtm_at "go"
    refine ⟨p, P0, _, rfl, hp, by omega, by omega, fun x P1 H1 x0 x1 b1 e1 => ?_⟩
    obtain ⟨z, rfl⟩ := Int.eq_ofNat_of_zero_le x0
    obtain ⟨c, hc1, hc2⟩ := brk_at (z := z) (by omega)
    refine g_ixT (by decide) (atI_of hc1) ?_
    exact q c P1 H1 hc2 b1 e1
/-! _law_clean -/
def sp_law_clean : Sp := fun vs H Q _ => ∃ (p : Addr) (P0 : Rw) (M n : Nat), vs = [.ref p, .int M, .int n] ∧ H p = some P0.o ∧ M ≤ 100 ∧ 0 < n ∧ n ≤ 4 ∧ ∀ (l : List Nat) (P1 : Rw) (H' : Hp), l.length ≤ M → (∀ c ∈ l, isSg c) → clean l → But p H H' → H' p = some P1.o → Q (Tx l) H'
theorem ok_law_clean (T : Facts K mg) : C8.Cal P w K mg base 2 "_law_clean" sp_law_clean [] := by
  refine calD T.f_law_clean sc_law_clean (fun vs H Q E h => ?_) (fun f cdv A outer s H vs Q E hr h => ?_)
  · obtain ⟨p, P0, M, n, rfl, hp, hM, h0, h1, q⟩ := h; rfl
  · obtain ⟨p, P0, M, n, rfl, hp, hM, h0, h1, q⟩ := h
    refine ⟨_, (pss_cons (ps_set (i := 3) sc_law_clean.nd rfl (Or.inl rfl) (pe_strS (l := []) (by decide +kernel)))
       (pss_cons (ps_for PassesOwn.never rfl (pi_range1 rfl T.b_range (pa_cons (pe_own (ok_law_take T) hr (by decide) rfl (pa_cons (pv 0) (pa_cons (pe_op op_add (pe_op op_fdiv (pv 1) pe_int) pe_int) pa_nil))) pa_nil)) (pg_name (i := 4) sc_law_clean.nd rfl (Or.inl rfl))
       (pss_cons (ps_set (i := 5) sc_law_clean.nd rfl (Or.inl rfl) (pe_own (ok_law_take T) hr (by decide) rfl (pa_cons (pv 0) (pa_cons (pe_op op_add (pe_callB call_lenT rfl T.b_len PySem.boot_len (pa_cons (pv 3) pa_nil)) pe_int) pa_nil))))
       (pss_cons (ps_set (i := 6) sc_law_clean.nd rfl (Or.inl rfl) (pe_own (ok_law_take T) hr (by decide) rfl (pa_cons (pv 0) (pa_cons (pv 2) pa_nil))))
       (pss_cons (ps_set (i := 7) sc_law_clean.nd rfl (Or.inl rfl) (pe_ix ix_list (pe_lst (pa_cons (pe_strS (l := [40, 41]) (by decide +kernel)) (pa_cons (pe_strS (l := [60, 62]) (by decide +kernel)) (pa_cons (pe_strS (l := [91, 93]) (by decide +kernel)) (pa_cons (pe_strS (l := [123, 125]) (by decide +kernel)) pa_nil))))) (pv 6) (fun _ _ => rfl)))
       (C8.pss_cut (ps_if (pt_cmpR op_eq (pe_own (ok_law_take T) hr (by decide) rfl (pa_cons (pv 0) (pa_cons pe_int pa_nil))) pe_int (nomark _))
       (pss_one (ps_set (i := 7) sc_law_clean.nd rfl (Or.inl rfl) (pe_ix ix_txt (pe_strS (l := [97, 98, 122]) (by decide +kernel)) (pe_op op_mod (pv 6) pe_int) (fun _ _ => rfl))))
       pss_nil)
       (pss_one (ps_set (i := 3) sc_law_clean.nd rfl (Or.inl rfl) (pe_op op_addT (pe_op op_addT (pe_slice sl_tx (pv 3) po_none (po_some (pv 5))) (pv 7)) (pe_slice sl_tx (pv 3) (po_some (pv 5)) po_none)))))))))
       (pss_one (ps_ret (pv 3))))), ?_⟩
    rw [st_law_clean]
    wtm_at "unf"
    wtm_at "go"
    refine ⟨p, P0, _, rfl, hp, by omega, by omega, fun nn P1 H1 n0 n1 b1 e1 => ?_⟩
    obtain ⟨m, rfl⟩ := Int.eq_ofNat_of_zero_le n0
    have hm : 2 * m ≤ M := by omega
    refine ⟨_, rfl, by omega, by omega, for_rng (fun i σ H' => ∃ (t : List Nat) (P2 : Rw) (y4 y5 y6 y7 : Option V), σ = [some (V.ref p), some (V.int M), some (V.int n), some (Tx t), y4, y5, y6, y7] ∧ clean t ∧ (∀ c ∈ t, isSg c) ∧ t.length ≤ 2 * i ∧ But p H H' ∧ H' p = some P2.o) ⟨[], P1, _, _, _, _, rfl, clean_nil, by simp, by simp, b1, e1⟩ (fun i σ H' hi hv => ?_) (fun σ H' hv => ?_)⟩
    · obtain ⟨t, P2, y4, y5, y6, y7, rfl, ht, hts, htl, b2, e2⟩ := hv
      rw [Int.toNat_natCast] at hi
      wtm_at "unf"
      wtm_at "go"
      refine ⟨p, P2, _, rfl, e2, by omega, by omega, fun x P3 H3 x0 x1 b3 e3 => ?_⟩
      obtain ⟨at', rfl⟩ := Int.eq_ofNat_of_zero_le x0
      wtm_at "go"
      refine ⟨p, P3, n, rfl, e3, by omega, by omega, fun k P4 H4 k0 k1 b4 e4 => ?_⟩
      obtain ⟨z, rfl⟩ := Int.eq_ofNat_of_zero_le k0
      obtain ⟨c, hc1, hc2⟩ := pair_at (z := z) (by omega)
      refine g_lst (by show 4 ≤ 100000; decide) fun la H5 nla s5 ela => ?_
      wtm_at "go"
      refine g_ixL (sq_of ela) (atI_of hc1) ?_
      refine ⟨fun σ' H6 => ∃ (u : List Nat) (P6 : Rw), σ' = [some (V.ref p), some (V.int M), some (V.int n), some (Tx t), some (V.int (0 + (i : Int))), some (V.int at'), some (V.int z), some (Tx u)] ∧ clean u ∧ (∀ c ∈ u, isSg c) ∧ u.length ≤ 2 ∧ But p H H6 ∧ H6 p = some P6.o, ?_, ?_⟩
      · wtm_at "go"
        refine ⟨p, P4, 4, rfl, by wtm_at "lk", by decide, by decide, fun w P6 H6 w0 w1 b6 e6 => ?_⟩
        wtm_at "go"
        refine g_testB (fun h => ?_) (fun h => ?_)
        · wtm_at "go"
          obtain ⟨d, hd1, hd2, hd3⟩ := abz_at2 (z := z % 3) (by omega)
          refine g_ixT (c := d) (by decide) (by rw [show ((z : Int) % 3) = ((z % 3 : Nat) : Int) by omega]; exact atI_of hd1) ?_
          exact ⟨[d], P6, rfl, hd2, by simpa using hd3, by simp, by wtm_at "sm", e6⟩
        · refine ⟨[c, oth c], P6, rfl, clean_pair (a := []) hc2 clean_nil, ?_, by simp, by wtm_at "sm", e6⟩
          have hb : c ∈ BRK := brk_or.mpr (.inl hc2)
          intro x hx
          rcases List.mem_cons.mp hx with rfl | hx
          · exact .inr hb
          · rw [List.mem_singleton] at hx
            rw [hx]
            exact .inr (oth_brk c hb)
      · rintro σ' H6 ⟨u, P6, rfl, hu, hus, hul, b6, e6⟩
        wtm_at "go"
        refine g_slTo (by omega) (by omega) ?_
        rw [Int.toNat_natCast]
        wtm_at "go"
        refine g_slFrom (by omega) (by omega) ?_
        rw [Int.toNat_natCast]
        wtm_at "go"
        refine ⟨_, P6, _, _, _, _, rfl, (clean_mid hu).mpr (by rw [List.take_append_drop]; exact ht), ?_, by simp; omega, b6, e6⟩
        intro x hx
        rcases List.mem_append.mp hx with hx | hx
        · rcases List.mem_append.mp hx with hx | hx
          · exact hts x (List.mem_of_mem_take hx)
          · exact hus x hx
        · exact hts x (List.mem_of_mem_drop hx)
    · obtain ⟨t, P2, y4, y5, y6, y7, rfl, ht, hts, htl, b2, e2⟩ := hv
      rw [Int.toNat_natCast] at htl
      wtm_at "unf"
      wtm_at "go"
      exact q t P2 H' (by omega) hts ht b2 e2
/-! _law_text -/
def sp_law_text : Sp := fun vs H Q _ => ∃ (p : Addr) (P0 : Rw) (M : Nat), vs = [.ref p, .int M] ∧ H p = some P0.o ∧ M ≤ 100 ∧ ∀ (l : List Nat) (P1 : Rw) (H' : Hp), l.length ≤ M → (∀ c ∈ l, isSg c) → But p H H' → H' p = some P1.o → Q (Tx l) H'
theorem ok_law_text (T : Facts K mg) : C8.Cal P w K mg base 3 "_law_text" sp_law_text [] := by
  refine calD T.f_law_text sc_law_text (fun vs H Q E h => ?_) (fun f cdv A outer s H vs Q E hr h => ?_)
  · obtain ⟨p, P0, M, rfl, hp, hM, q⟩ := h; rfl
  · obtain ⟨p, P0, M, rfl, hp, hM, q⟩ := h
    refine ⟨_, (pss_cons (ps_set (i := 2) sc_law_text.nd rfl (Or.inr rfl) (pe_op op_add pe_int (pe_own (ok_law_take T) hr (by decide) rfl (pa_cons (pv 0) (pa_cons pe_int pa_nil)))))
       (pss_cons (ps_if (pt_cmpR op_eq (pe_own (ok_law_take T) hr (by decide) rfl (pa_cons (pv 0) (pa_cons pe_int pa_nil))) pe_int (nomark _))
       (pss_cons (ps_setLc (i := 3) (own := [("k", 6)]) (by rfl) sc_law_text.nd rfl rfl (sw_true rfl rfl rfl (by decide +kernel)) (pi_range1 rfl T.b_range (pa_cons (pe_own (ok_law_take T) hr (by decide) rfl (pa_cons (pv 0) (pa_cons (pe_op op_add (pv 1) pe_int) pa_nil))) pa_nil)) (blkOk_by (own := [("k", 6)]) (N := N_law_text) (sc := defScope s_law_text) (by decide +kernel)) (fun _ _ _ _ _ => (pg_name (i := 6) sc_law_text.nd rfl (Or.inl rfl))) (fun _ _ _ _ _ => pts_nil) (fun _ _ _ _ _ => (pe_own (ok_law_bracket T) hr (by decide) rfl (pa_cons (pv 0) (pa_cons (pv 2) pa_nil)))))
       (pss_cons (ps_set (i := 4) sc_law_text.nd rfl (Or.inr rfl) (pe_ix ix_txt (pe_strS (l := LET) (by decide +kernel)) (pe_own (ok_law_take T) hr (by decide) rfl (pa_cons (pv 0) (pa_cons pe_int pa_nil))) (fun _ _ => rfl)))
       (pss_one (ps_ret (pe_m1 PySem.F.slot_str_join PySem.F.type_str_join mt_joinT (pe_strS (l := []) (by decide +kernel)) (pe_lc (own := [("sign", 9)]) (by rfl) sc_law_text.nd (pi_list (pv 3)) (blkOk_by (own := [("sign", 9)]) (N := N_law_text) (sc := defScope s_law_text) (by decide +kernel)) (fun _ _ _ _ _ => (pg_name (i := 9) sc_law_text.nd rfl (Or.inl rfl))) (fun _ _ _ _ _ => pts_nil) (fun _ _ _ _ _ => (pe_ix (r := rIxL K) ix_list (pe_lst (pa_cons (pv 9) (pa_cons (pv 4) pa_nil))) (pe_callTy call_intB rfl T.b_int (by decide +kernel) (pa_cons (pe_cmpR op_eq (pe_own (ok_law_take T) hr (by decide) rfl (pa_cons (pv 0) (pa_cons pe_int pa_nil))) pe_int (nomark _)) pa_nil)) (fun _ _ => rfl)))))))))
       pss_nil)
       (pss_cons (ps_set (i := 5) sc_law_text.nd rfl (Or.inl rfl) (pe_own (ok_law_clean T) hr (by decide) rfl (pa_cons (pv 0) (pa_cons (pv 1) (pa_cons (pv 2) pa_nil)))))
       (pss_cons (ps_for PassesOwn.never rfl (pi_range1 rfl T.b_range (pa_cons (pe_own (ok_law_take T) hr (by decide) rfl (pa_cons (pv 0) (pa_cons pe_int pa_nil))) pa_nil)) (pg_name (i := 6) sc_law_text.nd rfl (Or.inl rfl))
       (pss_cons (ps_set (i := 7) sc_law_text.nd rfl (Or.inl rfl) (pe_own (ok_law_take T) hr (by decide) rfl (pa_cons (pv 0) (pa_cons (pe_op op_add (pe_callB call_lenT rfl T.b_len PySem.boot_len (pa_cons (pv 5) pa_nil)) pe_int) pa_nil))))
       (pss_cons (ps_set (i := 8) sc_law_text.nd rfl (Or.inl rfl) (pe_lst (pa_cons (pe_op op_addT (pe_slice sl_tx (pv 5) po_none (po_some (pv 7))) (pe_slice sl_tx (pv 5) (po_some (pe_op op_add (pv 7) pe_int)) po_none)) (pa_cons (pe_op op_addT (pe_op op_addT (pe_slice sl_tx (pv 5) po_none (po_some (pv 7))) (pe_own (ok_law_bracket T) hr (by decide) rfl (pa_cons (pv 0) (pa_cons (pv 2) pa_nil)))) (pe_slice sl_tx (pv 5) (po_some (pe_op op_add (pv 7) pe_int)) po_none)) pa_nil))))
       (pss_cons (ps_expr (pe_bm PySem.F.plainAttrs_list PySem.F.slot_list_append PySem.F.type_list_append mt_append (pv 8) (pa_cons (pe_op op_addT (pe_op op_addT (pe_slice sl_tx (pv 5) po_none (po_some (pv 7))) (pe_own (ok_law_bracket T) hr (by decide) rfl (pa_cons (pv 0) (pa_cons (pv 2) pa_nil)))) (pe_slice sl_tx (pv 5) (po_some (pv 7)) po_none)) pa_nil)))
       (pss_one (ps_set (i := 5) sc_law_text.nd rfl (Or.inl rfl) (pe_ix ix_list (pv 8) (pe_own (ok_law_take T) hr (by decide) rfl (pa_cons (pv 0) (pa_cons pe_int pa_nil))) (fun _ _ => rfl))))))))
       (pss_one (ps_ret (pe_slice sl_tx (pv 5) po_none (po_some (pv 1))))))))), ?_⟩
    rw [st_law_text]
    wtm_at "unf"
    wtm_at "go"
    refine ⟨p, P0, 4, rfl, hp, by decide, by decide, fun x P1 H1 x0 x1 b1 e1 => ?_⟩
    obtain ⟨kd, rfl⟩ := Int.eq_ofNat_of_zero_le x0
    wtm_at "go"
    refine ⟨p, P1, 2, rfl, e1, by decide, by decide, fun y P2 H2 y0 y1 b2 e2 => ?_⟩
    wtm_at "go"
    rw [show ((1 : Int) + (kd : Int)) = ((kd + 1 : Nat) : Int) by omega]
    refine g_testB (fun h => ?_) (fun h => ?_)
    · wtm_at "go"
      refine ⟨p, P2, _, rfl, e2, by omega, by omega, fun n P3 H3 n0 n1 b3 e3 => ?_⟩
      obtain ⟨m, rfl⟩ := Int.eq_ofNat_of_zero_le n0
      refine ⟨_, rfl, by omega, by omega, lc_rng fun d H4 nd s4 ed => ⟨fun i H5 => ∃ (cs : List Nat) (P5 : Rw), H5 d = some (.lst (sgV cs)) ∧ cs.length = i ∧ (∀ c ∈ cs, c ∈ BRK) ∧ H5 p = some P5.o ∧ But p H H5, ⟨[], P3, ed, rfl, by simp, by wtm_at "lk", by wtm_at "sm"⟩, fun i H5 hi hv => ?_, fun H5 hv => ?_⟩⟩
      · obtain ⟨cs, P5, ec, hcl, hcb, ep, b5⟩ := hv
        rw [Int.toNat_natCast] at hi
        have hdp : d ≠ p := Ne.symm (ne_new nd e3)
        wtm_at "unf"
        refine ⟨rfl, ?_⟩
        wtm_at "go"
        refine ⟨p, P5, kd + 1, rfl, ep, by omega, by omega, fun c P6 H6 hc b6 e6 => ?_⟩
        refine lc_put (acc := sgV cs) (by wtm_at "lk") (by rw [sgV_len]; omega) fun H7 b7 e7 => ?_
        rw [← sgV_snoc] at e7
        refine ⟨cs ++ [c], P6, e7, by simp; omega, ?_, But.get b7 (Ne.symm hdp) e6, ?_⟩
        · intro x hx
          rcases List.mem_append.mp hx with hx | hx
          · exact hcb x hx
          · rw [List.mem_singleton] at hx
            rw [hx]
            exact hc
        · exact But.b0 b7 (b5.trans b6) (by
            have : H3 d = none := nd
            exact (b1.trans (b2.trans b3)).free hdp this)
      · obtain ⟨cs, P5, ec, hcl, hcb, ep, b5⟩ := hv
        rw [Int.toNat_natCast] at hcl
        have hdp : d ≠ p := Ne.symm (ne_new nd e3)
        have nd0 : H d = none := (b1.trans (b2.trans b3)).free hdp nd
        wtm_at "go"
        refine ⟨p, P5, 26, rfl, ep, by decide, by decide, fun w P6 H6 w0 w1 b6 e6 => ?_⟩
        obtain ⟨wz, rfl⟩ := Int.eq_ofNat_of_zero_le w0
        obtain ⟨lt, hlt1, hlt2⟩ := let_at (z := wz) (by omega)
        refine g_ixT (by decide) (atI_of hlt1) ?_
        refine ⟨⟨_, rfl⟩, ?_⟩
        wtm_at "go"
        have ec6 : H6 d = some (.lst (sgV cs)) := by wtm_at "lk"
        have bH6 : But p H H6 := b5.trans b6
        refine ⟨_, rfl, ⟨_, sq_of ec6⟩, lc_lst (sgV cs) fun d2 H7 nd2 s7 ed2 => ⟨fun pre H8 => ∃ (es : List Nat) (P8 : Rw), H8 d2 = some (.lst (sgV es)) ∧ es.length = pre.length ∧ (∀ c ∈ es, isSg c) ∧ H8 d = some (.lst (sgV cs)) ∧ H8 p = some P8.o ∧ But p H H8, ⟨[], P6, ed2, rfl, by simp, by wtm_at "lk", by wtm_at "lk", bH6.same s7⟩, fun pre post H8 e hv => ?_, fun pre x post H8 e hv => ?_, fun H8 hv => ?_⟩⟩
        · obtain ⟨es, P8, ee, hel, hes, ed8, ep8, b8⟩ := hv
          exact sq_of ed8
        · obtain ⟨es, P8, ee, hel, hes, ed8, ep8, b8⟩ := hv
          have hd2p : d2 ≠ p := Ne.symm (ne_new nd2 e6)
          have hd2d : d2 ≠ d := Ne.symm (ne_new nd2 ec6)
          have nd20 : H d2 = none := bH6.free hd2p nd2
          have hpl : pre.length < 1000 := by
            have := congrArg List.length e
            rw [sgV_len] at this
            simp at this
            omega
          obtain ⟨c, hcc, rfl⟩ : ∃ c, c ∈ cs ∧ x = Tx [c] := by
            have hm : x ∈ sgV cs := by rw [e]; simp
            unfold sgV at hm
            obtain ⟨c, hc, hx⟩ := List.mem_map.mp hm
            exact ⟨c, hc, hx.symm⟩
          wtm_at "unf"
          refine ⟨rfl, ?_⟩
          wtm_at "go"
          refine g_lst (by show 2 ≤ 100000; decide) fun pa H9 npa s9 epa => ?_
          wtm_at "go"
          have hpp : pa ≠ p := Ne.symm (ne_new npa ep8)
          refine ⟨p, P8, 6, rfl, by wtm_at "lk", by decide, by decide, fun v P10 H10 v0 v1 b10 e10 => ?_⟩
          wtm_at "go"
          have epa10 : H10 pa = some (.lst [Tx [c], Tx [lt]]) := But.get b10 hpp epa
          have hd2pa : d2 ≠ pa := ne_new npa ee
          have put : ∀ x : Nat, isSg x → LcPut d2 (fun H8 => ∃ (es : List Nat) (P8 : Rw), H8 d2 = some (.lst (sgV es)) ∧ es.length = (pre ++ [Tx [c]]).length ∧ (∀ c ∈ es, isSg c) ∧ H8 d = some (.lst (sgV cs)) ∧ H8 p = some P8.o ∧ But p H H8) (Tx [x]) H10 := by
            intro x hx
            refine lc_put (acc := sgV es) (But.get b10 hd2p (Same.get s9 ee)) (by rw [sgV_len]; omega) fun H11 b11 e11 => ?_
            rw [← sgV_snoc] at e11
            refine ⟨es ++ [x], P10, e11, by simp; omega, ?_, But.get b11 (Ne.symm hd2d) (But.get b10 hdp (Same.get s9 ed8)), But.get b11 (Ne.symm hd2p) e10, But.b0 b11 ((b8.same s9).trans b10) nd20⟩
            intro y hy
            rcases List.mem_append.mp hy with hy | hy
            · exact hes y hy
            · rw [List.mem_singleton] at hy
              rw [hy]
              exact hx
          by_cases hv1 : V.int v = V.int 1
          · rw [decide_eq_true hv1]
            refine g_ixL (v := Tx [lt]) (sq_of epa10) rfl ?_
            exact put lt (.inl hlt2)
          · rw [decide_eq_false hv1]
            refine g_ixL (v := Tx [c]) (sq_of epa10) rfl ?_
            exact put c (.inr (hcb c hcc))
        · obtain ⟨es, P8, ee, hel, hes, ed8, ep8, b8⟩ := hv
          rw [sgV_len] at hel
          refine g_join0 (sq_of ee) (by omega) ?_
          exact q es P8 H8 (by omega) hes b8 ep8
    · wtm_at "go"
      refine ⟨p, P2, M, kd + 1, rfl, e2, hM, by omega, by omega, fun t0 P3 H3 ht0 hts0 _ b3 e3 => ?_⟩
      wtm_at "go"
      refine ⟨p, P3, 4, rfl, e3, by decide, by decide, fun n P4 H4 n0 n1 b4 e4 => ?_⟩
      obtain ⟨m, rfl⟩ := Int.eq_ofNat_of_zero_le n0
      refine ⟨_, rfl, by omega, by omega, for_rng (fun i σ H' => ∃ (t : List Nat) (P5 : Rw) (y6 y7 y8 : Option V), σ = [some (V.ref p), some (V.int M), some (V.int ((kd + 1 : Nat) : Int)), none, none, some (Tx t), y6, y7, y8, none] ∧ (∀ c ∈ t, isSg c) ∧ t.length ≤ M + i ∧ But p H H' ∧ H' p = some P5.o) ⟨t0, P4, _, _, _, rfl, hts0, by omega, by wtm_at "sm", e4⟩ (fun i σ H' hi hv => ?_) (fun σ H' hv => ?_)⟩
      · obtain ⟨t, P5, y6, y7, y8, rfl, hts, htl, b5, e5⟩ := hv
        rw [Int.toNat_natCast] at hi
        wtm_at "unf"
        wtm_at "go"
        refine ⟨p, P5, _, rfl, e5, by omega, by omega, fun x P6 H6 x0 x1 b6 e6 => ?_⟩
        obtain ⟨at', rfl⟩ := Int.eq_ofNat_of_zero_le x0
        have cutS : ∀ (u : List Nat) (a b : Nat), (∀ c ∈ u, isSg c) → ∀ c ∈ t.take a ++ u ++ t.drop b, isSg c := by
          intro u a b hu c hc
          rcases List.mem_append.mp hc with hc | hc
          · rcases List.mem_append.mp hc with hc | hc
            · exact hts c (List.mem_of_mem_take hc)
            · exact hu c hc
          · exact hts c (List.mem_of_mem_drop hc)
        wtm_at "go"
        refine g_slTo (by omega) (by omega) ?_
        wtm_at "go"
        refine g_slFrom (by omega) (by omega) ?_
        rw [Int.toNat_natCast, show ((at' : Int) + 1).toNat = at' + 1 by omega]
        wtm_at "go"
        refine g_slTo (by omega) (by omega) ?_
        rw [Int.toNat_natCast]
        wtm_at "go"
        refine ⟨p, P6, kd + 1, rfl, e6, by omega, by omega, fun c1 P7 H7 hc1 b7 e7 => ?_⟩
        wtm_at "go"
        refine g_slFrom (by omega) (by omega) ?_
        rw [show ((at' : Int) + 1).toNat = at' + 1 by omega]
        wtm_at "go"
        refine g_lst (by show 2 ≤ 100000; decide) fun la H8 nla s8 ela => ?_
        have hlp : la ≠ p := Ne.symm (ne_new nla e7)
        have nla0 : H la = none := (b5.trans (b6.trans b7)).free hlp nla
        wtm_at "go"
        refine ⟨g_tyL (sq_of ela), ?_⟩
        wtm_at "go"
        refine g_slTo (by omega) (by omega) ?_
        rw [Int.toNat_natCast]
        wtm_at "go"
        refine ⟨p, P7, kd + 1, rfl, by wtm_at "lk", by omega, by omega, fun c2 P9 H9 hc2 b9 e9 => ?_⟩
        wtm_at "go"
        refine g_slFrom (by omega) (by omega) ?_
        rw [Int.toNat_natCast]
        wtm_at "go"
        refine g_append1 (xs := [Tx (t.take at' ++ t.drop (at' + 1)), Tx (t.take at' ++ [c1] ++ t.drop (at' + 1))]) (by wtm_at "lk") (by show 2 < 100000; decide) fun H10 b10 e10 => ?_
        wtm_at "go"
        refine ⟨p, P9, 3, rfl, But.get b10 (Ne.symm hlp) e9, by decide, by decide, fun w P11 H11 w0 w1 b11 e11 => ?_⟩
        obtain ⟨wz, rfl⟩ := Int.eq_ofNat_of_zero_le w0
        have e11l : H11 la = some (.lst ([Tx (t.take at' ++ t.drop (at' + 1)), Tx (t.take at' ++ [c1] ++ t.drop (at' + 1))] ++ [Tx (t.take at' ++ [c2] ++ t.drop at')])) := But.get b11 hlp e10
        have bb : But p H H11 := by
          have x1 : But p H H8 := (b5.trans (b6.trans b7)).same s8
          exact (But.b0 b10 (x1.trans b9) nla0).trans b11
        have sg : ∀ u : List Nat, (∀ c ∈ u, c ∈ BRK) → ∀ c ∈ u, isSg c := fun u h c hc => .inr (h c hc)
        have hw : wz = 0 ∨ wz = 1 ∨ wz = 2 := by omega
        rcases hw with rfl | rfl | rfl
        · refine g_ixL (sq_of e11l) rfl ?_
          refine ⟨_, P11, _, _, _, rfl, ?_, by simp; omega, bb, e11⟩
          have := cutS [] at' (at' + 1) (by simp)
          simpa using this
        · refine g_ixL (sq_of e11l) rfl ?_
          exact ⟨_, P11, _, _, _, rfl, cutS [c1] at' (at' + 1) (sg _ (by simpa using hc1)), by simp; omega, bb, e11⟩
        · refine g_ixL (sq_of e11l) rfl ?_
          exact ⟨_, P11, _, _, _, rfl, cutS [c2] at' at' (sg _ (by simpa using hc2)), by simp; omega, bb, e11⟩
      · obtain ⟨t, P5, y6, y7, y8, rfl, hts, htl, b5, e5⟩ := hv
        rw [Int.toNat_natCast] at htl
        wtm_at "unf"
        wtm_at "go"
        refine g_slTo (by omega) (by omega) ?_
        rw [Int.toNat_natCast]
        exact q _ P5 H' (by simp; omega) (fun c hc => hts c (List.mem_of_mem_take hc)) b5 e5
end
end K37

set_option maxHeartbeats 4000000
namespace K37
open PySem PySem.Spec PyProof.Rows L2 SX Ly
local macro_rules | `(tactic| wtm_at "unf") => `(tactic| (try simp only [tSeq, tNext, tBreak, tCont, tDrop, tRet, tRetN, tIfS, tAsg, tAug, tC, tOp, tUn, tNil, tCons, tOwn, tCB, tTest, tB, tAnd, tOr, tNot, tAndV, tOrV, tNotV, tIf, gName, gSub, tBM, tBM0, tM0, tM1, tSl, tPart_eq, tNoPart, tLst_eq, tTup_eq, tRevL_eq, C8.tCut, wipe, tYes, gTup, gCons, gNil, List.set_cons_zero, List.set_cons_succ, if_true, if_false, Bool.false_eq_true, Bool.not_true, Bool.not_false, true_and, reduceIte, cx_K, tFor_eq, tLc_eq, iStr, iList, iTup, iRng1, iRng2, iRng3, iEnum, iZip, iEnumS, iZipS]))
local macro_rules | `(tactic| wtm_at "ne") => `(tactic| first | assumption | (apply Ne.symm; assumption) | (apply ne_new; (· assumption); (· wtm_at "lk")) | (apply Ne.symm; apply ne_new; (· assumption); (· wtm_at "lk")))
local macro_rules | `(tactic| wtm_at "lk") => `(tactic| first | assumption | exact upd_same | (apply Same.get; (· assumption); (· wtm_at "lk")) | (apply But.get; (· assumption); (· wtm_at "ne"); (· wtm_at "lk")))
local macro_rules | `(tactic| wtm_at "sq") => `(tactic| first | assumption | (apply sq_of; wtm_at "lk") | (apply Same.seq; (· assumption); (· wtm_at "sq")) | (apply But.sq; (· assumption); (· wtm_at "ne"); (· wtm_at "sq")))
local macro_rules | `(tactic| wtm_at "fr") => `(tactic| first | assumption | (apply Same.fr; (· assumption); (· wtm_at "sm")) | (apply But.fr; (· assumption); (· wtm_at "sm"); (· wtm_at "ne")))
local macro_rules | `(tactic| wtm_at "sm") => `(tactic| first | exact Same.refl _ | exact But.refl | assumption | (apply Same.tr; (· assumption); (· wtm_at "sm")) | (apply Same.b0; (· assumption); (· wtm_at "sm"); (· wtm_at "fr")) | (apply But.sa; (· assumption); (· wtm_at "sm")) | (apply But.tr; (· assumption); (· wtm_at "sm")) | (apply But.b0; (· assumption); (· wtm_at "sm"); (· wtm_at "fr")) | (apply Same.toBut; wtm_at "sm"))
local macro_rules | `(tactic| wtm_at "sc") => `(tactic| first | exact Int.zero_lt_one | (show (0 : Int) < _; omega) | (show (0 : Int) < _; decide) | exact ⟨by omega, by omega⟩ | exact .inl ⟨by omega, by omega⟩ | exact .inr ⟨by omega, by omega⟩)
local macro_rules | `(tactic| wtm_at "go1") => `(tactic| first | ((with_reducible apply g_var); (· exact rfl)) | with_reducible apply g_I0 | ((with_reducible apply g_I); (· wtm_at "sc")) | with_reducible apply g_U | with_reducible apply g_ipI | ((with_reducible apply g_addT); (· first | omega | (simp; done) | (simp; omega))) | with_reducible apply g_inT | with_reducible apply g_ninT | ((with_reducible apply g_lenT); (· omega)) | with_reducible apply g_findT1 | with_reducible apply g_str | with_reducible apply g_part | with_reducible apply g_intB | ((with_reducible apply g_ixL); (· wtm_at "sq"); (· exact rfl)) | ((with_reducible apply g_setL); (· wtm_at "lk"); (· exact rfl)) | ((with_reducible apply g_eq); (· rfl)) | ((with_reducible apply g_ne); (· rfl)))
local macro_rules | `(tactic| wtm_at "go") => `(tactic| repeat wtm_at "go1")
local macro_rules | `(tactic| wtm_at "lp") => `(tactic| skip)
local macro_rules | `(tactic| wtm_at "om") => `(tactic| first | omega | (simp; done) | (simp; omega) | (simp at *; omega))

section
variable {P : Program} {w : World} {K : PySem.W.Frag} {mg : Str → Option Value} {base : Heap}
/-! _law_is_clean -/
def sp_law_is_clean : Sp := fun vs H Q _ => ∃ l : List Nat, vs = [Tx l] ∧ l.length ≤ 1000 ∧ ∀ H', Same H H' → Q (.bl (decide (clean l))) H'
theorem ok_law_is_clean (T : Facts K mg) : C8.Cal P w K mg base 1 "_law_is_clean" sp_law_is_clean [] := by
  refine calD T.f_law_is_clean sc_law_is_clean (fun vs H Q E h => ?_) (fun f cdv A outer s H vs Q E hr h => ?_)
  · obtain ⟨l, rfl, hl, q⟩ := h; rfl
  · obtain ⟨l, rfl, hl, q⟩ := h
    refine ⟨_, (pss_cons (ps_set (i := 0) sc_law_is_clean.nd rfl (Or.inl rfl) (pe_m1 PySem.F.slot_str_join PySem.F.type_str_join mt_joinT (pe_strS (l := []) (by decide +kernel)) (pe_lc (own := [("sign", 3)]) (by rfl) sc_law_is_clean.nd (pi_str (pv 0)) (blkOk_by (own := [("sign", 3)]) (N := N_law_is_clean) (sc := defScope s_law_is_clean) (by decide +kernel)) (fun _ _ _ _ _ => (pg_name (i := 3) sc_law_is_clean.nd rfl (Or.inl rfl))) (fun _ _ _ _ _ => (pts_one (pt_cmpR op_inT (pv 3) (pe_strS (l := BRK) (by decide +kernel)) (by rfl)))) (fun _ _ _ _ _ => (pv 3)))))
       (pss_cons (ps_set (i := 1) sc_law_is_clean.nd rfl (Or.inl rfl) (pe_un un_neg pe_int))
       (pss_cons (ps_while PassesOwn.never (pt_cmpR op_ne (pv 1) (pe_callB call_lenT rfl T.b_len PySem.boot_len (pa_cons (pv 0) pa_nil)) (nomark _))
       (pss_asgT (i := 1) sc_law_is_clean.nd rfl rfl (pe_callB call_lenT rfl T.b_len PySem.boot_len (pa_cons (pv 0) pa_nil)) (CwR.psst_one (pst_rm (ik := 0) (ip := 2) PassesOwn.never rfl sc_law_is_clean.nd rfl rfl rfl rfl (by decide) (by decide +kernel) (by decide +kernel) (by decide +kernel) (by decide +kernel) (by decide +kernel) (by decide) (by decide) (by decide)))))
       (pss_one (ps_ret (pe_cmpR op_eq (pv 0) (pe_strS (l := []) (by decide +kernel)) (nomark _))))))), ?_⟩
    rw [st_law_is_clean]
    wtm_at "unf"
    wtm_at "go"
    refine ⟨_, rfl, lc_txt fun d H10 nd s10 ed => ⟨fun pre H11 => H11 d = some (.lst (sgV (pre.filter fun c => decide (c ∈ BRK)))) ∧ Same H H11, ⟨ed, s10⟩, fun pre c post H11 e hv => ?_, fun H11 hv => ?_⟩⟩
    · obtain ⟨e11, s11⟩ := hv
      have hpl : pre.length < 1000 := by rw [e] at hl; simp at hl; omega
      have hfl := List.length_filter_le (fun c => decide (c ∈ BRK)) pre
      wtm_at "unf"
      refine ⟨rfl, ?_⟩
      wtm_at "go"
      refine g_test (fun h => ?_) (fun h => ?_)
      · wtm_at "go"
        refine lc_put (acc := sgV (pre.filter fun c => decide (c ∈ BRK))) e11 (by rw [sgV_len]; omega) fun H12 b12 e12 => ?_
        rw [← sgV_snoc] at e12
        refine ⟨?_, by wtm_at "sm"⟩
        rw [List.filter_append, List.filter_cons_of_pos (by simpa using h)]
        exact e12
      · refine ⟨?_, s11⟩
        rw [List.filter_append, List.filter_cons_of_neg (by simpa using h)]
        simpa using e11
    · obtain ⟨e11, s11⟩ := hv
      have hfl := List.length_filter_le (fun c => decide (c ∈ BRK)) l
      have hfb : allB (l.filter fun c => decide (c ∈ BRK)) := fun c hc => by simpa using (List.mem_filter.mp hc).2
      have hfc := clean_only l
      refine g_join0 (sq_of e11) (by omega) ?_
      generalize l.filter (fun c => decide (c ∈ BRK)) = r0 at hfl hfb hfc
      wtm_at "go"
      refine g_while (fun m σ H2 => ∃ (r : List Nat) (av : Int) (y : Option V), σ = [some (Tx r), some (V.int av), y, none] ∧ Same H H2 ∧ allB r ∧ (clean r ↔ clean l) ∧ r.length ≤ 1000 ∧ ((av = -1 ∧ m = r.length + 1) ∨ ∃ b : List Nat, av = b.length ∧ r = rm4 b ∧ m = b.length ∧ allB b ∧ (clean b ↔ clean l))) _ ⟨r0, -1, _, rfl, s11, hfb, hfc, by omega, .inl ⟨rfl, rfl⟩⟩ (fun m σ H2 hw => ?_)
      obtain ⟨r, av, y, rfl, s2, hb, hcl, hrl, hav⟩ := hw
      have body : ∀ m, (∀ m', m' = r.length → m' < m) → ∀ av : Int, WhB (tSeq (tAsg (tCB rLenT (tCons (tVar 0) tNil)) (gName 1)) (tRm 0 2)) { nx := tRet (tOp rEq (tVar 0) (tC (Tx []))) { nx := fun x H' => Q V.non H', rt := Q }, rt := Q } (fun m σ H2 => ∃ (r : List Nat) (av : Int) (y : Option V), σ = [some (Tx r), some (V.int av), y, none] ∧ Same H H2 ∧ allB r ∧ (clean r ↔ clean l) ∧ r.length ≤ 1000 ∧ ((av = -1 ∧ m = r.length + 1) ∨ ∃ b : List Nat, av = b.length ∧ r = rm4 b ∧ m = b.length ∧ allB b ∧ (clean b ↔ clean l))) m [some (Tx r), some (V.int av), y, none] H2 := by
        intro m hm av
        refine g_whb ?_
        obtain ⟨r1, r2, r3⟩ := rm4_le r
        wtm_at "unf"
        wtm_at "go"
        refine ⟨r, rfl, hrl, fun H3 s3 => ?_⟩
        exact ⟨r.length, hm _ rfl, rm4 r, r.length, _, rfl, s2.trans s3, fun c hc => hb c (r3 c hc), (rm4_clean r).trans hcl, by omega, .inr ⟨r, rfl, rfl, rfl, hb, hcl⟩⟩
      wtm_at "unf"
      wtm_at "go"
      rcases hav with ⟨rfl, rfl⟩ | ⟨b, rfl, hrb, rfl, hbb, hbc⟩
      · refine g_testN (fun h => ?_) (fun h => ?_)
        · exact body _ (by omega) _
        · exact absurd (V.int.inj h) (by omega)
      · obtain ⟨r1, r2, r3⟩ := rm4_le b
        refine g_testN (fun h => ?_) (fun h => ?_)
        · have hne : b.length ≠ r.length := fun h' => h (by rw [h'])
          refine body _ (fun m' hm' => ?_) _
          rw [hm']
          rw [← hrb] at r1
          omega
        · have hlen : r.length = b.length := by
            have := V.int.inj h
            omega
          have hrb2 : r = b := by
            have h2 := r2 (by rw [← hrb]; exact hlen)
            rw [hrb]
            unfold rm4
            rw [h2 40 (by decide), h2 60 (by decide), h2 91 (by decide), h2 123 (by decide)]
          wtm_at "unf"
          wtm_at "go"
          have hend := rm4_end hb (by rw [hrb2, ← hrb, hrb2])
          have hh : decide (Tx r = Tx []) = decide (clean l) := by
            rw [decide_eq_decide, Tx_inj, ← hcl, hend]
          rw [hh]
          exact q H2 s2
/-! is_clean_stretch -/
def sp_is_clean_stretch : Sp := fun vs H Q _ => ∃ (l : List Nat) (b e : Nat), vs = [Tx l, .int b, .int e] ∧ l.length ≤ 1000 ∧ b < e ∧ e ≤ l.length ∧ ∀ H', Same H H' → Q (.bl (decide (clean (seg l b e)))) H'
theorem ok_is_clean_stretch (T : Facts K mg) : C8.Cal P w K mg base 5 "is_clean_stretch" sp_is_clean_stretch [] := by
  refine calD T.f_is_clean_stretch sc_is_clean_stretch (fun vs H Q E h => ?_) (fun f cdv A outer s H vs Q E hr h => ?_)
  · obtain ⟨l, b, e, rfl, hl, hbe, he, q⟩ := h; rfl
  · obtain ⟨l, b, e, rfl, hl, hbe, he, q⟩ := h
    refine ⟨_, (pss_cons (ps_set (i := 3) sc_is_clean_stretch.nd rfl (Or.inl rfl) (pe_own (ok_next_places T) hr (by decide) rfl (pa_cons (pv 0) pa_nil)))
       (pss_cons (ps_set (i := 4) sc_is_clean_stretch.nd rfl (Or.inl rfl) (pe_ix ix_list (pv 3) (pv 1) (fun _ _ => rfl)))
       (pss_cons (ps_while PassesOwn.never (PW.pt (pw_and (pt_cmpR op_notN (pv 4) pe_non (nomark _)) (pw_and1 (pt_cmpR op_lt (pv 4) (pv 2) (nomark _)))))
       (pss_one (ps_set (i := 4) sc_is_clean_stretch.nd rfl (Or.inl rfl) (pe_ix ix_list (pv 3) (pv 4) (fun _ _ => rfl)))))
       (pss_one (ps_ret (pe_cmpR op_eq (pv 4) (pv 2) (nomark _))))))), ?_⟩
    rw [st_is_clean_stretch]
    wtm_at "unf"
    wtm_at "go"
    refine ⟨l, rfl, hl, fun na H1 nna s1 ena => ?_⟩
    wtm_at "go"
    refine g_ixL (sq_of ena) (atI_of (mtV_at (nxL_at (show b < l.length by omega)))) ?_
    refine g_while (fun m σ H2 => ∃ x : Option Nat, σ = [some (Tx l), some (V.int b), some (V.int e), some (V.ref na), some (optV x)] ∧ H2 = H1 ∧ ((x = none ∧ ¬ clean (seg l b e)) ∨ ∃ a, x = some a ∧ Chn l b e a ∧ l.length - a ≤ m)) l.length ?_ (fun m σ H2 hw => ?_)
    · refine ⟨aft l b, rfl, rfl, ?_⟩
      rcases aft_chain (l := l) (i := b) (by omega) with ⟨h1, h2⟩ | ⟨k, h1, h2, h3, h4, h5⟩
      · exact .inl ⟨h1, h2 e hbe he⟩
      · exact .inr ⟨k, h1, ⟨h2, h3, h4, h5 e hbe he⟩, by omega⟩
    · obtain ⟨x, rfl, rfl, hx⟩ := hw
      wtm_at "unf"
      wtm_at "go"
      rcases hx with ⟨rfl, hx⟩ | ⟨a, rfl, C, hma⟩
      · refine ⟨false, rfl, ?_⟩
        rw [if_neg Bool.false_ne_true]
        wtm_at "unf"
        wtm_at "go"
        rw [show decide (optV none = V.int (e : Int)) = decide (clean (seg l b e)) by rw [decide_eq_false hx]; rfl]
        exact q _ s1
      · refine ⟨true, rfl, ?_⟩
        rw [if_pos rfl, show optV (some a) = V.int (a : Int) from rfl]
        wtm_at "go"
        refine g_test (fun h => ?_) (fun h => ?_)
        · refine g_whb ?_
          have hae : a < e := by omega
          wtm_at "unf"
          wtm_at "go"
          refine g_ixL (sq_of ena) (atI_of (mtV_at (nxL_at (show a < l.length by omega)))) ?_
          rcases chn_step C hae he with ⟨h1, h2⟩ | ⟨k, h1, h2, h3⟩
          · exact ⟨0, by omega, aft l a, rfl, rfl, .inl ⟨h1, h2⟩⟩
          · exact ⟨l.length - k, by have := h3.2.1; omega, aft l a, rfl, rfl, .inr ⟨k, h1, h3, Nat.le_refl _⟩⟩
        · wtm_at "unf"
          wtm_at "go"
          have hh : decide (V.int (a : Int) = V.int (e : Int)) = decide (clean (seg l b e)) := by
            rw [decide_eq_decide, ← chn_end C (by omega)]
            constructor
            · intro h'
              have := V.int.inj h'
              omega
            · rintro rfl
              rfl
          rw [hh]
          exact q _ s1
/-! _law_right -/
def sp_law_right : Sp := fun vs H Q _ => ∃ l : List Nat, vs = [Tx l] ∧ l.length ≤ 100 ∧ ∀ H', Same H H' → Q (.bl true) H'
theorem ok_law_right (T : Facts K mg) : C8.Cal P w K mg base 6 "_law_right" sp_law_right [] := by
  refine calD T.f_law_right sc_law_right (fun vs H Q E h => ?_) (fun f cdv A outer s H vs Q E hr h => ?_)
  · obtain ⟨l, rfl, hl, q⟩ := h; rfl
  · obtain ⟨l, rfl, hl, q⟩ := h
    refine ⟨_, (pss_cons (ps_set (i := 1) sc_law_right.nd rfl (Or.inl rfl) pe_int)
       (pss_cons (ps_for PassesOwn.never rfl (pi_range1 rfl T.b_range (pa_cons (pe_callB call_lenT rfl T.b_len PySem.boot_len (pa_cons (pv 0) pa_nil)) pa_nil)) (pg_name (i := 2) sc_law_right.nd rfl (Or.inl rfl))
       (pss_one (ps_for PassesOwn.never rfl (pi_range2 rfl T.b_range (pa_cons (pe_op op_add (pv 2) pe_int) (pa_cons (pe_op op_add (pe_callB call_lenT rfl T.b_len PySem.boot_len (pa_cons (pv 0) pa_nil)) pe_int) pa_nil))) (pg_name (i := 3) sc_law_right.nd rfl (Or.inl rfl))
       (pss_cons (ps_set (i := 4) sc_law_right.nd rfl (Or.inl rfl) (pe_own (ok_law_is_clean T) hr (by decide) rfl (pa_cons (pe_slice sl_tx (pv 0) (po_some (pv 2)) (po_some (pv 3))) pa_nil)))
       (pss_cons (ps_set (i := 5) sc_law_right.nd rfl (Or.inl rfl) (pe_own (ok_is_clean_stretch T) hr (by decide) rfl (pa_cons (pv 0) (pa_cons (pv 2) (pa_cons (pv 3) pa_nil)))))
       (pss_cons (ps_ifC (PW.pt (pw_or (pt_not (pt_val (pe_callB call_isi rfl T.b_isinstance (by decide +kernel) (pa_cons (pv 5) (pa_cons (pe_bltn (v := .ty "bool") rfl T.b_bool (by decide +kernel) rfl) pa_nil))))) (pw_or1 (pt_cmpR op_ne (pv 5) (pv 4) (nomark _)))))
       (pss_one (ps_ret pe_bl))
       pss_nil)
       (pss_one (ps_set (i := 1) sc_law_right.nd rfl (Or.inl rfl) (pe_op op_add (pv 1) (pe_callTy call_intB rfl T.b_int (by decide +kernel) (pa_cons (pv 4) pa_nil)))))))))))
       (pss_cons (ps_set (i := 5) sc_law_right.nd rfl (Or.inl rfl) (pe_own (ok_many_clean T) hr (by decide) rfl (pa_cons (pv 0) pa_nil)))
       (pss_one (ps_ret (pe_and (pe_callB call_isi rfl T.b_isinstance (by decide +kernel) (pa_cons (pv 5) (pa_cons (pe_bltn (v := .ty "int") rfl T.b_int (by decide +kernel) rfl) pa_nil))) (pe_and (pe_not (pe_callB call_isi rfl T.b_isinstance (by decide +kernel) (pa_cons (pv 5) (pa_cons (pe_bltn (v := .ty "bool") rfl T.b_bool (by decide +kernel) rfl) pa_nil)))) (pe_one (pe_cmpR op_eq (pv 5) (pv 1) (nomark _)))))))))), ?_⟩
    rw [st_law_right]
    wtm_at "unf"
    wtm_at "go"
    refine ⟨_, rfl, by omega, by omega, for_rng (fun i σ H' => ∃ y2 y3 y4 y5, σ = [some (Tx l), some (V.int (sumTo l i : Int)), y2, y3, y4, y5] ∧ Same H H') ⟨_, _, _, _, rfl, Same.refl _⟩ (fun i σ H' hi hv => ?_) (fun σ H' hv => ?_)⟩
    · obtain ⟨y2, y3, y4, y5, rfl, sH⟩ := hv
      rw [Int.toNat_natCast] at hi
      rw [Int.zero_add]
      wtm_at "unf"
      wtm_at "go"
      refine ⟨_, _, rfl, ⟨by omega, by omega, by omega, by omega⟩, ?_⟩
      rw [show ((l.length : Int) + 1 - ((i : Int) + 1)).toNat = l.length - i by omega]
      refine for_rng (fun j σ H' => ∃ y3 y4 y5, σ = [some (Tx l), some (V.int ((sumTo l i + cpTo l i j : Nat) : Int)), some (V.int i), y3, y4, y5] ∧ Same H H') ⟨_, _, _, rfl, sH⟩ (fun j σ H' hj hv => ?_) (fun σ H' hv => ?_)
      · obtain ⟨y3, y4, y5, rfl, sH⟩ := hv
        rw [show ((i : Int) + 1 + (j : Int)) = ((i + 1 + j : Nat) : Int) by omega]
        wtm_at "unf"
        wtm_at "go"
        refine g_slBoth (by omega) (by omega) (by omega) ?_
        refine ⟨_, rfl, by simp; omega, fun H2 s2 => ?_⟩
        wtm_at "go"
        refine ⟨l, i, i + 1 + j, rfl, by omega, by omega, by omega, fun H3 s3 => ?_⟩
        rw [show decide (clean ((l.take (i + 1 + j)).drop i)) = decide (clean (seg l i (i + 1 + j))) from rfl]
        refine g_ifC (b := false) (fun Q q => ?_) (fun h => ?_) (fun h => ?_)
        · wtm_at "unf"
          wtm_at "go"
          refine g_isi (b := true) ty_bl (by decide +kernel) ?_
          refine ⟨_, rfl, ?_⟩
          wtm_at "unf"
          wtm_at "go"
          rw [decide_eq_true rfl]
          exact ⟨_, rfl, q⟩
        · cases h
        · wtm_at "unf"
          wtm_at "go"
          have hh : (((sumTo l i + cpTo l i j : Nat) : Int) + (if decide (clean (seg l i (i + 1 + j))) = true then 1 else 0)) = ((sumTo l i + (cpTo l i j + if clean (seg l i (i + 1 + j)) then 1 else 0) : Nat) : Int) := by
            by_cases hc : clean (seg l i (i + 1 + j))
            · simp [hc]; omega
            · simp [hc]
          rw [hh, ← cpTo_succ]
          exact ⟨_, _, _, rfl, by wtm_at "sm"⟩
      · obtain ⟨y3, y4, y5, rfl, sH⟩ := hv
        rw [cpTo_all, ← sumTo_succ]
        exact ⟨_, _, _, _, rfl, sH⟩
    · obtain ⟨y2, y3, y4, y5, rfl, sH⟩ := hv
      rw [Int.toNat_natCast, sumTo_all]
      wtm_at "unf"
      wtm_at "go"
      refine ⟨l, rfl, by omega, fun H2 s2 => ?_⟩
      wtm_at "go"
      refine g_isi (b := true) ty_int (by decide +kernel) ?_
      refine ⟨_, rfl, ?_⟩
      rw [if_pos rfl]
      wtm_at "go"
      refine g_isi (b := false) ty_int (by decide +kernel) ?_
      refine ⟨_, rfl, _, rfl, ?_⟩
      rw [Bool.not_false, if_pos rfl]
      wtm_at "go"
      rw [decide_eq_true rfl]
      exact q _ (by wtm_at "sm")
/-! law -/
def spLaw (K : PySem.W.Frag) : Sp := fun vs H Q _ => ∃ (a : Addr) (ns : List Int), vs = [.ref a] ∧ SqL K H a (ns.map V.int) ∧ ns.length ≤ 63 ∧ ∀ H', Q (.bl true) H'
theorem ok_law {f : Addr} {fd : FuncData} (T : Facts K mg) (F : FunD K "law" "law" (defArgs s_law) (defBody s_law) (defScope s_law) [] [] f fd) : FnOk P w K mg base C8.CX0 7 f fd ["script"] (spLaw K) := by
  refine fnD F sc_law (fun vs H Q E h => ?_) (fun cdv A outer s H vs Q E hr h => ?_)
  · obtain ⟨a, ns, rfl, hS, hlen, q⟩ := h; rfl
  · obtain ⟨a, ns, rfl, hS, hlen, q⟩ := h
    refine ⟨_, (pss_cons (ps_for PassesOwn.never rfl (pi_list (pe_op op_cat (pe_lst (pa_cons pe_int pa_nil)) (pe_slice sl_list (pv 0) po_none (po_some pe_int)))) (pg_name (i := 1) sc_law.nd rfl (Or.inl rfl))
       (pss_one (ps_if (pt_not (pt_val (pe_own (ok_law_right T) hr (by decide) rfl (pa_cons (pe_own (ok_law_text T) hr (by decide) rfl (pa_cons (pe_own (ok_law_stream T) hr (by decide) rfl (pa_cons (pv 1) pa_nil)) (pa_cons pe_int pa_nil))) pa_nil))))
       (pss_one (ps_ret pe_bl))
       pss_nil)))
       (pss_one (ps_ret (pe_and (pe_cmpR op_eq (pe_own (ok_many_clean T) hr (by decide) rfl (pa_cons (pe_strS (l := []) (by decide +kernel)) pa_nil)) pe_int (nomark _)) (pe_and (pe_cmpR op_eq (pe_own (ok_many_clean T) hr (by decide) rfl (pa_cons (pe_strS (l := [40, 113, 41]) (by decide +kernel)) pa_nil)) pe_int (nomark _)) (pe_and (pe_cmpR op_eq (pe_own (ok_many_clean T) hr (by decide) rfl (pa_cons (pe_strS (l := [40, 93, 41]) (by decide +kernel)) pa_nil)) pe_int (nomark _)) (pe_one (pe_cmpR op_eq (pe_own (ok_many_clean T) hr (by decide) rfl (pa_cons (pe_strS (l := [40, 91, 41, 93, 113]) (by decide +kernel)) pa_nil)) pe_int (nomark _))))))))), ?_⟩
    rw [st_law]
    wtm_at "unf"
    wtm_at "go"
    refine g_lst (by show 1 ≤ 100000; decide) fun c2 H1 n2 s1 e2 => ?_
    wtm_at "go"
    refine g_slL (Same.seq s1 hS) fun c1 H2 n1 s2 e1 => ?_
    obtain ⟨ms, ems, hms⟩ := cut_ints ns none (some 12)
    rw [ems] at e1
    refine g_cat (by wtm_at "lk") e1 (by simp; omega) fun c3 H3 n3 s3 e3 => ?_
    obtain ⟨zs, ezs⟩ : ∃ zs : List Int, [V.int 0] ++ ms.map V.int = zs.map V.int := ⟨0 :: ms, rfl⟩
    rw [ezs] at e3
    refine ⟨_, rfl, ⟨_, sq_of e3⟩, for_lst (zs.map V.int) (fun pre σ H' => ∃ y1, σ = [some (V.ref a), y1] ∧ Same H3 H') ⟨_, rfl, Same.refl _⟩ (fun pre post σ H' e hv => ?_) (fun pre x post σ H' e hv => ?_) (fun σ H' hv => ?_)⟩
    · obtain ⟨y1, rfl, sH⟩ := hv
      exact sq_of (by wtm_at "lk")
    · obtain ⟨y1, rfl, sH⟩ := hv
      obtain ⟨z, rfl⟩ : ∃ z, x = V.int z := by
        have hm : x ∈ zs.map V.int := by rw [e]; simp
        obtain ⟨z, _, hz⟩ := List.mem_map.mp hm
        exact ⟨z, hz.symm⟩
      wtm_at "unf"
      wtm_at "go"
      refine ⟨z, rfl, fun p P1 H5 np s5 e5 => ?_⟩
      refine ⟨p, P1, 16, rfl, e5, by decide, fun l P2 H6 hl hs b6 e6 => ?_⟩
      refine ⟨l, rfl, by omega, fun H7 s7 => ?_⟩
      refine ⟨_, rfl, ?_⟩
      exact ⟨_, rfl, by wtm_at "sm"⟩
    · obtain ⟨y1, rfl, sH⟩ := hv
      wtm_at "unf"
      wtm_at "go"
      refine ⟨[], rfl, by decide, fun H5 s5 => ?_⟩
      wtm_at "go"
      refine ⟨true, rfl, ?_⟩
      rw [if_pos rfl]
      refine ⟨_, rfl, by decide, fun H6 s6 => ?_⟩
      rw [show many [40, 113, 41] = 2 by decide +kernel]
      wtm_at "go"
      refine ⟨true, rfl, ?_⟩
      rw [if_pos rfl]
      refine ⟨_, rfl, by decide, fun H7 s7 => ?_⟩
      rw [show many [40, 93, 41] = 0 by decide +kernel]
      wtm_at "go"
      refine ⟨true, rfl, ?_⟩
      rw [if_pos rfl]
      refine ⟨_, rfl, by decide, fun H8 s8 => ?_⟩
      rw [show many [40, 91, 41, 93, 113] = 1 by decide +kernel]
      wtm_at "go"
      exact q _
end
end K37

set_option maxHeartbeats 0
namespace K37
open PySem PySem.Spec PyProof.Rows L2 SX Ly
/-! ### the head -/
def d_kind_of : He.DefD := ⟨("kind_of", none), "kind_of", "kind_of", defArgs s_kind_of, defBody s_kind_of, defScope s_kind_of, [], []⟩
def d_other_side : He.DefD := ⟨("other_side", none), "other_side", "other_side", defArgs s_other_side, defBody s_other_side, defScope s_other_side, [], []⟩
def d_partners : He.DefD := ⟨("partners", none), "partners", "partners", defArgs s_partners, defBody s_partners, defScope s_partners, [], []⟩
def d_next_places : He.DefD := ⟨("next_places", none), "next_places", "next_places", defArgs s_next_places, defBody s_next_places, defScope s_next_places, [], []⟩
def d_is_clean_stretch : He.DefD := ⟨("is_clean_stretch", none), "is_clean_stretch", "is_clean_stretch", defArgs s_is_clean_stretch, defBody s_is_clean_stretch, defScope s_is_clean_stretch, [], []⟩
def d_many_clean : He.DefD := ⟨("many_clean", none), "many_clean", "many_clean", defArgs s_many_clean, defBody s_many_clean, defScope s_many_clean, [], []⟩
def d_law_stream : He.DefD := ⟨("_law_stream", none), "_law_stream", "_law_stream", defArgs s_law_stream, defBody s_law_stream, defScope s_law_stream, [], []⟩
def d_law_take : He.DefD := ⟨("_law_take", none), "_law_take", "_law_take", defArgs s_law_take, defBody s_law_take, defScope s_law_take, [], []⟩
def d_law_bracket : He.DefD := ⟨("_law_bracket", none), "_law_bracket", "_law_bracket", defArgs s_law_bracket, defBody s_law_bracket, defScope s_law_bracket, [], []⟩
def d_law_clean : He.DefD := ⟨("_law_clean", none), "_law_clean", "_law_clean", defArgs s_law_clean, defBody s_law_clean, defScope s_law_clean, [], []⟩
def d_law_text : He.DefD := ⟨("_law_text", none), "_law_text", "_law_text", defArgs s_law_text, defBody s_law_text, defScope s_law_text, [], []⟩
def d_law_is_clean : He.DefD := ⟨("_law_is_clean", none), "_law_is_clean", "_law_is_clean", defArgs s_law_is_clean, defBody s_law_is_clean, defScope s_law_is_clean, [], []⟩
def d_law_right : He.DefD := ⟨("_law_right", none), "_law_right", "_law_right", defArgs s_law_right, defBody s_law_right, defScope s_law_right, [], []⟩
def d_law : He.DefD := ⟨("law", none), "law", "law", defArgs s_law, defBody s_law, defScope s_law, [], []⟩
def fn : List He.DefD := [d_kind_of, d_other_side, d_partners, d_next_places, d_is_clean_stretch, d_many_clean, d_law_stream, d_law_take, d_law_bracket, d_law_clean, d_law_text, d_law_is_clean, d_law_right, d_law]
def fa : List He.Fa := [.glo "kind_of", .glo "other_side", .glo "partners", .glo "next_places", .glo "is_clean_stretch", .glo "many_clean", .glo "_law_stream", .glo "_law_take", .glo "_law_bracket", .glo "_law_clean", .glo "_law_text", .glo "_law_is_clean", .glo "_law_right", .glo "law", .str "OPENING" (S OPN), .str "CLOSING" (S CLO), .free "len", .free "int", .free "range", .free "enumerate", .free "isinstance", .free "bool", .free "sum"]
abbrev R : PySem.W.OpenRow := PySem.W.OpenLaw.row PySem.Challenge.rw_nestmend_k37_clean_stretches
abbrev hk : PySem.W.Hook := He.hookD 4 fa fn
def ob (s : PySem.W.SharedT) : He.AlD := He.obsDG 4 fa fn (HandSHeadRun.getT s)
theorem ob_eq (s : PySem.W.SharedT) : ob s = hk.obs s.abs := He.obsDG_eq (HandSHeadRun.getT_eq s)
def loose : List Str := ["OPENING", "CLOSING", "kind_of", "other_side", "partners", "next_places", "is_clean_stretch", "many_clean", "_law_stream", "_law_take", "_law_bracket", "_law_clean", "_law_text", "_law_is_clean", "_law_right"]
theorem run (w : World) : HandSHeadRun.RunEq R (PySem.W.view R.prog [18]) hk ob 3000 loose w := by
  intro os
  kernel_rfl
theorem facts {K : PySem.W.Frag} {h : Heap} {mg : Str → Option Value} (X : K.In h) (G : h.Ns mainGlobals mg) (c : He.SaysD fa fn K) : Facts K mg where
  f_kind_of := by
    obtain ⟨fd, F⟩ := c.def_ 0 (d := d_kind_of) rfl
    exact ⟨_, fd, F, He.glo_ok X G (c.fact 0 (f := .glo "kind_of") rfl), FunD.bindsN F fun _ _ _ _ _ _ us hl => match us, hl with | [_], _ => rfl⟩
  f_other_side := by
    obtain ⟨fd, F⟩ := c.def_ 1 (d := d_other_side) rfl
    exact ⟨_, fd, F, He.glo_ok X G (c.fact 1 (f := .glo "other_side") rfl), FunD.bindsN F fun _ _ _ _ _ _ us hl => match us, hl with | [_], _ => rfl⟩
  f_partners := by
    obtain ⟨fd, F⟩ := c.def_ 2 (d := d_partners) rfl
    exact ⟨_, fd, F, He.glo_ok X G (c.fact 2 (f := .glo "partners") rfl), FunD.bindsN F fun _ _ _ _ _ _ us hl => match us, hl with | [_], _ => rfl⟩
  f_next_places := by
    obtain ⟨fd, F⟩ := c.def_ 3 (d := d_next_places) rfl
    exact ⟨_, fd, F, He.glo_ok X G (c.fact 3 (f := .glo "next_places") rfl), FunD.bindsN F fun _ _ _ _ _ _ us hl => match us, hl with | [_], _ => rfl⟩
  f_is_clean_stretch := by
    obtain ⟨fd, F⟩ := c.def_ 4 (d := d_is_clean_stretch) rfl
    exact ⟨_, fd, F, He.glo_ok X G (c.fact 4 (f := .glo "is_clean_stretch") rfl), FunD.bindsN F fun _ _ _ _ _ _ us hl => match us, hl with | [_, _, _], _ => rfl⟩
  f_many_clean := by
    obtain ⟨fd, F⟩ := c.def_ 5 (d := d_many_clean) rfl
    exact ⟨_, fd, F, He.glo_ok X G (c.fact 5 (f := .glo "many_clean") rfl), FunD.bindsN F fun _ _ _ _ _ _ us hl => match us, hl with | [_], _ => rfl⟩
  f_law_stream := by
    obtain ⟨fd, F⟩ := c.def_ 6 (d := d_law_stream) rfl
    exact ⟨_, fd, F, He.glo_ok X G (c.fact 6 (f := .glo "_law_stream") rfl), FunD.bindsN F fun _ _ _ _ _ _ us hl => match us, hl with | [_], _ => rfl⟩
  f_law_take := by
    obtain ⟨fd, F⟩ := c.def_ 7 (d := d_law_take) rfl
    exact ⟨_, fd, F, He.glo_ok X G (c.fact 7 (f := .glo "_law_take") rfl), FunD.bindsN F fun _ _ _ _ _ _ us hl => match us, hl with | [_, _], _ => rfl⟩
  f_law_bracket := by
    obtain ⟨fd, F⟩ := c.def_ 8 (d := d_law_bracket) rfl
    exact ⟨_, fd, F, He.glo_ok X G (c.fact 8 (f := .glo "_law_bracket") rfl), FunD.bindsN F fun _ _ _ _ _ _ us hl => match us, hl with | [_, _], _ => rfl⟩
  f_law_clean := by
    obtain ⟨fd, F⟩ := c.def_ 9 (d := d_law_clean) rfl
    exact ⟨_, fd, F, He.glo_ok X G (c.fact 9 (f := .glo "_law_clean") rfl), FunD.bindsN F fun _ _ _ _ _ _ us hl => match us, hl with | [_, _, _], _ => rfl⟩
  f_law_text := by
    obtain ⟨fd, F⟩ := c.def_ 10 (d := d_law_text) rfl
    exact ⟨_, fd, F, He.glo_ok X G (c.fact 10 (f := .glo "_law_text") rfl), FunD.bindsN F fun _ _ _ _ _ _ us hl => match us, hl with | [_, _], _ => rfl⟩
  f_law_is_clean := by
    obtain ⟨fd, F⟩ := c.def_ 11 (d := d_law_is_clean) rfl
    exact ⟨_, fd, F, He.glo_ok X G (c.fact 11 (f := .glo "_law_is_clean") rfl), FunD.bindsN F fun _ _ _ _ _ _ us hl => match us, hl with | [_], _ => rfl⟩
  f_law_right := by
    obtain ⟨fd, F⟩ := c.def_ 12 (d := d_law_right) rfl
    exact ⟨_, fd, F, He.glo_ok X G (c.fact 12 (f := .glo "_law_right") rfl), FunD.bindsN F fun _ _ _ _ _ _ us hl => match us, hl with | [_], _ => rfl⟩
  c_OPENING := by
    obtain ⟨t, e⟩ := He.str_ok X G (c.fact 14 (f := .str "OPENING" (S OPN)) rfl)
    exact ⟨_, e, ⟨t, rfl⟩⟩
  c_CLOSING := by
    obtain ⟨t, e⟩ := He.str_ok X G (c.fact 15 (f := .str "CLOSING" (S CLO)) rfl)
    exact ⟨_, e, ⟨t, rfl⟩⟩
  b_len := He.free_ok X G (c.fact 16 (f := .free "len") rfl)
  b_int := He.free_ok X G (c.fact 17 (f := .free "int") rfl)
  b_range := He.free_ok X G (c.fact 18 (f := .free "range") rfl)
  b_enumerate := He.free_ok X G (c.fact 19 (f := .free "enumerate") rfl)
  b_isinstance := He.free_ok X G (c.fact 20 (f := .free "isinstance") rfl)
  b_bool := He.free_ok X G (c.fact 21 (f := .free "bool") rfl)
  b_sum := He.free_ok X G (c.fact 22 (f := .free "sum") rfl)
theorem law_at {K : PySem.W.Frag} {h : Heap} {mg : Str → Option Value} {f : Addr} (X : K.In h) (G : h.Ns mainGlobals mg) (hfa : mg ("law" : Str) = some (.ref f)) (c : He.SaysD fa fn K) :
    ∃ fd : FuncData, (∀ (s : Shared) (v : Value), BindsTo s fd ⟨[v], []⟩ [("script", v)]) ∧ FunD K "law" "law" (defArgs s_law) (defBody s_law) (defScope s_law) [] [] f fd := by
  obtain ⟨fd, F⟩ := c.def_ 13 (d := d_law) rfl
  have e := hfa.symm.trans (He.glo_ok X G (c.fact 13 (f := .glo "law") rfl))
  cases e
  have b := FunD.bindsA (ps := ["script"]) F fun _ _ _ _ _ _ us hl => match us, hl with | [_], _ => rfl
  exact ⟨fd, fun s v => b s [v] rfl, F⟩

end K37
open PySem PySem.W PySem.Calls PyProof.Rows
theorem PySem.Challenge.cw_nestmend_k37_clean_stretches_holds : PySem.Challenge.rw_nestmend_k37_clean_stretches.Holds := by
  w_on; o_law
  refine HandSHeadRun.head_any (r := OpenLaw.row PySem.Challenge.rw_nestmend_k37_clean_stretches) (q := view (OpenLaw.row PySem.Challenge.rw_nestmend_k37_clean_stretches).prog [18]) (H := K37.hk) (ob := K37.ob) (M := 3000) (loose := K37.loose) (d := HandSHeadRun.topDef (OpenLaw.row PySem.Challenge.rw_nestmend_k37_clean_stretches).prog 18) (kwd := []) K37.ob_eq
    (by kernel_rfl) (fun s => by kernel_rfl) K37.run (by kernel_rfl) (by kernel_rfl) (by kernel_rfl) (by rfl) (by first | assumption | decide +kernel) (by decide +kernel) ⟨rfl, rfl, rfl, rfl, rfl, by decide +kernel⟩ ?hw ?hc
  case hw => w_witness2
  case hc =>
    refine L2.walk_ofE (l := PySem.Challenge.rw_nestmend_k37_clean_stretches) (n := 63) (k := 7) (x := "script") (CX := C8.CX0) rfl (by decide) (by kernel_rfl) ⟨rfl, by decide, by decide⟩ ?F (fun _ _ _ _ z => z)
    intro w mg fa h Y G hmg0
    obtain ⟨K, KX, c⟩ := Y
    have hmg : mg ("law" : PySem.Str) = some (.ref fa) := by
      have e : (HandSHeadRun.topDef (OpenLaw.row PySem.Challenge.rw_nestmend_k37_clean_stretches).prog 18).name = ("law" : PySem.Str) := by kernel_rfl
      rw [← e]
      exact hmg0
    obtain ⟨fd, hb, F⟩ := K37.law_at KX G hmg c
    exact ⟨K, fd, K37.spLaw K, KX, hb, fun H a ns hl _ hS => ⟨a, ns, rfl, hS, hl, fun _ => rfl⟩, fun base _ _ => K37.ok_law (K37.facts KX G c) F⟩
