import PyProof.Rows.All
import Wide.All
import OpenK.AllK
import Wide.FinOn
import HandS.ForMost
import HandS.Codes
import HandS.Style
import HandS.Walk
import HandS.IsInst
import HandS.Wide
import HandS.Defaults
import HandS.Flow
import HandS.Replace
import KE.GoesMore
import KE.GoesZip
import KE.GoesEnum
import PyProof.ListStr
import PyProof.StrBlock2
import HandS.Conv
import HandS.ReplaceLit
import HandS.ReplaceList
import HandS.SortInts
import PyProof.Rows.SortShellAny
import PyProof.Rows.StrRev
import PyProof.Rows.SeqMore
import HandS.HeadHook1
import HandS.HeadHook2
import HandS.More
import HandS.ExcOwn
import HandS.ExcIs
import HandS.TryOnly
import HandS.WordsExc
import HandS.HeadEnd
import HandS.TupSets
import HandS.Deep
import PySem.Challenge.RW_nestmend_k12_whole_nests_put_together
import HandS.Head0
import HandS.Head1
import HandS.Head2
set_option Elab.async false
set_option linter.all false
set_option maxRecDepth 100000
set_option maxHeartbeats 4000000
namespace Ly
open PySem PySem.Spec PyProof.Rows L2 SX

/-- a text by its codes -/
abbrev Tx (l : List Nat) : V := V.str (S l)
theorem Tx_inj {a b : List Nat} : Tx a = Tx b ↔ a = b := ⟨fun h => S_inj (V.str.inj h), fun h => by rw [h]⟩
def OPN : List Nat := [40, 60, 91, 123]
def CLO : List Nat := [41, 62, 93, 125]
def BRK : List Nat := [40, 41, 60, 62, 91, 93, 123, 125]
def LET : List Nat := [97, 98, 99, 100, 101, 102, 103, 104, 105, 106, 107, 108, 109, 110, 111, 112, 113, 114, 115, 116, 117, 118, 119, 120, 121, 122]

/-! ### rules -/
section
variable {X : Cx} {k j : Nat} {x : Str} {sp : Sp} {p pos : Pos} {e : Expr} {es : List Expr} {t : TA} {ta tb : TE}
def tOwn (sp : Sp) (t : TA) : TE := fun σ H Q => t σ H fun vs H1 => sp vs H1 Q C8.E0
theorem pe_own (c : C8.Cal X.prog X.w X.K X.mg X.base k x sp []) (hr : Room j X.A) (hk : k ≤ j) (hg : Gl X x) (ha : PA X (e :: es) t)
    (hdb : (x == ("__debug__" : Str)) = false := by decide) (he : starEach (e :: es) X.env = (false, eval e X.env) :: starEach es X.env := by rfl) (hpl : (backTo pos (starEach es X.env)).any (·.1) = false := by rfl) :
    PE X (.Call (.Name x p) (e :: es) [] pos) (tOwn sp t) := by
  have h := C8.pe_c (p := p) c hr hk hg ha hdb he hpl
  have e : tCall sp [] C8.E0 t = tOwn sp t := by
    funext σ H Q
    show (t σ H fun vs H1 => sp (vs ++ []) H1 Q C8.E0) = _
    simp only [List.append_nil]
    rfl
  rw [← e]
  exact h
theorem pe_strS {z : Str} {jj : Nat} {l : List Nat} (h : z = S l) : PE X (.Constant (.str z) jj pos) (tC (Tx l)) := by
  subst h
  exact pe_str
/-- operators by names -/
def rAddT : R2 := fun x y H Q => ∃ a b : List Nat, x = Tx a ∧ y = Tx b ∧ a.length + b.length ≤ 100000 ∧ Q (Tx (a ++ b)) H
theorem op_addT : OpR X (binaryOp .Add) rAddT := fun pins s σ H x y v u Q I rx ry h => by
  obtain ⟨a, b, rfl, rfl, hl, q⟩ := h
  refine op_add_str pins s σ H _ _ v u Q I rx ry ⟨_, _, rfl, rfl, ?_, ?_⟩
  · rw [S_len, S_len]
    exact Nat.le_trans hl (by decide)
  · rw [S_cat]
    exact q
theorem iop_addT : PIp X .Add rAddT := fun pins s σ H x y v u Q I rx ry h => by
  obtain ⟨a, b, rfl, rfl, hl, q⟩ := h
  refine iop_add_str pins s σ H _ _ v u Q I rx ry ⟨_, _, rfl, rfl, ?_, ?_⟩
  · rw [S_len, S_len]
    exact Nat.le_trans hl (by decide)
  · rw [S_cat]
    exact q
def rInT (neg : Bool) : R2 := fun x y H Q => ∃ (c : Nat) (l : List Nat), x = Tx [c] ∧ y = Tx l ∧ Q (.bl (if neg then !decide (c ∈ l) else decide (c ∈ l))) H
theorem op_inT : OpR X (compareOp .In) (rInT false) := fun pins s σ H x y v u Q I rx ry h => by
  obtain ⟨c, l, rfl, rfl, q⟩ := h
  exact op_in_sign pins s σ H _ _ v u Q I rx ry ⟨c, S l, rfl, rfl, q⟩
def rIxT1 : R2 := fun x y H Q => ∃ (l : List Nat) (i : Int) (c : Nat), x = Tx l ∧ y = .int i ∧ l.length ≤ 100000 ∧ atI l i = some c ∧ Q (Tx [c]) H
theorem ix_txt : IxR X rIxT1 := fun value slice pins s σ H x y v u Q I rx ry h hs => by
  obtain ⟨l, i, c, rfl, rfl, hl, h1, q⟩ := h
  refine ix_str value slice pins s σ H _ _ v u Q I rx ry ⟨S l, i, c, rfl, rfl, ?_, h1, q⟩ hs
  rw [S_len]
  exact Nat.le_trans hl (by decide)
def rLenT : List V → Hp → VK → Prop := fun xs H Q => ∃ l : List Nat, xs = [Tx l] ∧ l.length ≤ 100000 ∧ Q (.int l.length) H
theorem call_lenT : CallR X (.builtin "len") rLenT := fun pins s σ H xs us Q I r h => by
  obtain ⟨l, rfl, hl, q⟩ := h
  refine call_len_str pins s σ H _ us Q I r ⟨S l, rfl, ?_, ?_⟩
  · rw [S_len]
    exact Nat.le_trans hl (by decide)
  · rw [S_len]
    exact q
def rIntB : List V → Hp → VK → Prop := fun xs H Q => ∃ b : Bool, xs = [.bl b] ∧ Q (.int (if b then 1 else 0)) H
theorem call_intB : CallR X (.type "int") rIntB := fun pins s σ H xs us Q I r h => by
  obtain ⟨b, rfl, q⟩ := h
  exact call_int1 pins s σ H _ us Q I r (.inr ⟨b, rfl, q⟩)
def rLenL (K : PySem.W.Frag) : List V → Hp → VK → Prop := fun xs H Q => ∃ p ys, xs = [.ref p] ∧ (SqL K H p ys ∨ SqT K H p ys) ∧ Q (.int ys.length) H
theorem call_lenL : CallR X (.builtin "len") (rLenL X.K) := call_len_seq
def rFindT : V → List V → Hp → VK → Prop := fun x xs H Q => ∃ a b : List Nat, x = Tx a ∧ xs = [Tx b] ∧ Q (.int (Txt.find (S a) (S b))) H
def rIdxT : V → List V → Hp → VK → Prop := fun x xs H Q => ∃ (a b : List Nat) (i : Nat), x = Tx a ∧ xs = [Tx b] ∧ Txt.find (S a) (S b) = (i : Int) ∧ Q (.int i) H
theorem mt_idxT : MtR X "str.index" rIdxT := fun pins s σ H x xs v us Q I rx rs h => by
  obtain ⟨a, b, i, h1, h2, h3, q⟩ := h
  unfold Txt.find at h3
  cases ho : Builtin.Str.occurrences (S a) (S b) 0 (S a).length 1 with
  | nil =>
    rw [ho] at h3
    exact absurd h3 (by show ¬ ((-1 : Int) = (i : Int)); omega)
  | cons j r =>
    rw [ho] at h3
    have e : (j : Int) = (i : Int) := h3
    have e2 : j = i := by omega
    subst e2
    exact mt_sindex pins s σ H x xs v us Q I rx rs ⟨S a, S b, j, r, h1, h2, ho, q⟩
def rSlTx : V → Option Int → Option Int → Hp → VK → Prop := fun x lo hi H Q => ∃ l : List Nat, x = Tx l ∧ l.length ≤ 100000 ∧ Q (.str (Txt.slice (S l) lo hi)) H
theorem sl_tx : SlR X rSlTx := by
  intro pins s σ H x v vl vu lo hi sl Q I rx hs pl pu h
  obtain ⟨l, hx, hz, q⟩ := h
  refine C8.sl_txt pins s σ H x v vl vu lo hi sl Q I rx hs pl pu ⟨S l, hx, ?_, q⟩
  rw [S_len]
  exact Nat.le_trans hz (by decide)
end

/-! ### heaps -/
def But (p : Addr) (H H' : Hp) : Prop := ∀ b o, b ≠ p → H b = some o → H' b = some o
section
variable {H H' H1 H2 : Hp} {a b p : Addr} {o u : HO}
theorem Same.new (h : H p = none) : Same H (upd H p u) := fun b x e => by
  rw [upd_ne (ne_of_none e h)]
  exact e
theorem But.refl : But p H H := fun _ _ _ h => h
theorem But.set : But p H (upd H p u) := fun b x n e => by
  rw [upd_ne n]
  exact e
theorem But.trans (x : But p H H1) (y : But p H1 H2) : But p H H2 := fun b o n h => y b o n (x b o n h)
theorem But.same (x : But p H H1) (y : Same H1 H2) : But p H H2 := fun b o n h => y b o (x b o n h)
theorem Same.but (x : Same H H1) (y : But p H1 H2) : But p H H2 := fun b o n h => y b o n (x b o h)
theorem Same.toBut (x : Same H H1) : But p H H1 := fun b o _ h => x b o h
/-- p is new since H -/
theorem Same.but0 (x : Same H H1) (y : But p H1 H2) (n : H p = none) : Same H H2 := fun b o h => y b o (ne_of_none h n) (x b o h)
theorem But.free (x : But p H H1) (n : a ≠ p) (h : H1 a = none) : H a = none := by
  cases q : H a with
  | none => rfl
  | some o =>
    rw [x a o n q] at h
    cases h
theorem But.but0 {q : Addr} (x : But p H H1) (y : But q H1 H2) (n : H q = none) : But p H H2 := fun b o m h => y b o (ne_of_none h n) (x b o m h)
theorem Same.get (s : Same H H1) (h : H a = some o) : H1 a = some o := s a o h
theorem But.get (s : But p H H1) (n : a ≠ p) (h : H a = some o) : H1 a = some o := s a o n h
theorem ne_new (n : H b = none) (h : H a = some o) : a ≠ b := ne_of_none h n
theorem Same.fr (n : H1 a = none) (x : Same H H1) : H a = none := x.free n
theorem But.fr (n : H1 a = none) (x : But p H H1) (m : a ≠ p) : H a = none := x.free m n
theorem Same.tr (y : Same H1 H2) (x : Same H H1) : Same H H2 := x.trans y
theorem Same.b0 (y : But p H1 H2) (x : Same H H1) (n : H p = none) : Same H H2 := Same.but0 x y n
theorem But.sa (y : Same H1 H2) (x : But p H H1) : But p H H2 := But.same x y
theorem But.tr (y : But p H1 H2) (x : But p H H1) : But p H H2 := x.trans y
theorem But.b0 {q : Addr} (y : But q H1 H2) (x : But p H H1) (n : H q = none) : But p H H2 := But.but0 x y n
theorem sq_of {K : PySem.W.Frag} {xs : List V} (h : H a = some (.lst xs)) : SqL K H a xs := .inl (.inl h)
theorem st_of {K : PySem.W.Frag} {xs : List V} (h : H a = some (.tup xs)) : SqT K H a xs := .inl (.inl h)
theorem But.sq {K : PySem.W.Frag} {xs : List V} (x : But p H H1) (n : a ≠ p) (h : SqL K H a xs) : SqL K H1 a xs := by
  rcases h with (h | ⟨o, h⟩) | h
  · exact .inl (.inl (x _ _ n h))
  · exact .inl (.inr ⟨o, x _ _ n h⟩)
  · exact .inr h
end

/-! ### readings, step by step -/
theorem cx_K {CX : CXT} {P : Program} {w : World} {K : PySem.W.Frag} {mg : Str → Option Value} {base : Heap} {N : List Str} {q : Str} {sc : Scope} {f : Addr} {cd : Value} {A : Around} {outer : List Env} {s : Shared} {H : Hp} {E : XK} : (cxOf CX P w K mg base N q sc f cd A outer s H E).K = K := rfl
section
variable {K : PySem.W.Frag} {σ : L2.St} {H : Hp} {Q : VK} {R : Hp → Prop} {i j : Int} {n : Nat} {v : V} {a p : Addr} {l m : List Nat} {xs ys : List V}
theorem g_var (h : σ[n]? = some (some v)) (q : Q v H) : tVar n σ H Q := ⟨v, h, q⟩
theorem g_I0 {g : Int → Int → V} (q : Q (g i j) H) : rI0 g (.int i) (.int j) H Q := ⟨i, j, rfl, rfl, q⟩
theorem g_I {C : Int → Int → Prop} {g : Int → Int → V} (c : C i j) (q : Q (g i j) H) : rI C g (.int i) (.int j) H Q := ⟨i, j, rfl, rfl, c, q⟩
theorem g_U {g : Int → V} (q : Q (g i) H) : rU g (.int i) H Q := ⟨i, rfl, q⟩
theorem g_ipI {g : Int → Int → Int} (q : Q (.int (g i j)) H) : ipI g (.int i) (.int j) H Q := ⟨i, j, rfl, rfl, q⟩
theorem g_addT (h : l.length + m.length ≤ 100000) (q : Q (Tx (l ++ m)) H) : rAddT (Tx l) (Tx m) H Q := ⟨l, m, rfl, rfl, h, q⟩
theorem g_inT {c : Nat} (q : Q (.bl (decide (c ∈ l))) H) : rInT false (Tx [c]) (Tx l) H Q := ⟨c, l, rfl, rfl, q⟩
theorem g_ninT {c : Nat} (q : Q (.bl (!decide (c ∈ l))) H) : rInT true (Tx [c]) (Tx l) H Q := ⟨c, l, rfl, rfl, q⟩
theorem g_ixT {c : Nat} (h : l.length ≤ 100000) (h1 : atI l i = some c) (q : Q (Tx [c]) H) : rIxT1 (Tx l) (.int i) H Q := ⟨l, i, c, rfl, rfl, h, h1, q⟩
theorem g_ixL (h : SqL K H p xs) (h1 : atI xs i = some v) (q : Q v H) : rIxL K (.ref p) (.int i) H Q := ⟨p, xs, i, v, rfl, rfl, h, h1, q⟩
theorem g_ixU (h : SqT K H p xs) (h1 : atI xs i = some v) (q : Q v H) : rIxT K (.ref p) (.int i) H Q := ⟨p, xs, i, v, rfl, rfl, h, h1, q⟩
theorem g_lenT (h : l.length ≤ 100000) (q : Q (.int l.length) H) : rLenT [Tx l] H Q := ⟨l, rfl, h, q⟩
theorem g_lenL (h : SqL K H p xs) (q : Q (.int xs.length) H) : rLenL K [.ref p] H Q := ⟨p, xs, rfl, .inl h, q⟩
theorem g_lenU (h : SqT K H p xs) (q : Q (.int xs.length) H) : rLenL K [.ref p] H Q := ⟨p, xs, rfl, .inr h, q⟩
theorem g_findT1 (q : Q (.int (Txt.find (S l) (S m))) H) : rFindT (Tx l) [Tx m] H Q := ⟨l, m, rfl, rfl, q⟩
theorem g_idxT1 {k : Nat} (h : Txt.find (S l) (S m) = (k : Int)) (q : Q (.int k) H) : rIdxT (Tx l) [Tx m] H Q := ⟨l, m, k, rfl, rfl, h, q⟩
theorem g_str {A : Prop} (q : A) : (∃ z, Tx l = .str z) ∧ A := ⟨⟨_, rfl⟩, q⟩
theorem g_intB {b : Bool} (q : Q (.int (if b then 1 else 0)) H) : rIntB [.bl b] H Q := ⟨b, rfl, q⟩
theorem g_eq {x y : V} (h : scal x y = true) (q : Q (.bl (decide (x = y))) H) : rEq x y H Q := ⟨h, q⟩
theorem g_ne {x y : V} (h : scal x y = true) (q : Q (.bl (!decide (x = y))) H) : rNe x y H Q := ⟨h, q⟩
theorem g_tyL (h : SqL K H p xs) : tyV K "list" (.ref p) H := .inl ⟨rfl, _, h⟩
/-! new objects, changed ones -/
def rLstN (xs : List V) (H : Hp) (Q : VK) : Prop := xs.length ≤ sizeLine ∧ ∀ p, H p = none → Q (.ref p) (upd H p (.lst xs))
def rTupN (xs : List V) (H : Hp) (Q : VK) : Prop := xs.length ≤ sizeLine ∧ ∀ p, H p = none → Q (.ref p) (upd H p (.tup xs))
def rRevN (K : PySem.W.Frag) (x : V) (H : Hp) (Q : VK) : Prop := ∃ a xs, x = .ref a ∧ SqL K H a xs ∧ ∀ p, H p = none → Q (.ref p) (upd H p (.lst xs.reverse))
theorem tLst_eq {t : TA} : tLst t σ H Q = t σ H fun xs H1 => rLstN xs H1 Q := rfl
theorem tTup_eq {t : TA} : tTup t σ H Q = t σ H fun xs H1 => rTupN xs H1 Q := rfl
theorem tRevL_eq {t : TE} : tRevL K t σ H Q = t σ H fun x H1 => rRevN K x H1 Q := rfl
def rPart (x : V) (H : Hp) (Q : Option Int → Hp → Prop) : Prop := ∃ i, x = .int i ∧ Q (some i) H
theorem tPart_eq {t : TE} {Q : Option Int → Hp → Prop} : tPart t σ H Q = t σ H fun x H1 => rPart x H1 Q := rfl
theorem g_part {Q : Option Int → Hp → Prop} (q : Q (some i) H) : rPart (.int i) H Q := ⟨i, rfl, q⟩
theorem g_lst (h : xs.length ≤ 100000) (q : ∀ p H1, H p = none → Same H H1 → H1 p = some (.lst xs) → Q (.ref p) H1) : rLstN xs H Q :=
  ⟨Nat.le_trans h (by decide), fun p np => q p _ np (Same.new np) upd_same⟩
theorem g_tup (h : xs.length ≤ 100000) (q : ∀ p H1, H p = none → Same H H1 → H1 p = some (.tup xs) → Q (.ref p) H1) : rTupN xs H Q :=
  ⟨Nat.le_trans h (by decide), fun p np => q p _ np (Same.new np) upd_same⟩
theorem g_new {o : HO} (q : ∀ p H1, H p = none → Same H H1 → H1 p = some o → Q (.ref p) H1) : ∀ p, H p = none → Q (.ref p) (upd H p o) := fun p np => q p _ np (Same.new np) upd_same
theorem g_setL (h : H p = some (.lst xs)) (h1 : ixN xs.length i = some n) (q : ∀ H1, But p H H1 → H1 p = some (.lst (xs.set n v)) → R H1) : rSetL (.ref p) (.int i) v H R := ⟨p, xs, i, n, rfl, rfl, h, h1, q _ But.set upd_same⟩
theorem g_append1 (h : H p = some (.lst xs)) (hl : xs.length < 100000) (q : ∀ H1, But p H H1 → H1 p = some (.lst (xs ++ [v])) → Q .non H1) : rAppend (.ref p) [v] H Q :=
  ⟨p, xs, v, rfl, rfl, h, Nat.lt_of_lt_of_le hl (by decide), q _ But.set upd_same⟩
theorem g_pop (h : H p = some (.lst (xs ++ [v]))) (q : ∀ H1, But p H H1 → H1 p = some (.lst xs) → Q v H1) : tyV K "list" (.ref p) H ∧ rPop (.ref p) [] H Q := by
  refine ⟨g_tyL (sq_of h), p, xs ++ [v], v, rfl, rfl, h, ?_, ?_⟩
  · simp
  · rw [List.dropLast_concat]
    exact q _ But.set upd_same
theorem g_slL {lo hi : Option Int} (h : SqL K H p xs) (q : ∀ p H1, H p = none → Same H H1 → H1 p = some (.lst (cutV xs lo hi)) → Q (.ref p) H1) : rSlL K (.ref p) lo hi H Q := ⟨p, xs, rfl, h, g_new q⟩
theorem g_revL (h : SqL K H p xs) (q : ∀ p H1, H p = none → Same H H1 → H1 p = some (.lst xs.reverse) → Q (.ref p) H1) : rRevN K (.ref p) H Q := ⟨p, xs, rfl, h, g_new q⟩
theorem g_cat (h : H a = some (.lst xs)) (h2 : H p = some (.lst ys)) (hl : xs.length + ys.length ≤ 100000) (q : ∀ p H1, H p = none → Same H H1 → H1 p = some (.lst (xs ++ ys)) → Q (.ref p) H1) : rCat (.ref a) (.ref p) H Q := ⟨a, p, xs, ys, rfl, rfl, h, h2, Nat.le_trans hl (by decide), g_new q⟩
theorem g_slTo (h : l.length ≤ 100000) (hi : 0 ≤ i) (q : Q (Tx (l.take i.toNat)) H) : rSlTx (Tx l) none (some i) H Q := ⟨l, rfl, h, by rw [slice_to hi]; exact q⟩
/-! tests -/
theorem g_test {c : Prop} [Decidable c] {A B : Prop} (h1 : c → A) (h2 : ¬ c → B) : ∃ k, V.bl (decide c) = V.bl k ∧ if k = true then A else B := by
  refine ⟨_, rfl, ?_⟩
  by_cases h : c
  · rw [decide_eq_true h, if_pos rfl]
    exact h1 h
  · rw [decide_eq_false h, if_neg Bool.false_ne_true]
    exact h2 h
theorem g_testN {c : Prop} [Decidable c] {A B : Prop} (h1 : ¬ c → A) (h2 : c → B) : ∃ k, V.bl (!decide c) = V.bl k ∧ if k = true then A else B := by
  refine ⟨_, rfl, ?_⟩
  by_cases h : c
  · rw [decide_eq_true h]
    exact h2 h
  · rw [decide_eq_false h]
    exact h1 h
theorem g_testB {b : Bool} {A B : Prop} (h1 : b = true → A) (h2 : b = false → B) : ∃ k, V.bl b = V.bl k ∧ if k = true then A else B := by
  refine ⟨_, rfl, ?_⟩
  cases b with
  | true => exact h1 rfl
  | false => exact h2 rfl
end

/-! ### loops -/
def ForR (J : It) (g : TG) (tb : TS) (D : Ends) (σ : L2.St) (H : Hp) : Prop := ∃ W : Nat → Nat → L2.St → Hp → Prop, (∃ m, W 0 m σ H) ∧ ∀ i m σ H, W i m σ H →
  (J.stop i H ∧ D.nx σ H) ∨ (J.go i H ∧ ∃ N : L2.St → Hp → Prop, (∀ σ' H', N σ' H' → ∃ m', m' < m ∧ W (i + 1) m' σ' H') ∧ ∀ x H', J.yld i H x H' → g x σ H' fun σ2 H2 => tb { D with nx := N, ct := N, bk := D.nx } σ2 H2)
theorem tFor_eq {wi : TI} {g : TG} {tb : TS} {D : Ends} {σ : L2.St} {H : Hp} : tFor wi g tb D σ H = wi σ H fun J H1 => ForR J g tb D σ H1 := rfl
def LcR (J : It) (g : TG) (tt : TT) (te : TE) (vs : List Nat) (σ : L2.St) (H1 : Hp) (Q : VK) : Prop := ∀ D, H1 D = none → ∃ W : Nat → Nat → Hp → Prop, (∃ m, W 0 m (upd H1 D (.lst []))) ∧ ∀ i m H, W i m H →
  (J.stop i H ∧ Q (.ref D) H) ∨ (J.go i H ∧ ∃ Nx : Hp → Prop, (∀ H', Nx H' → ∃ m', m' < m ∧ W (i + 1) m' H') ∧ ∀ x H', J.yld i H x H' → g x (wipe σ vs) H' fun σ2 H2 => wipe σ2 vs = wipe σ vs ∧ tt σ2 H2 fun b H3 =>
    if b = true then te σ2 H3 fun y H4 => ∃ acc, H4 D = some (.lst acc) ∧ acc.length < sizeLine ∧ Nx (upd H4 D (.lst (acc ++ [y]))) else Nx H3)
theorem tLc_eq {wi : TI} {g : TG} {tt : TT} {te : TE} {vs : List Nat} {σ : L2.St} {H : Hp} {Q : VK} : tLc wi g tt te vs σ H Q = wi σ H fun J H1 => LcR J g tt te vs σ H1 Q := rfl
section
variable {K : PySem.W.Frag} {σ : L2.St} {H : Hp} {g : TG} {tb : TS} {D : Ends} {l : List Nat} {xs : List V} {a : Addr} {tt : TT} {te : TE} {vs : List Nat} {Q : VK} {n : Nat} {lo : Int}
/-- for c in text, by what is gone through -/
theorem for_txt (Pv : List Nat → L2.St → Hp → Prop) (h0 : Pv [] σ H)
    (hs : ∀ pre c post σ H, l = pre ++ c :: post → Pv pre σ H → g (Tx [c]) σ H fun σ2 H2 => tb { D with nx := Pv (pre ++ [c]), ct := Pv (pre ++ [c]), bk := D.nx } σ2 H2) (hd : ∀ σ H, Pv l σ H → D.nx σ H) : ForR (Its (S l)) g tb D σ H := by
  refine ⟨fun i m σ H => m = l.length - i ∧ i ≤ l.length ∧ Pv (l.take i) σ H, ⟨l.length, by simp, Nat.zero_le _, by simpa using h0⟩, ?_⟩
  rintro i m σ H ⟨rfl, hi, p⟩
  have sz : (S l).cps.size = l.length := by simp
  by_cases hlt : i < l.length
  · have e : l.take (i + 1) = l.take i ++ [l[i]] := by rw [List.take_succ_eq_append_getElem hlt]
    have e2 : l = l.take i ++ l[i] :: l.drop (i + 1) := by rw [← List.drop_eq_getElem_cons hlt, List.take_append_drop]
    refine .inr ⟨by show i < (S l).cps.size; rw [sz]; exact hlt, Pv (l.take (i + 1)), fun σ' H' p' => ⟨l.length - (i + 1), by omega, rfl, hlt, p'⟩, fun x H' y => ?_⟩
    obtain ⟨e1, c, hc, rfl⟩ := y
    subst e1
    have ec : c = l[i] := by
      have : (S l).cps[i]? = some l[i] := by simp [hlt]
      rw [this] at hc
      exact (Option.some.inj hc).symm
    subst ec
    rw [e]
    exact hs (l.take i) l[i] (l.drop (i + 1)) σ _ e2 p
  · have e : i = l.length := by omega
    subst e
    rw [List.take_length] at p
    exact .inl ⟨by show (S l).cps.size ≤ l.length; rw [sz]; exact Nat.le_refl _, hd σ H p⟩
theorem cut_at {α : Type} {xs : List α} {i : Nat} {x : α} (hx : xs[i]? = some x) : xs.take (i + 1) = xs.take i ++ [x] ∧ xs = xs.take i ++ x :: xs.drop (i + 1) := by
  obtain ⟨hlt, ex⟩ := List.getElem?_eq_some_iff.mp hx
  subst ex
  exact ⟨by rw [List.take_succ_eq_append_getElem hlt], by rw [← List.drop_eq_getElem_cons hlt, List.take_append_drop]⟩
/-- for x in list, by what is gone through; the list stays -/
theorem for_lst (xs : List V) (Pv : List V → L2.St → Hp → Prop) (h0 : Pv [] σ H) (hl : ∀ pre post σ H, xs = pre ++ post → Pv pre σ H → SqL K H a xs)
    (hs : ∀ pre x post σ H, xs = pre ++ x :: post → Pv pre σ H → g x σ H fun σ2 H2 => tb { D with nx := Pv (pre ++ [x]), ct := Pv (pre ++ [x]), bk := D.nx } σ2 H2) (hd : ∀ σ H, Pv xs σ H → D.nx σ H) : ForR (Itl K a) g tb D σ H := by
  refine for_list (xs := xs) (fun i σ H => Pv (xs.take i) σ H) (by simpa using h0) (fun i σ H _ p => hl _ (xs.drop i) σ H (List.take_append_drop i xs).symm p) (fun i x σ H hx p => ?_) (fun σ H p => hd σ H (by simpa using p))
  obtain ⟨e, e2⟩ := cut_at hx
  have z := hs (xs.take i) x (xs.drop (i + 1)) σ H e2 p
  rw [← e] at z
  exact z
/-- for i, x in enumerate(list), by what is gone through -/
theorem for_enum (xs : List V) (Pv : List V → L2.St → Hp → Prop) (h0 : Pv [] σ H) (hl : ∀ pre post σ H, xs = pre ++ post → Pv pre σ H → SqL K H a xs)
    (hs : ∀ pre x post σ H t H1, xs = pre ++ x :: post → Pv pre σ H → H t = none → Same H H1 → H1 t = some (.tup [.int pre.length, x]) → g (.ref t) σ H1 fun σ2 H2 => tb { D with nx := Pv (pre ++ [x]), ct := Pv (pre ++ [x]), bk := D.nx } σ2 H2) (hd : ∀ σ H, Pv xs σ H → D.nx σ H) : ForR (Ite K a) g tb D σ H := by
  refine for_it (walk_enum (xs := xs)) (fun i σ H => Pv (xs.take i) σ H) (by simpa using h0) (fun i σ H _ p => hl _ (xs.drop i) σ H (List.take_append_drop i xs).symm p) (fun i v σ H H' hi p y => ?_) (fun σ H p => hd σ H (by simpa using p))
  obtain ⟨t, x1, x2, rfl, nt, rfl, e1, e2⟩ := y
  cases e1
  obtain ⟨e, e3⟩ := cut_at e2
  have z := hs (xs.take i) x2 (xs.drop (i + 1)) σ H t _ e3 p nt (Same.new nt) (by
    rw [upd_same, List.length_take, Nat.min_eq_left (Nat.le_of_lt hi)])
  rw [← e] at z
  exact z
/-- for i in range -/
theorem for_rng (Pv : Nat → L2.St → Hp → Prop) (h0 : Pv 0 σ H)
    (hs : ∀ i σ H, i < n → Pv i σ H → g (.int (lo + i)) σ H fun σ2 H2 => tb { D with nx := Pv (i + 1), ct := Pv (i + 1), bk := D.nx } σ2 H2) (hd : ∀ σ H, Pv n σ H → D.nx σ H) : ForR (Itr lo n) g tb D σ H := for_range Pv h0 hs hd
/-- what a comprehension's turn is to reach: y put behind the new list at d -/
def LcPut (d : Addr) (R : Hp → Prop) (y : V) (H : Hp) : Prop := ∃ acc, H d = some (.lst acc) ∧ acc.length < sizeLine ∧ R (upd H d (.lst (acc ++ [y])))
theorem lc_put {d : Addr} {R : Hp → Prop} {y : V} {acc : List V} (h : H d = some (.lst acc)) (hl : acc.length < 100000) (q : ∀ H5, But d H H5 → H5 d = some (.lst (acc ++ [y])) → R H5) : LcPut d R y H := ⟨acc, h, Nat.lt_of_lt_of_le hl (by decide), q _ But.set upd_same⟩
theorem lc_w {J : It} {G : Hp → Prop} {Y : Nat → Hp → V → Hp → Prop} (w : Walk J n G Y)
    (h : ∀ d H1, H d = none → Same H H1 → H1 d = some (.lst []) → ∃ Pv : Nat → Hp → Prop, Pv 0 H1 ∧ (∀ i H, i ≤ n → Pv i H → G H) ∧
      (∀ i x H H', i < n → Pv i H → Y i H x H' → g x (wipe σ vs) H' fun σ2 H2 => wipe σ2 vs = wipe σ vs ∧ tt σ2 H2 fun b H3 => if b = true then te σ2 H3 fun y H4 => LcPut d (Pv (i + 1)) y H4 else Pv (i + 1) H3) ∧ ∀ H, Pv n H → Q (.ref d) H) : LcR J g tt te vs σ H Q := by
  intro d nd
  obtain ⟨Pv, h0, hG, hs, hd⟩ := h d _ nd (Same.new nd) upd_same
  exact lc_it w Pv h0 hG hs hd
theorem lc_rng (h : ∀ d H1, H d = none → Same H H1 → H1 d = some (.lst []) → ∃ Pv : Nat → Hp → Prop, Pv 0 H1 ∧
      (∀ (i : Nat) H, i < n → Pv i H → g (.int (lo + i)) (wipe σ vs) H fun σ2 H2 => wipe σ2 vs = wipe σ vs ∧ tt σ2 H2 fun b H3 => if b = true then te σ2 H3 fun y H4 => LcPut d (Pv (i + 1)) y H4 else Pv (i + 1) H3) ∧ ∀ H, Pv n H → Q (.ref d) H) : LcR (Itr lo n) g tt te vs σ H Q := by
  refine lc_w walk_range fun d H1 nd s e => ?_
  obtain ⟨Pv, h0, hs, hd⟩ := h d H1 nd s e
  refine ⟨Pv, h0, fun _ _ _ _ => trivial, fun i x H H' hi p y => ?_, hd⟩
  obtain ⟨rfl, rfl⟩ := y
  exact hs i _ hi p
theorem lc_lst (xs : List V) (h : ∀ d H1, H d = none → Same H H1 → H1 d = some (.lst []) → ∃ Pv : List V → Hp → Prop, Pv [] H1 ∧ (∀ pre post H, xs = pre ++ post → Pv pre H → SqL K H a xs) ∧
      (∀ pre x post H, xs = pre ++ x :: post → Pv pre H → g x (wipe σ vs) H fun σ2 H2 => wipe σ2 vs = wipe σ vs ∧ tt σ2 H2 fun b H3 => if b = true then te σ2 H3 fun y H4 => LcPut d (Pv (pre ++ [x])) y H4 else Pv (pre ++ [x]) H3) ∧ ∀ H, Pv xs H → Q (.ref d) H) : LcR (Itl K a) g tt te vs σ H Q := by
  refine lc_w (walk_list (xs := xs)) fun d H1 nd s e => ?_
  obtain ⟨Pv, h0, hl, hs, hd⟩ := h d H1 nd s e
  refine ⟨fun i => Pv (xs.take i), by simpa using h0, fun i H _ p => hl _ (xs.drop i) H (List.take_append_drop i xs).symm p, fun i x H H' hi p y => ?_, fun H p => hd H (by simpa using p)⟩
  obtain ⟨rfl, hc⟩ := y
  obtain ⟨e1, e2⟩ := cut_at hc
  have z := hs (xs.take i) x (xs.drop (i + 1)) _ e2 p
  rw [← e1] at z
  exact z
end

/-! ### a def of the text -/
def DefAt (K : PySem.W.Frag) (mg : Str → Option Value) (x : Str) (st : Stmt) (ps : List Str) : Prop := ∃ (f : Addr) (fd : FuncData), FunD K x x (defArgs st) (defBody st) (defScope st) [] [] f fd ∧ mg x = some (.ref f) ∧ Binds K fd ps []
section
variable {P : Program} {w : World} {K : PySem.W.Frag} {mg : Str → Option Value} {base : Heap}
theorem fnD {x : Str} {st : Stmt} {f : Addr} {fd : FuncData} {N ps : List Str} {k : Nat} {sp : Sp} (F : FunD K x x (defArgs st) (defBody st) (defScope st) [] [] f fd) (S : FnScope N ps (defScope st)) (len : ∀ vs H Q E, sp vs H Q E → vs.length = ps.length)
    (hbody : ∀ (cdv : Value) (A : Around) (outer : List Env) (s : Shared) (H : Hp) (vs : List V) (Q : VK) (E : XK), Room k (A.deeper (envOfC x (defScope st) s.heap.objs.size f cdv)) → sp vs H Q E →
      ∃ t, PSs (cxOf C8.CX0 P w K mg base N x (defScope st) f cdv A outer s H E).nox (defBody st) t ∧ t { nx := fun _ H' => Q .non H', rt := Q } (start N vs) H) : FnOk P w K mg base C8.CX0 (k + 1) f fd ps sp := by
  refine F.ok S len fun cdv A outer s H vs Q E hr hsp => ?_
  obtain ⟨t, h, q⟩ := hbody cdv A outer s H vs Q E hr hsp
  exact ⟨t, h.nox, q⟩
theorem calD {x : Str} {st : Stmt} {N ps : List Str} {k : Nat} {sp : Sp} (D : DefAt K mg x st ps) (S : FnScope N ps (defScope st)) (len : ∀ vs H Q E, sp vs H Q E → vs.length = ps.length)
    (hbody : ∀ (f : Addr) (cdv : Value) (A : Around) (outer : List Env) (s : Shared) (H : Hp) (vs : List V) (Q : VK) (E : XK), Room k (A.deeper (envOfC x (defScope st) s.heap.objs.size f cdv)) → sp vs H Q E →
      ∃ t, PSs (cxOf C8.CX0 P w K mg base N x (defScope st) f cdv A outer s H E).nox (defBody st) t ∧ t { nx := fun _ H' => Q .non H', rt := Q } (start N vs) H) : C8.Cal P w K mg base (k + 1) x sp [] := by
  obtain ⟨f, fd, F, hm, b⟩ := D
  exact ⟨f, fd, ps, [], fnD F S len (hbody f), hm, F.kp, b, .nil⟩
end
end Ly

set_option maxHeartbeats 4000000
namespace Ly
open PySem SX
/-! ### signs -/
def isSg (c : Nat) : Prop := c ∈ LET ∨ c ∈ BRK
/-- the number of a bracket's kind -/
def knd (c : Nat) : Nat := if c ∈ OPN then OPN.idxOf c else CLO.idxOf c
/-- the other bracket of a bracket's kind -/
def oth (c : Nat) : Nat := if c ∈ OPN then CLO.getD (OPN.idxOf c) 0 else OPN.getD (CLO.idxOf c) 0
theorem find_opn : ∀ c ∈ OPN, Txt.find (S OPN) (S [c]) = (knd c : Int) := by decide +kernel
theorem find_clo : ∀ c ∈ CLO, Txt.find (S CLO) (S [c]) = (knd c : Int) := by decide +kernel
theorem brk_or {c : Nat} : c ∈ BRK ↔ c ∈ OPN ∨ c ∈ CLO := by
  unfold BRK OPN CLO
  simp
  omega
theorem at_clo : ∀ c ∈ OPN, CLO[knd c]? = some (oth c) := by decide
theorem at_opn : ∀ c ∈ CLO, OPN[knd c]? = some (oth c) := by decide
theorem oth_clo : ∀ c ∈ OPN, oth c ∈ CLO := by decide
theorem oth_opn : ∀ c ∈ CLO, oth c ∈ OPN := by decide
theorem oth_oth : ∀ c ∈ BRK, oth (oth c) = c := by decide
theorem opn_clo : ∀ c ∈ OPN, c ∉ CLO := by decide
theorem atI_of {α : Type} {l : List α} {k : Nat} {c : α} (h : l[k]? = some c) : L2.atI l (k : Int) = some c := L2.atI_nat h

/-! ### clean texts, by a pile of awaited closing brackets -/
def stp (s : Option (List Nat)) (c : Nat) : Option (List Nat) := match s with
  | none => none
  | some st => if c ∈ OPN then some (oth c :: st) else if c ∈ CLO then (match st with
    | d :: r => if d = c then some r else none
    | [] => none) else some st
def run (l : List Nat) : Option (List Nat) := l.foldl stp (some [])
def clean (l : List Nat) : Prop := run l = some []
instance (l : List Nat) : Decidable (clean l) := inferInstanceAs (Decidable (run l = some []))
theorem run_app (a b : List Nat) : run (a ++ b) = b.foldl stp (run a) := by
  unfold run
  rw [List.foldl_append]
theorem run_snoc (a : List Nat) (c : Nat) : run (a ++ [c]) = stp (run a) c := by
  rw [run_app]
  rfl
theorem stp_let {s : Option (List Nat)} {c : Nat} (h1 : c ∉ OPN) (h2 : c ∉ CLO) : stp s c = s := by
  cases s with
  | none => rfl
  | some st => unfold stp; simp only [h1, h2, if_false]
theorem stp_opn {st : List Nat} {c : Nat} (h1 : c ∈ OPN) : stp (some st) c = some (oth c :: st) := by
  unfold stp
  simp only [h1, if_true]
theorem stp_clo {st : List Nat} {c : Nat} (h2 : c ∈ CLO) : stp (some (c :: st)) c = some st := by
  have h1 : c ∉ OPN := fun h => opn_clo c h h2
  unfold stp
  simp only [h1, h2, if_true, if_false]
theorem let_opn : ∀ c ∈ LET, c ∉ OPN := by decide
theorem let_clo : ∀ c ∈ LET, c ∉ CLO := by decide
theorem sg_lt {c : Nat} (h : isSg c) : c < 1114112 := by
  have a : ∀ c ∈ LET, c < 1114112 := by decide
  have b : ∀ c ∈ BRK, c < 1114112 := by decide
  exact h.elim (a c) (b c)
/-- what is waited for, closed -/
theorem fold_clo : ∀ st : List Nat, (∀ c ∈ st, c ∈ CLO) → st.foldl stp (some st) = some []
  | [], _ => rfl
  | c :: st, h => by
    rw [List.foldl_cons, stp_clo (h c (List.mem_cons_self ..))]
    exact fold_clo st fun d hd => h d (List.mem_cons_of_mem _ hd)
theorem opn_at {z : Nat} (h : z < 4) : ∃ c, OPN[z]? = some c ∧ CLO[z]? = some (oth c) ∧ c ∈ OPN ∧ oth c ∈ CLO := by
  have e : z = 0 ∨ z = 1 ∨ z = 2 ∨ z = 3 := by omega
  rcases e with rfl | rfl | rfl | rfl
  · exact ⟨40, rfl, rfl, by decide, by decide⟩
  · exact ⟨60, rfl, rfl, by decide, by decide⟩
  · exact ⟨91, rfl, rfl, by decide, by decide⟩
  · exact ⟨123, rfl, rfl, by decide, by decide⟩
theorem ixN_nat {n j : Nat} (h : j < n) : L2.ixN n (j : Int) = some j := by
  unfold L2.ixN
  rw [if_pos (by omega), if_pos (by omega), Int.toNat_natCast]
end Ly

set_option maxHeartbeats 4000000
namespace Ly
open PySem PySem.Spec PyProof.Rows L2 SX

/-! ### list(text) -/
def sgV (l : List Nat) : List V := l.map fun c => Tx [c]
section
variable {X : Cx}
/-! ### joins of texts -/
def rJoinT (K : PySem.W.Frag) : V → List V → Hp → VK → Prop := fun x xs H Q => ∃ (a : List Nat) (p : Addr) (ps : List (List Nat)), x = Tx a ∧ xs = [.ref p] ∧ SqL K H p (ps.map Tx) ∧ (ps.map (·.length)).sum + ps.length * a.length ≤ 100000 ∧ Q (Tx (TL.joinL a ps)) H
theorem mt_joinT : MtR X "str.join" (rJoinT X.K) := fun pins s σ H x xs v us Q I rx rs h => by
  obtain ⟨a, p, ps, h1, h2, h3, h4, q⟩ := h
  refine mt_join pins s σ H x xs v us Q I rx rs ⟨S a, p, ps.map S, h1, h2, .inl ?_, ?_, ?_⟩
  · rw [List.map_map]
    exact h3
  · rw [lens, List.length_map, S_len]
    exact Nat.le_trans h4 (by decide)
  · rw [join_S]
    exact q

/-! ### text * n -/
def repT (n : Nat) (l : List Nat) : List Nat := (List.replicate n l).flatten
theorem fold_cat (n : Nat) (x : Array Nat) : ∀ acc : Array Nat, ((List.replicate n x).foldl (· ++ ·) acc).toList = acc.toList ++ repT n x.toList := by
  induction n with
  | zero => intro acc; simp [repT]
  | succ n ih =>
    intro acc
    rw [List.replicate_succ, List.foldl_cons, ih]
    simp [repT, List.replicate_succ]
theorem mul_S (l : List Nat) (n : Nat) : Txt.mul (S l) (n : Int) = S (repT n l) := by
  refine TL.ext_tl ?_
  show (Txt.mul (S l) (n : Int)).cps.toList = repT n l
  unfold Txt.mul
  by_cases h1 : (n : Int) < 1
  · rw [if_pos h1]
    have : n = 0 := by omega
    subst this
    rfl
  · rw [if_neg h1]
    by_cases h2 : ((n : Int) == 1 || (S l).length == 0) = true
    · rw [if_pos h2]
      rw [Bool.or_eq_true] at h2
      rcases h2 with h2 | h2
      · have : n = 1 := by
          have := eq_of_beq h2
          omega
        subst this
        simp [repT]
      · have : l = [] := by
          have := eq_of_beq h2
          rw [S_len] at this
          exact List.eq_nil_of_length_eq_zero this
        subst this
        simp [repT]
    · rw [if_neg h2]
      show ((List.replicate (n : Int).toNat (S l).cps).foldl (· ++ ·) #[]).toList = _
      rw [Int.toNat_natCast, fold_cat]
      rfl
def rMulT : R2 := fun x y H Q => ∃ (l : List Nat) (n : Nat), x = Tx l ∧ y = .int (n : Int) ∧ n ≤ 100000 ∧ n * l.length ≤ 100000 ∧ Q (Tx (repT n l)) H
theorem op_mulT : OpR X (binaryOp .Mult) rMulT := fun pins s σ H x y v u Q I rx ry h => by
  obtain ⟨l, n, rfl, rfl, hn, hl, q⟩ := h
  obtain ⟨t, rfl⟩ := rx
  obtain ⟨t', rfl⟩ := ry
  refine SB.mul ⟨?_, ?_, ?_⟩ fun t'' k => ⟨Tx (repT n l), H, I.tok _, ⟨t'', by rw [mul_S]⟩, q⟩
  · have e1 : decide ((n : Int) < -(2 ^ 63 : Int)) = false := decide_eq_false (by omega)
    have e2 : decide ((n : Int) ≥ 2 ^ 63) = false := decide_eq_false (by omega)
    rw [e1, e2]
    rfl
  · intro h1 _
    rw [S_len]
    have h2 : (0 : Int) < n := by omega
    have h3 : (l.length : Int) * n ≤ 100000 := by
      have : ((n * l.length : Nat) : Int) ≤ 100000 := by omega
      rw [Int.natCast_mul, Int.mul_comm] at this
      exact this
    have h4 : (l.length : Int) ≤ (2 ^ 63 - 1) / n := by
      rw [Int.le_ediv_iff_mul_le h2]
      omega
    omega
  · intro _ _
    rw [S_len, Int.toNat_natCast, Nat.mul_comm]
    exact decide_eq_false (Nat.not_lt.mpr (Nat.le_trans hl (by decide)))
end

/-! ### enumerate(text) -/
def IteS (x : Str) : It := ⟨fun i _ => i < x.cps.size, fun i H v H' => ∃ T c, v = .ref T ∧ H T = none ∧ H' = upd H T (.tup [.int (i : Nat), .str ⟨#[c]⟩]) ∧ x.cps[i]? = some c, fun i _ => i = x.cps.size⟩
theorem turn_enumS {P : Program} {w : World} {K : PySem.W.Frag} {elts : List Expr} {kk : Nat} {tpos : Pos} (x : Str) (t : Tok) (e it : Addr) :
    Turn P w K (.Tuple elts kk tpos) (IteS x) [e, it] e (fun i h => (∃ old, IsEnum h e it ((i : Nat) : Int) old) ∧ h.IsStrIter it (strIterType x) x t i ∧ e ≠ it) where
  mem := by simp
  obj := fun i h st b hb => by
    obtain ⟨⟨old, he⟩, ⟨o, ho, hc, hd⟩, _⟩ := st
    have e' : b = e ∨ b = it := by simpa using hb
    rcases e' with z | z
    · rw [z]; exact ⟨_, he, fun v q => nomatch q⟩
    · rw [z]; exact ⟨o, ho, fun v q => by rw [hd] at q; cases q⟩
  keep := fun i h h' st k => let ⟨⟨old, he⟩, ⟨o, ho, r⟩, hne⟩ := st; ⟨⟨old, k e (by simp) _ he⟩, ⟨o, k it (by simp) o ho, r⟩, hne⟩
  item := by
    intro X hP hw hK hc i pins s σ H E I hf st hg
    subst hP hw hK
    obtain ⟨⟨old, he⟩, hit, hne⟩ := st
    have hel : e < s.heap.objs.size := Heap.lt_size he
    have hil : it < s.heap.objs.size := by obtain ⟨_, q, _⟩ := hit; exact Heap.lt_size q
    refine wpAny_pyNext_enum_itemD (Draws.text (A := X.A.in1) (I.ok.hd hc) it x t) he hit hg hne (by simpa using hne) fun u h' tk hP ho hit' hT hsz hk => ?_
    obtain ⟨c, tu, hcx, rfl⟩ := hP
    refine ⟨_, rfl, wpAny_letOwnedTupleGo_enum (s := { s with heap := h', toks := tk + 1 }) ho fun h'' he' sb => ?_⟩
    have hT2 : h''.get? s.heap.objs.size = some { cls := .type "tuple", data := .seq #[.int i tk, .str ⟨#[c]⟩ tu] } := (sb.2 _ (Nat.ne_of_gt hel)).trans hT
    have new : ObjOk X.prog X.w (upd H s.heap.objs.size (.tup [.int (i : Nat), .str ⟨#[c]⟩])) h'' s.heap.objs.size (.tup [.int (i : Nat), .str ⟨#[c]⟩]) :=
      ⟨by show 2 ≤ sizeLine; decide, [.int i tk, .str ⟨#[c]⟩ tu], .cons ⟨_, rfl⟩ (.cons ⟨_, rfl⟩ .nil), ⟨_, hT2, rfl, _, rfl⟩⟩
    have I1 : Inv X pins σ (upd H s.heap.objs.size (.tup [.int (i : Nat), .str ⟨#[c]⟩])) { s with heap := h'', toks := tk + 1 } :=
      I.turnedNew (ch := [e, it]) (fun b ob hb q => (sb.2 b (fun z => hb (by simp [z]))).trans (hk b ob (fun z => hb (by simp [z])) (fun z => hb (by simp [z])) q)) hf (Nat.le_refl _) new
    refine ⟨.ref s.heap.objs.size, _, I1, rfl, ⟨_, c, rfl, I.hok.fresh (Nat.le_refl _), rfl, hcx⟩, ⟨⟨.str ⟨#[c]⟩ tu, ?_⟩, ?_, hne⟩, fun b hb => ?_⟩
    · have e1 : ((i + 1 : Nat) : Int) = (i : Int) + 1 := by omega
      rw [e1]; exact he'
    · obtain ⟨o, ho', r⟩ := hit'
      exact ⟨o, (sb.2 it (Ne.symm hne)).trans ho', r⟩
    · have hb' : b < s.heap.objs.size := by
        have e' : b = e ∨ b = it := by simpa using hb
        rcases e' with z | z
        · rw [z]; exact hel
        · rw [z]; exact hil
      rw [upd_ne (Nat.ne_of_lt hb')]
      exact (hf b hb).1
  done := by
    intro X hP hw hK hc i pins s σ H E I hf st hg
    subst hP hw hK
    obtain ⟨⟨old, he⟩, hit, hne⟩ := st
    obtain ⟨f0, f1, f2, f3, f4, f5⟩ := hf it (by simp)
    have hg2 : i = x.cps.size := hg
    subst hg2
    exact wpAny_pyNext_enum_endD (Draws.text (A := X.A.in1) (I.ok.hd hc) it x t) he hit fun h' eb => ⟨rfl, I.turned (t' := s.toks) (fun b o hb q => eb b o hb q) f0 f1 f3 f4 f5⟩
  self := fun A i s Q E st h => let ⟨⟨_, he⟩, _⟩ := st; wpAny_pyIter_enum he h
def iEnumS (ta : TA) : TI := fun σ H R => ta σ H fun vs H1 => ∃ l : List Nat, vs = [Tx l] ∧ R (IteS (S l)) H1
theorem pi_enumS {X : Cx} {e : Expr} {ta : TA} {p pos tpos : Pos} {elts : List Expr} {kk : Nat} (hg : Gl X "enumerate") (hm : X.mg "enumerate" = none) (ha : PA X [e] ta) (hs : starEach [e] X.env = [(false, eval e X.env)] := by rfl) :
    PI X (.Tuple elts kk tpos) (.Call (.Name "enumerate" p) [e] [] pos) (iEnumS ta) := by
  refine ⟨fun pins s σ H R I h => ?_⟩
  refine Call_ (ld_blt I hg hm boot_enumerate (PyProof.Rows.callWith_type1 (thn (ha.run pos pins s σ H _ I h) fun us s1 ⟨vs, H1, I1, r1, q1⟩ => ?_) hs rfl))
  obtain ⟨l, ex, q⟩ := q1
  subst ex
  obtain ⟨u, rfl, t, rfl⟩ := vals1 r1
  refine call_enumerate_str fun h' he hit hsz hk => wpAny_pyIter_enum he ?_
  have I2 : Inv X pins σ H1 { s1 with heap := h' } := I1.kept (t' := s1.toks) hk
  refine ⟨s1.heap.objs.size + 1, [s1.heap.objs.size + 1, s1.heap.objs.size], _, _, H1, rfl, I2, turn_enumS (S l) t (s1.heap.objs.size + 1) s1.heap.objs.size, ⟨⟨.none, he⟩, hit, Nat.succ_ne_self _⟩, fun b hb => ?_, q⟩
  have e' : b = s1.heap.objs.size + 1 ∨ b = s1.heap.objs.size := by simpa using hb
  have hle : s1.heap.objs.size ≤ b := by
    rcases e' with z | z
    · rw [z]; exact Nat.le_add_right _ _
    · rw [z]; exact Nat.le_refl _
  exact I1.fpOk hle (I1.hok.fresh hle)
theorem walk_enumS {l : List Nat} : Walk (IteS (S l)) l.length (fun _ => True) (fun i H v H' => ∃ T c, v = .ref T ∧ H T = none ∧ H' = upd H T (.tup [.int (i : Nat), Tx [c]]) ∧ l[i]? = some c) :=
  ⟨fun _ _ hi _ => by show _ < (S l).cps.size; simpa using hi, fun _ _ => by show _ = (S l).cps.size; simp, fun i _ _ _ _ _ y => by
    obtain ⟨T, c, h1, h2, h3, h4⟩ := y
    exact ⟨T, c, h1, h2, h3, by simpa using h4⟩⟩
section
variable {K : PySem.W.Frag} {σ : L2.St} {H : Hp} {g : TG} {tb : TS} {D : Ends} {l : List Nat} {xs : List V} {a : Addr}
/-- for i, c in enumerate(text), by what is gone through -/
theorem for_enumS (Pv : List Nat → L2.St → Hp → Prop) (h0 : Pv [] σ H)
    (hs : ∀ pre c post σ H t H1, l = pre ++ c :: post → Pv pre σ H → H t = none → Same H H1 → H1 t = some (.tup [.int pre.length, Tx [c]]) → g (.ref t) σ H1 fun σ2 H2 => tb { D with nx := Pv (pre ++ [c]), ct := Pv (pre ++ [c]), bk := D.nx } σ2 H2) (hd : ∀ σ H, Pv l σ H → D.nx σ H) : ForR (IteS (S l)) g tb D σ H := by
  refine for_it (walk_enumS (l := l)) (fun i σ H => Pv (l.take i) σ H) (by simpa using h0) (fun _ _ _ _ _ => trivial) (fun i v σ H H' hi p y => ?_) (fun σ H p => hd σ H (by simpa using p))
  obtain ⟨t, c, rfl, nt, rfl, e2⟩ := y
  obtain ⟨e, e3⟩ := cut_at e2
  have z := hs (l.take i) c (l.drop (i + 1)) σ H t _ e3 p nt (Same.new nt) (by
    rw [upd_same, List.length_take, Nat.min_eq_left (Nat.le_of_lt hi)])
  rw [← e] at z
  exact z
/-! readings -/
variable {Q : VK} {p : Addr} {m : List Nat} {n : Nat}
theorem g_joinT {ps : List (List Nat)} (h : SqL K H p (ps.map Tx)) (hl : (ps.map (·.length)).sum + ps.length * m.length ≤ 100000) (q : Q (Tx (TL.joinL m ps)) H) : rJoinT K (Tx m) [.ref p] H Q := ⟨m, p, ps, rfl, rfl, h, hl, q⟩
theorem g_mulT (h : n ≤ 100000) (h2 : n * l.length ≤ 100000) (q : Q (Tx (repT n l)) H) : rMulT (Tx l) (.int (n : Int)) H Q := ⟨l, n, rfl, rfl, h, h2, q⟩
theorem joinL_nil : ∀ ps : List (List Nat), TL.joinL [] ps = ps.flatten
  | [] => rfl
  | [p] => by simp [TL.joinL]
  | p :: q :: r => by
    show p ++ ([] ++ TL.joinL [] (q :: r)) = _
    rw [joinL_nil (q :: r)]
    simp
/-- ''.join of signs -/
theorem g_join0 (h : SqL K H p (sgV l)) (hl : l.length ≤ 100000) (q : Q (Tx l) H) : rJoinT K (Tx []) [.ref p] H Q := by
  refine g_joinT (ps := l.map fun c => [c]) ?_ ?_ ?_
  · rw [List.map_map]
    exact h
  · rw [List.map_map]
    have : ((fun x : List Nat => x.length) ∘ fun c : Nat => [c]) = fun _ => 1 := rfl
    rw [this]
    have e : ∀ l : List Nat, (l.map fun _ => 1).sum = l.length := by
      intro l
      induction l with
      | nil => rfl
      | cons c l ih => simp [ih]; omega
    rw [e]
    simpa using hl
  · rw [joinL_nil]
    have : ∀ l : List Nat, (l.map fun c => [c]).flatten = l := by
      intro l
      induction l with
      | nil => rfl
      | cons c l ih => simp [ih]
    rw [this]
    exact q
end

/-! ### an if whose test is told once -/
def tIfC (c : TT) (t u : TS) : TS := tIfS c t u
theorem ps_ifC {X : Cx} {pos : Pos} {c : Expr} {a b : List Stmt} {tc : TT} {t u : TS} (hc : PT X c tc) (ha : PSs X a t) (hb : PSs X b u) : PS X (.If c a b pos) (tIfC tc t u) := ps_if hc ha hb
/-- the test c comes out as b and leaves the heap -/
def Tst (c : TT) (σ : L2.St) (H : Hp) (b : Bool) : Prop := ∀ Q : Bool → Hp → Prop, Q b H → c σ H Q
theorem g_ifC {c : TT} {t u : TS} {D : Ends} {σ : L2.St} {H : Hp} {b : Bool} (hA : Tst c σ H b) (h1 : b = true → t D σ H) (h2 : b = false → u D σ H) : tIfC c t u D σ H := by
  refine hA _ ?_
  cases b with
  | true => exact h1 rfl
  | false => exact h2 rfl
/-- the test changes the heap as G says -/
def TstH (c : TT) (σ : L2.St) (H : Hp) (b : Bool) (G : Hp → Prop) : Prop := ∀ Q : Bool → Hp → Prop, (∀ H1, G H1 → Q b H1) → c σ H Q
theorem g_ifH {c : TT} {t u : TS} {D : Ends} {σ : L2.St} {H : Hp} {b : Bool} {G : Hp → Prop} (hA : TstH c σ H b G) (h1 : ∀ H1, G H1 → b = true → t D σ H1) (h2 : ∀ H1, G H1 → b = false → u D σ H1) : tIfC c t u D σ H := by
  refine hA _ fun H1 g => ?_
  cases b with
  | true => exact h1 H1 g rfl
  | false => exact h2 H1 g rfl
/-! ### while -/
section
variable {c : TT} {tb : TS} {D : Ends} {σ : L2.St} {H : Hp}
def WhB (tb : TS) (D : Ends) (W : Nat → L2.St → Hp → Prop) (m : Nat) (σ : L2.St) (H : Hp) : Prop := ∃ N : L2.St → Hp → Prop, (∀ σ' H', N σ' H' → ∃ m', m' < m ∧ W m' σ' H') ∧ tb { D with nx := N, ct := N, bk := D.nx } σ H
theorem g_while (W : Nat → L2.St → Hp → Prop) (m : Nat) (h0 : W m σ H) (hs : ∀ m σ H, W m σ H → c σ H fun b H1 => if b = true then WhB tb D W m σ H1 else D.nx σ H1) : tWhile c tb D σ H := ⟨W, ⟨m, h0⟩, hs⟩
theorem g_whb {W : Nat → L2.St → Hp → Prop} {m : Nat} (q : tb { D with nx := fun σ' H' => ∃ m', m' < m ∧ W m' σ' H', ct := fun σ' H' => ∃ m', m' < m ∧ W m' σ' H', bk := D.nx } σ H) : WhB tb D W m σ H := ⟨_, fun _ _ h => h, q⟩
end
/-! ### data: == and != -/
def txD (l : List Nat) : PyData := .str (S l)
section
variable {K : PySem.W.Frag} {H : Hp} {Q : VK} {p a : Addr} {X : Cx}
theorem dp_txs : ∀ ps : List (List Nat), DpAll K H (ps.map Tx) (ps.map txD)
  | [] => .nil
  | l :: ps => .cons (.str _) (dp_txs ps)
theorem can_tx {l : List Nat} (h : ∀ c ∈ l, c < 1114112) : PyData.canLay0 (txD l) = true := by
  show PyData.strOk (S l) = true
  unfold PyData.strOk
  rw [← Array.all_toList]
  exact List.all_eq_true.mpr fun c hc => decide_eq_true (h c hc)
theorem can_txs : ∀ ps : List (List Nat), (∀ l ∈ ps, ∀ c ∈ l, c < 1114112) → PyData.canLayAll0 (ps.map txD) = true
  | [], _ => rfl
  | l :: ps, h => by
    show (PyData.canLay0 (txD l) && PyData.canLayAll0 (ps.map txD)) = true
    rw [can_tx (h l (List.mem_cons_self ..)), can_txs ps fun m hm => h m (List.mem_cons_of_mem _ hm)]
    rfl
theorem depth_txs : ∀ ps : List (List Nat), PyData.depthAll (ps.map txD) = 0
  | [] => rfl
  | l :: ps => by
    show max 0 (PyData.depthAll (ps.map txD)) = 0
    rw [depth_txs ps]
    rfl
theorem shaped_txs {ps : List (List Nat)} (h : ∀ l ∈ ps, ∀ c ∈ l, c < 1114112) : SeqAt.shaped (.list (ps.map txD)) = true := by
  unfold SeqAt.shaped
  rw [show PyData.canLay0 (.list (ps.map txD)) = PyData.canLayAll0 (ps.map txD) from rfl, can_txs ps h, show PyData.depth (.list (ps.map txD)) = PyData.depthAll (ps.map txD) + 1 from rfl, depth_txs]
  rfl
theorem g_neNilT {ps : List (List Nat)} (h : SqL K H p (ps.map Tx)) (hc : ∀ l ∈ ps, ∀ c ∈ l, c < 1114112) (h2 : SqL K H a []) (q : Q (.bl (!decide (ps = []))) H) : rNeD K (.ref p) (.ref a) H Q := by
  refine ⟨.list (ps.map txD), .list [], .lst h (dp_txs ps), .lst h2 .nil, shaped_txs hc, rfl, ?_⟩
  have e : PyData.eqv (.list (ps.map txD)) (.list []) = decide (ps = []) := by
    cases ps with
    | nil => rfl
    | cons l ps => rfl
  rw [e]
  exact q
theorem sgV_eq (l : List Nat) : sgV l = (l.map fun c => [c]).map Tx := by
  unfold sgV
  rw [List.map_map]
  rfl
/-- a list of signs against [] -/
theorem g_neNilS {l : List Nat} (h : SqL K H p (sgV l)) (hc : ∀ c ∈ l, c < 1114112) (h2 : SqL K H a []) (q : Q (.bl (!decide (l = []))) H) : rNeD K (.ref p) (.ref a) H Q := by
  rw [sgV_eq] at h
  refine g_neNilT h (fun m hm c hcm => ?_) h2 ?_
  · obtain ⟨d, hd, rfl⟩ := List.mem_map.mp hm
    rw [List.mem_singleton] at hcm
    subst hcm
    exact hc _ hd
  · have e : ((l.map fun c => [c]) = []) ↔ l = [] := by simp
    rw [decide_eq_decide.mpr e]
    exact q
end
theorem sgV_snoc (l : List Nat) (c : Nat) : sgV (l ++ [c]) = sgV l ++ [Tx [c]] := by
  unfold sgV
  rw [List.map_append]
  rfl
theorem sgV_rev (l : List Nat) : (sgV l).reverse = sgV l.reverse := by
  unfold sgV
  rw [List.map_reverse]
theorem sgV_len (l : List Nat) : (sgV l).length = l.length := by
  unfold sgV
  rw [List.length_map]

section
variable {K : PySem.W.Frag} {H : Hp} {Q : VK} {p a : Addr} {xs : List V} {v : V} {i : Nat}
theorem g_isi {x : V} {t u : String} {b : Bool} (ty : TyX K H x (.type t)) (h : kitB t u = some b) (q : Q (.bl b) H) : rIsi K [x, .ty u] H Q := ⟨x, .ty u, .type t, .type u, b, rfl, .ty u, ty, kit_ty h, q⟩
theorem ty_str {x : Str} : TyX K H (.str x) (.type "str") := .base (.str x)
theorem ty_int {n : Int} : TyX K H (.int n) (.type "int") := .base (.int n)
theorem ty_bl {b : Bool} : TyX K H (.bl b) (.type "bool") := .base (.bl b)
theorem ty_lst (h : H p = some (.lst xs)) : TyX K H (.ref p) (.type "list") := .base (.lst h)
theorem ty_tup (h : H p = some (.tup xs)) : TyX K H (.ref p) (.type "tuple") := .base (.tup h)
theorem cut_ints (ns : List Int) (lo hi : Option Int) : ∃ ms : List Int, cutV (ns.map V.int) lo hi = ms.map V.int ∧ ms.length ≤ ns.length := by
  unfold cutV
  refine ⟨(ns.drop (HT.sIx (ns.map V.int).length 0 lo)).take (HT.sIx (ns.map V.int).length (ns.map V.int).length hi - HT.sIx (ns.map V.int).length 0 lo), ?_, ?_⟩
  · rw [List.map_take, List.map_drop]
  · rw [List.length_take, List.length_drop]
    omega
theorem mid_at {α : Type} {xs pre post : List α} {x : α} (e : xs = pre ++ x :: post) : xs[pre.length]? = some x := by
  rw [e]
  simp
end
end Ly

set_option maxHeartbeats 4000000
namespace Ly
open PySem PySem.Spec PyProof.Rows L2 SX
/-! ### zip(text, list) -/
def ItzS (K : PySem.W.Frag) (x : Str) (b : Addr) : It :=
  ⟨fun i H => ∃ (ys : List V) (y : V), i < x.cps.size ∧ SqL K H b ys ∧ ys[i]? = some y,
    fun i H v H' => ∃ T c y, v = .ref T ∧ H T = none ∧ H' = upd H T (.tup [.str ⟨#[c]⟩, y]) ∧ x.cps[i]? = some c ∧ ∀ ys, SqL K H b ys → ys[i]? = some y,
    fun i H => ∃ ys : List V, SqL K H b ys ∧ (i = x.cps.size ∨ i = ys.length) ∧ i ≤ x.cps.size ∧ i ≤ ys.length⟩
theorem turn_zipS {P : Program} {w : World} {K : PySem.W.Frag} {elts : List Expr} {kk : Nat} {tpos : Pos} {x : Str} {t : Tok} {b z TI TO i1 i2 : Addr} (D : ZipSep2 z TI TO i1 i2 [i1] [i2, b]) (hb : b ≠ i2) :
    Turn P w K (.Tuple elts kk tpos) (ItzS K x b) [z, TI, TO, i1, i2] z (fun i h => IsZip h z TI TO .none ∧ IsTupOf2 h TI (.ref i1) (.ref i2) ∧ (∃ x y, IsTupOf2 h TO x y) ∧ h.IsStrIter i1 (strIterType x) x t i ∧ h.IsListIter i2 b i) where
  mem := by simp
  obj := fun i h st c hc => by
    obtain ⟨hz, hTI, ⟨x, y, hTO⟩, ⟨o1, e1, _, d1⟩, ⟨o2, e2, _, d2⟩⟩ := st
    have e' : c = z ∨ c = TI ∨ c = TO ∨ c = i1 ∨ c = i2 := by simpa using hc
    rcases e' with q | q | q | q | q
    · rw [q]; exact ⟨_, hz, fun v q => nomatch q⟩
    · rw [q]; exact ⟨_, hTI, fun v q => nomatch q⟩
    · rw [q]; exact ⟨_, hTO, fun v q => nomatch q⟩
    · rw [q]; exact ⟨o1, e1, fun v q => by rw [d1] at q; cases q⟩
    · rw [q]; exact ⟨o2, e2, fun v q => by rw [d2] at q; cases q⟩
  keep := fun i h h' st k => by
    obtain ⟨hz, hTI, ⟨x, y, hTO⟩, ⟨o1, e1, r1⟩, h2⟩ := st
    exact ⟨k z (by simp) _ hz, k TI (by simp) _ hTI, ⟨x, y, k TO (by simp) _ hTO⟩, ⟨o1, k i1 (by simp) o1 e1, r1⟩, h2.at fun o q => k i2 (by simp) o q⟩
  item := by
    intro X hP hw hK hc i pins s σ H E I hf st hg
    subst hP hw hK
    obtain ⟨hz, hTI, ⟨x0, y0, hTO⟩, h1, h2⟩ := st
    obtain ⟨ys, y, hlt, hqy, hy⟩ := hg
    obtain ⟨its2, rv2, p2, _⟩ := I.list hqy
    obtain ⟨u2, hu2, ru2⟩ := rv2.get hy
    have hzl : z < s.heap.objs.size := Heap.lt_size hz
    have hi2 : i < its2.toArray.size := by
      obtain ⟨h, _⟩ := List.getElem?_eq_some_iff.mp hu2
      simpa using h
    refine wpAny_pyNext_zipD2_item D (Draws.text (A := X.A.in1) (I.ok.hd hc) i1 x t) (Draws.list (A := X.A.in1) (I.ok.hd hc) i2 b hb its2.toArray) hz hTI hTO h1 ⟨h2, p2.isList⟩ hlt hi2 fun x1 x2 h' tk hP1 hP2 z' TO' h1' h2' hT hsz hk => ?_
    obtain ⟨c, tu, hcx, rfl⟩ := hP1
    have ex2 : x2 = u2 := by
      have e : its2.toArray[i]? = some u2 := by simpa using hu2
      rw [e] at hP2
      exact (Option.some.inj hP2).symm
    subst ex2
    refine ⟨_, rfl, wpAny_letOwnedTupleGo_zip (s := { s with heap := h', toks := tk }) z' fun h'' z'' sb => ?_⟩
    have hT2 : h''.get? s.heap.objs.size = some { cls := .type "tuple", data := .seq #[.str ⟨#[c]⟩ tu, x2] } := (sb.2 _ (Nat.ne_of_gt hzl)).trans hT
    have new : ObjOk X.prog X.w (upd H s.heap.objs.size (.tup [.str ⟨#[c]⟩, y])) h'' s.heap.objs.size (.tup [.str ⟨#[c]⟩, y]) :=
      ⟨by show 2 ≤ sizeLine; decide, [.str ⟨#[c]⟩ tu, x2], .cons ⟨_, rfl⟩ (.cons ru2 .nil), ⟨_, hT2, rfl, _, rfl⟩⟩
    have I1 : Inv X pins σ (upd H s.heap.objs.size (.tup [.str ⟨#[c]⟩, y])) { s with heap := h'', toks := tk } :=
      I.turnedNew (ch := [z, TI, TO, i1, i2]) (fun c o hb q => (sb.2 c (fun q' => hb (by simp [q']))).trans (hk c o (fun q' => hb (by simp [q'])) (fun q' => hb (by simp [q'])) (fun q' => hb (by simp [q'])) (fun q' => hb (by simp [q'])) q)) hf (Nat.le_refl _) new
    refine ⟨.ref s.heap.objs.size, _, I1, rfl, ⟨_, c, y, rfl, I.hok.fresh (Nat.le_refl _), rfl, hcx, fun l hl => by rw [I.list_inj hl hqy]; exact hy⟩, ⟨z'', ?_, ⟨.str ⟨#[c]⟩ tu, x2, ?_⟩, ?_, ?_⟩, fun c hcm => ?_⟩
    · exact (sb.2 _ D.TIz).trans (hk _ _ D.TIz D.TITO D.TIi1 D.TIi2 hTI)
    · exact (sb.2 _ D.TOz).trans TO'
    · obtain ⟨o, ho', r⟩ := h1'
      exact ⟨o, (sb.2 _ (Ne.symm D.zi1)).trans ho', r⟩
    · exact h2'.1.at fun o q => (sb.2 _ (Ne.symm D.zi2)).trans q
    · have hlt : c < s.heap.objs.size := by
        have e' : c = z ∨ c = TI ∨ c = TO ∨ c = i1 ∨ c = i2 := by simpa using hcm
        rcases e' with q | q | q | q | q
        · rw [q]; exact hzl
        · rw [q]; exact Heap.lt_size hTI
        · rw [q]; exact Heap.lt_size hTO
        · rw [q]; obtain ⟨_, e1, _⟩ := h1; exact Heap.lt_size e1
        · rw [q]; obtain ⟨_, e2, _⟩ := h2; exact Heap.lt_size e2
      rw [upd_ne (Nat.ne_of_lt hlt)]
      exact (hf c hcm).1
  done := by
    intro X hP hw hK hc i pins s σ H E I hf st hg
    subst hP hw hK
    obtain ⟨hz, hTI, ⟨x0, y0, hTO⟩, h1, h2⟩ := st
    obtain ⟨ys, hqy, hend, l1, l2⟩ := hg
    obtain ⟨its2, rv2, p2, _⟩ := I.list hqy
    have ll := rv2.length
    exact wpAny_pyNext_zipD2_end D (Draws.text (A := X.A.in1) (I.ok.hd hc) i1 x t) (Draws.list (A := X.A.in1) (I.ok.hd hc) i2 b hb its2.toArray) hz hTI hTO h1 ⟨h2, p2.isList⟩ l1 (by simp; omega) (by simp; omega)
      fun h' tk hk => ⟨rfl, I.turnedL (t' := tk) (ch := [z, TI, TO, i1, i2]) (fun c o hb q =>
        hk c o (fun q' => hb (by simp [q'])) (fun q' => hb (by simp [q'])) (fun q' => hb (by simp [q'])) (fun q' => hb (by simp [q'])) q) hf⟩
  self := fun A i s Q E st h => wpAny_pyIter_zip st.1 h
def iZipS (K : PySem.W.Frag) (ta : TA) : TI := fun σ H R => ta σ H fun vs H1 => ∃ (l : List Nat) (b : Addr) (ys : List V), vs = [Tx l, .ref b] ∧ SqL K H1 b ys ∧ R (ItzS K (S l) b) H1
theorem pi_zipS {X : Cx} {e e2 : Expr} {ta : TA} {p pos tpos : Pos} {elts : List Expr} {kk : Nat} (hg : Gl X "zip") (hm : X.mg "zip" = none) (ha : PA X [e, e2] ta)
    (hs : starEach [e, e2] X.env = (false, eval e X.env) :: starEach [e2] X.env := by rfl) (hpl : (backTo pos (starEach [e2] X.env)).any (·.1) = false := by rfl) :
    PI X (.Tuple elts kk tpos) (.Call (.Name "zip" p) [e, e2] [] pos) (iZipS X.K ta) := by
  refine ⟨fun pins s σ H R I h => ?_⟩
  refine Call_ (ld_blt I hg hm PyProof.Rows.boot_zip (PyProof.Rows.callWith_type1 (thn (ha.run pos pins s σ H _ I h) fun us s1 ⟨vs, H1, I1, r1, q1⟩ => ?_) hs hpl))
  obtain ⟨l, b, ys, ex, hqy, q⟩ := q1
  subst ex
  obtain ⟨u1, u2, rfl, ⟨t, rfl⟩, r2⟩ := vals2 r1
  cases r2
  obtain ⟨its2, rv2, p2, _⟩ := I1.list hqy
  have lb : b < s1.heap.objs.size := p2.lt
  refine zip_begins2 (begins_text (S l) t) (begins_list b its2.toArray) trivial p2.isList fun h' hz hTI hTO h1 h2 hsz hk => wpAny_pyIter_zip hz ?_
  have I2 : Inv X pins σ H1 { s1 with heap := h' } := I1.kept (t' := s1.toks) hk
  refine ⟨s1.heap.objs.size + 4, [s1.heap.objs.size + 4, s1.heap.objs.size + 2, s1.heap.objs.size + 3, s1.heap.objs.size, s1.heap.objs.size + 1], _, _, H1, rfl, I2,
    turn_zipS (x := S l) (t := t) (b := b) (zip_sep2 (N := s1.heap.objs.size) (fp1 := []) (fp2 := [b]) (by simp) (by simpa using lb)) (Nat.ne_of_lt (Nat.lt_succ_of_lt lb)), ⟨hz, hTI, ⟨_, _, hTO⟩, ⟨_, h1, rfl, rfl⟩, ⟨_, h2, rfl, rfl⟩⟩, fun c hcm => ?_, q⟩
  have e' : c = s1.heap.objs.size + 4 ∨ c = s1.heap.objs.size + 2 ∨ c = s1.heap.objs.size + 3 ∨ c = s1.heap.objs.size ∨ c = s1.heap.objs.size + 1 := by simpa using hcm
  have hle : s1.heap.objs.size ≤ c := by
    rcases e' with z | z | z | z | z
    · rw [z]; exact Nat.le_add_right _ _
    · rw [z]; exact Nat.le_add_right _ _
    · rw [z]; exact Nat.le_add_right _ _
    · rw [z]; exact Nat.le_refl _
    · rw [z]; exact Nat.le_add_right _ _
  exact I1.fpOk hle (I1.hok.fresh hle)
theorem walk_zipS {K : PySem.W.Frag} {l : List Nat} {b : Addr} {ys : List V} (hl : l.length = ys.length) : Walk (ItzS K (S l) b) l.length (fun H => SqL K H b ys) (fun i H v H' => ∃ T c y, v = .ref T ∧ H T = none ∧ H' = upd H T (.tup [Tx [c], y]) ∧ l[i]? = some c ∧ ys[i]? = some y) := by
  have sz : (S l).cps.size = l.length := by simp
  refine ⟨fun i H hi g => ⟨ys, ys[i]'(by omega), by rw [sz]; exact hi, g, by simp [show i < ys.length by omega]⟩, fun H g => ⟨ys, g, .inl sz.symm, by rw [sz]; exact Nat.le_refl _, by omega⟩, fun i H v H' hi g y => ?_⟩
  obtain ⟨T, c, y, h1, h2, h3, h4, h5⟩ := y
  exact ⟨T, c, y, h1, h2, h3, by simpa using h4, h5 ys g⟩

/-! ### flat data -/
def Flat (v : V) : Prop := ∃ d : PyData, (∀ K H, Dp K H v d) ∧ d.canLay0 = true ∧ d.depth = 0
theorem flat_int (i : Int) : Flat (.int i) := ⟨.int i, fun _ _ => .int i, rfl, rfl⟩
theorem flat_all {xs : List V} (h : ∀ v ∈ xs, Flat v) : ∃ ds : List PyData, ds.length = xs.length ∧ (∀ K H, DpAll K H xs ds) ∧ PyData.canLayAll0 ds = true ∧ PyData.depthAll ds = 0 := by
  induction xs with
  | nil => exact ⟨[], rfl, fun _ _ => .nil, rfl, rfl⟩
  | cons v xs ih =>
    obtain ⟨d, h1, h2, h3⟩ := h v (List.mem_cons_self ..)
    obtain ⟨ds, hl, h4, h5, h6⟩ := ih fun x hx => h x (List.mem_cons_of_mem _ hx)
    refine ⟨d :: ds, by simp [hl], fun K H => .cons (h1 K H) (h4 K H), ?_, ?_⟩
    · show (d.canLay0 && PyData.canLayAll0 ds) = true
      rw [h2, h5]
      rfl
    · show max d.depth (PyData.depthAll ds) = 0
      rw [h3, h6]
      rfl
section
variable {K : PySem.W.Frag} {H : Hp} {Q : VK} {p a : Addr} {xs : List V}
theorem nil_eqv {ds : List PyData} : PyData.eqv (.list ds) (.list []) = ds.isEmpty := by cases ds <;> rfl
theorem g_neNil (h : SqL K H p xs) (hf : ∀ v ∈ xs, Flat v) (h2 : SqL K H a []) (q : Q (.bl (!xs.isEmpty)) H) : rNeD K (.ref p) (.ref a) H Q := by
  obtain ⟨ds, hl, h4, h5, h6⟩ := flat_all hf
  refine ⟨.list ds, .list [], .lst h (h4 K H), .lst h2 .nil, ?_, rfl, ?_⟩
  · unfold SeqAt.shaped
    rw [show PyData.canLay0 (.list ds) = PyData.canLayAll0 ds from rfl, h5, show PyData.depth (.list ds) = PyData.depthAll ds + 1 from rfl, h6]
    rfl
  · have e : ds.isEmpty = xs.isEmpty := by
      cases ds <;> cases xs <;> simp at hl ⊢
    rw [nil_eqv, e]
    exact q
theorem g_eqNil (h : SqL K H p xs) (hf : ∀ v ∈ xs, Flat v) (h2 : SqL K H a []) (q : Q (.bl xs.isEmpty) H) : rEqD K (.ref p) (.ref a) H Q := by
  obtain ⟨ds, hl, h4, h5, h6⟩ := flat_all hf
  refine ⟨.list ds, .list [], .lst h (h4 K H), .lst h2 .nil, ?_, rfl, ?_⟩
  · unfold SeqAt.shaped
    rw [show PyData.canLay0 (.list ds) = PyData.canLayAll0 ds from rfl, h5, show PyData.depth (.list ds) = PyData.depthAll ds + 1 from rfl, h6]
    rfl
  · have e : ds.isEmpty = xs.isEmpty := by
      cases ds <;> cases xs <;> simp at hl ⊢
    rw [nil_eqv, e]
    exact q
theorem g_rep {n : Nat} (h : H p = some (.lst xs)) (hl : xs.length * n ≤ 100000) (hn : n ≤ 100000) (q : ∀ p H1, H p = none → Same H H1 → H1 p = some (.lst (List.replicate n xs).flatten) → Q (.ref p) H1) : rRep (.ref p) (.int (n : Int)) H Q := by
  refine ⟨p, n, xs, rfl, rfl, h, by omega, by omega, Nat.le_trans (by rw [Int.toNat_natCast]; exact hl) (by decide), ?_⟩
  rw [Int.toNat_natCast]
  exact g_new q
end

/-! ### downward ranges -/
section
variable {σ : L2.St} {H : Hp} {g : TG} {tb : TS} {D : Ends} {n : Nat}
end
/-! ### a promise that nobody asks -/
theorem cal_false {P : Program} {w : World} {K : PySem.W.Frag} {mg : Str → Option Value} {base : Heap} {x : Str} {st : Stmt} {N ps : List Str} {k : Nat} {sp : Sp} (D : DefAt K mg x st ps) (S : FnScope N ps (defScope st)) (hf : ∀ vs H Q E, ¬ sp vs H Q E) : C8.Cal P w K mg base (k + 1) x sp [] :=
  calD D S (fun vs H Q E h => (hf vs H Q E h).elim) (fun _ _ _ _ _ H vs Q E _ h => (hf vs H Q E h).elim)
end Ly

set_option maxHeartbeats 4000000
namespace Ly
/-! ### stretches, partners -/
/-- the signs from a on and below b -/
def seg (l : List Nat) (a b : Nat) : List Nat := (l.take b).drop a
theorem seg_snoc {l : List Nat} {a n : Nat} (h : a ≤ n) (hn : n < l.length) : seg l a (n + 1) = seg l a n ++ [l[n]] := by
  unfold seg
  rw [List.take_succ_eq_append_getElem hn, List.drop_append_of_le_length (by rw [List.length_take]; omega)]
theorem seg_self {l : List Nat} {a : Nat} : seg l a a = [] := by
  unfold seg
  exact List.drop_eq_nil_of_le (by rw [List.length_take]; omega)
theorem seg_app {l : List Nat} {a b c : Nat} (h1 : a ≤ b) (h2 : b ≤ c) (h3 : b ≤ l.length) : seg l a c = seg l a b ++ seg l b c := by
  unfold seg
  have e : (l.take c).drop a = ((l.take c).take b ++ (l.take c).drop b).drop a := by rw [List.take_append_drop]
  rw [e, List.take_take, Nat.min_eq_left h2, List.drop_append_of_le_length (by rw [List.length_take]; omega)]
/-- i an opening bracket, j its partner -/
def ptn (l : List Nat) (i j : Nat) : Prop := i < j ∧ ∃ c, l[i]? = some c ∧ c ∈ OPN ∧ l[j]? = some (oth c) ∧ clean (seg l (i + 1) j)
/-! the pile from any begin -/
theorem fold_none : ∀ l : List Nat, l.foldl stp none = none
  | [] => rfl
  | c :: l => by
    rw [List.foldl_cons]
    exact fold_none l
/-- what lies deeper in the pile stays -/
theorem fold_deep : ∀ (l : List Nat) (st r : List Nat) (t : List Nat), l.foldl stp (some st) = some r → l.foldl stp (some (st ++ t)) = some (r ++ t)
  | [], st, r, t, h => by
    cases h
    rfl
  | c :: l, st, r, t, h => by
    rw [List.foldl_cons] at h ⊢
    by_cases h1 : c ∈ OPN
    · rw [stp_opn h1] at h ⊢
      exact fold_deep l (oth c :: st) r t h
    · by_cases h2 : c ∈ CLO
      · cases st with
        | nil =>
          have e : stp (some []) c = none := by unfold stp; simp only [h1, h2, if_true, if_false]
          rw [e, fold_none] at h
          cases h
        | cons d st =>
          by_cases hd : d = c
          · subst hd
            rw [stp_clo h2] at h
            rw [List.cons_append, stp_clo h2]
            exact fold_deep l st r t h
          · have e : stp (some (d :: st)) c = none := by unfold stp; simp only [h1, h2, hd, if_true, if_false]
            rw [e, fold_none] at h
            cases h
      · rw [stp_let h1 h2] at h ⊢
        exact fold_deep l st r t h
theorem run_clean_app {a b : List Nat} (h : clean a) : run (a ++ b) = run b := by
  rw [run_app, h]
  rfl
theorem fold_run {l : List Nat} {st r : List Nat} (h : run l = some r) : l.foldl stp (some st) = some (r ++ st) := by
  have := fold_deep l [] r st h
  simpa using this
/-- a clean text leaves each pile -/
theorem fold_clean {l : List Nat} (h : clean l) (st : Option (List Nat)) : l.foldl stp st = st := by
  cases st with
  | none => exact fold_none l
  | some st => simpa using fold_run (st := st) h
theorem clean_app {a b : List Nat} (h1 : clean a) (h2 : clean b) : clean (a ++ b) := by
  unfold clean
  rw [run_clean_app h1]
  exact h2
theorem clean_nil : clean [] := rfl
theorem clean_pair {c : Nat} {a : List Nat} (hc : c ∈ OPN) (h : clean a) : clean (c :: (a ++ [oth c])) := by
  show (c :: (a ++ [oth c])).foldl stp (some []) = some []
  rw [List.foldl_cons, stp_opn hc, List.foldl_append, fold_clean h]
  exact stp_clo (oth_clo c hc)
/-! ### the program's way -/
def pstep (l : List Nat) (s : List (Option Nat) × List Nat) (i c : Nat) : List (Option Nat) × List Nat :=
  if c ∈ OPN then (s.1, i :: s.2) else if c ∈ CLO then (match s.2 with
    | j :: w => if l[j]? = some (oth c) then ((s.1.set i (some j)).set j (some i), w) else (s.1, [])
    | [] => (s.1, [])) else s
def pst (l pre : List Nat) : List (Option Nat) × List Nat := pre.zipIdx.foldl (fun s ci => pstep l s ci.2 ci.1) (List.replicate l.length none, [])
theorem pst_snoc (l pre : List Nat) (c : Nat) : pst l (pre ++ [c]) = pstep l (pst l pre) pre.length c := by
  unfold pst
  rw [List.zipIdx_append, List.foldl_append]
  simp
def mates (l : List Nat) : List (Option Nat) := (pst l l).1
/-- what holds of both lists when the signs below n are gone over -/
structure PInv (l : List Nat) (n : Nat) (f : List (Option Nat)) (ws : List Nat) : Prop where
  len : f.length = l.length
  fnd : ∀ i j, f[i]? = some (some j) ↔ (ptn l i j ∧ j < n) ∨ (ptn l j i ∧ i < n)
  opn : ∀ j ∈ ws, j < n ∧ ∃ c, l[j]? = some c ∧ c ∈ OPN
  pile : ∀ k j, ws[k]? = some j → run (seg l (j + 1) n) = some ((ws.take k).map fun j => oth (l.getD j 0))
  all : ∀ i c, i < n → l[i]? = some c → c ∈ OPN → (run (seg l (i + 1) n)).isSome = true → i ∈ ws
  good : ∀ st, run (l.take n) = some st → ws.map (fun j => oth (l.getD j 0)) = st ∧ ∀ i c, i < n → l[i]? = some c → c ∈ BRK → f[i]? = some none → i ∈ ws
  bad : run (l.take n) = none → ∃ i c, i < n ∧ l[i]? = some c ∧ c ∈ CLO ∧ ∀ j, ¬ ptn l j i
theorem getD_of {l : List Nat} {j c : Nat} (h : l[j]? = some c) : l.getD j 0 = c := by
  rw [List.getD_eq_getElem?_getD, h]
  rfl
theorem ptn_lt {l : List Nat} {i j : Nat} (h : ptn l i j) : j < l.length := by
  obtain ⟨_, c, _, _, h2, _⟩ := h
  exact (List.getElem?_eq_some_iff.mp h2).1
theorem seg_run_snoc {l : List Nat} {a n c : Nat} (h : a ≤ n) (hc : l[n]? = some c) : run (seg l a (n + 1)) = stp (run (seg l a n)) c := by
  obtain ⟨hn, e⟩ := List.getElem?_eq_some_iff.mp hc
  rw [seg_snoc h hn, e, run_snoc]
theorem take_run_snoc {l : List Nat} {n c : Nat} (hc : l[n]? = some c) : run (l.take (n + 1)) = stp (run (l.take n)) c := by
  obtain ⟨hn, e⟩ := List.getElem?_eq_some_iff.mp hc
  rw [List.take_succ_eq_append_getElem hn, e, run_snoc]
/-- one closing bracket closes at most the last that waits -/
theorem PInv.top {l : List Nat} {n c : Nat} {f : List (Option Nat)} {ws : List Nat} (I : PInv l n f ws) (hc : l[n]? = some c) (h2 : c ∈ CLO) {i : Nat} (h : ptn l i n) : ∃ w, ws = i :: w ∧ l[i]? = some (oth c) := by
  obtain ⟨hlt, d, hd, hdo, hnd, hcl⟩ := h
  rw [hnd] at hc
  have ed : oth d = c := Option.some.inj hc
  have hi : i ∈ ws := I.all i d hlt hd hdo (by rw [hcl]; rfl)
  obtain ⟨k, hk⟩ := List.mem_iff_getElem?.mp hi
  have hp := I.pile k i hk
  rw [hcl] at hp
  have hk0 : ws.take k = [] := by
    have := Option.some.inj hp
    exact List.map_eq_nil_iff.mp this.symm
  have hk00 : k = 0 := by
    rcases Nat.eq_zero_or_pos k with h | h
    · exact h
    · exfalso
      have hlen : k < ws.length := (List.getElem?_eq_some_iff.mp hk).1
      have := congrArg List.length hk0
      rw [List.length_take, List.length_nil] at this
      omega
  subst hk00
  cases ws with
  | nil => cases hk
  | cons a w =>
    have : a = i := Option.some.inj hk
    subst this
    refine ⟨w, rfl, ?_⟩
    rw [hd, ← ed, oth_oth d (brk_or.mpr (.inl hdo))]
theorem pinv_step {l : List Nat} {n c : Nat} {f : List (Option Nat)} {ws : List Nat} (I : PInv l n f ws) (hc : l[n]? = some c) : PInv l (n + 1) (pstep l (f, ws) n c).1 (pstep l (f, ws) n c).2 := by
  have hn : n < l.length := (List.getElem?_eq_some_iff.mp hc).1
  by_cases h1 : c ∈ OPN
  · -- an opening bracket waits
    have e : pstep l (f, ws) n c = (f, n :: ws) := by unfold pstep; simp only [h1, if_true]
    rw [e]
    have hnc : c ∉ CLO := opn_clo c h1
    refine ⟨I.len, fun i j => ?_, fun j hj => ?_, fun k j hk => ?_, fun i d hi hd hdo hs => ?_, fun st hst => ?_, fun hb => ?_⟩
    · rw [I.fnd i j]
      have key : ∀ i, ¬ ptn l i n := by
        rintro i ⟨_, d, _, hdo, hnd, _⟩
        rw [hnd] at hc
        have : oth d = c := Option.some.inj hc
        exact hnc (this ▸ oth_clo d hdo)
      constructor
      · rintro (⟨p, h⟩ | ⟨p, h⟩)
        · exact .inl ⟨p, by omega⟩
        · exact .inr ⟨p, by omega⟩
      · rintro (⟨p, h⟩ | ⟨p, h⟩)
        · refine .inl ⟨p, ?_⟩
          rcases Nat.lt_or_ge j n with h' | h'
          · exact h'
          · have : j = n := by omega
            subst this
            exact absurd p (key i)
        · refine .inr ⟨p, ?_⟩
          rcases Nat.lt_or_ge i n with h' | h'
          · exact h'
          · have : i = n := by omega
            subst this
            exact absurd p (key j)
    · rcases List.mem_cons.mp hj with rfl | hj
      · exact ⟨by omega, c, hc, h1⟩
      · obtain ⟨a, b⟩ := I.opn j hj
        exact ⟨by omega, b⟩
    · cases k with
      | zero =>
        have : n = j := Option.some.inj hk
        subst this
        rw [seg_self]
        rfl
      | succ k =>
        have hk' : ws[k]? = some j := hk
        have hj := (I.opn j (List.mem_of_getElem? hk')).1
        rw [seg_run_snoc (by omega) hc, I.pile k j hk', stp_opn h1]
        show some (oth c :: _) = some (oth (l.getD n 0) :: _)
        rw [getD_of hc]
    · rcases Nat.lt_or_ge i n with h' | h'
      · refine List.mem_cons_of_mem _ (I.all i d h' hd hdo ?_)
        rw [seg_run_snoc (by omega) hc] at hs
        cases hr : run (seg l (i + 1) n) with
        | none => rw [hr] at hs; cases hs
        | some st => rfl
      · have : i = n := by omega
        subst this
        exact List.mem_cons_self ..
    · rw [take_run_snoc hc] at hst
      cases hr : run (l.take n) with
      | none => rw [hr] at hst; cases hst
      | some st0 =>
        rw [hr, stp_opn h1] at hst
        cases hst
        obtain ⟨a, b⟩ := I.good st0 hr
        refine ⟨?_, fun i d hi hd hdb hfi => ?_⟩
        · show oth (l.getD n 0) :: _ = oth c :: st0
          rw [a, getD_of hc]
        · rcases Nat.lt_or_ge i n with h' | h'
          · exact List.mem_cons_of_mem _ (b i d h' hd hdb hfi)
          · have : i = n := by omega
            subst this
            exact List.mem_cons_self ..
    · rw [take_run_snoc hc] at hb
      cases hr : run (l.take n) with
      | none =>
        obtain ⟨i, d, a, b⟩ := I.bad hr
        exact ⟨i, d, by omega, b⟩
      | some st0 =>
        rw [hr, stp_opn h1] at hb
        cases hb
  · by_cases h2 : c ∈ CLO
    · by_cases hm : ∃ j w, ws = j :: w ∧ l[j]? = some (oth c)
      · -- the last that waits is closed
        obtain ⟨j, w, rfl, hj⟩ := hm
        have e : pstep l (f, j :: w) n c = ((f.set n (some j)).set j (some n), w) := by unfold pstep; simp only [h1, h2, hj, if_true, if_false]
        rw [e]
        have hjn : j < n := (I.opn j (List.mem_cons_self ..)).1
        have hp0 := I.pile 0 j rfl
        have hclj : clean (seg l (j + 1) n) := hp0
        have hcc : oth (oth c) = c := oth_oth c (brk_or.mpr (.inr h2))
        have hpt : ptn l j n := ⟨hjn, oth c, hj, oth_opn c h2, by rw [hcc]; exact hc, hclj⟩
        have uniq : ∀ i, ptn l i n → i = j := fun i hi => by
          obtain ⟨w', ew, _⟩ := I.top hc h2 hi
          cases ew
          rfl
        have uniq2 : ∀ k, ptn l j k → k < n + 1 → k = n := fun k hk hkn => by
          rcases Nat.lt_or_ge k n with h' | h'
          · exfalso
            obtain ⟨hjk, d, hd, hdo, hkd, hcl⟩ := hk
            have hk2 : run (seg l (j + 1) (k + 1)) = none := by
              rw [seg_run_snoc (by omega) hkd, hcl]
              have a1 : oth d ∉ OPN := fun h => opn_clo _ h (oth_clo d hdo)
              unfold stp
              simp only [a1, oth_clo d hdo, if_true, if_false]
            have : run (seg l (j + 1) n) = none := by
              rw [seg_app (b := k + 1) (by omega) (by omega) (by omega), run_app, hk2, fold_none]
            rw [hclj] at this
            cases this
          · omega
        refine ⟨by simp [I.len], fun i k => ?_, fun i hi => ?_, fun k i hk => ?_, fun i d hi hd hdo hs => ?_, fun st hst => ?_, fun hb => ?_⟩
        · have hjl : j < f.length := by rw [I.len]; omega
          have hnl : n < f.length := by rw [I.len]; exact hn
          by_cases hij : i = j
          · subst hij
            rw [List.getElem?_set_self (by simp [hjl])]
            constructor
            · intro h
              cases h
              exact .inl ⟨hpt, by omega⟩
            · rintro (⟨p, h⟩ | ⟨p, h⟩)
              · rw [uniq2 k p h]
              · exfalso
                obtain ⟨_, d, _, hdo, hid, _⟩ := p
                rw [hj] at hid
                have : oth c = oth d := Option.some.inj hid
                exact opn_clo _ (oth_opn c h2) (this ▸ oth_clo d hdo)
          · rw [List.getElem?_set_ne (Ne.symm hij)]
            by_cases hin : i = n
            · subst hin
              rw [List.getElem?_set_self hnl]
              constructor
              · intro h
                cases h
                exact .inr ⟨hpt, by omega⟩
              · rintro (⟨p, h⟩ | ⟨p, h⟩)
                · have := p.1
                  omega
                · rw [uniq k p]
            · rw [List.getElem?_set_ne (Ne.symm hin), I.fnd i k]
              constructor
              · rintro (⟨p, h⟩ | ⟨p, h⟩)
                · exact .inl ⟨p, by omega⟩
                · exact .inr ⟨p, by omega⟩
              · rintro (⟨p, h⟩ | ⟨p, h⟩)
                · refine .inl ⟨p, ?_⟩
                  rcases Nat.lt_or_ge k n with h' | h'
                  · exact h'
                  · have : k = n := by omega
                    subst this
                    exact absurd (uniq i p) hij
                · exact .inr ⟨p, by omega⟩
        · obtain ⟨a, b⟩ := I.opn i (List.mem_cons_of_mem _ hi)
          exact ⟨by omega, b⟩
        · have hk' : (j :: w)[k + 1]? = some i := hk
          have hin := (I.opn i (List.mem_of_getElem? hk')).1
          have hpk := I.pile (k + 1) i hk'
          rw [seg_run_snoc (by omega) hc, hpk]
          show stp (some (oth (l.getD j 0) :: _)) c = _
          rw [getD_of hj, hcc, stp_clo h2]
        · have hin : i < n := by
            rcases Nat.lt_or_ge i n with h' | h'
            · exact h'
            · have : i = n := by omega
              subst this
              rw [hc] at hd
              cases hd
              exact absurd hdo h1
          rw [seg_run_snoc (by omega) hc] at hs
          have hmem : i ∈ j :: w := I.all i d hin hd hdo (by
            cases hr : run (seg l (i + 1) n) with
            | none => rw [hr] at hs; cases hs
            | some st => rfl)
          rcases List.mem_cons.mp hmem with rfl | h'
          · exfalso
            rw [hclj] at hs
            have : stp (some []) c = none := by unfold stp; simp only [h1, h2, if_true, if_false]
            rw [this] at hs
            cases hs
          · exact h'
        · rw [take_run_snoc hc] at hst
          cases hr : run (l.take n) with
          | none => rw [hr] at hst; cases hst
          | some st0 =>
            obtain ⟨a, b⟩ := I.good st0 hr
            have a' : oth (l.getD j 0) :: w.map (fun j => oth (l.getD j 0)) = st0 := a
            rw [getD_of hj, hcc] at a'
            rw [hr, ← a', stp_clo h2] at hst
            have hst' := Option.some.inj hst
            refine ⟨hst', fun i d hi hd hdb hfi => ?_⟩
            have hjl : j < f.length := by rw [I.len]; omega
            have hnl : n < f.length := by rw [I.len]; exact hn
            by_cases hij : i = j
            · subst hij
              rw [List.getElem?_set_self (by simp [hjl])] at hfi
              cases hfi
            · rw [List.getElem?_set_ne (Ne.symm hij)] at hfi
              by_cases hin : i = n
              · subst hin
                rw [List.getElem?_set_self hnl] at hfi
                cases hfi
              · rw [List.getElem?_set_ne (Ne.symm hin)] at hfi
                rcases List.mem_cons.mp (b i d (by omega) hd hdb hfi) with rfl | h'
                · exact absurd rfl hij
                · exact h'
        · rw [take_run_snoc hc] at hb
          cases hr : run (l.take n) with
          | none =>
            obtain ⟨i, d, a, b⟩ := I.bad hr
            exact ⟨i, d, by omega, b⟩
          | some st0 =>
            obtain ⟨a, b⟩ := I.good st0 hr
            have a' : oth (l.getD j 0) :: w.map (fun j => oth (l.getD j 0)) = st0 := a
            rw [getD_of hj, hcc] at a'
            rw [hr, ← a', stp_clo h2] at hb
            cases hb
      · -- nothing is closed: all is forgotten
        have e : pstep l (f, ws) n c = (f, []) := by
          unfold pstep
          simp only [h1, h2, if_true, if_false]
          cases ws with
          | nil => rfl
          | cons j w =>
            have : ¬ l[j]? = some (oth c) := fun h => hm ⟨j, w, rfl, h⟩
            simp only [this, if_false]
        rw [e]
        have none_n : ∀ i, ¬ ptn l i n := fun i hi => by
          obtain ⟨w, ew, hl⟩ := I.top hc h2 hi
          exact hm ⟨i, w, ew, hl⟩
        refine ⟨I.len, fun i j => ?_, fun j hj => (by cases hj), fun k j hk => (by cases hk), fun i d hi hd hdo hs => ?_, fun st hst => ?_, fun hb => ⟨n, c, by omega, hc, h2, none_n⟩⟩
        · rw [I.fnd i j]
          constructor
          · rintro (⟨p, h⟩ | ⟨p, h⟩)
            · exact .inl ⟨p, by omega⟩
            · exact .inr ⟨p, by omega⟩
          · rintro (⟨p, h⟩ | ⟨p, h⟩)
            · refine .inl ⟨p, ?_⟩
              rcases Nat.lt_or_ge j n with h' | h'
              · exact h'
              · have : j = n := by omega
                subst this
                exact absurd p (none_n i)
            · refine .inr ⟨p, ?_⟩
              rcases Nat.lt_or_ge i n with h' | h'
              · exact h'
              · have : i = n := by omega
                subst this
                exact absurd p (none_n j)
        · exfalso
          have hin : i < n := by
            rcases Nat.lt_or_ge i n with h' | h'
            · exact h'
            · have : i = n := by omega
              subst this
              rw [hc] at hd
              cases hd
              exact absurd hdo h1
          rw [seg_run_snoc (by omega) hc] at hs
          cases hr : run (seg l (i + 1) n) with
          | none => rw [hr] at hs; cases hs
          | some st =>
            have hmem : i ∈ ws := I.all i d hin hd hdo (by rw [hr]; rfl)
            obtain ⟨k, hk⟩ := List.mem_iff_getElem?.mp hmem
            have hp := I.pile k i hk
            rw [hr] at hs
            rw [hr] at hp
            have hp' := Option.some.inj hp
            subst hp'
            cases k with
            | zero =>
              have : stp (some []) c = none := by unfold stp; simp only [h1, h2, if_true, if_false]
              rw [List.take_zero, List.map_nil, this] at hs
              cases hs
            | succ k =>
              cases ws with
              | nil => cases hk
              | cons j w =>
                obtain ⟨hjn, cj, hcj, hcjo⟩ := I.opn j (List.mem_cons_self ..)
                rw [List.take_succ_cons, List.map_cons, getD_of hcj] at hs
                have hne : oth cj ≠ c := fun h => hm ⟨j, w, rfl, by rw [hcj, ← h, oth_oth cj (brk_or.mpr (.inl hcjo))]⟩
                have : stp (some (oth cj :: (w.take k).map fun j => oth (l.getD j 0))) c = none := by unfold stp; simp only [h1, h2, hne, if_true, if_false]
                rw [this] at hs
                cases hs
        · exfalso
          rw [take_run_snoc hc] at hst
          cases hr : run (l.take n) with
          | none => rw [hr] at hst; cases hst
          | some st0 =>
            obtain ⟨a, b⟩ := I.good st0 hr
            subst a
            rw [hr] at hst
            cases ws with
            | nil =>
              have : stp (some []) c = none := by unfold stp; simp only [h1, h2, if_true, if_false]
              rw [List.map_nil, this] at hst
              cases hst
            | cons j w =>
              obtain ⟨hjn, cj, hcj, hcjo⟩ := I.opn j (List.mem_cons_self ..)
              rw [List.map_cons, getD_of hcj] at hst
              have hne : oth cj ≠ c := fun h => hm ⟨j, w, rfl, by rw [hcj, ← h, oth_oth cj (brk_or.mpr (.inl hcjo))]⟩
              have : stp (some (oth cj :: w.map fun j => oth (l.getD j 0))) c = none := by unfold stp; simp only [h1, h2, hne, if_true, if_false]
              rw [this] at hst
              cases hst
    · -- a letter
      have e : pstep l (f, ws) n c = (f, ws) := by unfold pstep; simp only [h1, h2, if_false]
      rw [e]
      have none_n : ∀ i, ¬ ptn l i n := by
        rintro i ⟨_, d, _, hdo, hnd, _⟩
        rw [hnd] at hc
        have : oth d = c := Option.some.inj hc
        exact h2 (this ▸ oth_clo d hdo)
      refine ⟨I.len, fun i j => ?_, fun j hj => ?_, fun k j hk => ?_, fun i d hi hd hdo hs => ?_, fun st hst => ?_, fun hb => ?_⟩
      · rw [I.fnd i j]
        constructor
        · rintro (⟨p, h⟩ | ⟨p, h⟩)
          · exact .inl ⟨p, by omega⟩
          · exact .inr ⟨p, by omega⟩
        · rintro (⟨p, h⟩ | ⟨p, h⟩)
          · refine .inl ⟨p, ?_⟩
            rcases Nat.lt_or_ge j n with h' | h'
            · exact h'
            · have : j = n := by omega
              subst this
              exact absurd p (none_n i)
          · refine .inr ⟨p, ?_⟩
            rcases Nat.lt_or_ge i n with h' | h'
            · exact h'
            · have : i = n := by omega
              subst this
              exact absurd p (none_n j)
      · obtain ⟨a, b⟩ := I.opn j hj
        exact ⟨by omega, b⟩
      · have hj := (I.opn j (List.mem_of_getElem? hk)).1
        rw [seg_run_snoc (by omega) hc, I.pile k j hk, stp_let h1 h2]
      · have hin : i < n := by
          rcases Nat.lt_or_ge i n with h' | h'
          · exact h'
          · have : i = n := by omega
            subst this
            rw [hc] at hd
            cases hd
            exact absurd hdo h1
        rw [seg_run_snoc (by omega) hc, stp_let h1 h2] at hs
        exact I.all i d hin hd hdo hs
      · rw [take_run_snoc hc, stp_let h1 h2] at hst
        obtain ⟨a, b⟩ := I.good st hst
        refine ⟨a, fun i d hi hd hdb hfi => ?_⟩
        rcases Nat.lt_or_ge i n with h' | h'
        · exact b i d h' hd hdb hfi
        · have : i = n := by omega
          subst this
          rw [hc] at hd
          cases hd
          exact absurd (brk_or.mp hdb) (by simp [h1, h2])
      · rw [take_run_snoc hc, stp_let h1 h2] at hb
        obtain ⟨i, d, a, b⟩ := I.bad hb
        exact ⟨i, d, by omega, b⟩
theorem pinv_start (l : List Nat) : PInv l 0 (List.replicate l.length none) [] := by
  refine ⟨by simp, fun i j => ⟨fun h => ?_, fun h => ?_⟩, fun j hj => (by cases hj), fun k j hk => (by cases hk), fun i d hi => absurd hi (Nat.not_lt_zero _), fun st hst => ?_, fun hb => ?_⟩
  · rw [List.getElem?_replicate] at h
    split at h <;> cases h
  · rcases h with ⟨_, h⟩ | ⟨_, h⟩ <;> exact absurd h (Nat.not_lt_zero _)
  · rw [List.take_zero] at hst
    cases hst
    exact ⟨rfl, fun i d hi => absurd hi (Nat.not_lt_zero _)⟩
  · rw [List.take_zero] at hb
    cases hb
theorem pinv_all (l : List Nat) : ∀ n, n ≤ l.length → PInv l n (pst l (l.take n)).1 (pst l (l.take n)).2
  | 0, _ => by
    rw [List.take_zero]
    exact pinv_start l
  | n + 1, h => by
    have hn : n < l.length := h
    have ih := pinv_all l n (Nat.le_of_lt hn)
    rw [List.take_succ_eq_append_getElem hn, pst_snoc, List.length_take, Nat.min_eq_left (Nat.le_of_lt hn)]
    exact pinv_step ih (List.getElem?_eq_getElem hn)
theorem pinv_end (l : List Nat) : PInv l l.length (mates l) (pst l l).2 := by
  have h := pinv_all l l.length (Nat.le_refl _)
  rw [List.take_length] at h
  exact h
/-- POINT 5: the told partners -/
theorem mates_ptn (l : List Nat) (i j : Nat) : (mates l)[i]? = some (some j) ↔ ptn l i j ∨ ptn l j i := by
  rw [(pinv_end l).fnd i j]
  constructor
  · rintro (⟨p, _⟩ | ⟨p, _⟩)
    · exact .inl p
    · exact .inr p
  · rintro (p | p)
    · exact .inl ⟨p, ptn_lt p⟩
    · exact .inr ⟨p, ptn_lt p⟩
theorem mates_len (l : List Nat) : (mates l).length = l.length := (pinv_end l).len
/-- clean just where each bracket has a partner -/
theorem clean_mates (l : List Nat) : clean l ↔ ∀ (i c : Nat), l[i]? = some c → c ∈ BRK → (mates l)[i]? ≠ some none := by
  have I := pinv_end l
  constructor
  · intro h i c hi hc hn
    have hr : run (l.take l.length) = some [] := by rw [List.take_length]; exact h
    obtain ⟨a, b⟩ := I.good [] hr
    have hw : (pst l l).2 = [] := List.map_eq_nil_iff.mp a
    have := b i c (List.getElem?_eq_some_iff.mp hi).1 hi hc hn
    rw [hw] at this
    cases this
  · intro h
    cases hr : run (l.take l.length) with
    | none =>
      exfalso
      obtain ⟨i, c, hi, hc, hcc, hp⟩ := I.bad hr
      have hi' : i < (mates l).length := by rw [mates_len]; exact hi
      have hm : (mates l)[i]? = some (mates l)[i] := List.getElem?_eq_getElem hi'
      refine h i c hc (brk_or.mpr (.inr hcc)) ?_
      cases hv : (mates l)[i] with
      | none => rw [hm, hv]
      | some j =>
        exfalso
        rw [hv] at hm
        rcases (mates_ptn l i j).mp hm with p | p
        · obtain ⟨_, d, hd, hdo, _⟩ := p
          rw [hc] at hd
          cases hd
          exact opn_clo _ hdo hcc
        · exact hp j p
    | some st =>
      obtain ⟨a, _⟩ := I.good st hr
      rw [List.take_length] at hr
      cases hw : (pst l l).2 with
      | nil =>
        rw [hw] at a
        show run l = some []
        rw [hr, ← a]
        rfl
      | cons j w =>
        exfalso
        have hj : j ∈ (pst l l).2 := by rw [hw]; exact List.mem_cons_self ..
        obtain ⟨hjl, c, hc, hco⟩ := I.opn j hj
        have hj' : j < (mates l).length := by rw [mates_len]; exact hjl
        have hm : (mates l)[j]? = some (mates l)[j] := List.getElem?_eq_getElem hj'
        refine h j c hc (brk_or.mpr (.inl hco)) ?_
        cases hv : (mates l)[j] with
        | none => rw [hm, hv]
        | some k =>
          exfalso
          rw [hv] at hm
          rcases (mates_ptn l j k).mp hm with p | p
          · obtain ⟨m, hmm⟩ := List.mem_iff_getElem?.mp hj
            have hp := I.pile m j hmm
            have hkl := ptn_lt p
            obtain ⟨hjk, d, hd, hdo, hkd, hcl⟩ := p
            have hk2 : run (seg l (j + 1) (k + 1)) = none := by
              rw [seg_run_snoc (by omega) hkd, hcl]
              have a1 : oth d ∉ OPN := fun h => opn_clo _ h (oth_clo d hdo)
              unfold stp
              simp only [a1, oth_clo d hdo, if_true, if_false]
            rw [seg_app (b := k + 1) (by omega) (by omega) (by omega), run_app, hk2, fold_none] at hp
            cases hp
          · obtain ⟨_, d, hd, hdo, hkd, _⟩ := p
            rw [hc] at hkd
            have : c = oth d := Option.some.inj hkd
            exact opn_clo _ hco (this ▸ oth_clo d hdo)
end Ly

set_option maxHeartbeats 4000000
namespace Ly
theorem clean_let {c : Nat} {r : List Nat} (h1 : c ∉ OPN) (h2 : c ∉ CLO) : clean (c :: r) ↔ clean r := by
  show (c :: r).foldl stp (some []) = some [] ↔ _
  rw [List.foldl_cons, stp_let h1 h2]
  rfl
theorem clean_clo {c : Nat} {r : List Nat} (h2 : c ∈ CLO) : ¬ clean (c :: r) := by
  intro h
  have h' : (c :: r).foldl stp (some []) = some [] := h
  have h1 : c ∉ OPN := fun h => opn_clo c h h2
  have : stp (some []) c = none := by unfold stp; simp only [h1, h2, if_true, if_false]
  rw [List.foldl_cons, this, fold_none] at h'
  cases h'
/-! ### by places -/
end Ly

set_option maxHeartbeats 4000000
namespace Ly
/-! ### partners found from behind -/
def over (l : List Nat) (m : List (Option Nat)) (s : Nat) : Bool := match l[s]? with
  | none => false
  | some c => if c ∈ CLO then false else if c ∈ OPN then (match m[s]? with | some (some _) => true | _ => false) else true
end Ly

set_option maxHeartbeats 4000000
namespace Ly
/-! ### clean texts put together -/
def cntO (l : List Nat) : Nat := l.countP fun c => decide (c ∈ OPN)
def cntC (l : List Nat) : Nat := l.countP fun c => decide (c ∈ CLO)
theorem fold_cnt : ∀ (l st r : List Nat), l.foldl stp (some st) = some r → cntC l + r.length = cntO l + st.length
  | [], st, r, h => by
    cases h
    simp [cntC, cntO]
  | c :: l, st, r, h => by
    rw [List.foldl_cons] at h
    have eC : cntC (c :: l) = cntC l + if c ∈ CLO then 1 else 0 := by
      unfold cntC
      rw [List.countP_cons]
      simp
    have eO : cntO (c :: l) = cntO l + if c ∈ OPN then 1 else 0 := by
      unfold cntO
      rw [List.countP_cons]
      simp
    by_cases h1 : c ∈ OPN
    · have h2 : c ∉ CLO := opn_clo c h1
      rw [stp_opn h1] at h
      have := fold_cnt l _ r h
      rw [eC, eO, if_pos h1, if_neg h2]
      simp at this
      omega
    · by_cases h2 : c ∈ CLO
      · cases st with
        | nil =>
          have e : stp (some []) c = none := by unfold stp; simp only [h1, h2, if_true, if_false]
          rw [e, fold_none] at h
          cases h
        | cons d st =>
          by_cases hd : d = c
          · subst hd
            rw [stp_clo h2] at h
            have := fold_cnt l _ r h
            rw [eC, eO, if_neg h1, if_pos h2]
            simp
            omega
          · have e : stp (some (d :: st)) c = none := by unfold stp; simp only [h1, h2, hd, if_true, if_false]
            rw [e, fold_none] at h
            cases h
      · rw [stp_let h1 h2] at h
        have := fold_cnt l _ r h
        rw [eC, eO, if_neg h1, if_neg h2]
        omega
theorem clean_cnt {l : List Nat} (h : clean l) : cntC l = cntO l := by
  have := fold_cnt l [] [] h
  simpa using this
end Ly

set_option maxHeartbeats 4000000
namespace Ly
open PySem PySem.Spec PyProof.Rows L2 SX
/-! ### text[i:j] -/
theorem slice_both {a : List Nat} {i j : Nat} (h1 : i ≤ j) (h2 : j ≤ a.length) : Txt.slice (S a) (some (i : Int)) (some (j : Int)) = S ((a.take j).drop i) := by
  have hl : ((S a).length : Int) = (a.length : Int) := by rw [S_len]
  have e := beq_iff_eq.mp (PyProof.Rows.slice_closesL (x := S a) (i := (i : Int)) (j := (j : Int)) (by omega) (by omega) (by omega))
  refine e.trans (TL.ext_tl ?_)
  show (a.drop (i : Int).toNat).take ((j : Int) - i).toNat = (a.take j).drop i
  rw [Int.toNat_natCast, show ((j : Int) - i).toNat = j - i by omega, List.drop_take]
section
variable {K : PySem.W.Frag} {H : Hp} {Q : VK} {p a : Addr} {xs : List V}
end
end Ly

set_option maxHeartbeats 4000000
namespace Ly
/-! ### kinds renamed -/
/-! ### turned about -/
/-- the sign turned -/
def tn (c : Nat) : Nat := if c ∈ BRK then oth c else c
end Ly

set_option maxHeartbeats 4000000
namespace Ly
/-! ### clean stretches counted -/
/-- how many begins of l that are not empty are clean -/
def cp (l : List Nat) : Nat := (List.range l.length).countP fun k => decide (clean (l.take (k + 1)))
def many : List Nat → Nat
  | [] => 0
  | c :: r => cp (c :: r) + many r
theorem run_pre {p s r : List Nat} (h : run (p ++ s) = some r) : ∃ q, run p = some q := by
  cases e : run p with
  | none => rw [run_app, e, fold_none] at h; cases h
  | some q => exact ⟨q, rfl⟩
theorem cntC_app (a b : List Nat) : cntC (a ++ b) = cntC a + cntC b := List.countP_append
theorem cntO_app (a b : List Nat) : cntO (a ++ b) = cntO a + cntO b := List.countP_append
/-! sums -/
/-! ### by places -/
def cps (l : List Nat) : List Nat := (List.range (l.length + 1)).map fun i => cp (l.drop i)
/-! ### texts of one kind -/
/-! ### units -/
end Ly

set_option maxHeartbeats 4000000
namespace Ly
open PySem PySem.Spec PyProof.Rows L2 SX
/-! ### texts with their tokens: for y in [texts]: x = x.replace(y, z) -/
section
variable {X : Cx} {pins : List (Addr × Obj)} {σ : L2.St} {H : Hp} {s : Shared}
end
section
variable {X : Cx} {ik ip : Nat} {kx px z : Str} {y1 y2 y3 y4 : Str}
end
end Ly

set_option maxHeartbeats 4000000
namespace Ly
open PySem PySem.Spec PyProof.Rows L2 SX PySem.StrLaws
/-! ### pairs struck out -/
/-! the program's texts -/
end Ly

set_option maxHeartbeats 4000000
namespace Ly
open PySem PySem.Spec PyProof.Rows L2 SX
section
variable {X : Cx} {ik ip : Nat} {kx px z : Str} {y1 y2 y3 y4 : Str}
end
end Ly

set_option maxHeartbeats 4000000
namespace Ly
/-! ### from piece to piece -/
/-! ### sums -/
end Ly

set_option maxHeartbeats 4000000
namespace Ly
open PySem PySem.Spec PyProof.Rows L2 SX
/-! ### nests in the heap: each inner list is one of its own -/
inductive Nd where
  | let_ (c : Nat)
  | num (i : Int)
  | br (o : Nat) (ds : List Nd)
mutual
inductive TrI (H : Hp) : V → Nd → List Addr → Prop
  | let_ (c : Nat) : TrI H (Tx [c]) (.let_ c) []
  | num (i : Int) : TrI H (.int i) (.num i) []
  | br {t b : Addr} {o : Nat} {xs : List V} {ds : List Nd} {A : List Addr} : H t = some (.tup [Tx [o], .ref b]) → H b = some (.lst xs) → TrIs H xs ds A → TrI H (.ref t) (.br o ds) (b :: A)
inductive TrIs (H : Hp) : List V → List Nd → List Addr → Prop
  | nil : TrIs H [] [] []
  | cons {v : V} {vs : List V} {d : Nd} {ds : List Nd} {A B : List Addr} : TrI H v d A → TrIs H vs ds B → TrIs H (v :: vs) (d :: ds) (A ++ B)
end
/-- all but the lists in C stay -/
def ButS (C : List Addr) (H H' : Hp) : Prop := (∀ x ∈ C, ∃ ys, H x = some (.lst ys)) ∧ ∀ x o, H x = some o → x ∉ C → H' x = some o
theorem ButS.refl (H : Hp) : ButS [] H H := ⟨by simp, fun _ _ h _ => h⟩
theorem ButS.of_same {H H' : Hp} (s : Same H H') : ButS [] H H' := ⟨by simp, fun x o h _ => s x o h⟩
mutual
theorem TrI.frame {H H' : Hp} {C : List Addr} (s : ButS C H H') : ∀ {v : V} {d : Nd} {A : List Addr}, TrI H v d A → (∀ x ∈ A, x ∉ C) → TrI H' v d A
  | _, _, _, .let_ c, _ => .let_ c
  | _, _, _, .num i, _ => .num i
  | _, _, _, @TrI.br _ t b o xs ds A ht hb hs, h => .br (s.2 _ _ ht fun hc => by obtain ⟨ys, e⟩ := s.1 _ hc; rw [ht] at e; cases e) (s.2 _ _ hb (h b (List.mem_cons_self ..))) (TrIs.frame s hs fun x hx => h x (List.mem_cons_of_mem _ hx))
theorem TrIs.frame {H H' : Hp} {C : List Addr} (s : ButS C H H') : ∀ {vs : List V} {ds : List Nd} {A : List Addr}, TrIs H vs ds A → (∀ x ∈ A, x ∉ C) → TrIs H' vs ds A
  | _, _, _, .nil, _ => .nil
  | _, _, _, .cons hi hs, h => .cons (TrI.frame s hi fun x hx => h x (List.mem_append_left _ hx)) (TrIs.frame s hs fun x hx => h x (List.mem_append_right _ hx))
end
mutual
theorem TrI.lsts {H : Hp} : ∀ {v : V} {d : Nd} {A : List Addr}, TrI H v d A → ∀ x ∈ A, ∃ ys, H x = some (.lst ys)
  | _, _, _, .let_ c, x, hx => by simp at hx
  | _, _, _, .num i, x, hx => by simp at hx
  | _, _, _, .br ht hb hs, x, hx => by
    rcases List.mem_cons.mp hx with rfl | hx
    · exact ⟨_, hb⟩
    · exact TrIs.lsts hs x hx
theorem TrIs.lsts {H : Hp} : ∀ {vs : List V} {ds : List Nd} {A : List Addr}, TrIs H vs ds A → ∀ x ∈ A, ∃ ys, H x = some (.lst ys)
  | _, _, _, .nil, x, hx => by simp at hx
  | _, _, _, .cons hi hs, x, hx => by
    rcases List.mem_append.mp hx with hx | hx
    · exact TrI.lsts hi x hx
    · exact TrIs.lsts hs x hx
end
theorem TrIs.len {H : Hp} : ∀ {vs : List V} {ds : List Nd} {A : List Addr}, TrIs H vs ds A → vs.length = ds.length
  | _, _, _, .nil => rfl
  | _, _, _, .cons _ hs => by simp [TrIs.len hs]
theorem TrIs.app {H : Hp} : ∀ {vs ws : List V} {ds es : List Nd} {A B : List Addr}, TrIs H vs ds A → TrIs H ws es B → TrIs H (vs ++ ws) (ds ++ es) (A ++ B)
  | _, _, _, _, _, _, .nil, h => h
  | _, _, _, _, _, _, .cons hi hs, h => by
    rw [List.append_assoc]
    exact .cons hi (TrIs.app hs h)
theorem TrIs.snoc {H : Hp} {vs : List V} {v : V} {ds : List Nd} {d : Nd} {A B : List Addr} (h : TrIs H vs ds A) (h1 : TrI H v d B) : TrIs H (vs ++ [v]) (ds ++ [d]) (A ++ B) := by
  have := TrIs.app h (.cons h1 .nil)
  simpa using this
theorem TrIs.split {H : Hp} : ∀ {vs ws : List V} {ds : List Nd} {A : List Addr}, TrIs H (vs ++ ws) ds A → ∃ ds1 ds2 A1 A2, ds = ds1 ++ ds2 ∧ A = A1 ++ A2 ∧ TrIs H vs ds1 A1 ∧ TrIs H ws ds2 A2
  | [], ws, ds, A, h => ⟨[], ds, [], A, rfl, rfl, .nil, h⟩
  | v :: vs, ws, _, _, .cons hi hs => by
    obtain ⟨ds1, ds2, A1, A2, rfl, rfl, h1, h2⟩ := TrIs.split hs
    exact ⟨_ :: ds1, ds2, _ ++ A1, A2, rfl, by rw [List.append_assoc], .cons hi h1, h2⟩
/-! depth, size -/
mutual
def Nd.deep : Nd → Nat
  | .br _ ds => Nd.deeps ds + 1
  | _ => 0
def Nd.deeps : List Nd → Nat
  | [] => 0
  | d :: ds => max (Nd.deep d) (Nd.deeps ds)
end
/-! ### numbered -/
theorem deeps_app : ∀ (ds es : List Nd), Nd.deeps (ds ++ es) = max (Nd.deeps ds) (Nd.deeps es)
  | [], es => by simp [Nd.deeps]
  | d :: ds, es => by
    rw [List.cons_append, Nd.deeps, deeps_app ds es, Nd.deeps]
    omega
end Ly
namespace Ly
open PySem PySem.Spec PyProof.Rows L2 SX
mutual
def Nd.wide : Nd → Nat
  | .br _ ds => Nd.wides ds
  | _ => 0
def Nd.wides : List Nd → Nat
  | [] => 0
  | d :: ds => max (Nd.wide d) (max (ds.length + 1) (Nd.wides ds))
end
theorem len_wides : ∀ ds : List Nd, ds.length ≤ Nd.wides ds
  | [] => Nat.le_refl _
  | d :: ds => by
    rw [Nd.wides, List.length_cons]
    omega
theorem mem_wides : ∀ {ds : List Nd} {d : Nd}, d ∈ ds → Nd.wide d ≤ Nd.wides ds
  | e :: ds, d, h => by
    rw [Nd.wides]
    rcases List.mem_cons.mp h with rfl | h
    · omega
    · have := mem_wides h
      omega
theorem mem_deeps : ∀ {ds : List Nd} {d : Nd}, d ∈ ds → Nd.deep d ≤ Nd.deeps ds
  | e :: ds, d, h => by
    rw [Nd.deeps]
    rcases List.mem_cons.mp h with rfl | h
    · omega
    · have := mem_deeps h
      omega
theorem ButS.trans {C D : List Addr} {H H1 H2 : Hp} (x : ButS C H H1) (y : ButS D H1 H2) (hD : ∀ a ∈ D, ∃ ys, H a = some (.lst ys)) : ButS (C ++ D) H H2 := by
  refine ⟨fun a ha => ?_, fun a o h hn => ?_⟩
  · rcases List.mem_append.mp ha with ha | ha
    · exact x.1 a ha
    · exact hD a ha
  · rw [List.mem_append, not_or] at hn
    exact y.2 a o (x.2 a o h hn.1) hn.2
theorem ButS.but {b : Addr} {xs : List V} {H H1 : Hp} (h : H b = some (.lst xs)) (y : But b H H1) : ButS [b] H H1 := by
  refine ⟨fun a ha => ?_, fun a o h hn => y a o (fun e => hn (by rw [e]; simp)) h⟩
  rw [List.mem_singleton] at ha
  rw [ha]
  exact ⟨_, h⟩
theorem TrI.same {H H' : Hp} (s : Same H H') {v : V} {d : Nd} {A : List Addr} (h : TrI H v d A) : TrI H' v d A := TrI.frame (ButS.of_same s) h (by simp)
theorem TrIs.same {H H' : Hp} (s : Same H H') {v : List V} {d : List Nd} {A : List Addr} (h : TrIs H v d A) : TrIs H' v d A := TrIs.frame (ButS.of_same s) h (by simp)
end Ly

set_option maxHeartbeats 4000000
namespace Ly
open PySem PySem.Spec PyProof.Rows L2 SX
/-! ### a nest being made: the list b hangs in open frames -/
inductive Ctx (H : Hp) : Addr → List Addr → List (List Nd × Nat) → List Addr → Prop
  | nil (b : Addr) : Ctx H b [] [] []
  | cons {b b0 t : Addr} {bs : List Addr} {fs : List (List Nd × Nat)} {A A0 : List Addr} {xs0 : List V} {ds0 : List Nd} {o : Nat} : H b0 = some (.lst (xs0 ++ [.ref t])) → TrIs H xs0 ds0 A0 → H t = some (.tup [Tx [o], .ref b]) → Ctx H b0 bs fs A → Ctx H b (b0 :: bs) ((ds0, o) :: fs) (b0 :: (A0 ++ A))
theorem Ctx.frame {H H' : Hp} {C : List Addr} (s : ButS C H H') : ∀ {b : Addr} {bs : List Addr} {fs : List (List Nd × Nat)} {A : List Addr}, Ctx H b bs fs A → (∀ x ∈ A, x ∉ C) → Ctx H' b bs fs A
  | _, _, _, _, .nil b, _ => .nil b
  | _, _, _, _, .cons h1 h2 h3 h4, h => .cons (s.2 _ _ h1 (h _ (List.mem_cons_self ..))) (TrIs.frame s h2 fun x hx => h x (List.mem_cons_of_mem _ (List.mem_append_left _ hx))) (s.2 _ _ h3 fun hc => by obtain ⟨ys, e⟩ := s.1 _ hc; rw [h3] at e; cases e) (Ctx.frame s h4 fun x hx => h x (List.mem_cons_of_mem _ (List.mem_append_right _ hx)))
theorem Ctx.lsts {H : Hp} : ∀ {b : Addr} {bs : List Addr} {fs : List (List Nd × Nat)} {A : List Addr}, Ctx H b bs fs A → ∀ x ∈ A, ∃ ys, H x = some (.lst ys)
  | _, _, _, _, .nil b, x, hx => by simp at hx
  | _, _, _, _, .cons h1 h2 h3 h4, x, hx => by
    rcases List.mem_cons.mp hx with rfl | hx
    · exact ⟨_, h1⟩
    · rcases List.mem_append.mp hx with hx | hx
      · exact TrIs.lsts h2 x hx
      · exact Ctx.lsts h4 x hx
theorem Ctx.len {H : Hp} : ∀ {b : Addr} {bs : List Addr} {fs : List (List Nd × Nat)} {A : List Addr}, Ctx H b bs fs A → bs.length = fs.length
  | _, _, _, _, .nil b => rfl
  | _, _, _, _, .cons _ _ _ h4 => by simp [Ctx.len h4]
/-- the whole state: the open list, its frames, all lists unlike and new since H0 -/
structure Bld (N : Addr → Prop) (H : Hp) (b : Addr) (bs : List Addr) (fs : List (List Nd × Nat)) (cur : List Nd) : Prop where
  ex : ∃ xs A1 A, H b = some (.lst xs) ∧ TrIs H xs cur A1 ∧ Ctx H b bs fs A ∧ (b :: (A1 ++ A)).Nodup ∧ ∀ x ∈ b :: (A1 ++ A), N x
theorem Bld.start {N : Addr → Prop} {H : Hp} {b : Addr} (h : H b = some (.lst [])) (n : N b) : Bld N H b [] [] [] := ⟨[], [], [], h, .nil, .nil b, by simp, by simpa using n⟩
/-- nothing of it is touched -/
theorem Bld.same {N : Addr → Prop} {H H' : Hp} {b : Addr} {bs : List Addr} {fs : List (List Nd × Nat)} {cur : List Nd} (B : Bld N H b bs fs cur) (s : Same H H') : Bld N H' b bs fs cur := by
  obtain ⟨xs, A1, A, h1, h2, h3, h4, h5⟩ := B.ex
  exact ⟨xs, A1, A, s _ _ h1, TrIs.same s h2, Ctx.frame (ButS.of_same s) h3 (by simp), h4, h5⟩
theorem Bld.but {N : Addr → Prop} {H H' : Hp} {b p : Addr} {bs : List Addr} {fs : List (List Nd × Nat)} {cur : List Nd} {ys : List V} (B : Bld N H b bs fs cur) (s : But p H H') (hp : H p = some (.lst ys)) (hn : ¬ N p) : Bld N H' b bs fs cur := by
  obtain ⟨xs, A1, A, h1, h2, h3, h4, h5⟩ := B.ex
  have bs := ButS.but hp s
  have hno : ∀ x ∈ b :: (A1 ++ A), x ∉ [p] := fun x hx hc => by
    rw [List.mem_singleton] at hc
    rw [hc] at hx
    exact hn (h5 p hx)
  exact ⟨xs, A1, A, bs.2 _ _ h1 (hno b (List.mem_cons_self ..)), TrIs.frame bs h2 fun x hx => hno x (List.mem_cons_of_mem _ (List.mem_append_left _ hx)), Ctx.frame bs h3 fun x hx => hno x (List.mem_cons_of_mem _ (List.mem_append_right _ hx)), h4, h5⟩
theorem Bld.cur {N : Addr → Prop} {H : Hp} {b : Addr} {bs : List Addr} {fs : List (List Nd × Nat)} {cur : List Nd} (B : Bld N H b bs fs cur) : ∃ xs, H b = some (.lst xs) ∧ xs.length = cur.length ∧ N b ∧ bs.length = fs.length := by
  obtain ⟨xs, A1, A, h1, h2, h3, h4, h5⟩ := B.ex
  exact ⟨xs, h1, TrIs.len h2, h5 b (List.mem_cons_self ..), Ctx.len h3⟩
/-- a letter behind -/
theorem Bld.letter {N : Addr → Prop} {H H' : Hp} {b : Addr} {bs : List Addr} {fs : List (List Nd × Nat)} {cur : List Nd} {xs : List V} {c : Nat} (B : Bld N H b bs fs cur) (hb : H b = some (.lst xs)) (s : But b H H') (e : H' b = some (.lst (xs ++ [Tx [c]]))) : Bld N H' b bs fs (cur ++ [.let_ c]) := by
  obtain ⟨xs', A1, A, h1, h2, h3, h4, h5⟩ := B.ex
  rw [hb] at h1
  cases h1
  have bs := ButS.but hb s
  have hn := List.nodup_cons.mp h4
  have hno : ∀ x ∈ A1 ++ A, x ∉ [b] := fun x hx hc => by
    rw [List.mem_singleton] at hc
    rw [hc] at hx
    exact hn.1 hx
  have h2' := TrIs.snoc (TrIs.frame bs h2 fun x hx => hno x (List.mem_append_left _ hx)) (TrI.let_ (H := H') c)
  rw [List.append_nil] at h2'
  exact ⟨_, A1, A, e, h2', Ctx.frame bs h3 fun x hx => hno x (List.mem_append_right _ hx), h4, h5⟩
/-- a bracket opened: i the new list, t the tuple -/
theorem Bld.open_ {N : Addr → Prop} {Hp0 H H' : Hp} {b i t : Addr} {bs : List Addr} {fs : List (List Nd × Nat)} {cur : List Nd} {xs : List V} {o : Nat} (B0 : Bld N Hp0 b bs fs cur) (s0 : Same Hp0 H) (hb : H b = some (.lst xs)) (s : But b H H') (hi : H i = some (.lst [])) (ht : H t = some (.tup [Tx [o], .ref i])) (ni : Hp0 i = none) (hN : N i)
    (e : H' b = some (.lst (xs ++ [.ref t]))) : Bld N H' i (b :: bs) ((cur, o) :: fs) [] := by
  obtain ⟨xs', A1, A, h1, h2, h3, h4, h5⟩ := B0.ex
  have hi' : i ∉ b :: (A1 ++ A) := by
    intro hx
    have : ∃ ys, Hp0 i = some (.lst ys) := by
      rcases List.mem_cons.mp hx with rfl | hx
      · exact ⟨_, h1⟩
      · rcases List.mem_append.mp hx with hx | hx
        · exact TrIs.lsts h2 _ hx
        · exact Ctx.lsts h3 _ hx
    obtain ⟨ys, ey⟩ := this
    rw [ni] at ey
    cases ey
  have h1 := s0 _ _ h1
  have h2 := TrIs.same s0 h2
  have h3 := Ctx.frame (ButS.of_same s0) h3 (by simp)
  rw [hb] at h1
  cases h1
  have bS := ButS.but hb s
  have hn := List.nodup_cons.mp h4
  have hib : i ≠ b := fun e => hi' (by rw [e]; exact List.mem_cons_self ..)
  have htb : t ≠ b := fun e => by rw [e, hb] at ht; cases ht
  have hno : ∀ x ∈ A1 ++ A, x ∉ [b] := fun x hx hc => by
    rw [List.mem_singleton] at hc
    rw [hc] at hx
    exact hn.1 hx
  refine ⟨[], [], b :: (A1 ++ A), s _ _ hib hi, .nil, .cons e (TrIs.frame bS h2 fun x hx => hno x (List.mem_append_left _ hx)) (s _ _ htb ht) (Ctx.frame bS h3 fun x hx => hno x (List.mem_append_right _ hx)), ?_, ?_⟩
  · exact List.nodup_cons.mpr ⟨hi', h4⟩
  · intro x hx
    rcases List.mem_cons.mp hx with rfl | hx
    · exact hN
    · exact h5 x hx
/-- a bracket closed -/
theorem Bld.close {N : Addr → Prop} {H : Hp} {b : Addr} {bs : List Addr} {fs : List (List Nd × Nat)} {cur ds0 : List Nd} {o : Nat} (B : Bld N H b bs ((ds0, o) :: fs) cur) : ∃ b0 bs0, bs = b0 :: bs0 ∧ Bld N H b0 bs0 fs (ds0 ++ [.br o cur]) := by
  obtain ⟨xs, A1, A, h1, h2, h3, h4, h5⟩ := B.ex
  cases h3 with
  | @cons _ b0 t bs0 _ A' A0 xs0 _ _ k1 k2 k3 k4 =>
    refine ⟨b0, bs0, rfl, ⟨xs0 ++ [.ref t], A0 ++ (b :: A1), A', k1, TrIs.snoc k2 (.br k3 h1 h2), k4, ?_, ?_⟩⟩
    · refine List.Perm.nodup (List.perm_iff_count.mpr fun a => ?_) h4
      simp only [List.count_cons, List.count_append]
      omega
    · intro x hx
      refine h5 x ?_
      simp only [List.mem_cons, List.mem_append] at hx ⊢
      rcases hx with rfl | ((hx | rfl | hx) | hx)
      · exact .inr (.inr (.inl rfl))
      · exact .inr (.inr (.inr (.inl hx)))
      · exact .inl rfl
      · exact .inr (.inl hx)
      · exact .inr (.inr (.inr (.inr hx)))
/-! ### what the text tells -/
def nstep (s : List (List Nd × Nat) × List Nd) (c : Nat) : List (List Nd × Nat) × List Nd :=
  if c ∈ CLO then (match s.1 with | (ds, o) :: fs => (fs, ds ++ [.br o s.2]) | [] => s) else if c ∈ OPN then ((s.2, c) :: s.1, []) else (s.1, s.2 ++ [.let_ c])
def nst (l : List Nat) : List (List Nd × Nat) × List Nd := l.foldl nstep ([], [])
def nestD (l : List Nat) : List Nd := (nst l).2
theorem nst_snoc (l : List Nat) (c : Nat) : nst (l ++ [c]) = nstep (nst l) c := by
  unfold nst
  rw [List.foldl_append]
  rfl
/-- the frames are the pile -/
theorem fold_nst : ∀ (l st : List Nat) (fs : List (List Nd × Nat)) (cur : List Nd) (r : List Nat), st = fs.map (fun p => oth p.2) → l.foldl stp (some st) = some r → r = (l.foldl nstep (fs, cur)).1.map fun p => oth p.2
  | [], st, fs, cur, r, h, e => by
    cases e
    exact h
  | c :: l, st, fs, cur, r, h, e => by
    rw [List.foldl_cons] at e ⊢
    by_cases h1 : c ∈ OPN
    · have h2 : c ∉ CLO := opn_clo c h1
      rw [stp_opn h1] at e
      have en : nstep (fs, cur) c = ((cur, c) :: fs, []) := by unfold nstep; rw [if_neg h2, if_pos h1]
      rw [en]
      exact fold_nst l _ _ _ r (by rw [h]; rfl) e
    · by_cases h2 : c ∈ CLO
      · cases fs with
        | nil =>
          subst h
          have e0 : stp (some (List.map (fun p : List Nd × Nat => oth p.2) [])) c = none := by
            show stp (some []) c = none
            unfold stp
            simp only [h1, h2, if_true, if_false]
          rw [e0, fold_none] at e
          cases e
        | cons f fs =>
          obtain ⟨ds, o⟩ := f
          subst h
          by_cases hd : oth o = c
          · have e0 : stp (some (List.map (fun p : List Nd × Nat => oth p.2) ((ds, o) :: fs))) c = some (fs.map fun p => oth p.2) := by
              show stp (some (oth o :: fs.map fun p => oth p.2)) c = _
              rw [hd, stp_clo h2]
            rw [e0] at e
            have en : nstep ((ds, o) :: fs, cur) c = (fs, ds ++ [.br o cur]) := by unfold nstep; rw [if_pos h2]
            rw [en]
            exact fold_nst l _ _ _ r rfl e
          · have e0 : stp (some (List.map (fun p : List Nd × Nat => oth p.2) ((ds, o) :: fs))) c = none := by
              show stp (some (oth o :: fs.map fun p => oth p.2)) c = none
              unfold stp
              simp only [h1, h2, hd, if_true, if_false]
            rw [e0, fold_none] at e
            cases e
      · rw [stp_let h1 h2] at e
        have en : nstep (fs, cur) c = (fs, cur ++ [.let_ c]) := by unfold nstep; rw [if_neg h2, if_neg h1]
        rw [en]
        exact fold_nst l _ _ _ r h e
theorem nst_run {l st : List Nat} (h : run l = some st) : st = (nst l).1.map fun p => oth p.2 := fold_nst l [] [] [] st rfl h
theorem nst_clean {l : List Nat} (h : clean l) : (nst l).1 = [] := by
  have := nst_run h
  exact List.map_eq_nil_iff.mp this.symm
/-- a closing bracket in a clean text closes one -/
theorem nst_clo {l pre post : List Nat} {c : Nat} (h : clean l) (e : l = pre ++ c :: post) (hc : c ∈ CLO) : ∃ ds o fs, (nst pre).1 = (ds, o) :: fs ∧ oth o = c := by
  have h1 : c ∉ OPN := fun h1 => opn_clo c h1 hc
  have h' : run (pre ++ c :: post) = some [] := by rw [← e]; exact h
  rw [run_app, List.foldl_cons] at h'
  cases hr : run pre with
  | none =>
    rw [hr] at h'
    have : stp none c = none := rfl
    rw [this, fold_none] at h'
    cases h'
  | some st =>
    have hst := nst_run hr
    rw [hr] at h'
    cases hf : (nst pre).1 with
    | nil =>
      rw [hf] at hst
      subst hst
      have e0 : stp (some (List.map (fun p : List Nd × Nat => oth p.2) [])) c = none := by
        show stp (some []) c = none
        unfold stp
        simp only [h1, hc, if_true, if_false]
      rw [e0, fold_none] at h'
      cases h'
    | cons f fs =>
      obtain ⟨ds, o⟩ := f
      rw [hf] at hst
      refine ⟨ds, o, fs, rfl, ?_⟩
      by_cases hd : oth o = c
      · exact hd
      · exfalso
        subst hst
        have e0 : stp (some (List.map (fun p : List Nd × Nat => oth p.2) ((ds, o) :: fs))) c = none := by
          show stp (some (oth o :: fs.map fun p => oth p.2)) c = none
          unfold stp
          simp only [h1, hc, hd, if_true, if_false]
        rw [e0, fold_none] at h'
        cases h'
end Ly
namespace Ly
theorem wides_snoc (ds : List Nd) (d : Nd) : Nd.wides (ds ++ [d]) ≤ max (Nd.wides ds) (max (ds.length + 1) (Nd.wide d)) := by
  induction ds with
  | nil =>
    have e0 : Nd.wides [] = 0 := by rw [Nd.wides]
    have e1 : Nd.wides [d] = max d.wide (max (0 + 1) 0) := by rw [Nd.wides, e0]; rfl
    rw [List.nil_append, e0, e1]
    simp only [List.length_nil]
    omega
  | cons e ds ih =>
    rw [List.cons_append, Nd.wides, Nd.wides, List.length_append]
    simp only [List.length_cons, List.length_nil]
    omega
/-- sizes -/
def nbd (s : List (List Nd × Nat) × List Nd) (n : Nat) : Prop := s.2.length ≤ n ∧ s.1.length ≤ n ∧ Nd.wides s.2 ≤ n ∧ ∀ f ∈ s.1, f.1.length ≤ n ∧ Nd.wides f.1 ≤ n
theorem nbd_step {s : List (List Nd × Nat) × List Nd} {n c : Nat} (h : nbd s n) : nbd (nstep s c) (n + 1) := by
  obtain ⟨fs, cur⟩ := s
  obtain ⟨h1, h2, h3, h4⟩ := h
  have h1' : cur.length ≤ n := h1
  have h2' : fs.length ≤ n := h2
  have h3' : Nd.wides cur ≤ n := h3
  unfold nstep
  by_cases hc : c ∈ CLO
  · rw [if_pos hc]
    cases fs with
    | nil => exact ⟨by show cur.length ≤ _; omega, by simp, by show Nd.wides cur ≤ _; omega, by simp⟩
    | cons f fs =>
      obtain ⟨ds, o⟩ := f
      have hf := h4 (ds, o) (List.mem_cons_self ..)
      have hf1 : ds.length ≤ n := hf.1
      have hf2 : Nd.wides ds ≤ n := hf.2
      have hw := wides_snoc ds (.br o cur)
      rw [Nd.wide] at hw
      simp at h2'
      refine ⟨by simp; omega, by show fs.length ≤ _; omega, by show Nd.wides (ds ++ [.br o cur]) ≤ _; omega, fun g hg => ?_⟩
      have := h4 g (List.mem_cons_of_mem _ hg)
      omega
  · rw [if_neg hc]
    by_cases ho : c ∈ OPN
    · rw [if_pos ho]
      refine ⟨by simp, by simp; omega, by show Nd.wides [] ≤ _; rw [Nd.wides]; omega, fun g hg => ?_⟩
      rcases List.mem_cons.mp hg with rfl | hg
      · exact ⟨by show cur.length ≤ _; omega, by show Nd.wides cur ≤ _; omega⟩
      · have := h4 g hg
        omega
    · rw [if_neg ho]
      have hw := wides_snoc cur (.let_ c)
      have e0 : (Nd.let_ c).wide = 0 := by simp [Nd.wide]
      rw [e0] at hw
      refine ⟨by simp; omega, by show fs.length ≤ _; omega, by show Nd.wides (cur ++ [.let_ c]) ≤ _; omega, fun g hg => ?_⟩
      have := h4 g hg
      omega
theorem nbd_fold : ∀ (l : List Nat) (s : List (List Nd × Nat) × List Nd) (n : Nat), nbd s n → nbd (l.foldl nstep s) (n + l.length)
  | [], s, n, h => h
  | c :: l, s, n, h => by
    rw [List.foldl_cons, List.length_cons, show n + (l.length + 1) = (n + 1) + l.length by omega]
    exact nbd_fold l _ _ (nbd_step h)
theorem nst_bd (l : List Nat) : nbd (nst l) l.length := by
  have := nbd_fold l ([], []) 0 ⟨by simp, by simp, by rw [Nd.wides]; omega, by simp⟩
  rw [Nat.zero_add] at this
  exact this
/-- depths -/
def ndp (s : List (List Nd × Nat) × List Nd) (n : Nat) : Prop := Nd.deeps s.2 + s.1.length ≤ n ∧ ∀ j (f : List Nd × Nat), s.1[j]? = some f → Nd.deeps f.1 + (s.1.length - 1 - j) ≤ n
theorem deeps_snoc (ds : List Nd) (d : Nd) : Nd.deeps (ds ++ [d]) = max (Nd.deeps ds) (Nd.deep d) := by
  rw [deeps_app, Nd.deeps, Nd.deeps]
  omega
theorem ndp_step {s : List (List Nd × Nat) × List Nd} {n c : Nat} (h : ndp s n) : ndp (nstep s c) (n + if c ∈ OPN then 1 else 0) := by
  obtain ⟨fs, cur⟩ := s
  obtain ⟨h1, h4⟩ := h
  have h1' : Nd.deeps cur + fs.length ≤ n := h1
  unfold nstep
  by_cases hc : c ∈ CLO
  · rw [if_pos hc]
    cases fs with
    | nil => exact ⟨by show Nd.deeps cur + 0 ≤ _; simp at h1'; omega, fun j f hf => by cases hf⟩
    | cons f fs =>
      obtain ⟨ds, o⟩ := f
      have hf : Nd.deeps ds + (fs.length + 1 - 1 - 0) ≤ n := h4 0 (ds, o) rfl
      simp at h1'
      refine ⟨?_, fun j g hg => ?_⟩
      · show Nd.deeps (ds ++ [.br o cur]) + fs.length ≤ _
        rw [deeps_snoc, Nd.deep]
        omega
      · have hg' : Nd.deeps g.1 + (fs.length + 1 - 1 - (j + 1)) ≤ n := h4 (j + 1) g hg
        show Nd.deeps g.1 + (fs.length - 1 - j) ≤ _
        omega
  · rw [if_neg hc]
    by_cases ho : c ∈ OPN
    · rw [if_pos ho, if_pos ho]
      refine ⟨?_, fun j g hg => ?_⟩
      · show Nd.deeps [] + (fs.length + 1) ≤ _
        rw [Nd.deeps]
        omega
      · cases j with
        | zero =>
          have : g = (cur, c) := (Option.some.inj hg).symm
          subst this
          show Nd.deeps cur + (fs.length + 1 - 1 - 0) ≤ _
          omega
        | succ j =>
          have hg' : Nd.deeps g.1 + (fs.length - 1 - j) ≤ n := h4 j g hg
          show Nd.deeps g.1 + (fs.length + 1 - 1 - (j + 1)) ≤ _
          omega
    · rw [if_neg ho, if_neg ho]
      refine ⟨?_, fun j g hg => h4 j g hg⟩
      show Nd.deeps (cur ++ [.let_ c]) + fs.length ≤ _
      have e0 : (Nd.let_ c).deep = 0 := by simp [Nd.deep]
      rw [deeps_snoc, e0]
      omega
theorem ndp_fold : ∀ (l : List Nat) (s : List (List Nd × Nat) × List Nd) (n : Nat), ndp s n → ndp (l.foldl nstep s) (n + cntO l)
  | [], s, n, h => h
  | c :: l, s, n, h => by
    have e : cntO (c :: l) = (if c ∈ OPN then 1 else 0) + cntO l := by
      unfold cntO
      rw [List.countP_cons]
      simp
      omega
    rw [List.foldl_cons, e, ← Nat.add_assoc]
    exact ndp_fold l _ _ (ndp_step h)
/-- a clean text's nest is at most half as deep as it is long -/
theorem nest_deep {l : List Nat} (h : clean l) : 2 * Nd.deeps (nestD l) ≤ l.length := by
  have h1 := (ndp_fold l ([], []) 0 ⟨by show Nd.deeps [] + 0 ≤ 0; rw [Nd.deeps]; omega, fun j f hf => by cases hf⟩).1
  have h2 : Nd.deeps (nestD l) ≤ cntO l := by
    have : Nd.deeps (nst l).2 + (nst l).1.length ≤ 0 + cntO l := h1
    show Nd.deeps (nst l).2 ≤ _
    omega
  have h3 := clean_cnt h
  have h4 : cntO l + cntC l ≤ l.length := by
    have : ∀ l : List Nat, cntO l + cntC l ≤ l.length := by
      intro l
      induction l with
      | nil => simp [cntO, cntC]
      | cons c l ih =>
        have eO : cntO (c :: l) = cntO l + if c ∈ OPN then 1 else 0 := by unfold cntO; rw [List.countP_cons]; simp
        have eC : cntC (c :: l) = cntC l + if c ∈ CLO then 1 else 0 := by unfold cntC; rw [List.countP_cons]; simp
        rw [eO, eC, List.length_cons]
        by_cases h1 : c ∈ OPN
        · rw [if_pos h1, if_neg (opn_clo c h1)]
          omega
        · rw [if_neg h1]
          split <;> omega
    exact this l
  omega
theorem nest_wide (l : List Nat) : Nd.wides (nestD l) ≤ l.length := (nst_bd l).2.2.1
end Ly
namespace Ly
mutual
/-- the text of a nest -/
def txI : Nd → List Nat
  | .let_ c => [c]
  | .num _ => []
  | .br o ds => o :: (txN ds ++ [oth o])
def txN : List Nd → List Nat
  | [] => []
  | d :: ds => txI d ++ txN ds
end
theorem txN_app : ∀ ds es : List Nd, txN (ds ++ es) = txN ds ++ txN es
  | [], es => by rw [List.nil_append, txN, List.nil_append]
  | d :: ds, es => by rw [List.cons_append, txN, txN_app ds es, txN, List.append_assoc]
theorem txN_one (d : Nd) : txN [d] = txI d := by rw [txN, txN, List.append_nil]
/-- the text of a nest being made -/
def txF : List (List Nd × Nat) → List Nat
  | [] => []
  | (ds, o) :: fs => txF fs ++ txN ds ++ [o]
def txS (s : List (List Nd × Nat) × List Nd) : List Nat := txF s.1 ++ txN s.2
theorem fold_tx : ∀ (l st : List Nat) (fs : List (List Nd × Nat)) (cur : List Nd) (r : List Nat), st = fs.map (fun p => oth p.2) → l.foldl stp (some st) = some r → txS (l.foldl nstep (fs, cur)) = txS (fs, cur) ++ l
  | [], st, fs, cur, r, h, e => by rw [List.append_nil]; rfl
  | c :: l, st, fs, cur, r, h, e => by
    rw [List.foldl_cons] at e ⊢
    by_cases h1 : c ∈ OPN
    · have h2 : c ∉ CLO := opn_clo c h1
      rw [stp_opn h1] at e
      have en : nstep (fs, cur) c = ((cur, c) :: fs, []) := by unfold nstep; rw [if_neg h2, if_pos h1]
      rw [en, fold_tx l _ _ _ r (by rw [h]; rfl) e]
      show txF fs ++ txN cur ++ [c] ++ txN [] ++ l = txF fs ++ txN cur ++ c :: l
      rw [txN]
      simp
    · by_cases h2 : c ∈ CLO
      · cases fs with
        | nil =>
          subst h
          have e0 : stp (some (List.map (fun p : List Nd × Nat => oth p.2) [])) c = none := by
            show stp (some []) c = none
            unfold stp
            simp only [h1, h2, if_true, if_false]
          rw [e0, fold_none] at e
          cases e
        | cons f fs =>
          obtain ⟨ds, o⟩ := f
          subst h
          by_cases hd : oth o = c
          · have e0 : stp (some (List.map (fun p : List Nd × Nat => oth p.2) ((ds, o) :: fs))) c = some (fs.map fun p => oth p.2) := by
              show stp (some (oth o :: fs.map fun p => oth p.2)) c = _
              rw [hd, stp_clo h2]
            rw [e0] at e
            have en : nstep ((ds, o) :: fs, cur) c = (fs, ds ++ [.br o cur]) := by unfold nstep; rw [if_pos h2]
            rw [en, fold_tx l _ _ _ r rfl e]
            show txF fs ++ txN (ds ++ [.br o cur]) ++ l = txF fs ++ txN ds ++ [o] ++ txN cur ++ c :: l
            rw [txN_app, txN_one, txI, hd]
            simp
          · have e0 : stp (some (List.map (fun p : List Nd × Nat => oth p.2) ((ds, o) :: fs))) c = none := by
              show stp (some (oth o :: fs.map fun p => oth p.2)) c = none
              unfold stp
              simp only [h1, h2, hd, if_true, if_false]
            rw [e0, fold_none] at e
            cases e
      · rw [stp_let h1 h2] at e
        have en : nstep (fs, cur) c = (fs, cur ++ [.let_ c]) := by unfold nstep; rw [if_neg h2, if_neg h1]
        rw [en, fold_tx l _ _ _ r h e]
        show txF fs ++ txN (cur ++ [.let_ c]) ++ l = txF fs ++ txN cur ++ c :: l
        rw [txN_app, txN_one, txI]
        simp
theorem tx_nest {l : List Nat} (h : clean l) : txN (nestD l) = l := by
  have e := fold_tx l [] [] [] [] rfl h
  have e1 : txS (nst l) = txS ([], []) ++ l := e
  have e2 : txS (nst l) = txN (nestD l) := by
    unfold txS nestD
    rw [nst_clean h]
    rfl
  have e3 : txS ([], []) = [] := by
    show txF [] ++ txN [] = []
    rw [txN]
    rfl
  rw [← e2, e1, e3]
  rfl
end Ly

set_option maxHeartbeats 4000000
namespace Ly
open PySem PySem.Spec PyProof.Rows L2 SX
/-! ### == and != of deep data -/
theorem Room.wide {k : Nat} {A : Around} (r : Room k A) : A.units + 190 < cLine := by have := r.un; omega
def rNeW (K : PySem.W.Frag) : R2 := fun x y H Q => ∃ d e, Dp K H x d ∧ Dp K H y e ∧ PyData.canLay0 d = true ∧ PyData.canLay0 e = true ∧ d.depth ≤ 190 ∧ Q (.bl (!PyData.eqv d e)) H
section
variable {X : Cx}
theorem op_neW (hu : X.A.units + 190 < cLine) : OpR X (compareOp .NotEq) (rNeW X.K) := by
  intro pins s σ H x y v u Q I rx ry h
  obtain ⟨d, e, hd, he, sd, se, hdp, q⟩ := h
  obtain ⟨as, r1⟩ := Dp.reads I d x v hd rx
  obtain ⟨bs, r2⟩ := Dp.reads I e y u he ry
  exact SeqAt.compareNe_reads r1 r2 sd se (by have := Nat.min_le_left d.depth e.depth; omega) ⟨.bl _, H, I, rfl, q⟩
end
/-! nests as data -/
mutual
def ndD : Nd → PyData
  | .let_ c => .str (S [c])
  | .num i => .int i
  | .br o ds => .tuple [.str (S [o]), .list (ndDs ds)]
def ndDs : List Nd → List PyData
  | [] => []
  | d :: ds => ndD d :: ndDs ds
end
mutual
theorem TrI.dp {K : PySem.W.Frag} {H : Hp} : ∀ {v : V} {d : Nd} {A : List Addr}, TrI H v d A → Dp K H v (ndD d)
  | _, _, _, .let_ c => by rw [ndD]; exact .str _
  | _, _, _, .num i => by rw [ndD]; exact .int i
  | _, _, _, .br ht hb hs => by
    rw [ndD]
    exact .tup (st_of ht) (.cons (.str _) (.cons (.lst (sq_of hb) (TrIs.dp hs)) .nil))
theorem TrIs.dp {K : PySem.W.Frag} {H : Hp} : ∀ {vs : List V} {ds : List Nd} {A : List Addr}, TrIs H vs ds A → DpAll K H vs (ndDs ds)
  | _, _, _, .nil => by rw [ndDs]; exact .nil
  | _, _, _, .cons hi hs => by rw [ndDs]; exact .cons (TrI.dp hi) (TrIs.dp hs)
end
end Ly
namespace Ly
open PySem PySem.Spec PyProof.Rows L2 SX
mutual
/-- brackets are brackets, letters letters, no numbers -/
def ndOk1 : Nd → Prop
  | .br o ds => o ∈ OPN ∧ ndOk ds
  | .let_ c => c ∈ LET
  | .num _ => False
def ndOk : List Nd → Prop
  | [] => True
  | d :: ds => ndOk1 d ∧ ndOk ds
end
theorem ndOk_app : ∀ ds es : List Nd, ndOk ds → ndOk es → ndOk (ds ++ es)
  | [], es, _, h => h
  | d :: ds, es, h1, h2 => by
    rw [ndOk] at h1
    rw [List.cons_append, ndOk]
    exact ⟨h1.1, ndOk_app ds es h1.2 h2⟩
theorem ndOk_one {d : Nd} (h : ndOk1 d) : ndOk [d] := by
  rw [ndOk, ndOk]
  exact ⟨h, trivial⟩
theorem ndOk_step {s : List (List Nd × Nat) × List Nd} {c : Nat} (hc : isSg c) (h : ndOk s.2 ∧ ∀ f ∈ s.1, ndOk f.1 ∧ f.2 ∈ OPN) : ndOk (nstep s c).2 ∧ ∀ f ∈ (nstep s c).1, ndOk f.1 ∧ f.2 ∈ OPN := by
  obtain ⟨fs, cur⟩ := s
  obtain ⟨h1, h2⟩ := h
  unfold nstep
  by_cases hk : c ∈ CLO
  · rw [if_pos hk]
    cases fs with
    | nil => exact ⟨h1, by simp⟩
    | cons f fs =>
      obtain ⟨ds, o⟩ := f
      have hf := h2 (ds, o) (List.mem_cons_self ..)
      refine ⟨ndOk_app _ _ hf.1 (ndOk_one ?_), fun g hg => h2 g (List.mem_cons_of_mem _ hg)⟩
      rw [ndOk1]
      exact ⟨hf.2, h1⟩
  · rw [if_neg hk]
    by_cases ho : c ∈ OPN
    · rw [if_pos ho]
      refine ⟨by show ndOk []; rw [ndOk]; trivial, fun g hg => ?_⟩
      rcases List.mem_cons.mp hg with rfl | hg
      · exact ⟨h1, ho⟩
      · exact h2 g hg
    · rw [if_neg ho]
      refine ⟨ndOk_app _ _ h1 (ndOk_one ?_), h2⟩
      rw [ndOk1]
      rcases hc with hc | hc
      · exact hc
      · rcases brk_or.mp hc with h | h
        · exact absurd h ho
        · exact absurd h hk
theorem ndOk_fold : ∀ (l : List Nat) (s : List (List Nd × Nat) × List Nd), (∀ c ∈ l, isSg c) → (ndOk s.2 ∧ ∀ f ∈ s.1, ndOk f.1 ∧ f.2 ∈ OPN) → ndOk (l.foldl nstep s).2 ∧ ∀ f ∈ (l.foldl nstep s).1, ndOk f.1 ∧ f.2 ∈ OPN
  | [], s, _, h => h
  | c :: l, s, hs, h => ndOk_fold l _ (fun x hx => hs x (List.mem_cons_of_mem _ hx)) (ndOk_step (hs c (List.mem_cons_self ..)) h)
theorem nest_ok {l : List Nat} (hs : ∀ c ∈ l, isSg c) : ndOk (nestD l) := (ndOk_fold l ([], []) hs ⟨by show ndOk []; rw [ndOk]; trivial, by simp⟩).1
mutual
theorem nd_depth1 : ∀ d : Nd, (ndD d).depth ≤ 2 * d.deep
  | .let_ c => by
    rw [ndD]
    exact Nat.zero_le _
  | .num i => by
    rw [ndD]
    exact Nat.zero_le _
  | .br o ds => by
    rw [ndD, Nd.deep]
    have := nd_depth ds
    show max 0 (max (PyData.depthAll (ndDs ds) + 1) 0) + 1 ≤ _
    omega
theorem nd_depth : ∀ ds : List Nd, PyData.depthAll (ndDs ds) ≤ 2 * Nd.deeps ds
  | [] => by
    rw [ndDs]
    exact Nat.zero_le _
  | d :: ds => by
    rw [ndDs, Nd.deeps]
    have h1 := nd_depth1 d
    have h2 := nd_depth ds
    show max (ndD d).depth (PyData.depthAll (ndDs ds)) ≤ _
    omega
end
end Ly
namespace Ly
open PySem PySem.Spec PyProof.Rows L2 SX
theorem str_can {c : Nat} (h : c < 1114112) : PyData.canLay0 (.str (S [c])) = true := can_tx (l := [c]) (fun x hx => by rw [List.mem_singleton] at hx; rw [hx]; exact h)
mutual
theorem nd_can1 : ∀ d : Nd, ndOk1 d → PyData.canLay0 (ndD d) = true
  | .let_ c, h => by
    rw [ndOk1] at h
    rw [ndD]
    exact str_can (sg_lt (.inl h))
  | .num i, h => by
    rw [ndD]
    rfl
  | .br o ds, h => by
    rw [ndOk1] at h
    rw [ndD]
    have h1 := nd_can ds h.2
    have h2 := str_can (sg_lt (.inr (brk_or.mpr (.inl h.1))))
    show (PyData.canLay0 (.str (S [o])) && (PyData.canLayAll0 (ndDs ds) && true)) = true
    rw [h1, h2]
    rfl
theorem nd_can : ∀ ds : List Nd, ndOk ds → PyData.canLayAll0 (ndDs ds) = true
  | [], _ => by
    rw [ndDs]
    rfl
  | d :: ds, h => by
    rw [ndOk] at h
    rw [ndDs]
    show (PyData.canLay0 (ndD d) && PyData.canLayAll0 (ndDs ds)) = true
    rw [nd_can1 d h.1, nd_can ds h.2]
    rfl
end
end Ly
namespace Ly
mutual
/-- how many lists that are not empty stand one within another -/
def hgI : Nd → Nat
  | .br _ ds => hgt ds
  | .let_ _ => 0
  | .num _ => 0
def hgt : List Nd → Nat
  | [] => 0
  | d :: ds => max (hgI d + 1) (hgt ds)
end
theorem hgt_snoc : ∀ (ds : List Nd) (d : Nd), hgt (ds ++ [d]) = max (hgt ds) (hgI d + 1)
  | [], d => by
    have e0 : hgt [] = 0 := by rw [hgt]
    have e1 : hgt [d] = max (hgI d + 1) 0 := by rw [hgt, e0]
    rw [List.nil_append, e1, e0]
    omega
  | e :: ds, d => by
    rw [List.cons_append, hgt, hgt_snoc ds d, hgt]
    omega
def nhg (s : List (List Nd × Nat) × List Nd) (n : Nat) : Prop := s.1.length ≤ n ∧ 2 * hgt s.2 + s.1.length ≤ n + 1 ∧ ∀ j (f : List Nd × Nat), s.1[j]? = some f → 2 * hgt f.1 + (s.1.length - 1 - j) ≤ n + 1
theorem nhg_step {s : List (List Nd × Nat) × List Nd} {n c : Nat} (h : nhg s n) : nhg (nstep s c) (n + 1) := by
  obtain ⟨fs, cur⟩ := s
  obtain ⟨h0, h1, h4⟩ := h
  have h0' : fs.length ≤ n := h0
  have h1' : 2 * hgt cur + fs.length ≤ n + 1 := h1
  have e0 : hgt [] = 0 := by rw [hgt]
  unfold nstep
  by_cases hc : c ∈ CLO
  · rw [if_pos hc]
    cases fs with
    | nil => exact ⟨by simp, by show 2 * hgt cur + 0 ≤ _; simp at h1'; omega, fun j f hf => by cases hf⟩
    | cons f fs =>
      obtain ⟨ds, o⟩ := f
      have hf : 2 * hgt ds + (fs.length + 1 - 1 - 0) ≤ n + 1 := h4 0 (ds, o) rfl
      simp at h1' h0'
      refine ⟨by show fs.length ≤ _; omega, ?_, fun j g hg => ?_⟩
      · show 2 * hgt (ds ++ [.br o cur]) + fs.length ≤ _
        rw [hgt_snoc, hgI]
        omega
      · have hg' : 2 * hgt g.1 + (fs.length + 1 - 1 - (j + 1)) ≤ n + 1 := h4 (j + 1) g hg
        show 2 * hgt g.1 + (fs.length - 1 - j) ≤ _
        omega
  · rw [if_neg hc]
    by_cases ho : c ∈ OPN
    · rw [if_pos ho]
      refine ⟨by show fs.length + 1 ≤ _; omega, ?_, fun j g hg => ?_⟩
      · show 2 * hgt [] + (fs.length + 1) ≤ _
        rw [e0]
        omega
      · cases j with
        | zero =>
          have : g = (cur, c) := (Option.some.inj hg).symm
          subst this
          show 2 * hgt cur + (fs.length + 1 - 1 - 0) ≤ _
          omega
        | succ j =>
          have hg' : 2 * hgt g.1 + (fs.length - 1 - j) ≤ n + 1 := h4 j g hg
          show 2 * hgt g.1 + (fs.length + 1 - 1 - (j + 1)) ≤ _
          omega
    · rw [if_neg ho]
      refine ⟨by show fs.length ≤ _; omega, ?_, fun j g hg => ?_⟩
      · show 2 * hgt (cur ++ [.let_ c]) + fs.length ≤ _
        rw [hgt_snoc, hgI]
        omega
      · have := h4 j g hg
        show 2 * hgt g.1 + (fs.length - 1 - j) ≤ _
        have h' : 2 * hgt g.1 + (fs.length - 1 - j) ≤ n + 1 := this
        omega
theorem nhg_fold : ∀ (l : List Nat) (s : List (List Nd × Nat) × List Nd) (n : Nat), nhg s n → nhg (l.foldl nstep s) (n + l.length)
  | [], s, n, h => h
  | c :: l, s, n, h => by
    rw [List.foldl_cons, List.length_cons, show n + (l.length + 1) = (n + 1) + l.length by omega]
    exact nhg_fold l _ _ (nhg_step h)
theorem nest_hgt (l : List Nat) : 2 * hgt (nestD l) ≤ l.length + 1 := by
  have e0 : hgt [] = 0 := by rw [hgt]
  have h := (nhg_fold l ([], []) 0 ⟨by simp, by show 2 * hgt [] + 0 ≤ 1; rw [e0]; omega, fun j f hf => by cases hf⟩).2.1
  have h' : 2 * hgt (nst l).2 + (nst l).1.length ≤ 0 + l.length + 1 := h
  show 2 * hgt (nst l).2 ≤ _
  omega
end Ly

set_option maxHeartbeats 4000000
namespace Ly
open PySem PySem.Spec PyProof.Rows L2 SX
/-! ### more steps -/
theorem kb_str_str : kitB "str" "str" = some true := by decide +kernel
theorem kb_str_int : kitB "str" "int" = some false := by decide +kernel
theorem kb_str_bool : kitB "str" "bool" = some false := by decide +kernel
theorem kb_str_list : kitB "str" "list" = some false := by decide +kernel
theorem kb_str_tuple : kitB "str" "tuple" = some false := by decide +kernel
theorem kb_int_str : kitB "int" "str" = some false := by decide +kernel
theorem kb_int_int : kitB "int" "int" = some true := by decide +kernel
theorem kb_int_bool : kitB "int" "bool" = some false := by decide +kernel
theorem kb_int_list : kitB "int" "list" = some false := by decide +kernel
theorem kb_int_tuple : kitB "int" "tuple" = some false := by decide +kernel
theorem kb_bool_str : kitB "bool" "str" = some false := by decide +kernel
theorem kb_bool_int : kitB "bool" "int" = some true := by decide +kernel
theorem kb_bool_bool : kitB "bool" "bool" = some true := by decide +kernel
theorem kb_bool_list : kitB "bool" "list" = some false := by decide +kernel
theorem kb_bool_tuple : kitB "bool" "tuple" = some false := by decide +kernel
theorem kb_list_str : kitB "list" "str" = some false := by decide +kernel
theorem kb_list_int : kitB "list" "int" = some false := by decide +kernel
theorem kb_list_bool : kitB "list" "bool" = some false := by decide +kernel
theorem kb_list_list : kitB "list" "list" = some true := by decide +kernel
theorem kb_list_tuple : kitB "list" "tuple" = some false := by decide +kernel
theorem kb_tuple_str : kitB "tuple" "str" = some false := by decide +kernel
theorem kb_tuple_int : kitB "tuple" "int" = some false := by decide +kernel
theorem kb_tuple_bool : kitB "tuple" "bool" = some false := by decide +kernel
theorem kb_tuple_list : kitB "tuple" "list" = some false := by decide +kernel
theorem kb_tuple_tuple : kitB "tuple" "tuple" = some true := by decide +kernel
theorem kb_NoneType_str : kitB "NoneType" "str" = some false := by decide +kernel
theorem kb_NoneType_int : kitB "NoneType" "int" = some false := by decide +kernel
theorem kb_NoneType_bool : kitB "NoneType" "bool" = some false := by decide +kernel
theorem kb_NoneType_list : kitB "NoneType" "list" = some false := by decide +kernel
theorem kb_NoneType_tuple : kitB "NoneType" "tuple" = some false := by decide +kernel
theorem kb_dict_str : kitB "dict" "str" = some false := by decide +kernel
theorem kb_dict_int : kitB "dict" "int" = some false := by decide +kernel
theorem kb_dict_bool : kitB "dict" "bool" = some false := by decide +kernel
theorem kb_dict_list : kitB "dict" "list" = some false := by decide +kernel
theorem kb_dict_tuple : kitB "dict" "tuple" = some false := by decide +kernel
section
variable {K : PySem.W.Frag} {σ : L2.St} {H : Hp} {Q : VK} {A B : Prop} {p a : Addr} {xs : List V} {v : V} {i : Int}
theorem g_T (q : A) : ∃ k, V.bl true = V.bl k ∧ if k = true then A else B := ⟨true, rfl, by rw [if_pos rfl]; exact q⟩
theorem g_F (q : B) : ∃ k, V.bl false = V.bl k ∧ if k = true then A else B := ⟨false, rfl, by rw [if_neg Bool.false_ne_true]; exact q⟩
theorem g_NT (q : B) : ∃ k, V.bl true = V.bl k ∧ if (!k) = true then A else B := ⟨true, rfl, q⟩
theorem g_NF (q : A) : ∃ k, V.bl false = V.bl k ∧ if (!k) = true then A else B := ⟨false, rfl, q⟩
theorem g_nT (q : A) : ∃ k, V.bl (!true) = V.bl k ∧ if k = true then B else A := ⟨false, rfl, q⟩
theorem g_nF (q : B) : ∃ k, V.bl (!false) = V.bl k ∧ if k = true then B else A := ⟨true, rfl, q⟩
theorem g_Td {c : Prop} [Decidable c] (h : c) (q : A) : ∃ k, V.bl (decide c) = V.bl k ∧ if k = true then A else B := by rw [decide_eq_true h]; exact g_T q
theorem g_Fd {c : Prop} [Decidable c] (h : ¬ c) (q : B) : ∃ k, V.bl (decide c) = V.bl k ∧ if k = true then A else B := by rw [decide_eq_false h]; exact g_F q
theorem g_NTd {c : Prop} [Decidable c] (h : c) (q : B) : ∃ k, V.bl (decide c) = V.bl k ∧ if (!k) = true then A else B := by rw [decide_eq_true h]; exact g_NT q
theorem g_NFd {c : Prop} [Decidable c] (h : ¬ c) (q : A) : ∃ k, V.bl (decide c) = V.bl k ∧ if (!k) = true then A else B := by rw [decide_eq_false h]; exact g_NF q
theorem g_nTd {c : Prop} [Decidable c] (h : c) (q : B) : ∃ k, V.bl (!decide c) = V.bl k ∧ if k = true then A else B := by rw [decide_eq_true h]; exact g_F q
theorem g_nFd {c : Prop} [Decidable c] (h : ¬ c) (q : A) : ∃ k, V.bl (!decide c) = V.bl k ∧ if k = true then A else B := by rw [decide_eq_false h]; exact g_T q
/-- a test that is told as a truth R of its answer -/
theorem g_RT {R : Bool → Hp → Prop} (q : R true H) : ∃ k, V.bl true = V.bl k ∧ R k H := ⟨_, rfl, q⟩
theorem g_RF {R : Bool → Hp → Prop} (q : R false H) : ∃ k, V.bl false = V.bl k ∧ R k H := ⟨_, rfl, q⟩
theorem g_RTd {c : Prop} [Decidable c] {R : Bool → Hp → Prop} (h : c) (q : R true H) : ∃ k, V.bl (decide c) = V.bl k ∧ R k H := ⟨_, rfl, by rw [decide_eq_true h]; exact q⟩
theorem g_RFd {c : Prop} [Decidable c] {R : Bool → Hp → Prop} (h : ¬ c) (q : R false H) : ∃ k, V.bl (decide c) = V.bl k ∧ R k H := ⟨_, rfl, by rw [decide_eq_false h]; exact q⟩
theorem g_eqS {x : V} (h : scal x x = true) (q : Q (.bl true) H) : rEq x x H Q := ⟨h, by rw [decide_eq_true rfl]; exact q⟩
theorem g_neS {x : V} (h : scal x x = true) (q : Q (.bl false) H) : rNe x x H Q := ⟨h, by rw [decide_eq_true rfl]; exact q⟩
theorem g_ixAU3 (h : H p = some (.tup xs)) (h1 : atI xs i = some v) (q : Q v H) : rIx K (.ref p) (.int i) H Q := .inr (.inl (g_ixU (st_of h) h1 q))
theorem g_ixAL3 (h : H p = some (.lst xs)) (h1 : atI xs i = some v) (q : Q v H) : rIx K (.ref p) (.int i) H Q := .inl (g_ixL (sq_of h) h1 q)
theorem g_ixU3 (h : H p = some (.tup xs)) (h1 : atI xs i = some v) (q : Q v H) : rIxT K (.ref p) (.int i) H Q := g_ixU (st_of h) h1 q
theorem g_lenL3 (h : H p = some (.lst xs)) (q : Q (.int xs.length) H) : rLenL K [.ref p] H Q := g_lenL (sq_of h) q
theorem g_lenU3 (h : H p = some (.tup xs)) (q : Q (.int xs.length) H) : rLenL K [.ref p] H Q := g_lenU (st_of h) q
theorem ty_non : TyX K H .non (.type "NoneType") := .base .non
theorem g_tyL3 (h : H p = some (.lst xs)) (q : A) : tyV K "list" (.ref p) H ∧ A := ⟨g_tyL (sq_of h), q⟩
end
end Ly

set_option maxHeartbeats 4000000
namespace Ly
open PySem PySem.Spec PyProof.Rows L2 SX
/-! ### outlines -/
def blk (k : Nat) : List Nat := repT k [32]
theorem blk_len (k : Nat) : (blk k).length = k := by
  unfold blk repT
  rw [List.length_flatten, List.map_replicate, List.sum_replicate_nat]
  simp
theorem blk_mem {k c : Nat} (h : c ∈ blk k) : c = 32 := by
  unfold blk repT at h
  obtain ⟨l, h1, h2⟩ := List.mem_flatten.mp h
  rw [List.mem_replicate] at h1
  rw [h1.2, List.mem_singleton] at h2
  exact h2
mutual
def lnI : Nd → Nat → List (List Nat)
  | .let_ c, k => [blk k ++ [c]]
  | .num _, k => []
  | .br o ds, k => (blk k ++ [o]) :: lnN ds (k + 1)
def lnN : List Nd → Nat → List (List Nat)
  | [], k => []
  | d :: ds, k => lnI d k ++ lnN ds k
end
theorem lnN_app : ∀ (ds es : List Nd) (k : Nat), lnN (ds ++ es) k = lnN ds k ++ lnN es k
  | [], es, k => by rw [List.nil_append, lnN, List.nil_append]
  | d :: ds, es, k => by rw [List.cons_append, lnN, lnN_app ds es, lnN, List.append_assoc]
theorem lnN_one (d : Nd) (k : Nat) : lnN [d] k = lnI d k := by rw [lnN, lnN, List.append_nil]
def lnF : List (List Nd × Nat) → List (List Nat)
  | [] => []
  | (ds, o) :: fs => lnF fs ++ lnN ds fs.length ++ [blk fs.length ++ [o]]
def lnS (s : List (List Nd × Nat) × List Nd) : List (List Nat) := lnF s.1 ++ lnN s.2 s.1.length
theorem lnS_let {s : List (List Nd × Nat) × List Nd} {c : Nat} (h1 : c ∉ OPN) (h2 : c ∉ CLO) : lnS (nstep s c) = lnS s ++ [blk s.1.length ++ [c]] := by
  unfold nstep
  rw [if_neg h2, if_neg h1]
  show lnF s.1 ++ lnN (s.2 ++ [.let_ c]) s.1.length = lnF s.1 ++ lnN s.2 s.1.length ++ _
  rw [lnN_app, lnN_one, lnI, List.append_assoc]
theorem lnS_opn {s : List (List Nd × Nat) × List Nd} {c : Nat} (h1 : c ∈ OPN) : lnS (nstep s c) = lnS s ++ [blk s.1.length ++ [c]] := by
  unfold nstep
  rw [if_neg (opn_clo c h1), if_pos h1]
  show lnF s.1 ++ lnN s.2 s.1.length ++ [blk s.1.length ++ [c]] ++ lnN [] _ = _
  rw [lnN, List.append_nil]
  rfl
theorem lnS_clo {s : List (List Nd × Nat) × List Nd} {c o : Nat} {ds : List Nd} {fs : List (List Nd × Nat)} (h1 : c ∈ CLO) (h : s.1 = (ds, o) :: fs) : lnS (nstep s c) = lnS s := by
  obtain ⟨s1, s2⟩ := s
  have h' : s1 = (ds, o) :: fs := h
  subst h'
  unfold nstep
  rw [if_pos h1]
  show lnF fs ++ lnN (ds ++ [.br o s2]) fs.length = lnF fs ++ lnN ds fs.length ++ [blk fs.length ++ [o]] ++ lnN s2 (fs.length + 1)
  rw [lnN_app, lnN_one, lnI]
  simp
theorem lnS_not {s : List (List Nd × Nat) × List Nd} {c : Nat} (h2 : c ∉ CLO) : lnS (nstep s c) = lnS s ++ [blk s.1.length ++ [c]] := by
  by_cases h1 : c ∈ OPN
  · exact lnS_opn h1
  · exact lnS_let h1 h2
theorem lnS_step {l pre post : List Nat} {c : Nat} (hc : clean l) (e : l = pre ++ c :: post) : lnS (nst (pre ++ [c])) = lnS (nst pre) ++ if c ∈ CLO then [] else [blk (nst pre).1.length ++ [c]] := by
  rw [nst_snoc]
  by_cases h : c ∈ CLO
  · obtain ⟨ds, o, fs, hf, _⟩ := nst_clo hc e h
    rw [if_pos h, lnS_clo h hf, List.append_nil]
  · rw [if_neg h, lnS_not h]
theorem lnS_more {l : List Nat} (hc : clean l) : ∀ (post pre : List Nat), l = pre ++ post → ∃ more, lnS (nst l) = lnS (nst pre) ++ more
  | [], pre, e => ⟨[], by rw [e, List.append_nil, List.append_nil]⟩
  | c :: post, pre, e => by
    obtain ⟨more, h⟩ := lnS_more hc post (pre ++ [c]) (by rw [e]; simp)
    rw [lnS_step hc e] at h
    exact ⟨_, by rw [h, List.append_assoc]⟩
/-- the next line comes of the next sign that closes nothing -/
theorem next_line {l : List Nat} (hc : clean l) {ln : List Nat} {rest : List (List Nat)} : ∀ (post pre : List Nat), l = pre ++ post → lnS (nst l) = lnS (nst pre) ++ ln :: rest →
    ∃ cl c post', post = cl ++ c :: post' ∧ (∀ d ∈ cl, d ∈ CLO) ∧ c ∉ CLO ∧ ln = blk (nst (pre ++ cl)).1.length ++ [c] ∧ lnS (nst (pre ++ cl ++ [c])) = lnS (nst pre) ++ [ln]
  | [], pre, e, h => by
    rw [e, List.append_nil] at h
    have := congrArg List.length h
    simp at this
  | d :: post, pre, e, h => by
    have hst := lnS_step hc e
    by_cases hd : d ∈ CLO
    · rw [if_pos hd, List.append_nil] at hst
      obtain ⟨cl, c, post', h1, h2, h3, h4, h5⟩ := next_line hc post (pre ++ [d]) (by rw [e]; simp) (by rw [h, hst])
      refine ⟨d :: cl, c, post', by rw [h1]; rfl, fun x hx => ?_, h3, ?_, ?_⟩
      · rcases List.mem_cons.mp hx with rfl | hx
        · exact hd
        · exact h2 x hx
      · rw [h4]; simp
      · rw [← hst, ← h5]; simp
    · rw [if_neg hd] at hst
      obtain ⟨more, hm⟩ := lnS_more hc post (pre ++ [d]) (by rw [e]; simp)
      have e2 : ln = blk (nst pre).1.length ++ [d] := by
        rw [hm, hst, List.append_assoc] at h
        have := List.append_cancel_left h
        exact (List.cons.inj this).1.symm
      exact ⟨[], d, post, rfl, by simp, hd, by rw [List.append_nil]; exact e2, by rw [List.append_nil, hst, e2]⟩
/-- where no line is left there are but closing ones -/
theorem no_line {l : List Nat} (hc : clean l) : ∀ (post pre : List Nat), l = pre ++ post → lnS (nst l) = lnS (nst pre) → ∀ d ∈ post, d ∈ CLO
  | [], pre, e, h, d, hd => by cases hd
  | c :: post, pre, e, h, d, hd => by
    have hst := lnS_step hc e
    obtain ⟨more, hm⟩ := lnS_more hc post (pre ++ [c]) (by rw [e]; simp)
    by_cases hk : c ∈ CLO
    · rw [if_pos hk, List.append_nil] at hst
      rcases List.mem_cons.mp hd with rfl | hd
      · exact hk
      · exact no_line hc post (pre ++ [c]) (by rw [e]; simp) (by rw [h, hst]) d hd
    · rw [if_neg hk] at hst
      rw [hm, hst] at h
      have := congrArg List.length h
      simp at this
theorem lnS_nest {l : List Nat} (hc : clean l) : lnS (nst l) = lnN (nestD l) 0 := by
  unfold lnS nestD
  rw [nst_clean hc]
  rfl
theorem lnS_nil : lnS (nst []) = [] := by
  show lnF [] ++ lnN [] 0 = []
  rw [lnN]
  rfl
theorem lines_none {l : List Nat} (hc : clean l) (h : lnN (nestD l) 0 = []) : l = [] := by
  cases l with
  | nil => rfl
  | cons c r =>
    have hn := no_line hc (c :: r) [] rfl (by rw [lnS_nest hc, h, lnS_nil])
    exact absurd hc (clean_clo (hn c (List.mem_cons_self ..)))
/-- closers come off one by one -/
theorem nst_closers {l : List Nat} (hc : clean l) : ∀ (cl pre post : List Nat), l = pre ++ (cl ++ post) → (∀ d ∈ cl, d ∈ CLO) → (nst (pre ++ cl)).1.length + cl.length = (nst pre).1.length
  | [], pre, post, e, h => by rw [List.append_nil]; rfl
  | c :: cl, pre, post, e, h => by
    have hk := h c (List.mem_cons_self ..)
    obtain ⟨ds, o, fs, hf, _⟩ := nst_clo (post := cl ++ post) hc e hk
    have ih := nst_closers hc cl (pre ++ [c]) post (by rw [e]; simp) fun d hd => h d (List.mem_cons_of_mem _ hd)
    have en : (nst (pre ++ [c])).1 = fs := by
      rw [nst_snoc]
      unfold nstep
      rw [if_pos hk, hf]
    rw [en] at ih
    rw [hf, List.length_cons, List.length_cons, ← ih, show pre ++ c :: cl = pre ++ [c] ++ cl by simp]
    omega
theorem Bld.closes {N : Addr → Prop} {H : Hp} {l : List Nat} (hc : clean l) : ∀ (cl pre post : List Nat) (b : Addr) (bs : List Addr), l = pre ++ (cl ++ post) → (∀ d ∈ cl, d ∈ CLO) → Bld N H b bs (nst pre).1 (nst pre).2 →
    ∃ b' bs', (b :: bs).drop cl.length = b' :: bs' ∧ Bld N H b' bs' (nst (pre ++ cl)).1 (nst (pre ++ cl)).2
  | [], pre, post, b, bs, e, h, B => ⟨b, bs, rfl, by rw [List.append_nil]; exact B⟩
  | c :: cl, pre, post, b, bs, e, h, B => by
    have hk := h c (List.mem_cons_self ..)
    obtain ⟨ds, o, fs, hf, _⟩ := nst_clo (post := cl ++ post) hc e hk
    rw [hf] at B
    obtain ⟨b0, bs0, rfl, B0⟩ := B.close
    have en : nst (pre ++ [c]) = (fs, ds ++ [.br o (nst pre).2]) := by
      rw [nst_snoc]
      unfold nstep
      rw [if_pos hk, hf]
    obtain ⟨b', bs', h1, h2⟩ := Bld.closes hc cl (pre ++ [c]) post b0 bs0 (by rw [e]; simp) (fun d hd => h d (List.mem_cons_of_mem _ hd)) (by rw [en]; exact B0)
    refine ⟨b', bs', by simpa using h1, ?_⟩
    rw [show pre ++ c :: cl = pre ++ [c] ++ cl by simp]
    exact h2
/-- how deep a sign can stand -/
theorem deep_half {l pre post : List Nat} {c : Nat} (hc : clean l) (e : l = pre ++ c :: post) (h : c ∉ CLO) : 2 * (nst pre).1.length + 1 ≤ l.length := by
  have hr : run (pre ++ c :: post) = some [] := by rw [← e]; exact hc
  obtain ⟨st, hst⟩ := run_pre hr
  have h1 := fold_cnt pre [] st hst
  have h2 := nst_run hst
  have h3 : st.length = (nst pre).1.length := by rw [h2, List.length_map]
  have h4 := clean_cnt hc
  rw [e, cntC_app, cntO_app] at h4
  have e1 : cntC (c :: post) = cntC post := by
    unfold cntC
    rw [List.countP_cons]
    simp [h]
  have e2 : cntO (c :: post) ≥ 0 := Nat.zero_le _
  have l1 : cntO pre ≤ pre.length := List.countP_le_length
  have l2 : cntC post ≤ post.length := List.countP_le_length
  rw [e, List.length_append, List.length_cons]
  simp at h1
  omega
mutual
theorem lnI_len : ∀ (d : Nd) (k : Nat) (x : List Nat), x ∈ lnI d k → k < x.length ∧ x.length ≤ k + d.deep + 1
  | .let_ c, k, x, h => by
    rw [lnI, List.mem_singleton] at h
    rw [h, List.length_append, blk_len]
    simp
  | .num i, k, x, h => by
    rw [lnI] at h
    cases h
  | .br o ds, k, x, h => by
    rw [lnI] at h
    rw [Nd.deep]
    rcases List.mem_cons.mp h with rfl | h
    · rw [List.length_append, blk_len]
      simp
    · have := lnN_len ds (k + 1) x h
      omega
theorem lnN_len : ∀ (ds : List Nd) (k : Nat) (x : List Nat), x ∈ lnN ds k → k < x.length ∧ x.length ≤ k + Nd.deeps ds + 1
  | [], k, x, h => by
    rw [lnN] at h
    cases h
  | d :: ds, k, x, h => by
    rw [lnN] at h
    rw [Nd.deeps]
    rcases List.mem_append.mp h with h | h
    · have := lnI_len d k x h
      omega
    · have := lnN_len ds k x h
      omega
end
mutual
theorem lnI_many : ∀ (d : Nd) (k : Nat), (lnI d k).length ≤ (txI d).length
  | .let_ c, k => by rw [lnI, txI]; simp
  | .num i, k => by rw [lnI]; simp
  | .br o ds, k => by
    have := lnN_many ds (k + 1)
    rw [lnI, txI]
    simp
    omega
theorem lnN_many : ∀ (ds : List Nd) (k : Nat), (lnN ds k).length ≤ (txN ds).length
  | [], k => by rw [lnN]; simp
  | d :: ds, k => by
    have h1 := lnI_many d k
    have h2 := lnN_many ds k
    rw [lnN, txN, List.length_append, List.length_append]
    omega
end
mutual
theorem lnI_sgn : ∀ (d : Nd) (k : Nat), ndOk1 d → ∀ x ∈ lnI d k, ∀ c ∈ x, c = 32 ∨ isSg c
  | .let_ c, k, h, x, hx, e, he => by
    rw [ndOk1] at h
    rw [lnI, List.mem_singleton] at hx
    rw [hx, List.mem_append] at he
    rcases he with he | he
    · exact .inl (blk_mem he)
    · rw [List.mem_singleton] at he
      rw [he]
      exact .inr (.inl h)
  | .num i, k, h, x, hx, e, he => by
    rw [lnI] at hx
    cases hx
  | .br o ds, k, h, x, hx, e, he => by
    rw [ndOk1] at h
    rw [lnI] at hx
    rcases List.mem_cons.mp hx with rfl | hx
    · rcases List.mem_append.mp he with he | he
      · exact .inl (blk_mem he)
      · rw [List.mem_singleton] at he
        rw [he]
        exact .inr (.inr (brk_or.mpr (.inl h.1)))
    · exact lnN_sgn ds (k + 1) h.2 x hx e he
theorem lnN_sgn : ∀ (ds : List Nd) (k : Nat), ndOk ds → ∀ x ∈ lnN ds k, ∀ c ∈ x, c = 32 ∨ isSg c
  | [], k, h, x, hx, e, he => by
    rw [lnN] at hx
    cases hx
  | d :: ds, k, h, x, hx, e, he => by
    rw [ndOk] at h
    rw [lnN] at hx
    rcases List.mem_append.mp hx with hx | hx
    · exact lnI_sgn d k h.1 x hx e he
    · exact lnN_sgn ds k h.2 x hx e he
end
theorem sum_le {n : Nat} : ∀ ls : List (List Nat), (∀ x ∈ ls, x.length ≤ n) → (ls.map (·.length)).sum ≤ ls.length * n
  | [], _ => by simp
  | x :: ls, h => by
    have h1 := h x (List.mem_cons_self ..)
    have h2 := sum_le ls fun y hy => h y (List.mem_cons_of_mem _ hy)
    simp only [List.map_cons, List.sum_cons, List.length_cons, Nat.succ_mul]
    omega
/-! ### text.split(sign) -/
section
variable {X : Cx}
def rSplitT : V → List V → Hp → VK → Prop := fun x xs H Q => ∃ (a b : List Nat), x = Tx a ∧ xs = [Tx b] ∧ b ≠ [] ∧ b.all (· < 256) = true ∧ a.length ≤ 100000 ∧ ∀ p H1, H p = none → Same H H1 → H1 p = some (.lst ((TL.spl b 0 [] a).map Tx)) → Q (.ref p) H1
theorem mt_splitT : MtR X "str.split" rSplitT := fun pins s σ H x xs v us Q I rx rs h => by
  obtain ⟨a, b, h1, h2, h3, h4, h5, q⟩ := h
  refine mt_split pins s σ H x xs v us Q I rx rs ⟨S a, S b, h1, h2, ?_, ?_, fun p np => ?_⟩
  · rw [S_len]
    cases b with
    | nil => exact absurd rfl h3
    | cons c b => rfl
  · rw [S_len]
    exact Nat.le_trans (Nat.add_le_add_right h5 2) (by decide)
  · rw [split_S h3 h4]
    refine q p _ np (Same.new np) ?_
    rw [upd_same, List.map_map]
    rfl
theorem g_splitT {a b : List Nat} {H : Hp} {Q : VK} (h3 : b ≠ []) (h4 : b.all (· < 256) = true) (h5 : a.length ≤ 100000) (q : ∀ p H1, H p = none → Same H H1 → H1 p = some (.lst ((TL.spl b 0 [] a).map Tx)) → Q (.ref p) H1) : rSplitT (Tx a) [Tx b] H Q := ⟨a, b, rfl, rfl, h3, h4, h5, q⟩
end
theorem cut_to {xs : List V} {n : Nat} : cutV xs none (some (n : Int)) = xs.take n := by
  unfold cutV
  rw [HT.sIx_none, HT.sIx_nat, List.drop_zero, Nat.sub_zero]
  rcases Nat.le_total n xs.length with h | h
  · rw [Nat.min_eq_left h]
  · rw [Nat.min_eq_right h, List.take_length, List.take_of_length_le h]
end Ly

set_option maxHeartbeats 4000000
namespace Ly
open PySem PySem.Spec PyProof.Rows L2 SX
/-! ### sorted(text) -/
section
variable {prog : Program} {w : World} {A : Around} {E : Value → Shared → Prop} {s : Shared}
end
section
variable {X : Cx}
end
end Ly

set_option maxHeartbeats 4000000
namespace Ly
open PySem PySem.Spec PyProof.Rows L2 SX
/-! ### text[::-1] -/
section
variable {X : Cx}
def rRevT (x : V) (H : Hp) (Q : VK) : Prop := ∃ l : List Nat, x = Tx l ∧ l.length ≤ 100000 ∧ Q (Tx l.reverse) H
def tRevS (te : TE) : TE := fun σ H Q => te σ H fun x H1 => rRevT x H1 Q
def rReplT (y z : List Nat) (x : V) (H : Hp) (Q : VK) : Prop := ∃ l : List Nat, x = Tx l ∧ l.length ≤ 1000 ∧ z.length ≤ 10 ∧ Q (.str (Txt.replace (S l) (S y) (S z))) H
def tReplT (to : TE) (y z : List Nat) : TE := fun σ H Q => to σ H fun v H1 => rReplT y z v H1 Q
end
end Ly
namespace Ly
open PySem PySem.Spec PyProof.Rows L2 SX PySem.StrLaws
end Ly

set_option maxHeartbeats 4000000
namespace Ly
/-! ### least numbers of deeds: strikes and turns -/
/-- how many of two brackets are to be turned -/
def tns (c d : Nat) : Nat := if c ∈ CLO ∨ d ∈ OPN then (if c ∈ CLO then 1 else 0) + (if d ∈ OPN then 1 else 0) else if knd c = knd d then 0 else 1
inductive Mn (l : List Nat) : Nat → Nat → Nat → Prop
  | nil (i : Nat) : Mn l i i 0
  | let_ {i j n c : Nat} : l[i]? = some c → c ∉ BRK → Mn l (i + 1) j n → Mn l i j n
  | str {i j n c : Nat} : l[i]? = some c → c ∈ BRK → Mn l (i + 1) j n → Mn l i j (n + 1)
  | pair {i m j a b c d : Nat} : l[i]? = some c → c ∈ BRK → l[m]? = some d → d ∈ BRK → Mn l (i + 1) m a → Mn l (m + 1) j b → Mn l i j (tns c d + a + b)
theorem Mn.le {l : List Nat} {i j n : Nat} (h : Mn l i j n) : i ≤ j := by
  induction h with
  | nil i => exact Nat.le_refl _
  | let_ _ _ _ ih => omega
  | str _ _ _ ih => omega
  | pair _ _ _ _ _ _ ih1 ih2 => omega
theorem Mn.self {l : List Nat} {i n : Nat} (h : Mn l i i n) : n = 0 := by
  cases h with
  | nil => rfl
  | let_ _ _ h => have := h.le; omega
  | str _ _ h => have := h.le; omega
  | pair _ _ _ _ h1 h2 => have := h1.le; have := h2.le; omega
theorem Mn.app {l : List Nat} {i m j a b : Nat} (h : Mn l i m a) (h2 : Mn l m j b) : Mn l i j (a + b) := by
  induction h with
  | nil i => rw [Nat.zero_add]; exact h2
  | let_ e1 e2 _ ih => exact .let_ e1 e2 (ih h2)
  | @str i j n c e1 e2 _ ih =>
    rw [show n + 1 + b = n + b + 1 by omega]
    exact .str e1 e2 (ih h2)
  | @pair i m j a b' c d e1 e2 e3 e4 h3 _ _ ih =>
    rw [Nat.add_assoc]
    exact .pair e1 e2 e3 e4 h3 (ih h2)
theorem Mn.one_str {l : List Nat} {i c : Nat} (e : l[i]? = some c) (h : c ∈ BRK) : Mn l i (i + 1) 1 := .str e h (.nil _)
theorem Mn.last {l : List Nat} {i j n : Nat} (h : Mn l i j n) : i < j → ∃ c, l[j - 1]? = some c ∧ ((c ∉ BRK ∧ Mn l i (j - 1) n) ∨ (c ∈ BRK ∧ ((∃ n', n = n' + 1 ∧ Mn l i (j - 1) n') ∨ ∃ m d a b, i ≤ m ∧ m < j - 1 ∧ l[m]? = some d ∧ d ∈ BRK ∧ Mn l i m a ∧ Mn l (m + 1) (j - 1) b ∧ n = tns d c + a + b))) := by
  induction h with
  | nil i => intro h; omega
  | @let_ i j n c e1 e2 h ih =>
    intro hij
    by_cases hj : i + 1 = j
    · subst hj
      have := h.self
      subst this
      exact ⟨c, by simpa using e1, .inl ⟨e2, .nil _⟩⟩
    · obtain ⟨c', h1, h2⟩ := ih (by have := h.le; omega)
      refine ⟨c', h1, ?_⟩
      rcases h2 with ⟨h2, h3⟩ | ⟨h2, ⟨n', rfl, h3⟩ | ⟨m, d, a, b, g1, g2, g3, g4, g5, g6, rfl⟩⟩
      · exact .inl ⟨h2, .let_ e1 e2 h3⟩
      · exact .inr ⟨h2, .inl ⟨n', rfl, .let_ e1 e2 h3⟩⟩
      · exact .inr ⟨h2, .inr ⟨m, d, a, b, by omega, g2, g3, g4, .let_ e1 e2 g5, g6, rfl⟩⟩
  | @str i j n c e1 e2 h ih =>
    intro hij
    by_cases hj : i + 1 = j
    · subst hj
      have := h.self
      subst this
      exact ⟨c, by simpa using e1, .inr ⟨e2, .inl ⟨0, rfl, .nil _⟩⟩⟩
    · obtain ⟨c', h1, h2⟩ := ih (by have := h.le; omega)
      refine ⟨c', h1, ?_⟩
      rcases h2 with ⟨h2, h3⟩ | ⟨h2, ⟨n', rfl, h3⟩ | ⟨m, d, a, b, g1, g2, g3, g4, g5, g6, rfl⟩⟩
      · exact .inl ⟨h2, .str e1 e2 h3⟩
      · exact .inr ⟨h2, .inl ⟨n' + 1, rfl, .str e1 e2 h3⟩⟩
      · exact .inr ⟨h2, .inr ⟨m, d, a + 1, b, by omega, g2, g3, g4, .str e1 e2 g5, g6, by omega⟩⟩
  | @pair i m j a b c d e1 e2 e3 e4 h1 h2 ih1 ih2 =>
    intro hij
    by_cases hj : m + 1 = j
    · subst hj
      have := h2.self
      subst this
      have hm := h1.le
      exact ⟨d, by simpa using e3, .inr ⟨e4, .inr ⟨i, c, 0, a, Nat.le_refl _, by omega, e1, e2, .nil _, by simpa using h1, by omega⟩⟩⟩
    · have hm := h1.le
      obtain ⟨c', g1, g2⟩ := ih2 (by have := h2.le; omega)
      refine ⟨c', g1, ?_⟩
      rcases g2 with ⟨g2, g3⟩ | ⟨g2, ⟨n', rfl, g3⟩ | ⟨m', d', a', b', k1, k2, k3, k4, k5, k6, rfl⟩⟩
      · exact .inl ⟨g2, .pair e1 e2 e3 e4 h1 g3⟩
      · exact .inr ⟨g2, .inl ⟨tns c d + a + n', by omega, .pair e1 e2 e3 e4 h1 g3⟩⟩
      · exact .inr ⟨g2, .inr ⟨m', d', tns c d + a + a', b', by omega, k2, k3, k4, .pair e1 e2 e3 e4 h1 k5, k6, by omega⟩⟩
/-- the least that is so -/
def Lst (P : Nat → Prop) (n : Nat) : Prop := P n ∧ ∀ m, P m → n ≤ m
theorem Lst.ex {P : Nat → Prop} : ∀ n, P n → ∃ n, Lst P n := by
  intro n
  induction n using Nat.strongRecOn with
  | ind n ih =>
    intro h
    by_cases hm : ∃ m, m < n ∧ P m
    · obtain ⟨m, h1, h2⟩ := hm
      exact ih m h1 h2
    · exact ⟨n, h, fun m hp => Nat.le_of_not_lt fun hlt => hm ⟨m, hlt, hp⟩⟩
theorem Lst.uniq {P : Nat → Prop} {n m : Nat} (h1 : Lst P n) (h2 : Lst P m) : n = m := Nat.le_antisymm (h1.2 m h2.1) (h2.2 n h1.1)
open Classical in
noncomputable def lstN (l : List Nat) (i j : Nat) : Nat := if h : ∃ n, Lst (Mn l i j) n then Classical.choose h else 0
theorem Mn.ex (l : List Nat) : ∀ (k i : Nat), i + k ≤ l.length → ∃ n, Mn l i (i + k) n
  | 0, i, _ => ⟨0, .nil _⟩
  | k + 1, i, h => by
    obtain ⟨n, hn⟩ := Mn.ex l k (i + 1) (by omega)
    rw [show i + 1 + k = i + (k + 1) by omega] at hn
    have e : l[i]? = some l[i] := List.getElem?_eq_getElem (by omega)
    by_cases hb : l[i] ∈ BRK
    · exact ⟨n + 1, .str e hb hn⟩
    · exact ⟨n, .let_ e hb hn⟩
theorem lstN_spec {l : List Nat} {i j : Nat} (h1 : i ≤ j) (h2 : j ≤ l.length) : Lst (Mn l i j) (lstN l i j) := by
  have hx : ∃ n, Lst (Mn l i j) n := by
    obtain ⟨n, hn⟩ := Mn.ex l (j - i) i (by omega)
    rw [show i + (j - i) = j by omega] at hn
    exact Lst.ex n hn
  unfold lstN
  rw [dif_pos hx]
  exact Classical.choose_spec hx
/-! by the first sign -/
/-! by the last sign -/
/-- the numbers that are looked at for a last bracket: the least one so far -/
def LwB (l : List Nat) (i j c k n : Nat) : Prop := Mn l i (j + 1) n ∧ n ≤ lstN l i j + 1 ∧ ∀ m d, i ≤ m → m < i + k → m < j → l[m]? = some d → d ∈ BRK → n ≤ lstN l i m + lstN l (m + 1) j + tns d c
theorem LwB.start {l : List Nat} {i j c : Nat} (hi : i ≤ j) (hj : j < l.length) (e : l[j]? = some c) (hb : c ∈ BRK) : LwB l i j c 0 (lstN l i j + 1) :=
  ⟨(lstN_spec hi (by omega)).1.app (.one_str e hb), Nat.le_refl _, fun m d h1 h2 => by omega⟩
theorem LwB.skip {l : List Nat} {i j c k n d : Nat} (h : LwB l i j c k n) (e : l[i + k]? = some d) (hd : d ∉ BRK) : LwB l i j c (k + 1) n := by
  refine ⟨h.1, h.2.1, fun m d' h1 h2 h3 h4 h5 => ?_⟩
  by_cases hm : m < i + k
  · exact h.2.2 m d' h1 hm h3 h4 h5
  · have : m = i + k := by omega
    subst this
    rw [e] at h4
    exact absurd (Option.some.inj h4 ▸ h5) hd
theorem LwB.step {l : List Nat} {i j c k n d : Nat} (h : LwB l i j c k n) (hj : j < l.length) (ec : l[j]? = some c) (hc : c ∈ BRK) (hk : i + k < j) (e : l[i + k]? = some d) (hd : d ∈ BRK) : LwB l i j c (k + 1) (min n (lstN l i (i + k) + lstN l (i + k + 1) j + tns d c)) := by
  have s1 := lstN_spec (l := l) (show i ≤ i + k by omega) (by omega)
  have s2 := lstN_spec (l := l) (show i + k + 1 ≤ j by omega) (by omega)
  refine ⟨?_, by have := h.2.1; omega, fun m d' h1 h2 h3 h4 h5 => ?_⟩
  · rcases Nat.le_total n (lstN l i (i + k) + lstN l (i + k + 1) j + tns d c) with hq | hq
    · rw [Nat.min_eq_left hq]
      exact h.1
    · rw [Nat.min_eq_right hq]
      have := s1.1.app (Mn.pair e hd ec hc s2.1 (.nil _))
      rw [show lstN l i (i + k) + lstN l (i + k + 1) j + tns d c = lstN l i (i + k) + (tns d c + lstN l (i + k + 1) j + 0) by omega]
      exact this
  · by_cases hm : m < i + k
    · have := h.2.2 m d' h1 hm h3 h4 h5
      omega
    · have : m = i + k := by omega
      subst this
      rw [e] at h4
      have := Option.some.inj h4
      subst this
      exact Nat.min_le_right _ _
/-! reckoned -/
end Ly

set_option maxHeartbeats 4000000
namespace Ly
open PySem PySem.Spec PyProof.Rows L2 SX
/-! ### dicts whose keys are pairs of whole numbers -/
section
variable {K : PySem.W.Frag} {σ : L2.St} {H H1 : Hp} {Q : VK} {R : Hp → Prop} {a b p : Addr} {i j : Int} {v : V} {n : Nat} {td ty tv : TE} {D : Ends} {xs : List V}
def rDGet (x y : V) (H : Hp) (Q : VK) : Prop := ∃ a v, x = .ref a ∧ DGet H a y (some v) ∧ Q v H
def rDPut (x y v : V) (H : Hp) (R : Hp → Prop) : Prop := ∃ a H4, x = .ref a ∧ DPut H a y v H4 ∧ R H4
def rDNewT (H : Hp) (Q : VK) : Prop := ∀ p, H p = none → Q (.ref p) (upd H p (.dT []))
theorem tDGet_eq : tDGet td ty σ H Q = td σ H fun x H1 => ty σ H1 fun y H2 => rDGet x y H2 Q := rfl
theorem sDPut_eq : sDPut td ty tv D σ H = tv σ H fun v H1 => td σ H1 fun x H2 => ty σ H2 fun y H3 => rDPut x y v H3 (D.nx σ) := rfl
theorem tDNewT_eq : tDNewT σ H Q = rDNewT H Q := rfl
/-- at a stands a dict of pairs, f tells what it holds, at most n entries -/
def DTab (H : Hp) (a : Addr) (f : Int → Int → Option V) (n : Nat) : Prop := ∃ kvs : List (List Key × V), H a = some (.dT kvs) ∧ kvs.length ≤ n ∧ ∀ i j, valV kvs [.inl i, .inl j] = f i j
theorem DTab.same {f : Int → Int → Option V} (h : DTab H a f n) (s : Same H H1) : DTab H1 a f n := by
  obtain ⟨kvs, h1, h2⟩ := h
  exact ⟨kvs, s _ _ h1, h2⟩
theorem DTab.but {f : Int → Int → Option V} (h : DTab H a f n) (s : But p H H1) (hn : a ≠ p) : DTab H1 a f n := by
  obtain ⟨kvs, h1, h2⟩ := h
  exact ⟨kvs, s _ _ hn h1, h2⟩
theorem DTab.ne {f : Int → Int → Option V} (h : DTab H a f n) (hb : H b = none) : a ≠ b := by
  obtain ⟨kvs, h1, h2⟩ := h
  exact ne_new hb h1
/-! ### places told as natural numbers -/
/-! ### min, max -/
theorem g_maxL {ns : List Int} (h : SqL K H p (ns.map V.int)) (hn : ns ≠ []) (q : ∀ m, m ∈ ns → (∀ y, y ∈ ns → y ≤ m) → Q (.int m) H) : rMax K [.ref p] H Q := ⟨p, ns, rfl, h, List.length_pos_iff.mpr hn, q⟩
end
section
variable {X : Cx}
def rMin2 : List V → Hp → VK → Prop := fun xs H Q => ∃ i j : Int, xs = [.int i, .int j] ∧ Q (.int (min i j)) H
def rMax2 : List V → Hp → VK → Prop := fun xs H Q => ∃ i j : Int, xs = [.int i, .int j] ∧ Q (.int (max i j)) H
theorem call_max2' (hc : X.calm = true) : CallR X (.builtin "max") rMax2 := fun pins s σ H xs us Q I r h => by
  obtain ⟨i, j, rfl, q⟩ := h
  refine call_max2 hc pins s σ H _ us Q I r ⟨i, j, rfl, ?_⟩
  have e : (if j > i then j else i) = max i j := by split <;> omega
  rw [e]
  exact q
theorem g_min2 {H : Hp} {Q : VK} {i j : Int} (q : Q (.int (min i j)) H) : rMin2 [.int i, .int j] H Q := ⟨i, j, rfl, q⟩
theorem g_max2 {H : Hp} {Q : VK} {i j : Int} (q : Q (.int (max i j)) H) : rMax2 [.int i, .int j] H Q := ⟨i, j, rfl, q⟩
end
/-! ### a list of lists, each its own -/
/-- at d the list of the lists rs; the k-th holds f k -/
structure Tab (H : Hp) (d : Addr) (rs : List Addr) (f : Nat → List V) : Prop where
  hd : H d = some (.lst (rs.map V.ref))
  r : ∀ k r, rs[k]? = some r → H r = some (.lst (f k))
  nd : rs.Nodup
  nin : d ∉ rs
theorem Tab.same {H H' : Hp} {d : Addr} {rs : List Addr} {f : Nat → List V} (T : Tab H d rs f) (s : Same H H') : Tab H' d rs f := ⟨s _ _ T.hd, fun k r h => s _ _ (T.r k r h), T.nd, T.nin⟩
theorem Tab.but {H H' : Hp} {d p : Addr} {rs : List Addr} {f : Nat → List V} (T : Tab H d rs f) (s : But p H H') (h1 : p ≠ d) (h2 : p ∉ rs) : Tab H' d rs f :=
  ⟨s _ _ (Ne.symm h1) T.hd, fun k r h => s _ _ (fun e => h2 (by rw [← e]; exact List.mem_of_getElem? h)) (T.r k r h), T.nd, T.nin⟩
theorem Tab.fresh {H : Hp} {d p : Addr} {rs : List Addr} {f : Nat → List V} (T : Tab H d rs f) (h : H p = none) : p ≠ d ∧ p ∉ rs := by
  refine ⟨fun e => ?_, fun e => ?_⟩
  · have := T.hd
    rw [← e, h] at this
    cases this
  · obtain ⟨k, hk⟩ := List.getElem?_of_mem e
    have := T.r k p hk
    rw [h] at this
    cases this
/-- one row set -/
theorem Tab.set {H H' : Hp} {d r : Addr} {rs : List Addr} {f : Nat → List V} {k : Nat} {xs : List V} (T : Tab H d rs f) (hk : rs[k]? = some r) (s : But r H H') (h : H' r = some (.lst xs)) : Tab H' d rs (fun i => if i = k then xs else f i) := by
  have hr : r ∈ rs := List.mem_of_getElem? hk
  refine ⟨s _ _ (fun e => T.nin (by rw [e]; exact hr)) T.hd, fun i q hi => ?_, T.nd, T.nin⟩
  by_cases e : i = k
  · subst e
    rw [hk] at hi
    have := Option.some.inj hi
    subst this
    rw [if_pos rfl]
    exact h
  · rw [if_neg e]
    refine s _ _ (fun e2 => e ?_) (T.r i q hi)
    subst e2
    obtain ⟨h1, e1⟩ := List.getElem?_eq_some_iff.mp hi
    obtain ⟨h2, e2⟩ := List.getElem?_eq_some_iff.mp hk
    exact (List.getElem_inj T.nd).mp (e1.trans e2.symm)
theorem Tab.congr {H : Hp} {d : Addr} {rs : List Addr} {f g : Nat → List V} (T : Tab H d rs f) (h : ∀ k, k < rs.length → f k = g k) : Tab H d rs g :=
  ⟨T.hd, fun k r hk => by rw [← h k (List.getElem?_eq_some_iff.mp hk).1]; exact T.r k r hk, T.nd, T.nin⟩
theorem Tab.row {H : Hp} {d : Addr} {rs : List Addr} {f : Nat → List V} (T : Tab H d rs f) {k : Nat} (hk : k < rs.length) : ∃ r, rs[k]? = some r ∧ (rs.map V.ref)[k]? = some (V.ref r) ∧ H r = some (.lst (f k)) := by
  refine ⟨rs[k], List.getElem?_eq_getElem hk, by simp [hk], T.r k _ (List.getElem?_eq_getElem hk)⟩
theorem Tab.snoc {H H' : Hp} {d r : Addr} {rs : List Addr} {f : Nat → List V} {xs : List V} (T : Tab H d rs f) (hr : H' r = some (.lst xs)) (hd : H' d = some (.lst ((rs ++ [r]).map V.ref))) (h1 : r ∉ rs) (h2 : d ≠ r) (hk : ∀ q ∈ rs, ∀ o, H q = some o → H' q = some o) : Tab H' d (rs ++ [r]) (fun i => if i = rs.length then xs else f i) := by
  refine ⟨hd, fun i q hi => ?_, ?_, ?_⟩
  · by_cases e : i < rs.length
    · rw [List.getElem?_append_left e] at hi
      rw [if_neg (by omega)]
      exact hk q (List.mem_of_getElem? hi) _ (T.r i q hi)
    · rw [List.getElem?_append_right (by omega)] at hi
      have e2 : i = rs.length := by
        have := (List.getElem?_eq_some_iff.mp hi).1
        simp at this
        omega
      subst e2
      rw [Nat.sub_self] at hi
      have := Option.some.inj hi
      subst this
      rw [if_pos rfl]
      exact hr
  · rw [List.nodup_append]
    refine ⟨T.nd, by simp, fun a ha b hb => ?_⟩
    rw [List.mem_singleton] at hb
    subst hb
    exact fun e => h1 (by rw [← e]; exact ha)
  · rw [List.mem_append, List.mem_singleton]
    rintro (h | h)
    · exact T.nin h
    · exact h2 h
end Ly

set_option maxHeartbeats 4000000
namespace Ly
open PySem PySem.Spec PyProof.Rows L2 SX
theorem g_ET {R : Bool → Prop} (q : R true) : ∃ k, V.bl true = V.bl k ∧ R k := ⟨_, rfl, q⟩
theorem g_EF {R : Bool → Prop} (q : R false) : ∃ k, V.bl false = V.bl k ∧ R k := ⟨_, rfl, q⟩
theorem g_EnT {R : Bool → Prop} (q : R false) : ∃ k, V.bl (!true) = V.bl k ∧ R k := ⟨_, rfl, q⟩
theorem g_EnF {R : Bool → Prop} (q : R true) : ∃ k, V.bl (!false) = V.bl k ∧ R k := ⟨_, rfl, q⟩
/-! ### list + list, where one may be the script -/
section
variable {X : Cx}
end
section
variable {K : PySem.W.Frag} {σ : L2.St} {H : Hp} {g : TG} {tb : TS} {D : Ends} {a b : Addr} {xs ys : List V}
end
end Ly

namespace Ly
/-! ### least numbers with how often they are met -/
/-- a number of deeds and in how many ways; none: in no way -/
abbrev MC := Option (Nat × Nat)
def mAdd : MC → MC → MC
  | none, y => y
  | some p, none => some p
  | some p, some q => if p.1 < q.1 then some p else if q.1 < p.1 then some q else some (p.1, p.2 + q.2)
def mMul : MC → MC → MC
  | some p, some q => some (p.1 + q.1, p.2 * q.2)
  | _, _ => none
/-! sums -/
def sm (f : Nat → MC) : Nat → MC
  | 0 => none
  | n + 1 => mAdd (sm f n) (f n)
/-! ### tilings: by the first item, by the last one -/
end Ly

set_option maxHeartbeats 4000000
namespace Ly
open PySem PySem.Spec PyProof.Rows L2 SX
/-! ### classes: their methods, their making -/
section
variable {P : Program} {w : World} {K : PySem.W.Frag} {mg : Str → Option Value} {base : Heap}
end
def rMetO (C : Addr) (m : Str) (x : V) (H : Hp) (A : Prop) : Prop := (∃ a dx fs, x = .ref a ∧ H a = some (.ins C dx fs) ∧ fs.lookup m = none) ∧ A
def tMet (C : Addr) (m : Str) (sp : Sp) (ta : TE) (t : TA) : TE := fun σ H Q => ta σ H fun x H1 => rMetO C m x H1 (t σ H1 fun vs H2 => sp (x :: vs) H2 Q C8.E0)
def rMak (C : Addr) (sp : Sp) (vs : List V) (H : Hp) (Q : VK) : Prop := ∀ x dx, H x = none → H dx = none → dx ≠ x → sp (.ref x :: vs) (upd (upd H dx (.own x)) x (.ins C dx [])) (fun v H2 => v = .non ∧ Q (.ref x) H2) C8.E0
def tMak (C : Addr) (sp : Sp) (t : TA) : TE := fun σ H Q => t σ H fun vs H1 => rMak C sp vs H1 Q
section
variable {X : Cx} {k j : Nat} {C : Addr} {x m : Str} {sp : Sp} {p pos apos : Pos} {e o : Expr} {es : List Expr} {ta : TE} {t : TA}
end
section
variable {K : PySem.W.Frag} {σ : L2.St} {H : Hp} {Q : VK} {A : Prop} {a dx C : Addr} {fs : List (Str × V)} {m f : Str} {v y : V} {ta tv : TE} {D : Ends} {R : Hp → Prop} {sp : Sp} {vs : List V}
def rFld (K : PySem.W.Frag) (f : Str) (x : V) (H : Hp) (Q : VK) : Prop := ∃ a C dx fs v, x = .ref a ∧ H a = some (.ins C dx fs) ∧ Cls K C ∧ NoAttr K C f ∧ fs.lookup f = some v ∧ Q v H
def rSFld (K : PySem.W.Frag) (f : Str) (y x : V) (H : Hp) (R : Hp → Prop) : Prop := ∃ a C dx fs, x = .ref a ∧ H a = some (.ins C dx fs) ∧ Cls K C ∧ NoAttr K C f ∧ fs.length < 1000 ∧ R (upd H a (.ins C dx (putF f y fs)))
theorem tFld_eq : tFld K ta f σ H Q = ta σ H fun x H1 => rFld K f x H1 Q := rfl
theorem sFld_eq : sFld K ta tv f D σ H = tv σ H fun y H1 => ta σ H1 fun x H2 => rSFld K f y x H2 (D.nx σ) := rfl
end
end Ly

namespace Ly
open PySem
/-! ### the head's facts with one truth more -/
abbrev AlE : Type := He.AlD × Bool
def obsEG (n : Nat) (fa : List He.Fa) (fn : List He.DefD) (ex : PySem.W.Frag → Bool) (g : Addr → Option Obj) : AlE := (He.obsDG n fa fn g, ex (He.frG g (He.asD g n)))
def hookE (n : Nat) (fa : List He.Fa) (fn : List He.DefD) (ex : PySem.W.Frag → Bool) : PySem.W.Hook where
  α := AlE
  obs := fun s => obsEG n fa fn ex s.heap.get?
  val := fun _ => (He.valD fn, true)
  says := fun _ h => ∃ K : PySem.W.Frag, K.In h ∧ He.SaysD fa fn K ∧ ex K = true
  of := fun _ _ e => ⟨_, He.frG_in, congrArg Prod.fst e, congrArg Prod.snd e⟩
  keeps := fun _ _ _ ⟨K, hK, c, cx⟩ k => ⟨K, PySem.W.Frag.In.keeps hK k, c, cx⟩
theorem obsEG_eq {n : Nat} {fa : List He.Fa} {fn : List He.DefD} {ex : PySem.W.Frag → Bool} {g : Addr → Option Obj} {s : Shared} (h : ∀ a, g a = s.heap.get? a) : obsEG n fa fn ex g = (hookE n fa fn ex).obs s := by
  have e : g = s.heap.get? := funext h
  rw [e] <;> rfl
end Ly

set_option maxHeartbeats 4000000
namespace Ly
/-! ### least numbers with how many, by words -/
structure Wd where
  pt : Bool
  st : Bool
  tn : Bool
def few (c d : Nat) : Nat × Nat := if c ∈ OPN ∧ d ∈ CLO then (if knd c = knd d then (0, 1) else (1, 2)) else if c ∈ CLO ∧ d ∈ OPN then (2, 4) else (1, 1)
def m3 (x y z : MC) : MC := mMul (mMul x y) z
/-! by the last sign -/
/-! there is always one, where striking is a word -/
/-! sums of lists -/
end Ly

set_option maxHeartbeats 4000000
namespace Ly
open PySem PySem.Spec PyProof.Rows L2 SX
/-! ### how great the counts can be -/
/-! ### values -/
/-! ### lists of pairs of whole numbers -/
def Prs (H : Hp) (a : Addr) (xs : List (Nat × Nat)) : Prop := ∃ rs : List Addr, H a = some (.lst (rs.map V.ref)) ∧ rs.length = xs.length ∧ ∀ (k : Nat) (r : Addr) (x : Nat × Nat), rs[k]? = some r → xs[k]? = some x → H r = some (.tup [.int x.1, .int x.2])
theorem Prs.same {H H' : Hp} {a : Addr} {xs : List (Nat × Nat)} (h : Prs H a xs) (s : Same H H') : Prs H' a xs := by
  obtain ⟨rs, h1, h2, h3⟩ := h
  exact ⟨rs, s _ _ h1, h2, fun k r x q1 q2 => s _ _ (h3 k r x q1 q2)⟩
theorem Prs.lst {H : Hp} {a : Addr} {xs : List (Nat × Nat)} (h : Prs H a xs) : ∃ ys, H a = some (.lst ys) ∧ ys.length = xs.length := by
  obtain ⟨rs, h1, h2, h3⟩ := h
  exact ⟨_, h1, by rw [List.length_map]; exact h2⟩
theorem Prs.but {H H' : Hp} {a p : Addr} {xs : List (Nat × Nat)} {ys : List V} (h : Prs H a xs) (s : But p H H') (hp : H p = some (.lst ys)) (hn : a ≠ p) : Prs H' a xs := by
  obtain ⟨rs, h1, h2, h3⟩ := h
  refine ⟨rs, s _ _ hn h1, h2, fun k r x q1 q2 => s _ _ (fun e => ?_) (h3 k r x q1 q2)⟩
  have := h3 k r x q1 q2
  rw [e, hp] at this
  cases this
theorem Prs.snoc {H H' : Hp} {a t : Addr} {xs : List (Nat × Nat)} {x : Nat × Nat} (h : Prs H a xs) (ht : H t = some (.tup [.int x.1, .int x.2])) (s : But a H H') (h2 : ∀ rs : List Addr, H a = some (.lst (rs.map V.ref)) → H' a = some (.lst (rs.map V.ref ++ [.ref t]))) : Prs H' a (xs ++ [x]) := by
  obtain ⟨rs, h1, hl, h3⟩ := h
  have ne : ∀ r ys, H r = some (.tup ys) → r ≠ a := fun r ys e q => by rw [q, h1] at e; cases e
  refine ⟨rs ++ [t], by rw [h2 rs h1, List.map_append]; rfl, by simp [hl], fun k r y q1 q2 => ?_⟩
  by_cases e : k < rs.length
  · rw [List.getElem?_append_left e] at q1
    rw [List.getElem?_append_left (by omega)] at q2
    have := h3 k r y q1 q2
    exact s _ _ (ne _ _ this) this
  · have hk : k = rs.length := by
      have := (List.getElem?_eq_some_iff.mp q1).1
      simp at this
      omega
    rw [List.getElem?_append_right (by omega), hk, Nat.sub_self] at q1
    rw [List.getElem?_append_right (by omega), hk, hl, Nat.sub_self] at q2
    have e1 : t = r := Option.some.inj q1
    have e2 : x = y := Option.some.inj q2
    subst e1 e2
    exact s _ _ (ne _ _ ht) ht
/-! ### tuples that stay -/
theorem SqT.same {K : PySem.W.Frag} {H H' : Hp} {a : Addr} {xs : List V} (s : Same H H') (h : SqT K H a xs) : SqT K H' a xs := by
  rcases h with (h | ⟨o, h⟩) | h
  · exact .inl (.inl (s _ _ h))
  · exact .inl (.inr ⟨o, s _ _ h⟩)
  · exact .inr h
theorem SqT.but {K : PySem.W.Frag} {H H' : Hp} {a p : Addr} {xs : List V} {u : HO} (s : But p H H') (h : SqT K H a xs) (hp : H p = some u) (hu : (∀ ys, u ≠ .tup ys) ∧ ∀ o ys, u ≠ .frz o (.tup ys)) : SqT K H' a xs := by
  rcases h with (h | ⟨o, h⟩) | h
  · exact .inl (.inl (s _ _ (fun e => by rw [e, hp] at h; exact hu.1 _ (Option.some.inj h)) h))
  · exact .inl (.inr ⟨o, s _ _ (fun e => by rw [e, hp] at h; exact hu.2 _ _ (Option.some.inj h)) h⟩)
  · exact .inr h
/-- the words: a tuple of texts -/
def WdIs (K : PySem.W.Frag) (H : Hp) (v : V) (W : Wd) : Prop := ∃ a xs, v = .ref a ∧ SqT K H a xs ∧ xs.all flatV = true ∧ inV (Tx [112, 117, 116]) xs = W.pt ∧ inV (Tx [115, 116, 114, 105, 107, 101]) xs = W.st ∧ inV (Tx [116, 117, 114, 110]) xs = W.tn
theorem WdIs.same {K : PySem.W.Frag} {H H' : Hp} {v : V} {W : Wd} (h : WdIs K H v W) (s : Same H H') : WdIs K H' v W := by
  obtain ⟨a, xs, h1, h2, h3⟩ := h
  exact ⟨a, xs, h1, SqT.same s h2, h3⟩
theorem WdIs.but {K : PySem.W.Frag} {H H' : Hp} {v : V} {W : Wd} {p : Addr} {ys : List V} (h : WdIs K H v W) (s : But p H H') (hp : H p = some (.lst ys)) : WdIs K H' v W := by
  obtain ⟨a, xs, h1, h2, h3⟩ := h
  exact ⟨a, xs, h1, SqT.but s h2 hp ⟨(fun _ e => nomatch e), (fun _ _ e => nomatch e)⟩, h3⟩
/-! ### the object -/
end Ly

set_option maxHeartbeats 4000000
namespace Ly
/-! ### alike opening brackets: Catalan's numbers -/
section
variable {m c : Nat} (hc : c ∈ OPN)
include hc
end
end Ly

set_option maxHeartbeats 4000000
namespace Ly
open PySem PySem.Spec PyProof.Rows L2 SX
section
variable {X : Cx} {k j : Nat} {C : Addr} {x m : Str} {sp : Sp} {p pos : Pos}
end
end Ly

set_option maxHeartbeats 4000000
namespace Ly
/-! ### the least number with how many is the least number -/
def lo (x : MC) (n : Nat) : Prop := ∀ y, x = some y → n ≤ y.1
def hi (x : MC) (n : Nat) : Prop := ∃ y, x = some y ∧ y.1 ≤ n
end Ly

set_option maxHeartbeats 4000000
namespace Ly
open PySem PySem.Spec PyProof.Rows L2 SX
/-! ### data in heaps -/
section
variable {K : PySem.W.Frag} {H : Hp} {Q : VK} {x y : V} {d e : PyData}
theorem g_neDp (h1 : Dp K H x d) (h2 : Dp K H y d) (hs : SeqAt.shaped d = true) (q : Q (.bl false) H) : rNeD K x y H Q := by
  refine ⟨d, d, h1, h2, hs, hs, ?_⟩
  rw [SeqAt.eqv_refl d (by unfold SeqAt.shaped at hs; rw [Bool.and_eq_true] at hs; exact hs.1)]
  exact q
theorem g_eqDp (h1 : Dp K H x d) (h2 : Dp K H y d) (hs : SeqAt.shaped d = true) (q : Q (.bl true) H) : rEqD K x y H Q := by
  refine ⟨d, d, h1, h2, hs, hs, ?_⟩
  rw [SeqAt.eqv_refl d (by unfold SeqAt.shaped at hs; rw [Bool.and_eq_true] at hs; exact hs.1)]
  exact q
end
theorem dpi {K : PySem.W.Frag} {H : Hp} : ∀ xs : List Int, DpAll K H (xs.map V.int) (xs.map PyData.int)
  | [] => .nil
  | x :: xs => .cons (.int x) (dpi xs)
theorem cani (xs : List Int) : PyData.canLayAll0 (xs.map PyData.int) = true := by
  induction xs with
  | nil => rfl
  | cons x xs ih => rw [List.map_cons]; show (true && PyData.canLayAll0 _) = true; rw [ih]; rfl
theorem depi (xs : List Int) : PyData.depthAll (xs.map PyData.int) = 0 := by
  induction xs with
  | nil => rfl
  | cons x xs ih => rw [List.map_cons]; show max 0 (PyData.depthAll _) = 0; rw [ih]; rfl
end Ly

set_option maxHeartbeats 4000000
namespace Ly
open PySem PySem.Spec PyProof.Rows L2 SX
/-! ### deeds -/
inductive Dw where
  | put (c : Nat)
  | str
  | trn (c : Nat)
  deriving DecidableEq
abbrev Deed := Nat × Dw
def Dw.w : Dw → List Nat
  | .put _ => [112, 117, 116]
  | .str => [115, 116, 114, 105, 107, 101]
  | .trn _ => [116, 117, 114, 110]
def Dw.s : Dw → List Nat
  | .put c => [c]
  | .str => []
  | .trn c => [c]
def Dw.isPut : Dw → Bool
  | .put _ => true
  | _ => false
def ddV (d : Deed) : List V := [.int (d.1 : Nat), Tx d.2.w, Tx d.2.s]
def putc (p : Nat) (d : Deed) : List Nat := if d.1 = p then (match d.2 with | .put c => [c] | _ => []) else []
def puts (ds : List Deed) (p : Nat) : List Nat := (ds.map (putc p)).flatten
def othD : List Deed → Nat → Option Dw
  | [], _ => none
  | d :: r, p => match othD r p with
    | some w => some w
    | none => if d.1 = p ∧ d.2.isPut = false then some d.2 else none
def mid (o : Option Dw) (x : List Nat) : List Nat := match o with
  | none => x
  | some w => w.s
def piece (l : List Nat) (ds : List Deed) (p : Nat) : List Nat := puts ds p ++ mid (othD ds p) ((l.drop p).take 1)
def app (d : Deed) (s : List Nat) : List Nat := match d.2 with
  | .put c => s.take d.1 ++ [c] ++ s.drop d.1
  | .str => s.eraseIdx d.1
  | .trn c => s.set d.1 c
def behind (l : List Nat) (ds : List Deed) : List Nat := ds.foldr app l
/-! ### lists of deeds in heaps -/
def ddD (d : Deed) : PyData := .tuple [.int (d.1 : Nat), .str (S d.2.w), .str (S d.2.s)]
def ddsD (ds : List Deed) : PyData := .list (ds.map ddD)
structure Dds (H : Hp) (a : Addr) (rs : List Addr) (ds : List Deed) : Prop where
  hd : H a = some (.lst (rs.map V.ref))
  len : rs.length = ds.length
  it : ∀ (k : Nat) (r : Addr) (d : Deed), rs[k]? = some r → ds[k]? = some d → H r = some (.tup (ddV d))
theorem Dds.same {H H' : Hp} {a : Addr} {rs : List Addr} {ds : List Deed} (h : Dds H a rs ds) (s : Same H H') : Dds H' a rs ds := ⟨s _ _ h.hd, h.len, fun k r d h1 h2 => s _ _ (h.it k r d h1 h2)⟩
theorem Dds.but {H H' : Hp} {a p : Addr} {rs : List Addr} {ds : List Deed} {ys : List V} (h : Dds H a rs ds) (s : But p H H') (hp : H p = some (.lst ys)) (hn : a ≠ p) : Dds H' a rs ds := by
  refine ⟨s _ _ hn h.hd, h.len, fun k r d h1 h2 => ?_⟩
  have := h.it k r d h1 h2
  exact s _ _ (fun e => by rw [e, hp] at this; cases this) this
theorem Dds.dp {K : PySem.W.Frag} {H : Hp} {a : Addr} {rs : List Addr} {ds : List Deed} (h : Dds H a rs ds) : Dp K H (.ref a) (ddsD ds) := by
  refine .lst (sq_of h.hd) ?_
  have key : ∀ (rs : List Addr) (ds : List Deed), rs.length = ds.length → (∀ (k : Nat) (r : Addr) (d : Deed), rs[k]? = some r → ds[k]? = some d → H r = some (.tup (ddV d))) → DpAll K H (rs.map V.ref) (ds.map ddD) := by
    intro rs
    induction rs with
    | nil =>
      intro ds hl _
      cases ds with
      | nil => exact .nil
      | cons x xs => simp at hl
    | cons r rs ih =>
      intro ds hl h
      cases ds with
      | nil => simp at hl
      | cons d ds => exact .cons (.tup (st_of (h 0 r d rfl rfl)) (.cons (.int _) (.cons (.str _) (.cons (.str _) .nil)))) (ih ds (by simpa using hl) fun i q y h3 h4 => h (i + 1) q y h3 h4)
  exact key rs ds h.len h.it
theorem Dds.row {H : Hp} {a : Addr} {rs : List Addr} {ds : List Deed} (h : Dds H a rs ds) {k : Nat} (hk : k < ds.length) : ∃ r d, rs[k]? = some r ∧ ds[k]? = some d ∧ (rs.map V.ref)[k]? = some (V.ref r) ∧ H r = some (.tup (ddV d)) := by
  have e1 : rs[k]? = some (rs[k]'(by rw [h.len]; exact hk)) := List.getElem?_eq_getElem (by rw [h.len]; exact hk)
  have e2 : ds[k]? = some ds[k] := List.getElem?_eq_getElem hk
  exact ⟨_, _, e1, e2, by rw [List.getElem?_map, e1]; rfl, h.it k _ _ e1 e2⟩
theorem Dds.snoc {H H' : Hp} {a t : Addr} {rs : List Addr} {ds : List Deed} {d : Deed} (h : Dds H a rs ds) (ht : H t = some (.tup (ddV d))) (s : But a H H') (e : H' a = some (.lst (rs.map V.ref ++ [.ref t]))) : Dds H' a (rs ++ [t]) (ds ++ [d]) := by
  have ne : ∀ r ys, H r = some (.tup ys) → r ≠ a := fun r ys e q => by rw [q, h.hd] at e; cases e
  refine ⟨by rw [e, List.map_append]; rfl, by simp [h.len], fun k r y q1 q2 => ?_⟩
  by_cases hk : k < rs.length
  · rw [List.getElem?_append_left hk] at q1
    rw [List.getElem?_append_left (by rw [← h.len]; exact hk)] at q2
    have := h.it k r y q1 q2
    exact s _ _ (ne _ _ this) this
  · have hk : k = rs.length := by
      have := (List.getElem?_eq_some_iff.mp q1).1
      simp at this
      omega
    rw [List.getElem?_append_right (by omega), hk, Nat.sub_self] at q1
    rw [List.getElem?_append_right (by rw [← h.len]; omega), hk, h.len, Nat.sub_self] at q2
    have e1 : t = r := Option.some.inj q1
    have e2 : d = y := Option.some.inj q2
    subst e1 e2
    exact s _ _ (ne _ _ ht) ht
/-! ### one sign of a text by a slice -/
theorem slice_any {l : List Nat} {i j : Nat} (h1 : i ≤ j) (hi : i ≤ l.length) : Txt.slice (S l) (some (i : Int)) (some (j : Int)) = S ((l.take j).drop i) := by
  by_cases hj : j ≤ l.length
  · exact slice_both h1 hj
  · have e2 : Txt.slice (S l) (some (i : Int)) (some (j : Int)) = Txt.slice (S l) (some (i : Int)) (some (l.length : Int)) := by
      unfold Txt.slice
      rw [S_len, idx_hi (by omega)]
    rw [e2, List.take_of_length_le (by omega), slice_both hi (Nat.le_refl _), List.take_length]
theorem g_slAny {H : Hp} {Q : VK} {l : List Nat} {i j : Nat} (h : l.length ≤ 100000) (h1 : i ≤ j) (hi : i ≤ l.length) (q : Q (Tx ((l.take j).drop i)) H) : rSlTx (Tx l) (some (i : Int)) (some (j : Int)) H Q := ⟨l, rfl, h, by rw [slice_any h1 hi]; exact q⟩
section
variable {K : PySem.W.Frag} {σ : L2.St} {H : Hp} {g : TG} {tb : TS} {D : Ends} {a b : Addr} {xs ys : List V}
end
end Ly

set_option maxHeartbeats 4000000
namespace Ly
/-! ### deeds as rows of steps -/
inductive Stp where
  | kp (c : Nat)
  | st (c : Nat)
  | tn (c d : Nat)
  | pt (d : Nat)
  deriving DecidableEq
def Stp.i : Stp → List Nat
  | .kp c => [c]
  | .st c => [c]
  | .tn c _ => [c]
  | .pt _ => []
def Stp.o : Stp → List Nat
  | .kp c => [c]
  | .st _ => []
  | .tn _ d => [d]
  | .pt d => [d]
def Stp.ok : Stp → Prop
  | .kp _ => True
  | .st c => c ∈ BRK
  | .tn c d => c ∈ BRK ∧ d ∈ BRK ∧ d ≠ c
  | .pt d => d ∈ BRK
/-! the row of steps of deeds -/
/-! ### deeds that lead back -/
/-! ### rows of old and new signs -/
section
open PySem PySem.Spec PyProof.Rows L2 SX
variable {X : Cx} {tg : Expr}
end
end Ly

set_option maxHeartbeats 4000000
namespace Ly
open PySem PySem.Spec PyProof.Rows L2 SX
/-! ### exceptions that are caught and kept -/
section
variable {X : Cx} {pins : List (Addr × Obj)} {σ : L2.St} {H : Hp} {s : Shared}
end
section
variable {X : Cx} {x n : Str} {c : Value} {i : Nat} {body suite : List Stmt} {b₀ : Stmt} {np pos pos' : Pos} {tb : WX → TS} {ts : Addr → Value → Option Addr → TS} {Wout : WX}
end
/-! isinstance of a kept exception -/
section
variable {X : Cx}
end
/-! defs that raise -/
section
variable {P : Program} {w : World} {K : PySem.W.Frag} {mg : Str → Option Value} {base : Heap}
end
def tOwnX (sp : Sp) (W : WX) (t : TA) : TE := fun σ H Q => t σ H fun vs H1 => sp vs H1 Q (fun cls d H2 => W cls d σ H2)
def tMetX (C : Addr) (m : Str) (sp : Sp) (W : WX) (ta : TE) (t : TA) : TE := fun σ H Q => ta σ H fun x H1 => rMetO C m x H1 (t σ H1 fun vs H2 => sp (x :: vs) H2 Q (fun cls d H2 => W cls d σ H2))
section
variable {X : Cx} {k j : Nat} {C : Addr} {x m : Str} {sp : Sp} {p pos apos : Pos} {e o : Expr} {es : List Expr} {ta : TE} {t : TA} {W : WX}
end
/-! what is known of an error's class -/
structure ErrF (K : PySem.W.Frag) (C M : Addr) : Prop where
  x : PySem.W.excIn K C [.type "ValueError", .type "Exception", .type "BaseException", .type "object"] "ValueError.__new__" = true
  kp : PySem.W.keepIn K (.ref C) = true
  sb : PySem.W.subIn K (.ref C) (.type "BaseException") = some true
  ty : PySem.W.typeIn K (.ref C) = some (.type "type")
  ec : ExcC K C
  em : PySem.W.exmOne K (.ref C) (.ref M) = some true
def errB (K : PySem.W.Frag) (C M : Addr) : Bool := PySem.W.excIn K C [.type "ValueError", .type "Exception", .type "BaseException", .type "object"] "ValueError.__new__" && (PySem.W.keepIn K (.ref C) && (PySem.W.subIn K (.ref C) (.type "BaseException") == some true && (PySem.W.typeIn K (.ref C) == some (.type "type") &&
  (PySem.W.findIn K (.ref C) "__getattribute__" == some (some (.builtin "BaseException.__getattribute__")) && (PySem.W.findIn K (.ref C) "__getattr__" == some none && (PySem.W.hasDictIn K C && (PySem.W.findIn K (.ref C) "__class__" == some (some (.builtin "object.__class__")) &&
  (PySem.W.specialIn K (.builtin "object.__class__") "__get__" == some (some (.builtin "getset_descriptor.__get__")) && (PySem.W.takesIn K (.builtin "object.__class__") == some true && (PySem.W.mroIn K C (.type "object") == some true && PySem.W.exmOne K (.ref C) (.ref M) == some true))))))))))
theorem errB_ok {K : PySem.W.Frag} {C M : Addr} (h : errB K C M = true) : ErrF K C M := by
  unfold errB at h
  simp only [Bool.and_eq_true, beq_iff_eq] at h
  obtain ⟨h1, h2, h3, h4, h5, h6, h7, h8, h9, h10, h11, h12⟩ := h
  exact ⟨h1, h2, h3, h4, ⟨h5, h6, h3, h7, h8, h9, h10, h11⟩, h12⟩
theorem all_at {bs : List Bool} (h : bs.all id = true) {i : Nat} {b : Bool} (e : bs[i]? = some b) : b = true := List.all_eq_true.mp h b (List.mem_of_getElem? e)
/-! readings -/
section
variable {K : PySem.W.Frag} {H : Hp} {Q : VK} {a D : Addr}
end
end Ly

set_option maxHeartbeats 4000000
namespace Ly
open PySem PySem.Spec PyProof.Rows L2 SX
/-! ### promises that stand where nothing is being shown: repr -/
section
variable {P : Program} {w : World} {K : PySem.W.Frag} {mg : Str → Option Value} {base : Heap}
end
/-! ### the law's call -/
section
variable {P : Program} {w : World} {K : PySem.W.Frag} {mg mb : Str → Option Value} {k : Nat} {fa a : Addr} {fd : FuncData} {x : Str} {sp : Sp} {s₁ : Shared} {vs : List Value} {ns : List Int}
end
/-! ### repr of data -/
section
variable {X : Cx}
end
/-! lists of small numbers -/
end Ly

set_option maxHeartbeats 4000000
namespace Ly
open PySem PySem.Spec PyProof.Rows L2 SX
/-! ### paths, depths, the nests within a nest -/
mutual
def pthI : Nd → Nat → List (List Nat)
  | .br _ ds, k => [k] :: (pthN ds 0).map (k :: ·)
  | _, _ => []
def pthN : List Nd → Nat → List (List Nat)
  | [], _ => []
  | d :: ds, k => pthI d k ++ pthN ds (k + 1)
end
mutual
def subI : Nd → List Nd
  | .br o ds => .br o ds :: subN ds
  | _ => []
def subN : List Nd → List Nd
  | [] => []
  | d :: ds => subI d ++ subN ds
end
theorem pthN_app : ∀ (ds es : List Nd) (k : Nat), pthN (ds ++ es) k = pthN ds k ++ pthN es (k + ds.length)
  | [], es, k => by rw [List.nil_append, pthN]; rfl
  | d :: ds, es, k => by
    rw [List.cons_append, pthN, pthN_app ds es (k + 1), pthN, List.append_assoc, List.length_cons, show k + 1 + ds.length = k + (ds.length + 1) by omega]
theorem pthN_one (d : Nd) (k : Nat) : pthN [d] k = pthI d k := by rw [pthN, pthN, List.append_nil]
theorem subN_app : ∀ (ds es : List Nd), subN (ds ++ es) = subN ds ++ subN es
  | [], es => by rw [List.nil_append, subN]; rfl
  | d :: ds, es => by rw [List.cons_append, subN, subN_app ds es, subN, List.append_assoc]
mutual
theorem pth_subI : ∀ (d : Nd) (k : Nat), (pthI d k).length = (subI d).length
  | .br o ds, k => by rw [pthI, subI, List.length_cons, List.length_cons, List.length_map, pth_sub ds 0]
  | .let_ c, k => by rw [pthI, subI] <;> simp
  | .num c, k => by rw [pthI, subI] <;> simp
theorem pth_sub : ∀ (ds : List Nd) (k : Nat), (pthN ds k).length = (subN ds).length
  | [], k => by rw [pthN, subN]; rfl
  | d :: ds, k => by rw [pthN, subN, List.length_append, List.length_append, pth_subI d k, pth_sub ds (k + 1)]
end
/-! ways of the maker -/
theorem deep_let (c : Nat) : (Nd.let_ c).deep = 0 := by simp [Nd.deep]
theorem deep_br (o : Nat) (ds : List Nd) : (Nd.br o ds).deep = Nd.deeps ds + 1 := by rw [Nd.deep]
section
variable {fs : List (List Nd × Nat)} {cur ds : List Nd} {c o : Nat}
theorem st_let (h1 : c ∉ OPN) (h2 : c ∉ CLO) : nstep (fs, cur) c = (fs, cur ++ [.let_ c]) := by unfold nstep; rw [if_neg h2, if_neg h1]
theorem st_opn (h1 : c ∈ OPN) : nstep (fs, cur) c = ((cur, c) :: fs, []) := by unfold nstep; rw [if_neg (opn_clo c h1), if_pos h1]
theorem st_clo (h1 : c ∈ CLO) : nstep ((ds, o) :: fs, cur) c = (fs, ds ++ [.br o cur]) := by unfold nstep; rw [if_pos h1]
end
/-! what a path leads to -/
def Rch : List Nd → List Nat → Nd → Prop
  | _, [], _ => False
  | ds, [k], d => ds[k]? = some d
  | ds, k :: j :: p, d => ∃ o es, ds[k]? = some (.br o es) ∧ Rch es (j :: p) d
theorem Rch.cons {ds es : List Nd} {k o : Nat} {p : List Nat} {d : Nd} (h : ds[k]? = some (.br o es)) (r : Rch es p d) : Rch ds (k :: p) d := by
  cases p with
  | nil => exact r.elim
  | cons j p => exact ⟨o, es, h, r⟩
mutual
theorem rchI : ∀ (d : Nd) (k : Nat) (all : List Nd), all[k]? = some d → ∀ (i : Nat) (p : List Nat) (e : Nd), (pthI d k)[i]? = some p → (subI d)[i]? = some e → Rch all p e
  | .let_ c, k, all, h, i, p, e, h1, h2 => by simp [pthI] at h1
  | .num c, k, all, h, i, p, e, h1, h2 => by simp [pthI] at h1
  | .br o ds, k, all, h, i, p, e, h1, h2 => by
    rw [pthI] at h1
    rw [subI] at h2
    cases i with
    | zero =>
      cases h1
      cases h2
      exact h
    | succ i =>
      rw [List.getElem?_cons_succ, List.getElem?_map] at h1
      rw [List.getElem?_cons_succ] at h2
      cases hq : (pthN ds 0)[i]? with
      | none => rw [hq] at h1; cases h1
      | some q =>
        rw [hq] at h1
        cases h1
        exact .cons h (rchN ds 0 ds rfl i q e hq h2)
theorem rchN : ∀ (ds : List Nd) (k : Nat) (all : List Nd), all.drop k = ds → ∀ (i : Nat) (p : List Nat) (e : Nd), (pthN ds k)[i]? = some p → (subN ds)[i]? = some e → Rch all p e
  | [], k, all, h, i, p, e, h1, h2 => by rw [pthN] at h1; cases h1
  | d :: ds, k, all, h, i, p, e, h1, h2 => by
    have hk : all[k]? = some d := by
      have := congrArg (fun x => x[0]?) h
      simpa using this
    have hd : all.drop (k + 1) = ds := by
      have := congrArg (List.drop 1) h
      simpa [List.drop_drop, Nat.add_comm] using this
    rw [pthN] at h1
    rw [subN] at h2
    have el := pth_subI d k
    by_cases hi : i < (pthI d k).length
    · rw [List.getElem?_append_left hi] at h1
      rw [List.getElem?_append_left (by omega)] at h2
      exact rchI d k all hk i p e h1 h2
    · rw [List.getElem?_append_right (by omega)] at h1
      rw [List.getElem?_append_right (by omega), ← el] at h2
      exact rchN ds (k + 1) all hd _ p e h1 h2
end
/-! the text within -/
mutual
theorem nstI : ∀ (d : Nd), ndOk1 d → ∀ (fs : List (List Nd × Nat)) (cur : List Nd), (txI d).foldl nstep (fs, cur) = (fs, cur ++ [d])
  | .let_ c, ok, fs, cur => by
    rw [ndOk1] at ok
    rw [txI]
    exact st_let (let_opn c ok) (let_clo c ok)
  | .num i, ok, fs, cur => by rw [ndOk1] at ok; exact ok.elim
  | .br o ds, ok, fs, cur => by
    rw [ndOk1] at ok
    rw [txI, List.foldl_cons, st_opn ok.1, List.foldl_append, nstN ds ok.2 _ [], List.nil_append]
    exact st_clo (oth_clo o ok.1)
theorem nstN : ∀ (ds : List Nd), ndOk ds → ∀ (fs : List (List Nd × Nat)) (cur : List Nd), (txN ds).foldl nstep (fs, cur) = (fs, cur ++ ds)
  | [], _, fs, cur => by rw [txN, List.append_nil]; rfl
  | d :: ds, ok, fs, cur => by
    rw [ndOk] at ok
    rw [txN, List.foldl_append, nstI d ok.1, nstN ds ok.2]
    simp
end
theorem nest_txN {ds : List Nd} (ok : ndOk ds) : nestD (txN ds) = ds := by
  unfold nestD nst
  rw [nstN ds ok, List.nil_append]
theorem cntO_cons (c : Nat) (l : List Nat) : cntO (c :: l) = (if c ∈ OPN then 1 else 0) + cntO l := by
  unfold cntO
  rw [List.countP_cons]
  simp
  omega
theorem oth_nopn : ∀ c ∈ OPN, oth c ∉ OPN := by decide
mutual
theorem cnt_subI : ∀ d : Nd, ndOk1 d → cntO (txI d) = (subI d).length
  | .let_ c, ok => by
    rw [ndOk1] at ok
    rw [txI, cntO_cons, if_neg (let_opn c ok)]
    simp [cntO, subI]
  | .num i, ok => by rw [ndOk1] at ok; exact ok.elim
  | .br o ds, ok => by
    rw [ndOk1] at ok
    rw [txI, cntO_cons, if_pos ok.1, cntO_app, cnt_subN ds ok.2, cntO_cons, if_neg (oth_nopn o ok.1), subI, List.length_cons]
    show 1 + (_ + (0 + 0)) = _
    omega
theorem cnt_subN : ∀ ds : List Nd, ndOk ds → cntO (txN ds) = (subN ds).length
  | [], _ => by rw [txN, subN]; rfl
  | d :: ds, ok => by
    rw [ndOk] at ok
    rw [txN, cntO_app, cnt_subI d ok.1, cnt_subN ds ok.2, subN, List.length_append]
end
/-! an opening sign of a nest's text opens the nest that stands there in the row of nests within -/
mutual
theorem subI_at : ∀ (d : Nd), ndOk1 d → ∀ (pre : List Nat) (c : Nat) (post : List Nat), txI d = pre ++ c :: post → c ∈ OPN → ∃ (es : List Nd) (rest : List Nat), post = txN es ++ oth c :: rest ∧ (subI d)[cntO pre]? = some (.br c es) ∧ ndOk es
  | .let_ x, ok, pre, c, post, h, hc => by
    rw [ndOk1] at ok
    rw [txI] at h
    have : c ∈ [x] := by rw [h]; simp
    rw [List.mem_singleton.mp this] at hc
    exact absurd hc (let_opn x ok)
  | .num i, ok, pre, c, post, h, hc => by rw [ndOk1] at ok; exact ok.elim
  | .br o ds, ok, pre, c, post, h, hc => by
    rw [ndOk1] at ok
    rw [txI] at h
    cases pre with
    | nil =>
      cases h
      refine ⟨ds, [], rfl, ?_, ok.2⟩
      rw [subI]
      rfl
    | cons x pre =>
      obtain ⟨rfl, h'⟩ := List.cons.inj h
      have hne : post ≠ [] := fun e => by
        rw [e] at h'
        have h1 := congrArg List.getLast? h'
        simp at h1
        exact oth_nopn o ok.1 (h1 ▸ hc)
      obtain ⟨post', y, rfl⟩ : ∃ post' y, post = post' ++ [y] := ⟨post.dropLast, post.getLast hne, (List.dropLast_concat_getLast hne).symm⟩
      have h4 : txN ds ++ [oth o] = (pre ++ c :: post') ++ [y] := h'.trans (show pre ++ c :: (post' ++ [y]) = _ by simp)
      obtain ⟨h2, h3⟩ := List.append_inj' h4 rfl
      obtain ⟨es, rest, e1, e2, e3⟩ := subN_at ds ok.2 pre c post' h2 hc
      refine ⟨es, rest ++ [y], by rw [e1]; simp, ?_, e3⟩
      rw [cntO_cons, if_pos ok.1, subI, Nat.add_comm, List.getElem?_cons_succ]
      exact e2
theorem subN_at : ∀ (ds : List Nd), ndOk ds → ∀ (pre : List Nat) (c : Nat) (post : List Nat), txN ds = pre ++ c :: post → c ∈ OPN → ∃ (es : List Nd) (rest : List Nat), post = txN es ++ oth c :: rest ∧ (subN ds)[cntO pre]? = some (.br c es) ∧ ndOk es
  | [], ok, pre, c, post, h, hc => by rw [txN] at h; cases pre <;> cases h
  | d :: ds, ok, pre, c, post, h, hc => by
    rw [ndOk] at ok
    rw [txN] at h
    rcases List.append_eq_append_iff.mp h with ⟨as, h1, h2⟩ | ⟨bs, h1, h2⟩
    · -- pre = txI d ++ as
      obtain ⟨es, rest, e1, e2, e3⟩ := subN_at ds ok.2 as c post h2 hc
      refine ⟨es, rest, e1, ?_, e3⟩
      rw [h1, cntO_app, cnt_subI d ok.1, subN, List.getElem?_append_right (by omega), Nat.add_sub_cancel_left]
      exact e2
    · -- txI d = pre ++ bs, c :: post = bs ++ txN ds
      cases bs with
      | nil =>
        rw [List.append_nil] at h1
        obtain ⟨es, rest, e1, e2, e3⟩ := subN_at ds ok.2 [] c post h2.symm hc
        refine ⟨es, rest, e1, ?_, e3⟩
        rw [← h1, cnt_subI d ok.1, subN, List.getElem?_append_right (by omega), Nat.sub_self]
        exact e2
      | cons x bs =>
        obtain ⟨rfl, h3⟩ := List.cons.inj h2
        obtain ⟨es, rest, e1, e2, e3⟩ := subI_at d ok.1 pre c bs h1 hc
        refine ⟨es, rest ++ txN ds, by rw [h3, e1]; simp, ?_, e3⟩
        rw [subN, List.getElem?_append_left (List.getElem?_eq_some_iff.mp e2).1]
        exact e2
end
mutual
theorem txI_clean : ∀ (d : Nd), ndOk1 d → clean (txI d)
  | .let_ c, ok => by
    rw [ndOk1] at ok
    rw [txI]
    exact (clean_let (let_opn c ok) (let_clo c ok)).mpr clean_nil
  | .num i, ok => by rw [ndOk1] at ok; exact ok.elim
  | .br o ds, ok => by
    rw [ndOk1] at ok
    rw [txI]
    exact clean_pair ok.1 (txN_clean ds ok.2)
theorem txN_clean : ∀ (ds : List Nd), ndOk ds → clean (txN ds)
  | [], _ => by rw [txN]; exact clean_nil
  | d :: ds, ok => by
    rw [ndOk] at ok
    rw [txN]
    exact clean_app (txI_clean d ok.1) (txN_clean ds ok.2)
end
/-- the stretch within an opening sign and its mate, at a clean text -/
theorem sub_text {l pre post : List Nat} {c : Nat} (hc : clean l) (hs : ∀ x ∈ l, isSg x) (e : l = pre ++ c :: post) (ho : c ∈ OPN) : ∃ (es : List Nd) (j : Nat), ptn l pre.length j ∧ seg l (pre.length + 1) j = txN es ∧ nestD (seg l (pre.length + 1) j) = es ∧ clean (seg l (pre.length + 1) j) ∧ (subN (nestD l))[cntO pre]? = some (.br c es) ∧ ndOk es := by
  obtain ⟨es, rest, h1, h2, h3⟩ := subN_at (nestD l) (nest_ok hs) pre c post (by rw [tx_nest hc, e]) ho
  have hseg : seg l (pre.length + 1) (pre.length + 1 + (txN es).length) = txN es := by
    unfold seg
    rw [e, h1, show pre ++ c :: (txN es ++ oth c :: rest) = ((pre ++ [c]) ++ txN es) ++ (oth c :: rest) by simp]
    have l1 : (pre ++ [c]).length = pre.length + 1 := by simp
    have l2 : ((pre ++ [c]) ++ txN es).length = pre.length + 1 + (txN es).length := by rw [List.length_append, l1]
    rw [← l2, List.take_left, ← l1, List.drop_left]
  have hcl := txN_clean es h3
  refine ⟨es, pre.length + 1 + (txN es).length, ⟨by omega, c, ?_, ho, ?_, by rw [hseg]; exact hcl⟩, hseg, ?_, ?_, h2, h3⟩
  · rw [e]; simp
  · rw [e, h1, show pre ++ c :: (txN es ++ oth c :: rest) = (pre ++ c :: txN es) ++ (oth c :: rest) by simp, List.getElem?_append_right (by simp; omega)]
    simp
    rw [show pre.length + 1 + (txN es).length - (pre.length + ((txN es).length + 1)) = 0 by omega]
    rfl
  · rw [hseg]; exact nest_txN h3
  · rw [hseg]; exact hcl
end Ly

set_option maxHeartbeats 4000000
namespace Ly
open PySem PySem.Spec PyProof.Rows L2 SX
/-! ### len(set) of tuples of ints -/
def rLenSt (K : PySem.W.Frag) (P : Program) (w : World) (xs : List V) (H : Hp) (Q : VK) : Prop := ∃ (a : Addr) (L : List (Addr × List Int)), xs = [.ref a] ∧ H a = some (SetTO P w a L) ∧ (∀ p ∈ L, SqT K H p.1 (p.2.map V.int)) ∧ Q (.int L.length) H
theorem call_lenSt {X : Cx} : CallR X (.builtin "len") (rLenSt X.K X.prog X.w) := by
  intro pins s σ H xs us Q I r h
  obtain ⟨a, L, rfl, ha, hk, q⟩ := h
  have R0 : SetT0 X.prog X.w s.heap a L := (I.hok a _ ha).1
  obtain ⟨es, ep, t, R⟩ := R0.full fun p hp => I.isT (hk p hp)
  obtain ⟨o, ho, hex, hd⟩ := R.ob
  have h8 := R.few
  rw [Vals.ref1 r]
  have hn : es.size = L.length := by
    have := congrArg List.length R.rows
    simpa [rowsOf] using this
  exact call_len_set ho hex hd R.fits (by rw [hn] <;> omega) ⟨.int L.length, H, I.tok _, ⟨_, by rw [hn]⟩, q⟩
/-- different tuples make a set of as many -/
theorem nodup_le : ∀ {xs ys : List (List Int)}, xs.Nodup → (∀ x ∈ xs, x ∈ ys) → xs.length ≤ ys.length
  | [], ys, _, _ => Nat.zero_le _
  | x :: xs, ys, hn, h => by
    have hx := h x List.mem_cons_self
    have := nodup_le (xs := xs) (ys := ys.erase x) (List.nodup_cons.mp hn).2 fun y hy => (List.mem_erase_of_ne (fun e : y = x => (List.nodup_cons.mp hn).1 (e ▸ hy))).mpr (h y (List.mem_cons_of_mem _ hy))
    rw [List.length_erase_of_mem hx] at this
    have : 0 < ys.length := List.length_pos_of_mem hx
    rw [List.length_cons]
    omega
theorem Room.w65 {k : Nat} {A : Around} (r : Room k A) : A.units + 65 < cLine := by have := r.un; omega
/-! ### nests side by side -/
theorem nest_app {l m : List Nat} (hl : clean l) (hm : clean m) (hs : ∀ c ∈ m, isSg c) : nestD (l ++ m) = nestD l ++ nestD m := by
  have e : nst l = ([], nestD l) := by
    show nst l = ([], (nst l).2)
    rw [← nst_clean hl]
  have e2 : nst (l ++ m) = m.foldl nstep (nst l) := by unfold nst; rw [List.foldl_append]
  have e3 : m.foldl nstep ([], nestD l) = ([], nestD l ++ nestD m) := by
    have := nstN (nestD m) (nest_ok hs) [] (nestD l)
    rw [tx_nest hm] at this
    exact this
  show (nst (l ++ m)).2 = _
  rw [e2, e, e3]
mutual
def mirI : Nd → Nd
  | .br o ds => .br o (mirN ds)
  | .let_ c => .let_ c
  | .num i => .num i
def mirN : List Nd → List Nd
  | [] => []
  | d :: ds => mirN ds ++ [mirI d]
end
mutual
theorem mirI_deep : ∀ d : Nd, (mirI d).deep = d.deep
  | .br o ds => by rw [mirI, Nd.deep, Nd.deep, mirN_deep ds]
  | .let_ c => by rw [mirI]
  | .num i => by rw [mirI]
theorem mirN_deep : ∀ ds : List Nd, Nd.deeps (mirN ds) = Nd.deeps ds
  | [] => by rw [mirN]
  | d :: ds => by
    rw [mirN, deeps_snoc, mirN_deep ds, mirI_deep d, Nd.deeps]
    omega
end
mutual
theorem mirI_ok : ∀ d : Nd, ndOk1 d → ndOk1 (mirI d)
  | .br o ds, h => by
    rw [ndOk1] at h
    rw [mirI, ndOk1]
    exact ⟨h.1, mirN_ok ds h.2⟩
  | .let_ c, h => by rw [mirI]; exact h
  | .num i, h => by rw [mirI]; exact h
theorem mirN_ok : ∀ ds : List Nd, ndOk ds → ndOk (mirN ds)
  | [], h => by rw [mirN]; exact h
  | d :: ds, h => by
    rw [ndOk] at h
    rw [mirN]
    exact ndOk_app _ _ (mirN_ok ds h.2) (ndOk_one (mirI_ok d h.1))
end
/-! paths: all different, each behind the one it goes on from -/
mutual
theorem pthI_from : ∀ (d : Nd) (k : Nat) (p : List Nat), p ∈ pthI d k → ∃ q, p = k :: q
  | .let_ c, k, p, h => by simp [pthI] at h
  | .num c, k, p, h => by simp [pthI] at h
  | .br o ds, k, p, h => by
    rw [pthI] at h
    rcases List.mem_cons.mp h with rfl | h
    · exact ⟨[], rfl⟩
    · obtain ⟨q, _, rfl⟩ := List.mem_map.mp h
      exact ⟨q, rfl⟩
theorem pthN_from : ∀ (ds : List Nd) (k : Nat) (p : List Nat), p ∈ pthN ds k → ∃ j q, k ≤ j ∧ p = j :: q
  | [], k, p, h => by rw [pthN] at h; cases h
  | d :: ds, k, p, h => by
    rw [pthN] at h
    rcases List.mem_append.mp h with h | h
    · obtain ⟨q, rfl⟩ := pthI_from d k p h
      exact ⟨k, q, Nat.le_refl _, rfl⟩
    · obtain ⟨j, q, hj, rfl⟩ := pthN_from ds (k + 1) p h
      exact ⟨j, q, by omega, rfl⟩
end
mutual
theorem pthI_nodup : ∀ (d : Nd) (k : Nat), (pthI d k).Nodup
  | .let_ c, k => by simp [pthI]
  | .num c, k => by simp [pthI]
  | .br o ds, k => by
    rw [pthI, List.nodup_cons]
    refine ⟨fun h => ?_, ?_⟩
    · obtain ⟨q, hq, e⟩ := List.mem_map.mp h
      obtain ⟨j, r, _, rfl⟩ := pthN_from ds 0 q hq
      cases e
    · exact List.pairwise_map.mpr ((pthN_nodup ds 0).imp fun hab e => hab (List.cons.inj e).2)
theorem pthN_nodup : ∀ (ds : List Nd) (k : Nat), (pthN ds k).Nodup
  | [], k => by rw [pthN]; exact List.nodup_nil
  | d :: ds, k => by
    rw [pthN]
    refine List.nodup_append.mpr ⟨pthI_nodup d k, pthN_nodup ds (k + 1), fun a ha b hb e => ?_⟩
    obtain ⟨q, rfl⟩ := pthI_from d k a ha
    obtain ⟨j, r, hj, rfl⟩ := pthN_from ds (k + 1) b hb
    cases e
    omega
end
mutual
theorem pthI_pre : ∀ (d : Nd) (k i : Nat) (p : List Nat), (pthI d k)[i]? = some p → 1 < p.length → p.dropLast ∈ (pthI d k).take i
  | .let_ c, k, i, p, h, h1 => by simp [pthI] at h
  | .num c, k, i, p, h, h1 => by simp [pthI] at h
  | .br o ds, k, i, p, h, h1 => by
    rw [pthI] at h ⊢
    cases i with
    | zero => cases h; simp at h1
    | succ i =>
      rw [List.getElem?_cons_succ, List.getElem?_map] at h
      cases hq : (pthN ds 0)[i]? with
      | none => rw [hq] at h; cases h
      | some q =>
        rw [hq] at h
        have e : p = k :: q := (Option.some.inj h).symm
        subst e
        rw [List.take_succ_cons]
        obtain ⟨j, r, _, rfl⟩ := pthN_from ds 0 q (List.mem_of_getElem? hq)
        cases r with
        | nil => simp
        | cons x r =>
          refine List.mem_cons_of_mem _ ?_
          have := pthN_pre ds 0 i _ hq (by simp)
          rw [← List.map_take]
          refine List.mem_map.mpr ⟨_, this, ?_⟩
          rfl
theorem pthN_pre : ∀ (ds : List Nd) (k i : Nat) (p : List Nat), (pthN ds k)[i]? = some p → 1 < p.length → p.dropLast ∈ (pthN ds k).take i
  | [], k, i, p, h, h1 => by rw [pthN] at h; cases h
  | d :: ds, k, i, p, h, h1 => by
    rw [pthN] at h ⊢
    by_cases hi : i < (pthI d k).length
    · rw [List.getElem?_append_left hi] at h
      rw [List.take_append_of_le_length (by omega)]
      exact pthI_pre d k i p h h1
    · rw [List.getElem?_append_right (by omega)] at h
      rw [List.take_append]
      exact List.mem_append_right _ (pthN_pre ds (k + 1) _ p h h1)
end
/-! outlines side by side, within -/
theorem blk_succ (k : Nat) : blk (k + 1) = 32 :: blk k := by
  unfold blk
  rfl
theorem joinL_cons (s p : List Nat) {r : List (List Nat)} (h : r ≠ []) : TL.joinL s (p :: r) = p ++ (s ++ TL.joinL s r) := by
  cases r with
  | nil => exact absurd rfl h
  | cons q r => rfl
theorem joinL_app (s : List Nat) : ∀ {a b : List (List Nat)}, a ≠ [] → b ≠ [] → TL.joinL s (a ++ b) = TL.joinL s a ++ (s ++ TL.joinL s b)
  | [], b, h, _ => absurd rfl h
  | [p], b, _, hb => joinL_cons s p hb
  | p :: q :: a, b, _, hb => by
    rw [List.cons_append, joinL_cons s p (by simp), joinL_app s (a := q :: a) (by simp) hb, joinL_cons s p (by simp)]
    simp
theorem joinL_ne {s : List Nat} {a : List (List Nat)} (h : a ≠ []) (hn : ∀ x ∈ a, x ≠ []) : TL.joinL s a ≠ [] := by
  cases a with
  | nil => exact absurd rfl h
  | cons p r =>
    have hp := hn p List.mem_cons_self
    cases r with
    | nil => exact hp
    | cons q r => rw [joinL_cons s p (by simp)]; simp [hp]
theorem ln_ne (ds : List Nd) (k : Nat) : ∀ x ∈ lnN ds k, x ≠ [] := fun x hx e => by have := (lnN_len ds k x hx).1; rw [e] at this; simp at this
mutual
theorem lnI_in : ∀ (d : Nd) (k : Nat), lnI d (k + 1) = (lnI d k).map (32 :: ·)
  | .let_ c, k => by rw [lnI, lnI, blk_succ]; rfl
  | .num i, k => by rw [lnI, lnI]; rfl
  | .br o ds, k => by rw [lnI, lnI, blk_succ, lnN_in ds (k + 1)]; rfl
theorem lnN_in : ∀ (ds : List Nd) (k : Nat), lnN ds (k + 1) = (lnN ds k).map (32 :: ·)
  | [], k => by rw [lnN, lnN]; rfl
  | d :: ds, k => by rw [lnN, lnN, lnI_in d k, lnN_in ds k, List.map_append]
end
/-- the lines within, joined by a line's end and a blank -/
theorem joinL_in : ∀ (a : List (List Nat)), TL.joinL [10, 32] ([] :: a) = (match a with | [] => [] | _ => 10 :: TL.joinL [10] (a.map (32 :: ·)))
  | [] => rfl
  | [p] => rfl
  | p :: q :: a => by
    have ih := joinL_in (q :: a)
    rw [joinL_cons _ _ (by simp), joinL_cons [10, 32] p (by simp)]
    rw [joinL_cons _ _ (by simp)] at ih
    have ih' : [10, 32] ++ TL.joinL [10, 32] (q :: a) = 10 :: TL.joinL [10] ((q :: a).map (32 :: ·)) := ih
    show [] ++ ([10, 32] ++ (p ++ ([10, 32] ++ TL.joinL [10, 32] (q :: a)))) = 10 :: TL.joinL [10] ((32 :: p) :: (q :: a).map (32 :: ·))
    rw [ih', joinL_cons [10] (32 :: p) (by simp)]
    simp
end Ly

set_option maxHeartbeats 4000000
namespace K12
open PySem PySem.Spec PyProof.Rows L2 SX Ly
def topS (i : Nat) : Stmt := PySem.Challenge.pw_nestmend_k12_whole_nests_put_together.main.body.getD i (.Pass ⟨0, 0, 0, 0⟩)
abbrev s_is_one_of : Stmt := topS 8
abbrev N_is_one_of : List Str := ["thing", "signs"]
theorem st_is_one_of (v0 v1 : V) : L2.start N_is_one_of [v0, v1] = [some v0, some v1] := rfl
theorem sc_is_one_of : FnScope N_is_one_of ["thing", "signs"] (defScope s_is_one_of) := ⟨rfl, rfl, rfl, by decide +kernel, rfl, by decide +kernel, by decide +kernel⟩
abbrev s_kind_of : Stmt := topS 9
abbrev N_kind_of : List Str := ["bracket"]
theorem st_kind_of (v0 : V) : L2.start N_kind_of [v0] = [some v0] := rfl
theorem sc_kind_of : FnScope N_kind_of ["bracket"] (defScope s_kind_of) := ⟨rfl, rfl, rfl, by decide +kernel, rfl, by decide +kernel, by decide +kernel⟩
abbrev s_other_side : Stmt := topS 10
abbrev N_other_side : List Str := ["bracket"]
theorem st_other_side (v0 : V) : L2.start N_other_side [v0] = [some v0] := rfl
theorem sc_other_side : FnScope N_other_side ["bracket"] (defScope s_other_side) := ⟨rfl, rfl, rfl, by decide +kernel, rfl, by decide +kernel, by decide +kernel⟩
abbrev s_partners : Stmt := topS 11
abbrev N_partners : List Str := ["text", "found", "waiting", "place", "sign"]
theorem st_partners (v0 : V) : L2.start N_partners [v0] = [some v0, none, none, none, none] := rfl
theorem sc_partners : FnScope N_partners ["text"] (defScope s_partners) := ⟨rfl, rfl, rfl, by decide +kernel, rfl, by decide +kernel, by decide +kernel⟩
abbrev s_is_clean : Stmt := topS 12
abbrev N_is_clean : List Str := ["text", "sign", "partner"]
theorem st_is_clean (v0 : V) : L2.start N_is_clean [v0] = [some v0, none, none] := rfl
theorem sc_is_clean : FnScope N_is_clean ["text"] (defScope s_is_clean) := ⟨rfl, rfl, rfl, by decide +kernel, rfl, by decide +kernel, by decide +kernel⟩
abbrev s_turned_about : Stmt := topS 13
abbrev N_turned_about : List Str := ["text", "found", "sign"]
theorem st_turned_about (v0 : V) : L2.start N_turned_about [v0] = [some v0, none, none] := rfl
theorem sc_turned_about : FnScope N_turned_about ["text"] (defScope s_turned_about) := ⟨rfl, rfl, rfl, by decide +kernel, rfl, by decide +kernel, by decide +kernel⟩
abbrev s_is_nest_from : Stmt := topS 16
abbrev N_is_nest_from : List Str := ["thing", "deep", "item"]
theorem st_is_nest_from (v0 v1 : V) : L2.start N_is_nest_from [v0, v1] = [some v0, some v1, none] := rfl
theorem sc_is_nest_from : FnScope N_is_nest_from ["thing", "deep"] (defScope s_is_nest_from) := ⟨rfl, rfl, rfl, by decide +kernel, rfl, by decide +kernel, by decide +kernel⟩
abbrev s_is_nest : Stmt := topS 17
abbrev N_is_nest : List Str := ["thing"]
theorem st_is_nest (v0 : V) : L2.start N_is_nest [v0] = [some v0] := rfl
theorem sc_is_nest : FnScope N_is_nest ["thing"] (defScope s_is_nest) := ⟨rfl, rfl, rfl, by decide +kernel, rfl, by decide +kernel, by decide +kernel⟩
abbrev s_nest_of : Stmt := topS 18
abbrev N_nest_of : List Str := ["text", "around", "sign", "inner"]
theorem st_nest_of (v0 : V) : L2.start N_nest_of [v0] = [some v0, none, none, none] := rfl
theorem sc_nest_of : FnScope N_nest_of ["text"] (defScope s_nest_of) := ⟨rfl, rfl, rfl, by decide +kernel, rfl, by decide +kernel, by decide +kernel⟩
abbrev s_joined : Stmt := topS 19
abbrev N_joined : List Str := ["nest", "found", "item"]
theorem st_joined (v0 : V) : L2.start N_joined [v0] = [some v0, none, none] := rfl
theorem sc_joined : FnScope N_joined ["nest"] (defScope s_joined) := ⟨rfl, rfl, rfl, by decide +kernel, rfl, by decide +kernel, by decide +kernel⟩
abbrev s_text_of : Stmt := topS 20
abbrev N_text_of : List Str := ["nest"]
theorem st_text_of (v0 : V) : L2.start N_text_of [v0] = [some v0] := rfl
theorem sc_text_of : FnScope N_text_of ["nest"] (defScope s_text_of) := ⟨rfl, rfl, rfl, by decide +kernel, rfl, by decide +kernel, by decide +kernel⟩
abbrev s_depth_of : Stmt := topS 21
abbrev N_depth_of : List Str := ["nest", "item"]
theorem st_depth_of (v0 : V) : L2.start N_depth_of [v0] = [some v0, none] := rfl
theorem sc_depth_of : FnScope N_depth_of ["nest"] (defScope s_depth_of) := ⟨rfl, rfl, rfl, by decide +kernel, rfl, by decide +kernel, by decide +kernel⟩
abbrev s_paths_of : Stmt := topS 22
abbrev N_paths_of : List Str := ["nest", "found", "place", "item", "path"]
theorem st_paths_of (v0 : V) : L2.start N_paths_of [v0] = [some v0, none, none, none, none] := rfl
theorem sc_paths_of : FnScope N_paths_of ["nest"] (defScope s_paths_of) := ⟨rfl, rfl, rfl, by decide +kernel, rfl, by decide +kernel, by decide +kernel⟩
abbrev s_copied : Stmt := topS 23
abbrev N_copied : List Str := ["nest", "found", "item"]
theorem st_copied (v0 : V) : L2.start N_copied [v0] = [some v0, none, none] := rfl
theorem sc_copied : FnScope N_copied ["nest"] (defScope s_copied) := ⟨rfl, rfl, rfl, by decide +kernel, rfl, by decide +kernel, by decide +kernel⟩
abbrev s_at_path : Stmt := topS 24
abbrev N_at_path : List Str := ["nest", "path", "item", "place"]
theorem st_at_path (v0 v1 : V) : L2.start N_at_path [v0, v1] = [some v0, some v1, none, none] := rfl
theorem sc_at_path : FnScope N_at_path ["nest", "path"] (defScope s_at_path) := ⟨rfl, rfl, rfl, by decide +kernel, rfl, by decide +kernel, by decide +kernel⟩
abbrev s_lines_of : Stmt := topS 25
abbrev N_lines_of : List Str := ["nest", "deep", "found", "item"]
theorem st_lines_of (v0 v1 : V) : L2.start N_lines_of [v0, v1] = [some v0, some v1, none, none] := rfl
theorem sc_lines_of : FnScope N_lines_of ["nest", "deep"] (defScope s_lines_of) := ⟨rfl, rfl, rfl, by decide +kernel, rfl, by decide +kernel, by decide +kernel⟩
abbrev s_outline : Stmt := topS 26
abbrev N_outline : List Str := ["nest"]
theorem st_outline (v0 : V) : L2.start N_outline [v0] = [some v0] := rfl
theorem sc_outline : FnScope N_outline ["nest"] (defScope s_outline) := ⟨rfl, rfl, rfl, by decide +kernel, rfl, by decide +kernel, by decide +kernel⟩
abbrev s_read_outline : Stmt := topS 27
abbrev N_read_outline : List Str := ["text", "around", "line", "deep", "sign", "inner"]
theorem st_read_outline (v0 : V) : L2.start N_read_outline [v0] = [some v0, none, none, none, none, none] := rfl
theorem sc_read_outline : FnScope N_read_outline ["text"] (defScope s_read_outline) := ⟨rfl, rfl, rfl, by decide +kernel, rfl, by decide +kernel, by decide +kernel⟩
abbrev s_law_mixed : Stmt := topS 29
abbrev N_law_mixed : List Str := ["cell", "k", "number"]
theorem st_law_mixed (v0 v1 : V) : L2.start N_law_mixed [v0, v1] = [some v0, some v1, none] := rfl
theorem sc_law_mixed : FnScope N_law_mixed ["cell", "k"] (defScope s_law_mixed) := ⟨rfl, rfl, rfl, by decide +kernel, rfl, by decide +kernel, by decide +kernel⟩
abbrev s_law_pot : Stmt := topS 30
abbrev N_law_pot : List Str := ["cell"]
theorem st_law_pot (v0 : V) : L2.start N_law_pot [v0] = [some v0] := rfl
theorem sc_law_pot : FnScope N_law_pot ["cell"] (defScope s_law_pot) := ⟨rfl, rfl, rfl, by decide +kernel, rfl, by decide +kernel, by decide +kernel⟩
abbrev s_law_take : Stmt := topS 31
abbrev N_law_take : List Str := ["pot", "many", "told"]
theorem st_law_take (v0 v1 : V) : L2.start N_law_take [v0, v1] = [some v0, some v1, none] := rfl
theorem sc_law_take : FnScope N_law_take ["pot", "many"] (defScope s_law_take) := ⟨rfl, rfl, rfl, by decide +kernel, rfl, by decide +kernel, by decide +kernel⟩
abbrev s_law_sign : Stmt := topS 32
abbrev s_law_clean : Stmt := topS 33
abbrev N_law_clean : List Str := ["pot", "most", "text", "waiting", "shape", "left", "way", "k"]
theorem st_law_clean (v0 v1 : V) : L2.start N_law_clean [v0, v1] = [some v0, some v1, none, none, none, none, none, none] := rfl
theorem sc_law_clean : FnScope N_law_clean ["pot", "most"] (defScope s_law_clean) := ⟨rfl, rfl, rfl, by decide +kernel, rfl, by decide +kernel, by decide +kernel⟩
abbrev s_law_bent : Stmt := topS 34
abbrev s_law_long : Stmt := topS 35
abbrev N_law_long : List Str := ["pot", "k"]
theorem st_law_long (v0 v1 : V) : L2.start N_law_long [v0, v1] = [some v0, some v1] := rfl
theorem sc_law_long : FnScope N_law_long ["pot", "k"] (defScope s_law_long) := ⟨rfl, rfl, rfl, by decide +kernel, rfl, by decide +kernel, by decide +kernel⟩
abbrev s_law_text : Stmt := topS 36
abbrev s_law_two_right : Stmt := topS 37
abbrev N_law_two_right : List Str := ["one", "other", "nests", "lines", "joined_lines", "about", "text"]
theorem st_law_two_right (v0 v1 : V) : L2.start N_law_two_right [v0, v1] = [some v0, some v1, none, none, none, none, none] := rfl
theorem sc_law_two_right : FnScope N_law_two_right ["one", "other"] (defScope s_law_two_right) := ⟨rfl, rfl, rfl, by decide +kernel, rfl, by decide +kernel, by decide +kernel⟩
abbrev s_law_within_right : Stmt := topS 38
abbrev N_law_within_right : List Str := ["text", "k", "nest", "within", "lines", "path"]
theorem st_law_within_right (v0 v1 : V) : L2.start N_law_within_right [v0, v1] = [some v0, some v1, none, none, none, none] := rfl
theorem sc_law_within_right : FnScope N_law_within_right ["text", "k"] (defScope s_law_within_right) := ⟨rfl, rfl, rfl, by decide +kernel, rfl, by decide +kernel, by decide +kernel⟩
abbrev s_law_paths_right : Stmt := topS 39
abbrev N_law_paths_right : List Str := ["text", "nest", "paths", "places", "mates", "k", "path", "bracket", "inner", "place"]
theorem st_law_paths_right (v0 : V) : L2.start N_law_paths_right [v0] = [some v0, none, none, none, none, none, none, none, none, none] := rfl
theorem sc_law_paths_right : FnScope N_law_paths_right ["text"] (defScope s_law_paths_right) := ⟨rfl, rfl, rfl, by decide +kernel, rfl, by decide +kernel, by decide +kernel⟩
abbrev s_law : Stmt := topS 40
abbrev N_law : List Str := ["script", "cell", "pot", "one", "other"]
theorem st_law (v0 : V) : L2.start N_law [v0] = [some v0, none, none, none, none] := rfl
theorem sc_law : FnScope N_law ["script"] (defScope s_law) := ⟨rfl, rfl, rfl, by decide +kernel, rfl, by decide +kernel, by decide +kernel⟩
structure Facts (K : PySem.W.Frag) (mg : Str → Option Value) : Prop where
  f_is_one_of : DefAt K mg "is_one_of" s_is_one_of ["thing", "signs"]
  f_kind_of : DefAt K mg "kind_of" s_kind_of ["bracket"]
  f_other_side : DefAt K mg "other_side" s_other_side ["bracket"]
  f_partners : DefAt K mg "partners" s_partners ["text"]
  f_is_clean : DefAt K mg "is_clean" s_is_clean ["text"]
  f_turned_about : DefAt K mg "turned_about" s_turned_about ["text"]
  f_is_nest_from : DefAt K mg "is_nest_from" s_is_nest_from ["thing", "deep"]
  f_is_nest : DefAt K mg "is_nest" s_is_nest ["thing"]
  f_nest_of : DefAt K mg "nest_of" s_nest_of ["text"]
  f_joined : DefAt K mg "joined" s_joined ["nest"]
  f_text_of : DefAt K mg "text_of" s_text_of ["nest"]
  f_depth_of : DefAt K mg "depth_of" s_depth_of ["nest"]
  f_paths_of : DefAt K mg "paths_of" s_paths_of ["nest"]
  f_copied : DefAt K mg "copied" s_copied ["nest"]
  f_at_path : DefAt K mg "at_path" s_at_path ["nest", "path"]
  f_lines_of : DefAt K mg "lines_of" s_lines_of ["nest", "deep"]
  f_outline : DefAt K mg "outline" s_outline ["nest"]
  f_read_outline : DefAt K mg "read_outline" s_read_outline ["text"]
  f_law_mixed : DefAt K mg "_law_mixed" s_law_mixed ["cell", "k"]
  f_law_pot : DefAt K mg "_law_pot" s_law_pot ["cell"]
  f_law_take : DefAt K mg "_law_take" s_law_take ["pot", "many"]
  f_law_sign : DefAt K mg "_law_sign" s_law_sign ["pot"]
  f_law_clean : DefAt K mg "_law_clean" s_law_clean ["pot", "most"]
  f_law_bent : DefAt K mg "_law_bent" s_law_bent ["pot", "text"]
  f_law_long : DefAt K mg "_law_long" s_law_long ["pot", "k"]
  f_law_text : DefAt K mg "_law_text" s_law_text ["pot", "most"]
  f_law_two_right : DefAt K mg "_law_two_right" s_law_two_right ["one", "other"]
  f_law_within_right : DefAt K mg "_law_within_right" s_law_within_right ["text", "k"]
  f_law_paths_right : DefAt K mg "_law_paths_right" s_law_paths_right ["text"]
  c_LETTERS : ∃ u, mg "LETTERS" = some u ∧ RelV (Tx LET) u
  c_OPENING : ∃ u, mg "OPENING" = some u ∧ RelV (Tx OPN) u
  c_CLOSING : ∃ u, mg "CLOSING" = some u ∧ RelV (Tx CLO) u
  c_BRACKETS : ∃ u, mg "BRACKETS" = some u ∧ RelV (Tx BRK) u
  c_DEEPEST : ∃ u, mg "DEEPEST" = some u ∧ RelV (.int 60) u
  b_len : mg "len" = none
  b_int : mg "int" = none
  b_str : mg "str" = none
  b_range : mg "range" = none
  b_enumerate : mg "enumerate" = none
  b_zip : mg "zip" = none
  b_isinstance : mg "isinstance" = none
  b_list : mg "list" = none
  b_tuple : mg "tuple" = none
  b_bool : mg "bool" = none
  b_max : mg "max" = none
  b_set : mg "set" = none
  b_ValueError : mg "ValueError" = none
  g_MendError : mg "MendError" = some (.ref (He.ga K "MendError"))
  c_MendError : ∃ u, mg "MendError" = some u ∧ RelV (V.ref (He.ga K "MendError")) u
  g_NoNest : mg "NoNest" = some (.ref (He.ga K "NoNest"))
  c_NoNest : ∃ u, mg "NoNest" = some u ∧ RelV (V.ref (He.ga K "NoNest")) u
  z_NoNest : ErrF K (He.ga K "NoNest") (He.ga K "MendError")
  kv_NoNest : PySem.W.kitOne K (.ref (He.ga K "NoNest")) (.type "ValueError") = some true
  kk_NoNest_NoNest : PySem.W.kitOne K (.ref (He.ga K "NoNest")) (.ref (He.ga K "NoNest")) = some true
end K12

set_option maxHeartbeats 4000000
namespace K12
open PySem PySem.Spec PyProof.Rows L2 SX Ly
local macro_rules | `(tactic| wtm_at "unf") => `(tactic| (try simp only [tMetX, tOwnX, tChain, tSeq, tNext, tBreak, tCont, tDrop, tRet, tRetN, tIfS, tAsg, tAug, tC, tOp, tUn, tNil, tCons, tOwn, tCB, tTest, tB, tAnd, tOr, tNot, tAndV, tOrV, tNotV, tIf, gName, gSub, tBM, tBM0, tM0, tM1, tSl, tPart_eq, tNoPart, tLst_eq, tTup_eq, tRevL_eq, tReplT, tRevS, tDGet_eq, sDPut_eq, tDNewT_eq, tMet, tMak, tFld_eq, sFld_eq, C8.tCut, wipe, tYes, gTup, gCons, gNil, List.set_cons_zero, List.set_cons_succ, if_true, if_false, Bool.false_eq_true, Bool.not_true, Bool.not_false, true_and, reduceIte, cx_K, tFor_eq, tLc_eq, iStr, iList, iTup, iRng1, iRng2, iRng3, iEnum, iZip, iEnumS, iZipS]))
local macro_rules | `(tactic| wtm_at "ne") => `(tactic| first | assumption | (apply Ne.symm; assumption) | (apply ne_new; (· assumption); (· wtm_at "lk")) | (apply Ne.symm; apply ne_new; (· assumption); (· wtm_at "lk")))
local macro_rules | `(tactic| wtm_at "lk") => `(tactic| first | assumption | exact upd_same | (apply Same.get; (· assumption); (· wtm_at "lk")) | (apply But.get; (· assumption); (· wtm_at "ne"); (· wtm_at "lk")))
local macro_rules | `(tactic| wtm_at "sq") => `(tactic| first | assumption | (apply sq_of; wtm_at "lk") | (apply Same.seq; (· assumption); (· wtm_at "sq")) | (apply But.sq; (· assumption); (· wtm_at "ne"); (· wtm_at "sq")))
local macro_rules | `(tactic| wtm_at "fr") => `(tactic| first | assumption | (apply Same.fr; (· assumption); (· wtm_at "sm")) | (apply But.fr; (· assumption); (· wtm_at "sm"); (· wtm_at "ne")))
local macro_rules | `(tactic| wtm_at "sm") => `(tactic| first | exact Same.refl _ | exact But.refl | assumption | (apply Same.tr; (· assumption); (· wtm_at "sm")) | (apply Same.b0; (· assumption); (· wtm_at "sm"); (· wtm_at "fr")) | (apply But.sa; (· assumption); (· wtm_at "sm")) | (apply But.tr; (· assumption); (· wtm_at "sm")) | (apply But.b0; (· assumption); (· wtm_at "sm"); (· wtm_at "fr")) | (apply Same.toBut; wtm_at "sm"))
local macro_rules | `(tactic| wtm_at "sc") => `(tactic| first | exact Int.zero_lt_one | (show (0 : Int) < _; omega) | (show (0 : Int) < _; decide) | exact ⟨by omega, by omega⟩ | exact .inl ⟨by omega, by omega⟩ | exact .inr ⟨by omega, by omega⟩)
local macro_rules | `(tactic| wtm_at "go1") => `(tactic| first | ((with_reducible apply g_var); (· exact rfl)) | with_reducible apply g_I0 | ((with_reducible apply g_I); (· wtm_at "sc")) | with_reducible apply g_U | with_reducible apply g_ipI | ((with_reducible apply g_addT); (· first | omega | (simp; done) | (simp; omega))) | with_reducible apply g_inT | with_reducible apply g_ninT | ((with_reducible apply g_lenT); (· omega)) | with_reducible apply g_findT1 | with_reducible apply g_str | with_reducible apply g_part | with_reducible apply g_intB | ((with_reducible apply g_ixL); (· wtm_at "sq"); (· exact rfl)) | ((with_reducible apply g_setL); (· wtm_at "lk"); (· exact rfl)) | ((with_reducible apply g_eq); (· rfl)) | ((with_reducible apply g_ne); (· rfl)))
local macro_rules | `(tactic| wtm_at "go") => `(tactic| repeat wtm_at "go1")
local macro_rules | `(tactic| wtm_at "lp") => `(tactic| skip)
local macro_rules | `(tactic| wtm_at "om") => `(tactic| first | omega | (simp; done) | (simp; omega) | (simp at *; omega))
local macro_rules | `(tactic| wtm_at "ty") => `(tactic| first | exact ty_str | exact ty_int | exact ty_bl | exact ty_non | (apply ty_lst; wtm_at "lk") | (apply ty_tup; wtm_at "lk"))
local macro_rules | `(tactic| wtm_at "kb") => `(tactic| first | exact kb_str_str | exact kb_str_int | exact kb_str_bool | exact kb_str_list | exact kb_str_tuple | exact kb_int_str | exact kb_int_int | exact kb_int_bool | exact kb_int_list | exact kb_int_tuple | exact kb_bool_str | exact kb_bool_int | exact kb_bool_bool | exact kb_bool_list | exact kb_bool_tuple | exact kb_list_str | exact kb_list_int | exact kb_list_bool | exact kb_list_list | exact kb_list_tuple | exact kb_tuple_str | exact kb_tuple_int | exact kb_tuple_bool | exact kb_tuple_list | exact kb_tuple_tuple | exact kb_NoneType_str | exact kb_NoneType_int | exact kb_NoneType_bool | exact kb_NoneType_list | exact kb_NoneType_tuple | exact kb_dict_str | exact kb_dict_int | exact kb_dict_bool | exact kb_dict_list | exact kb_dict_tuple)
local macro_rules | `(tactic| wtm_at "gx1") => `(tactic| first | ((with_reducible apply g_eqS); (· exact rfl)) | ((with_reducible apply g_neS); (· exact rfl)) | wtm_at "go1" | with_reducible apply g_min2 | with_reducible apply g_max2 | with_reducible apply g_T | with_reducible apply g_F | with_reducible apply g_NT | with_reducible apply g_NF | with_reducible apply g_nT | with_reducible apply g_nF | with_reducible apply g_RT | with_reducible apply g_RF | ((with_reducible apply g_isi); (· wtm_at "ty"); (· wtm_at "kb")) | ((with_reducible apply g_ixAU3); (· wtm_at "lk"); (· exact rfl)) | ((with_reducible apply g_ixAL3); (· wtm_at "lk"); (· exact rfl)) | ((with_reducible apply g_ixU3); (· wtm_at "lk"); (· exact rfl)) | ((with_reducible apply g_lenL3); (· wtm_at "lk")) | ((with_reducible apply g_lenU3); (· wtm_at "lk")) | ((with_reducible apply g_tyL3); (· wtm_at "lk")) | ((with_reducible apply g_lenT); (· wtm_at "pv")) | wtm_at "tr" | with_reducible apply g_ET | with_reducible apply g_EF | with_reducible apply g_EnT | with_reducible apply g_EnF)
local macro_rules | `(tactic| wtm_at "pv") => `(tactic| first | exact rfl | assumption | omega | (simp; done) | (simp; omega))
local macro_rules | `(tactic| wtm_at "tr") => `(tactic| first | ((with_reducible apply g_Td); (· wtm_at "pv")) | ((with_reducible apply g_Fd); (· wtm_at "pv")) | ((with_reducible apply g_NTd); (· wtm_at "pv")) | ((with_reducible apply g_NFd); (· wtm_at "pv")) | ((with_reducible apply g_nTd); (· wtm_at "pv")) | ((with_reducible apply g_nFd); (· wtm_at "pv")) | ((with_reducible apply g_RTd); (· wtm_at "pv")) | ((with_reducible apply g_RFd); (· wtm_at "pv")))
local macro_rules | `(tactic| wtm_at "gx") => `(tactic| repeat wtm_at "gx1")

section
variable {P : Program} {w : World} {K : PySem.W.Frag} {mg : Str → Option Value} {base : Heap}
/-- a pot: three ints, the first not below 0 -/
structure Pt where
  a : Int
  c : Int
  n : Int
  h : 0 ≤ a
def Pt.o (P : Pt) : HO := .lst [.int P.a, .int P.c, .int P.n]
/-! _law_mixed -/
def sp_law_mixed : Sp := fun vs H Q _ => ∃ c k : Int, vs = [.int c, .int k] ∧ ∀ r : Int, Q (.int r) H
theorem ok_law_mixed (T : Facts K mg) : C8.Cal P w K mg base 1 "_law_mixed" sp_law_mixed [] := by
  refine calD T.f_law_mixed sc_law_mixed (fun vs H Q E h => ?_) (fun f cdv A outer s H vs Q E hr h => ?_)
  · obtain ⟨c, k, rfl, q⟩ := h; rfl
  · obtain ⟨c, k, rfl, q⟩ := h
    refine ⟨_, (pss_cons (ps_set (i := 2) sc_law_mixed.nd rfl (Or.inl rfl) (pe_op op_mod (pe_op op_mul (pe_op op_add (pe_op op_add (pe_op op_mod (pv 0) pe_int) (pe_op op_mul pe_int (pv 1))) pe_int) pe_int) pe_int))
       (pss_cons (ps_set (i := 2) sc_law_mixed.nd rfl (Or.inl rfl) (pe_op op_mod (pe_op op_mul (pv 2) (pv 2)) pe_int))
       (pss_one (ps_ret (pe_op op_fdiv (pe_op op_mod (pe_op op_mul (pe_op op_add (pv 2) (pe_op op_mul pe_int (pe_op op_add (pv 1) pe_int))) pe_int) pe_int) pe_int))))), ?_⟩
    rw [st_law_mixed]
    wtm_at "unf"
    wtm_at "go"
    exact q _
/-! _law_pot -/
def sp_law_pot : Sp := fun vs H Q _ => ∃ c : Int, vs = [.int c] ∧ ∀ (p : Addr) (P1 : Pt) (H' : Hp), H p = none → Same H H' → H' p = some P1.o → Q (.ref p) H'
theorem ok_law_pot (T : Facts K mg) : C8.Cal P w K mg base 1 "_law_pot" sp_law_pot [] := by
  refine calD T.f_law_pot sc_law_pot (fun vs H Q E h => ?_) (fun f cdv A outer s H vs Q E hr h => ?_)
  · obtain ⟨c, rfl, q⟩ := h; rfl
  · obtain ⟨c, rfl, q⟩ := h
    refine ⟨_, (pss_one (ps_ret (pe_lst (pa_cons (pe_op op_mulW (pe_op op_mod (pv 0) (pe_op op_mulW (pe_op op_mulW (pe_op op_mulW (pe_op op_pow pe_int pe_int) (pe_op op_pow pe_int pe_int)) (pe_op op_pow pe_int pe_int)) (pe_op op_pow pe_int pe_int))) (pe_callTy call_intB rfl T.b_int (by decide +kernel) (pa_cons (pe_cmpR op_ge (pv 0) (pe_op op_pow pe_int pe_int) (nomark _)) pa_nil))) (pa_cons (pv 0) (pa_cons pe_int pa_nil)))))), ?_⟩
    rw [st_law_pot]
    wtm_at "unf"
    wtm_at "go"
    refine g_I (by unfold CMulW; decide +kernel) ?_
    wtm_at "go"
    refine g_I (by unfold CMulW; decide +kernel) ?_
    wtm_at "go"
    refine g_I (by unfold CMulW; decide +kernel) ?_
    refine g_I (by show (0 : Int) < _; decide +kernel) ?_
    wtm_at "go"
    generalize hM : (10 : Int) ^ Int.toNat 50 * 10 ^ Int.toNat 50 * 10 ^ Int.toNat 50 * 10 ^ Int.toNat 50 = M
    have hM0 : 0 < M := by rw [← hM]; decide +kernel
    have hM1 : M.natAbs < 2 ^ 700 := by rw [← hM]; decide +kernel
    have h0 : 0 ≤ c % M := Int.emod_nonneg _ (by omega)
    have h1 : c % M < M := Int.emod_lt_of_pos _ hM0
    refine g_I ?_ ?_
    · refine wide_mul (a := 700) (b := 1) (by omega) ?_ (by decide) (by decide) (by decide)
      split <;> decide
    wtm_at "go"
    refine g_lst (by show 3 ≤ 100000; decide) fun p H1 np s1 e1 => ?_
    refine q p ⟨c % M * (if decide ((10 : Int) ^ Int.toNat 18 ≤ c) = true then 1 else 0), c, 0, ?_⟩ H1 np s1 e1
    split <;> omega
/-! _law_take -/
def sp_law_take : Sp := fun vs H Q _ => ∃ (p : Addr) (P0 : Pt) (m : Int), vs = [.ref p, .int m] ∧ H p = some P0.o ∧ 0 < m ∧ m < 1000000 ∧ ∀ (r : Int) (P1 : Pt) (H' : Hp), 0 ≤ r → r < m → But p H H' → H' p = some P1.o → Q (.int r) H'
theorem ok_law_take (T : Facts K mg) : C8.Cal P w K mg base 2 "_law_take" sp_law_take [] := by
  refine calD T.f_law_take sc_law_take (fun vs H Q E h => ?_) (fun f cdv A outer s H vs Q E hr h => ?_)
  · obtain ⟨p, P0, m, rfl, hp, h0, h1, q⟩ := h; rfl
  · obtain ⟨p, P0, m, rfl, hp, h0, h1, q⟩ := h
    refine ⟨_, (pss_cons (ps_asg (pe_op op_add (pe_ix ix_list (pv 0) pe_int (fun _ _ => rfl)) pe_int) (pg_sub (pv 0) pe_int set_list))
       (pss_cons (ps_if (pt_cmpR op_gt (pe_ix ix_list (pv 0) pe_int (fun _ _ => rfl)) pe_int (nomark _))
       (pss_cons (ps_set (i := 2) sc_law_take.nd rfl (Or.inl rfl) (pe_op op_mod (pe_ix ix_list (pv 0) pe_int (fun _ _ => rfl)) (pv 1)))
       (pss_cons (ps_asg (pe_op op_fdiv (pe_ix ix_list (pv 0) pe_int (fun _ _ => rfl)) (pv 1)) (pg_sub (pv 0) pe_int set_list))
       (pss_one (ps_ret (pv 2)))))
       pss_nil)
       (pss_one (ps_ret (pe_op op_mod (pe_own (ok_law_mixed T) hr (by omega) rfl (pa_cons (pe_ix ix_list (pv 0) pe_int (fun _ _ => rfl)) (pa_cons (pe_ix ix_list (pv 0) pe_int (fun _ _ => rfl)) pa_nil))) (pv 1)))))), ?_⟩
    rw [st_law_take]
    have hp' : H p = some (.lst [.int P0.a, .int P0.c, .int P0.n]) := hp
    wtm_at "unf"
    wtm_at "go"
    intro H1 b1 e1
    wtm_at "go"
    refine g_test (fun h => ?_) (fun h => ?_)
    · wtm_at "go"
      intro H2 b2 e2
      wtm_at "go"
      exact q (P0.a % m) ⟨P0.a / m, P0.c, P0.n + 1, Int.ediv_nonneg P0.h (by omega)⟩ H2 (Int.emod_nonneg _ (by omega)) (Int.emod_lt_of_pos _ h0) (by wtm_at "sm") e2
    · wtm_at "go"
      refine ⟨_, _, rfl, fun r => ?_⟩
      wtm_at "go"
      exact q (r % m) ⟨P0.a, P0.c, P0.n + 1, P0.h⟩ H1 (Int.emod_nonneg _ (by omega)) (Int.emod_lt_of_pos _ h0) (by wtm_at "sm") e1
end
end K12

set_option maxHeartbeats 4000000
namespace K12
open PySem PySem.Spec PyProof.Rows L2 SX Ly
local macro_rules | `(tactic| wtm_at "unf") => `(tactic| (try simp only [tMetX, tOwnX, tChain, tSeq, tNext, tBreak, tCont, tDrop, tRet, tRetN, tIfS, tAsg, tAug, tC, tOp, tUn, tNil, tCons, tOwn, tCB, tTest, tB, tAnd, tOr, tNot, tAndV, tOrV, tNotV, tIf, gName, gSub, tBM, tBM0, tM0, tM1, tSl, tPart_eq, tNoPart, tLst_eq, tTup_eq, tRevL_eq, tReplT, tRevS, tDGet_eq, sDPut_eq, tDNewT_eq, tMet, tMak, tFld_eq, sFld_eq, C8.tCut, wipe, tYes, gTup, gCons, gNil, List.set_cons_zero, List.set_cons_succ, if_true, if_false, Bool.false_eq_true, Bool.not_true, Bool.not_false, true_and, reduceIte, cx_K, tFor_eq, tLc_eq, iStr, iList, iTup, iRng1, iRng2, iRng3, iEnum, iZip, iEnumS, iZipS]))
local macro_rules | `(tactic| wtm_at "ne") => `(tactic| first | assumption | (apply Ne.symm; assumption) | (apply ne_new; (· assumption); (· wtm_at "lk")) | (apply Ne.symm; apply ne_new; (· assumption); (· wtm_at "lk")))
local macro_rules | `(tactic| wtm_at "lk") => `(tactic| first | assumption | exact upd_same | (apply Same.get; (· assumption); (· wtm_at "lk")) | (apply But.get; (· assumption); (· wtm_at "ne"); (· wtm_at "lk")))
local macro_rules | `(tactic| wtm_at "sq") => `(tactic| first | assumption | (apply sq_of; wtm_at "lk") | (apply Same.seq; (· assumption); (· wtm_at "sq")) | (apply But.sq; (· assumption); (· wtm_at "ne"); (· wtm_at "sq")))
local macro_rules | `(tactic| wtm_at "fr") => `(tactic| first | assumption | (apply Same.fr; (· assumption); (· wtm_at "sm")) | (apply But.fr; (· assumption); (· wtm_at "sm"); (· wtm_at "ne")))
local macro_rules | `(tactic| wtm_at "sm") => `(tactic| first | exact Same.refl _ | exact But.refl | assumption | (apply Same.tr; (· assumption); (· wtm_at "sm")) | (apply Same.b0; (· assumption); (· wtm_at "sm"); (· wtm_at "fr")) | (apply But.sa; (· assumption); (· wtm_at "sm")) | (apply But.tr; (· assumption); (· wtm_at "sm")) | (apply But.b0; (· assumption); (· wtm_at "sm"); (· wtm_at "fr")) | (apply Same.toBut; wtm_at "sm"))
local macro_rules | `(tactic| wtm_at "sc") => `(tactic| first | exact Int.zero_lt_one | (show (0 : Int) < _; omega) | (show (0 : Int) < _; decide) | exact ⟨by omega, by omega⟩ | exact .inl ⟨by omega, by omega⟩ | exact .inr ⟨by omega, by omega⟩)
local macro_rules | `(tactic| wtm_at "go1") => `(tactic| first | ((with_reducible apply g_var); (· exact rfl)) | with_reducible apply g_I0 | ((with_reducible apply g_I); (· wtm_at "sc")) | with_reducible apply g_U | with_reducible apply g_ipI | ((with_reducible apply g_addT); (· first | omega | (simp; done) | (simp; omega))) | with_reducible apply g_inT | with_reducible apply g_ninT | ((with_reducible apply g_lenT); (· omega)) | with_reducible apply g_findT1 | with_reducible apply g_str | with_reducible apply g_part | with_reducible apply g_intB | ((with_reducible apply g_ixL); (· wtm_at "sq"); (· exact rfl)) | ((with_reducible apply g_setL); (· wtm_at "lk"); (· exact rfl)) | ((with_reducible apply g_eq); (· rfl)) | ((with_reducible apply g_ne); (· rfl)))
local macro_rules | `(tactic| wtm_at "go") => `(tactic| repeat wtm_at "go1")
local macro_rules | `(tactic| wtm_at "lp") => `(tactic| skip)
local macro_rules | `(tactic| wtm_at "om") => `(tactic| first | omega | (simp; done) | (simp; omega) | (simp at *; omega))
local macro_rules | `(tactic| wtm_at "ty") => `(tactic| first | exact ty_str | exact ty_int | exact ty_bl | exact ty_non | (apply ty_lst; wtm_at "lk") | (apply ty_tup; wtm_at "lk"))
local macro_rules | `(tactic| wtm_at "kb") => `(tactic| first | exact kb_str_str | exact kb_str_int | exact kb_str_bool | exact kb_str_list | exact kb_str_tuple | exact kb_int_str | exact kb_int_int | exact kb_int_bool | exact kb_int_list | exact kb_int_tuple | exact kb_bool_str | exact kb_bool_int | exact kb_bool_bool | exact kb_bool_list | exact kb_bool_tuple | exact kb_list_str | exact kb_list_int | exact kb_list_bool | exact kb_list_list | exact kb_list_tuple | exact kb_tuple_str | exact kb_tuple_int | exact kb_tuple_bool | exact kb_tuple_list | exact kb_tuple_tuple | exact kb_NoneType_str | exact kb_NoneType_int | exact kb_NoneType_bool | exact kb_NoneType_list | exact kb_NoneType_tuple | exact kb_dict_str | exact kb_dict_int | exact kb_dict_bool | exact kb_dict_list | exact kb_dict_tuple)
local macro_rules | `(tactic| wtm_at "gx1") => `(tactic| first | ((with_reducible apply g_eqS); (· exact rfl)) | ((with_reducible apply g_neS); (· exact rfl)) | wtm_at "go1" | with_reducible apply g_min2 | with_reducible apply g_max2 | with_reducible apply g_T | with_reducible apply g_F | with_reducible apply g_NT | with_reducible apply g_NF | with_reducible apply g_nT | with_reducible apply g_nF | with_reducible apply g_RT | with_reducible apply g_RF | ((with_reducible apply g_isi); (· wtm_at "ty"); (· wtm_at "kb")) | ((with_reducible apply g_ixAU3); (· wtm_at "lk"); (· exact rfl)) | ((with_reducible apply g_ixAL3); (· wtm_at "lk"); (· exact rfl)) | ((with_reducible apply g_ixU3); (· wtm_at "lk"); (· exact rfl)) | ((with_reducible apply g_lenL3); (· wtm_at "lk")) | ((with_reducible apply g_lenU3); (· wtm_at "lk")) | ((with_reducible apply g_tyL3); (· wtm_at "lk")) | ((with_reducible apply g_lenT); (· wtm_at "pv")) | wtm_at "tr" | with_reducible apply g_ET | with_reducible apply g_EF | with_reducible apply g_EnT | with_reducible apply g_EnF)
local macro_rules | `(tactic| wtm_at "pv") => `(tactic| first | exact rfl | assumption | omega | (simp; done) | (simp; omega))
local macro_rules | `(tactic| wtm_at "tr") => `(tactic| first | ((with_reducible apply g_Td); (· wtm_at "pv")) | ((with_reducible apply g_Fd); (· wtm_at "pv")) | ((with_reducible apply g_NTd); (· wtm_at "pv")) | ((with_reducible apply g_NFd); (· wtm_at "pv")) | ((with_reducible apply g_nTd); (· wtm_at "pv")) | ((with_reducible apply g_nFd); (· wtm_at "pv")) | ((with_reducible apply g_RTd); (· wtm_at "pv")) | ((with_reducible apply g_RFd); (· wtm_at "pv")))
local macro_rules | `(tactic| wtm_at "gx") => `(tactic| repeat wtm_at "gx1")

section
variable {P : Program} {w : World} {K : PySem.W.Frag} {mg : Str → Option Value} {base : Heap}
/-! kind_of -/
def sp_kind_of : Sp := fun vs H Q _ => ∃ c : Nat, vs = [Tx [c]] ∧ c ∈ BRK ∧ Q (.int (knd c)) H
theorem ok_kind_of (T : Facts K mg) : C8.Cal P w K mg base 1 "kind_of" sp_kind_of [] := by
  refine calD T.f_kind_of sc_kind_of (fun vs H Q E h => ?_) (fun f cdv A outer s H vs Q E hr h => ?_)
  · obtain ⟨c, rfl, hc, q⟩ := h; rfl
  · obtain ⟨c, rfl, hc, q⟩ := h
    refine ⟨_, (pss_cons (ps_if (pt_cmpR op_inT (pv 0) (C8.pe_gc rfl T.c_OPENING) (by rfl))
       (pss_one (ps_ret (pe_m1 PySem.F.slot_str_index PySem.F.type_str_index mt_idxT (C8.pe_gc rfl T.c_OPENING) (pv 0))))
       pss_nil)
       (pss_one (ps_ret (pe_m1 PySem.F.slot_str_index PySem.F.type_str_index mt_idxT (C8.pe_gc rfl T.c_CLOSING) (pv 0))))), ?_⟩
    rw [st_kind_of]
    wtm_at "unf"
    wtm_at "go"
    refine g_test (fun h => ?_) (fun h => ?_)
    · wtm_at "go"
      exact g_idxT1 (find_opn c h) q
    · wtm_at "go"
      exact g_idxT1 (find_clo c ((brk_or.mp hc).resolve_left h)) q
/-! other_side -/
def sp_other_side : Sp := fun vs H Q _ => ∃ c : Nat, vs = [Tx [c]] ∧ c ∈ BRK ∧ Q (Tx [oth c]) H
theorem ok_other_side (T : Facts K mg) : C8.Cal P w K mg base 2 "other_side" sp_other_side [] := by
  refine calD T.f_other_side sc_other_side (fun vs H Q E h => ?_) (fun f cdv A outer s H vs Q E hr h => ?_)
  · obtain ⟨c, rfl, hc, q⟩ := h; rfl
  · obtain ⟨c, rfl, hc, q⟩ := h
    refine ⟨_, (pss_cons (ps_if (pt_cmpR op_inT (pv 0) (C8.pe_gc rfl T.c_OPENING) (by rfl))
       (pss_one (ps_ret (pe_ix ix_txt (C8.pe_gc rfl T.c_CLOSING) (pe_own (ok_kind_of T) hr (by omega) rfl (pa_cons (pv 0) pa_nil)) (fun _ _ => rfl))))
       pss_nil)
       (pss_one (ps_ret (pe_ix ix_txt (C8.pe_gc rfl T.c_OPENING) (pe_own (ok_kind_of T) hr (by omega) rfl (pa_cons (pv 0) pa_nil)) (fun _ _ => rfl))))), ?_⟩
    rw [st_other_side]
    wtm_at "unf"
    wtm_at "go"
    refine g_test (fun h => ?_) (fun h => ?_)
    · wtm_at "go"
      refine ⟨c, rfl, hc, ?_⟩
      exact g_ixT (by decide) (atI_of (at_clo c h)) q
    · wtm_at "go"
      refine ⟨c, rfl, hc, ?_⟩
      exact g_ixT (by decide) (atI_of (at_opn c ((brk_or.mp hc).resolve_left h))) q
/-- a text's signs from behind, each bracket the other one of its kind -/
def oth1 (c : Nat) : Nat := if c ∈ BRK then oth c else c
def about (l : List Nat) : List Nat := (l.map oth1).reverse
theorem about_snoc (l : List Nat) (c : Nat) : about (l ++ [c]) = oth1 c :: about l := by
  unfold about
  rw [List.map_append, List.reverse_append]
  rfl
theorem about_len (l : List Nat) : (about l).length = l.length := by
  unfold about
  rw [List.length_reverse, List.length_map]
/-! turned_about -/
def sp_turned_about : Sp := fun vs H Q _ => ∃ l : List Nat, vs = [Tx l] ∧ l.length ≤ 1000 ∧ Q (Tx (about l)) H
theorem ok_turned_about (T : Facts K mg) : C8.Cal P w K mg base 3 "turned_about" sp_turned_about [] := by
  refine calD T.f_turned_about sc_turned_about (fun vs H Q E h => ?_) (fun f cdv A outer s H vs Q E hr h => ?_)
  · obtain ⟨l, rfl, hl, q⟩ := h; rfl
  · obtain ⟨l, rfl, hl, q⟩ := h
    refine ⟨_, (pss_cons (ps_set (i := 1) sc_turned_about.nd rfl (Or.inl rfl) (pe_strS (l := []) (by decide +kernel)))
       (pss_cons (ps_for PassesOwn.never rfl (pi_str (pv 0)) (pg_name (i := 2) sc_turned_about.nd rfl (Or.inl rfl))
       (C8.pss_cut (ps_if (pt_cmpR op_inT (pv 2) (C8.pe_gc rfl T.c_BRACKETS) (by rfl))
       (pss_one (ps_set (i := 2) sc_turned_about.nd rfl (Or.inl rfl) (pe_own (ok_other_side T) hr (by omega) rfl (pa_cons (pv 2) pa_nil))))
       pss_nil)
       (pss_one (ps_set (i := 1) sc_turned_about.nd rfl (Or.inl rfl) (pe_op op_addT (pv 2) (pv 1))))))
       (pss_one (ps_ret (pv 1))))), ?_⟩
    rw [st_turned_about]
    wtm_at "unf"
    wtm_at "lp"
    wtm_at "go"
    refine ⟨_, rfl, for_txt (fun pre σ H' => ∃ y, σ = [some (Tx l), some (Tx (about pre)), y] ∧ H' = H) ⟨_, rfl, rfl⟩ (fun pre c post σ H' e hv => ?_) (fun σ H' hv => ?_)⟩
    · obtain ⟨y, rfl, rfl⟩ := hv
      have hl2 : pre.length + 1 ≤ 1000 := by rw [e] at hl; simp at hl; omega
      wtm_at "unf"
      refine ⟨fun σ' H'' => σ' = [some (Tx l), some (Tx (about pre)), some (Tx [oth1 c])] ∧ H'' = H', ?_, ?_⟩
      · wtm_at "go"
        refine g_test (fun h => ?_) (fun h => ?_)
        · wtm_at "go"
          exact ⟨c, rfl, h, by rw [oth1, if_pos h], rfl⟩
        · exact ⟨by rw [oth1, if_neg h], rfl⟩
      · rintro σ' H'' ⟨rfl, rfl⟩
        wtm_at "go"
        refine g_addT (by rw [about_len]; simp; omega) ?_
        exact ⟨_, by rw [about_snoc]; rfl, rfl⟩
    · obtain ⟨y, rfl, rfl⟩ := hv
      wtm_at "unf"
      wtm_at "go"
      exact q
end
end K12

set_option maxHeartbeats 4000000
namespace K12
open PySem PySem.Spec PyProof.Rows L2 SX Ly
local macro_rules | `(tactic| wtm_at "unf") => `(tactic| (try simp only [tMetX, tOwnX, tChain, tSeq, tNext, tBreak, tCont, tDrop, tRet, tRetN, tIfS, tAsg, tAug, tC, tOp, tUn, tNil, tCons, tOwn, tCB, tTest, tB, tAnd, tOr, tNot, tAndV, tOrV, tNotV, tIf, gName, gSub, tBM, tBM0, tM0, tM1, tSl, tPart_eq, tNoPart, tLst_eq, tTup_eq, tRevL_eq, tReplT, tRevS, tDGet_eq, sDPut_eq, tDNewT_eq, tMet, tMak, tFld_eq, sFld_eq, C8.tCut, wipe, tYes, gTup, gCons, gNil, List.set_cons_zero, List.set_cons_succ, if_true, if_false, Bool.false_eq_true, Bool.not_true, Bool.not_false, true_and, reduceIte, cx_K, tFor_eq, tLc_eq, iStr, iList, iTup, iRng1, iRng2, iRng3, iEnum, iZip, iEnumS, iZipS]))
local macro_rules | `(tactic| wtm_at "ne") => `(tactic| first | assumption | (apply Ne.symm; assumption) | (apply ne_new; (· assumption); (· wtm_at "lk")) | (apply Ne.symm; apply ne_new; (· assumption); (· wtm_at "lk")))
local macro_rules | `(tactic| wtm_at "lk") => `(tactic| first | assumption | exact upd_same | (apply Same.get; (· assumption); (· wtm_at "lk")) | (apply But.get; (· assumption); (· wtm_at "ne"); (· wtm_at "lk")))
local macro_rules | `(tactic| wtm_at "sq") => `(tactic| first | assumption | (apply sq_of; wtm_at "lk") | (apply Same.seq; (· assumption); (· wtm_at "sq")) | (apply But.sq; (· assumption); (· wtm_at "ne"); (· wtm_at "sq")))
local macro_rules | `(tactic| wtm_at "fr") => `(tactic| first | assumption | (apply Same.fr; (· assumption); (· wtm_at "sm")) | (apply But.fr; (· assumption); (· wtm_at "sm"); (· wtm_at "ne")))
local macro_rules | `(tactic| wtm_at "sm") => `(tactic| first | exact Same.refl _ | exact But.refl | assumption | (apply Same.tr; (· assumption); (· wtm_at "sm")) | (apply Same.b0; (· assumption); (· wtm_at "sm"); (· wtm_at "fr")) | (apply But.sa; (· assumption); (· wtm_at "sm")) | (apply But.tr; (· assumption); (· wtm_at "sm")) | (apply But.b0; (· assumption); (· wtm_at "sm"); (· wtm_at "fr")) | (apply Same.toBut; wtm_at "sm"))
local macro_rules | `(tactic| wtm_at "sc") => `(tactic| first | exact Int.zero_lt_one | (show (0 : Int) < _; omega) | (show (0 : Int) < _; decide) | exact ⟨by omega, by omega⟩ | exact .inl ⟨by omega, by omega⟩ | exact .inr ⟨by omega, by omega⟩)
local macro_rules | `(tactic| wtm_at "go1") => `(tactic| first | ((with_reducible apply g_var); (· exact rfl)) | with_reducible apply g_I0 | ((with_reducible apply g_I); (· wtm_at "sc")) | with_reducible apply g_U | with_reducible apply g_ipI | ((with_reducible apply g_addT); (· first | omega | (simp; done) | (simp; omega))) | with_reducible apply g_inT | with_reducible apply g_ninT | ((with_reducible apply g_lenT); (· omega)) | with_reducible apply g_findT1 | with_reducible apply g_str | with_reducible apply g_part | with_reducible apply g_intB | ((with_reducible apply g_ixL); (· wtm_at "sq"); (· exact rfl)) | ((with_reducible apply g_setL); (· wtm_at "lk"); (· exact rfl)) | ((with_reducible apply g_eq); (· rfl)) | ((with_reducible apply g_ne); (· rfl)))
local macro_rules | `(tactic| wtm_at "go") => `(tactic| repeat wtm_at "go1")
local macro_rules | `(tactic| wtm_at "lp") => `(tactic| skip)
local macro_rules | `(tactic| wtm_at "om") => `(tactic| first | omega | (simp; done) | (simp; omega) | (simp at *; omega))
local macro_rules | `(tactic| wtm_at "ty") => `(tactic| first | exact ty_str | exact ty_int | exact ty_bl | exact ty_non | (apply ty_lst; wtm_at "lk") | (apply ty_tup; wtm_at "lk"))
local macro_rules | `(tactic| wtm_at "kb") => `(tactic| first | exact kb_str_str | exact kb_str_int | exact kb_str_bool | exact kb_str_list | exact kb_str_tuple | exact kb_int_str | exact kb_int_int | exact kb_int_bool | exact kb_int_list | exact kb_int_tuple | exact kb_bool_str | exact kb_bool_int | exact kb_bool_bool | exact kb_bool_list | exact kb_bool_tuple | exact kb_list_str | exact kb_list_int | exact kb_list_bool | exact kb_list_list | exact kb_list_tuple | exact kb_tuple_str | exact kb_tuple_int | exact kb_tuple_bool | exact kb_tuple_list | exact kb_tuple_tuple | exact kb_NoneType_str | exact kb_NoneType_int | exact kb_NoneType_bool | exact kb_NoneType_list | exact kb_NoneType_tuple | exact kb_dict_str | exact kb_dict_int | exact kb_dict_bool | exact kb_dict_list | exact kb_dict_tuple)
local macro_rules | `(tactic| wtm_at "gx1") => `(tactic| first | ((with_reducible apply g_eqS); (· exact rfl)) | ((with_reducible apply g_neS); (· exact rfl)) | wtm_at "go1" | with_reducible apply g_min2 | with_reducible apply g_max2 | with_reducible apply g_T | with_reducible apply g_F | with_reducible apply g_NT | with_reducible apply g_NF | with_reducible apply g_nT | with_reducible apply g_nF | with_reducible apply g_RT | with_reducible apply g_RF | ((with_reducible apply g_isi); (· wtm_at "ty"); (· wtm_at "kb")) | ((with_reducible apply g_ixAU3); (· wtm_at "lk"); (· exact rfl)) | ((with_reducible apply g_ixAL3); (· wtm_at "lk"); (· exact rfl)) | ((with_reducible apply g_ixU3); (· wtm_at "lk"); (· exact rfl)) | ((with_reducible apply g_lenL3); (· wtm_at "lk")) | ((with_reducible apply g_lenU3); (· wtm_at "lk")) | ((with_reducible apply g_tyL3); (· wtm_at "lk")) | ((with_reducible apply g_lenT); (· wtm_at "pv")) | wtm_at "tr" | with_reducible apply g_ET | with_reducible apply g_EF | with_reducible apply g_EnT | with_reducible apply g_EnF)
local macro_rules | `(tactic| wtm_at "pv") => `(tactic| first | exact rfl | assumption | omega | (simp; done) | (simp; omega))
local macro_rules | `(tactic| wtm_at "tr") => `(tactic| first | ((with_reducible apply g_Td); (· wtm_at "pv")) | ((with_reducible apply g_Fd); (· wtm_at "pv")) | ((with_reducible apply g_NTd); (· wtm_at "pv")) | ((with_reducible apply g_NFd); (· wtm_at "pv")) | ((with_reducible apply g_nTd); (· wtm_at "pv")) | ((with_reducible apply g_nFd); (· wtm_at "pv")) | ((with_reducible apply g_RTd); (· wtm_at "pv")) | ((with_reducible apply g_RFd); (· wtm_at "pv")))
local macro_rules | `(tactic| wtm_at "gx") => `(tactic| repeat wtm_at "gx1")

section
variable {P : Program} {w : World} {K : PySem.W.Frag} {mg : Str → Option Value} {base : Heap}
/-! _law_sign -/
/-! _law_clean -/
def sp_law_clean : Sp := fun vs H Q _ => ∃ (p : Addr) (P0 : Pt) (m : Nat), vs = [.ref p, .int m] ∧ H p = some P0.o ∧ m ≤ 1000 ∧ ∀ (l : List Nat) (P1 : Pt) (H' : Hp), (∀ c ∈ l, isSg c) → l.length ≤ m → clean l → But p H H' → H' p = some P1.o → Q (Tx l) H'
theorem ok_law_clean (T : Facts K mg) : C8.Cal P w K mg base 3 "_law_clean" sp_law_clean [] := by
  refine calD T.f_law_clean sc_law_clean (fun vs H Q E h => ?_) (fun f cdv A outer s H vs Q E hr h => ?_)
  · obtain ⟨p, P0, m, rfl, hp, hm, q⟩ := h; rfl
  · obtain ⟨p, P0, m, rfl, hp, hm, q⟩ := h
    refine ⟨_, (pss_cons (ps_set (i := 2) sc_law_clean.nd rfl (Or.inl rfl) (pe_strS (l := []) (by decide +kernel)))
       (pss_cons (ps_set (i := 3) sc_law_clean.nd rfl (Or.inl rfl) (pe_lst pa_nil))
       (pss_cons (ps_set (i := 4) sc_law_clean.nd rfl (Or.inl rfl) (pe_lst (pa_cons (pe_op op_add pe_int (pe_own (ok_law_take T) hr (by omega) rfl (pa_cons (pv 0) (pa_cons pe_int pa_nil)))) (pa_cons (pe_op op_add pe_int (pe_own (ok_law_take T) hr (by omega) rfl (pa_cons (pv 0) (pa_cons pe_int pa_nil)))) pa_nil))))
       (pss_cons (ps_set (i := 5) sc_law_clean.nd rfl (Or.inl rfl) (pv 1))
       (pss_cons (ps_while PassesOwn.never (pt_cmpR op_gt (pv 5) pe_int (nomark _))
       (pss_cons (ps_set (i := 6) sc_law_clean.nd rfl (Or.inl rfl) (pe_own (ok_law_take T) hr (by omega) rfl (pa_cons (pv 0) (pa_cons (pe_op op_add (pe_op op_add pe_int (pe_ix ix_list (pv 4) pe_int (fun _ _ => rfl))) (pe_ix ix_list (pv 4) pe_int (fun _ _ => rfl))) pa_nil))))
       (pss_one (ps_if (pt_cmpR op_eq (pv 6) pe_int (nomark _))
       (pss_cons (ps_set (i := 2) sc_law_clean.nd rfl (Or.inl rfl) (pe_op op_addT (pv 2) (pe_ix ix_txt (pe_strS (l := LET) (by decide +kernel)) (pe_own (ok_law_take T) hr (by omega) rfl (pa_cons (pv 0) (pa_cons pe_int pa_nil))) (fun _ _ => rfl))))
       (pss_one (ps_set (i := 5) sc_law_clean.nd rfl (Or.inl rfl) (pe_op op_sub (pv 5) pe_int))))
       (pss_one (ps_ifC (PW.pt (pw_and (pt_cmpR op_le (pv 6) (pe_ix ix_list (pv 4) pe_int (fun _ _ => rfl)) (nomark _)) (pw_and1 (pt_cmpR op_gt (pv 5) pe_int (nomark _)))))
       (pss_cons (ps_set (i := 7) sc_law_clean.nd rfl (Or.inl rfl) (pe_own (ok_law_take T) hr (by omega) rfl (pa_cons (pv 0) (pa_cons pe_int pa_nil))))
       (pss_cons (ps_set (i := 2) sc_law_clean.nd rfl (Or.inl rfl) (pe_op op_addT (pv 2) (pe_ix ix_txt (pe_strS (l := OPN) (by decide +kernel)) (pv 7) (fun _ _ => rfl))))
       (pss_cons (ps_expr (pe_bm PySem.F.plainAttrs_list PySem.F.slot_list_append PySem.F.type_list_append mt_append (pv 3) (pa_cons (pe_ix ix_txt (pe_strS (l := CLO) (by decide +kernel)) (pv 7) (fun _ _ => rfl)) pa_nil)))
       (pss_one (ps_set (i := 5) sc_law_clean.nd rfl (Or.inl rfl) (pe_op op_sub (pv 5) pe_int))))))
       (pss_one (ps_if (pt_cmpR (op_neD hr.units) (pv 3) (pe_lst pa_nil) (nomark _))
       (pss_one (ps_set (i := 2) sc_law_clean.nd rfl (Or.inl rfl) (pe_op op_addT (pv 2) (pe_bm0 PySem.F.plainAttrs_list PySem.F.slot_list_pop PySem.F.type_list_pop mt_pop (pv 3)))))
       (pss_one (ps_set (i := 5) sc_law_clean.nd rfl (Or.inl rfl) (pe_op op_sub (pv 5) pe_int)))))))))))
       (pss_one (ps_ret (pe_op op_addT (pv 2) (pe_m1 PySem.F.slot_str_join PySem.F.type_str_join mt_joinT (pe_strS (l := []) (by decide +kernel)) (pe_revL (pv 3))))))))))), ?_⟩
    rw [st_law_clean]
    wtm_at "unf"
    wtm_at "go"
    refine g_lst (by show 0 ≤ 100000; decide) fun wa H1 nwa s1 ewa => ?_
    wtm_at "go"
    refine ⟨p, P0, 4, rfl, by wtm_at "lk", by decide, by decide, fun a P2 H2 a0 a1 b2 e2 => ?_⟩
    wtm_at "go"
    refine ⟨p, P2, 3, rfl, e2, by decide, by decide, fun b P3 H3 b0 b1 b3 e3 => ?_⟩
    wtm_at "go"
    refine g_lst (by show 2 ≤ 100000; decide) fun sh H4 nsh s4 esh => ?_
    wtm_at "go"
    have hwp : wa ≠ p := by wtm_at "ne"
    have hw4 : H4 wa = some (.lst []) := by wtm_at "lk"
    have hp4 : H4 p = some P3.o := by wtm_at "lk"
    have hsw : sh ≠ wa := by wtm_at "ne"
    have hsp : sh ≠ p := by wtm_at "ne"
    have b4 : But p H H4 := by wtm_at "sm"
    have nsh0 : H sh = none := by wtm_at "fr"
    refine g_while (fun k σ H' => ∃ (t w : List Nat) (left : Nat) (y6 y7 : Option V) (P5 : Pt), σ = [some (V.ref p), some (V.int m), some (Tx t), some (V.ref wa), some (V.ref sh), some (V.int left), y6, y7] ∧ k = 2 * left + w.length ∧
      t.length + w.length + left ≤ m ∧ (∀ c ∈ t, isSg c) ∧ (∀ c ∈ w, c ∈ CLO) ∧ run t = some w.reverse ∧ H' wa = some (.lst (sgV w)) ∧ H' sh = some (.lst [.int (1 + a), .int (1 + b)]) ∧ H' p = some P5.o ∧ But p H H') (2 * m) ⟨[], [], m, none, none, P3, rfl, by simp, by simp, by simp, by simp, rfl, hw4, esh, hp4, b4⟩ (fun k σ H' hv => ?_)
    obtain ⟨t, w, left, y6, y7, P5, rfl, rfl, hlen, ht, hw, hrun, ew, es, ep, bH⟩ := hv
    wtm_at "unf"
    wtm_at "go"
    refine g_test (fun h => ?_) (fun h => ?_)
    · refine g_whb ?_
      wtm_at "unf"
      wtm_at "go"
      refine ⟨p, P5, _, rfl, ep, by omega, by omega, fun r P6 H6 r0 r1 b6 e6 => ?_⟩
      wtm_at "go"
      have ew6 : H6 wa = some (.lst (sgV w)) := by wtm_at "lk"
      have es6 : H6 sh = some (.lst [.int (1 + a), .int (1 + b)]) := by wtm_at "lk"
      refine g_test (fun h1 => ?_) (fun h1 => ?_)
      · wtm_at "go"
        refine ⟨p, P6, 26, rfl, e6, by decide, by decide, fun x P7 H7 x0 x1 b7 e7 => ?_⟩
        obtain ⟨z, rfl⟩ := Int.eq_ofNat_of_zero_le x0
        have hz2 : z < LET.length := by show z < 26; omega
        refine g_ixT (by decide) (atI_of (List.getElem?_eq_getElem hz2)) ?_
        wtm_at "go"
        have hmem : LET[z] ∈ LET := List.getElem_mem hz2
        refine ⟨2 * (left - 1) + w.length, by omega, t ++ [LET[z]], w, left - 1, _, _, P7, by rw [show ((left - 1 : Nat) : Int) = (left : Int) - 1 by omega], rfl, by simp; omega, ?_, hw, ?_, by wtm_at "lk", by wtm_at "lk", e7, by wtm_at "sm"⟩
        · intro c hc
          rcases List.mem_append.mp hc with hc | hc
          · exact ht c hc
          · rw [List.mem_singleton] at hc
            subst hc
            exact .inl hmem
        · rw [run_snoc, hrun, stp_let (let_opn _ hmem) (let_clo _ hmem)]
      · wtm_at "go"
        refine g_ifC (b := decide (r ≤ 1 + a) && decide ((1 : Int) < left)) (fun Q q => ?_) (fun h2 => ?_) (fun h2 => ?_)
        · wtm_at "unf"
          wtm_at "go"
          refine g_test (fun h => ?_) (fun h => ?_)
          · wtm_at "go"
            refine ⟨_, rfl, ?_⟩
            rw [decide_eq_true h, Bool.true_and] at q
            exact q
          · rw [decide_eq_false h, Bool.false_and] at q
            exact q
        · have h3 : 1 < left := by simp at h2; omega
          wtm_at "unf"
          wtm_at "go"
          refine ⟨p, P6, 4, rfl, e6, by decide, by decide, fun x P7 H7 x0 x1 b7 e7 => ?_⟩
          obtain ⟨z, rfl⟩ := Int.eq_ofNat_of_zero_le x0
          obtain ⟨c, ec, ed, hco, hdc⟩ := opn_at (z := z) (by omega)
          wtm_at "go"
          refine g_ixT (by decide) (atI_of ec) ?_
          wtm_at "go"
          refine ⟨g_tyL (sq_of (show H7 wa = some (.lst (sgV w)) by wtm_at "lk")), ?_⟩
          wtm_at "go"
          refine g_ixT (by decide) (atI_of ed) ?_
          refine g_append1 (show H7 wa = some (.lst (sgV w)) by wtm_at "lk") (by rw [sgV_len]; omega) fun H8 b8 e8 => ?_
          wtm_at "go"
          rw [← sgV_snoc] at e8
          refine ⟨2 * (left - 2) + (w.length + 1), by omega, t ++ [c], w ++ [oth c], left - 2, _, _, P7, by rw [show ((left - 2 : Nat) : Int) = (left : Int) - 2 by omega] <;> rfl, by simp, by simp; omega, ?_, ?_, ?_, e8, by wtm_at "lk", by wtm_at "lk", by wtm_at "sm"⟩
          · intro d hd
            rcases List.mem_append.mp hd with hd | hd
            · exact ht d hd
            · rw [List.mem_singleton] at hd
              subst hd
              exact .inr (brk_or.mpr (.inl hco))
          · intro d hd
            rcases List.mem_append.mp hd with hd | hd
            · exact hw d hd
            · rw [List.mem_singleton] at hd
              subst hd
              exact hdc
          · rw [run_snoc, hrun, stp_opn hco]
            simp
        · wtm_at "unf"
          wtm_at "go"
          refine g_lst (by show 0 ≤ 100000; decide) fun em H7 nem s7 eem => ?_
          refine g_neNilS (sq_of (Same.get s7 ew6)) (fun c hc => sg_lt (.inr (brk_or.mpr (.inr (hw c hc))))) (sq_of eem) ?_
          refine g_testN (fun h4 => ?_) (fun h4 => ?_)
          · obtain ⟨w', c, rfl⟩ : ∃ w' c, w = w' ++ [c] := ⟨w.dropLast, w.getLast h4, (List.dropLast_concat_getLast h4).symm⟩
            rw [sgV_snoc] at ew6
            wtm_at "go"
            refine g_pop (Same.get s7 ew6) fun H8 b8 e8 => ?_
            wtm_at "go"
            have hc : c ∈ CLO := hw c (by simp)
            simp only [List.length_append, List.length_singleton] at hlen
            refine ⟨2 * left + w'.length, by wtm_at "om", t ++ [c], w', left, _, _, P6, rfl, rfl, by simp; omega, ?_, fun d hd => hw d (by simp [hd]), ?_, e8, by wtm_at "lk", by wtm_at "lk", by wtm_at "sm"⟩
            · intro d hd
              rcases List.mem_append.mp hd with hd | hd
              · exact ht d hd
              · rw [List.mem_singleton] at hd
                subst hd
                exact .inr (brk_or.mpr (.inr hc))
            · rw [run_snoc, hrun, List.reverse_append]
              exact stp_clo hc
          · subst h4
            wtm_at "go"
            exact ⟨2 * (left - 1), by wtm_at "om", t, [], left - 1, _, _, P6, by rw [show ((left - 1 : Nat) : Int) = (left : Int) - 1 by omega], by simp, by simp at hlen ⊢; omega, ht, hw, hrun, by wtm_at "lk", by wtm_at "lk", by wtm_at "lk", by wtm_at "sm"⟩
    · wtm_at "unf"
      wtm_at "go"
      refine g_revL (sq_of ew) fun rv H6 nrv s6 erv => ?_
      rw [sgV_rev] at erv
      refine g_join0 (l := w.reverse) (sq_of erv) (by wtm_at "om") ?_
      wtm_at "go"
      refine q (t ++ w.reverse) P5 H6 ?_ (by wtm_at "om") ?_ (by wtm_at "sm") (by wtm_at "lk")
      · intro d hd
        rcases List.mem_append.mp hd with hd | hd
        · exact ht d hd
        · exact .inr (brk_or.mpr (.inr (hw d (by simpa using hd))))
      · show Ly.run _ = some []
        rw [run_app, hrun]
        exact fold_clo _ fun d hd => hw d (by simpa using hd)
/-! _law_bent -/
/-! _law_text -/
end
end K12

set_option maxHeartbeats 4000000
namespace K12
open PySem PySem.Spec PyProof.Rows L2 SX Ly
local macro_rules | `(tactic| wtm_at "unf") => `(tactic| (try simp only [tMetX, tOwnX, tChain, tSeq, tNext, tBreak, tCont, tDrop, tRet, tRetN, tIfS, tAsg, tAug, tC, tOp, tUn, tNil, tCons, tOwn, tCB, tTest, tB, tAnd, tOr, tNot, tAndV, tOrV, tNotV, tIf, gName, gSub, tBM, tBM0, tM0, tM1, tSl, tPart_eq, tNoPart, tLst_eq, tTup_eq, tRevL_eq, tReplT, tRevS, tDGet_eq, sDPut_eq, tDNewT_eq, tMet, tMak, tFld_eq, sFld_eq, C8.tCut, wipe, tYes, gTup, gCons, gNil, List.set_cons_zero, List.set_cons_succ, if_true, if_false, Bool.false_eq_true, Bool.not_true, Bool.not_false, true_and, reduceIte, cx_K, tFor_eq, tLc_eq, iStr, iList, iTup, iRng1, iRng2, iRng3, iEnum, iZip, iEnumS, iZipS]))
local macro_rules | `(tactic| wtm_at "ne") => `(tactic| first | assumption | (apply Ne.symm; assumption) | (apply ne_new; (· assumption); (· wtm_at "lk")) | (apply Ne.symm; apply ne_new; (· assumption); (· wtm_at "lk")))
local macro_rules | `(tactic| wtm_at "lk") => `(tactic| first | assumption | exact upd_same | (apply Same.get; (· assumption); (· wtm_at "lk")) | (apply But.get; (· assumption); (· wtm_at "ne"); (· wtm_at "lk")))
local macro_rules | `(tactic| wtm_at "sq") => `(tactic| first | assumption | (apply sq_of; wtm_at "lk") | (apply Same.seq; (· assumption); (· wtm_at "sq")) | (apply But.sq; (· assumption); (· wtm_at "ne"); (· wtm_at "sq")))
local macro_rules | `(tactic| wtm_at "fr") => `(tactic| first | assumption | (apply Same.fr; (· assumption); (· wtm_at "sm")) | (apply But.fr; (· assumption); (· wtm_at "sm"); (· wtm_at "ne")))
local macro_rules | `(tactic| wtm_at "sm") => `(tactic| first | exact Same.refl _ | exact But.refl | assumption | (apply Same.tr; (· assumption); (· wtm_at "sm")) | (apply Same.b0; (· assumption); (· wtm_at "sm"); (· wtm_at "fr")) | (apply But.sa; (· assumption); (· wtm_at "sm")) | (apply But.tr; (· assumption); (· wtm_at "sm")) | (apply But.b0; (· assumption); (· wtm_at "sm"); (· wtm_at "fr")) | (apply Same.toBut; wtm_at "sm"))
local macro_rules | `(tactic| wtm_at "sc") => `(tactic| first | exact Int.zero_lt_one | (show (0 : Int) < _; omega) | (show (0 : Int) < _; decide) | exact ⟨by omega, by omega⟩ | exact .inl ⟨by omega, by omega⟩ | exact .inr ⟨by omega, by omega⟩)
local macro_rules | `(tactic| wtm_at "go1") => `(tactic| first | ((with_reducible apply g_var); (· exact rfl)) | with_reducible apply g_I0 | ((with_reducible apply g_I); (· wtm_at "sc")) | with_reducible apply g_U | with_reducible apply g_ipI | ((with_reducible apply g_addT); (· first | omega | (simp; done) | (simp; omega))) | with_reducible apply g_inT | with_reducible apply g_ninT | ((with_reducible apply g_lenT); (· omega)) | with_reducible apply g_findT1 | with_reducible apply g_str | with_reducible apply g_part | with_reducible apply g_intB | ((with_reducible apply g_ixL); (· wtm_at "sq"); (· exact rfl)) | ((with_reducible apply g_setL); (· wtm_at "lk"); (· exact rfl)) | ((with_reducible apply g_eq); (· rfl)) | ((with_reducible apply g_ne); (· rfl)))
local macro_rules | `(tactic| wtm_at "go") => `(tactic| repeat wtm_at "go1")
local macro_rules | `(tactic| wtm_at "lp") => `(tactic| skip)
local macro_rules | `(tactic| wtm_at "om") => `(tactic| first | omega | (simp; done) | (simp; omega) | (simp at *; omega))
local macro_rules | `(tactic| wtm_at "ty") => `(tactic| first | exact ty_str | exact ty_int | exact ty_bl | exact ty_non | (apply ty_lst; wtm_at "lk") | (apply ty_tup; wtm_at "lk"))
local macro_rules | `(tactic| wtm_at "kb") => `(tactic| first | exact kb_str_str | exact kb_str_int | exact kb_str_bool | exact kb_str_list | exact kb_str_tuple | exact kb_int_str | exact kb_int_int | exact kb_int_bool | exact kb_int_list | exact kb_int_tuple | exact kb_bool_str | exact kb_bool_int | exact kb_bool_bool | exact kb_bool_list | exact kb_bool_tuple | exact kb_list_str | exact kb_list_int | exact kb_list_bool | exact kb_list_list | exact kb_list_tuple | exact kb_tuple_str | exact kb_tuple_int | exact kb_tuple_bool | exact kb_tuple_list | exact kb_tuple_tuple | exact kb_NoneType_str | exact kb_NoneType_int | exact kb_NoneType_bool | exact kb_NoneType_list | exact kb_NoneType_tuple | exact kb_dict_str | exact kb_dict_int | exact kb_dict_bool | exact kb_dict_list | exact kb_dict_tuple)
local macro_rules | `(tactic| wtm_at "gx1") => `(tactic| first | ((with_reducible apply g_eqS); (· exact rfl)) | ((with_reducible apply g_neS); (· exact rfl)) | wtm_at "go1" | with_reducible apply g_min2 | with_reducible apply g_max2 | with_reducible apply g_T | with_reducible apply g_F | with_reducible apply g_NT | with_reducible apply g_NF | with_reducible apply g_nT | with_reducible apply g_nF | with_reducible apply g_RT | with_reducible apply g_RF | ((with_reducible apply g_isi); (· wtm_at "ty"); (· wtm_at "kb")) | ((with_reducible apply g_ixAU3); (· wtm_at "lk"); (· exact rfl)) | ((with_reducible apply g_ixAL3); (· wtm_at "lk"); (· exact rfl)) | ((with_reducible apply g_ixU3); (· wtm_at "lk"); (· exact rfl)) | ((with_reducible apply g_lenL3); (· wtm_at "lk")) | ((with_reducible apply g_lenU3); (· wtm_at "lk")) | ((with_reducible apply g_tyL3); (· wtm_at "lk")) | ((with_reducible apply g_lenT); (· wtm_at "pv")) | wtm_at "tr" | with_reducible apply g_ET | with_reducible apply g_EF | with_reducible apply g_EnT | with_reducible apply g_EnF)
local macro_rules | `(tactic| wtm_at "pv") => `(tactic| first | exact rfl | assumption | omega | (simp; done) | (simp; omega))
local macro_rules | `(tactic| wtm_at "tr") => `(tactic| first | ((with_reducible apply g_Td); (· wtm_at "pv")) | ((with_reducible apply g_Fd); (· wtm_at "pv")) | ((with_reducible apply g_NTd); (· wtm_at "pv")) | ((with_reducible apply g_NFd); (· wtm_at "pv")) | ((with_reducible apply g_nTd); (· wtm_at "pv")) | ((with_reducible apply g_nFd); (· wtm_at "pv")) | ((with_reducible apply g_RTd); (· wtm_at "pv")) | ((with_reducible apply g_RFd); (· wtm_at "pv")))
local macro_rules | `(tactic| wtm_at "gx") => `(tactic| repeat wtm_at "gx1")

section
variable {P : Program} {w : World} {K : PySem.W.Frag} {mg : Str → Option Value} {base : Heap}
def optV : Option Nat → V
  | none => .non
  | some n => .int n
def mtV (f : List (Option Nat)) : List V := f.map optV
def wsV (ws : List Nat) : List V := ws.reverse.map fun (n : Nat) => V.int (n : Int)
theorem wsV_cons (j : Nat) (w : List Nat) : wsV (j :: w) = wsV w ++ [V.int j] := by
  unfold wsV
  rw [List.reverse_cons, List.map_append]
  rfl
theorem wsV_len (w : List Nat) : (wsV w).length = w.length := by
  unfold wsV
  rw [List.length_map, List.length_reverse]
theorem mtV_len (f : List (Option Nat)) : (mtV f).length = f.length := by
  unfold mtV
  rw [List.length_map]
theorem flat_wsV (w : List Nat) : ∀ v ∈ wsV w, Flat v := by
  intro v hv
  obtain ⟨n, _, rfl⟩ := List.mem_map.mp hv
  exact flat_int _
theorem ws_lt {l pre post : List Nat} {c : Nat} (e : l = pre ++ c :: post) : PInv l pre.length (pst l pre).1 (pst l pre).2 := by
  have h := pinv_all l pre.length (by rw [e]; simp)
  have e2 : l.take pre.length = pre := by rw [e]; simp
  rw [e2] at h
  exact h
theorem pstep_len (l : List Nat) (s : List (Option Nat) × List Nat) (i c : Nat) : (pstep l s i c).2.length ≤ s.2.length + 1 := by
  obtain ⟨f, ws⟩ := s
  unfold pstep
  split
  · simp
  · split
    · cases ws with
      | nil => simp
      | cons j w =>
        show (if l[j]? = some (oth c) then _ else _ : List (Option Nat) × List Nat).2.length ≤ _
        split
        · simp; omega
        · simp
    · simp
theorem mtV_set (f : List (Option Nat)) (i j : Nat) : mtV (f.set i (some j)) = (mtV f).set i (V.int j) := by
  unfold mtV
  rw [List.map_set]
  rfl
def topM (l ws : List Nat) (c : Nat) : Bool := match ws with
  | [] => false
  | j :: _ => decide (l[j]? = some (oth c))
theorem atI_last1 {α : Type} (xs : List α) (x : α) : atI (xs ++ [x]) (-1) = some x := L2.atI_last xs x
/-! partners -/
def sp_partners : Sp := fun vs H Q _ => ∃ l : List Nat, vs = [Tx l] ∧ l.length ≤ 1000 ∧ ∀ (p : Addr) (H' : Hp), H p = none → Same H H' → H' p = some (.lst (mtV (mates l))) → Q (.ref p) H'
theorem ok_partners (T : Facts K mg) : C8.Cal P w K mg base 3 "partners" sp_partners [] := by
  refine calD T.f_partners sc_partners (fun vs H Q E h => ?_) (fun f cdv A outer s H vs Q E hr h => ?_)
  · obtain ⟨l, rfl, hl, q⟩ := h; rfl
  · obtain ⟨l, rfl, hl, q⟩ := h
    refine ⟨_, (pss_cons (ps_set (i := 1) sc_partners.nd rfl (Or.inl rfl) (pe_op op_rep (pe_lst (pa_cons pe_non pa_nil)) (pe_callB call_lenT rfl T.b_len PySem.boot_len (pa_cons (pv 0) pa_nil))))
       (pss_cons (ps_set (i := 2) sc_partners.nd rfl (Or.inl rfl) (pe_lst pa_nil))
       (pss_cons (ps_for PassesOwn.never rfl (pi_enumS rfl T.b_enumerate (pa_cons (pv 0) pa_nil)) (pg_tup rfl (pgs_cons (pg_name (i := 3) sc_partners.nd rfl (Or.inl rfl)) (pgs_cons (pg_name (i := 4) sc_partners.nd rfl (Or.inl rfl)) pgs_nil)))
       (pss_one (ps_if (pt_cmpR op_inT (pv 4) (C8.pe_gc rfl T.c_OPENING) (by rfl))
       (pss_one (ps_expr (pe_bm PySem.F.plainAttrs_list PySem.F.slot_list_append PySem.F.type_list_append mt_append (pv 2) (pa_cons (pv 3) pa_nil))))
       (pss_one (ps_if (pt_cmpR op_inT (pv 4) (C8.pe_gc rfl T.c_CLOSING) (by rfl))
       (pss_one (ps_ifC (PW.pt (pw_and (pt_cmpR (op_neD hr.units) (pv 2) (pe_lst pa_nil) (nomark _)) (pw_and1 (pt_cmpR op_eq (pe_ix ix_txt (pv 0) (pe_ix ix_list (pv 2) (pe_un un_neg pe_int) (fun _ _ => rfl)) (fun _ _ => rfl)) (pe_own (ok_other_side T) hr (by omega) rfl (pa_cons (pv 4) pa_nil)) (nomark _)))))
       (pss_cons (ps_asg (pe_bm0 PySem.F.plainAttrs_list PySem.F.slot_list_pop PySem.F.type_list_pop mt_pop (pv 2)) (pg_sub (pv 1) (pv 3) set_list))
       (pss_one (ps_asg (pv 3) (pg_sub (pv 1) (pe_ix ix_list (pv 1) (pv 3) (fun _ _ => rfl)) set_list))))
       (pss_one (ps_set (i := 2) sc_partners.nd rfl (Or.inl rfl) (pe_lst pa_nil)))))
       pss_nil)))))
       (pss_one (ps_ret (pv 1)))))), ?_⟩
    rw [st_partners]
    wtm_at "unf"
    wtm_at "go"
    refine g_lst (by show 1 ≤ 100000; decide) fun c0 H0 n0 s0 e0 => ?_
    wtm_at "go"
    refine g_rep e0 (by simp; omega) (by omega) fun fa H1 nfa s1 efa => ?_
    wtm_at "go"
    refine g_lst (by show 0 ≤ 100000; decide) fun wa H2 nwa s2 ewa => ?_
    have efa' : H1 fa = some (.lst (mtV (List.replicate l.length none))) := by
      rw [efa]
      unfold mtV
      congr 2
      have : ∀ n, (List.replicate n [V.non]).flatten = (List.replicate n none).map optV := by
        intro n
        induction n with
        | zero => rfl
        | succ n ih => rw [List.replicate_succ, List.flatten_cons, ih, List.replicate_succ]; rfl
      exact this _
    have hfw : fa ≠ wa := by wtm_at "ne"
    have nf0 : H fa = none := by wtm_at "fr"
    have nw0 : H wa = none := by wtm_at "fr"
    wtm_at "go"
    refine ⟨_, rfl, for_enumS (fun pre σ H' => ∃ (wa : Addr) (y z : Option V), σ = [some (Tx l), some (V.ref fa), some (V.ref wa), y, z] ∧ H wa = none ∧ fa ≠ wa ∧ H' fa = some (.lst (mtV (pst l pre).1)) ∧ H' wa = some (.lst (wsV (pst l pre).2)) ∧ Same H H' ∧ (pst l pre).2.length ≤ pre.length)
      ⟨wa, _, _, rfl, nw0, hfw, by wtm_at "lk", ewa, by wtm_at "sm", Nat.le_refl _⟩ (fun pre c post σ H' t H'' e hv nt st et => ?_) (fun σ H' hv => ?_)⟩
    · obtain ⟨wa, y, z, rfl, nw, hne, ef, ew, sH, hwl⟩ := hv
      have I := ws_lt e
      have hsl := pstep_len l (pst l pre) pre.length c
      have hpl : pre.length < l.length := by rw [e]; simp
      have hfl : (pst l pre).1.length = l.length := I.len
      have nt0 : H t = none := by wtm_at "fr"
      have ef2 : H'' fa = some (.lst (mtV (pst l pre).1)) := by wtm_at "lk"
      have ew2 : H'' wa = some (.lst (wsV (pst l pre).2)) := by wtm_at "lk"
      have sH2 : Same H H'' := by wtm_at "sm"
      wtm_at "unf"
      refine ⟨t, _, rfl, st_of et, rfl, _, _, rfl, _, _, rfl, rfl, ?_⟩
      wtm_at "go"
      rw [pst_snoc]
      refine g_test (fun h => ?_) (fun h => ?_)
      · wtm_at "go"
        refine ⟨g_tyL (sq_of ew2), ?_⟩
        wtm_at "go"
        refine g_append1 ew2 (by rw [wsV_len]; omega) fun H3 b3 e3 => ?_
        have es : pstep l (pst l pre) pre.length c = ((pst l pre).1, pre.length :: (pst l pre).2) := by unfold pstep; simp only [h, if_true]
        rw [es]
        exact ⟨wa, _, _, rfl, nw, hne, by wtm_at "lk", by rw [wsV_cons]; exact e3, by wtm_at "sm", by simp; omega⟩
      · wtm_at "go"
        refine g_test (fun h2 => ?_) (fun h2 => ?_)
        · have hb : c ∈ BRK := brk_or.mpr (.inr h2)
          have hws : ∃ ws, (pst l pre).2 = ws := ⟨_, rfl⟩
          obtain ⟨ws, ews⟩ := hws
          obtain ⟨f0, ef0⟩ : ∃ f0, (pst l pre).1 = f0 := ⟨_, rfl⟩
          have epst : pst l pre = (f0, ws) := by rw [← ews, ← ef0]
          rw [epst] at ef2 ew2 hsl hfl ⊢
          rw [ews] at hwl
          rw [epst] at I
          have hfl' : f0.length = l.length := hfl
          refine g_ifH (b := topM l ws c) (G := fun H3 => Same H'' H3) (fun Q q => ?_) (fun H3 s3 hb3 => ?_) (fun H3 s3 hb3 => ?_)
          · wtm_at "unf"
            wtm_at "go"
            refine g_lst (by show 0 ≤ 100000; decide) fun em H3 nem s3 eem => ?_
            refine g_neNil (sq_of (Same.get s3 ew2)) (flat_wsV _) (sq_of eem) ?_
            refine g_testB (fun h4 => ?_) (fun h4 => ?_)
            · cases ws with
              | nil => simp [wsV] at h4
              | cons j w =>
                obtain ⟨hjn, cj, hcj, hcjo⟩ := I.opn j (List.mem_cons_self ..)
                rw [wsV_cons] at ew2
                wtm_at "go"
                refine g_ixL (sq_of (Same.get s3 ew2)) (atI_last1 _ _) ?_
                refine g_ixT (by omega) (atI_of hcj) ?_
                wtm_at "go"
                refine ⟨c, rfl, hb, ?_⟩
                wtm_at "go"
                refine ⟨_, rfl, ?_⟩
                have hh : decide (Tx [cj] = Tx [oth c]) = topM l (j :: w) c := by
                  show _ = decide (l[j]? = some (oth c))
                  rw [decide_eq_decide, Tx_inj, hcj]
                  simp
                rw [hh]
                exact q H3 s3
            · cases ws with
              | cons j w => simp [wsV] at h4
              | nil =>
                exact q H3 s3
          · obtain ⟨j, w, rfl, hj⟩ : ∃ j w, ws = j :: w ∧ l[j]? = some (oth c) := by
              cases ws with
              | nil => cases hb3
              | cons j w => exact ⟨j, w, rfl, of_decide_eq_true hb3⟩
            have es : pstep l (f0, j :: w) pre.length c = ((f0.set pre.length (some j)).set j (some pre.length), w) := by unfold pstep; simp only [h, h2, hj, if_true, if_false]
            rw [es]
            have hjn : j < pre.length := (I.opn j (List.mem_cons_self ..)).1
            rw [wsV_cons] at ew2
            wtm_at "unf"
            wtm_at "go"
            refine g_pop (Same.get s3 ew2) fun H4 b4 e4 => ?_
            have ef4 : H4 fa = some (.lst (mtV f0)) := by wtm_at "lk"
            wtm_at "go"
            refine g_setL (n := pre.length) ef4 (by rw [mtV_len]; exact ixN_nat (by omega)) fun H5 b5 e5 => ?_
            have e5' : H5 fa = some (.lst (mtV (f0.set pre.length (some j)))) := by
              rw [e5, mtV_set]
            have hget : (mtV (f0.set pre.length (some j)))[pre.length]? = some (V.int j) := by
              unfold mtV
              rw [List.getElem?_map, List.getElem?_set_self (by omega)]
              rfl
            wtm_at "go"
            refine g_ixL (sq_of e5') (atI_of hget) ?_
            refine g_setL (n := j) e5' (by rw [mtV_len, List.length_set]; exact ixN_nat (by omega)) fun H6 b6 e6 => ?_
            have e6' : H6 fa = some (.lst (mtV ((f0.set pre.length (some j)).set j (some pre.length)))) := by
              rw [e6, mtV_set (f0.set pre.length (some j))]
            simp only [List.length_cons] at hwl
            exact ⟨wa, _, _, rfl, nw, hne, e6', by wtm_at "lk", by wtm_at "sm", by simp; omega⟩
          · have es : pstep l (f0, ws) pre.length c = (f0, []) := by
              unfold pstep
              simp only [h, h2, if_true, if_false]
              cases ws with
              | nil => rfl
              | cons j w =>
                have : ¬ l[j]? = some (oth c) := of_decide_eq_false hb3
                simp only [this, if_false]
            rw [es]
            wtm_at "unf"
            refine g_lst (by show 0 ≤ 100000; decide) fun em H4 nem s4 eem => ?_
            have hfe : fa ≠ em := by wtm_at "ne"
            exact ⟨em, _, _, rfl, by wtm_at "fr", hfe, by wtm_at "lk", eem, by wtm_at "sm", by simp⟩
        · have es : pstep l (pst l pre) pre.length c = pst l pre := by unfold pstep; simp only [h, h2, if_false]
          rw [es]
          exact ⟨wa, _, _, rfl, nw, hne, ef2, ew2, sH2, by simp; omega⟩
    · obtain ⟨wa, y, z, rfl, nw, hne, ef, ew, sH, hwl⟩ := hv
      wtm_at "unf"
      wtm_at "go"
      exact q fa H' nf0 sH ef
theorem mid_mate {l : List Nat} {i c : Nat} (h : l[i]? = some c) : ∃ m, (mates l)[i]? = some m := ⟨_, List.getElem?_eq_getElem (by rw [mates_len]; exact (List.getElem?_eq_some_iff.mp h).1)⟩
/-! is_clean -/
def sp_is_clean : Sp := fun vs H Q _ => ∃ l : List Nat, vs = [Tx l] ∧ l.length ≤ 1000 ∧ ∀ H', Same H H' → Q (.bl (decide (clean l))) H'
theorem ok_is_clean (T : Facts K mg) : C8.Cal P w K mg base 4 "is_clean" sp_is_clean [] := by
  refine calD T.f_is_clean sc_is_clean (fun vs H Q E h => ?_) (fun f cdv A outer s H vs Q E hr h => ?_)
  · obtain ⟨l, rfl, hl, q⟩ := h; rfl
  · obtain ⟨l, rfl, hl, q⟩ := h
    refine ⟨_, (pss_one (ps_ret (pe_cmpR (op_eqD hr.units) (pe_lc (own := [("sign", 1), ("partner", 2)]) (g := gTup K 2 (gCons (gName 1) (gCons (gName 2) gNil))) (by rfl) sc_is_clean.nd (pi_zipS rfl T.b_zip (pa_cons (pv 0) (pa_cons (pe_own (ok_partners T) hr (by omega) rfl (pa_cons (pv 0) pa_nil)) pa_nil))) (blkOk_by (own := [("sign", 1), ("partner", 2)]) (N := N_is_clean) (sc := defScope s_is_clean) (by decide +kernel)) (fun _ _ _ _ _ => (pg_tup rfl (pgs_cons (pg_name (i := 1) sc_is_clean.nd rfl (Or.inl rfl)) (pgs_cons (pg_name (i := 2) sc_is_clean.nd rfl (Or.inl rfl)) pgs_nil)))) (fun _ _ _ _ _ => (pts_one (PW.pt (pw_and (pt_cmpR op_isN (pv 2) pe_non (nomark _)) (pw_and1 (pt_cmpR op_inT (pv 1) (C8.pe_gc rfl T.c_BRACKETS) (by rfl))))))) (fun _ _ _ _ _ => pe_int)) (pe_lst pa_nil) (nomark _)))), ?_⟩
    rw [st_is_clean]
    wtm_at "unf"
    wtm_at "go"
    refine ⟨l, rfl, hl, fun ma H1 nma s1 ema => ?_⟩
    refine ⟨l, ma, mtV (mates l), rfl, sq_of ema, ?_⟩
    refine lc_w (walk_zipS (by rw [mtV_len, mates_len])) fun d H2 nd s2 ed => ?_
    have hdm : ma ≠ d := by wtm_at "ne"
    refine ⟨fun i H' => ∃ acc, H' d = some (.lst acc) ∧ acc.length ≤ i ∧ (∀ v ∈ acc, v = V.int 1) ∧ (acc = [] ↔ ∀ (j c : Nat), j < i → l[j]? = some c → c ∈ BRK → (mates l)[j]? ≠ some none) ∧ Same H1 H', ⟨[], ed, Nat.le_refl _, by simp, ?_, by wtm_at "sm"⟩, fun i H' _ hv => ?_, fun i x H' H'' hi hv y => ?_, fun H' hv => ?_⟩
    · simp
    · obtain ⟨acc, e1, e2, e3, e4, e5⟩ := hv
      exact sq_of (by wtm_at "lk")
    · obtain ⟨acc, e1, e2, e3, e4, e5⟩ := hv
      obtain ⟨t, c, v, rfl, nt, rfl, hc, hm⟩ := y
      have st : Same H' (upd H' t (.tup [Tx [c], v])) := Same.new nt
      have et : (upd H' t (.tup [Tx [c], v])) t = some (.tup [Tx [c], v]) := upd_same
      generalize upd H' t (.tup [Tx [c], v]) = H3 at st et
      obtain ⟨m, hmm⟩ := mid_mate hc
      have hv : v = optV m := by
        unfold mtV at hm
        rw [List.getElem?_map, hmm] at hm
        exact (Option.some.inj hm).symm
      subst hv
      have snoc : (∀ (j c : Nat), j < i + 1 → l[j]? = some c → c ∈ BRK → (mates l)[j]? ≠ some none) ↔ (∀ (j c : Nat), j < i → l[j]? = some c → c ∈ BRK → (mates l)[j]? ≠ some none) ∧ (c ∈ BRK → m ≠ none) := by
        constructor
        · intro h
          refine ⟨fun j c' hj => h j c' (by omega), fun hb hn => h i c (by omega) hc hb (by rw [hmm, hn])⟩
        · rintro ⟨ha, hb⟩ j c' hj hjc hcb hn
          rcases Nat.lt_or_ge j i with h' | h'
          · exact ha j c' h' hjc hcb hn
          · have : j = i := by omega
            subst this
            rw [hc] at hjc
            cases hjc
            rw [hmm] at hn
            exact hb hcb (Option.some.inj hn)
      wtm_at "unf"
      refine ⟨t, _, rfl, st_of et, rfl, _, _, rfl, _, _, rfl, rfl, ?_, ?_⟩
      · rfl
      wtm_at "go"
      cases m with
      | some k =>
        refine ⟨_, rfl, ?_⟩
        have hk : decide (optV (some k) = V.non) = false := by simp [optV]
        rw [hk]
        refine ⟨acc, by wtm_at "lk", by omega, e3, ?_, by wtm_at "sm"⟩
        rw [snoc, e4]
        simp
      | none =>
        refine ⟨_, rfl, ?_⟩
        have hk : decide (optV none = V.non) = true := by simp [optV]
        rw [hk]
        wtm_at "unf"
        wtm_at "go"
        refine g_test (fun h => ?_) (fun h => ?_)
        · wtm_at "unf"
          refine lc_put (acc := acc) (by wtm_at "lk") (by omega) fun H5 b5 e5 => ?_
          refine ⟨acc ++ [V.int 1], e5, by simp; omega, ?_, ?_, by wtm_at "sm"⟩
          · intro v hv
            rcases List.mem_append.mp hv with hv | hv
            · exact e3 v hv
            · simpa using hv
          · rw [snoc]
            simp [h]
        · wtm_at "unf"
          refine ⟨acc, by wtm_at "lk", by omega, e3, ?_, by wtm_at "sm"⟩
          rw [snoc, e4]
          simp [h]
    · obtain ⟨acc, e1, e2, e3, e4, e5⟩ := hv
      wtm_at "unf"
      refine g_lst (by show 0 ≤ 100000; decide) fun em H3 nem s3 eem => ?_
      refine g_eqNil (xs := acc) (sq_of (by wtm_at "lk")) (fun v hv => by rw [e3 v hv]; exact flat_int 1) (sq_of eem) ?_
      have hb : acc.isEmpty = decide (clean l) := by
        have : (acc.isEmpty = true) ↔ clean l := by
          rw [List.isEmpty_iff, e4, clean_mates]
          constructor
          · intro h j c hj hb
            exact h j c (List.getElem?_eq_some_iff.mp hj).1 hj hb
          · intro h j c _ hj hb
            exact h j c hj hb
        rw [Bool.eq_iff_iff, this, decide_eq_true_iff]
      rw [hb]
      exact q H3 (by wtm_at "sm")
end
end K12

set_option maxHeartbeats 4000000
namespace K12
open PySem PySem.Spec PyProof.Rows L2 SX Ly
local macro_rules | `(tactic| wtm_at "unf") => `(tactic| (try simp only [tMetX, tOwnX, tChain, tSeq, tNext, tBreak, tCont, tDrop, tRet, tRetN, tIfS, tAsg, tAug, tC, tOp, tUn, tNil, tCons, tOwn, tCB, tTest, tB, tAnd, tOr, tNot, tAndV, tOrV, tNotV, tIf, gName, gSub, tBM, tBM0, tM0, tM1, tSl, tPart_eq, tNoPart, tLst_eq, tTup_eq, tRevL_eq, tReplT, tRevS, tDGet_eq, sDPut_eq, tDNewT_eq, tMet, tMak, tFld_eq, sFld_eq, C8.tCut, wipe, tYes, gTup, gCons, gNil, List.set_cons_zero, List.set_cons_succ, if_true, if_false, Bool.false_eq_true, Bool.not_true, Bool.not_false, true_and, reduceIte, cx_K, tFor_eq, tLc_eq, iStr, iList, iTup, iRng1, iRng2, iRng3, iEnum, iZip, iEnumS, iZipS]))
local macro_rules | `(tactic| wtm_at "ne") => `(tactic| first | assumption | (apply Ne.symm; assumption) | (apply ne_new; (· assumption); (· wtm_at "lk")) | (apply Ne.symm; apply ne_new; (· assumption); (· wtm_at "lk")))
local macro_rules | `(tactic| wtm_at "lk") => `(tactic| first | assumption | exact upd_same | (apply Same.get; (· assumption); (· wtm_at "lk")) | (apply But.get; (· assumption); (· wtm_at "ne"); (· wtm_at "lk")))
local macro_rules | `(tactic| wtm_at "sq") => `(tactic| first | assumption | (apply sq_of; wtm_at "lk") | (apply Same.seq; (· assumption); (· wtm_at "sq")) | (apply But.sq; (· assumption); (· wtm_at "ne"); (· wtm_at "sq")))
local macro_rules | `(tactic| wtm_at "fr") => `(tactic| first | assumption | (apply Same.fr; (· assumption); (· wtm_at "sm")) | (apply But.fr; (· assumption); (· wtm_at "sm"); (· wtm_at "ne")))
local macro_rules | `(tactic| wtm_at "sm") => `(tactic| first | exact Same.refl _ | exact But.refl | assumption | (apply Same.tr; (· assumption); (· wtm_at "sm")) | (apply Same.b0; (· assumption); (· wtm_at "sm"); (· wtm_at "fr")) | (apply But.sa; (· assumption); (· wtm_at "sm")) | (apply But.tr; (· assumption); (· wtm_at "sm")) | (apply But.b0; (· assumption); (· wtm_at "sm"); (· wtm_at "fr")) | (apply Same.toBut; wtm_at "sm"))
local macro_rules | `(tactic| wtm_at "sc") => `(tactic| first | exact Int.zero_lt_one | (show (0 : Int) < _; omega) | (show (0 : Int) < _; decide) | exact ⟨by omega, by omega⟩ | exact .inl ⟨by omega, by omega⟩ | exact .inr ⟨by omega, by omega⟩)
local macro_rules | `(tactic| wtm_at "go1") => `(tactic| first | ((with_reducible apply g_var); (· exact rfl)) | with_reducible apply g_I0 | ((with_reducible apply g_I); (· wtm_at "sc")) | with_reducible apply g_U | with_reducible apply g_ipI | ((with_reducible apply g_addT); (· first | omega | (simp; done) | (simp; omega))) | with_reducible apply g_inT | with_reducible apply g_ninT | ((with_reducible apply g_lenT); (· omega)) | with_reducible apply g_findT1 | with_reducible apply g_str | with_reducible apply g_part | with_reducible apply g_intB | ((with_reducible apply g_ixL); (· wtm_at "sq"); (· exact rfl)) | ((with_reducible apply g_setL); (· wtm_at "lk"); (· exact rfl)) | ((with_reducible apply g_eq); (· rfl)) | ((with_reducible apply g_ne); (· rfl)))
local macro_rules | `(tactic| wtm_at "go") => `(tactic| repeat wtm_at "go1")
local macro_rules | `(tactic| wtm_at "lp") => `(tactic| skip)
local macro_rules | `(tactic| wtm_at "om") => `(tactic| first | omega | (simp; done) | (simp; omega) | (simp at *; omega))
local macro_rules | `(tactic| wtm_at "ty") => `(tactic| first | exact ty_str | exact ty_int | exact ty_bl | exact ty_non | (apply ty_lst; wtm_at "lk") | (apply ty_tup; wtm_at "lk"))
local macro_rules | `(tactic| wtm_at "kb") => `(tactic| first | exact kb_str_str | exact kb_str_int | exact kb_str_bool | exact kb_str_list | exact kb_str_tuple | exact kb_int_str | exact kb_int_int | exact kb_int_bool | exact kb_int_list | exact kb_int_tuple | exact kb_bool_str | exact kb_bool_int | exact kb_bool_bool | exact kb_bool_list | exact kb_bool_tuple | exact kb_list_str | exact kb_list_int | exact kb_list_bool | exact kb_list_list | exact kb_list_tuple | exact kb_tuple_str | exact kb_tuple_int | exact kb_tuple_bool | exact kb_tuple_list | exact kb_tuple_tuple | exact kb_NoneType_str | exact kb_NoneType_int | exact kb_NoneType_bool | exact kb_NoneType_list | exact kb_NoneType_tuple | exact kb_dict_str | exact kb_dict_int | exact kb_dict_bool | exact kb_dict_list | exact kb_dict_tuple)
local macro_rules | `(tactic| wtm_at "gx1") => `(tactic| first | ((with_reducible apply g_eqS); (· exact rfl)) | ((with_reducible apply g_neS); (· exact rfl)) | wtm_at "go1" | with_reducible apply g_min2 | with_reducible apply g_max2 | with_reducible apply g_T | with_reducible apply g_F | with_reducible apply g_NT | with_reducible apply g_NF | with_reducible apply g_nT | with_reducible apply g_nF | with_reducible apply g_RT | with_reducible apply g_RF | ((with_reducible apply g_isi); (· wtm_at "ty"); (· wtm_at "kb")) | ((with_reducible apply g_ixAU3); (· wtm_at "lk"); (· exact rfl)) | ((with_reducible apply g_ixAL3); (· wtm_at "lk"); (· exact rfl)) | ((with_reducible apply g_ixU3); (· wtm_at "lk"); (· exact rfl)) | ((with_reducible apply g_lenL3); (· wtm_at "lk")) | ((with_reducible apply g_lenU3); (· wtm_at "lk")) | ((with_reducible apply g_tyL3); (· wtm_at "lk")) | ((with_reducible apply g_lenT); (· wtm_at "pv")) | wtm_at "tr" | with_reducible apply g_ET | with_reducible apply g_EF | with_reducible apply g_EnT | with_reducible apply g_EnF)
local macro_rules | `(tactic| wtm_at "pv") => `(tactic| first | exact rfl | assumption | omega | (simp; done) | (simp; omega))
local macro_rules | `(tactic| wtm_at "tr") => `(tactic| first | ((with_reducible apply g_Td); (· wtm_at "pv")) | ((with_reducible apply g_Fd); (· wtm_at "pv")) | ((with_reducible apply g_NTd); (· wtm_at "pv")) | ((with_reducible apply g_NFd); (· wtm_at "pv")) | ((with_reducible apply g_nTd); (· wtm_at "pv")) | ((with_reducible apply g_nFd); (· wtm_at "pv")) | ((with_reducible apply g_RTd); (· wtm_at "pv")) | ((with_reducible apply g_RFd); (· wtm_at "pv")))
local macro_rules | `(tactic| wtm_at "gx") => `(tactic| repeat wtm_at "gx1")

section
variable {P : Program} {w : World} {K : PySem.W.Frag} {mg : Str → Option Value} {base : Heap}
/-- data without truths and dicts -/
inductive Dt where
  | non
  | int (i : Int)
  | str (l : List Nat)
  | lst (ds : List Dt)
  | tup (ds : List Dt)
mutual
inductive HasD (K : PySem.W.Frag) (H : Hp) : V → Dt → Prop
  | non : HasD K H .non .non
  | int (i : Int) : HasD K H (.int i) (.int i)
  | str (l : List Nat) : HasD K H (Tx l) (.str l)
  | lst {a : Addr} {xs : List V} {ds : List Dt} : H a = some (.lst xs) → HasDs K H xs ds → ds.length ≤ 100000 → HasD K H (.ref a) (.lst ds)
  | tup {a : Addr} {xs : List V} {ds : List Dt} : H a = some (.tup xs) → HasDs K H xs ds → ds.length ≤ 100000 → HasD K H (.ref a) (.tup ds)
inductive HasDs (K : PySem.W.Frag) (H : Hp) : List V → List Dt → Prop
  | nil : HasDs K H [] []
  | cons {v : V} {vs : List V} {d : Dt} {ds : List Dt} : HasD K H v d → HasDs K H vs ds → HasDs K H (v :: vs) (d :: ds)
end
mutual
def Dt.deep : Dt → Nat
  | .non => 0
  | .int _ => 0
  | .str _ => 0
  | .lst ds => Dt.deeps ds + 1
  | .tup ds => Dt.deeps ds + 1
def Dt.deeps : List Dt → Nat
  | [] => 0
  | d :: ds => max (Dt.deep d) (Dt.deeps ds)
end
theorem HasDs.len {K : PySem.W.Frag} {H : Hp} : ∀ {xs : List V} {ds : List Dt}, HasDs K H xs ds → xs.length = ds.length
  | _, _, .nil => rfl
  | _, _, .cons _ h => by simp [HasDs.len h]
mutual
theorem HasD.same {K : PySem.W.Frag} {H H' : Hp} (s : Same H H') : ∀ {v : V} {d : Dt}, HasD K H v d → HasD K H' v d
  | _, _, .non => .non
  | _, _, .int i => .int i
  | _, _, .str l => .str l
  | _, _, .lst h hs l => .lst (s _ _ h) (HasDs.same s hs) l
  | _, _, .tup h hs l => .tup (s _ _ h) (HasDs.same s hs) l
theorem HasDs.same {K : PySem.W.Frag} {H H' : Hp} (s : Same H H') : ∀ {vs : List V} {ds : List Dt}, HasDs K H vs ds → HasDs K H' vs ds
  | _, _, .nil => .nil
  | _, _, .cons h hs => .cons (HasD.same s h) (HasDs.same s hs)
end
section
variable {K : PySem.W.Frag} {H : Hp} {Q : VK} {p : Addr} {xs : List V} {v : V} {i : Int}
end
end
end K12

set_option maxHeartbeats 4000000
namespace K12
open PySem PySem.Spec PyProof.Rows L2 SX Ly
local macro_rules | `(tactic| wtm_at "unf") => `(tactic| (try simp only [tMetX, tOwnX, tChain, tSeq, tNext, tBreak, tCont, tDrop, tRet, tRetN, tIfS, tAsg, tAug, tC, tOp, tUn, tNil, tCons, tOwn, tCB, tTest, tB, tAnd, tOr, tNot, tAndV, tOrV, tNotV, tIf, gName, gSub, tBM, tBM0, tM0, tM1, tSl, tPart_eq, tNoPart, tLst_eq, tTup_eq, tRevL_eq, tReplT, tRevS, tDGet_eq, sDPut_eq, tDNewT_eq, tMet, tMak, tFld_eq, sFld_eq, C8.tCut, wipe, tYes, gTup, gCons, gNil, List.set_cons_zero, List.set_cons_succ, if_true, if_false, Bool.false_eq_true, Bool.not_true, Bool.not_false, true_and, reduceIte, cx_K, tFor_eq, tLc_eq, iStr, iList, iTup, iRng1, iRng2, iRng3, iEnum, iZip, iEnumS, iZipS]))
local macro_rules | `(tactic| wtm_at "ne") => `(tactic| first | assumption | (apply Ne.symm; assumption) | (apply ne_new; (· assumption); (· wtm_at "lk")) | (apply Ne.symm; apply ne_new; (· assumption); (· wtm_at "lk")))
local macro_rules | `(tactic| wtm_at "lk") => `(tactic| first | assumption | exact upd_same | (apply Same.get; (· assumption); (· wtm_at "lk")) | (apply But.get; (· assumption); (· wtm_at "ne"); (· wtm_at "lk")))
local macro_rules | `(tactic| wtm_at "sq") => `(tactic| first | assumption | (apply sq_of; wtm_at "lk") | (apply Same.seq; (· assumption); (· wtm_at "sq")) | (apply But.sq; (· assumption); (· wtm_at "ne"); (· wtm_at "sq")))
local macro_rules | `(tactic| wtm_at "fr") => `(tactic| first | assumption | (apply Same.fr; (· assumption); (· wtm_at "sm")) | (apply But.fr; (· assumption); (· wtm_at "sm"); (· wtm_at "ne")))
local macro_rules | `(tactic| wtm_at "sm") => `(tactic| first | exact Same.refl _ | exact But.refl | assumption | (apply Same.tr; (· assumption); (· wtm_at "sm")) | (apply Same.b0; (· assumption); (· wtm_at "sm"); (· wtm_at "fr")) | (apply But.sa; (· assumption); (· wtm_at "sm")) | (apply But.tr; (· assumption); (· wtm_at "sm")) | (apply But.b0; (· assumption); (· wtm_at "sm"); (· wtm_at "fr")) | (apply Same.toBut; wtm_at "sm"))
local macro_rules | `(tactic| wtm_at "sc") => `(tactic| first | exact Int.zero_lt_one | (show (0 : Int) < _; omega) | (show (0 : Int) < _; decide) | exact ⟨by omega, by omega⟩ | exact .inl ⟨by omega, by omega⟩ | exact .inr ⟨by omega, by omega⟩)
local macro_rules | `(tactic| wtm_at "go1") => `(tactic| first | ((with_reducible apply g_var); (· exact rfl)) | with_reducible apply g_I0 | ((with_reducible apply g_I); (· wtm_at "sc")) | with_reducible apply g_U | with_reducible apply g_ipI | ((with_reducible apply g_addT); (· first | omega | (simp; done) | (simp; omega))) | with_reducible apply g_inT | with_reducible apply g_ninT | ((with_reducible apply g_lenT); (· omega)) | with_reducible apply g_findT1 | with_reducible apply g_str | with_reducible apply g_part | with_reducible apply g_intB | ((with_reducible apply g_ixL); (· wtm_at "sq"); (· exact rfl)) | ((with_reducible apply g_setL); (· wtm_at "lk"); (· exact rfl)) | ((with_reducible apply g_eq); (· rfl)) | ((with_reducible apply g_ne); (· rfl)))
local macro_rules | `(tactic| wtm_at "go") => `(tactic| repeat wtm_at "go1")
local macro_rules | `(tactic| wtm_at "lp") => `(tactic| skip)
local macro_rules | `(tactic| wtm_at "om") => `(tactic| first | omega | (simp; done) | (simp; omega) | (simp at *; omega))
local macro_rules | `(tactic| wtm_at "ty") => `(tactic| first | exact ty_str | exact ty_int | exact ty_bl | exact ty_non | (apply ty_lst; wtm_at "lk") | (apply ty_tup; wtm_at "lk"))
local macro_rules | `(tactic| wtm_at "kb") => `(tactic| first | exact kb_str_str | exact kb_str_int | exact kb_str_bool | exact kb_str_list | exact kb_str_tuple | exact kb_int_str | exact kb_int_int | exact kb_int_bool | exact kb_int_list | exact kb_int_tuple | exact kb_bool_str | exact kb_bool_int | exact kb_bool_bool | exact kb_bool_list | exact kb_bool_tuple | exact kb_list_str | exact kb_list_int | exact kb_list_bool | exact kb_list_list | exact kb_list_tuple | exact kb_tuple_str | exact kb_tuple_int | exact kb_tuple_bool | exact kb_tuple_list | exact kb_tuple_tuple | exact kb_NoneType_str | exact kb_NoneType_int | exact kb_NoneType_bool | exact kb_NoneType_list | exact kb_NoneType_tuple | exact kb_dict_str | exact kb_dict_int | exact kb_dict_bool | exact kb_dict_list | exact kb_dict_tuple)
local macro_rules | `(tactic| wtm_at "gx1") => `(tactic| first | ((with_reducible apply g_eqS); (· exact rfl)) | ((with_reducible apply g_neS); (· exact rfl)) | wtm_at "go1" | with_reducible apply g_min2 | with_reducible apply g_max2 | with_reducible apply g_T | with_reducible apply g_F | with_reducible apply g_NT | with_reducible apply g_NF | with_reducible apply g_nT | with_reducible apply g_nF | with_reducible apply g_RT | with_reducible apply g_RF | ((with_reducible apply g_isi); (· wtm_at "ty"); (· wtm_at "kb")) | ((with_reducible apply g_ixAU3); (· wtm_at "lk"); (· exact rfl)) | ((with_reducible apply g_ixAL3); (· wtm_at "lk"); (· exact rfl)) | ((with_reducible apply g_ixU3); (· wtm_at "lk"); (· exact rfl)) | ((with_reducible apply g_lenL3); (· wtm_at "lk")) | ((with_reducible apply g_lenU3); (· wtm_at "lk")) | ((with_reducible apply g_tyL3); (· wtm_at "lk")) | ((with_reducible apply g_lenT); (· wtm_at "pv")) | wtm_at "tr" | with_reducible apply g_ET | with_reducible apply g_EF | with_reducible apply g_EnT | with_reducible apply g_EnF)
local macro_rules | `(tactic| wtm_at "pv") => `(tactic| first | exact rfl | assumption | omega | (simp; done) | (simp; omega))
local macro_rules | `(tactic| wtm_at "tr") => `(tactic| first | ((with_reducible apply g_Td); (· wtm_at "pv")) | ((with_reducible apply g_Fd); (· wtm_at "pv")) | ((with_reducible apply g_NTd); (· wtm_at "pv")) | ((with_reducible apply g_NFd); (· wtm_at "pv")) | ((with_reducible apply g_nTd); (· wtm_at "pv")) | ((with_reducible apply g_nFd); (· wtm_at "pv")) | ((with_reducible apply g_RTd); (· wtm_at "pv")) | ((with_reducible apply g_RFd); (· wtm_at "pv")))
local macro_rules | `(tactic| wtm_at "gx") => `(tactic| repeat wtm_at "gx1")

section
variable {P : Program} {w : World} {K : PySem.W.Frag} {mg : Str → Option Value} {base : Heap}
theorem g_ixAU2 {K : PySem.W.Frag} {H : Hp} {Q : VK} {p : Addr} {xs : List V} {v : V} {i : Int} (h : H p = some (.tup xs)) (h1 : atI xs i = some v) (q : Q v H) : rIx K (.ref p) (.int i) H Q := .inr (.inl (g_ixU (st_of h) h1 q))
end
end K12

set_option maxHeartbeats 4000000
namespace K12
open PySem PySem.Spec PyProof.Rows L2 SX Ly
local macro_rules | `(tactic| wtm_at "unf") => `(tactic| (try simp only [tMetX, tOwnX, tChain, tSeq, tNext, tBreak, tCont, tDrop, tRet, tRetN, tIfS, tAsg, tAug, tC, tOp, tUn, tNil, tCons, tOwn, tCB, tTest, tB, tAnd, tOr, tNot, tAndV, tOrV, tNotV, tIf, gName, gSub, tBM, tBM0, tM0, tM1, tSl, tPart_eq, tNoPart, tLst_eq, tTup_eq, tRevL_eq, tReplT, tRevS, tDGet_eq, sDPut_eq, tDNewT_eq, tMet, tMak, tFld_eq, sFld_eq, C8.tCut, wipe, tYes, gTup, gCons, gNil, List.set_cons_zero, List.set_cons_succ, if_true, if_false, Bool.false_eq_true, Bool.not_true, Bool.not_false, true_and, reduceIte, cx_K, tFor_eq, tLc_eq, iStr, iList, iTup, iRng1, iRng2, iRng3, iEnum, iZip, iEnumS, iZipS]))
local macro_rules | `(tactic| wtm_at "ne") => `(tactic| first | assumption | (apply Ne.symm; assumption) | (apply ne_new; (· assumption); (· wtm_at "lk")) | (apply Ne.symm; apply ne_new; (· assumption); (· wtm_at "lk")))
local macro_rules | `(tactic| wtm_at "lk") => `(tactic| first | assumption | exact upd_same | (apply Same.get; (· assumption); (· wtm_at "lk")) | (apply But.get; (· assumption); (· wtm_at "ne"); (· wtm_at "lk")))
local macro_rules | `(tactic| wtm_at "sq") => `(tactic| first | assumption | (apply sq_of; wtm_at "lk") | (apply Same.seq; (· assumption); (· wtm_at "sq")) | (apply But.sq; (· assumption); (· wtm_at "ne"); (· wtm_at "sq")))
local macro_rules | `(tactic| wtm_at "fr") => `(tactic| first | assumption | (apply Same.fr; (· assumption); (· wtm_at "sm")) | (apply But.fr; (· assumption); (· wtm_at "sm"); (· wtm_at "ne")))
local macro_rules | `(tactic| wtm_at "sm") => `(tactic| first | exact Same.refl _ | exact But.refl | assumption | (apply Same.tr; (· assumption); (· wtm_at "sm")) | (apply Same.b0; (· assumption); (· wtm_at "sm"); (· wtm_at "fr")) | (apply But.sa; (· assumption); (· wtm_at "sm")) | (apply But.tr; (· assumption); (· wtm_at "sm")) | (apply But.b0; (· assumption); (· wtm_at "sm"); (· wtm_at "fr")) | (apply Same.toBut; wtm_at "sm"))
local macro_rules | `(tactic| wtm_at "sc") => `(tactic| first | exact Int.zero_lt_one | (show (0 : Int) < _; omega) | (show (0 : Int) < _; decide) | exact ⟨by omega, by omega⟩ | exact .inl ⟨by omega, by omega⟩ | exact .inr ⟨by omega, by omega⟩)
local macro_rules | `(tactic| wtm_at "go1") => `(tactic| first | ((with_reducible apply g_var); (· exact rfl)) | with_reducible apply g_I0 | ((with_reducible apply g_I); (· wtm_at "sc")) | with_reducible apply g_U | with_reducible apply g_ipI | ((with_reducible apply g_addT); (· first | omega | (simp; done) | (simp; omega))) | with_reducible apply g_inT | with_reducible apply g_ninT | ((with_reducible apply g_lenT); (· omega)) | with_reducible apply g_findT1 | with_reducible apply g_str | with_reducible apply g_part | with_reducible apply g_intB | ((with_reducible apply g_ixL); (· wtm_at "sq"); (· exact rfl)) | ((with_reducible apply g_setL); (· wtm_at "lk"); (· exact rfl)) | ((with_reducible apply g_eq); (· rfl)) | ((with_reducible apply g_ne); (· rfl)))
local macro_rules | `(tactic| wtm_at "go") => `(tactic| repeat wtm_at "go1")
local macro_rules | `(tactic| wtm_at "lp") => `(tactic| skip)
local macro_rules | `(tactic| wtm_at "om") => `(tactic| first | omega | (simp; done) | (simp; omega) | (simp at *; omega))
local macro_rules | `(tactic| wtm_at "ty") => `(tactic| first | exact ty_str | exact ty_int | exact ty_bl | exact ty_non | (apply ty_lst; wtm_at "lk") | (apply ty_tup; wtm_at "lk"))
local macro_rules | `(tactic| wtm_at "kb") => `(tactic| first | exact kb_str_str | exact kb_str_int | exact kb_str_bool | exact kb_str_list | exact kb_str_tuple | exact kb_int_str | exact kb_int_int | exact kb_int_bool | exact kb_int_list | exact kb_int_tuple | exact kb_bool_str | exact kb_bool_int | exact kb_bool_bool | exact kb_bool_list | exact kb_bool_tuple | exact kb_list_str | exact kb_list_int | exact kb_list_bool | exact kb_list_list | exact kb_list_tuple | exact kb_tuple_str | exact kb_tuple_int | exact kb_tuple_bool | exact kb_tuple_list | exact kb_tuple_tuple | exact kb_NoneType_str | exact kb_NoneType_int | exact kb_NoneType_bool | exact kb_NoneType_list | exact kb_NoneType_tuple | exact kb_dict_str | exact kb_dict_int | exact kb_dict_bool | exact kb_dict_list | exact kb_dict_tuple)
local macro_rules | `(tactic| wtm_at "gx1") => `(tactic| first | ((with_reducible apply g_eqS); (· exact rfl)) | ((with_reducible apply g_neS); (· exact rfl)) | wtm_at "go1" | with_reducible apply g_min2 | with_reducible apply g_max2 | with_reducible apply g_T | with_reducible apply g_F | with_reducible apply g_NT | with_reducible apply g_NF | with_reducible apply g_nT | with_reducible apply g_nF | with_reducible apply g_RT | with_reducible apply g_RF | ((with_reducible apply g_isi); (· wtm_at "ty"); (· wtm_at "kb")) | ((with_reducible apply g_ixAU3); (· wtm_at "lk"); (· exact rfl)) | ((with_reducible apply g_ixAL3); (· wtm_at "lk"); (· exact rfl)) | ((with_reducible apply g_ixU3); (· wtm_at "lk"); (· exact rfl)) | ((with_reducible apply g_lenL3); (· wtm_at "lk")) | ((with_reducible apply g_lenU3); (· wtm_at "lk")) | ((with_reducible apply g_tyL3); (· wtm_at "lk")) | ((with_reducible apply g_lenT); (· wtm_at "pv")) | wtm_at "tr" | with_reducible apply g_ET | with_reducible apply g_EF | with_reducible apply g_EnT | with_reducible apply g_EnF)
local macro_rules | `(tactic| wtm_at "pv") => `(tactic| first | exact rfl | assumption | omega | (simp; done) | (simp; omega))
local macro_rules | `(tactic| wtm_at "tr") => `(tactic| first | ((with_reducible apply g_Td); (· wtm_at "pv")) | ((with_reducible apply g_Fd); (· wtm_at "pv")) | ((with_reducible apply g_NTd); (· wtm_at "pv")) | ((with_reducible apply g_NFd); (· wtm_at "pv")) | ((with_reducible apply g_nTd); (· wtm_at "pv")) | ((with_reducible apply g_nFd); (· wtm_at "pv")) | ((with_reducible apply g_RTd); (· wtm_at "pv")) | ((with_reducible apply g_RFd); (· wtm_at "pv")))
local macro_rules | `(tactic| wtm_at "gx") => `(tactic| repeat wtm_at "gx1")

section
variable {P : Program} {w : World} {K : PySem.W.Frag} {mg : Str → Option Value} {base : Heap}
/-! nests as the data that _law_same looks at -/
mutual
def ndT : Nd → Dt
  | .let_ c => .str [c]
  | .num i => .int i
  | .br o ds => .tup [.str [o], .lst (ndTs ds)]
def ndTs : List Nd → List Dt
  | [] => []
  | d :: ds => ndT d :: ndTs ds
end
theorem ndTs_len : ∀ ds : List Nd, (ndTs ds).length = ds.length
  | [] => by rw [ndTs]; rfl
  | d :: ds => by rw [ndTs, List.length_cons, List.length_cons, ndTs_len ds]
mutual
theorem TrI.has {K : PySem.W.Frag} {H : Hp} : ∀ {v : V} {d : Nd} {A : List Addr}, TrI H v d A → d.wide ≤ 100000 → HasD K H v (ndT d)
  | _, _, _, .let_ c, _ => by rw [ndT]; exact .str _
  | _, _, _, .num i, _ => by rw [ndT]; exact .int i
  | _, _, _, @TrI.br _ t b o xs ds A ht hb hs, h => by
    rw [Nd.wide] at h
    rw [ndT]
    have h1 := len_wides ds
    exact .tup ht (.cons (.str _) (.cons (.lst hb (TrIs.has hs h) (by rw [ndTs_len]; omega)) .nil)) (by simp)
theorem TrIs.has {K : PySem.W.Frag} {H : Hp} : ∀ {vs : List V} {ds : List Nd} {A : List Addr}, TrIs H vs ds A → Nd.wides ds ≤ 100000 → HasDs K H vs (ndTs ds)
  | _, _, _, .nil, _ => by rw [ndTs]; exact .nil
  | _, _, _, .cons hi hs, h => by
    rw [Nd.wides] at h
    rw [ndTs]
    exact .cons (TrI.has hi (by omega)) (TrIs.has hs (by omega))
end
/-! numbered ones -/
/-! a nest is left alone by changes of others -/
theorem mem_ndOk : ∀ {ds : List Nd} {d : Nd}, d ∈ ds → ndOk ds → ndOk1 d
  | e :: ds, d, h, k => by
    rw [ndOk] at k
    rcases List.mem_cons.mp h with rfl | h
    · exact k.1
    · exact mem_ndOk h k.2

end
end K12

set_option maxHeartbeats 4000000
namespace K12
open PySem PySem.Spec PyProof.Rows L2 SX Ly
local macro_rules | `(tactic| wtm_at "unf") => `(tactic| (try simp only [tMetX, tOwnX, tChain, tSeq, tNext, tBreak, tCont, tDrop, tRet, tRetN, tIfS, tAsg, tAug, tC, tOp, tUn, tNil, tCons, tOwn, tCB, tTest, tB, tAnd, tOr, tNot, tAndV, tOrV, tNotV, tIf, gName, gSub, tBM, tBM0, tM0, tM1, tSl, tPart_eq, tNoPart, tLst_eq, tTup_eq, tRevL_eq, tReplT, tRevS, tDGet_eq, sDPut_eq, tDNewT_eq, tMet, tMak, tFld_eq, sFld_eq, C8.tCut, wipe, tYes, gTup, gCons, gNil, List.set_cons_zero, List.set_cons_succ, if_true, if_false, Bool.false_eq_true, Bool.not_true, Bool.not_false, true_and, reduceIte, cx_K, tFor_eq, tLc_eq, iStr, iList, iTup, iRng1, iRng2, iRng3, iEnum, iZip, iEnumS, iZipS]))
local macro_rules | `(tactic| wtm_at "ne") => `(tactic| first | assumption | (apply Ne.symm; assumption) | (apply ne_new; (· assumption); (· wtm_at "lk")) | (apply Ne.symm; apply ne_new; (· assumption); (· wtm_at "lk")))
local macro_rules | `(tactic| wtm_at "lk") => `(tactic| first | assumption | exact upd_same | (apply Same.get; (· assumption); (· wtm_at "lk")) | (apply But.get; (· assumption); (· wtm_at "ne"); (· wtm_at "lk")))
local macro_rules | `(tactic| wtm_at "sq") => `(tactic| first | assumption | (apply sq_of; wtm_at "lk") | (apply Same.seq; (· assumption); (· wtm_at "sq")) | (apply But.sq; (· assumption); (· wtm_at "ne"); (· wtm_at "sq")))
local macro_rules | `(tactic| wtm_at "fr") => `(tactic| first | assumption | (apply Same.fr; (· assumption); (· wtm_at "sm")) | (apply But.fr; (· assumption); (· wtm_at "sm"); (· wtm_at "ne")))
local macro_rules | `(tactic| wtm_at "sm") => `(tactic| first | exact Same.refl _ | exact But.refl | assumption | (apply Same.tr; (· assumption); (· wtm_at "sm")) | (apply Same.b0; (· assumption); (· wtm_at "sm"); (· wtm_at "fr")) | (apply But.sa; (· assumption); (· wtm_at "sm")) | (apply But.tr; (· assumption); (· wtm_at "sm")) | (apply But.b0; (· assumption); (· wtm_at "sm"); (· wtm_at "fr")) | (apply Same.toBut; wtm_at "sm"))
local macro_rules | `(tactic| wtm_at "sc") => `(tactic| first | exact Int.zero_lt_one | (show (0 : Int) < _; omega) | (show (0 : Int) < _; decide) | exact ⟨by omega, by omega⟩ | exact .inl ⟨by omega, by omega⟩ | exact .inr ⟨by omega, by omega⟩)
local macro_rules | `(tactic| wtm_at "go1") => `(tactic| first | ((with_reducible apply g_var); (· exact rfl)) | with_reducible apply g_I0 | ((with_reducible apply g_I); (· wtm_at "sc")) | with_reducible apply g_U | with_reducible apply g_ipI | ((with_reducible apply g_addT); (· first | omega | (simp; done) | (simp; omega))) | with_reducible apply g_inT | with_reducible apply g_ninT | ((with_reducible apply g_lenT); (· omega)) | with_reducible apply g_findT1 | with_reducible apply g_str | with_reducible apply g_part | with_reducible apply g_intB | ((with_reducible apply g_ixL); (· wtm_at "sq"); (· exact rfl)) | ((with_reducible apply g_setL); (· wtm_at "lk"); (· exact rfl)) | ((with_reducible apply g_eq); (· rfl)) | ((with_reducible apply g_ne); (· rfl)))
local macro_rules | `(tactic| wtm_at "go") => `(tactic| repeat wtm_at "go1")
local macro_rules | `(tactic| wtm_at "lp") => `(tactic| skip)
local macro_rules | `(tactic| wtm_at "om") => `(tactic| first | omega | (simp; done) | (simp; omega) | (simp at *; omega))
local macro_rules | `(tactic| wtm_at "ty") => `(tactic| first | exact ty_str | exact ty_int | exact ty_bl | exact ty_non | (apply ty_lst; wtm_at "lk") | (apply ty_tup; wtm_at "lk"))
local macro_rules | `(tactic| wtm_at "kb") => `(tactic| first | exact kb_str_str | exact kb_str_int | exact kb_str_bool | exact kb_str_list | exact kb_str_tuple | exact kb_int_str | exact kb_int_int | exact kb_int_bool | exact kb_int_list | exact kb_int_tuple | exact kb_bool_str | exact kb_bool_int | exact kb_bool_bool | exact kb_bool_list | exact kb_bool_tuple | exact kb_list_str | exact kb_list_int | exact kb_list_bool | exact kb_list_list | exact kb_list_tuple | exact kb_tuple_str | exact kb_tuple_int | exact kb_tuple_bool | exact kb_tuple_list | exact kb_tuple_tuple | exact kb_NoneType_str | exact kb_NoneType_int | exact kb_NoneType_bool | exact kb_NoneType_list | exact kb_NoneType_tuple | exact kb_dict_str | exact kb_dict_int | exact kb_dict_bool | exact kb_dict_list | exact kb_dict_tuple)
local macro_rules | `(tactic| wtm_at "gx1") => `(tactic| first | ((with_reducible apply g_eqS); (· exact rfl)) | ((with_reducible apply g_neS); (· exact rfl)) | wtm_at "go1" | with_reducible apply g_min2 | with_reducible apply g_max2 | with_reducible apply g_T | with_reducible apply g_F | with_reducible apply g_NT | with_reducible apply g_NF | with_reducible apply g_nT | with_reducible apply g_nF | with_reducible apply g_RT | with_reducible apply g_RF | ((with_reducible apply g_isi); (· wtm_at "ty"); (· wtm_at "kb")) | ((with_reducible apply g_ixAU3); (· wtm_at "lk"); (· exact rfl)) | ((with_reducible apply g_ixAL3); (· wtm_at "lk"); (· exact rfl)) | ((with_reducible apply g_ixU3); (· wtm_at "lk"); (· exact rfl)) | ((with_reducible apply g_lenL3); (· wtm_at "lk")) | ((with_reducible apply g_lenU3); (· wtm_at "lk")) | ((with_reducible apply g_tyL3); (· wtm_at "lk")) | ((with_reducible apply g_lenT); (· wtm_at "pv")) | wtm_at "tr" | with_reducible apply g_ET | with_reducible apply g_EF | with_reducible apply g_EnT | with_reducible apply g_EnF)
local macro_rules | `(tactic| wtm_at "pv") => `(tactic| first | exact rfl | assumption | omega | (simp; done) | (simp; omega))
local macro_rules | `(tactic| wtm_at "tr") => `(tactic| first | ((with_reducible apply g_Td); (· wtm_at "pv")) | ((with_reducible apply g_Fd); (· wtm_at "pv")) | ((with_reducible apply g_NTd); (· wtm_at "pv")) | ((with_reducible apply g_NFd); (· wtm_at "pv")) | ((with_reducible apply g_nTd); (· wtm_at "pv")) | ((with_reducible apply g_nFd); (· wtm_at "pv")) | ((with_reducible apply g_RTd); (· wtm_at "pv")) | ((with_reducible apply g_RFd); (· wtm_at "pv")))
local macro_rules | `(tactic| wtm_at "gx") => `(tactic| repeat wtm_at "gx1")

section
variable {P : Program} {w : World} {K : PySem.W.Frag} {mg : Str → Option Value} {base : Heap}
/-! nest_of -/
def sp_nest_of : Sp := fun vs H Q _ => ∃ l : List Nat, vs = [Tx l] ∧ l.length ≤ 1000 ∧ clean l ∧ (∀ c ∈ l, isSg c) ∧ ∀ (b : Addr) (xs : List V) (A : List Addr) (H' : Hp), Same H H' → H' b = some (.lst xs) → TrIs H' xs (nestD l) A → (b :: A).Nodup → (∀ x ∈ b :: A, H x = none) → Q (.ref b) H'
theorem ok_nest_of (T : Facts K mg) : C8.Cal P w K mg base 5 "nest_of" sp_nest_of [] := by
  refine calD T.f_nest_of sc_nest_of (fun vs H Q E h => ?_) (fun f cdv A outer s H vs Q E hr h => ?_)
  · obtain ⟨l, rfl, hl, hc, hs, q⟩ := h; rfl
  · obtain ⟨l, rfl, hl, hc, hs, q⟩ := h
    refine ⟨_, (pss_cons (ps_if (pt_not (pt_val (pe_own (ok_is_clean T) hr (by omega) rfl (pa_cons (pv 0) pa_nil))))
       (pss_one ps_never)
       pss_nil)
       (pss_cons (ps_set (i := 1) sc_nest_of.nd rfl (Or.inl rfl) (pe_lst (pa_cons (pe_lst pa_nil) pa_nil)))
       (pss_cons (ps_for PassesOwn.never rfl (pi_str (pv 0)) (pg_name (i := 2) sc_nest_of.nd rfl (Or.inl rfl))
       (pss_one (ps_if (pt_cmpR op_inT (pv 2) (C8.pe_gc rfl T.c_LETTERS) (by rfl))
       (pss_one (ps_expr (pe_bm PySem.F.plainAttrs_list PySem.F.slot_list_append PySem.F.type_list_append mt_append (pe_ix ix_list (pv 1) (pe_un un_neg pe_int) (fun _ _ => rfl)) (pa_cons (pv 2) pa_nil))))
       (pss_one (ps_if (pt_cmpR op_inT (pv 2) (C8.pe_gc rfl T.c_OPENING) (by rfl))
       (pss_cons (ps_set (i := 3) sc_nest_of.nd rfl (Or.inl rfl) (pe_lst pa_nil))
       (pss_cons (ps_expr (pe_bm PySem.F.plainAttrs_list PySem.F.slot_list_append PySem.F.type_list_append mt_append (pe_ix ix_list (pv 1) (pe_un un_neg pe_int) (fun _ _ => rfl)) (pa_cons (pe_tup (pa_cons (pv 2) (pa_cons (pv 3) pa_nil))) pa_nil)))
       (pss_one (ps_expr (pe_bm PySem.F.plainAttrs_list PySem.F.slot_list_append PySem.F.type_list_append mt_append (pv 1) (pa_cons (pv 3) pa_nil))))))
       (pss_one (ps_expr (pe_bm0 PySem.F.plainAttrs_list PySem.F.slot_list_pop PySem.F.type_list_pop mt_pop (pv 1)))))))))
       (pss_one (ps_ret (pe_ix ix_list (pv 1) pe_int (fun _ _ => rfl))))))), ?_⟩
    rw [st_nest_of]
    wtm_at "unf"
    wtm_at "go"
    refine ⟨l, rfl, hl, fun H0 s0 => ?_⟩
    rw [decide_eq_true hc]
    refine ⟨_, rfl, ?_⟩
    rw [Bool.not_true, if_neg Bool.false_ne_true]
    refine g_lst (by show 0 ≤ 100000; decide) fun r0 H1 nr0 s1 er0 => ?_
    refine g_lst (by show 1 ≤ 100000; decide) fun ar H2 nar s2 ear => ?_
    have hr00 : H r0 = none := s0.free nr0
    have har0 : H ar = none := s0.free (s1.free nar)
    have hra : r0 ≠ ar := ne_new nar er0
    wtm_at "go"
    refine ⟨_, rfl, for_txt (fun pre σ H' => ∃ (b : Addr) (bs : List Addr) (y2 y3 : Option V), σ = [some (Tx l), some (V.ref ar), y2, y3] ∧ Bld (fun x => H x = none ∧ x ≠ ar) H' b bs (nst pre).1 (nst pre).2 ∧ H' ar = some (.lst (bs.reverse.map V.ref ++ [V.ref b])) ∧ Same H H')
      ⟨r0, [], _, _, rfl, Bld.start (s2 _ _ er0) ⟨hr00, hra⟩, ear, s0.trans (s1.trans s2)⟩ (fun pre c post σ H' e hv => ?_) (fun σ H' hv => ?_)⟩
    · obtain ⟨b, bs, y2, y3, rfl, B, ea, sH⟩ := hv
      have hpl : pre.length < 1000 := by rw [e] at hl; simp at hl; omega
      have hcs : isSg c := hs c (by rw [e]; simp)
      obtain ⟨xs, hb, hxl, ⟨hbn, hba⟩, hbl⟩ := B.cur
      have bd := nst_bd pre
      have bd1 := bd.1
      have bd2 := bd.2.1
      rw [nst_snoc]
      wtm_at "unf"
      wtm_at "go"
      refine g_test (fun hlt => ?_) (fun hlt => ?_)
      · have h1 := let_opn c hlt
        have h2 := let_clo c hlt
        wtm_at "go"
        refine g_ixL (sq_of ea) (atI_last1 _ _) ?_
        refine ⟨g_tyL (sq_of hb), ?_⟩
        wtm_at "go"
        refine g_append1 hb (by omega) fun H5 b5 e5 => ?_
        have en : nstep (nst pre) c = ((nst pre).1, (nst pre).2 ++ [.let_ c]) := by unfold nstep; rw [if_neg h2, if_neg h1]
        rw [en]
        exact ⟨b, bs, _, _, rfl, B.letter hb b5 e5, b5 _ _ (Ne.symm hba) ea, Same.b0 b5 sH hbn⟩
      have hcb : c ∈ BRK := by
        rcases hcs with h | h
        · exact absurd h hlt
        · exact h
      wtm_at "go"
      refine g_test (fun h1 => ?_) (fun h1 => ?_)
      · have h2 : c ∉ CLO := opn_clo c h1
        refine g_lst (by show 0 ≤ 100000; decide) fun ia H3 nia s3 eia => ?_
        have ea3 : H3 ar = some (.lst (bs.reverse.map V.ref ++ [V.ref b])) := s3 _ _ ea
        have hb3 := s3 _ _ hb
        have ni0 : H ia = none := sH.free nia
        have hia : ia ≠ ar := Ne.symm (ne_new nia ea)
        wtm_at "go"
        refine g_ixL (sq_of ea3) (atI_last1 _ _) ?_
        refine ⟨g_tyL (sq_of hb3), ?_⟩
        wtm_at "go"
        refine g_tup (by show 2 ≤ 100000; decide) fun t H4 nt s4 et => ?_
        have ea4 := s4 _ _ ea3
        have hb4 := s4 _ _ hb3
        refine g_append1 hb4 (by omega) fun H5 b5 e5 => ?_
        wtm_at "go"
        have ea5 : H5 ar = some (.lst (bs.reverse.map V.ref ++ [V.ref b])) := b5 _ _ (Ne.symm hba) ea4
        refine ⟨g_tyL (sq_of ea5), ?_⟩
        wtm_at "go"
        refine g_append1 ea5 (by simp; omega) fun H6 b6 e6 => ?_
        have B5 := B.open_ (s3.trans s4) hb4 b5 (s4 _ _ eia) et nia ⟨ni0, hia⟩ e5
        have en : nstep (nst pre) c = (((nst pre).2, c) :: (nst pre).1, []) := by unfold nstep; rw [if_neg h2, if_pos h1]
        rw [en]
        refine ⟨ia, b :: bs, _, _, rfl, B5.but b6 ea5 (fun hn => hn.2 rfl), ?_, ?_⟩
        · rw [e6]
          simp
        · exact Same.b0 b6 (Same.b0 b5 (sH.trans (s3.trans s4)) hbn) har0
      · have h2 : c ∈ CLO := by
          rcases brk_or.mp hcb with h | h
          · exact absurd h h1
          · exact h
        obtain ⟨ds, o, fs, hf, ho⟩ := nst_clo hc e h2
        rw [hf] at B
        obtain ⟨b0, bs0, rfl, B0⟩ := B.close
        wtm_at "go"
        refine g_pop ea fun H3 b3 e3 => ?_
        have en : nstep (nst pre) c = (fs, ds ++ [.br o (nst pre).2]) := by unfold nstep; rw [if_pos h2, hf]
        rw [en]
        refine ⟨b0, bs0, _, _, rfl, B0.but b3 ea (fun hn => hn.2 rfl), ?_, Same.b0 b3 sH har0⟩
        rw [e3]
        simp
    · obtain ⟨b, bs, y2, y3, rfl, B, ea, sH⟩ := hv
      rw [nst_clean hc] at B
      obtain ⟨xs, A1, A, h1, h2, h3, h4, h5⟩ := B.ex
      cases h3
      rw [List.append_nil] at h4 h5
      wtm_at "unf"
      wtm_at "go"
      exact q b xs A1 H' sH h1 h2 h4 (fun x hx => (h5 x hx).1)
/-! joined -/
def sp_joined : Nat → Sp
  | 0 => fun _ _ _ _ => False
  | n + 1 => fun vs H Q _ => ∃ (b : Addr) (xs : List V) (ds : List Nd) (A : List Addr), vs = [.ref b] ∧ H b = some (.lst xs) ∧ TrIs H xs ds A ∧ Nd.deeps ds ≤ n ∧ (txN ds).length ≤ 1000 ∧ ndOk ds ∧ Q (Tx (txN ds)) H
theorem ok_joined (T : Facts K mg) (n : Nat) : C8.Cal P w K mg base (n + 3) "joined" (sp_joined n) [] := by
  induction n with
  | zero => exact cal_false T.f_joined sc_joined (fun _ _ _ _ h => h)
  | succ n ih =>
  rw [show n + 1 + 3 = (n + 3) + 1 by omega]
  refine calD T.f_joined sc_joined (fun vs H Q E h => ?_) (fun f cdv A outer s H vs Q E hr h => ?_)
  · obtain ⟨b, xs, ds, A, rfl, hb, ht, hd, hw, hbr, q⟩ := h; rfl
  · obtain ⟨b, xs, ds, A, rfl, hb, ht, hd, hw, hbr, q⟩ := h
    refine ⟨_, (pss_cons (ps_set (i := 1) sc_joined.nd rfl (Or.inl rfl) (pe_strS (l := []) (by decide +kernel)))
       (pss_cons (ps_for PassesOwn.never rfl (pi_list (pv 0)) (pg_name (i := 2) sc_joined.nd rfl (Or.inl rfl))
       (pss_one (ps_if (pt_val (pe_callB call_isi rfl T.b_isinstance (by decide +kernel) (pa_cons (pv 2) (pa_cons (pe_bltn (v := .ty "tuple") rfl T.b_tuple (by decide +kernel) rfl) pa_nil))))
       (pss_one (ps_aug (i := 1) sc_joined.nd rfl (Or.inl rfl) (pe_op op_addT (pe_op op_addT (pe_ix ix_seq (pv 2) pe_int (fun _ _ => rfl)) (pe_own ih hr (Nat.le_refl _) rfl (pa_cons (pe_ix ix_seq (pv 2) pe_int (fun _ _ => rfl)) pa_nil))) (pe_own (ok_other_side T) hr (by omega) rfl (pa_cons (pe_ix ix_seq (pv 2) pe_int (fun _ _ => rfl)) pa_nil))) iop_addT))
       (pss_one (ps_aug (i := 1) sc_joined.nd rfl (Or.inl rfl) (pv 2) iop_addT)))))
       (pss_one (ps_ret (pv 1))))), ?_⟩
    rw [st_joined]
    wtm_at "unf"
    wtm_at "go"
    refine ⟨_, rfl, ⟨_, sq_of hb⟩, for_lst xs (fun pre σ H' => ∃ (ds1 ds2 : List Nd) (A1 A2 : List Addr) (y : Option V), ds = ds1 ++ ds2 ∧ H' = H ∧ σ = [some (V.ref b), some (Tx (txN ds1)), y] ∧ TrIs H (xs.drop pre.length) ds2 A2 ∧ ndOk ds2)
      ⟨[], ds, [], A, _, rfl, rfl, by rw [txN], ht, hbr⟩ (fun pre post σ H' e hv => ?_) (fun pre x post σ H' e hv => ?_) (fun σ H' hv => ?_)⟩
    · obtain ⟨ds1, ds2, A1, A2, y, e1, rfl, rfl, t2, hk⟩ := hv
      exact sq_of hb
    · obtain ⟨ds1, ds2, A1, A2, y, e1, rfl, rfl, t2, hk⟩ := hv
      rw [show xs.drop pre.length = x :: post by rw [e]; exact List.drop_left] at t2
      have hnx : ∀ z : V, xs.drop (pre ++ [z]).length = post := by
        intro z
        rw [e, show pre ++ x :: post = (pre ++ [x]) ++ post by simp, show (pre ++ [z]).length = (pre ++ [x]).length by simp]
        exact List.drop_left
      have hlen : (txN ds1).length + (txN ds2).length ≤ 1000 := by rw [e1, txN_app, List.length_append] at hw; exact hw
      wtm_at "unf"
      wtm_at "go"
      cases t2 with
      | @cons _ _ d ds3 B A3 ti t3 =>
      rw [ndOk] at hk
      rw [txN, List.length_append] at hlen
      cases ti with
      | let_ c =>
        refine g_isi (b := false) ty_str (by decide +kernel) ?_
        refine ⟨_, rfl, ?_⟩
        rw [if_neg Bool.false_ne_true]
        rw [txI] at hlen
        simp at hlen
        refine ⟨_, rfl, ?_⟩
        wtm_at "go"
        refine ⟨ds1 ++ [.let_ c], ds3, A1, A3, some (Tx [c]), by rw [e1]; simp, rfl, by rw [txN_app, txN_one, txI], by rw [hnx]; exact t3, hk.2⟩
      | num i =>
        have := hk.1
        simp [ndOk1] at this
      | @br t b' o xs' ds' A' h1 h2 h3 =>
        have hk1 := hk.1
        rw [ndOk1] at hk1
        rw [txI] at hlen
        simp at hlen
        have hmem : (Nd.br o ds') ∈ ds := by rw [e1]; simp
        have hdd := mem_deeps hmem
        rw [Nd.deep] at hdd
        refine g_isi (b := true) (ty_tup h1) (by decide +kernel) ?_
        refine ⟨_, rfl, ?_⟩
        rw [if_pos rfl]
        wtm_at "go"
        refine ⟨_, rfl, ?_⟩
        wtm_at "go"
        refine g_ixAU2 h1 (show atI [Tx [o], V.ref b'] 0 = some (Tx [o]) from rfl) ?_
        wtm_at "go"
        refine g_ixAU2 h1 (show atI [Tx [o], V.ref b'] 1 = some (V.ref b') from rfl) ?_
        cases n with
        | zero => omega
        | succ n =>
          refine ⟨b', xs', ds', A', rfl, h2, h3, by omega, by omega, hk1.2, ?_⟩
          wtm_at "go"
          refine g_ixAU2 h1 (show atI [Tx [o], V.ref b'] 0 = some (Tx [o]) from rfl) ?_
          refine ⟨o, rfl, brk_or.mpr (.inl hk1.1), ?_⟩
          wtm_at "go"
          refine ⟨ds1 ++ [.br o ds'], ds3, A1, A3, some (V.ref t), by rw [e1]; simp, rfl, ?_, by rw [hnx]; exact t3, hk.2⟩
          rw [txN_app, txN_one, txI]
          simp
    · obtain ⟨ds1, ds2, A1, A2, y, e1, rfl, rfl, t2, hk⟩ := hv
      rw [List.drop_length] at t2
      cases t2
      rw [List.append_nil] at e1
      subst e1
      wtm_at "unf"
      wtm_at "go"
      exact q
/-! is_one_of -/
def sp_is_one_of : Sp := fun vs H Q _ => ∃ (c : Nat) (l : List Nat), vs = [Tx [c], Tx l] ∧ Q (.bl (decide (c ∈ l))) H
theorem ok_is_one_of (T : Facts K mg) : C8.Cal P w K mg base 1 "is_one_of" sp_is_one_of [] := by
  refine calD T.f_is_one_of sc_is_one_of (fun vs H Q E h => ?_) (fun f cdv A outer s H vs Q E hr h => ?_)
  · obtain ⟨c, l, rfl, q⟩ := h; rfl
  · obtain ⟨c, l, rfl, q⟩ := h
    refine ⟨_, (pss_one (ps_ret (pe_and (pe_callB call_isi rfl T.b_isinstance (by decide +kernel) (pa_cons (pv 0) (pa_cons (pe_bltn (v := .ty "str") rfl T.b_str (by decide +kernel) rfl) pa_nil))) (pe_and (pe_cmpR op_eq (pe_callB call_lenT rfl T.b_len PySem.boot_len (pa_cons (pv 0) pa_nil)) pe_int (nomark _)) (pe_one (pe_cmpR op_inT (pv 0) (pv 1) (by rfl))))))), ?_⟩
    rw [st_is_one_of]
    wtm_at "unf"
    wtm_at "gx"
    exact q
theorem g_neWNil {K : PySem.W.Frag} {H : Hp} {Q : VK} {a b : Addr} {xs : List V} {ds : List Nd} {A : List Addr} (ha : H a = some (.lst xs)) (ta : TrIs H xs ds A) (hb : H b = some (.lst [])) (hk : ndOk ds) (hd : Nd.deeps ds ≤ 90) (q : Q (.bl (!ds.isEmpty)) H) : rNeW K (.ref a) (.ref b) H Q := by
  have h1 := nd_can ds hk
  have h2 := nd_depth ds
  refine ⟨.list (ndDs ds), .list [], .lst (sq_of ha) (TrIs.dp ta), .lst (sq_of hb) .nil, h1, rfl, ?_, ?_⟩
  · show PyData.depthAll (ndDs ds) + 1 ≤ 190
    omega
  · rw [nil_eqv]
    have e : (ndDs ds).isEmpty = ds.isEmpty := by
      cases ds with
      | nil => rw [ndDs]; rfl
      | cons d ds => rw [ndDs]; rfl
    rw [e]
    exact q
theorem hgt_cons (d : Nd) (ds : List Nd) : hgt (d :: ds) = max (hgI d + 1) (hgt ds) := by rw [hgt]
theorem mem_hgt : ∀ {ds : List Nd} {d : Nd}, d ∈ ds → hgI d + 1 ≤ hgt ds
  | e :: ds, d, h => by
    rw [hgt]
    rcases List.mem_cons.mp h with rfl | h
    · omega
    · have := mem_hgt h
      omega
/-! is_nest_from -/
def sp_is_nest_from : Nat → Sp
  | 0 => fun _ _ _ _ => False
  | n + 1 => fun vs H Q _ => ∃ (b : Addr) (xs : List V) (ds : List Nd) (A : List Addr) (k : Nat), vs = [.ref b, .int k] ∧ H b = some (.lst xs) ∧ TrIs H xs ds A ∧ ndOk ds ∧ hgt ds + k ≤ 61 ∧ Nd.deeps ds ≤ 90 ∧ Nd.deeps ds ≤ n ∧ ∀ H', Same H H' → Q (.bl true) H'
theorem ok_is_nest_from (T : Facts K mg) (n : Nat) : C8.Cal P w K mg base (n + 2) "is_nest_from" (sp_is_nest_from n) [] := by
  induction n with
  | zero => exact cal_false T.f_is_nest_from sc_is_nest_from (fun _ _ _ _ h => h)
  | succ n ih =>
  rw [show n + 1 + 2 = (n + 2) + 1 by omega]
  refine calD T.f_is_nest_from sc_is_nest_from (fun vs H Q E h => ?_) (fun f cdv A outer s H vs Q E hr h => ?_)
  · obtain ⟨b, xs, ds, A, k, rfl, hb, ht, hk, hh, hd, hn, q⟩ := h; rfl
  · obtain ⟨b, xs, ds, A, k, rfl, hb, ht, hk, hh, hd, hn, q⟩ := h
    refine ⟨_, (pss_cons (ps_ifC (PW.pt (pw_or (pt_not (pt_val (pe_callB call_isi rfl T.b_isinstance (by decide +kernel) (pa_cons (pv 0) (pa_cons (pe_bltn (v := .ty "list") rfl T.b_list (by decide +kernel) rfl) pa_nil))))) (pw_or1 (PW.pt (pw_and (pt_cmpR (op_neW (Room.wide hr)) (pv 0) (pe_lst pa_nil) (nomark _)) (pw_and1 (pt_cmpR op_gt (pv 1) (C8.pe_gc rfl T.c_DEEPEST) (nomark _))))))))
       (pss_one (ps_ret pe_bl))
       pss_nil)
       (pss_cons (ps_for PassesOwn.never rfl (pi_list (pv 0)) (pg_name (i := 2) sc_is_nest_from.nd rfl (Or.inl rfl))
       (pss_one (ps_if (pt_val (pe_callB call_isi rfl T.b_isinstance (by decide +kernel) (pa_cons (pv 2) (pa_cons (pe_bltn (v := .ty "tuple") rfl T.b_tuple (by decide +kernel) rfl) pa_nil))))
       (pss_one (ps_ifC (PW.pt (pw_or (pt_cmpR op_ne (pe_callB call_lenL rfl T.b_len PySem.boot_len (pa_cons (pv 2) pa_nil)) pe_int (nomark _)) (pw_or (pt_not (pt_val (pe_own (ok_is_one_of T) hr (by omega) rfl (pa_cons (pe_ix ix_seq (pv 2) pe_int (fun _ _ => rfl)) (pa_cons (C8.pe_gc rfl T.c_OPENING) pa_nil))))) (pw_or1 (pt_not (pt_val (pe_own ih hr (Nat.le_refl _) rfl (pa_cons (pe_ix ix_seq (pv 2) pe_int (fun _ _ => rfl)) (pa_cons (pe_op op_add (pv 1) pe_int) pa_nil)))))))))
       (pss_one (ps_ret pe_bl))
       pss_nil))
       (pss_one (ps_if (pt_not (pt_val (pe_own (ok_is_one_of T) hr (by omega) rfl (pa_cons (pv 2) (pa_cons (C8.pe_gc rfl T.c_LETTERS) pa_nil)))))
       (pss_one (ps_ret pe_bl))
       pss_nil)))))
       (pss_one (ps_ret pe_bl)))), ?_⟩
    rw [st_is_nest_from]
    wtm_at "unf"
    wtm_at "gx"
    refine g_ifH (b := false) (G := fun H1 => Same H H1) (fun Q q => ?_) (fun H1 s1 hb1 => ?_) (fun H1 s1 hb1 => ?_)
    · wtm_at "unf"
      wtm_at "gx"
      refine g_lst (by show 0 ≤ 100000; decide) fun em H2 nem s2 eem => ?_
      refine g_neWNil (by wtm_at "lk") (TrIs.same s2 ht) eem hk hd ?_
      cases ds with
      | nil =>
        refine g_nT ?_
        wtm_at "gx"
        exact q _ s2
      | cons d ds =>
        rw [hgt_cons] at hh
        refine g_nF ?_
        wtm_at "gx"
        exact q _ s2
    · cases hb1
    · wtm_at "unf"
      wtm_at "gx"
      refine ⟨_, rfl, ⟨_, sq_of (by wtm_at "lk")⟩, for_lst xs (fun pre σ H' => ∃ (ds1 ds2 : List Nd) (A2 : List Addr) (y : Option V), ds = ds1 ++ ds2 ∧ Same H H' ∧ σ = [some (V.ref b), some (V.int k), y] ∧ TrIs H (xs.drop pre.length) ds2 A2)
        ⟨[], ds, A, _, rfl, s1, rfl, ht⟩ (fun pre post σ H' e hv => ?_) (fun pre x post σ H' e hv => ?_) (fun σ H' hv => ?_)⟩
      · obtain ⟨ds1, ds2, A2, y, e1, sH, rfl, t2⟩ := hv
        exact sq_of (by wtm_at "lk")
      · obtain ⟨ds1, ds2, A2, y, e1, sH, rfl, t2⟩ := hv
        rw [show xs.drop pre.length = x :: post by rw [e]; exact List.drop_left] at t2
        have hnx : xs.drop (pre ++ [x]).length = post := by
          rw [e, show pre ++ x :: post = (pre ++ [x]) ++ post by simp]
          exact List.drop_left
        cases t2 with
        | @cons _ _ d ds3 B A3 ti t3 =>
        have hmem : d ∈ ds := by rw [e1]; simp
        have hok := mem_ndOk hmem hk
        have hhg := mem_hgt hmem
        have hdd := mem_deeps hmem
        cases ti with
        | let_ c =>
          rw [ndOk1] at hok
          wtm_at "unf"
          wtm_at "gx"
          refine ⟨c, LET, rfl, ?_⟩
          rw [decide_eq_true hok]
          wtm_at "gx"
          exact ⟨ds1 ++ [.let_ c], ds3, A3, _, by rw [e1]; simp, sH, rfl, by rw [hnx]; exact t3⟩
        | num i =>
          simp [ndOk1] at hok
        | @br t b' o xs' ds' A' h1 h2 h3 =>
          rw [ndOk1] at hok
          rw [hgI] at hhg
          rw [Nd.deep] at hdd
          have ht' : H' t = some (.tup [Tx [o], V.ref b']) := sH _ _ h1
          wtm_at "unf"
          wtm_at "gx"
          refine g_ifH (b := false) (G := fun H1 => Same H' H1) (fun Q q => ?_) (fun H1 s1 hb1 => ?_) (fun H1 s1 hb1 => ?_)
          · wtm_at "unf"
            wtm_at "gx"
            refine ⟨o, OPN, rfl, ?_⟩
            rw [decide_eq_true hok.1]
            wtm_at "gx"
            cases n with
            | zero => omega
            | succ n =>
              refine ⟨b', xs', ds', A', k + 1, rfl, sH _ _ h2, TrIs.same sH h3, hok.2, by omega, by omega, by omega, fun H2 s2 => ?_⟩
              wtm_at "gx"
              exact q _ s2
          · cases hb1
          · exact ⟨ds1 ++ [.br o ds'], ds3, A3, _, by rw [e1]; simp, sH.trans s1, rfl, by rw [hnx]; exact t3⟩
      · obtain ⟨ds1, ds2, A2, y, e1, sH, rfl, t2⟩ := hv
        wtm_at "unf"
        wtm_at "gx"
        exact q _ sH
/-! is_nest -/
def sp_is_nest : Sp := fun vs H Q _ => ∃ (b : Addr) (xs : List V) (ds : List Nd) (A : List Addr), vs = [.ref b] ∧ H b = some (.lst xs) ∧ TrIs H xs ds A ∧ ndOk ds ∧ hgt ds ≤ 60 ∧ Nd.deeps ds ≤ 60 ∧ ∀ H', Same H H' → Q (.bl true) H'
theorem ok_is_nest (T : Facts K mg) : C8.Cal P w K mg base 65 "is_nest" sp_is_nest [] := by
  refine calD T.f_is_nest sc_is_nest (fun vs H Q E h => ?_) (fun f cdv A outer s H vs Q E hr h => ?_)
  · obtain ⟨b, xs, ds, A, rfl, hb, ht, hk, hh, hd, q⟩ := h; rfl
  · obtain ⟨b, xs, ds, A, rfl, hb, ht, hk, hh, hd, q⟩ := h
    refine ⟨_, (pss_one (ps_ret (pe_own (ok_is_nest_from T 62) hr (by omega) rfl (pa_cons (pv 0) (pa_cons pe_int pa_nil))))), ?_⟩
    rw [st_is_nest]
    wtm_at "unf"
    wtm_at "gx"
    exact ⟨b, xs, ds, A, 1, rfl, hb, ht, hk, by omega, by omega, by show _ ≤ 61; omega, q⟩
/-! text_of -/
def sp_text_of : Sp := fun vs H Q _ => ∃ (b : Addr) (xs : List V) (ds : List Nd) (A : List Addr), vs = [.ref b] ∧ H b = some (.lst xs) ∧ TrIs H xs ds A ∧ ndOk ds ∧ hgt ds ≤ 60 ∧ Nd.deeps ds ≤ 60 ∧ (txN ds).length ≤ 1000 ∧ ∀ H', Same H H' → Q (Tx (txN ds)) H'
theorem ok_text_of (T : Facts K mg) : C8.Cal P w K mg base 66 "text_of" sp_text_of [] := by
  refine calD T.f_text_of sc_text_of (fun vs H Q E h => ?_) (fun f cdv A outer s H vs Q E hr h => ?_)
  · obtain ⟨b, xs, ds, A, rfl, hb, ht, hk, hh, hd, hl, q⟩ := h; rfl
  · obtain ⟨b, xs, ds, A, rfl, hb, ht, hk, hh, hd, hl, q⟩ := h
    refine ⟨_, (pss_cons (ps_if (pt_not (pt_val (pe_own (ok_is_nest T) hr (by omega) rfl (pa_cons (pv 0) pa_nil))))
       (pss_one ps_never)
       pss_nil)
       (pss_one (ps_ret (pe_own (ok_joined T 62) hr (by omega) rfl (pa_cons (pv 0) pa_nil))))), ?_⟩
    rw [st_text_of]
    wtm_at "unf"
    wtm_at "gx"
    refine ⟨b, xs, ds, A, rfl, hb, ht, hk, hh, hd, fun H1 s1 => ?_⟩
    wtm_at "gx"
    exact ⟨b, xs, ds, A, rfl, s1 _ _ hb, TrIs.same s1 ht, by show _ ≤ 61; omega, hl, hk, q _ s1⟩
end
end K12

set_option maxHeartbeats 4000000
namespace K12
open PySem PySem.Spec PyProof.Rows L2 SX Ly
local macro_rules | `(tactic| wtm_at "unf") => `(tactic| (try simp only [tMetX, tOwnX, tChain, tSeq, tNext, tBreak, tCont, tDrop, tRet, tRetN, tIfS, tAsg, tAug, tC, tOp, tUn, tNil, tCons, tOwn, tCB, tTest, tB, tAnd, tOr, tNot, tAndV, tOrV, tNotV, tIf, gName, gSub, tBM, tBM0, tM0, tM1, tSl, tPart_eq, tNoPart, tLst_eq, tTup_eq, tRevL_eq, tReplT, tRevS, tDGet_eq, sDPut_eq, tDNewT_eq, tMet, tMak, tFld_eq, sFld_eq, C8.tCut, wipe, tYes, gTup, gCons, gNil, List.set_cons_zero, List.set_cons_succ, if_true, if_false, Bool.false_eq_true, Bool.not_true, Bool.not_false, true_and, reduceIte, cx_K, tFor_eq, tLc_eq, iStr, iList, iTup, iRng1, iRng2, iRng3, iEnum, iZip, iEnumS, iZipS]))
local macro_rules | `(tactic| wtm_at "ne") => `(tactic| first | assumption | (apply Ne.symm; assumption) | (apply ne_new; (· assumption); (· wtm_at "lk")) | (apply Ne.symm; apply ne_new; (· assumption); (· wtm_at "lk")))
local macro_rules | `(tactic| wtm_at "lk") => `(tactic| first | assumption | exact upd_same | (apply Same.get; (· assumption); (· wtm_at "lk")) | (apply But.get; (· assumption); (· wtm_at "ne"); (· wtm_at "lk")))
local macro_rules | `(tactic| wtm_at "sq") => `(tactic| first | assumption | (apply sq_of; wtm_at "lk") | (apply Same.seq; (· assumption); (· wtm_at "sq")) | (apply But.sq; (· assumption); (· wtm_at "ne"); (· wtm_at "sq")))
local macro_rules | `(tactic| wtm_at "fr") => `(tactic| first | assumption | (apply Same.fr; (· assumption); (· wtm_at "sm")) | (apply But.fr; (· assumption); (· wtm_at "sm"); (· wtm_at "ne")))
local macro_rules | `(tactic| wtm_at "sm") => `(tactic| first | exact Same.refl _ | exact But.refl | assumption | (apply Same.tr; (· assumption); (· wtm_at "sm")) | (apply Same.b0; (· assumption); (· wtm_at "sm"); (· wtm_at "fr")) | (apply But.sa; (· assumption); (· wtm_at "sm")) | (apply But.tr; (· assumption); (· wtm_at "sm")) | (apply But.b0; (· assumption); (· wtm_at "sm"); (· wtm_at "fr")) | (apply Same.toBut; wtm_at "sm"))
local macro_rules | `(tactic| wtm_at "sc") => `(tactic| first | exact Int.zero_lt_one | (show (0 : Int) < _; omega) | (show (0 : Int) < _; decide) | exact ⟨by omega, by omega⟩ | exact .inl ⟨by omega, by omega⟩ | exact .inr ⟨by omega, by omega⟩)
local macro_rules | `(tactic| wtm_at "go1") => `(tactic| first | ((with_reducible apply g_var); (· exact rfl)) | with_reducible apply g_I0 | ((with_reducible apply g_I); (· wtm_at "sc")) | with_reducible apply g_U | with_reducible apply g_ipI | ((with_reducible apply g_addT); (· first | omega | (simp; done) | (simp; omega))) | with_reducible apply g_inT | with_reducible apply g_ninT | ((with_reducible apply g_lenT); (· omega)) | with_reducible apply g_findT1 | with_reducible apply g_str | with_reducible apply g_part | with_reducible apply g_intB | ((with_reducible apply g_ixL); (· wtm_at "sq"); (· exact rfl)) | ((with_reducible apply g_setL); (· wtm_at "lk"); (· exact rfl)) | ((with_reducible apply g_eq); (· rfl)) | ((with_reducible apply g_ne); (· rfl)))
local macro_rules | `(tactic| wtm_at "go") => `(tactic| repeat wtm_at "go1")
local macro_rules | `(tactic| wtm_at "lp") => `(tactic| skip)
local macro_rules | `(tactic| wtm_at "om") => `(tactic| first | omega | (simp; done) | (simp; omega) | (simp at *; omega))
local macro_rules | `(tactic| wtm_at "ty") => `(tactic| first | exact ty_str | exact ty_int | exact ty_bl | exact ty_non | (apply ty_lst; wtm_at "lk") | (apply ty_tup; wtm_at "lk"))
local macro_rules | `(tactic| wtm_at "kb") => `(tactic| first | exact kb_str_str | exact kb_str_int | exact kb_str_bool | exact kb_str_list | exact kb_str_tuple | exact kb_int_str | exact kb_int_int | exact kb_int_bool | exact kb_int_list | exact kb_int_tuple | exact kb_bool_str | exact kb_bool_int | exact kb_bool_bool | exact kb_bool_list | exact kb_bool_tuple | exact kb_list_str | exact kb_list_int | exact kb_list_bool | exact kb_list_list | exact kb_list_tuple | exact kb_tuple_str | exact kb_tuple_int | exact kb_tuple_bool | exact kb_tuple_list | exact kb_tuple_tuple | exact kb_NoneType_str | exact kb_NoneType_int | exact kb_NoneType_bool | exact kb_NoneType_list | exact kb_NoneType_tuple | exact kb_dict_str | exact kb_dict_int | exact kb_dict_bool | exact kb_dict_list | exact kb_dict_tuple)
local macro_rules | `(tactic| wtm_at "gx1") => `(tactic| first | ((with_reducible apply g_eqS); (· exact rfl)) | ((with_reducible apply g_neS); (· exact rfl)) | wtm_at "go1" | with_reducible apply g_min2 | with_reducible apply g_max2 | with_reducible apply g_T | with_reducible apply g_F | with_reducible apply g_NT | with_reducible apply g_NF | with_reducible apply g_nT | with_reducible apply g_nF | with_reducible apply g_RT | with_reducible apply g_RF | ((with_reducible apply g_isi); (· wtm_at "ty"); (· wtm_at "kb")) | ((with_reducible apply g_ixAU3); (· wtm_at "lk"); (· exact rfl)) | ((with_reducible apply g_ixAL3); (· wtm_at "lk"); (· exact rfl)) | ((with_reducible apply g_ixU3); (· wtm_at "lk"); (· exact rfl)) | ((with_reducible apply g_lenL3); (· wtm_at "lk")) | ((with_reducible apply g_lenU3); (· wtm_at "lk")) | ((with_reducible apply g_tyL3); (· wtm_at "lk")) | ((with_reducible apply g_lenT); (· wtm_at "pv")) | wtm_at "tr" | with_reducible apply g_ET | with_reducible apply g_EF | with_reducible apply g_EnT | with_reducible apply g_EnF)
local macro_rules | `(tactic| wtm_at "pv") => `(tactic| first | exact rfl | assumption | omega | (simp; done) | (simp; omega))
local macro_rules | `(tactic| wtm_at "tr") => `(tactic| first | ((with_reducible apply g_Td); (· wtm_at "pv")) | ((with_reducible apply g_Fd); (· wtm_at "pv")) | ((with_reducible apply g_NTd); (· wtm_at "pv")) | ((with_reducible apply g_NFd); (· wtm_at "pv")) | ((with_reducible apply g_nTd); (· wtm_at "pv")) | ((with_reducible apply g_nFd); (· wtm_at "pv")) | ((with_reducible apply g_RTd); (· wtm_at "pv")) | ((with_reducible apply g_RFd); (· wtm_at "pv")))
local macro_rules | `(tactic| wtm_at "gx") => `(tactic| repeat wtm_at "gx1")

section
variable {P : Program} {w : World} {K : PySem.W.Frag} {mg : Str → Option Value} {base : Heap}
theorem g_extend {H : Hp} {Q : VK} {p a : Addr} {xs ys : List V} (h : H p = some (.lst xs)) (h2 : H a = some (.lst ys)) (hl : xs.length + ys.length ≤ 100000) (q : ∀ H1, But p H H1 → H1 p = some (.lst (xs ++ ys)) → Q .non H1) : rExtend (.ref p) [.ref a] H Q :=
  ⟨p, a, xs, ys, rfl, rfl, h, h2, Nat.le_trans hl (by decide), q _ But.set upd_same⟩
theorem Bld.renew {N N' : Addr → Prop} {H : Hp} {b : Addr} {bs : List Addr} {fs : List (List Nd × Nat)} {cur : List Nd} (B : Bld N H b bs fs cur) (h : ∀ x ys, N x → H x = some (.lst ys) → N' x) : Bld N' H b bs fs cur := by
  obtain ⟨xs, A1, A, h1, h2, h3, h4, h5⟩ := B.ex
  refine ⟨xs, A1, A, h1, h2, h3, h4, fun x hx => ?_⟩
  have hN := h5 x hx
  rcases List.mem_cons.mp hx with rfl | hx
  · exact h _ _ hN h1
  · rcases List.mem_append.mp hx with hx | hx
    · obtain ⟨ys, e⟩ := TrIs.lsts h2 x hx
      exact h _ _ hN e
    · obtain ⟨ys, e⟩ := Ctx.lsts h3 x hx
      exact h _ _ hN e
theorem drop_rev {b b' : Addr} {bs bs' : List Addr} {n : Nat} (h : (b :: bs).drop n = b' :: bs') : (bs.reverse.map V.ref ++ [V.ref b]).take ((b :: bs).length - n) = bs'.reverse.map V.ref ++ [V.ref b'] := by
  have e1 : bs.reverse.map V.ref ++ [V.ref b] = ((b :: bs).reverse).map V.ref := by simp
  have e2 : bs'.reverse.map V.ref ++ [V.ref b'] = ((b' :: bs').reverse).map V.ref := by simp
  rw [e1, e2, ← h, ← List.map_take]
  congr 1
  have : ((b :: bs).drop n).reverse = (b :: bs).reverse.take ((b :: bs).length - n) := by
    rw [List.take_reverse]
    congr 1
    rcases Nat.le_total n (b :: bs).length with hn | hn
    · rw [show (b :: bs).length - ((b :: bs).length - n) = n by omega]
    · rw [show (b :: bs).length - ((b :: bs).length - n) = (b :: bs).length by omega, List.drop_length, List.drop_of_length_le hn]
  exact this.symm
theorem last_at {b b' : Addr} {bs : List Addr} {n : Nat} (h : (b :: bs).drop n = [b']) : (bs.reverse.map V.ref ++ [V.ref b])[0]? = some (V.ref b') := by
  have e := drop_rev (bs' := []) h
  have hl := congrArg List.length h
  rw [List.length_drop] at hl
  rw [show (b :: bs).length - n = 1 by simpa using hl] at e
  have e2 : (bs.reverse.map V.ref ++ [V.ref b])[0]? = ((bs.reverse.map V.ref ++ [V.ref b]).take 1)[0]? := by rw [List.getElem?_take]; simp
  rw [e2, e]
  rfl
/-! lines_of -/
def sp_lines_of : Nat → Sp
  | 0 => fun _ _ _ _ => False
  | n + 1 => fun vs H Q _ => ∃ (b : Addr) (xs : List V) (ds : List Nd) (A : List Addr) (k : Nat), vs = [.ref b, .int k] ∧ H b = some (.lst xs) ∧ TrIs H xs ds A ∧ ndOk ds ∧ Nd.deeps ds ≤ n ∧ k + Nd.deeps ds ≤ 1000 ∧ (txN ds).length ≤ 1000 ∧ ∀ (p : Addr) (H' : Hp), H p = none → Same H H' → H' p = some (.lst ((lnN ds k).map Tx)) → Q (.ref p) H'
theorem ok_lines_of (T : Facts K mg) (n : Nat) : C8.Cal P w K mg base (n + 1) "lines_of" (sp_lines_of n) [] := by
  induction n with
  | zero => exact cal_false T.f_lines_of sc_lines_of (fun _ _ _ _ h => h)
  | succ n ih =>
  rw [show n + 1 + 1 = (n + 1) + 1 by omega]
  refine calD T.f_lines_of sc_lines_of (fun vs H Q E h => ?_) (fun f cdv A outer s H vs Q E hr h => ?_)
  · obtain ⟨b, xs, ds, A, k, rfl, hb, ht, hok, hd, hk, hl, q⟩ := h; rfl
  · obtain ⟨b, xs, ds, A, k, rfl, hb, ht, hok, hd, hk, hl, q⟩ := h
    refine ⟨_, (pss_cons (ps_set (i := 2) sc_lines_of.nd rfl (Or.inl rfl) (pe_lst pa_nil))
       (pss_cons (ps_for PassesOwn.never rfl (pi_list (pv 0)) (pg_name (i := 3) sc_lines_of.nd rfl (Or.inl rfl))
       (pss_one (ps_if (pt_val (pe_callB call_isi rfl T.b_isinstance (by decide +kernel) (pa_cons (pv 3) (pa_cons (pe_bltn (v := .ty "tuple") rfl T.b_tuple (by decide +kernel) rfl) pa_nil))))
       (pss_cons (ps_expr (pe_bm PySem.F.plainAttrs_list PySem.F.slot_list_append PySem.F.type_list_append mt_append (pv 2) (pa_cons (pe_op op_addT (pe_op op_mulT (pe_strS (l := [32]) (by decide +kernel)) (pv 1)) (pe_ix ix_seq (pv 3) pe_int (fun _ _ => rfl))) pa_nil)))
       (pss_one (ps_expr (pe_bm PySem.F.plainAttrs_list PySem.F.slot_list_extend PySem.F.type_list_extend mt_extend (pv 2) (pa_cons (pe_own ih hr (Nat.le_refl _) rfl (pa_cons (pe_ix ix_seq (pv 3) pe_int (fun _ _ => rfl)) (pa_cons (pe_op op_add (pv 1) pe_int) pa_nil))) pa_nil)))))
       (pss_one (ps_expr (pe_bm PySem.F.plainAttrs_list PySem.F.slot_list_append PySem.F.type_list_append mt_append (pv 2) (pa_cons (pe_op op_addT (pe_op op_mulT (pe_strS (l := [32]) (by decide +kernel)) (pv 1)) (pv 3)) pa_nil)))))))
       (pss_one (ps_ret (pv 2))))), ?_⟩
    rw [st_lines_of]
    wtm_at "unf"
    wtm_at "gx"
    refine g_lst (by show 0 ≤ 100000; decide) fun r H1 nr s1 er => ?_
    wtm_at "gx"
    refine ⟨_, rfl, ⟨_, sq_of (s1 _ _ hb)⟩, for_lst xs (fun pre σ H' => ∃ (ds1 ds2 : List Nd) (A2 : List Addr) (y : Option V), ds = ds1 ++ ds2 ∧ Same H H' ∧ H' r = some (.lst ((lnN ds1 k).map Tx)) ∧ σ = [some (V.ref b), some (V.int k), some (V.ref r), y] ∧ TrIs H (xs.drop pre.length) ds2 A2)
      ⟨[], ds, A, _, rfl, s1, by rw [lnN]; exact er, rfl, ht⟩ (fun pre post σ H' e hv => ?_) (fun pre x post σ H' e hv => ?_) (fun σ H' hv => ?_)⟩
    · obtain ⟨ds1, ds2, A2, y, e1, sH, er2, rfl, t2⟩ := hv
      exact sq_of (sH _ _ hb)
    · obtain ⟨ds1, ds2, A2, y, e1, sH, er2, rfl, t2⟩ := hv
      rw [show xs.drop pre.length = x :: post by rw [e]; exact List.drop_left] at t2
      have hnx : xs.drop (pre ++ [x]).length = post := by
        rw [e, show pre ++ x :: post = (pre ++ [x]) ++ post by simp]
        exact List.drop_left
      cases t2 with
      | @cons _ _ d ds3 B A3 ti t3 =>
      have hmem : d ∈ ds := by rw [e1]; simp
      have hok1 := mem_ndOk hmem hok
      have hdd := mem_deeps hmem
      have hlen : (txN ds1).length + ((txI d).length + (txN ds3).length) ≤ 1000 := by
        rw [e1, txN_app, txN, List.length_append, List.length_append] at hl
        exact hl
      have hm1 := lnN_many ds1 k
      cases ti with
      | let_ c =>
        wtm_at "unf"
        wtm_at "gx"
        refine g_mulT (n := k) (by omega) (by simp; omega) ?_
        wtm_at "gx"
        refine g_addT (by have := blk_len k; unfold blk at this; rw [this]; simp; omega) ?_
        refine g_append1 er2 (by simp; omega) fun H2 b2 e2 => ?_
        refine ⟨ds1 ++ [.let_ c], ds3, A3, _, by rw [e1]; simp, Same.b0 b2 sH nr, ?_, rfl, by rw [hnx]; exact t3⟩
        rw [e2, lnN_app, lnN_one, lnI, List.map_append]
        rfl
      | num i =>
        simp [ndOk1] at hok1
      | @br t b' o xs' ds' A' h1 h2 h3 =>
        rw [ndOk1] at hok1
        rw [Nd.deep] at hdd
        have ht' : H' t = some (.tup [Tx [o], V.ref b']) := sH _ _ h1
        have hlt : (txI (.br o ds')).length = (txN ds').length + 2 := by rw [txI]; simp
        wtm_at "unf"
        wtm_at "gx"
        refine g_mulT (n := k) (by omega) (by simp; omega) ?_
        wtm_at "gx"
        refine g_addT (by have := blk_len k; unfold blk at this; rw [this]; simp; omega) ?_
        refine g_append1 er2 (by simp; omega) fun H2 b2 e2 => ?_
        have sH2 : Same H H2 := Same.b0 b2 sH nr
        have ht2 : H2 t = some (.tup [Tx [o], V.ref b']) := sH2 _ _ h1
        wtm_at "gx"
        cases n with
        | zero => omega
        | succ n =>
          have hm2 := lnN_many ds' (k + 1)
          refine ⟨b', xs', ds', A', k + 1, rfl, sH2 _ _ h2, TrIs.same sH2 h3, hok1.2, by omega, by omega, by omega, fun p3 H3 np3 s3 e3 => ?_⟩
          refine g_extend (s3 _ _ e2) e3 (by simp; omega) fun H4 b4 e4 => ?_
          refine ⟨ds1 ++ [.br o ds'], ds3, A3, _, by rw [e1]; simp, Same.b0 b4 (sH2.trans s3) nr, ?_, rfl, by rw [hnx]; exact t3⟩
          rw [e4, lnN_app, lnN_one, lnI, List.map_append]
          simp only [List.map_cons, List.append_assoc]
          rfl
    · obtain ⟨ds1, ds2, A2, y, e1, sH, er2, rfl, t2⟩ := hv
      rw [List.drop_length] at t2
      cases t2
      rw [List.append_nil] at e1
      subst e1
      wtm_at "unf"
      wtm_at "gx"
      exact q r H' nr sH er2
/-! outline -/
def sp_outline : Sp := fun vs H Q _ => ∃ (b : Addr) (xs : List V) (ds : List Nd) (A : List Addr), vs = [.ref b] ∧ H b = some (.lst xs) ∧ TrIs H xs ds A ∧ ndOk ds ∧ Nd.deeps ds ≤ 60 ∧ (txN ds).length ≤ 1000 ∧ ∀ H', Same H H' → Q (Tx (TL.joinL [10] (lnN ds 0))) H'
theorem ok_outline (T : Facts K mg) : C8.Cal P w K mg base 64 "outline" sp_outline [] := by
  refine calD T.f_outline sc_outline (fun vs H Q E h => ?_) (fun f cdv A outer s H vs Q E hr h => ?_)
  · obtain ⟨b, xs, ds, A, rfl, hb, ht, hok, hd, hl, q⟩ := h; rfl
  · obtain ⟨b, xs, ds, A, rfl, hb, ht, hok, hd, hl, q⟩ := h
    refine ⟨_, (pss_one (ps_ret (pe_m1 PySem.F.slot_str_join PySem.F.type_str_join mt_joinT (pe_strS (l := [10]) (by decide +kernel)) (pe_own (ok_lines_of T 62) hr (by omega) rfl (pa_cons (pv 0) (pa_cons pe_int pa_nil)))))), ?_⟩
    rw [st_outline]
    wtm_at "unf"
    wtm_at "gx"
    refine ⟨b, xs, ds, A, 0, rfl, hb, ht, hok, by show _ ≤ 61; omega, by omega, hl, fun p H1 np s1 e1 => ?_⟩
    have hm := lnN_many ds 0
    have hsum := sum_le (n := 61) (lnN ds 0) fun x hx => by have := lnN_len ds 0 x hx; omega
    refine g_joinT (sq_of e1) (by simp only [List.length_cons, List.length_nil]; omega) (q _ s1)
/-! read_outline -/
def sp_read_outline : Sp := fun vs H Q _ => ∃ l : List Nat, vs = [Tx (TL.joinL [10] (lnN (nestD l) 0))] ∧ l.length ≤ 120 ∧ clean l ∧ (∀ c ∈ l, isSg c) ∧ ∀ (b : Addr) (xs : List V) (A : List Addr) (H' : Hp), Same H H' → H' b = some (.lst xs) → TrIs H' xs (nestD l) A → (b :: A).Nodup → (∀ x ∈ b :: A, H x = none) → Q (.ref b) H'
theorem ok_read_outline (T : Facts K mg) : C8.Cal P w K mg base 1 "read_outline" sp_read_outline [] := by
  refine calD T.f_read_outline sc_read_outline (fun vs H Q E h => ?_) (fun f cdv A outer s H vs Q E hr h => ?_)
  · obtain ⟨l, rfl, hl, hc, hs, q⟩ := h; rfl
  · obtain ⟨l, rfl, hl, hc, hs, q⟩ := h
    refine ⟨_, (pss_cons (ps_set (i := 1) sc_read_outline.nd rfl (Or.inl rfl) (pe_lst (pa_cons (pe_lst pa_nil) pa_nil)))
       (pss_cons (ps_if (pt_cmpR op_eq (pv 0) (pe_strS (l := []) (by decide +kernel)) (nomark _))
       (pss_one (ps_ret (pe_ix ix_list (pv 1) pe_int (fun _ _ => rfl))))
       pss_nil)
       (pss_cons (ps_for PassesOwn.never rfl (pi_list (pe_m1 PySem.F.slot_str_split PySem.F.type_str_split mt_splitT (pv 0) (pe_strS (l := [10]) (by decide +kernel)))) (pg_name (i := 2) sc_read_outline.nd rfl (Or.inl rfl))
       (pss_cons (ps_set (i := 3) sc_read_outline.nd rfl (Or.inl rfl) (pe_op op_sub (pe_callB call_lenT rfl T.b_len PySem.boot_len (pa_cons (pv 2) pa_nil)) pe_int))
       (pss_cons (ps_ifC (PW.pt (pw_or (pt_cmpR op_lt (pv 3) pe_int (nomark _)) (pw_or (pt_cmpR op_ge (pv 3) (pe_callB call_lenL rfl T.b_len PySem.boot_len (pa_cons (pv 1) pa_nil)) (nomark _)) (pw_or (pt_cmpR op_ge (pv 3) (C8.pe_gc rfl T.c_DEEPEST) (nomark _)) (pw_or1 (pt_cmpR op_ne (pe_slice sl_tx (pv 2) po_none (po_some (pv 3))) (pe_op op_mulT (pe_strS (l := [32]) (by decide +kernel)) (pv 3)) (nomark _)))))))
       (pss_one ps_never)
       pss_nil)
       (pss_cons (ps_set (i := 4) sc_read_outline.nd rfl (Or.inl rfl) (pe_ix ix_txt (pv 2) (pv 3) (fun _ _ => rfl)))
       (pss_cons (ps_set (i := 1) sc_read_outline.nd rfl (Or.inl rfl) (pe_slice sl_list (pv 1) po_none (po_some (pe_op op_add (pv 3) pe_int))))
       (pss_one (ps_if (pt_cmpR op_inT (pv 4) (C8.pe_gc rfl T.c_LETTERS) (by rfl))
       (pss_one (ps_expr (pe_bm PySem.F.plainAttrs_list PySem.F.slot_list_append PySem.F.type_list_append mt_append (pe_ix ix_list (pv 1) (pe_un un_neg pe_int) (fun _ _ => rfl)) (pa_cons (pv 4) pa_nil))))
       (pss_one (ps_if (pt_cmpR op_inT (pv 4) (C8.pe_gc rfl T.c_OPENING) (by rfl))
       (pss_cons (ps_set (i := 5) sc_read_outline.nd rfl (Or.inl rfl) (pe_lst pa_nil))
       (pss_cons (ps_expr (pe_bm PySem.F.plainAttrs_list PySem.F.slot_list_append PySem.F.type_list_append mt_append (pe_ix ix_list (pv 1) (pe_un un_neg pe_int) (fun _ _ => rfl)) (pa_cons (pe_tup (pa_cons (pv 4) (pa_cons (pv 5) pa_nil))) pa_nil)))
       (pss_one (ps_expr (pe_bm PySem.F.plainAttrs_list PySem.F.slot_list_append PySem.F.type_list_append mt_append (pv 1) (pa_cons (pv 5) pa_nil))))))
       (pss_one ps_never))))))))))
       (pss_one (ps_ret (pe_ix ix_list (pv 1) pe_int (fun _ _ => rfl))))))), ?_⟩
    rw [st_read_outline]
    have hln := lnS_nest hc
    have htx := tx_nest hc
    have hdp := nest_deep hc
    have hm := lnN_many (nestD l) 0
    rw [htx] at hm
    have hsum := sum_le (n := 61) (lnN (nestD l) 0) fun x hx => by have := lnN_len (nestD l) 0 x hx; omega
    wtm_at "unf"
    wtm_at "gx"
    refine g_lst (by show 0 ≤ 100000; decide) fun r0 H1 nr0 s1 er0 => ?_
    refine g_lst (by show 1 ≤ 100000; decide) fun ar0 H2 nar0 s2 ear0 => ?_
    have har00 : H ar0 = none := s1.free nar0
    have hra0 : r0 ≠ ar0 := ne_new nar0 er0
    wtm_at "gx"
    refine g_test (fun h0 => ?_) (fun h0 => ?_)
    · have hls : lnN (nestD l) 0 = [] := by
        cases hq : lnN (nestD l) 0 with
        | nil => rfl
        | cons x r =>
          have hx := (lnN_len (nestD l) 0 x (by rw [hq]; exact List.mem_cons_self ..)).1
          rw [hq, Tx_inj] at h0
          cases r with
          | nil =>
            have h0' : x = [] := h0
            rw [h0'] at hx
            simp at hx
          | cons y r =>
            have h0' : x ++ ([10] ++ TL.joinL [10] (y :: r)) = [] := h0
            have := congrArg List.length h0'
            simp at this
      have hl0 := lines_none hc hls
      subst hl0
      wtm_at "gx"
      exact q r0 [] [] H2 (s1.trans s2) (s2 _ _ er0) .nil (by simp) (by simpa using nr0)
    · have hls : lnN (nestD l) 0 ≠ [] := fun hq => h0 (by rw [hq]; rfl)
      wtm_at "gx"
      refine g_splitT (by simp) (by decide) (by
        have : ∀ ls : List (List Nat), (TL.joinL [10] ls).length ≤ (ls.map (·.length)).sum + ls.length := by
          intro ls
          induction ls with
          | nil => simp [TL.joinL]
          | cons x r ih =>
            cases r with
            | nil => show x.length ≤ _; simp
            | cons y r =>
              show (x ++ ([10] ++ TL.joinL [10] (y :: r))).length ≤ _
              rw [List.length_append, List.length_append, List.map_cons, List.sum_cons, List.length_cons (as := y :: r)]
              simp only [List.length_cons, List.length_nil] at ih ⊢
              omega
        have := this (lnN (nestD l) 0)
        omega) fun la H3 nla s3 ela => ?_
      rw [TL.spl_join hls fun x hx hmem => by
        rcases lnN_sgn (nestD l) 0 (nest_ok hs) x hx 10 hmem with h | h
        · omega
        · revert h; unfold isSg; decide] at ela
      have hla0 : H la = none := s1.free (s2.free nla)
      have hr0la : r0 ≠ la := ne_new nla (s2 _ _ er0)
      have har0la : ar0 ≠ la := ne_new nla ear0
      refine ⟨la, rfl, ⟨_, sq_of ela⟩, for_lst ((lnN (nestD l) 0).map Tx) (fun pre σ H' => ∃ (p1 p2 : List Nat) (b : Addr) (bs : List Addr) (ar : Addr) (y2 y3 y4 y5 : Option V), l = p1 ++ p2 ∧ pre = (lnS (nst p1)).map Tx ∧ σ = [some (Tx (TL.joinL [10] (lnN (nestD l) 0))), some (V.ref ar), y2, y3, y4, y5] ∧ Bld (fun x => H x = none ∧ x ≠ ar ∧ x ≠ la) H' b bs (nst p1).1 (nst p1).2 ∧ H' ar = some (.lst (bs.reverse.map V.ref ++ [V.ref b])) ∧ H ar = none ∧ ar ≠ la ∧ Same H H' ∧ H' la = some (.lst ((lnN (nestD l) 0).map Tx)))
        ⟨[], l, r0, [], ar0, _, _, _, _, rfl, by rw [lnS_nil]; rfl, rfl, Bld.start (s3 _ _ (s2 _ _ er0)) ⟨nr0, hra0, hr0la⟩, s3 _ _ ear0, har00, har0la, s1.trans (s2.trans s3), ela⟩ (fun pre post σ H' e hv => ?_) (fun pre x post σ H' e hv => ?_) (fun σ H' hv => ?_)⟩
      · obtain ⟨p1, p2, b, bs, ar, y2, y3, y4, y5, el, ep, rfl, B, ea, har, harla, sH, ela'⟩ := hv
        exact sq_of ela'
      · obtain ⟨p1, p2, b, bs, ar, y2, y3, y4, y5, el, ep, rfl, B, ea, har, harla, sH, ela'⟩ := hv
        have e' : (lnS (nst l)).map Tx = (lnS (nst p1)).map Tx ++ x :: post := by rw [hln, e, ep]
        obtain ⟨q1, q2, eq, h1q, h2q⟩ := List.map_eq_append_iff.mp e'
        have h1q' : q1 = lnS (nst p1) := (List.map_inj_right (f := Tx) fun a b h => Tx_inj.mp h).mp h1q
        obtain ⟨ln, rest, hq2, hx, hrest⟩ := List.map_eq_cons_iff.mp h2q
        rw [h1q', hq2] at eq
        obtain ⟨cl, c, post', ec, hcl, hcn, hln2, hls2⟩ := next_line hc p2 p1 el eq
        subst hx
        have el2 : l = (p1 ++ cl) ++ c :: post' := by rw [el, ec]; simp
        have hcs : isSg c := hs c (by rw [el2]; simp)
        have hdeep := deep_half hc el2 hcn
        have hcount := nst_closers hc cl p1 (c :: post') (by rw [el, ec]) hcl
        obtain ⟨b', bs', hdr, B'⟩ := Bld.closes hc cl p1 (c :: post') b bs (by rw [el, ec]) hcl B
        have hbl : bs.length = (nst p1).1.length := by
          obtain ⟨_, _, _, _, _, h3, _, _⟩ := B.ex
          exact Ctx.len h3
        have hlk : ln.length = (nst (p1 ++ cl)).1.length + 1 := by rw [hln2, List.length_append, blk_len]; rfl
        have hcut := drop_rev hdr
        rw [show (b :: bs).length - cl.length = (nst (p1 ++ cl)).1.length + 1 by rw [List.length_cons]; omega] at hcut
        generalize hk : (nst (p1 ++ cl)).1.length = k at hlk hdeep hcount hcut
        have hat : ln[k]? = some c := by
          rw [hln2, hk, List.getElem?_append_right (by rw [blk_len]; exact Nat.le_refl _), blk_len, Nat.sub_self]
          rfl
        have htk : ln.take k = blk k := by rw [hln2, hk]; exact List.take_left' (blk_len k)
        wtm_at "unf"
        wtm_at "gx"
        rw [hlk, show ((k + 1 : Nat) : Int) - 1 = (k : Int) by omega]
        refine g_ifC (b := false) (fun Q q => ?_) (fun h => ?_) (fun h => ?_)
        · wtm_at "unf"
          wtm_at "gx"
          refine g_slTo (by omega) (by omega) ?_
          rw [Int.toNat_natCast, htk]
          wtm_at "gx"
          refine g_mulT (n := k) (by omega) (by simp; omega) ?_
          refine ⟨rfl, ?_⟩
          refine ⟨_, rfl, ?_⟩
          have : decide (Tx (blk k) = Tx (repT k [32])) = true := decide_eq_true rfl
          rw [this]
          exact q
        · cases h
        · wtm_at "unf"
          wtm_at "gx"
          refine g_ixT (by omega) (atI_of hat) ?_
          wtm_at "gx"
          refine g_slL (sq_of ea) fun ar2 H4 nar2 s4 ear2 => ?_
          rw [show (k : Int) + 1 = ((k + 1 : Nat) : Int) by omega, cut_to, hcut] at ear2
          have har2 : H ar2 = none := sH.free nar2
          have hlane : ar2 ≠ la := Ne.symm (ne_new nar2 ela')
          have ela4 := s4 _ _ ela'
          have B4 : Bld (fun x => H x = none ∧ x ≠ ar2 ∧ x ≠ la) H4 b' bs' (nst (p1 ++ cl)).1 (nst (p1 ++ cl)).2 := (Bld.renew (N' := fun x => H x = none ∧ x ≠ ar2 ∧ x ≠ la) B' fun x ys hN hx => ⟨hN.1, ne_new nar2 hx, hN.2.2⟩).same s4
          have sH4 := sH.trans s4
          obtain ⟨xs, hb, hxl, ⟨hbn, hba, hbla⟩, hbl2⟩ := B4.cur
          have bd := nst_bd (p1 ++ cl)
          have bd1 := bd.1
          have bd2 := bd.2.1
          have hpl : (p1 ++ cl).length < 120 := by rw [el2] at hl; simp at hl ⊢; omega
          wtm_at "gx"
          refine g_test (fun hlt => ?_) (fun hlt => ?_)
          · have h1 := let_opn c hlt
            wtm_at "gx"
            refine g_ixL (sq_of ear2) (atI_last1 _ _) ?_
            wtm_at "gx"
            refine g_append1 hb (by omega) fun H5 b5 e5 => ?_
            have en : nst (p1 ++ cl ++ [c]) = ((nst (p1 ++ cl)).1, (nst (p1 ++ cl)).2 ++ [.let_ c]) := by rw [nst_snoc]; unfold nstep; rw [if_neg hcn, if_neg h1]
            refine ⟨p1 ++ cl ++ [c], post', b', bs', ar2, _, _, _, _, by rw [el2]; simp, ?_, rfl, ?_, b5 _ _ (Ne.symm hba) ear2, har2, hlane, Same.b0 b5 sH4 hbn, b5 _ _ (Ne.symm hbla) ela4⟩
            · rw [hls2, List.map_append, ← ep]
              rfl
            · rw [en]
              exact B4.letter hb b5 e5
          · have h1 : c ∈ OPN := by
              rcases hcs with h | h
              · exact absurd h hlt
              · exact (brk_or.mp h).resolve_right hcn
            wtm_at "gx"
            refine g_lst (by show 0 ≤ 100000; decide) fun ia H5 nia s5 eia => ?_
            have ea3 := s5 _ _ ear2
            have hb3 := s5 _ _ hb
            have ni0 : H ia = none := sH4.free nia
            have hia : ia ≠ ar2 := Ne.symm (ne_new nia ear2)
            have hiala : ia ≠ la := Ne.symm (ne_new nia ela4)
            wtm_at "gx"
            refine g_ixL (sq_of ea3) (atI_last1 _ _) ?_
            wtm_at "gx"
            refine g_tup (by show 2 ≤ 100000; decide) fun t H6 nt s6 et => ?_
            have ea4 := s6 _ _ ea3
            have hb4 := s6 _ _ hb3
            refine g_append1 hb4 (by omega) fun H7 b7 e7 => ?_
            have ea5 := b7 _ _ (Ne.symm hba) ea4
            wtm_at "gx"
            refine g_append1 ea5 (by simp; omega) fun H8 b8 e8 => ?_
            have B5 := B4.open_ (s5.trans s6) hb4 b7 (s6 _ _ eia) et nia ⟨ni0, hia, hiala⟩ e7
            have en : nst (p1 ++ cl ++ [c]) = (((nst (p1 ++ cl)).2, c) :: (nst (p1 ++ cl)).1, []) := by rw [nst_snoc]; unfold nstep; rw [if_neg hcn, if_pos h1]
            refine ⟨p1 ++ cl ++ [c], post', ia, b' :: bs', ar2, _, _, _, _, by rw [el2]; simp, ?_, rfl, ?_, ?_, har2, hlane, Same.b0 b8 (Same.b0 b7 (sH4.trans (s5.trans s6)) hbn) har2, b8 _ _ (Ne.symm hlane) (b7 _ _ (Ne.symm hbla) (s6 _ _ (s5 _ _ ela4)))⟩
            · rw [hls2, List.map_append, ← ep]
              rfl
            · rw [en]
              exact B5.but b8 ea5 (fun hn => hn.2.1 rfl)
            · rw [e8]
              simp
      · obtain ⟨p1, p2, b, bs, ar, y2, y3, y4, y5, el, ep, rfl, B, ea, har, harla, sH, ela'⟩ := hv
        have hall : lnS (nst l) = lnS (nst p1) := by
          rw [hln]
          exact (List.map_inj_right (f := Tx) fun a b h => Tx_inj.mp h).mp ep
        have hcl := no_line hc p2 p1 el hall
        obtain ⟨b', bs', hdr, B'⟩ := Bld.closes hc p2 p1 [] b bs (by rw [el, List.append_nil]) hcl B
        rw [← el, nst_clean hc] at B'
        obtain ⟨xs, A1, A, h1, h2, h3, h4, h5⟩ := B'.ex
        cases h3
        rw [List.append_nil] at h4 h5
        wtm_at "unf"
        wtm_at "gx"
        refine g_ixL (sq_of ea) (atI_of (k := 0) (last_at hdr)) ?_
        exact q b' xs A1 H' sH h1 h2 h4 (fun x hx => (h5 x hx).1)
end
end K12

set_option maxHeartbeats 4000000
namespace K12
open PySem PySem.Spec PyProof.Rows L2 SX Ly
local macro_rules | `(tactic| wtm_at "unf") => `(tactic| (try simp only [tMetX, tOwnX, tChain, tSeq, tNext, tBreak, tCont, tDrop, tRet, tRetN, tIfS, tAsg, tAug, tC, tOp, tUn, tNil, tCons, tOwn, tCB, tTest, tB, tAnd, tOr, tNot, tAndV, tOrV, tNotV, tIf, gName, gSub, tBM, tBM0, tM0, tM1, tSl, tPart_eq, tNoPart, tLst_eq, tTup_eq, tRevL_eq, tReplT, tRevS, tDGet_eq, sDPut_eq, tDNewT_eq, tMet, tMak, tFld_eq, sFld_eq, C8.tCut, wipe, tYes, gTup, gCons, gNil, List.set_cons_zero, List.set_cons_succ, if_true, if_false, Bool.false_eq_true, Bool.not_true, Bool.not_false, true_and, reduceIte, cx_K, tFor_eq, tLc_eq, iStr, iList, iTup, iRng1, iRng2, iRng3, iEnum, iZip, iEnumS, iZipS]))
local macro_rules | `(tactic| wtm_at "ne") => `(tactic| first | assumption | (apply Ne.symm; assumption) | (apply ne_new; (· assumption); (· wtm_at "lk")) | (apply Ne.symm; apply ne_new; (· assumption); (· wtm_at "lk")))
local macro_rules | `(tactic| wtm_at "lk") => `(tactic| first | assumption | exact upd_same | (apply Same.get; (· assumption); (· wtm_at "lk")) | (apply But.get; (· assumption); (· wtm_at "ne"); (· wtm_at "lk")))
local macro_rules | `(tactic| wtm_at "sq") => `(tactic| first | assumption | (apply sq_of; wtm_at "lk") | (apply Same.seq; (· assumption); (· wtm_at "sq")) | (apply But.sq; (· assumption); (· wtm_at "ne"); (· wtm_at "sq")))
local macro_rules | `(tactic| wtm_at "fr") => `(tactic| first | assumption | (apply Same.fr; (· assumption); (· wtm_at "sm")) | (apply But.fr; (· assumption); (· wtm_at "sm"); (· wtm_at "ne")))
local macro_rules | `(tactic| wtm_at "sm") => `(tactic| first | exact Same.refl _ | exact But.refl | assumption | (apply Same.tr; (· assumption); (· wtm_at "sm")) | (apply Same.b0; (· assumption); (· wtm_at "sm"); (· wtm_at "fr")) | (apply But.sa; (· assumption); (· wtm_at "sm")) | (apply But.tr; (· assumption); (· wtm_at "sm")) | (apply But.b0; (· assumption); (· wtm_at "sm"); (· wtm_at "fr")) | (apply Same.toBut; wtm_at "sm"))
local macro_rules | `(tactic| wtm_at "sc") => `(tactic| first | exact Int.zero_lt_one | (show (0 : Int) < _; omega) | (show (0 : Int) < _; decide) | exact ⟨by omega, by omega⟩ | exact .inl ⟨by omega, by omega⟩ | exact .inr ⟨by omega, by omega⟩)
local macro_rules | `(tactic| wtm_at "go1") => `(tactic| first | ((with_reducible apply g_var); (· exact rfl)) | with_reducible apply g_I0 | ((with_reducible apply g_I); (· wtm_at "sc")) | with_reducible apply g_U | with_reducible apply g_ipI | ((with_reducible apply g_addT); (· first | omega | (simp; done) | (simp; omega))) | with_reducible apply g_inT | with_reducible apply g_ninT | ((with_reducible apply g_lenT); (· omega)) | with_reducible apply g_findT1 | with_reducible apply g_str | with_reducible apply g_part | with_reducible apply g_intB | ((with_reducible apply g_ixL); (· wtm_at "sq"); (· exact rfl)) | ((with_reducible apply g_setL); (· wtm_at "lk"); (· exact rfl)) | ((with_reducible apply g_eq); (· rfl)) | ((with_reducible apply g_ne); (· rfl)))
local macro_rules | `(tactic| wtm_at "go") => `(tactic| repeat wtm_at "go1")
local macro_rules | `(tactic| wtm_at "lp") => `(tactic| skip)
local macro_rules | `(tactic| wtm_at "om") => `(tactic| first | omega | (simp; done) | (simp; omega) | (simp at *; omega))
local macro_rules | `(tactic| wtm_at "ty") => `(tactic| first | exact ty_str | exact ty_int | exact ty_bl | exact ty_non | (apply ty_lst; wtm_at "lk") | (apply ty_tup; wtm_at "lk"))
local macro_rules | `(tactic| wtm_at "kb") => `(tactic| first | exact kb_str_str | exact kb_str_int | exact kb_str_bool | exact kb_str_list | exact kb_str_tuple | exact kb_int_str | exact kb_int_int | exact kb_int_bool | exact kb_int_list | exact kb_int_tuple | exact kb_bool_str | exact kb_bool_int | exact kb_bool_bool | exact kb_bool_list | exact kb_bool_tuple | exact kb_list_str | exact kb_list_int | exact kb_list_bool | exact kb_list_list | exact kb_list_tuple | exact kb_tuple_str | exact kb_tuple_int | exact kb_tuple_bool | exact kb_tuple_list | exact kb_tuple_tuple | exact kb_NoneType_str | exact kb_NoneType_int | exact kb_NoneType_bool | exact kb_NoneType_list | exact kb_NoneType_tuple | exact kb_dict_str | exact kb_dict_int | exact kb_dict_bool | exact kb_dict_list | exact kb_dict_tuple)
local macro_rules | `(tactic| wtm_at "gx1") => `(tactic| first | ((with_reducible apply g_eqS); (· exact rfl)) | ((with_reducible apply g_neS); (· exact rfl)) | wtm_at "go1" | with_reducible apply g_min2 | with_reducible apply g_max2 | with_reducible apply g_T | with_reducible apply g_F | with_reducible apply g_NT | with_reducible apply g_NF | with_reducible apply g_nT | with_reducible apply g_nF | with_reducible apply g_RT | with_reducible apply g_RF | ((with_reducible apply g_isi); (· wtm_at "ty"); (· wtm_at "kb")) | ((with_reducible apply g_ixAU3); (· wtm_at "lk"); (· exact rfl)) | ((with_reducible apply g_ixAL3); (· wtm_at "lk"); (· exact rfl)) | ((with_reducible apply g_ixU3); (· wtm_at "lk"); (· exact rfl)) | ((with_reducible apply g_lenL3); (· wtm_at "lk")) | ((with_reducible apply g_lenU3); (· wtm_at "lk")) | ((with_reducible apply g_tyL3); (· wtm_at "lk")) | ((with_reducible apply g_lenT); (· wtm_at "pv")) | wtm_at "tr" | with_reducible apply g_ET | with_reducible apply g_EF | with_reducible apply g_EnT | with_reducible apply g_EnF)
local macro_rules | `(tactic| wtm_at "pv") => `(tactic| first | exact rfl | assumption | omega | (simp; done) | (simp; omega))
local macro_rules | `(tactic| wtm_at "tr") => `(tactic| first | ((with_reducible apply g_Td); (· wtm_at "pv")) | ((with_reducible apply g_Fd); (· wtm_at "pv")) | ((with_reducible apply g_NTd); (· wtm_at "pv")) | ((with_reducible apply g_NFd); (· wtm_at "pv")) | ((with_reducible apply g_nTd); (· wtm_at "pv")) | ((with_reducible apply g_nFd); (· wtm_at "pv")) | ((with_reducible apply g_RTd); (· wtm_at "pv")) | ((with_reducible apply g_RFd); (· wtm_at "pv")))
local macro_rules | `(tactic| wtm_at "gx") => `(tactic| repeat wtm_at "gx1")

section
variable {P : Program} {w : World} {K : PySem.W.Frag} {mg : Str → Option Value} {base : Heap}
/-! tuples of places -/
def TpI (H : Hp) (v : V) (p : List Nat) : Prop := ∃ t, v = .ref t ∧ H t = some (.tup (p.map fun k : Nat => V.int k))
theorem TpI.same {H H' : Hp} {v : V} {p : List Nat} (s : Same H H') (h : TpI H v p) : TpI H' v p := by
  obtain ⟨t, rfl, h⟩ := h
  exact ⟨t, rfl, s _ _ h⟩
theorem TpI.but {H H' : Hp} {v : V} {p : List Nat} {a : Addr} {ys : List V} (ha : H a = some (.lst ys)) (s : But a H H') (h : TpI H v p) : TpI H' v p := by
  obtain ⟨t, rfl, h⟩ := h
  exact ⟨t, rfl, s _ _ (fun e => by rw [e, ha] at h; cases h) h⟩
theorem pd_imp {α β : Type} {R S : α → β → Prop} (h : ∀ a b, R a b → S a b) : ∀ {xs : List α} {ys : List β}, Paired R xs ys → Paired S xs ys
  | _, _, .nil => .nil
  | _, _, .cons x r => .cons (h _ _ x) (pd_imp h r)
theorem pd_app {α β : Type} {R : α → β → Prop} : ∀ {xs xs' : List α} {ys ys' : List β}, Paired R xs ys → Paired R xs' ys' → Paired R (xs ++ xs') (ys ++ ys')
  | _, _, _, _, .nil, h => h
  | _, _, _, _, .cons x r, h => .cons x (pd_app r h)
theorem pd_len {α β : Type} {R : α → β → Prop} : ∀ {xs : List α} {ys : List β}, Paired R xs ys → xs.length = ys.length
  | _, _, .nil => rfl
  | _, _, .cons x r => by rw [List.length_cons, List.length_cons, pd_len r]
theorem pd_at {α β : Type} {R : α → β → Prop} : ∀ {xs : List α} {ys : List β} {i : Nat} {x : α}, Paired R xs ys → xs[i]? = some x → ∃ y, ys[i]? = some y ∧ R x y
  | _, _, 0, x, .cons h r, e => by cases e; exact ⟨_, rfl, h⟩
  | _, _, i + 1, x, @Paired.cons _ _ _ _ _ l1 l2 h r, e => pd_at (xs := l1) (ys := l2) (i := i) r e
theorem pd_take {α β : Type} {R : α → β → Prop} : ∀ {xs : List α} {ys : List β} (n : Nat), Paired R xs ys → Paired R (xs.take n) (ys.take n)
  | _, _, 0, h => by simp; exact .nil
  | _, _, n + 1, .nil => by simp; exact .nil
  | _, _, n + 1, .cons x r => by rw [List.take_succ_cons, List.take_succ_cons]; exact .cons x (pd_take n r)
/-! one of a nest's items -/
theorem TrIs.get {H : Hp} : ∀ {xs : List V} {ds : List Nd} {A : List Addr} {i : Nat} {v : V}, TrIs H xs ds A → xs[i]? = some v → ∃ d B, ds[i]? = some d ∧ TrI H v d B ∧ ∀ x ∈ B, x ∈ A
  | _, _, _, 0, v, .cons h r, e => by cases e; exact ⟨_, _, rfl, h, fun x hx => List.mem_append_left _ hx⟩
  | _, _, _, i + 1, v, .cons h r, e => by
    obtain ⟨d, B, h1, h2, h3⟩ := TrIs.get r e
    exact ⟨d, B, h1, h2, fun x hx => List.mem_append_right _ (h3 x hx)⟩
theorem take_snoc' {α : Type} {l : List α} {i : Nat} {x : α} (h : l[i]? = some x) : l.take (i + 1) = l.take i ++ [x] := by rw [List.take_add_one, h]; rfl
theorem sub_mem : ∀ {ds : List Nd} {k o : Nat} {es : List Nd}, ds[k]? = some (.br o es) → (subN es).length + 1 ≤ (subN ds).length
  | d :: ds, 0, o, es, h => by
    cases h
    rw [subN, subI, List.length_append, List.length_cons]
    omega
  | d :: ds, k + 1, o, es, h => by
    have := sub_mem (ds := ds) h
    rw [subN, List.length_append]
    omega
theorem sub_take (ds : List Nd) (k : Nat) : (subN (ds.take k)).length ≤ (subN ds).length := by
  have := subN_app (ds.take k) (ds.drop k)
  rw [List.take_append_drop] at this
  rw [this, List.length_append]
  omega
mutual
theorem pthI_len : ∀ (d : Nd) (k : Nat) (p : List Nat), p ∈ pthI d k → p ≠ [] ∧ p.length ≤ d.deep
  | .let_ c, k, p, h => by simp [pthI] at h
  | .num c, k, p, h => by simp [pthI] at h
  | .br o ds, k, p, h => by
    rw [pthI] at h
    rw [Nd.deep]
    rcases List.mem_cons.mp h with rfl | h
    · exact ⟨by simp, by simp⟩
    · obtain ⟨q, hq, rfl⟩ := List.mem_map.mp h
      have := pthN_len ds 0 q hq
      exact ⟨by simp, by rw [List.length_cons]; omega⟩
theorem pthN_len : ∀ (ds : List Nd) (k : Nat) (p : List Nat), p ∈ pthN ds k → p ≠ [] ∧ p.length ≤ Nd.deeps ds
  | [], k, p, h => by rw [pthN] at h; cases h
  | d :: ds, k, p, h => by
    rw [pthN] at h
    rw [Nd.deeps]
    rcases List.mem_append.mp h with h | h
    · have := pthI_len d k p h
      exact ⟨this.1, by omega⟩
    · have := pthN_len ds (k + 1) p h
      exact ⟨this.1, by omega⟩
end
theorem g_isNd {K : PySem.W.Frag} {H : Hp} {v : V} {d : Nd} {A : List Addr} {Q : VK} (h : TrI H v d A) (q : Q (.bl (match d with | .br _ _ => true | _ => false)) H) : rIsi K [v, .ty "tuple"] H Q := by
  cases h with
  | let_ c => exact g_isi (b := false) ty_str (by decide +kernel) q
  | num c => exact g_isi (b := false) ty_int (by decide +kernel) q
  | br h1 h2 h3 => exact g_isi (b := true) (ty_tup h1) (by decide +kernel) q
theorem g_extendP {H : Hp} {Q : VK} {p a : Addr} {xs ys : List V} (h : H p = some (.lst xs)) (h2 : H a = some (.lst ys)) (hl : xs.length + ys.length ≤ 100000) (q : ∀ H1, But p H H1 → H1 p = some (.lst (xs ++ ys)) → Q .non H1) : rExtend (.ref p) [.ref a] H Q := ⟨p, a, xs, ys, rfl, rfl, h, h2, Nat.le_trans hl (by decide), q _ But.set upd_same⟩
/-! the depths of a nest's brackets -/
def dps (ds : List Nd) : List Nat := ds.filterMap fun d => match d with | .br _ es => some (1 + Nd.deeps es) | _ => none
theorem dps_max : ∀ (ds : List Nd), (∀ y ∈ dps ds, y ≤ Nd.deeps ds) ∧ (Nd.deeps ds = 0 ∨ Nd.deeps ds ∈ dps ds)
  | [] => by simp [dps, Nd.deeps]
  | d :: ds => by
    obtain ⟨h1, h2⟩ := dps_max ds
    rw [Nd.deeps]
    cases d with
    | let_ c =>
      have e : dps (Nd.let_ c :: ds) = dps ds := rfl
      rw [e, deep_let, Nat.zero_max]
      exact ⟨h1, h2⟩
    | num c =>
      have e : dps (Nd.num c :: ds) = dps ds := rfl
      have e2 : (Nd.num c).deep = 0 := by simp [Nd.deep]
      rw [e, e2, Nat.zero_max]
      exact ⟨h1, h2⟩
    | br o es =>
      have e : dps (Nd.br o es :: ds) = (1 + Nd.deeps es) :: dps ds := rfl
      rw [e, deep_br]
      refine ⟨fun y hy => ?_, .inr ?_⟩
      · rcases List.mem_cons.mp hy with rfl | hy
        · omega
        · have := h1 y hy; omega
      · by_cases h : Nd.deeps ds ≤ Nd.deeps es + 1
        · rw [Nat.max_eq_left h]
          simp [Nat.add_comm]
        · rw [Nat.max_eq_right (by omega)]
          rcases h2 with h2 | h2
          · omega
          · exact List.mem_cons_of_mem _ h2
theorem dps_app (a b : List Nd) : dps (a ++ b) = dps a ++ dps b := List.filterMap_append
theorem dps_len (ds : List Nd) : (dps ds).length ≤ ds.length := List.length_filterMap_le _ _
theorem g_eqTp {K : PySem.W.Frag} {H : Hp} {Q : VK} {a b : Addr} {p : List Nat} (h1 : SqT K H a (p.map fun k : Nat => V.int k)) (h2 : SqT K H b []) (hp : p ≠ []) (q : Q (.bl false) H) : rEqD K (.ref a) (.ref b) H Q := by
  have e : (p.map fun k : Nat => V.int k) = (p.map fun k : Nat => (k : Int)).map V.int := by simp
  rw [e] at h1
  refine ⟨.tuple ((p.map fun k : Nat => (k : Int)).map PyData.int), .tuple [], .tup h1 (dpi _), .tup h2 .nil, ?_, rfl, ?_⟩
  · unfold SeqAt.shaped
    rw [show PyData.canLay0 (.tuple ((p.map fun k : Nat => (k : Int)).map PyData.int)) = PyData.canLayAll0 ((p.map fun k : Nat => (k : Int)).map PyData.int) from rfl, cani, show PyData.depth (.tuple ((p.map fun k : Nat => (k : Int)).map PyData.int)) = PyData.depthAll ((p.map fun k : Nat => (k : Int)).map PyData.int) + 1 from rfl, depi]
    rfl
  · cases p with
    | nil => exact absurd rfl hp
    | cons x p => exact q
theorem for_tup {K : PySem.W.Frag} {σ : L2.St} {H : Hp} {a : Addr} {g : TG} {tb : TS} {D : Ends} (xs : List V) (Pv : List V → L2.St → Hp → Prop) (h0 : Pv [] σ H) (hl : ∀ pre post σ H, xs = pre ++ post → Pv pre σ H → SqT K H a xs)
    (hs : ∀ pre x post σ H, xs = pre ++ x :: post → Pv pre σ H → g x σ H fun σ2 H2 => tb { D with nx := Pv (pre ++ [x]), ct := Pv (pre ++ [x]), bk := D.nx } σ2 H2) (hd : ∀ σ H, Pv xs σ H → D.nx σ H) : ForR (Itt K a) g tb D σ H := by
  refine for_it (walk_tup (xs := xs)) (fun i σ H => Pv (xs.take i) σ H) (by simpa using h0) (fun i σ H _ p => hl _ (xs.drop i) σ H (List.take_append_drop i xs).symm p) (fun i v σ H H' hi p y => ?_) (fun σ H p => hd σ H (by simpa using p))
  obtain ⟨rfl, hc⟩ := y
  obtain ⟨e1, e2⟩ := cut_at hc
  have z := hs _ _ _ _ _ e2 p
  rw [← e1] at z
  exact z
/-! depth_of -/
def sp_depth_of : Nat → Sp
  | 0 => fun _ _ _ _ => False
  | n + 1 => fun vs H Q _ => ∃ (b : Addr) (xs : List V) (ds : List Nd) (A : List Addr), vs = [.ref b] ∧ H b = some (.lst xs) ∧ TrIs H xs ds A ∧ Nd.deeps ds ≤ n ∧ Nd.wides ds ≤ 10000 ∧ ∀ H', Same H H' → Q (.int (Nd.deeps ds : Nat)) H'
theorem ok_depth_of (T : Facts K mg) (n : Nat) : C8.Cal P w K mg base (n + 1) "depth_of" (sp_depth_of n) [] := by
  induction n with
  | zero => exact cal_false T.f_depth_of sc_depth_of (fun _ _ _ _ h => h)
  | succ n ih =>
  rw [show n + 1 + 1 = (n + 1) + 1 by omega]
  refine calD T.f_depth_of sc_depth_of (fun vs H Q E h => ?_) (fun f cdv A outer s H vs Q E hr h => ?_)
  · obtain ⟨b, xs, ds, A, rfl, hb, ht, hd, hw, q⟩ := h; rfl
  · obtain ⟨b, xs, ds, A, rfl, hb, ht, hd, hw, q⟩ := h
    refine ⟨_, (pss_one (ps_ret (pe_callB (cr_max rfl) rfl T.b_max (by decide +kernel) (pa_cons (pe_op op_cat (pe_lst (pa_cons pe_int pa_nil)) (pe_lc (own := [("item", 1)]) (by rfl) sc_depth_of.nd (pi_list (pv 0)) (blkOk_by (own := [("item", 1)]) (N := N_depth_of) (sc := defScope s_depth_of) (by decide +kernel)) (fun _ _ _ _ _ => (pg_name (i := 1) sc_depth_of.nd rfl (Or.inl rfl))) (fun _ _ _ _ _ => (pts_one (pt_val (pe_callB (r := rIsi K) call_isi rfl T.b_isinstance (by decide +kernel) (pa_cons (pv 1) (pa_cons (pe_bltn (v := .ty "tuple") rfl T.b_tuple (by decide +kernel) rfl) pa_nil)))))) (fun _ _ _ _ _ => (pe_op op_add pe_int (pe_own ih hr (Nat.le_refl _) rfl (pa_cons (pe_ix (r := rIx K) ix_seq (pv 1) pe_int (fun _ _ => rfl)) pa_nil)))))) pa_nil)))), ?_⟩
    rw [st_depth_of]
    have hxl : xs.length = ds.length := TrIs.len ht
    have hdl := len_wides ds
    wtm_at "unf"
    wtm_at "gx"
    refine g_lst (by show 1 ≤ 100000; decide) fun z H1 nz s1 ez => ?_
    wtm_at "gx"
    refine ⟨b, rfl, ⟨_, sq_of (s1 _ _ hb)⟩, lc_lst xs fun d H2 nd s2 ed => ⟨fun pre H' => H' d = some (.lst ((dps (ds.take pre.length)).map fun k : Nat => V.int k)) ∧ Same H1 H', ⟨ed, s2⟩, fun pre post H' e hv => sq_of (hv.2 _ _ (s1 _ _ hb)), fun pre x post H' e hv => ?_, fun H' hv => ?_⟩⟩
    · obtain ⟨ed', sH⟩ := hv
      obtain ⟨dd, B, h1, h2, h3⟩ := TrIs.get (TrIs.same (s1.trans sH) ht) (mid_at e)
      have hmem : dd ∈ ds := List.mem_of_getElem? h1
      have hl1 : (dps (ds.take pre.length)).length ≤ 10000 := by
        have a1 := dps_len (ds.take pre.length)
        have a2 : (ds.take pre.length).length ≤ ds.length := by rw [List.length_take]; omega
        omega
      have hnx : dps (ds.take (pre ++ [x]).length) = dps (ds.take pre.length) ++ dps [dd] := by rw [show (pre ++ [x]).length = pre.length + 1 by simp, take_snoc' h1, dps_app]
      wtm_at "unf"
      refine ⟨rfl, ?_⟩
      wtm_at "gx"
      refine g_isNd h2 ?_
      cases h2 with
      | let_ c => exact ⟨false, rfl, by rw [if_neg Bool.false_ne_true]; exact ⟨by rw [hnx, ed']; simp [dps], sH⟩⟩
      | num c => exact ⟨false, rfl, by rw [if_neg Bool.false_ne_true]; exact ⟨by rw [hnx, ed']; simp [dps], sH⟩⟩
      | @br t b' o xs' es A' g1 g2 g3 =>
        have hdd := mem_deeps hmem
        have hww := mem_wides hmem
        rw [Nd.deep] at hdd
        rw [Nd.wide] at hww
        refine ⟨true, rfl, ?_⟩
        rw [if_pos rfl]
        wtm_at "gx"
        cases n with
        | zero => omega
        | succ n =>
          refine ⟨b', xs', es, A', rfl, g2, g3, by omega, by omega, fun H3 s3 => ?_⟩
          wtm_at "gx"
          refine lc_put (s3 _ _ ed') (by simp; omega) fun H4 b4 e4 => ⟨?_, Same.b0 b4 (sH.trans s3) nd⟩
          rw [hnx, e4]
          simp [dps]
    · obtain ⟨ed', sH⟩ := hv
      rw [hxl, List.take_length] at ed'
      have := dps_len ds
      refine g_cat (sH _ _ ez) ed' (by simp; omega) fun c H3 nc s3 ec => ?_
      rw [show [V.int 0] ++ (dps ds).map (fun k : Nat => V.int k) = (((0 :: dps ds : List Nat).map fun k : Nat => (k : Int))).map V.int by simp] at ec
      refine g_maxL (sq_of ec) (by simp) fun m hm hy => ?_
      obtain ⟨k, hk, rfl⟩ := List.mem_map.mp hm
      obtain ⟨h1, h2⟩ := dps_max ds
      have e : k = Nd.deeps ds := by
        have a1 : k ≤ Nd.deeps ds := by
          rcases List.mem_cons.mp hk with rfl | hk
          · exact Nat.zero_le _
          · exact h1 k hk
        have a2 : (Nd.deeps ds : Int) ≤ (k : Int) := by
          refine hy _ (List.mem_map.mpr ⟨Nd.deeps ds, ?_, rfl⟩)
          rcases h2 with h2 | h2
          · rw [h2]; simp
          · exact List.mem_cons_of_mem _ h2
        omega
      rw [e]
      exact q _ (s1.trans (sH.trans s3))
/-! paths_of -/
def sp_paths_of : Nat → Sp
  | 0 => fun _ _ _ _ => False
  | n + 1 => fun vs H Q _ => ∃ (b : Addr) (xs : List V) (ds : List Nd) (A : List Addr), vs = [.ref b] ∧ H b = some (.lst xs) ∧ TrIs H xs ds A ∧ Nd.deeps ds ≤ n ∧ Nd.wides ds ≤ 10000 ∧ (n ≤ 1000 ∧ (subN ds).length ≤ 10000) ∧ ∀ (r : Addr) (ys : List V) (H' : Hp), H r = none → Same H H' → H' r = some (.lst ys) → Paired (TpI H') ys (pthN ds 0) → Q (.ref r) H'
theorem ok_paths_of (T : Facts K mg) (n : Nat) : C8.Cal P w K mg base (n + 1) "paths_of" (sp_paths_of n) [] := by
  induction n with
  | zero => exact cal_false T.f_paths_of sc_paths_of (fun _ _ _ _ h => h)
  | succ n ih =>
  rw [show n + 1 + 1 = (n + 1) + 1 by omega]
  refine calD T.f_paths_of sc_paths_of (fun vs H Q E h => ?_) (fun f cdv A outer s H vs Q E hr h => ?_)
  · obtain ⟨b, xs, ds, A, rfl, hb, ht, hd, hw, hs, q⟩ := h; rfl
  · obtain ⟨b, xs, ds, A, rfl, hb, ht, hd, hw, hs, q⟩ := h
    refine ⟨_, (pss_cons (ps_set (i := 1) sc_paths_of.nd rfl (Or.inl rfl) (pe_lst pa_nil))
       (pss_cons (ps_for PassesOwn.never rfl (pi_enum rfl T.b_enumerate (pa_cons (pv 0) pa_nil)) (pg_tup rfl (pgs_cons (pg_name (i := 2) sc_paths_of.nd rfl (Or.inr rfl)) (pgs_cons (pg_name (i := 3) sc_paths_of.nd rfl (Or.inl rfl)) pgs_nil)))
       (pss_one (ps_if (pt_val (pe_callB call_isi rfl T.b_isinstance (by decide +kernel) (pa_cons (pv 3) (pa_cons (pe_bltn (v := .ty "tuple") rfl T.b_tuple (by decide +kernel) rfl) pa_nil))))
       (pss_cons (ps_expr (pe_bm PySem.F.plainAttrs_list PySem.F.slot_list_append PySem.F.type_list_append mt_append (pv 1) (pa_cons (pe_tup (pa_cons (pv 2) pa_nil)) pa_nil)))
       (pss_one (ps_expr (pe_bm PySem.F.plainAttrs_list PySem.F.slot_list_extend PySem.F.type_list_extend mt_extend (pv 1) (pa_cons (pe_lc (own := [("path", 4)]) (by rfl) sc_paths_of.nd (pi_list (pe_own ih hr (Nat.le_refl _) rfl (pa_cons (pe_ix ix_seq (pv 3) pe_int (fun _ _ => rfl)) pa_nil))) (blkOk_by (own := [("path", 4)]) (N := N_paths_of) (sc := defScope s_paths_of) (by decide +kernel)) (fun _ _ _ _ _ => (pg_name (i := 4) sc_paths_of.nd rfl (Or.inl rfl))) (fun _ _ _ _ _ => pts_nil) (fun _ _ _ _ _ => (pe_op (r := rCatT K) op_catT (pe_tup (pa_cons (pv 2) pa_nil)) (pv 4)))) pa_nil)))))
       pss_nil)))
       (pss_one (ps_ret (pv 1))))), ?_⟩
    rw [st_paths_of]
    have hxl : xs.length = ds.length := TrIs.len ht
    have hdl := len_wides ds
    wtm_at "unf"
    wtm_at "gx"
    refine g_lst (by show 0 ≤ 100000; decide) fun fa H1 nfa s1 efa => ?_
    wtm_at "gx"
    refine ⟨b, xs, rfl, sq_of (s1 _ _ hb), for_enum xs (fun pre σ H' => ∃ (ys : List V) (y2 y3 y4 : Option V), σ = [some (V.ref b), some (V.ref fa), y2, y3, y4] ∧ H' fa = some (.lst ys) ∧ Paired (TpI H') ys (pthN (ds.take pre.length) 0) ∧ Same H H') ⟨[], _, _, _, rfl, efa, by simp [pthN]; exact .nil, s1⟩ (fun pre post σ H' e hv => ?_) (fun pre x post σ H' t G e hv nt sG et => ?_) (fun σ H' hv => ?_)⟩
    · obtain ⟨ys, y2, y3, y4, rfl, ef, pd, sH⟩ := hv
      exact sq_of (sH _ _ hb)
    · obtain ⟨ys, y2, y3, y4, rfl, ef, pd, sH⟩ := hv
      obtain ⟨dd, B, h1, h2, h3⟩ := TrIs.get (TrIs.same (sH.trans sG) ht) (mid_at e)
      have hmem : dd ∈ ds := List.mem_of_getElem? h1
      have hdl' : (ds.take pre.length).length = pre.length := by
        rw [List.length_take]
        have := (List.getElem?_eq_some_iff.mp h1).1
        omega
      have hyl : ys.length = (subN (ds.take pre.length)).length := by rw [pd_len pd, pth_sub]
      have hyl2 := sub_take ds (pre.length + 1)
      rw [take_snoc' h1, subN_app, List.length_append] at hyl2
      have hnx : pthN (ds.take (pre ++ [x]).length) 0 = pthN (ds.take pre.length) 0 ++ pthI dd pre.length := by
        rw [show (pre ++ [x]).length = pre.length + 1 by simp, take_snoc' h1, pthN_app, pthN_one, hdl', Nat.zero_add]
      wtm_at "unf"
      refine ⟨t, _, rfl, .inl (.inl et), rfl, _, _, rfl, _, _, rfl, rfl, ?_⟩
      wtm_at "gx"
      refine g_isNd h2 ?_
      cases h2 with
      | let_ c => exact ⟨false, rfl, by rw [if_neg Bool.false_ne_true]; exact ⟨ys, _, _, _, rfl, sG _ _ ef, by rw [hnx]; simp [pthI]; exact pd_imp (fun _ _ h => h.same sG) pd, sH.trans sG⟩⟩
      | num c => exact ⟨false, rfl, by rw [if_neg Bool.false_ne_true]; exact ⟨ys, _, _, _, rfl, sG _ _ ef, by rw [hnx]; simp [pthI]; exact pd_imp (fun _ _ h => h.same sG) pd, sH.trans sG⟩⟩
      | @br t' b' o xs' es A' g1 g2 g3 =>
        have hdd := mem_deeps hmem
        have hww := mem_wides hmem
        have hss := sub_mem h1
        rw [Nd.deep] at hdd
        rw [Nd.wide] at hww
        rw [show subN [Nd.br o es] = Nd.br o es :: subN es by rw [subN, subN, subI]; simp, List.length_cons] at hyl2
        refine ⟨true, rfl, ?_⟩
        rw [if_pos rfl]
        wtm_at "unf"
        wtm_at "gx"
        refine g_tup (by show 1 ≤ 100000; decide) fun u G1 nu g1' eu => ?_
        wtm_at "gx"
        refine g_append1 (g1' _ _ (sG _ _ ef)) (by omega) fun G2 b2 ef2 => ?_
        have pd2 : Paired (TpI G2) (ys ++ [V.ref u]) (pthN (ds.take pre.length) 0 ++ [[pre.length]]) := pd_imp (fun _ _ h => h.but (g1' _ _ (sG _ _ ef)) b2) (pd_app (pd_imp (fun _ _ h => h.same (sG.trans g1')) pd) (.cons ⟨u, rfl, by rw [eu]; rfl⟩ .nil))
        have sH2 : Same H G2 := Same.b0 b2 (sH.trans (sG.trans g1')) nfa
        have g1'' : G2 t' = some (.tup [Tx [o], .ref b']) := b2 _ _ (fun e => by rw [e, sG _ _ ef] at g1; cases g1) (g1' _ _ g1)
        obtain ⟨dd2, B2, k1, k2, k3⟩ := TrIs.get (TrIs.same sH2 ht) (mid_at e)
        rw [h1] at k1
        cases k1
        cases k2 with
        | @br _ b'' _ xs'' _ A'' m1 m2 m3 =>
        wtm_at "unf"
        wtm_at "gx"
        cases n with
        | zero => omega
        | succ n =>
          refine ⟨b'', xs'', es, A'', rfl, m2, m3, by omega, by omega, ⟨by omega, by omega⟩, fun r zs G3 nr g3' er pz => ?_⟩
          refine ⟨r, rfl, ⟨_, sq_of er⟩, lc_lst zs fun d G4 nd g4 ed => ⟨fun pre' G' => ∃ ws : List V, G' d = some (.lst ws) ∧ Paired (TpI G') ws (((pthN es 0).take pre'.length).map (pre.length :: ·)) ∧ Same G3 G', ⟨[], ed, by simp; exact .nil, g4⟩, fun pre' post' G' e' hv' => ?_, fun pre' x' post' G' e' hv' => ?_, fun G' hv' => ?_⟩⟩
          · obtain ⟨ws, e1, e2, e3⟩ := hv'
            exact sq_of (e3 _ _ er)
          · obtain ⟨ws, e1, e2, e3⟩ := hv'
            obtain ⟨p, hp, tp, rfl, hpt⟩ := pd_at pz (mid_at e')
            have hpl := pthN_len es 0 p (List.mem_of_getElem? hp)
            have hwl : ws.length ≤ 10000 := by
              rw [pd_len e2, List.length_map, List.length_take, pth_sub]
              omega
            have hnx' : ((pthN es 0).take (pre' ++ [V.ref tp]).length).map (pre.length :: ·) = ((pthN es 0).take pre'.length).map (pre.length :: ·) ++ [pre.length :: p] := by
              rw [show (pre' ++ [V.ref tp]).length = pre'.length + 1 by simp, take_snoc' hp, List.map_append]; rfl
            wtm_at "unf"
            refine ⟨rfl, ?_⟩
            wtm_at "gx"
            refine g_tup (by show 1 ≤ 100000; decide) fun v1 G5 nv1 g5 ev1 => ?_
            wtm_at "gx"
            refine ⟨v1, tp, _, _, rfl, rfl, .inl (.inl ev1), .inl (.inl (g5 _ _ (e3 _ _ hpt))), by simp, ?_, fun h0 => ?_, fun h0 v2 nv2 => ?_⟩
            · simp
              have z2 : sizeLine = 2 ^ 24 := rfl
              omega
            · exact absurd (List.map_eq_nil_iff.mp h0) hpl.1
            · have s6 : Same G5 (upd G5 v2 (.tup ([V.int (pre.length : Nat)] ++ p.map fun k : Nat => V.int k))) := Same.new nv2
              have e6 : (upd G5 v2 (.tup ([V.int (pre.length : Nat)] ++ p.map fun k : Nat => V.int k))) v2 = some (.tup ([V.int (pre.length : Nat)] ++ p.map fun k : Nat => V.int k)) := upd_same
              generalize upd G5 v2 (.tup ([V.int (pre.length : Nat)] ++ p.map fun k : Nat => V.int k)) = G6 at s6 e6
              refine lc_put (s6 _ _ (g5 _ _ e1)) (by omega) fun G7 b7 e7 => ⟨_, e7, ?_, Same.b0 b7 (e3.trans (g5.trans s6)) nd⟩
              rw [hnx']
              exact pd_imp (fun _ _ h => h.but (s6 _ _ (g5 _ _ e1)) b7) (pd_app (pd_imp (fun _ _ h => h.same (g5.trans s6)) e2) (.cons ⟨v2, rfl, e6⟩ .nil))
          · obtain ⟨ws, e1, e2, e3⟩ := hv'
            rw [pd_len pz, List.take_length] at e2
            have hwl : ws.length = (subN es).length := by rw [pd_len e2, List.length_map, pth_sub]
            wtm_at "gx"
            have ef3 := e3 _ _ (g3' _ _ ef2)
            refine g_extendP ef3 e1 (by simp; omega) fun G5 b5 ef5 => ?_
            refine ⟨_, _, _, _, rfl, ef5, ?_, Same.b0 b5 (sH2.trans (g3'.trans e3)) nfa⟩
            rw [hnx, pthI, show pthN (ds.take pre.length) 0 ++ [pre.length] :: (pthN es 0).map (pre.length :: ·) = (pthN (ds.take pre.length) 0 ++ [[pre.length]]) ++ (pthN es 0).map (pre.length :: ·) by simp]
            exact pd_imp (fun _ _ h => h.but ef3 b5) (pd_app (pd_imp (fun _ _ h => h.same (g3'.trans e3)) pd2) e2)
    · obtain ⟨ys, y2, y3, y4, rfl, ef, pd, sH⟩ := hv
      rw [hxl, List.take_length] at pd
      wtm_at "unf"
      wtm_at "gx"
      exact q fa ys H' nfa sH ef pd
/-! copied -/
def sp_copied : Nat → Sp
  | 0 => fun _ _ _ _ => False
  | n + 1 => fun vs H Q _ => ∃ (b : Addr) (xs : List V) (ds : List Nd) (A : List Addr), vs = [.ref b] ∧ H b = some (.lst xs) ∧ TrIs H xs ds A ∧ Nd.deeps ds ≤ n ∧ Nd.wides ds ≤ 10000 ∧ ∀ (r : Addr) (ys : List V) (B : List Addr) (H' : Hp), Same H H' → H' r = some (.lst ys) → TrIs H' ys ds B → (r :: B).Nodup → (∀ x ∈ r :: B, H x = none) → Q (.ref r) H'
theorem ok_copied (T : Facts K mg) (n : Nat) : C8.Cal P w K mg base (n + 1) "copied" (sp_copied n) [] := by
  induction n with
  | zero => exact cal_false T.f_copied sc_copied (fun _ _ _ _ h => h)
  | succ n ih =>
  rw [show n + 1 + 1 = (n + 1) + 1 by omega]
  refine calD T.f_copied sc_copied (fun vs H Q E h => ?_) (fun f cdv A outer s H vs Q E hr h => ?_)
  · obtain ⟨b, xs, ds, A, rfl, hb, ht, hd, hw, q⟩ := h; rfl
  · obtain ⟨b, xs, ds, A, rfl, hb, ht, hd, hw, q⟩ := h
    refine ⟨_, (pss_cons (ps_set (i := 1) sc_copied.nd rfl (Or.inl rfl) (pe_lst pa_nil))
       (pss_cons (ps_for PassesOwn.never rfl (pi_list (pv 0)) (pg_name (i := 2) sc_copied.nd rfl (Or.inl rfl))
       (C8.pss_cut (ps_if (pt_val (pe_callB call_isi rfl T.b_isinstance (by decide +kernel) (pa_cons (pv 2) (pa_cons (pe_bltn (v := .ty "tuple") rfl T.b_tuple (by decide +kernel) rfl) pa_nil))))
       (pss_one (ps_set (i := 2) sc_copied.nd rfl (Or.inl rfl) (pe_tup (pa_cons (pe_ix ix_seq (pv 2) pe_int (fun _ _ => rfl)) (pa_cons (pe_own ih hr (Nat.le_refl _) rfl (pa_cons (pe_ix ix_seq (pv 2) pe_int (fun _ _ => rfl)) pa_nil)) pa_nil)))))
       pss_nil)
       (pss_one (ps_expr (pe_bm PySem.F.plainAttrs_list PySem.F.slot_list_append PySem.F.type_list_append mt_append (pv 1) (pa_cons (pv 2) pa_nil))))))
       (pss_one (ps_ret (pv 1))))), ?_⟩
    rw [st_copied]
    have hxl : xs.length = ds.length := TrIs.len ht
    have hdl := len_wides ds
    wtm_at "unf"
    wtm_at "gx"
    refine g_lst (by show 0 ≤ 100000; decide) fun fa H1 nfa s1 efa => ?_
    wtm_at "gx"
    refine ⟨b, rfl, ⟨_, sq_of (s1 _ _ hb)⟩, for_lst xs (fun pre σ H' => ∃ (ys : List V) (B : List Addr) (y2 : Option V), σ = [some (V.ref b), some (V.ref fa), y2] ∧ H' fa = some (.lst ys) ∧ TrIs H' ys (ds.take pre.length) B ∧ (fa :: B).Nodup ∧ (∀ x ∈ B, H x = none) ∧ Same H H') ⟨[], [], _, rfl, efa, by simp; exact .nil, by simp, by simp, s1⟩ (fun pre post σ H' e hv => ?_) (fun pre x post σ H' e hv => ?_) (fun σ H' hv => ?_)⟩
    · obtain ⟨ys, B, y2, rfl, ef, tr, nod, fr, sH⟩ := hv
      exact sq_of (sH _ _ hb)
    · obtain ⟨ys, B, y2, rfl, ef, tr, nod, fr, sH⟩ := hv
      obtain ⟨dd, B1, h1, h2, h3⟩ := TrIs.get (TrIs.same sH ht) (mid_at e)
      have hmem : dd ∈ ds := List.mem_of_getElem? h1
      have hyl : ys.length < 10000 := by
        rw [TrIs.len tr, List.length_take]
        have := (List.getElem?_eq_some_iff.mp h1).1
        omega
      have hnx : ds.take (pre ++ [x]).length = ds.take pre.length ++ [dd] := by rw [show (pre ++ [x]).length = pre.length + 1 by simp, take_snoc' h1]
      wtm_at "unf"
      refine ⟨fun σ G => ∃ (v : V) (C : List Addr), σ = [some (V.ref b), some (V.ref fa), some v] ∧ Same H' G ∧ TrI G v dd C ∧ C.Nodup ∧ ∀ x ∈ C, H' x = none, ?_, ?_⟩
      · wtm_at "gx"
        refine g_isNd h2 ?_
        cases h2 with
        | let_ c => exact ⟨false, rfl, by rw [if_neg Bool.false_ne_true]; exact ⟨_, [], rfl, Same.refl _, .let_ c, by simp, by simp⟩⟩
        | num c => exact ⟨false, rfl, by rw [if_neg Bool.false_ne_true]; exact ⟨_, [], rfl, Same.refl _, .num c, by simp, by simp⟩⟩
        | @br t' b' o xs' es A' g1 g2 g3 =>
          have hdd := mem_deeps hmem
          have hww := mem_wides hmem
          rw [Nd.deep] at hdd
          rw [Nd.wide] at hww
          refine ⟨true, rfl, ?_⟩
          rw [if_pos rfl]
          wtm_at "unf"
          wtm_at "gx"
          cases n with
          | zero => omega
          | succ n =>
            refine ⟨b', xs', es, A', rfl, g2, g3, by omega, by omega, fun r zs C G1 s1' er tr1 nod1 fr1 => ?_⟩
            wtm_at "gx"
            refine g_tup (by show 2 ≤ 100000; decide) fun u G2 nu s2' eu => ?_
            exact ⟨_, r :: C, rfl, s1'.trans s2', .br eu (s2' _ _ er) (TrIs.same s2' tr1), nod1, fr1⟩
      · rintro σ G ⟨v, C, rfl, sG, tv, nodC, frC⟩
        wtm_at "unf"
        wtm_at "gx"
        refine g_append1 (sG _ _ ef) (by omega) fun G2 b2 ef2 => ?_
        have bs : ButS [fa] G G2 := ButS.but (sG _ _ ef) b2
        have nfB : fa ∉ B := (List.nodup_cons.mp nod).1
        have nfC : fa ∉ C := fun h => by have := frC fa h; rw [ef] at this; cases this
        have hBC : ∀ x ∈ B, x ∉ C := fun x hx hc => by
          obtain ⟨zs, hz⟩ := TrIs.lsts tr x hx
          rw [frC x hc] at hz
          cases hz
        refine ⟨ys ++ [v], B ++ C, _, rfl, ef2, ?_, ?_, fun x hx => ?_, Same.b0 b2 (sH.trans sG) nfa⟩
        · rw [hnx]
          exact TrIs.snoc (TrIs.frame bs (TrIs.same sG tr) fun x hx hc => nfB (List.mem_singleton.mp hc ▸ hx)) (TrI.frame bs tv fun x hx hc => nfC (List.mem_singleton.mp hc ▸ hx))
        · rw [List.nodup_cons]
          refine ⟨fun h => ?_, List.nodup_append.mpr ⟨(List.nodup_cons.mp nod).2, nodC, fun x hx y hy e => hBC x hx (e ▸ hy)⟩⟩
          rcases List.mem_append.mp h with h | h
          · exact nfB h
          · exact nfC h
        · rcases List.mem_append.mp hx with hx | hx
          · exact fr x hx
          · exact sH.free (frC x hx)
    · obtain ⟨ys, B, y2, rfl, ef, tr, nod, fr, sH⟩ := hv
      rw [hxl, List.take_length] at tr
      wtm_at "unf"
      wtm_at "gx"
      refine q fa ys B H' sH ef tr nod fun x hx => ?_
      rcases List.mem_cons.mp hx with rfl | hx
      · exact nfa
      · exact fr x hx
/-! at_path -/
def sp_at_path : Sp := fun vs H Q _ => ∃ (b : Addr) (xs : List V) (ds : List Nd) (A : List Addr) (tp : Addr) (p : List Nat) (c : Nat) (es : List Nd), vs = [.ref b, .ref tp] ∧ H b = some (.lst xs) ∧ TrIs H xs ds A ∧ Nd.deeps ds ≤ 61 ∧ Nd.wides ds ≤ 10000 ∧ H tp = some (.tup (p.map fun k : Nat => V.int k)) ∧ p.length ≤ 1000 ∧ Rch ds p (.br c es) ∧ ∀ (t r : Addr) (ys : List V) (B : List Addr) (H' : Hp), Same H H' → H' t = some (.tup [Tx [c], .ref r]) → H' r = some (.lst ys) → TrIs H' ys es B → (r :: B).Nodup → (∀ x ∈ r :: B, H x = none) → Q (.ref t) H'
theorem ok_at_path (T : Facts K mg) : C8.Cal P w K mg base 64 "at_path" sp_at_path [] := by
  refine calD T.f_at_path sc_at_path (fun vs H Q E h => ?_) (fun f cdv A outer s H vs Q E hr h => ?_)
  · obtain ⟨b, xs, ds, A, tp, p, c, es, rfl, hb, ht, hd, hw, hp, hpl, hrc, q⟩ := h; rfl
  · obtain ⟨b, xs, ds, A, tp, p, c, es, rfl, hb, ht, hd, hw, hp, hpl, hrc, q⟩ := h
    refine ⟨_, (pss_cons (ps_ifC (PW.pt (pw_or (pt_not (pt_val (pe_callB call_isi rfl T.b_isinstance (by decide +kernel) (pa_cons (pv 1) (pa_cons (pe_bltn (v := .ty "tuple") rfl T.b_tuple (by decide +kernel) rfl) pa_nil))))) (pw_or1 (pt_cmpR (op_eqD hr.units) (pv 1) (pe_tup pa_nil) (nomark _)))))
       (pss_one ps_never)
       pss_nil)
       (pss_cons (ps_set (i := 2) sc_at_path.nd rfl (Or.inl rfl) (pe_tup (pa_cons (pe_strS (l := []) (by decide +kernel)) (pa_cons (pv 0) pa_nil))))
       (pss_cons (ps_for PassesOwn.never rfl (pi_tup (pv 1)) (pg_name (i := 3) sc_at_path.nd rfl (Or.inl rfl))
       (pss_cons (ps_ifC (PW.pt (pw_or (pt_not (pt_val (pe_callB call_isi rfl T.b_isinstance (by decide +kernel) (pa_cons (pv 3) (pa_cons (pe_bltn (v := .ty "int") rfl T.b_int (by decide +kernel) rfl) pa_nil))))) (pw_or (pt_val (pe_callB call_isi rfl T.b_isinstance (by decide +kernel) (pa_cons (pv 3) (pa_cons (pe_bltn (v := .ty "bool") rfl T.b_bool (by decide +kernel) rfl) pa_nil)))) (pw_or1 (pt_not (pt_val (pe_callB call_isi rfl T.b_isinstance (by decide +kernel) (pa_cons (pv 2) (pa_cons (pe_bltn (v := .ty "tuple") rfl T.b_tuple (by decide +kernel) rfl) pa_nil)))))))))
       (pss_one ps_never)
       pss_nil)
       (pss_cons (ps_if (pt_not (pt_chain op_le op_lt pe_int (pv 3) (pe_callB call_lenL rfl T.b_len PySem.boot_len (pa_cons (pe_ix ix_tup (pv 2) pe_int (fun _ _ => rfl)) pa_nil))))
       (pss_one ps_never)
       pss_nil)
       (pss_one (ps_set (i := 2) sc_at_path.nd rfl (Or.inl rfl) (pe_ix ix_seq (pe_ix ix_tup (pv 2) pe_int (fun _ _ => rfl)) (pv 3) (fun _ _ => rfl)))))))
       (pss_cons (ps_if (pt_not (pt_val (pe_callB call_isi rfl T.b_isinstance (by decide +kernel) (pa_cons (pv 2) (pa_cons (pe_bltn (v := .ty "tuple") rfl T.b_tuple (by decide +kernel) rfl) pa_nil)))))
       (pss_one ps_never)
       pss_nil)
       (pss_one (ps_ret (pe_tup (pa_cons (pe_ix ix_tup (pv 2) pe_int (fun _ _ => rfl)) (pa_cons (pe_own (ok_copied T 62) hr (by omega) rfl (pa_cons (pe_ix ix_tup (pv 2) pe_int (fun _ _ => rfl)) pa_nil)) pa_nil))))))))), ?_⟩
    rw [st_at_path]
    have hp0 : p ≠ [] := fun e => by rw [e] at hrc; exact hrc
    wtm_at "unf"
    refine g_ifH (b := false) (G := fun H1 => Same H H1) (fun Q' q' => ?_) (fun H1 s1 h => by cases h) (fun H1 s1 _ => ?_)
    · wtm_at "unf"
      wtm_at "gx"
      refine g_tup (by show 0 ≤ 100000; decide) fun u G1 nu g1 eu => ?_
      refine g_eqTp (p := p) (.inl (.inl (g1 _ _ hp))) (.inl (.inl eu)) hp0 ?_
      wtm_at "gx"
      exact q' _ g1
    wtm_at "unf"
    wtm_at "gx"
    refine g_tup (by show 2 ≤ 100000; decide) fun it H2 nit s2 eit => ?_
    have sA : Same H H2 := s1.trans s2
    wtm_at "gx"
    refine ⟨tp, rfl, ⟨_, .inl (.inl (sA _ _ hp))⟩, for_tup (p.map fun k : Nat => V.int k) (fun pre σ H' => ∃ (q1 q2 : List Nat) (v : V) (y3 : Option V), σ = [some (V.ref b), some (V.ref tp), some v, y3] ∧ p = q1 ++ q2 ∧ q1.length = pre.length ∧ Same H2 H' ∧ ((q2 = [] ∧ Nd.deeps es ≤ 61 ∧ Nd.wides es ≤ 10000 ∧ ∃ B, TrI H' v (.br c es) B) ∨ (q2 ≠ [] ∧ ∃ (t b' : Addr) (o : V) (xs' : List V) (ds' : List Nd) (A' : List Addr), v = .ref t ∧ H' t = some (.tup [o, .ref b']) ∧ H' b' = some (.lst xs') ∧ TrIs H' xs' ds' A' ∧ Rch ds' q2 (.br c es) ∧ Nd.deeps ds' ≤ 61 ∧ Nd.wides ds' ≤ 10000)))
      ⟨[], p, _, _, rfl, rfl, rfl, Same.refl _, .inr ⟨hp0, it, b, _, xs, ds, A, rfl, eit, sA _ _ hb, TrIs.same sA ht, hrc, hd, hw⟩⟩ (fun pre post σ H' e hv => ?_) (fun pre x post σ H' e hv => ?_) (fun σ H' hv => ?_)⟩
    · obtain ⟨q1, q2, v, y3, rfl, e1, e2, sH, h⟩ := hv
      exact .inl (.inl (sH _ _ (sA _ _ hp)))
    · obtain ⟨q1, q2, v, y3, rfl, e1, e2, sH, h⟩ := hv
      have hx := mid_at e
      rw [List.getElem?_map] at hx
      rcases h with ⟨rfl, _⟩ | ⟨hq, t, b', o, xs', ds', A', rfl, h1, h2, h3, h4, h5, h6⟩
      · rw [List.append_nil] at e1
        rw [← e2, ← e1, List.getElem?_eq_none (Nat.le_refl _)] at hx
        cases hx
      cases q2 with
      | nil => exact absurd rfl hq
      | cons k q2 =>
      have ek : p[pre.length]? = some k := by rw [e1, ← e2]; simp
      rw [ek] at hx
      have hx' : x = V.int (k : Nat) := (Option.some.inj hx).symm
      subst hx'
      have hxl := TrIs.len h3
      obtain ⟨d0, hd0⟩ : ∃ d0, ds'[k]? = some d0 := by
        cases q2 with
        | nil => exact ⟨_, h4⟩
        | cons j q2 =>
          obtain ⟨o', es', z, _⟩ := h4
          exact ⟨_, z⟩
      have hk : k < xs'.length := by rw [hxl]; exact (List.getElem?_eq_some_iff.mp hd0).1
      obtain ⟨v', hv'⟩ : ∃ v', xs'[k]? = some v' := ⟨_, List.getElem?_eq_getElem hk⟩
      obtain ⟨d1, B1, k1, k2, k3⟩ := TrIs.get h3 hv'
      rw [hd0] at k1
      cases k1
      have hmem : d0 ∈ ds' := List.mem_of_getElem? hd0
      have hdd := mem_deeps hmem
      have hww := mem_wides hmem
      wtm_at "unf"
      refine g_ifC (b := false) (fun Q' q' => ?_) (fun h => by cases h) (fun h => ?_)
      · wtm_at "unf"
        wtm_at "gx"
        exact q'
      wtm_at "unf"
      wtm_at "gx"
      refine .inl (g_ixL (sq_of h2) (atI_of hv') ?_)
      refine ⟨q1 ++ [k], q2, v', _, rfl, by rw [e1]; simp, by simp [e2], sH, ?_⟩
      cases q2 with
      | nil =>
        have e0 : d0 = .br c es := by
          have : ds'[k]? = some (.br c es) := h4
          rw [hd0] at this
          exact Option.some.inj this
        subst e0
        rw [Nd.deep] at hdd
        rw [Nd.wide] at hww
        exact .inl ⟨rfl, by omega, by omega, _, k2⟩
      | cons j q2 =>
        obtain ⟨o', es', z, z2⟩ := h4
        rw [hd0] at z
        cases z
        rw [Nd.deep] at hdd
        rw [Nd.wide] at hww
        cases k2 with
        | @br t' b'' _ xs'' _ A'' m1 m2 m3 => exact .inr ⟨by simp, t', b'', _, xs'', es', A'', rfl, m1, m2, m3, z2, by omega, by omega⟩
    · obtain ⟨q1, q2, v, y3, rfl, e1, e2, sH, h⟩ := hv
      have hq2 : q2 = [] := by
        have := congrArg List.length e1
        rw [List.length_append, e2, List.length_map] at this
        exact List.length_eq_zero_iff.mp (by omega)
      rcases h with ⟨_, h5, h6, B, h7⟩ | ⟨h, _⟩
      · cases h7 with
        | @br t b' _ xs' _ A' m1 m2 m3 =>
        wtm_at "unf"
        wtm_at "gx"
        refine ⟨b', xs', es, A', rfl, m2, m3, h5, h6, fun r ys B H3 s3 er tr nod fr => ?_⟩
        wtm_at "gx"
        refine g_tup (by show 2 ≤ 100000; decide) fun u H4 nu s4 eu => ?_
        exact q u r ys B H4 (sA.trans (sH.trans (s3.trans s4))) eu (s4 _ _ er) (TrIs.same s4 tr) nod fun x hx => (sA.trans sH).free (fr x hx)
      · exact absurd hq2 h
end
end K12

set_option maxHeartbeats 4000000
namespace K12
open PySem PySem.Spec PyProof.Rows L2 SX Ly
local macro_rules | `(tactic| wtm_at "unf") => `(tactic| (try simp only [tMetX, tOwnX, tChain, tSeq, tNext, tBreak, tCont, tDrop, tRet, tRetN, tIfS, tAsg, tAug, tC, tOp, tUn, tNil, tCons, tOwn, tCB, tTest, tB, tAnd, tOr, tNot, tAndV, tOrV, tNotV, tIf, gName, gSub, tBM, tBM0, tM0, tM1, tSl, tPart_eq, tNoPart, tLst_eq, tTup_eq, tRevL_eq, tReplT, tRevS, tDGet_eq, sDPut_eq, tDNewT_eq, tMet, tMak, tFld_eq, sFld_eq, C8.tCut, wipe, tYes, gTup, gCons, gNil, List.set_cons_zero, List.set_cons_succ, if_true, if_false, Bool.false_eq_true, Bool.not_true, Bool.not_false, true_and, reduceIte, cx_K, tFor_eq, tLc_eq, iStr, iList, iTup, iRng1, iRng2, iRng3, iEnum, iZip, iEnumS, iZipS]))
local macro_rules | `(tactic| wtm_at "ne") => `(tactic| first | assumption | (apply Ne.symm; assumption) | (apply ne_new; (· assumption); (· wtm_at "lk")) | (apply Ne.symm; apply ne_new; (· assumption); (· wtm_at "lk")))
local macro_rules | `(tactic| wtm_at "lk") => `(tactic| first | assumption | exact upd_same | (apply Same.get; (· assumption); (· wtm_at "lk")) | (apply But.get; (· assumption); (· wtm_at "ne"); (· wtm_at "lk")))
local macro_rules | `(tactic| wtm_at "sq") => `(tactic| first | assumption | (apply sq_of; wtm_at "lk") | (apply Same.seq; (· assumption); (· wtm_at "sq")) | (apply But.sq; (· assumption); (· wtm_at "ne"); (· wtm_at "sq")))
local macro_rules | `(tactic| wtm_at "fr") => `(tactic| first | assumption | (apply Same.fr; (· assumption); (· wtm_at "sm")) | (apply But.fr; (· assumption); (· wtm_at "sm"); (· wtm_at "ne")))
local macro_rules | `(tactic| wtm_at "sm") => `(tactic| first | exact Same.refl _ | exact But.refl | assumption | (apply Same.tr; (· assumption); (· wtm_at "sm")) | (apply Same.b0; (· assumption); (· wtm_at "sm"); (· wtm_at "fr")) | (apply But.sa; (· assumption); (· wtm_at "sm")) | (apply But.tr; (· assumption); (· wtm_at "sm")) | (apply But.b0; (· assumption); (· wtm_at "sm"); (· wtm_at "fr")) | (apply Same.toBut; wtm_at "sm"))
local macro_rules | `(tactic| wtm_at "sc") => `(tactic| first | exact Int.zero_lt_one | (show (0 : Int) < _; omega) | (show (0 : Int) < _; decide) | exact ⟨by omega, by omega⟩ | exact .inl ⟨by omega, by omega⟩ | exact .inr ⟨by omega, by omega⟩)
local macro_rules | `(tactic| wtm_at "go1") => `(tactic| first | ((with_reducible apply g_var); (· exact rfl)) | with_reducible apply g_I0 | ((with_reducible apply g_I); (· wtm_at "sc")) | with_reducible apply g_U | with_reducible apply g_ipI | ((with_reducible apply g_addT); (· first | omega | (simp; done) | (simp; omega))) | with_reducible apply g_inT | with_reducible apply g_ninT | ((with_reducible apply g_lenT); (· omega)) | with_reducible apply g_findT1 | with_reducible apply g_str | with_reducible apply g_part | with_reducible apply g_intB | ((with_reducible apply g_ixL); (· wtm_at "sq"); (· exact rfl)) | ((with_reducible apply g_setL); (· wtm_at "lk"); (· exact rfl)) | ((with_reducible apply g_eq); (· rfl)) | ((with_reducible apply g_ne); (· rfl)))
local macro_rules | `(tactic| wtm_at "go") => `(tactic| repeat wtm_at "go1")
local macro_rules | `(tactic| wtm_at "lp") => `(tactic| skip)
local macro_rules | `(tactic| wtm_at "om") => `(tactic| first | omega | (simp; done) | (simp; omega) | (simp at *; omega))
local macro_rules | `(tactic| wtm_at "ty") => `(tactic| first | exact ty_str | exact ty_int | exact ty_bl | exact ty_non | (apply ty_lst; wtm_at "lk") | (apply ty_tup; wtm_at "lk"))
local macro_rules | `(tactic| wtm_at "kb") => `(tactic| first | exact kb_str_str | exact kb_str_int | exact kb_str_bool | exact kb_str_list | exact kb_str_tuple | exact kb_int_str | exact kb_int_int | exact kb_int_bool | exact kb_int_list | exact kb_int_tuple | exact kb_bool_str | exact kb_bool_int | exact kb_bool_bool | exact kb_bool_list | exact kb_bool_tuple | exact kb_list_str | exact kb_list_int | exact kb_list_bool | exact kb_list_list | exact kb_list_tuple | exact kb_tuple_str | exact kb_tuple_int | exact kb_tuple_bool | exact kb_tuple_list | exact kb_tuple_tuple | exact kb_NoneType_str | exact kb_NoneType_int | exact kb_NoneType_bool | exact kb_NoneType_list | exact kb_NoneType_tuple | exact kb_dict_str | exact kb_dict_int | exact kb_dict_bool | exact kb_dict_list | exact kb_dict_tuple)
local macro_rules | `(tactic| wtm_at "gx1") => `(tactic| first | ((with_reducible apply g_eqS); (· exact rfl)) | ((with_reducible apply g_neS); (· exact rfl)) | wtm_at "go1" | with_reducible apply g_min2 | with_reducible apply g_max2 | with_reducible apply g_T | with_reducible apply g_F | with_reducible apply g_NT | with_reducible apply g_NF | with_reducible apply g_nT | with_reducible apply g_nF | with_reducible apply g_RT | with_reducible apply g_RF | ((with_reducible apply g_isi); (· wtm_at "ty"); (· wtm_at "kb")) | ((with_reducible apply g_ixAU3); (· wtm_at "lk"); (· exact rfl)) | ((with_reducible apply g_ixAL3); (· wtm_at "lk"); (· exact rfl)) | ((with_reducible apply g_ixU3); (· wtm_at "lk"); (· exact rfl)) | ((with_reducible apply g_lenL3); (· wtm_at "lk")) | ((with_reducible apply g_lenU3); (· wtm_at "lk")) | ((with_reducible apply g_tyL3); (· wtm_at "lk")) | ((with_reducible apply g_lenT); (· wtm_at "pv")) | wtm_at "tr" | with_reducible apply g_ET | with_reducible apply g_EF | with_reducible apply g_EnT | with_reducible apply g_EnF)
local macro_rules | `(tactic| wtm_at "pv") => `(tactic| first | exact rfl | assumption | omega | (simp; done) | (simp; omega))
local macro_rules | `(tactic| wtm_at "tr") => `(tactic| first | ((with_reducible apply g_Td); (· wtm_at "pv")) | ((with_reducible apply g_Fd); (· wtm_at "pv")) | ((with_reducible apply g_NTd); (· wtm_at "pv")) | ((with_reducible apply g_NFd); (· wtm_at "pv")) | ((with_reducible apply g_nTd); (· wtm_at "pv")) | ((with_reducible apply g_nFd); (· wtm_at "pv")) | ((with_reducible apply g_RTd); (· wtm_at "pv")) | ((with_reducible apply g_RFd); (· wtm_at "pv")))
local macro_rules | `(tactic| wtm_at "gx") => `(tactic| repeat wtm_at "gx1")

section
variable {P : Program} {w : World} {K : PySem.W.Frag} {mg : Str → Option Value} {base : Heap}
theorem not_sg10 : ¬ isSg 10 := by unfold isSg; decide
def pdD (p : List Nat) : PyData := .tuple (p.map fun k : Nat => PyData.int k)
theorem dp_pN {K : PySem.W.Frag} {H : Hp} : ∀ p : List Nat, DpAll K H (p.map fun k : Nat => V.int k) (p.map fun k : Nat => PyData.int k)
  | [] => .nil
  | x :: p => .cons (.int _) (dp_pN p)
theorem dp_pth {K : PySem.W.Frag} {H : Hp} : ∀ {ys : List V} {ps : List (List Nat)}, Paired (TpI H) ys ps → DpAll K H ys (ps.map pdD)
  | _, _, .nil => .nil
  | _, _, .cons h r => by
    obtain ⟨t, rfl, ht⟩ := h
    exact .cons (.tup (.inl (.inl ht)) (dp_pN _)) (dp_pth r)
theorem pdD_can (p : List Nat) : PyData.canLay0 (pdD p) = true := by
  show PyData.canLayAll0 (p.map fun k : Nat => PyData.int k) = true
  induction p with
  | nil => rfl
  | cons x xs ih => rw [List.map_cons]; show (true && PyData.canLayAll0 _) = true; rw [ih]; rfl
theorem pdD_deep (p : List Nat) : PyData.depth (pdD p) ≤ 1 := by
  show PyData.depthAll (p.map fun k : Nat => PyData.int k) + 1 ≤ 1
  have : PyData.depthAll (p.map fun k : Nat => PyData.int k) = 0 := by
    induction p with
    | nil => rfl
    | cons x xs ih => rw [List.map_cons]; show max 0 (PyData.depthAll _) = 0; rw [ih]; rfl
  omega
theorem pdD_shaped (p : List Nat) : SeqAt.shaped (pdD p) = true := by
  unfold SeqAt.shaped
  rw [Bool.and_eq_true]
  exact ⟨pdD_can p, decide_eq_true (by have := pdD_deep p; omega)⟩
theorem shaped_pth (ps : List (List Nat)) : SeqAt.shaped (.list (ps.map pdD)) = true := by
  unfold SeqAt.shaped
  rw [Bool.and_eq_true]
  refine ⟨?_, decide_eq_true ?_⟩
  · show PyData.canLayAll0 (ps.map pdD) = true
    induction ps with
    | nil => rfl
    | cons p ps ih => rw [List.map_cons]; show (PyData.canLay0 (pdD p) && PyData.canLayAll0 _) = true; rw [ih, pdD_can]; rfl
  · show PyData.depthAll (ps.map pdD) + 1 ≤ 64
    have : PyData.depthAll (ps.map pdD) ≤ 1 := by
      induction ps with
      | nil => exact Nat.zero_le _
      | cons p ps ih => rw [List.map_cons]; show max (PyData.depth (pdD p)) (PyData.depthAll _) ≤ 1; have := pdD_deep p; omega
    omega
theorem nd_shaped {ds : List Nd} (hk : ndOk ds) (hd : Nd.deeps ds ≤ 31) : SeqAt.shaped (.list (ndDs ds)) = true := by
  have h1 := nd_can ds hk
  have h2 := nd_depth ds
  unfold SeqAt.shaped
  rw [Bool.and_eq_true]
  exact ⟨h1, decide_eq_true (by show PyData.depthAll (ndDs ds) + 1 ≤ 64; omega)⟩
theorem g_neNestD {K : PySem.W.Frag} {H : Hp} {Q : VK} {a b : Addr} {xs ys : List V} {ds : List Nd} {A B : List Addr} (ha : H a = some (.lst xs)) (ta : TrIs H xs ds A) (hb : H b = some (.lst ys)) (tb : TrIs H ys ds B) (hk : ndOk ds) (hd : Nd.deeps ds ≤ 31) (q : Q (.bl false) H) : rNeD K (.ref a) (.ref b) H Q :=
  g_neDp (.lst (sq_of ha) (TrIs.dp ta)) (.lst (sq_of hb) (TrIs.dp tb)) (nd_shaped hk hd) q
theorem join_two {A B : List (List Nat)} (hA : ∀ x ∈ A, x ≠ []) (hB : ∀ x ∈ B, x ≠ []) : TL.joinL [10] (([TL.joinL [10] A, TL.joinL [10] B]).filter fun x => decide (x ≠ [])) = TL.joinL [10] (A ++ B) := by
  by_cases h1 : A = []
  · subst h1
    by_cases h2 : B = []
    · subst h2; rfl
    · have := joinL_ne (s := [10]) h2 hB
      rw [List.filter_cons_of_neg (by simp [TL.joinL]), List.filter_cons_of_pos (by simpa using this)]
      rfl
  · have n1 := joinL_ne (s := [10]) h1 hA
    by_cases h2 : B = []
    · subst h2
      rw [List.filter_cons_of_pos (by simpa using n1), List.filter_cons_of_neg (by simp [TL.joinL]), List.append_nil]
      rfl
    · have n2 := joinL_ne (s := [10]) h2 hB
      rw [List.filter_cons_of_pos (by simpa using n1), List.filter_cons_of_pos (by simpa using n2), joinL_app [10] h1 h2]
      rfl
theorem joinL_len : ∀ ls : List (List Nat), (TL.joinL [10] ls).length ≤ (ls.map (·.length)).sum + ls.length
  | [] => Nat.le_refl _
  | [p] => by show p.length ≤ _; simp
  | p :: q :: r => by
    have := joinL_len (q :: r)
    rw [joinL_cons _ _ (by simp), List.length_append, List.length_append, List.map_cons, List.sum_cons, List.length_cons]
    simp only [List.length_cons, List.length_nil] at *
    omega
theorem ln_len {l : List Nat} (hc : clean l) (hl : l.length ≤ 30) : (TL.joinL [10] (lnN (nestD l) 0)).length ≤ 2000 := by
  have h1 := joinL_len (lnN (nestD l) 0)
  have h2 := lnN_many (nestD l) 0
  rw [tx_nest hc] at h2
  have h3 := nest_deep hc
  have h4 : ((lnN (nestD l) 0).map (·.length)).sum ≤ (lnN (nestD l) 0).length * 40 := sum_le _ fun x hx => by have := (lnN_len _ _ x hx).2; omega
  have h5 : (lnN (nestD l) 0).length * 40 ≤ 30 * 40 := Nat.mul_le_mul_right _ (by omega)
  omega
theorem oth1_br : ∀ c ∈ OPN, oth1 c = oth c ∧ oth1 (oth c) = c := by decide
theorem oth1_let : ∀ c ∈ LET, oth1 c = c := by decide
theorem about_app (a b : List Nat) : about (a ++ b) = about b ++ about a := by unfold about; rw [List.map_append, List.reverse_append]
mutual
theorem mirI_tx : ∀ d : Nd, ndOk1 d → txI (mirI d) = about (txI d)
  | .br o ds, h => by
    rw [ndOk1] at h
    rw [mirI, txI, txI, mirN_tx ds h.2, show o :: (txN ds ++ [oth o]) = [o] ++ txN ds ++ [oth o] by simp, about_app, about_app]
    show _ = [oth1 (oth o)] ++ (about (txN ds) ++ [oth1 o])
    rw [(oth1_br o h.1).1, (oth1_br o h.1).2]
    rfl
  | .let_ c, h => by
    rw [ndOk1] at h
    rw [mirI, txI]
    show [c] = [oth1 c]
    rw [oth1_let c h]
  | .num i, h => by rw [ndOk1] at h; exact h.elim
theorem mirN_tx : ∀ ds : List Nd, ndOk ds → txN (mirN ds) = about (txN ds)
  | [], _ => by rw [mirN, txN]; rfl
  | d :: ds, h => by
    rw [ndOk] at h
    rw [mirN, txN_app, mirN_tx ds h.2, txN_one, mirI_tx d h.1, txN, about_app]
end
theorem about_nest {l : List Nat} (hc : clean l) (hs : ∀ c ∈ l, isSg c) : nestD (about l) = mirN (nestD l) ∧ clean (about l) := by
  have hok := nest_ok hs
  have e : txN (mirN (nestD l)) = about l := by rw [mirN_tx _ hok, tx_nest hc]
  exact ⟨by rw [← e]; exact nest_txN (mirN_ok _ hok), by rw [← e]; exact txN_clean _ (mirN_ok _ hok)⟩
mutual
theorem mirI_sub : ∀ d : Nd, (subI (mirI d)).length = (subI d).length
  | .br o ds => by rw [mirI, subI, subI, List.length_cons, List.length_cons, mirN_sub ds]
  | .let_ c => by rw [mirI]
  | .num i => by rw [mirI]
theorem mirN_sub : ∀ ds : List Nd, (subN (mirN ds)).length = (subN ds).length
  | [] => by rw [mirN]
  | d :: ds => by
    rw [mirN, subN_app, List.length_append, mirN_sub ds, show subN [mirI d] = subI (mirI d) by rw [subN, subN, List.append_nil], mirI_sub d, subN, List.length_append]
    omega
end
theorem sub_many {l : List Nat} (hc : clean l) (hs : ∀ c ∈ l, isSg c) : (subN (nestD l)).length ≤ l.length := by
  have := cnt_subN (nestD l) (nest_ok hs)
  rw [tx_nest hc] at this
  rw [← this]
  exact List.countP_le_length
theorem oth_brk' : ∀ c ∈ BRK, oth c ∈ BRK := by decide
theorem about_sg {l : List Nat} (hs : ∀ c ∈ l, isSg c) : ∀ c ∈ about l, isSg c := fun c hc => by
  unfold about at hc
  obtain ⟨d, hd, rfl⟩ := List.mem_map.mp (List.mem_reverse.mp hc)
  unfold oth1
  by_cases h : d ∈ BRK
  · rw [if_pos h]
    exact .inr (oth_brk' d h)
  · rw [if_neg h]
    exact hs d hd
/-! _law_long -/
def sp_law_long : Sp := fun vs H Q _ => ∃ (p : Addr) (P0 : Pt) (k : Int), vs = [.ref p, .int k] ∧ H p = some P0.o ∧ k = 1 ∧ ∀ (r : Nat) (P1 : Pt) (H' : Hp), r ≤ 30 → But p H H' → H' p = some P1.o → Q (.int r) H'
theorem ok_law_long (T : Facts K mg) : C8.Cal P w K mg base 3 "_law_long" sp_law_long [] := by
  refine calD T.f_law_long sc_law_long (fun vs H Q E h => ?_) (fun f cdv A outer s H vs Q E hr h => ?_)
  · obtain ⟨p, P0, k, rfl, hp, hk, q⟩ := h; rfl
  · obtain ⟨p, P0, k, rfl, hp, hk, q⟩ := h
    refine ⟨_, (pss_cons (ps_ifC (PW.pt (pw_and (pt_cmpR op_eq (pv 1) pe_int (nomark _)) (pw_and1 (pt_cmpR op_eq (pe_own (ok_law_take T) hr (by omega) rfl (pa_cons (pv 0) (pa_cons pe_int pa_nil))) pe_int (nomark _)))))
       (pss_one (ps_ret (pe_op op_sub pe_int (pe_op op_mul (pe_own (ok_law_take T) hr (by omega) rfl (pa_cons (pv 0) (pa_cons pe_int pa_nil))) (pe_own (ok_law_take T) hr (by omega) rfl (pa_cons (pv 0) (pa_cons pe_int pa_nil)))))))
       pss_nil)
       (pss_one (ps_ret (pe_own (ok_law_take T) hr (by omega) rfl (pa_cons (pv 0) (pa_cons (pe_ix ix_list (pe_lst (pa_cons pe_int (pa_cons pe_int (pa_cons pe_int pa_nil)))) (pe_own (ok_law_take T) hr (by omega) rfl (pa_cons (pv 0) (pa_cons pe_int pa_nil))) (fun _ _ => rfl)) pa_nil)))))), ?_⟩
    rw [st_law_long]
    subst hk
    wtm_at "unf"
    refine g_ifC (b := false) (fun Q' q' => ?_) (fun h => by cases h) (fun h => ?_)
    · wtm_at "unf"
      wtm_at "gx"
      exact q'
    wtm_at "unf"
    wtm_at "gx"
    refine g_lst (by show 3 ≤ 100000; decide) fun a H4 na s4 e4 => ?_
    wtm_at "gx"
    refine ⟨p, P0, 3, rfl, s4 _ _ hp, by decide, by decide, fun r P1 H1 r0 r1 b1 e1 => ?_⟩
    have key : ∃ z : Int, 0 < z ∧ z ≤ 30 ∧ atI [V.int 6, V.int 14, V.int 30] r = some (.int z) := by
      by_cases h0 : r = 0
      · subst h0; exact ⟨6, by decide, by decide, rfl⟩
      by_cases h1 : r = 1
      · subst h1; exact ⟨14, by decide, by decide, rfl⟩
      · have : r = 2 := by omega
        subst this; exact ⟨30, by decide, by decide, rfl⟩
    obtain ⟨z, z0, z1, ez⟩ := key
    have nap : a ≠ p := Ne.symm (ne_new na hp)
    refine g_ixL (sq_of (b1 _ _ nap e4)) ez ?_
    wtm_at "gx"
    refine ⟨p, P1, z, rfl, e1, z0, by omega, fun y P2 H2 y0 y1 b2 e2 => ?_⟩
    obtain ⟨y', rfl⟩ := Int.eq_ofNat_of_zero_le y0
    exact q y' P2 H2 (by omega) (But.tr b2 (But.tr b1 (Same.toBut s4))) e2
/-! _law_two_right -/
def sp_law_two_right : Sp := fun vs H Q _ => ∃ l m : List Nat, vs = [Tx l, Tx m] ∧ l.length ≤ 30 ∧ m.length ≤ 30 ∧ clean l ∧ clean m ∧ (∀ c ∈ l, isSg c) ∧ (∀ c ∈ m, isSg c) ∧ ∀ H', Same H H' → Q (.bl true) H'
theorem ok_law_two_right (T : Facts K mg) : C8.Cal P w K mg base 67 "_law_two_right" sp_law_two_right [] := by
  refine calD T.f_law_two_right sc_law_two_right (fun vs H Q E h => ?_) (fun f cdv A outer s H vs Q E hr h => ?_)
  · obtain ⟨l, m, rfl, hl, hm, hcl, hcm, hsl, hsm, q⟩ := h; rfl
  · obtain ⟨l, m, rfl, hl, hm, hcl, hcm, hsl, hsm, q⟩ := h
    refine ⟨_, (pss_cons (ps_set (i := 2) sc_law_two_right.nd rfl (Or.inl rfl) (pe_lst (pa_cons (pe_own (ok_nest_of T) hr (by omega) rfl (pa_cons (pv 0) pa_nil)) (pa_cons (pe_own (ok_nest_of T) hr (by omega) rfl (pa_cons (pv 1) pa_nil)) pa_nil))))
       (pss_cons (ps_ifC (PW.pt (pw_or (pt_cmpR (op_neD hr.units) (pe_own (ok_nest_of T) hr (by omega) rfl (pa_cons (pe_op op_addT (pv 0) (pv 1)) pa_nil)) (pe_op op_cat (pe_ix ix_list (pv 2) pe_int (fun _ _ => rfl)) (pe_ix ix_list (pv 2) pe_int (fun _ _ => rfl))) (nomark _)) (pw_or1 (pt_cmpR op_ne (pe_own (ok_text_of T) hr (by omega) rfl (pa_cons (pe_op op_cat (pe_ix ix_list (pv 2) pe_int (fun _ _ => rfl)) (pe_ix ix_list (pv 2) pe_int (fun _ _ => rfl))) pa_nil)) (pe_op op_addT (pv 1) (pv 0)) (nomark _)))))
       (pss_one (ps_ret pe_bl))
       pss_nil)
       (pss_cons (ps_if (pt_cmpR op_ne (pe_own (ok_depth_of T 62) hr (by omega) rfl (pa_cons (pe_op op_cat (pe_ix ix_list (pv 2) pe_int (fun _ _ => rfl)) (pe_ix ix_list (pv 2) pe_int (fun _ _ => rfl))) pa_nil)) (pe_callB (call_max2' rfl) rfl T.b_max (by decide +kernel) (pa_cons (pe_own (ok_depth_of T 62) hr (by omega) rfl (pa_cons (pe_ix ix_list (pv 2) pe_int (fun _ _ => rfl)) pa_nil)) (pa_cons (pe_own (ok_depth_of T 62) hr (by omega) rfl (pa_cons (pe_ix ix_list (pv 2) pe_int (fun _ _ => rfl)) pa_nil)) pa_nil))) (nomark _))
       (pss_one (ps_ret pe_bl))
       pss_nil)
       (pss_cons (ps_setLc (i := 3) (own := [("text", 6)]) (by rfl) sc_law_two_right.nd rfl rfl (sw_true rfl rfl rfl (by decide +kernel)) (pi_list (pe_lst (pa_cons (pe_own (ok_outline T) hr (by omega) rfl (pa_cons (pe_ix ix_list (pv 2) pe_int (fun _ _ => rfl)) pa_nil)) (pa_cons (pe_own (ok_outline T) hr (by omega) rfl (pa_cons (pe_ix ix_list (pv 2) pe_int (fun _ _ => rfl)) pa_nil)) pa_nil)))) (blkOk_by (own := [("text", 6)]) (N := N_law_two_right) (sc := defScope s_law_two_right) (by decide +kernel)) (fun _ _ _ _ _ => (pg_name (i := 6) sc_law_two_right.nd rfl (Or.inl rfl))) (fun _ _ _ _ _ => (pts_one (pt_cmpR op_ne (pv 6) (pe_strS (l := []) (by decide +kernel)) (nomark _)))) (fun _ _ _ _ _ => (pv 6)))
       (pss_cons (ps_set (i := 4) sc_law_two_right.nd rfl (Or.inl rfl) (pe_m1 PySem.F.slot_str_join PySem.F.type_str_join mt_joinT (pe_strS (l := [10]) (by decide +kernel)) (pv 3)))
       (pss_cons (ps_ifC (PW.pt (pw_or (pt_cmpR op_ne (pe_own (ok_outline T) hr (by omega) rfl (pa_cons (pe_op op_cat (pe_ix ix_list (pv 2) pe_int (fun _ _ => rfl)) (pe_ix ix_list (pv 2) pe_int (fun _ _ => rfl))) pa_nil)) (pv 4) (nomark _)) (pw_or1 (pt_cmpR (op_neD hr.units) (pe_own (ok_read_outline T) hr (by omega) rfl (pa_cons (pv 4) pa_nil)) (pe_op op_cat (pe_ix ix_list (pv 2) pe_int (fun _ _ => rfl)) (pe_ix ix_list (pv 2) pe_int (fun _ _ => rfl))) (nomark _)))))
       (pss_one (ps_ret pe_bl))
       pss_nil)
       (pss_cons (ps_set (i := 5) sc_law_two_right.nd rfl (Or.inl rfl) (pe_own (ok_nest_of T) hr (by omega) rfl (pa_cons (pe_own (ok_turned_about T) hr (by omega) rfl (pa_cons (pv 0) pa_nil)) pa_nil)))
       (pss_one (ps_ret (pe_and (pe_cmpR op_eq (pe_callB call_lenL rfl T.b_len PySem.boot_len (pa_cons (pe_own (ok_paths_of T 62) hr (by omega) rfl (pa_cons (pv 5) pa_nil)) pa_nil)) (pe_callB call_lenL rfl T.b_len PySem.boot_len (pa_cons (pe_own (ok_paths_of T 62) hr (by omega) rfl (pa_cons (pe_ix ix_list (pv 2) pe_int (fun _ _ => rfl)) pa_nil)) pa_nil)) (nomark _)) (pe_one (pe_cmpR op_eq (pe_own (ok_depth_of T 62) hr (by omega) rfl (pa_cons (pv 5) pa_nil)) (pe_own (ok_depth_of T 62) hr (by omega) rfl (pa_cons (pe_ix ix_list (pv 2) pe_int (fun _ _ => rfl)) pa_nil)) (nomark _))))))))))))), ?_⟩
    rw [st_law_two_right]
    have hdl := nest_deep hcl
    have hdm := nest_deep hcm
    have hwl := nest_wide l
    have hwm := nest_wide m
    have hap := nest_app hcl hcm hsm
    have hap2 := nest_app hcm hcl hsl
    have hokl := nest_ok hsl
    have hokm := nest_ok hsm
    have hca := clean_app hcl hcm
    have hsa : ∀ c ∈ l ++ m, isSg c := fun c hc => (List.mem_append.mp hc).elim (hsl c) (hsm c)
    have hsb : ∀ c ∈ m ++ l, isSg c := fun c hc => (List.mem_append.mp hc).elim (hsm c) (hsl c)
    have hok := nest_ok hsa
    have hok2 := nest_ok hsb
    wtm_at "unf"
    wtm_at "gx"
    refine ⟨l, rfl, by omega, hcl, hsl, fun b1 x1 A1 H1 s1 e1 t1 n1 f1 => ?_⟩
    wtm_at "gx"
    refine ⟨m, rfl, by omega, hcm, hsm, fun b2 x2 A2 H2 s2 e2 t2 n2 f2 => ?_⟩
    wtm_at "gx"
    refine g_lst (by show 2 ≤ 100000; decide) fun na H3 nna s3 ena => ?_
    have e1' := s3 _ _ (s2 _ _ e1)
    have t1' := TrIs.same (s2.trans s3) t1
    have e2' := s3 _ _ e2
    have t2' := TrIs.same s3 t2
    have hx1 := TrIs.len t1
    have hx2 := TrIs.len t2
    have hw1 := len_wides (nestD l)
    have hw2 := len_wides (nestD m)
    wtm_at "unf"
    refine g_ifH (b := false) (G := fun H4 => Same H3 H4) (fun Q' q' => ?_) (fun H4 s4 h => by cases h) (fun H4 s4 _ => ?_)
    · wtm_at "unf"
      wtm_at "gx"
      refine ⟨l ++ m, rfl, by rw [List.length_append]; omega, hca, hsa, fun b3 x3 A3 G1 g1 e3 t3 n3 f3 => ?_⟩
      rw [hap] at t3
      wtm_at "gx"
      refine g_cat (g1 _ _ e1') (g1 _ _ e2') (by omega) fun c G2 nc g2 ec => ?_
      refine g_neNestD (g2 _ _ e3) (TrIs.same g2 t3) ec (TrIs.app (TrIs.same (g1.trans g2) t1') (TrIs.same (g1.trans g2) t2')) (hap ▸ hok) (by rw [deeps_app]; omega) ?_
      wtm_at "gx"
      refine g_cat ((g1.trans g2) _ _ e2') ((g1.trans g2) _ _ e1') (by omega) fun c2 G3 nc2 g3 ec2 => ?_
      have g13 : Same H3 G3 := g1.trans (g2.trans g3)
      refine ⟨c2, x2 ++ x1, nestD m ++ nestD l, _, rfl, ec2, TrIs.app (TrIs.same g13 t2') (TrIs.same g13 t1'), hap2 ▸ hok2, ?_, by rw [deeps_app]; omega, by rw [txN_app, tx_nest hcm, tx_nest hcl, List.length_append]; omega, fun G4 g4 => ?_⟩
      · rw [← hap2]
        have := nest_hgt (m ++ l)
        rw [List.length_append] at this
        omega
      rw [txN_app, tx_nest hcm, tx_nest hcl]
      wtm_at "gx"
      exact q' _ (g13.trans g4)
    wtm_at "unf"
    have e1a := s4 _ _ e1'
    have t1a := TrIs.same s4 t1'
    have e2a := s4 _ _ e2'
    have t2a := TrIs.same s4 t2'
    have enaa := s4 _ _ ena
    wtm_at "gx"
    refine g_cat e1a e2a (by omega) fun c G2 nc g2 ec => ?_
    refine ⟨c, x1 ++ x2, nestD l ++ nestD m, _, rfl, ec, TrIs.app (TrIs.same g2 t1a) (TrIs.same g2 t2a), by rw [deeps_app]; show _ ≤ 61; omega, by rw [← hap]; have := nest_wide (l ++ m); rw [List.length_append] at this; omega, fun G3 g3 => ?_⟩
    wtm_at "gx"
    refine ⟨b1, x1, nestD l, A1, rfl, (g2.trans g3) _ _ e1a, TrIs.same (g2.trans g3) t1a, by show _ ≤ 61; omega, by omega, fun G4 g4 => ?_⟩
    wtm_at "gx"
    refine ⟨b2, x2, nestD m, A2, rfl, (g2.trans (g3.trans g4)) _ _ e2a, TrIs.same (g2.trans (g3.trans g4)) t2a, by show _ ≤ 61; omega, by omega, fun H5 g5 => ?_⟩
    have s5 : Same H4 H5 := g2.trans (g3.trans (g4.trans g5))
    have e1b := s5 _ _ e1a
    have t1b := TrIs.same s5 t1a
    have e2b := s5 _ _ e2a
    have t2b := TrIs.same s5 t2a
    have enab := s5 _ _ enaa
    rw [deeps_app]
    have hmx : (((max (Nd.deeps (nestD l)) (Nd.deeps (nestD m)) : Nat) : Int)) = max ((Nd.deeps (nestD l) : Nat) : Int) ((Nd.deeps (nestD m) : Nat) : Int) := by omega
    rw [hmx]
    wtm_at "gx"
    refine ⟨b1, x1, nestD l, A1, rfl, e1b, t1b, hokl, by omega, by rw [tx_nest hcl]; omega, fun H6 s6 => ?_⟩
    wtm_at "gx"
    refine ⟨b2, x2, nestD m, A2, rfl, s6 _ _ e2b, TrIs.same s6 t2b, hokm, by omega, by rw [tx_nest hcm]; omega, fun H7 s7 => ?_⟩
    wtm_at "gx"
    refine g_lst (by show 2 ≤ 100000; decide) fun li H8 nli s8 eli => ?_
    generalize hpa : TL.joinL [10] (lnN (nestD l) 0) = pa at eli
    generalize hpb : TL.joinL [10] (lnN (nestD m) 0) = pb at eli
    refine ⟨li, rfl, ⟨_, sq_of eli⟩, lc_lst ([pa, pb].map Tx) fun d H9 nd s9 ed => ⟨fun pre H' => H' d = some (.lst (((([pa, pb].take pre.length).filter fun x => decide (x ≠ [])).map Tx))) ∧ Same H8 H', ⟨ed, s9⟩, fun pre post H' e hv => sq_of (hv.2 _ _ eli), fun pre x post H' e hv => ?_, fun H' hv => ?_⟩⟩
    · obtain ⟨ed', sH⟩ := hv
      have hx := mid_at e
      rw [List.getElem?_map] at hx
      obtain ⟨p, hp⟩ : ∃ p, [pa, pb][pre.length]? = some p := by
        cases h : [pa, pb][pre.length]? with
        | none => rw [h] at hx; cases hx
        | some p => exact ⟨p, rfl⟩
      rw [hp] at hx
      have hx' : x = Tx p := (Option.some.inj hx).symm
      subst hx'
      have hnx : ([pa, pb].take (pre ++ [Tx p]).length).filter (fun x => decide (x ≠ [])) = ([pa, pb].take pre.length).filter (fun x => decide (x ≠ [])) ++ (if p ≠ [] then [p] else []) := by
        rw [show (pre ++ [Tx p]).length = pre.length + 1 by simp, take_snoc' hp, List.filter_append]
        by_cases h : p = [] <;> simp [h]
      wtm_at "unf"
      refine ⟨rfl, ?_⟩
      wtm_at "gx"
      have hfl : ((([pa, pb].take pre.length).filter fun x => decide (x ≠ [])).map Tx).length ≤ 2 := by
        rw [List.length_map]
        refine Nat.le_trans (List.length_filter_le _ _) ?_
        rw [List.length_take]
        simp
        omega
      by_cases h : p = []
      · refine ⟨false, by rw [h]; simp, ?_⟩
        rw [if_neg Bool.false_ne_true]
        refine ⟨?_, sH⟩
        rw [hnx, ed', if_neg (by simp [h]), List.append_nil]
      · refine ⟨true, by rw [decide_eq_false (fun e => h (Tx_inj.mp e))]; rfl, ?_⟩
        rw [if_pos rfl]
        wtm_at "gx"
        refine lc_put ed' (by omega) fun H10 b10 e10 => ⟨?_, Same.b0 b10 sH nd⟩
        rw [hnx, if_pos h, List.map_append]
        exact e10
    · obtain ⟨ed', sH⟩ := hv
      have ews : ([pa, pb].take ([pa, pb].map Tx).length).filter (fun x => decide (x ≠ [])) = [pa, pb].filter fun x => decide (x ≠ []) := by
        rw [List.length_map, List.take_length]
      rw [ews] at ed'
      have hjt : TL.joinL [10] ([pa, pb].filter fun x => decide (x ≠ [])) = TL.joinL [10] (lnN (nestD (l ++ m)) 0) := by
        rw [hap, lnN_app, ← hpa, ← hpb]
        exact join_two (ln_ne _ _) (ln_ne _ _)
      have sA : Same H5 H' := s6.trans (s7.trans (s8.trans sH))
      have e1c := sA _ _ e1b
      have t1c := TrIs.same sA t1b
      have e2c := sA _ _ e2b
      have t2c := TrIs.same sA t2b
      have enac := sA _ _ enab
      wtm_at "gx"
      refine g_joinT (ps := [pa, pb].filter fun x => decide (x ≠ [])) (sq_of ed') ?_ ?_
      · have a1 := ln_len hcl hl
        have a2 := ln_len hcm hm
        rw [hpa] at a1
        rw [hpb] at a2
        by_cases k1 : pa = [] <;> by_cases k2 : pb = [] <;> simp [k1, k2] <;> omega
      rw [hjt]
      refine g_ifH (b := false) (G := fun G => Same H' G) (fun Q' q' => ?_) (fun G sG h => by cases h) (fun G sG _ => ?_)
      · wtm_at "unf"
        wtm_at "gx"
        refine g_cat e1c e2c (by omega) fun c1 G1 nc1 g1 ec1 => ?_
        refine ⟨c1, x1 ++ x2, nestD l ++ nestD m, _, rfl, ec1, TrIs.app (TrIs.same g1 t1c) (TrIs.same g1 t2c), hap ▸ hok, by rw [deeps_app]; omega, by rw [txN_app, tx_nest hcm, tx_nest hcl, List.length_append]; omega, fun G2 g2 => ?_⟩
        rw [← hap]
        wtm_at "gx"
        refine ⟨l ++ m, rfl, by rw [List.length_append]; omega, hca, hsa, fun b3 x3 A3 G3 g3 e3 t3 n3 f3 => ?_⟩
        rw [hap] at t3
        have g13 : Same H' G3 := g1.trans (g2.trans g3)
        wtm_at "gx"
        refine g_cat (g13 _ _ e1c) (g13 _ _ e2c) (by omega) fun c2 G4 nc2 g4 ec2 => ?_
        refine g_neNestD (g4 _ _ e3) (TrIs.same g4 t3) ec2 (TrIs.app (TrIs.same (g13.trans g4) t1c) (TrIs.same (g13.trans g4) t2c)) (hap ▸ hok) (by rw [deeps_app]; omega) ?_
        wtm_at "gx"
        exact q' _ (g13.trans g4)
      wtm_at "unf"
      wtm_at "gx"
      refine ⟨l, rfl, by omega, ?_⟩
      obtain ⟨hab, hac⟩ := about_nest hcl hsl
      have hal := about_len l
      have hsub := sub_many hcl hsl
      wtm_at "gx"
      refine ⟨about l, rfl, by omega, hac, about_sg hsl, fun b4 x4 A4 G1 g1 e4 t4 n4 f4 => ?_⟩
      rw [hab] at t4
      have hmd := mirN_deep (nestD l)
      have hmw : Nd.wides (mirN (nestD l)) ≤ 30 := by rw [← hab]; have := nest_wide (about l); omega
      have hms := mirN_sub (nestD l)
      have g1' : Same H' G1 := sG.trans g1
      have enad := g1' _ _ enac
      wtm_at "gx"
      refine ⟨b4, x4, mirN (nestD l), A4, rfl, e4, t4, by show _ ≤ 61; omega, by omega, ⟨by decide, by omega⟩, fun r5 y5 G2 nr5 g2 e5 p5 => ?_⟩
      wtm_at "gx"
      refine ⟨b1, x1, nestD l, A1, rfl, (g1'.trans g2) _ _ e1c, TrIs.same (g1'.trans g2) t1c, by show _ ≤ 61; omega, by omega, ⟨by decide, by omega⟩, fun r6 y6 G3 nr6 g3 e6 p6 => ?_⟩
      have hy : y5.length = y6.length := by rw [pd_len p5, pd_len p6, pth_sub, pth_sub, hms]
      wtm_at "gx"
      have g3' : Same H' G3 := g1'.trans (g2.trans g3)
      have enae := g3' _ _ enac
      refine ⟨b4, x4, mirN (nestD l), A4, rfl, (g2.trans g3) _ _ e4, TrIs.same (g2.trans g3) t4, by show _ ≤ 61; omega, by omega, fun G4 g4 => ?_⟩
      wtm_at "gx"
      refine ⟨b1, x1, nestD l, A1, rfl, (g3'.trans g4) _ _ e1c, TrIs.same (g3'.trans g4) t1c, by show _ ≤ 61; omega, by omega, fun G5 g5 => ?_⟩
      rw [hmd]
      wtm_at "gx"
      exact q _ (s1.trans (s2.trans (s3.trans (s4.trans (s5.trans (sA.trans (g3'.trans (g4.trans g5))))))))
/-! _law_within_right -/
def sp_law_within_right : Sp := fun vs H Q _ => ∃ (l : List Nat) (k : Nat), vs = [Tx l, .int k] ∧ l.length ≤ 30 ∧ k < 4 ∧ clean l ∧ (∀ c ∈ l, isSg c) ∧ ∀ H', Same H H' → Q (.bl true) H'
theorem ok_law_within_right (T : Facts K mg) : C8.Cal P w K mg base 65 "_law_within_right" sp_law_within_right [] := by
  refine calD T.f_law_within_right sc_law_within_right (fun vs H Q E h => ?_) (fun f cdv A outer s H vs Q E hr h => ?_)
  · obtain ⟨l, k, rfl, hl, hk, hcl, hsl, q⟩ := h; rfl
  · obtain ⟨l, k, rfl, hl, hk, hcl, hsl, q⟩ := h
    refine ⟨_, (pss_cons (ps_set (i := 2) sc_law_within_right.nd rfl (Or.inl rfl) (pe_own (ok_nest_of T) hr (by omega) rfl (pa_cons (pv 0) pa_nil)))
       (pss_cons (ps_set (i := 3) sc_law_within_right.nd rfl (Or.inl rfl) (pe_lst (pa_cons (pe_tup (pa_cons (pe_ix ix_txt (pe_strS (l := OPN) (by decide +kernel)) (pv 1) (fun _ _ => rfl)) (pa_cons (pv 2) pa_nil))) pa_nil)))
       (pss_cons (ps_ifC (PW.pt (pw_or (pt_cmpR (op_neD hr.units) (pe_own (ok_nest_of T) hr (by omega) rfl (pa_cons (pe_op op_addT (pe_op op_addT (pe_ix ix_txt (pe_strS (l := OPN) (by decide +kernel)) (pv 1) (fun _ _ => rfl)) (pv 0)) (pe_ix ix_txt (pe_strS (l := CLO) (by decide +kernel)) (pv 1) (fun _ _ => rfl))) pa_nil)) (pv 3) (nomark _)) (pw_or1 (pt_cmpR op_ne (pe_own (ok_depth_of T 62) hr (by omega) rfl (pa_cons (pv 3) pa_nil)) (pe_op op_add (pe_own (ok_depth_of T 62) hr (by omega) rfl (pa_cons (pv 2) pa_nil)) pe_int) (nomark _)))))
       (pss_one (ps_ret pe_bl))
       pss_nil)
       (pss_cons (ps_set (i := 4) sc_law_within_right.nd rfl (Or.inl rfl) (pe_op op_cat (pe_lst (pa_cons (pe_strS (l := []) (by decide +kernel)) pa_nil)) (pe_op op_rep (pe_m1 PySem.F.slot_str_split PySem.F.type_str_split mt_splitT (pe_own (ok_outline T) hr (by omega) rfl (pa_cons (pv 2) pa_nil)) (pe_strS (l := [10]) (by decide +kernel))) (pe_callTy call_intB rfl T.b_int (by decide +kernel) (pa_cons (pe_cmpR op_ne (pv 0) (pe_strS (l := []) (by decide +kernel)) (nomark _)) pa_nil)))))
       (pss_cons (ps_if (pt_cmpR op_ne (pe_own (ok_outline T) hr (by omega) rfl (pa_cons (pv 3) pa_nil)) (pe_op op_addT (pe_ix ix_txt (pe_strS (l := OPN) (by decide +kernel)) (pv 1) (fun _ _ => rfl)) (pe_m1 PySem.F.slot_str_join PySem.F.type_str_join mt_joinT (pe_strS (l := [10, 32]) (by decide +kernel)) (pv 4))) (nomark _))
       (pss_one (ps_ret pe_bl))
       pss_nil)
       (pss_one (ps_ret (pe_cmpR (op_eqD hr.units) (pe_own (ok_paths_of T 62) hr (by omega) rfl (pa_cons (pv 3) pa_nil)) (pe_op op_cat (pe_lst (pa_cons (pe_tup (pa_cons pe_int pa_nil)) pa_nil)) (pe_lc (own := [("path", 5)]) (by rfl) sc_law_within_right.nd (pi_list (pe_own (ok_paths_of T 62) hr (by omega) rfl (pa_cons (pv 2) pa_nil))) (blkOk_by (own := [("path", 5)]) (N := N_law_within_right) (sc := defScope s_law_within_right) (by decide +kernel)) (fun _ _ _ _ _ => (pg_name (i := 5) sc_law_within_right.nd rfl (Or.inl rfl))) (fun _ _ _ _ _ => pts_nil) (fun _ _ _ _ _ => (pe_op (r := rCatT K) op_catT (pe_tup (pa_cons pe_int pa_nil)) (pv 5))))) (nomark _))))))))), ?_⟩
    rw [st_law_within_right]
    obtain ⟨o, hc1, hc2, hc3, hc4⟩ := opn_at (z := k) hk
    have hdl := nest_deep hcl
    have hwl := nest_wide l
    have hokl := nest_ok hsl
    have hsub := sub_many hcl hsl
    wtm_at "unf"
    wtm_at "gx"
    refine ⟨l, rfl, by omega, hcl, hsl, fun b1 x1 A1 H1 s1 e1 t1 n1 f1 => ?_⟩
    wtm_at "gx"
    refine g_ixT (by decide) (atI_of hc1) ?_
    wtm_at "gx"
    refine g_tup (by show 2 ≤ 100000; decide) fun t H2 nt s2 et => ?_
    refine g_lst (by show 1 ≤ 100000; decide) fun wi H3 nwi s3 ewi => ?_
    have sA : Same H1 H3 := s2.trans s3
    have e1a := sA _ _ e1
    have t1a := TrIs.same sA t1
    have eta := s3 _ _ et
    have twi : TrIs H3 [V.ref t] [Nd.br o (nestD l)] ((b1 :: A1) ++ []) := .cons (.br eta e1a t1a) .nil
    have hokw : ndOk [Nd.br o (nestD l)] := ndOk_one (by rw [ndOk1]; exact ⟨hc3, hokl⟩)
    have htw : txN [Nd.br o (nestD l)] = [o] ++ l ++ [oth o] := by rw [txN_one, txI, tx_nest hcl]; simp
    have hwn : nestD ([o] ++ l ++ [oth o]) = [Nd.br o (nestD l)] := by rw [← htw]; exact nest_txN hokw
    have hwc : clean ([o] ++ l ++ [oth o]) := by rw [← htw]; exact txN_clean _ hokw
    have hws : ∀ c ∈ [o] ++ l ++ [oth o], isSg c := fun c hc => by
      rcases List.mem_append.mp hc with hc | hc
      · rcases List.mem_append.mp hc with hc | hc
        · rw [List.mem_singleton.mp hc]; exact .inr (brk_or.mpr (.inl hc3))
        · exact hsl c hc
      · rw [List.mem_singleton.mp hc]; exact .inr (brk_or.mpr (.inr hc4))
    have hdw : Nd.deeps [Nd.br o (nestD l)] = Nd.deeps (nestD l) + 1 := by rw [Nd.deeps, Nd.deeps, Nd.deep]; omega
    have hww : Nd.wides [Nd.br o (nestD l)] ≤ 32 := by rw [← hwn]; have := nest_wide ([o] ++ l ++ [oth o]); simp at this; simp; omega
    wtm_at "unf"
    refine g_ifH (b := false) (G := fun H4 => Same H3 H4) (fun Q' q' => ?_) (fun H4 s4 h => by cases h) (fun H4 s4 _ => ?_)
    · wtm_at "unf"
      wtm_at "gx"
      refine g_ixT (by decide) (atI_of hc1) ?_
      wtm_at "gx"
      refine g_ixT (by decide) (atI_of hc2) ?_
      wtm_at "gx"
      refine ⟨[o] ++ l ++ [oth o], rfl, by simp; omega, hwc, hws, fun b2 x2 A2 G1 g1 e2 t2 n2 f2 => ?_⟩
      rw [hwn] at t2
      wtm_at "gx"
      refine g_neNestD e2 t2 (g1 _ _ ewi) (TrIs.same g1 twi) hokw (by omega) ?_
      wtm_at "gx"
      refine ⟨wi, _, _, _, rfl, g1 _ _ ewi, TrIs.same g1 twi, by show _ ≤ 61; omega, by omega, fun G2 g2 => ?_⟩
      wtm_at "gx"
      refine ⟨b1, x1, nestD l, A1, rfl, (g1.trans g2) _ _ e1a, TrIs.same (g1.trans g2) t1a, by show _ ≤ 61; omega, by omega, fun G3 g3 => ?_⟩
      rw [hdw, show ((Nd.deeps (nestD l) + 1 : Nat) : Int) = (Nd.deeps (nestD l) : Int) + 1 by omega]
      wtm_at "gx"
      exact q' _ (g1.trans (g2.trans g3))
    wtm_at "unf"
    wtm_at "gx"
    refine g_lst (by show 1 ≤ 100000; decide) fun za H5 nza s5 eza => ?_
    have s35 : Same H3 H5 := s4.trans s5
    wtm_at "gx"
    refine ⟨b1, x1, nestD l, A1, rfl, s35 _ _ e1a, TrIs.same s35 t1a, hokl, by omega, by rw [tx_nest hcl]; omega, fun H6 s6 => ?_⟩
    have hll := ln_len hcl hl
    have hspl : l ≠ [] → TL.spl [10] 0 [] (TL.joinL [10] (lnN (nestD l) 0)) = lnN (nestD l) 0 := fun h0 => by
      have hne : lnN (nestD l) 0 ≠ [] := fun e => h0 (lines_none hcl e)
      refine TL.spl_join hne fun x hx hmem => ?_
      rcases lnN_sgn (nestD l) 0 hokl x hx 10 hmem with h | h
      · cases h
      · exact not_sg10 h
    have hlm := lnN_many (nestD l) 0
    rw [tx_nest hcl] at hlm
    have hrp : (List.replicate (if l = [] then 0 else 1) ((TL.spl [10] 0 [] (TL.joinL [10] (lnN (nestD l) 0))).map Tx)).flatten = (lnN (nestD l) 0).map Tx := by
      by_cases h0 : l = []
      · rw [if_pos h0, h0]
        rfl
      · rw [if_neg h0, hspl h0]
        simp
    wtm_at "gx"
    refine g_splitT (by decide) (by decide) (by omega) fun sa H7 nsa s7 esa => ?_
    wtm_at "gx"
    have hint : V.int (if (!decide (Tx l = Tx [])) = true then 1 else 0) = V.int ((if l = [] then 0 else 1 : Nat) : Nat) := by
      by_cases h0 : l = []
      · rw [if_pos h0, h0]; rfl
      · have h1 : Tx l ≠ Tx [] := fun e => h0 (Tx_inj.mp e)
        rw [if_neg h0, decide_eq_false h1]; rfl
    rw [hint]
    refine g_rep (n := if l = [] then 0 else 1) esa (by
      by_cases h0 : l = []
      · rw [if_pos h0]; omega
      · rw [if_neg h0, hspl h0, List.length_map]; omega) (by split <;> omega) fun c8 H8 nc8 s8 e8 => ?_
    rw [hrp] at e8
    have s58 : Same H5 H8 := s6.trans (s7.trans s8)
    refine g_cat (s58 _ _ eza) e8 (by simp; omega) fun c9 H9 nc9 s9 e9 => ?_
    have e9' : H9 c9 = some (.lst ((([] : List Nat) :: lnN (nestD l) 0).map Tx)) := e9
    have s39 : Same H3 H9 := s35.trans (s58.trans s9)
    wtm_at "gx"
    refine ⟨wi, _, _, _, rfl, s39 _ _ ewi, TrIs.same s39 twi, hokw, by omega, by rw [htw]; simp; omega, fun H10 s10 => ?_⟩
    wtm_at "gx"
    refine g_ixT (by decide) (atI_of hc1) ?_
    refine ⟨⟨_, rfl⟩, ?_⟩
    wtm_at "gx"
    have hsum : ((([] : List Nat) :: lnN (nestD l) 0).map (·.length)).sum ≤ 30 * 40 := by
      rw [List.map_cons, List.sum_cons]
      have h4 : ((lnN (nestD l) 0).map (·.length)).sum ≤ (lnN (nestD l) 0).length * 40 := sum_le _ fun x hx => by have := (lnN_len _ _ x hx).2; omega
      have h5 : (lnN (nestD l) 0).length * 40 ≤ 30 * 40 := Nat.mul_le_mul_right _ (by omega)
      simp only [List.length_nil]
      omega
    refine g_joinT (ps := [] :: lnN (nestD l) 0) (sq_of (s10 _ _ e9')) (by
      have : (([] : List Nat) :: lnN (nestD l) 0).length * [10, 32].length ≤ 62 := by simp; omega
      omega) ?_
    have hout : TL.joinL [10] (lnN [Nd.br o (nestD l)] 0) = [o] ++ TL.joinL [10, 32] ([] :: lnN (nestD l) 0) := by
      rw [show lnN [Nd.br o (nestD l)] 0 = [o] :: lnN (nestD l) 1 by rw [lnN, lnN, lnI, List.append_nil]; rfl, lnN_in, joinL_in]
      cases lnN (nestD l) 0 with
      | nil => rfl
      | cons p r => rw [List.map_cons, joinL_cons _ _ (by simp)]; rfl
    have hj2 : (TL.joinL [10, 32] ([] :: lnN (nestD l) 0)).length ≤ 3000 := by
      have h1 := joinL_len (lnN [Nd.br o (nestD l)] 0)
      have h2 := congrArg List.length hout
      rw [List.length_append] at h2
      have h3 : lnN [Nd.br o (nestD l)] 0 = [o] :: lnN (nestD l) 1 := by rw [lnN, lnN, lnI, List.append_nil]; rfl
      rw [h3, List.map_cons, List.sum_cons, List.length_cons] at h1
      rw [h3] at h2
      rw [List.map_cons, List.sum_cons] at hsum
      have h4 : ((lnN (nestD l) 1).map (·.length)).sum ≤ (lnN (nestD l) 1).length * 40 := sum_le _ fun x hx => by have := (lnN_len _ _ x hx).2; omega
      have h5 := lnN_many (nestD l) 1
      rw [tx_nest hcl] at h5
      have h6 : (lnN (nestD l) 1).length * 40 ≤ 30 * 40 := Nat.mul_le_mul_right _ (by omega)
      simp only [List.length_cons, List.length_nil] at h1 h2
      omega
    refine g_addT (by simp only [List.length_cons, List.length_nil]; omega) ?_
    rw [hout]
    wtm_at "gx"
    have s3x : Same H3 H10 := s39.trans s10
    wtm_at "gx"
    have hsw : subN [Nd.br o (nestD l)] = Nd.br o (nestD l) :: subN (nestD l) := by rw [subN, subN, subI]; simp
    refine ⟨wi, _, _, _, rfl, s3x _ _ ewi, TrIs.same s3x twi, by show _ ≤ 61; omega, by omega, ⟨by decide, by rw [hsw, List.length_cons]; omega⟩, fun r1 y1 H11 nr1 s11 er1 p1 => ?_⟩
    refine g_tup (by show 1 ≤ 100000; decide) fun u1 H12 nu1 s12 eu1 => ?_
    refine g_lst (by show 1 ≤ 100000; decide) fun l1 H13 nl1 s13 el1 => ?_
    wtm_at "gx"
    have s3y : Same H3 H13 := s3x.trans (s11.trans (s12.trans s13))
    refine ⟨b1, x1, nestD l, A1, rfl, s3y _ _ e1a, TrIs.same s3y t1a, by show _ ≤ 61; omega, by omega, ⟨by decide, by omega⟩, fun r2 y2 H14 nr2 s14 er2 p2 => ?_⟩
    refine ⟨r2, rfl, ⟨_, sq_of er2⟩, lc_lst y2 fun d G4 nd g4 ed => ⟨fun pre' G' => ∃ ws : List V, G' d = some (.lst ws) ∧ Paired (TpI G') ws (((pthN (nestD l) 0).take pre'.length).map (0 :: ·)) ∧ Same H14 G', ⟨[], ed, by simp; exact .nil, g4⟩, fun pre' post' G' e' hv' => ?_, fun pre' x' post' G' e' hv' => ?_, fun G' hv' => ?_⟩⟩
    · obtain ⟨ws, e1, e2, e3⟩ := hv'
      exact sq_of (e3 _ _ er2)
    · obtain ⟨ws, e1, e2, e3⟩ := hv'
      obtain ⟨p, hp, tp, rfl, hpt⟩ := pd_at p2 (mid_at e')
      have hpl := pthN_len (nestD l) 0 p (List.mem_of_getElem? hp)
      have hwl : ws.length ≤ 10000 := by
        rw [pd_len e2, List.length_map, List.length_take, pth_sub]
        omega
      have hnx' : ((pthN (nestD l) 0).take (pre' ++ [V.ref tp]).length).map (0 :: ·) = ((pthN (nestD l) 0).take pre'.length).map (0 :: ·) ++ [0 :: p] := by
        rw [show (pre' ++ [V.ref tp]).length = pre'.length + 1 by simp, take_snoc' hp, List.map_append]; rfl
      wtm_at "unf"
      refine ⟨rfl, ?_⟩
      wtm_at "gx"
      refine g_tup (by show 1 ≤ 100000; decide) fun v1 G5 nv1 g5 ev1 => ?_
      wtm_at "gx"
      refine ⟨v1, tp, _, _, rfl, rfl, .inl (.inl ev1), .inl (.inl (g5 _ _ (e3 _ _ hpt))), by simp, ?_, fun h0 => ?_, fun h0 v2 nv2 => ?_⟩
      · simp
        have z2 : sizeLine = 2 ^ 24 := rfl
        omega
      · exact absurd (List.map_eq_nil_iff.mp h0) hpl.1
      · have s6 : Same G5 (upd G5 v2 (.tup ([V.int 0] ++ p.map fun k : Nat => V.int k))) := Same.new nv2
        have e6 : (upd G5 v2 (.tup ([V.int 0] ++ p.map fun k : Nat => V.int k))) v2 = some (.tup ([V.int 0] ++ p.map fun k : Nat => V.int k)) := upd_same
        generalize upd G5 v2 (.tup ([V.int 0] ++ p.map fun k : Nat => V.int k)) = G6 at s6 e6
        refine lc_put (s6 _ _ (g5 _ _ e1)) (by omega) fun G7 b7 e7 => ⟨_, e7, ?_, Same.b0 b7 (e3.trans (g5.trans s6)) nd⟩
        rw [hnx']
        exact pd_imp (fun _ _ h => h.but (s6 _ _ (g5 _ _ e1)) b7) (pd_app (pd_imp (fun _ _ h => h.same (g5.trans s6)) e2) (.cons ⟨v2, rfl, e6⟩ .nil))
    · obtain ⟨ws, e1, e2, e3⟩ := hv'
      rw [pd_len p2, List.take_length] at e2
      have hwl : ws.length = (subN (nestD l)).length := by rw [pd_len e2, List.length_map, pth_sub]
      wtm_at "gx"
      refine g_cat ((s14.trans e3) _ _ el1) e1 (by simp; omega) fun c5 G5 nc5 g5 ec5 => ?_
      have s1x : Same H11 G5 := s12.trans (s13.trans (s14.trans (e3.trans g5)))
      have pA : Paired (TpI G5) y1 ([0] :: (pthN (nestD l) 0).map (0 :: ·)) := by
        have := pd_imp (fun _ _ h => h.same s1x) p1
        rw [pthN_one, pthI] at this
        exact this
      have pB : Paired (TpI G5) (V.ref u1 :: ws) ([0] :: (pthN (nestD l) 0).map (0 :: ·)) := .cons ⟨u1, rfl, (s13.trans (s14.trans (e3.trans g5))) _ _ eu1⟩ (pd_imp (fun _ _ h => h.same g5) e2)
      refine g_eqDp (.lst (sq_of (s1x _ _ er1)) (dp_pth pA)) (.lst (sq_of ec5) (dp_pth pB)) (shaped_pth _) ?_
      exact q _ (s1.trans (sA.trans (s3x.trans (s11.trans s1x))))
def opl (l : List Nat) (n : Nat) : List Nat := (List.range n).filter fun k => decide (l.getD k 0 ∈ OPN)
theorem opl_succ {l : List Nat} {n c : Nat} (h : l[n]? = some c) : opl l (n + 1) = opl l n ++ if c ∈ OPN then [n] else [] := by
  unfold opl
  rw [List.range_succ, List.filter_append]
  congr 1
  have e : l.getD n 0 = c := by rw [List.getD_eq_getElem?_getD, h]; rfl
  by_cases hc : c ∈ OPN
  · rw [if_pos hc, List.filter_cons_of_pos (by rw [e]; simpa using hc)]; rfl
  · rw [if_neg hc, List.filter_cons_of_neg (by rw [e]; simpa using hc)]; rfl
theorem cntO_snoc (l : List Nat) (c : Nat) : cntO (l ++ [c]) = cntO l + if c ∈ OPN then 1 else 0 := by
  unfold cntO
  rw [List.countP_append, List.countP_singleton]
  simp
theorem opl_cnt {l : List Nat} : ∀ n, n ≤ l.length → (opl l n).length = cntO (l.take n)
  | 0, _ => rfl
  | n + 1, h => by
    have e : l[n]? = some l[n] := List.getElem?_eq_getElem (by omega)
    rw [opl_succ e, List.length_append, opl_cnt n (by omega), (cut_at e).1, cntO_snoc]
    congr 1
    split <;> rfl
theorem opl_at {l : List Nat} : ∀ {n k i : Nat}, n ≤ l.length → (opl l n)[k]? = some i → i < n ∧ ∃ c, l[i]? = some c ∧ c ∈ OPN ∧ cntO (l.take i) = k
  | 0, k, i, _, h => by cases h
  | n + 1, k, i, hn, h => by
    have e : l[n]? = some l[n] := List.getElem?_eq_getElem (by omega)
    rw [opl_succ e] at h
    by_cases hk : k < (opl l n).length
    · rw [List.getElem?_append_left hk] at h
      obtain ⟨h1, h2⟩ := opl_at (by omega) h
      exact ⟨by omega, h2⟩
    · rw [List.getElem?_append_right (by omega)] at h
      by_cases hc : l[n] ∈ OPN
      · rw [if_pos hc] at h
        obtain ⟨h1, h2⟩ := List.getElem?_eq_some_iff.mp h
        simp at h1
        have h0 : k - (opl l n).length = 0 := by omega
        simp [h0] at h2
        subst h2
        exact ⟨by omega, _, e, hc, by rw [← opl_cnt n (by omega)]; omega⟩
      · rw [if_neg hc] at h
        cases h
theorem pth_ks {K : PySem.W.Frag} {H : Hp} : ∀ {ys : List V} {ps : List (List Nat)}, Paired (TpI H) ys ps → ∃ ks : List (Addr × List Int), ks.map (fun p => V.ref p.1) = ys ∧ (∀ p ∈ ks, SqT K H p.1 (p.2.map V.int)) ∧ ks.map (·.2) = ps.map (fun p => p.map fun k : Nat => (k : Int))
  | _, _, .nil => ⟨[], rfl, by simp, rfl⟩
  | _, _, .cons h r => by
    obtain ⟨ks, h1, h2, h3⟩ := pth_ks (K := K) r
    obtain ⟨t, rfl, ht⟩ := h
    rename_i p _ _
    refine ⟨(t, p.map fun k : Nat => (k : Int)) :: ks, by rw [List.map_cons, h1], fun q hq => ?_, by rw [List.map_cons, h3, List.map_cons]⟩
    rcases List.mem_cons.mp hq with rfl | hq
    · refine .inl (.inl ?_)
      show H t = some (.tup ((p.map fun k : Nat => (k : Int)).map V.int))
      rw [List.map_map]
      exact ht
    · exact h2 q hq
theorem cast_inj : ∀ {p q : List Nat}, (p.map fun k : Nat => (k : Int)) = (q.map fun k : Nat => (k : Int)) → p = q
  | [], [], _ => rfl
  | [], _ :: _, h => by cases h
  | _ :: _, [], h => by cases h
  | x :: p, y :: q, h => by
    rw [List.map_cons, List.map_cons] at h
    have h1 := (List.cons.inj h).1
    rw [cast_inj (List.cons.inj h).2, show x = y by omega]
theorem nodup_cast {ps : List (List Nat)} (h : ps.Nodup) : (ps.map (fun p => p.map fun k : Nat => (k : Int))).Nodup := List.pairwise_map.mpr (h.imp fun hab e => hab (cast_inj e))
theorem mtV_some {l : List Nat} {i j : Nat} (h : (mates l)[i]? = some (some j)) : (mtV (mates l))[i]? = some (V.int j) := by
  unfold mtV
  rw [List.getElem?_map, h]
  rfl
theorem cut_last {p : List Nat} (h : p ≠ []) : cutV (p.map fun k : Nat => V.int k) none (some (-1)) = p.dropLast.map fun k : Nat => V.int k := by
  unfold cutV
  rw [HT.sIx_none, List.drop_zero, List.dropLast_eq_take, List.map_take]
  congr 1
  have hl : 0 < p.length := List.length_pos_iff.mpr h
  rw [List.length_map]
  unfold HT.sIx
  simp
  omega
/-! _law_paths_right -/
def sp_law_paths_right : Sp := fun vs H Q _ => ∃ (l : List Nat), vs = [Tx l] ∧ l.length ≤ 60 ∧ clean l ∧ (∀ c ∈ l, isSg c) ∧ ∀ H', Same H H' → Q (.bl true) H'
theorem ok_law_paths_right (T : Facts K mg) : C8.Cal P w K mg base 65 "_law_paths_right" sp_law_paths_right [] := by
  refine calD T.f_law_paths_right sc_law_paths_right (fun vs H Q E h => ?_) (fun f cdv A outer s H vs Q E hr h => ?_)
  · obtain ⟨l, rfl, hl, hcl, hsl, q⟩ := h; rfl
  · obtain ⟨l, rfl, hl, hcl, hsl, q⟩ := h
    refine ⟨_, (pss_cons (ps_set (i := 1) sc_law_paths_right.nd rfl (Or.inl rfl) (pe_own (ok_nest_of T) hr (by omega) rfl (pa_cons (pv 0) pa_nil)))
       (pss_cons (ps_set (i := 2) sc_law_paths_right.nd rfl (Or.inl rfl) (pe_own (ok_paths_of T 62) hr (by omega) rfl (pa_cons (pv 1) pa_nil)))
       (pss_cons (ps_setLc (i := 3) (own := [("place", 9)]) (by rfl) sc_law_paths_right.nd rfl rfl (sw_true rfl rfl rfl (by decide +kernel)) (pi_range1 rfl T.b_range (pa_cons (pe_callB call_lenT rfl T.b_len PySem.boot_len (pa_cons (pv 0) pa_nil)) pa_nil)) (blkOk_by (own := [("place", 9)]) (N := N_law_paths_right) (sc := defScope s_law_paths_right) (by decide +kernel)) (fun _ _ _ _ _ => (pg_name (i := 9) sc_law_paths_right.nd rfl (Or.inl rfl))) (fun _ _ _ _ _ => (pts_one (pt_cmpR op_inT (pe_ix ix_txt (pv 0) (pv 9) (fun _ _ => rfl)) (pe_strS (l := OPN) (by decide +kernel)) (by rfl)))) (fun _ _ _ _ _ => (pv 9)))
       (pss_cons (ps_set (i := 4) sc_law_paths_right.nd rfl (Or.inl rfl) (pe_own (ok_partners T) hr (by omega) rfl (pa_cons (pv 0) pa_nil)))
       (pss_cons (ps_ifC (PW.pt (pw_or (pt_cmpR op_ne (pe_callB call_lenL rfl T.b_len PySem.boot_len (pa_cons (pv 2) pa_nil)) (pe_callB call_lenL rfl T.b_len PySem.boot_len (pa_cons (pv 3) pa_nil)) (nomark _)) (pw_or1 (pt_cmpR op_lt (pe_callB call_lenSt rfl T.b_len PySem.boot_len (pa_cons (pe_callTy (cr_setOfT rfl hr.units) rfl T.b_set (by decide +kernel) (pa_cons (pv 2) pa_nil)) pa_nil)) (pe_callB call_lenL rfl T.b_len PySem.boot_len (pa_cons (pv 2) pa_nil)) (nomark _)))))
       (pss_one (ps_ret pe_bl))
       pss_nil)
       (pss_cons (ps_for PassesOwn.never rfl (pi_range1 rfl T.b_range (pa_cons (pe_callB call_lenL rfl T.b_len PySem.boot_len (pa_cons (pv 2) pa_nil)) pa_nil)) (pg_name (i := 5) sc_law_paths_right.nd rfl (Or.inl rfl))
       (pss_cons (ps_set (i := 6) sc_law_paths_right.nd rfl (Or.inl rfl) (pe_ix ix_list (pv 2) (pv 5) (fun _ _ => rfl)))
       (pss_cons (ps_ifC (PW.pt (pw_and (pt_cmpR op_gt (pe_callB call_lenL rfl T.b_len PySem.boot_len (pa_cons (pv 6) pa_nil)) pe_int (nomark _)) (pw_and1 (pt_cmpR (op_notInD (Ly.Room.w65 hr)) (pe_slice sl_tup (pv 6) po_none (po_some (pe_un un_neg pe_int))) (pe_slice sl_list (pv 2) po_none (po_some (pv 5))) (by rfl)))))
       (pss_one (ps_ret pe_bl))
       pss_nil)
       (pss_cons (ps_asg (pe_own (ok_at_path T) hr (by omega) rfl (pa_cons (pv 1) (pa_cons (pv 6) pa_nil))) (pg_tup rfl (pgs_cons (pg_name (i := 7) sc_law_paths_right.nd rfl (Or.inl rfl)) (pgs_cons (pg_name (i := 8) sc_law_paths_right.nd rfl (Or.inl rfl)) pgs_nil))))
       (pss_one (ps_ifC (PW.pt (pw_or (pt_cmpR op_ne (pv 7) (pe_ix ix_txt (pv 0) (pe_ix ix_list (pv 3) (pv 5) (fun _ _ => rfl)) (fun _ _ => rfl)) (nomark _)) (pw_or1 (pt_cmpR (op_neD hr.units) (pv 8) (pe_own (ok_nest_of T) hr (by omega) rfl (pa_cons (pe_slice sl_tx (pv 0) (po_some (pe_op op_add (pe_ix ix_list (pv 3) (pv 5) (fun _ _ => rfl)) pe_int)) (po_some (pe_ix ix_list (pv 4) (pe_ix ix_list (pv 3) (pv 5) (fun _ _ => rfl)) (fun _ _ => rfl)))) pa_nil)) (nomark _)))))
       (pss_one (ps_ret pe_bl))
       pss_nil))))))
       (pss_one (ps_ret pe_bl)))))))), ?_⟩
    rw [st_law_paths_right]
    have hdl := nest_deep hcl
    have hwl := nest_wide l
    have hokl := nest_ok hsl
    have hsub := sub_many hcl hsl
    have hcn : (opl l l.length).length = (subN (nestD l)).length := by
      rw [opl_cnt _ (Nat.le_refl _), List.take_length]
      have := cnt_subN (nestD l) hokl
      rw [tx_nest hcl] at this
      exact this
    wtm_at "unf"
    wtm_at "gx"
    refine ⟨l, rfl, by omega, hcl, hsl, fun b1 x1 A1 H1 s1 e1 t1 n1 f1 => ?_⟩
    wtm_at "gx"
    refine ⟨b1, x1, nestD l, A1, rfl, e1, t1, by show _ ≤ 61; omega, by omega, ⟨by decide, by omega⟩, fun r2 y2 H2 nr2 s2 e2 p2 => ?_⟩
    wtm_at "gx"
    refine ⟨l.length, rfl, by omega, by omega, lc_rng fun d H3 nd s3 ed => ⟨fun i H' => H' d = some (.lst ((opl l i).map fun k : Nat => V.int k)) ∧ Same H2 H', ⟨ed, s3⟩, fun i H' hi hv => ?_, fun H' hv => ?_⟩⟩
    · obtain ⟨ed', sH⟩ := hv
      have hi' : i < l.length := by omega
      have ec : l[i]? = some l[i] := List.getElem?_eq_getElem hi'
      have hol : (opl l i).length ≤ i := by unfold opl; exact Nat.le_trans (List.length_filter_le _ _) (by simp)
      wtm_at "unf"
      refine ⟨rfl, ?_⟩
      wtm_at "gx"
      rw [show (0 : Int) + (i : Int) = (i : Int) by omega]
      refine g_ixT (by omega) (atI_of ec) ?_
      wtm_at "gx"
      refine g_test (fun h => ?_) (fun h => ?_)
      · wtm_at "unf"
        wtm_at "gx"
        refine lc_put ed' (by rw [List.length_map]; omega) fun H4 b4 e4 => ⟨?_, Same.b0 b4 sH nd⟩
        rw [opl_succ ec, if_pos h, List.map_append]
        exact e4
      · exact ⟨by rw [opl_succ ec, if_neg h, List.append_nil]; exact ed', sH⟩
    obtain ⟨ed3, s3'⟩ := hv
    rw [show (l.length : Int).toNat = l.length from rfl] at ed3
    have e23 := s3' _ _ e2
    have p23 : Paired (TpI H') y2 (pthN (nestD l) 0) := pd_imp (fun _ _ h => h.same s3') p2
    have e13 := (s2.trans s3') _ _ e1
    have t13 := TrIs.same (s2.trans s3') t1
    have hy2 : y2.length = (subN (nestD l)).length := by rw [pd_len p2, pth_sub]
    have hop : ((opl l l.length).map fun k : Nat => V.int k).length = (subN (nestD l)).length := by rw [List.length_map, hcn]
    wtm_at "gx"
    refine ⟨l, rfl, by omega, fun ma H4 nma s4 ema => ?_⟩
    wtm_at "unf"
    refine g_ifH (b := false) (G := fun H5 => Same H4 H5) (fun Q' q' => ?_) (fun H5 s5 h => by cases h) (fun H5 s5 _ => ?_)
    · wtm_at "unf"
      wtm_at "gx"
      obtain ⟨ks, k1, k2, k3⟩ := pth_ks (K := K) (pd_imp (fun _ _ h => h.same s4) p23)
      have hkl : ks.length = (subN (nestD l)).length := by rw [← hy2, ← k1, List.length_map]
      refine ⟨r2, ks, rfl, by rw [k1]; exact sq_of (s4 _ _ e23), k2, by omega, fun a L na h1 h2 => ?_⟩
      have hL : (subN (nestD l)).length ≤ L.length := by
        have := nodup_le (xs := ks.map (·.2)) (ys := L.map (·.2)) (by rw [k3]; exact nodup_cast (pthN_nodup _ _)) fun x hx => by
          obtain ⟨p, hp, rfl⟩ := List.mem_map.mp hx
          exact h2 p hp
        rw [List.length_map, List.length_map, hkl] at this
        exact this
      refine ⟨a, L, rfl, upd_same, fun p hp => SqT.same (Same.new na) (k2 p (h1 p hp)), ?_⟩
      wtm_at "gx"
      refine g_lenL (sq_of ((Same.new na) _ _ (s4 _ _ e23))) ?_
      wtm_at "gx"
      exact q' _ (Same.new na)
    have s45 : Same H' H5 := s4.trans s5
    have e25 := s45 _ _ e23
    have ed5 := s45 _ _ ed3
    have p25 : Paired (TpI H5) y2 (pthN (nestD l) 0) := pd_imp (fun _ _ h => h.same s45) p23
    have e15 := s45 _ _ e13
    have t15 := TrIs.same s45 t13
    have em5 := s5 _ _ ema
    wtm_at "unf"
    wtm_at "gx"
    refine ⟨y2.length, rfl, by omega, by omega, for_rng (fun i σ G => ∃ z5 z6 z7 z8, σ = [some (Tx l), some (V.ref b1), some (V.ref r2), some (V.ref d), some (V.ref ma), z5, z6, z7, z8, none] ∧ Same H5 G) ⟨_, _, _, _, rfl, Same.refl _⟩ (fun i σ G hi hv => ?_) (fun σ G hv => ?_)⟩
    · obtain ⟨z5, z6, z7, z8, rfl, sG⟩ := hv
      have hi' : i < y2.length := by omega
      have ey : y2[i]? = some y2[i] := List.getElem?_eq_getElem hi'
      obtain ⟨p, hp, tp, htp, hpt⟩ := pd_at p25 ey
      have hpm := pthN_len _ _ _ (List.mem_of_getElem? hp)
      have hio : i < (opl l l.length).length := by omega
      have eo : (opl l l.length)[i]? = some (opl l l.length)[i] := List.getElem?_eq_getElem hio
      obtain ⟨hn, c, hc, hco, hcnt⟩ := opl_at (Nat.le_refl _) eo
      generalize hnn : (opl l l.length)[i] = n at eo hn hc hcnt
      obtain ⟨es, j, hptn, hseg, hnes, hces, hsubi, hoke⟩ := sub_text hcl hsl (cut_at hc).2 hco
      have hpl : (l.take n).length = n := by rw [List.length_take]; omega
      rw [hpl] at hptn hseg hnes hces
      rw [hcnt] at hsubi
      have hjl : j < l.length := by obtain ⟨_, _, _, _, h, _⟩ := hptn; exact (List.getElem?_eq_some_iff.mp h).1
      have hnj : n < j := hptn.1
      have hrc := rchN (nestD l) 0 (nestD l) rfl i p _ hp hsubi
      have emt := mtV_some ((mates_ptn l n j).mpr (.inl hptn))
      have eoV : ((opl l l.length).map fun k : Nat => V.int k)[i]? = some (V.int n) := by rw [List.getElem?_map, eo]; rfl
      wtm_at "unf"
      rw [show (0 : Int) + (i : Int) = (i : Int) by omega]
      wtm_at "gx"
      refine g_ixL (sq_of (sG _ _ e25)) (atI_of ey) ?_
      rw [htp]
      have hpt' := sG _ _ hpt
      wtm_at "unf"
      refine g_ifH (b := false) (G := fun G1 => Same G G1) (fun Q' q' => ?_) (fun G1 g1 h => by cases h) (fun G1 g1 _ => ?_)
      · wtm_at "unf"
        wtm_at "gx"
        rw [List.length_map]
        by_cases h1 : 1 < p.length
        · refine ⟨true, by rw [decide_eq_true (by omega)], ?_⟩
          rw [if_pos rfl]
          wtm_at "gx"
          refine ⟨tp, _, rfl, st_of hpt', ?_, fun u nu => ?_⟩
          · intro hh
            have h2 := hh.2
            rw [List.length_map] at h2
            unfold HT.sIx at h2
            simp at h2
            omega
          rw [cut_last hpm.1]
          have g2 : Same G (upd G u (.tup (p.dropLast.map fun k : Nat => V.int k))) := Same.new nu
          have eu : (upd G u (.tup (p.dropLast.map fun k : Nat => V.int k))) u = some (.tup (p.dropLast.map fun k : Nat => V.int k)) := upd_same
          generalize upd G u (.tup (p.dropLast.map fun k : Nat => V.int k)) = G2 at g2 eu
          wtm_at "gx"
          refine g_slL (sq_of (g2 _ _ (sG _ _ e25))) fun v G3 nv g3 ev => ?_
          rw [cut_to] at ev
          have pk : Paired (TpI G3) (y2.take i) ((pthN (nestD l) 0).take i) := pd_take i (pd_imp (fun _ _ h => h.same (sG.trans (g2.trans g3))) p25)
          refine ⟨pdD p.dropLast, ((pthN (nestD l) 0).take i).map pdD, .tup (.inl (.inl (g3 _ _ eu))) (dp_pN _), .lst (sq_of ev) (dp_pth pk), pdD_shaped _, shaped_pth _, ?_⟩
          have hany : (((pthN (nestD l) 0).take i).map pdD).any (fun z => PyData.eqv z (pdD p.dropLast)) = true := List.any_eq_true.mpr ⟨pdD p.dropLast, List.mem_map_of_mem (pthN_pre _ _ _ _ hp h1), SeqAt.eqv_refl _ (pdD_can _)⟩
          rw [hany]
          exact ⟨_, rfl, q' _ (g2.trans g3)⟩
        · refine ⟨false, by rw [decide_eq_false (by omega)], ?_⟩
          rw [if_neg Bool.false_ne_true]
          exact q' _ (Same.refl _)
      wtm_at "unf"
      wtm_at "gx"
      have sG1 : Same H5 G1 := sG.trans g1
      refine ⟨b1, x1, nestD l, A1, tp, p, c, es, rfl, sG1 _ _ e15, TrIs.same sG1 t15, by omega, by omega, g1 _ _ hpt', by omega, hrc, fun tf rf yf Bf G2 g2 etf erf trf nodf frf => ?_⟩
      refine ⟨tf, _, rfl, st_of etf, rfl, _, _, rfl, _, _, rfl, rfl, ?_⟩
      wtm_at "unf"
      refine g_ifH (b := false) (G := fun G3 => Same G2 G3) (fun Q' q' => ?_) (fun G3 g3 h => by cases h) (fun G3 g3 _ => ?_)
      · have sG2 : Same H5 G2 := sG1.trans g2
        wtm_at "unf"
        wtm_at "gx"
        refine g_ixL (sq_of (sG2 _ _ ed5)) (atI_of eoV) ?_
        refine g_ixT (by omega) (atI_of hc) ?_
        wtm_at "gx"
        refine g_ixL (sq_of (sG2 _ _ ed5)) (atI_of eoV) ?_
        wtm_at "gx"
        refine g_ixL (sq_of (sG2 _ _ ed5)) (atI_of eoV) ?_
        wtm_at "gx"
        refine g_ixL (sq_of (sG2 _ _ em5)) (atI_of emt) ?_
        wtm_at "gx"
        rw [show ((n : Int) + 1) = ((n + 1 : Nat) : Int) by omega]
        refine g_slAny (by omega) (by omega) (by omega) ?_
        have hsgs : ∀ c ∈ (l.take j).drop (n + 1), isSg c := fun c h => hsl c (List.mem_of_mem_take (List.mem_of_mem_drop h))
        have hsgl : ((l.take j).drop (n + 1)).length ≤ 60 := by rw [List.length_drop, List.length_take]; omega
        refine ⟨_, rfl, by omega, hces, hsgs, fun b6 x6 A6 G3 g3 e6 t6 n6 f6 => ?_⟩
        have hnes' : nestD ((l.take j).drop (n + 1)) = es := hnes
        rw [hnes'] at t6
        have hde : 2 * Nd.deeps es ≤ 60 := by have := nest_deep hces; rw [hnes] at this; unfold seg at this; omega
        refine g_neNestD (g3 _ _ erf) (TrIs.same g3 trf) e6 t6 hoke (by omega) ?_
        wtm_at "gx"
        exact q' _ g3
      exact ⟨_, _, _, _, rfl, sG1.trans (g2.trans g3)⟩
    · obtain ⟨z5, z6, z7, z8, rfl, sG⟩ := hv
      wtm_at "unf"
      wtm_at "gx"
      exact q _ (s1.trans (s2.trans (s3'.trans (s45.trans sG))))
/-! law -/
def spLaw (K : PySem.W.Frag) : Sp := fun vs H Q _ => ∃ (a : Addr) (ns : List Int), vs = [.ref a] ∧ SqL K H a (ns.map V.int) ∧ ns.length ≤ 63 ∧ ∀ H', Q (.bl true) H'
theorem ok_law {f : Addr} {fd : FuncData} (T : Facts K mg) (F : FunD K "law" "law" (defArgs s_law) (defBody s_law) (defScope s_law) [] [] f fd) : FnOk P w K mg base C8.CX0 68 f fd ["script"] (spLaw K) := by
  refine fnD F sc_law (fun vs H Q E h => ?_) (fun cdv A outer s H vs Q E hr h => ?_)
  · obtain ⟨a, ns, rfl, hS, hlen, q⟩ := h; rfl
  · obtain ⟨a, ns, rfl, hS, hlen, q⟩ := h
    refine ⟨_, (pss_cons (ps_for PassesOwn.never rfl (pi_list (pe_op op_cat (pe_slice sl_list (pv 0) po_none (po_some pe_int)) (pe_lst (pa_cons (pe_callB call_lenL rfl T.b_len PySem.boot_len (pa_cons (pv 0) pa_nil)) pa_nil)))) (pg_name (i := 1) sc_law.nd rfl (Or.inl rfl))
       (pss_cons (ps_set (i := 2) sc_law.nd rfl (Or.inl rfl) (pe_own (ok_law_pot T) hr (by omega) rfl (pa_cons (pv 1) pa_nil)))
       (pss_cons (ps_set (i := 3) sc_law.nd rfl (Or.inl rfl) (pe_own (ok_law_clean T) hr (by omega) rfl (pa_cons (pv 2) (pa_cons (pe_own (ok_law_long T) hr (by omega) rfl (pa_cons (pv 2) (pa_cons pe_int pa_nil))) pa_nil))))
       (pss_cons (ps_set (i := 4) sc_law.nd rfl (Or.inl rfl) (pe_own (ok_law_clean T) hr (by omega) rfl (pa_cons (pv 2) (pa_cons (pe_own (ok_law_long T) hr (by omega) rfl (pa_cons (pv 2) (pa_cons pe_int pa_nil))) pa_nil))))
       (pss_cons (ps_ifC (PW.pt (pw_or (pt_not (pt_val (pe_own (ok_law_two_right T) hr (by omega) rfl (pa_cons (pv 3) (pa_cons (pv 4) pa_nil))))) (pw_or1 (pt_not (pt_val (pe_own (ok_law_within_right T) hr (by omega) rfl (pa_cons (pv 3) (pa_cons (pe_own (ok_law_take T) hr (by omega) rfl (pa_cons (pv 2) (pa_cons pe_int pa_nil))) pa_nil))))))))
       (pss_one (ps_ret pe_bl))
       pss_nil)
       (pss_one (ps_ifC (PW.pt (pw_or (pt_not (pt_val (pe_own (ok_law_paths_right T) hr (by omega) rfl (pa_cons (pv 3) pa_nil)))) (pw_or1 (pt_not (pt_val (pe_own (ok_law_paths_right T) hr (by omega) rfl (pa_cons (pe_op op_addT (pv 4) (pv 3)) pa_nil)))))))
       (pss_one (ps_ret pe_bl))
       pss_nil)))))))
       (pss_one (ps_ret pe_bl))), ?_⟩
    rw [st_law]
    wtm_at "unf"
    wtm_at "go"
    refine g_slL hS fun c1 H1 n1 s1 e1 => ?_
    obtain ⟨ms, ems, hms⟩ := cut_ints ns none (some 6)
    rw [ems] at e1
    wtm_at "go"
    refine g_lenL (Same.seq s1 hS) ?_
    refine g_lst (by show 1 ≤ 100000; decide) fun c2 H2 n2 s2 e2 => ?_
    refine g_cat (by wtm_at "lk") e2 (by simp; omega) fun c3 H3 n3 s3 e3 => ?_
    obtain ⟨zs, ezs⟩ : ∃ zs : List Int, ms.map V.int ++ [V.int (ns.map V.int).length] = zs.map V.int := ⟨ms ++ [((ns.map V.int).length : Int)], by rw [List.map_append]; rfl⟩
    rw [ezs] at e3
    refine ⟨_, rfl, ⟨_, sq_of e3⟩, for_lst (zs.map V.int) (fun pre σ H' => ∃ y1 y2 y3 y4, σ = [some (V.ref a), y1, y2, y3, y4] ∧ Same H3 H') ⟨_, _, _, _, rfl, Same.refl _⟩ (fun pre post σ H' e hv => ?_) (fun pre x post σ H' e hv => ?_) (fun σ H' hv => ?_)⟩
    · obtain ⟨y1, y2, y3, y4, rfl, sH⟩ := hv
      exact sq_of (sH _ _ e3)
    · obtain ⟨y1, y2, y3, y4, rfl, sH⟩ := hv
      obtain ⟨z, rfl⟩ : ∃ z, x = V.int z := by
        have hm : x ∈ zs.map V.int := by rw [e]; simp
        obtain ⟨z, _, hz⟩ := List.mem_map.mp hm
        exact ⟨z, hz.symm⟩
      wtm_at "unf"
      wtm_at "go"
      refine ⟨z, rfl, fun p P1 H5 np s5 e5 => ?_⟩
      have np3 := sH.free np
      wtm_at "go"
      refine ⟨p, P1, 1, rfl, e5, rfl, fun r P2 H6 hr b6 e6 => ?_⟩
      refine ⟨p, P2, r, rfl, e6, by omega, fun l P3 H7 hs hl hc b7 e7 => ?_⟩
      wtm_at "go"
      refine ⟨p, P3, 1, rfl, e7, rfl, fun r' P4 H8 hr' b8 e8 => ?_⟩
      refine ⟨p, P4, r', rfl, e8, by omega, fun m P5 H9 hs' hl' hc' b9 e9 => ?_⟩
      wtm_at "unf"
      refine g_ifH (b := false) (G := fun G => But p H9 G) (fun Q' q' => ?_) (fun G g h => by cases h) (fun G g _ => ?_)
      · wtm_at "unf"
        wtm_at "gx"
        refine ⟨l, m, rfl, by omega, by omega, hc, hc', hs, hs', fun G1 g1 => ?_⟩
        wtm_at "gx"
        refine ⟨p, P5, 4, rfl, g1 _ _ e9, by decide, by decide, fun k P6 G2 k0 k1 b2 e2' => ?_⟩
        obtain ⟨kn, rfl⟩ := Int.eq_ofNat_of_zero_le k0
        refine ⟨l, kn, rfl, by omega, by omega, hc, hs, fun G3 g3 => ?_⟩
        exact ⟨_, rfl, q' _ (But.sa g3 (But.tr b2 (Same.toBut g1)))⟩
      wtm_at "unf"
      refine g_ifH (b := false) (G := fun G1 => Same G G1) (fun Q' q' => ?_) (fun G1 g1 h => by cases h) (fun G1 g1 _ => ?_)
      · wtm_at "unf"
        wtm_at "gx"
        refine ⟨l, rfl, by omega, hc, hs, fun G1 g1 => ?_⟩
        wtm_at "gx"
        refine ⟨m ++ l, rfl, by rw [List.length_append]; omega, clean_app hc' hc, fun c h => (List.mem_append.mp h).elim (hs' c) (hs c), fun G2 g2 => ?_⟩
        exact ⟨_, rfl, q' _ (g1.trans g2)⟩
      exact ⟨_, _, _, _, rfl, Same.b0 (But.tr (Same.toBut g1) (But.tr g (But.tr b9 (But.tr b8 (But.tr b7 b6))))) (sH.trans s5) np3⟩
    · obtain ⟨y1, y2, y3, y4, rfl, sH⟩ := hv
      wtm_at "unf"
      wtm_at "gx"
      exact q _
end
end K12

set_option maxHeartbeats 0
namespace K12
open PySem PySem.Spec PyProof.Rows L2 SX Ly
/-! ### the head -/
def d_is_one_of : He.DefD := ⟨("is_one_of", none), "is_one_of", "is_one_of", defArgs s_is_one_of, defBody s_is_one_of, defScope s_is_one_of, [], []⟩
def d_kind_of : He.DefD := ⟨("kind_of", none), "kind_of", "kind_of", defArgs s_kind_of, defBody s_kind_of, defScope s_kind_of, [], []⟩
def d_other_side : He.DefD := ⟨("other_side", none), "other_side", "other_side", defArgs s_other_side, defBody s_other_side, defScope s_other_side, [], []⟩
def d_partners : He.DefD := ⟨("partners", none), "partners", "partners", defArgs s_partners, defBody s_partners, defScope s_partners, [], []⟩
def d_is_clean : He.DefD := ⟨("is_clean", none), "is_clean", "is_clean", defArgs s_is_clean, defBody s_is_clean, defScope s_is_clean, [], []⟩
def d_turned_about : He.DefD := ⟨("turned_about", none), "turned_about", "turned_about", defArgs s_turned_about, defBody s_turned_about, defScope s_turned_about, [], []⟩
def d_is_nest_from : He.DefD := ⟨("is_nest_from", none), "is_nest_from", "is_nest_from", defArgs s_is_nest_from, defBody s_is_nest_from, defScope s_is_nest_from, [], []⟩
def d_is_nest : He.DefD := ⟨("is_nest", none), "is_nest", "is_nest", defArgs s_is_nest, defBody s_is_nest, defScope s_is_nest, [], []⟩
def d_nest_of : He.DefD := ⟨("nest_of", none), "nest_of", "nest_of", defArgs s_nest_of, defBody s_nest_of, defScope s_nest_of, [], []⟩
def d_joined : He.DefD := ⟨("joined", none), "joined", "joined", defArgs s_joined, defBody s_joined, defScope s_joined, [], []⟩
def d_text_of : He.DefD := ⟨("text_of", none), "text_of", "text_of", defArgs s_text_of, defBody s_text_of, defScope s_text_of, [], []⟩
def d_depth_of : He.DefD := ⟨("depth_of", none), "depth_of", "depth_of", defArgs s_depth_of, defBody s_depth_of, defScope s_depth_of, [], []⟩
def d_paths_of : He.DefD := ⟨("paths_of", none), "paths_of", "paths_of", defArgs s_paths_of, defBody s_paths_of, defScope s_paths_of, [], []⟩
def d_copied : He.DefD := ⟨("copied", none), "copied", "copied", defArgs s_copied, defBody s_copied, defScope s_copied, [], []⟩
def d_at_path : He.DefD := ⟨("at_path", none), "at_path", "at_path", defArgs s_at_path, defBody s_at_path, defScope s_at_path, [], []⟩
def d_lines_of : He.DefD := ⟨("lines_of", none), "lines_of", "lines_of", defArgs s_lines_of, defBody s_lines_of, defScope s_lines_of, [], []⟩
def d_outline : He.DefD := ⟨("outline", none), "outline", "outline", defArgs s_outline, defBody s_outline, defScope s_outline, [], []⟩
def d_read_outline : He.DefD := ⟨("read_outline", none), "read_outline", "read_outline", defArgs s_read_outline, defBody s_read_outline, defScope s_read_outline, [], []⟩
def d_law_mixed : He.DefD := ⟨("_law_mixed", none), "_law_mixed", "_law_mixed", defArgs s_law_mixed, defBody s_law_mixed, defScope s_law_mixed, [], []⟩
def d_law_pot : He.DefD := ⟨("_law_pot", none), "_law_pot", "_law_pot", defArgs s_law_pot, defBody s_law_pot, defScope s_law_pot, [], []⟩
def d_law_take : He.DefD := ⟨("_law_take", none), "_law_take", "_law_take", defArgs s_law_take, defBody s_law_take, defScope s_law_take, [], []⟩
def d_law_sign : He.DefD := ⟨("_law_sign", none), "_law_sign", "_law_sign", defArgs s_law_sign, defBody s_law_sign, defScope s_law_sign, [], []⟩
def d_law_clean : He.DefD := ⟨("_law_clean", none), "_law_clean", "_law_clean", defArgs s_law_clean, defBody s_law_clean, defScope s_law_clean, [], []⟩
def d_law_bent : He.DefD := ⟨("_law_bent", none), "_law_bent", "_law_bent", defArgs s_law_bent, defBody s_law_bent, defScope s_law_bent, [], []⟩
def d_law_long : He.DefD := ⟨("_law_long", none), "_law_long", "_law_long", defArgs s_law_long, defBody s_law_long, defScope s_law_long, [], []⟩
def d_law_text : He.DefD := ⟨("_law_text", none), "_law_text", "_law_text", defArgs s_law_text, defBody s_law_text, defScope s_law_text, [], []⟩
def d_law_two_right : He.DefD := ⟨("_law_two_right", none), "_law_two_right", "_law_two_right", defArgs s_law_two_right, defBody s_law_two_right, defScope s_law_two_right, [], []⟩
def d_law_within_right : He.DefD := ⟨("_law_within_right", none), "_law_within_right", "_law_within_right", defArgs s_law_within_right, defBody s_law_within_right, defScope s_law_within_right, [], []⟩
def d_law_paths_right : He.DefD := ⟨("_law_paths_right", none), "_law_paths_right", "_law_paths_right", defArgs s_law_paths_right, defBody s_law_paths_right, defScope s_law_paths_right, [], []⟩
def d_law : He.DefD := ⟨("law", none), "law", "law", defArgs s_law, defBody s_law, defScope s_law, [], []⟩
def fn : List He.DefD := [d_is_one_of, d_kind_of, d_other_side, d_partners, d_is_clean, d_turned_about, d_is_nest_from, d_is_nest, d_nest_of, d_joined, d_text_of, d_depth_of, d_paths_of, d_copied, d_at_path, d_lines_of, d_outline, d_read_outline, d_law_mixed, d_law_pot, d_law_take, d_law_sign, d_law_clean, d_law_bent, d_law_long, d_law_text, d_law_two_right, d_law_within_right, d_law_paths_right, d_law]
def exL (K : PySem.W.Frag) : List Bool := (errB K (He.ga K "NoNest") (He.ga K "MendError")) :: (PySem.W.kitOne K (.ref (He.ga K "NoNest")) (.type "ValueError") == some true) :: (PySem.W.kitOne K (.ref (He.ga K "NoNest")) (.ref (He.ga K "NoNest")) == some true) :: []
def ex (K : PySem.W.Frag) : Bool := (exL K).all id
def fa : List He.Fa := [.glo "is_one_of", .glo "kind_of", .glo "other_side", .glo "partners", .glo "is_clean", .glo "turned_about", .glo "is_nest_from", .glo "is_nest", .glo "nest_of", .glo "joined", .glo "text_of", .glo "depth_of", .glo "paths_of", .glo "copied", .glo "at_path", .glo "lines_of", .glo "outline", .glo "read_outline", .glo "_law_mixed", .glo "_law_pot", .glo "_law_take", .glo "_law_sign", .glo "_law_clean", .glo "_law_bent", .glo "_law_long", .glo "_law_text", .glo "_law_two_right", .glo "_law_within_right", .glo "_law_paths_right", .glo "law", .str "LETTERS" (S LET), .str "OPENING" (S OPN), .str "CLOSING" (S CLO), .str "BRACKETS" (S BRK), .int "DEEPEST" 60, .free "len", .free "int", .free "str", .free "range", .free "enumerate", .free "zip", .free "isinstance", .free "list", .free "tuple", .free "bool", .free "max", .free "set", .free "ValueError", .glo "MendError", .glo "NoNest"]
abbrev R : PySem.W.OpenRow := PySem.W.OpenLaw.row PySem.Challenge.rw_nestmend_k12_whole_nests_put_together
abbrev hk : PySem.W.Hook := hookE 4 fa fn ex
def ob (s : PySem.W.SharedT) : AlE := obsEG 4 fa fn ex (HandSHeadRun.getT s)
theorem ob_eq (s : PySem.W.SharedT) : ob s = hk.obs s.abs := obsEG_eq (HandSHeadRun.getT_eq s)
def loose : List Str := ("MendError" : Str) :: ("NoNest" : Str) :: ("LETTERS" : Str) :: ("OPENING" : Str) :: ("CLOSING" : Str) :: ("BRACKETS" : Str) :: ("is_one_of" : Str) :: ("kind_of" : Str) :: ("other_side" : Str) :: ("partners" : Str) :: ("is_clean" : Str) :: ("turned_about" : Str) :: ("DEEPEST" : Str) :: ("is_nest_from" : Str) :: ("is_nest" : Str) :: ("nest_of" : Str) :: ("joined" : Str) :: ("text_of" : Str) :: ("depth_of" : Str) :: ("paths_of" : Str) :: ("copied" : Str) :: ("at_path" : Str) :: ("lines_of" : Str) :: ("outline" : Str) :: ("read_outline" : Str) :: ("_law_mixed" : Str) :: ("_law_pot" : Str) :: ("_law_take" : Str) :: ("_law_sign" : Str) :: ("_law_clean" : Str) :: ("_law_bent" : Str) :: ("_law_long" : Str) :: ("_law_text" : Str) :: ("_law_two_right" : Str) :: ("_law_within_right" : Str) :: ("_law_paths_right" : Str) :: []
theorem run (w : World) : HandSHeadRun.RunEq R (PySem.W.view R.prog [40]) hk ob 6000 loose w := by
  intro os
  kernel_rfl
theorem facts {K : PySem.W.Frag} {h : Heap} {mg : Str → Option Value} (X : K.In h) (G : h.Ns mainGlobals mg) (c : He.SaysD fa fn K) (cx : ex K = true) : Facts K mg where
  f_is_one_of := by
    obtain ⟨fd, F⟩ := c.def_ 0 (d := d_is_one_of) rfl
    exact ⟨_, fd, F, He.glo_ok X G (c.fact 0 (f := .glo "is_one_of") rfl), FunD.bindsN F fun _ _ _ _ _ _ us hl => match us, hl with | [_, _], _ => rfl⟩
  f_kind_of := by
    obtain ⟨fd, F⟩ := c.def_ 1 (d := d_kind_of) rfl
    exact ⟨_, fd, F, He.glo_ok X G (c.fact 1 (f := .glo "kind_of") rfl), FunD.bindsN F fun _ _ _ _ _ _ us hl => match us, hl with | [_], _ => rfl⟩
  f_other_side := by
    obtain ⟨fd, F⟩ := c.def_ 2 (d := d_other_side) rfl
    exact ⟨_, fd, F, He.glo_ok X G (c.fact 2 (f := .glo "other_side") rfl), FunD.bindsN F fun _ _ _ _ _ _ us hl => match us, hl with | [_], _ => rfl⟩
  f_partners := by
    obtain ⟨fd, F⟩ := c.def_ 3 (d := d_partners) rfl
    exact ⟨_, fd, F, He.glo_ok X G (c.fact 3 (f := .glo "partners") rfl), FunD.bindsN F fun _ _ _ _ _ _ us hl => match us, hl with | [_], _ => rfl⟩
  f_is_clean := by
    obtain ⟨fd, F⟩ := c.def_ 4 (d := d_is_clean) rfl
    exact ⟨_, fd, F, He.glo_ok X G (c.fact 4 (f := .glo "is_clean") rfl), FunD.bindsN F fun _ _ _ _ _ _ us hl => match us, hl with | [_], _ => rfl⟩
  f_turned_about := by
    obtain ⟨fd, F⟩ := c.def_ 5 (d := d_turned_about) rfl
    exact ⟨_, fd, F, He.glo_ok X G (c.fact 5 (f := .glo "turned_about") rfl), FunD.bindsN F fun _ _ _ _ _ _ us hl => match us, hl with | [_], _ => rfl⟩
  f_is_nest_from := by
    obtain ⟨fd, F⟩ := c.def_ 6 (d := d_is_nest_from) rfl
    exact ⟨_, fd, F, He.glo_ok X G (c.fact 6 (f := .glo "is_nest_from") rfl), FunD.bindsN F fun _ _ _ _ _ _ us hl => match us, hl with | [_, _], _ => rfl⟩
  f_is_nest := by
    obtain ⟨fd, F⟩ := c.def_ 7 (d := d_is_nest) rfl
    exact ⟨_, fd, F, He.glo_ok X G (c.fact 7 (f := .glo "is_nest") rfl), FunD.bindsN F fun _ _ _ _ _ _ us hl => match us, hl with | [_], _ => rfl⟩
  f_nest_of := by
    obtain ⟨fd, F⟩ := c.def_ 8 (d := d_nest_of) rfl
    exact ⟨_, fd, F, He.glo_ok X G (c.fact 8 (f := .glo "nest_of") rfl), FunD.bindsN F fun _ _ _ _ _ _ us hl => match us, hl with | [_], _ => rfl⟩
  f_joined := by
    obtain ⟨fd, F⟩ := c.def_ 9 (d := d_joined) rfl
    exact ⟨_, fd, F, He.glo_ok X G (c.fact 9 (f := .glo "joined") rfl), FunD.bindsN F fun _ _ _ _ _ _ us hl => match us, hl with | [_], _ => rfl⟩
  f_text_of := by
    obtain ⟨fd, F⟩ := c.def_ 10 (d := d_text_of) rfl
    exact ⟨_, fd, F, He.glo_ok X G (c.fact 10 (f := .glo "text_of") rfl), FunD.bindsN F fun _ _ _ _ _ _ us hl => match us, hl with | [_], _ => rfl⟩
  f_depth_of := by
    obtain ⟨fd, F⟩ := c.def_ 11 (d := d_depth_of) rfl
    exact ⟨_, fd, F, He.glo_ok X G (c.fact 11 (f := .glo "depth_of") rfl), FunD.bindsN F fun _ _ _ _ _ _ us hl => match us, hl with | [_], _ => rfl⟩
  f_paths_of := by
    obtain ⟨fd, F⟩ := c.def_ 12 (d := d_paths_of) rfl
    exact ⟨_, fd, F, He.glo_ok X G (c.fact 12 (f := .glo "paths_of") rfl), FunD.bindsN F fun _ _ _ _ _ _ us hl => match us, hl with | [_], _ => rfl⟩
  f_copied := by
    obtain ⟨fd, F⟩ := c.def_ 13 (d := d_copied) rfl
    exact ⟨_, fd, F, He.glo_ok X G (c.fact 13 (f := .glo "copied") rfl), FunD.bindsN F fun _ _ _ _ _ _ us hl => match us, hl with | [_], _ => rfl⟩
  f_at_path := by
    obtain ⟨fd, F⟩ := c.def_ 14 (d := d_at_path) rfl
    exact ⟨_, fd, F, He.glo_ok X G (c.fact 14 (f := .glo "at_path") rfl), FunD.bindsN F fun _ _ _ _ _ _ us hl => match us, hl with | [_, _], _ => rfl⟩
  f_lines_of := by
    obtain ⟨fd, F⟩ := c.def_ 15 (d := d_lines_of) rfl
    exact ⟨_, fd, F, He.glo_ok X G (c.fact 15 (f := .glo "lines_of") rfl), FunD.bindsN F fun _ _ _ _ _ _ us hl => match us, hl with | [_, _], _ => rfl⟩
  f_outline := by
    obtain ⟨fd, F⟩ := c.def_ 16 (d := d_outline) rfl
    exact ⟨_, fd, F, He.glo_ok X G (c.fact 16 (f := .glo "outline") rfl), FunD.bindsN F fun _ _ _ _ _ _ us hl => match us, hl with | [_], _ => rfl⟩
  f_read_outline := by
    obtain ⟨fd, F⟩ := c.def_ 17 (d := d_read_outline) rfl
    exact ⟨_, fd, F, He.glo_ok X G (c.fact 17 (f := .glo "read_outline") rfl), FunD.bindsN F fun _ _ _ _ _ _ us hl => match us, hl with | [_], _ => rfl⟩
  f_law_mixed := by
    obtain ⟨fd, F⟩ := c.def_ 18 (d := d_law_mixed) rfl
    exact ⟨_, fd, F, He.glo_ok X G (c.fact 18 (f := .glo "_law_mixed") rfl), FunD.bindsN F fun _ _ _ _ _ _ us hl => match us, hl with | [_, _], _ => rfl⟩
  f_law_pot := by
    obtain ⟨fd, F⟩ := c.def_ 19 (d := d_law_pot) rfl
    exact ⟨_, fd, F, He.glo_ok X G (c.fact 19 (f := .glo "_law_pot") rfl), FunD.bindsN F fun _ _ _ _ _ _ us hl => match us, hl with | [_], _ => rfl⟩
  f_law_take := by
    obtain ⟨fd, F⟩ := c.def_ 20 (d := d_law_take) rfl
    exact ⟨_, fd, F, He.glo_ok X G (c.fact 20 (f := .glo "_law_take") rfl), FunD.bindsN F fun _ _ _ _ _ _ us hl => match us, hl with | [_, _], _ => rfl⟩
  f_law_sign := by
    obtain ⟨fd, F⟩ := c.def_ 21 (d := d_law_sign) rfl
    exact ⟨_, fd, F, He.glo_ok X G (c.fact 21 (f := .glo "_law_sign") rfl), FunD.bindsN F fun _ _ _ _ _ _ us hl => match us, hl with | [_], _ => rfl⟩
  f_law_clean := by
    obtain ⟨fd, F⟩ := c.def_ 22 (d := d_law_clean) rfl
    exact ⟨_, fd, F, He.glo_ok X G (c.fact 22 (f := .glo "_law_clean") rfl), FunD.bindsN F fun _ _ _ _ _ _ us hl => match us, hl with | [_, _], _ => rfl⟩
  f_law_bent := by
    obtain ⟨fd, F⟩ := c.def_ 23 (d := d_law_bent) rfl
    exact ⟨_, fd, F, He.glo_ok X G (c.fact 23 (f := .glo "_law_bent") rfl), FunD.bindsN F fun _ _ _ _ _ _ us hl => match us, hl with | [_, _], _ => rfl⟩
  f_law_long := by
    obtain ⟨fd, F⟩ := c.def_ 24 (d := d_law_long) rfl
    exact ⟨_, fd, F, He.glo_ok X G (c.fact 24 (f := .glo "_law_long") rfl), FunD.bindsN F fun _ _ _ _ _ _ us hl => match us, hl with | [_, _], _ => rfl⟩
  f_law_text := by
    obtain ⟨fd, F⟩ := c.def_ 25 (d := d_law_text) rfl
    exact ⟨_, fd, F, He.glo_ok X G (c.fact 25 (f := .glo "_law_text") rfl), FunD.bindsN F fun _ _ _ _ _ _ us hl => match us, hl with | [_, _], _ => rfl⟩
  f_law_two_right := by
    obtain ⟨fd, F⟩ := c.def_ 26 (d := d_law_two_right) rfl
    exact ⟨_, fd, F, He.glo_ok X G (c.fact 26 (f := .glo "_law_two_right") rfl), FunD.bindsN F fun _ _ _ _ _ _ us hl => match us, hl with | [_, _], _ => rfl⟩
  f_law_within_right := by
    obtain ⟨fd, F⟩ := c.def_ 27 (d := d_law_within_right) rfl
    exact ⟨_, fd, F, He.glo_ok X G (c.fact 27 (f := .glo "_law_within_right") rfl), FunD.bindsN F fun _ _ _ _ _ _ us hl => match us, hl with | [_, _], _ => rfl⟩
  f_law_paths_right := by
    obtain ⟨fd, F⟩ := c.def_ 28 (d := d_law_paths_right) rfl
    exact ⟨_, fd, F, He.glo_ok X G (c.fact 28 (f := .glo "_law_paths_right") rfl), FunD.bindsN F fun _ _ _ _ _ _ us hl => match us, hl with | [_], _ => rfl⟩
  c_LETTERS := by
    obtain ⟨t, e⟩ := He.str_ok X G (c.fact 30 (f := .str "LETTERS" (S LET)) rfl)
    exact ⟨_, e, ⟨t, rfl⟩⟩
  c_OPENING := by
    obtain ⟨t, e⟩ := He.str_ok X G (c.fact 31 (f := .str "OPENING" (S OPN)) rfl)
    exact ⟨_, e, ⟨t, rfl⟩⟩
  c_CLOSING := by
    obtain ⟨t, e⟩ := He.str_ok X G (c.fact 32 (f := .str "CLOSING" (S CLO)) rfl)
    exact ⟨_, e, ⟨t, rfl⟩⟩
  c_BRACKETS := by
    obtain ⟨t, e⟩ := He.str_ok X G (c.fact 33 (f := .str "BRACKETS" (S BRK)) rfl)
    exact ⟨_, e, ⟨t, rfl⟩⟩
  c_DEEPEST := by
    obtain ⟨t, e⟩ := He.int_ok X G (c.fact 34 (f := .int "DEEPEST" 60) rfl)
    exact ⟨_, e, ⟨t, rfl⟩⟩
  b_len := He.free_ok X G (c.fact 35 (f := .free "len") rfl)
  b_int := He.free_ok X G (c.fact 36 (f := .free "int") rfl)
  b_str := He.free_ok X G (c.fact 37 (f := .free "str") rfl)
  b_range := He.free_ok X G (c.fact 38 (f := .free "range") rfl)
  b_enumerate := He.free_ok X G (c.fact 39 (f := .free "enumerate") rfl)
  b_zip := He.free_ok X G (c.fact 40 (f := .free "zip") rfl)
  b_isinstance := He.free_ok X G (c.fact 41 (f := .free "isinstance") rfl)
  b_list := He.free_ok X G (c.fact 42 (f := .free "list") rfl)
  b_tuple := He.free_ok X G (c.fact 43 (f := .free "tuple") rfl)
  b_bool := He.free_ok X G (c.fact 44 (f := .free "bool") rfl)
  b_max := He.free_ok X G (c.fact 45 (f := .free "max") rfl)
  b_set := He.free_ok X G (c.fact 46 (f := .free "set") rfl)
  b_ValueError := He.free_ok X G (c.fact 47 (f := .free "ValueError") rfl)
  g_MendError := He.glo_ok X G (c.fact 48 (f := .glo "MendError") rfl)
  c_MendError := ⟨_, He.glo_ok X G (c.fact 48 (f := .glo "MendError") rfl), rfl⟩
  g_NoNest := He.glo_ok X G (c.fact 49 (f := .glo "NoNest") rfl)
  c_NoNest := ⟨_, He.glo_ok X G (c.fact 49 (f := .glo "NoNest") rfl), rfl⟩
  z_NoNest := errB_ok (all_at cx (i := 0) rfl)
  kv_NoNest := beq_iff_eq.mp (all_at cx (i := 1) rfl)
  kk_NoNest_NoNest := beq_iff_eq.mp (all_at cx (i := 2) rfl)
theorem law_at {K : PySem.W.Frag} {h : Heap} {mg : Str → Option Value} {f : Addr} (X : K.In h) (G : h.Ns mainGlobals mg) (hfa : mg ("law" : Str) = some (.ref f)) (c : He.SaysD fa fn K) :
    ∃ fd : FuncData, (∀ (s : Shared) (v : Value), BindsTo s fd ⟨[v], []⟩ [("script", v)]) ∧ FunD K "law" "law" (defArgs s_law) (defBody s_law) (defScope s_law) [] [] f fd := by
  obtain ⟨fd, F⟩ := c.def_ 29 (d := d_law) rfl
  have e := hfa.symm.trans (He.glo_ok X G (c.fact 29 (f := .glo "law") rfl))
  cases e
  have b := FunD.bindsA (ps := ["script"]) F fun _ _ _ _ _ _ us hl => match us, hl with | [_], _ => rfl
  exact ⟨fd, fun s v => b s [v] rfl, F⟩

end K12
open PySem PySem.W PySem.Calls PyProof.Rows
theorem PySem.Challenge.cw_nestmend_k12_whole_nests_put_together_holds : PySem.Challenge.rw_nestmend_k12_whole_nests_put_together.Holds := by
  w_on; o_law
  refine HandSHeadRun.head_any (r := OpenLaw.row PySem.Challenge.rw_nestmend_k12_whole_nests_put_together) (q := view (OpenLaw.row PySem.Challenge.rw_nestmend_k12_whole_nests_put_together).prog [40]) (H := K12.hk) (ob := K12.ob) (M := 6000) (loose := K12.loose) (d := HandSHeadRun.topDef (OpenLaw.row PySem.Challenge.rw_nestmend_k12_whole_nests_put_together).prog 40) (kwd := []) K12.ob_eq
    (by kernel_rfl) (fun s => by kernel_rfl) K12.run (by kernel_rfl) (by kernel_rfl) (by kernel_rfl) (by rfl) (by first | assumption | decide +kernel) (by decide +kernel) ⟨rfl, rfl, rfl, rfl, rfl, by decide +kernel⟩ ?hw ?hc
  case hw => w_witness2
  case hc =>
    refine L2.walk_ofE (l := PySem.Challenge.rw_nestmend_k12_whole_nests_put_together) (n := 63) (k := 68) (x := "script") (CX := C8.CX0) rfl (by decide) (by kernel_rfl) ⟨rfl, by decide, by decide⟩ ?F (fun _ _ _ _ z => z)
    intro w mg fa h Y G hmg0
    obtain ⟨K, KX, c, cx⟩ := Y
    have hmg : mg ("law" : PySem.Str) = some (.ref fa) := by
      have e : (HandSHeadRun.topDef (OpenLaw.row PySem.Challenge.rw_nestmend_k12_whole_nests_put_together).prog 40).name = ("law" : PySem.Str) := by kernel_rfl
      rw [← e]
      exact hmg0
    obtain ⟨fd, hb, F⟩ := K12.law_at KX G hmg c
    exact ⟨K, fd, K12.spLaw K, KX, hb, fun H a ns hl _ hS => ⟨a, ns, rfl, hS, hl, fun _ => rfl⟩, fun base _ _ => K12.ok_law (K12.facts KX G c cx) F⟩
