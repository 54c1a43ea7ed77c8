import PyProof.Rows.All
import Wide.All
import OpenK.AllK
import Wide.FinOn
import HandS.ForMost
import HandS.Codes
import HandS.Style
import HandS.Walk
import HandS.IsInst
import HandS.Wide
import HandS.Defaults
import HandS.Flow
import HandS.Replace
import KE.GoesMore
import KE.GoesZip
import KE.GoesEnum
import PyProof.ListStr
import PyProof.StrBlock2
import HandS.Conv
import HandS.ReplaceLit
import HandS.ReplaceList
import HandS.SortInts
import PyProof.Rows.SortShellAny
import PyProof.Rows.StrRev
import PyProof.Rows.SeqMore
import HandS.HeadHook1
import HandS.HeadHook2
import HandS.More
import HandS.ExcOwn
import HandS.ExcIs
import HandS.TryOnly
import HandS.WordsExc
import HandS.HeadEnd
import HandS.TupSets
import HandS.Deep
import PySem.Challenge.RW_nestmend_k27_whole_put_together
import HandS.Head0
import HandS.Head1
import HandS.Head2
set_option Elab.async false
set_option linter.all false
set_option maxRecDepth 100000
set_option maxHeartbeats 4000000
namespace Ly
open PySem PySem.Spec PyProof.Rows L2 SX

/-- a text by its codes -/
abbrev Tx (l : List Nat) : V := V.str (S l)
theorem Tx_inj {a b : List Nat} : Tx a = Tx b ↔ a = b := ⟨fun h => S_inj (V.str.inj h), fun h => by rw [h]⟩
def OPN : List Nat := [40, 60, 91, 123]
def CLO : List Nat := [41, 62, 93, 125]
def BRK : List Nat := [40, 41, 60, 62, 91, 93, 123, 125]
def LET : List Nat := [97, 98, 99, 100, 101, 102, 103, 104, 105, 106, 107, 108, 109, 110, 111, 112, 113, 114, 115, 116, 117, 118, 119, 120, 121, 122]

/-! ### rules -/
section
variable {X : Cx} {k j : Nat} {x : Str} {sp : Sp} {p pos : Pos} {e : Expr} {es : List Expr} {t : TA} {ta tb : TE}
def tOwn (sp : Sp) (t : TA) : TE := fun σ H Q => t σ H fun vs H1 => sp vs H1 Q C8.E0
theorem pe_own (c : C8.Cal X.prog X.w X.K X.mg X.base k x sp []) (hr : Room j X.A) (hk : k ≤ j) (hg : Gl X x) (ha : PA X (e :: es) t)
    (hdb : (x == ("__debug__" : Str)) = false := by decide) (he : starEach (e :: es) X.env = (false, eval e X.env) :: starEach es X.env := by rfl) (hpl : (backTo pos (starEach es X.env)).any (·.1) = false := by rfl) :
    PE X (.Call (.Name x p) (e :: es) [] pos) (tOwn sp t) := by
  have h := C8.pe_c (p := p) c hr hk hg ha hdb he hpl
  have e : tCall sp [] C8.E0 t = tOwn sp t := by
    funext σ H Q
    show (t σ H fun vs H1 => sp (vs ++ []) H1 Q C8.E0) = _
    simp only [List.append_nil]
    rfl
  rw [← e]
  exact h
theorem pe_strS {z : Str} {jj : Nat} {l : List Nat} (h : z = S l) : PE X (.Constant (.str z) jj pos) (tC (Tx l)) := by
  subst h
  exact pe_str
/-- operators by names -/
def rAddT : R2 := fun x y H Q => ∃ a b : List Nat, x = Tx a ∧ y = Tx b ∧ a.length + b.length ≤ 100000 ∧ Q (Tx (a ++ b)) H
theorem op_addT : OpR X (binaryOp .Add) rAddT := fun pins s σ H x y v u Q I rx ry h => by
  obtain ⟨a, b, rfl, rfl, hl, q⟩ := h
  refine op_add_str pins s σ H _ _ v u Q I rx ry ⟨_, _, rfl, rfl, ?_, ?_⟩
  · rw [S_len, S_len]
    exact Nat.le_trans hl (by decide)
  · rw [S_cat]
    exact q
def rInT (neg : Bool) : R2 := fun x y H Q => ∃ (c : Nat) (l : List Nat), x = Tx [c] ∧ y = Tx l ∧ Q (.bl (if neg then !decide (c ∈ l) else decide (c ∈ l))) H
theorem op_inT : OpR X (compareOp .In) (rInT false) := fun pins s σ H x y v u Q I rx ry h => by
  obtain ⟨c, l, rfl, rfl, q⟩ := h
  exact op_in_sign pins s σ H _ _ v u Q I rx ry ⟨c, S l, rfl, rfl, q⟩
theorem op_notInT : OpR X (compareOp .NotIn) (rInT true) := fun pins s σ H x y v u Q I rx ry h => by
  obtain ⟨c, l, rfl, rfl, q⟩ := h
  exact op_notIn_sign pins s σ H _ _ v u Q I rx ry ⟨c, S l, rfl, rfl, q⟩
def rIxT1 : R2 := fun x y H Q => ∃ (l : List Nat) (i : Int) (c : Nat), x = Tx l ∧ y = .int i ∧ l.length ≤ 100000 ∧ atI l i = some c ∧ Q (Tx [c]) H
theorem ix_txt : IxR X rIxT1 := fun value slice pins s σ H x y v u Q I rx ry h hs => by
  obtain ⟨l, i, c, rfl, rfl, hl, h1, q⟩ := h
  refine ix_str value slice pins s σ H _ _ v u Q I rx ry ⟨S l, i, c, rfl, rfl, ?_, h1, q⟩ hs
  rw [S_len]
  exact Nat.le_trans hl (by decide)
def rLenT : List V → Hp → VK → Prop := fun xs H Q => ∃ l : List Nat, xs = [Tx l] ∧ l.length ≤ 100000 ∧ Q (.int l.length) H
theorem call_lenT : CallR X (.builtin "len") rLenT := fun pins s σ H xs us Q I r h => by
  obtain ⟨l, rfl, hl, q⟩ := h
  refine call_len_str pins s σ H _ us Q I r ⟨S l, rfl, ?_, ?_⟩
  · rw [S_len]
    exact Nat.le_trans hl (by decide)
  · rw [S_len]
    exact q
def rIntB : List V → Hp → VK → Prop := fun xs H Q => ∃ b : Bool, xs = [.bl b] ∧ Q (.int (if b then 1 else 0)) H
theorem call_intB : CallR X (.type "int") rIntB := fun pins s σ H xs us Q I r h => by
  obtain ⟨b, rfl, q⟩ := h
  exact call_int1 pins s σ H _ us Q I r (.inr ⟨b, rfl, q⟩)
def rLenL (K : PySem.W.Frag) : List V → Hp → VK → Prop := fun xs H Q => ∃ p ys, xs = [.ref p] ∧ (SqL K H p ys ∨ SqT K H p ys) ∧ Q (.int ys.length) H
theorem call_lenL : CallR X (.builtin "len") (rLenL X.K) := call_len_seq
def rFindT : V → List V → Hp → VK → Prop := fun x xs H Q => ∃ a b : List Nat, x = Tx a ∧ xs = [Tx b] ∧ Q (.int (Txt.find (S a) (S b))) H
def rIdxT : V → List V → Hp → VK → Prop := fun x xs H Q => ∃ (a b : List Nat) (i : Nat), x = Tx a ∧ xs = [Tx b] ∧ Txt.find (S a) (S b) = (i : Int) ∧ Q (.int i) H
theorem mt_idxT : MtR X "str.index" rIdxT := fun pins s σ H x xs v us Q I rx rs h => by
  obtain ⟨a, b, i, h1, h2, h3, q⟩ := h
  unfold Txt.find at h3
  cases ho : Builtin.Str.occurrences (S a) (S b) 0 (S a).length 1 with
  | nil =>
    rw [ho] at h3
    exact absurd h3 (by show ¬ ((-1 : Int) = (i : Int)); omega)
  | cons j r =>
    rw [ho] at h3
    have e : (j : Int) = (i : Int) := h3
    have e2 : j = i := by omega
    subst e2
    exact mt_sindex pins s σ H x xs v us Q I rx rs ⟨S a, S b, j, r, h1, h2, ho, q⟩
def rSlTx : V → Option Int → Option Int → Hp → VK → Prop := fun x lo hi H Q => ∃ l : List Nat, x = Tx l ∧ l.length ≤ 100000 ∧ Q (.str (Txt.slice (S l) lo hi)) H
theorem sl_tx : SlR X rSlTx := by
  intro pins s σ H x v vl vu lo hi sl Q I rx hs pl pu h
  obtain ⟨l, hx, hz, q⟩ := h
  refine C8.sl_txt pins s σ H x v vl vu lo hi sl Q I rx hs pl pu ⟨S l, hx, ?_, q⟩
  rw [S_len]
  exact Nat.le_trans hz (by decide)
end

/-! ### heaps -/
def But (p : Addr) (H H' : Hp) : Prop := ∀ b o, b ≠ p → H b = some o → H' b = some o
section
variable {H H' H1 H2 : Hp} {a b p : Addr} {o u : HO}
theorem Same.new (h : H p = none) : Same H (upd H p u) := fun b x e => by
  rw [upd_ne (ne_of_none e h)]
  exact e
theorem But.refl : But p H H := fun _ _ _ h => h
theorem But.set : But p H (upd H p u) := fun b x n e => by
  rw [upd_ne n]
  exact e
theorem But.trans (x : But p H H1) (y : But p H1 H2) : But p H H2 := fun b o n h => y b o n (x b o n h)
theorem But.same (x : But p H H1) (y : Same H1 H2) : But p H H2 := fun b o n h => y b o (x b o n h)
theorem Same.but (x : Same H H1) (y : But p H1 H2) : But p H H2 := fun b o n h => y b o n (x b o h)
theorem Same.toBut (x : Same H H1) : But p H H1 := fun b o _ h => x b o h
/-- p is new since H -/
theorem Same.but0 (x : Same H H1) (y : But p H1 H2) (n : H p = none) : Same H H2 := fun b o h => y b o (ne_of_none h n) (x b o h)
theorem But.free (x : But p H H1) (n : a ≠ p) (h : H1 a = none) : H a = none := by
  cases q : H a with
  | none => rfl
  | some o =>
    rw [x a o n q] at h
    cases h
theorem But.but0 {q : Addr} (x : But p H H1) (y : But q H1 H2) (n : H q = none) : But p H H2 := fun b o m h => y b o (ne_of_none h n) (x b o m h)
theorem Same.get (s : Same H H1) (h : H a = some o) : H1 a = some o := s a o h
theorem But.get (s : But p H H1) (n : a ≠ p) (h : H a = some o) : H1 a = some o := s a o n h
theorem ne_new (n : H b = none) (h : H a = some o) : a ≠ b := ne_of_none h n
theorem Same.fr (n : H1 a = none) (x : Same H H1) : H a = none := x.free n
theorem But.fr (n : H1 a = none) (x : But p H H1) (m : a ≠ p) : H a = none := x.free m n
theorem Same.tr (y : Same H1 H2) (x : Same H H1) : Same H H2 := x.trans y
theorem Same.b0 (y : But p H1 H2) (x : Same H H1) (n : H p = none) : Same H H2 := Same.but0 x y n
theorem But.sa (y : Same H1 H2) (x : But p H H1) : But p H H2 := But.same x y
theorem But.tr (y : But p H1 H2) (x : But p H H1) : But p H H2 := x.trans y
theorem But.b0 {q : Addr} (y : But q H1 H2) (x : But p H H1) (n : H q = none) : But p H H2 := But.but0 x y n
theorem sq_of {K : PySem.W.Frag} {xs : List V} (h : H a = some (.lst xs)) : SqL K H a xs := .inl (.inl h)
theorem st_of {K : PySem.W.Frag} {xs : List V} (h : H a = some (.tup xs)) : SqT K H a xs := .inl (.inl h)
theorem But.sq {K : PySem.W.Frag} {xs : List V} (x : But p H H1) (n : a ≠ p) (h : SqL K H a xs) : SqL K H1 a xs := by
  rcases h with (h | ⟨o, h⟩) | h
  · exact .inl (.inl (x _ _ n h))
  · exact .inl (.inr ⟨o, x _ _ n h⟩)
  · exact .inr h
end

/-! ### readings, step by step -/
theorem cx_K {CX : CXT} {P : Program} {w : World} {K : PySem.W.Frag} {mg : Str → Option Value} {base : Heap} {N : List Str} {q : Str} {sc : Scope} {f : Addr} {cd : Value} {A : Around} {outer : List Env} {s : Shared} {H : Hp} {E : XK} : (cxOf CX P w K mg base N q sc f cd A outer s H E).K = K := rfl
section
variable {K : PySem.W.Frag} {σ : L2.St} {H : Hp} {Q : VK} {R : Hp → Prop} {i j : Int} {n : Nat} {v : V} {a p : Addr} {l m : List Nat} {xs ys : List V}
theorem g_var (h : σ[n]? = some (some v)) (q : Q v H) : tVar n σ H Q := ⟨v, h, q⟩
theorem g_I0 {g : Int → Int → V} (q : Q (g i j) H) : rI0 g (.int i) (.int j) H Q := ⟨i, j, rfl, rfl, q⟩
theorem g_I {C : Int → Int → Prop} {g : Int → Int → V} (c : C i j) (q : Q (g i j) H) : rI C g (.int i) (.int j) H Q := ⟨i, j, rfl, rfl, c, q⟩
theorem g_U {g : Int → V} (q : Q (g i) H) : rU g (.int i) H Q := ⟨i, rfl, q⟩
theorem g_ipI {g : Int → Int → Int} (q : Q (.int (g i j)) H) : ipI g (.int i) (.int j) H Q := ⟨i, j, rfl, rfl, q⟩
theorem g_addT (h : l.length + m.length ≤ 100000) (q : Q (Tx (l ++ m)) H) : rAddT (Tx l) (Tx m) H Q := ⟨l, m, rfl, rfl, h, q⟩
theorem g_inT {c : Nat} (q : Q (.bl (decide (c ∈ l))) H) : rInT false (Tx [c]) (Tx l) H Q := ⟨c, l, rfl, rfl, q⟩
theorem g_ninT {c : Nat} (q : Q (.bl (!decide (c ∈ l))) H) : rInT true (Tx [c]) (Tx l) H Q := ⟨c, l, rfl, rfl, q⟩
theorem g_ixT {c : Nat} (h : l.length ≤ 100000) (h1 : atI l i = some c) (q : Q (Tx [c]) H) : rIxT1 (Tx l) (.int i) H Q := ⟨l, i, c, rfl, rfl, h, h1, q⟩
theorem g_ixL (h : SqL K H p xs) (h1 : atI xs i = some v) (q : Q v H) : rIxL K (.ref p) (.int i) H Q := ⟨p, xs, i, v, rfl, rfl, h, h1, q⟩
theorem g_ixU (h : SqT K H p xs) (h1 : atI xs i = some v) (q : Q v H) : rIxT K (.ref p) (.int i) H Q := ⟨p, xs, i, v, rfl, rfl, h, h1, q⟩
theorem g_lenT (h : l.length ≤ 100000) (q : Q (.int l.length) H) : rLenT [Tx l] H Q := ⟨l, rfl, h, q⟩
theorem g_lenL (h : SqL K H p xs) (q : Q (.int xs.length) H) : rLenL K [.ref p] H Q := ⟨p, xs, rfl, .inl h, q⟩
theorem g_lenU (h : SqT K H p xs) (q : Q (.int xs.length) H) : rLenL K [.ref p] H Q := ⟨p, xs, rfl, .inr h, q⟩
theorem g_findT1 (q : Q (.int (Txt.find (S l) (S m))) H) : rFindT (Tx l) [Tx m] H Q := ⟨l, m, rfl, rfl, q⟩
theorem g_idxT1 {k : Nat} (h : Txt.find (S l) (S m) = (k : Int)) (q : Q (.int k) H) : rIdxT (Tx l) [Tx m] H Q := ⟨l, m, k, rfl, rfl, h, q⟩
theorem g_str {A : Prop} (q : A) : (∃ z, Tx l = .str z) ∧ A := ⟨⟨_, rfl⟩, q⟩
theorem g_intB {b : Bool} (q : Q (.int (if b then 1 else 0)) H) : rIntB [.bl b] H Q := ⟨b, rfl, q⟩
theorem g_eq {x y : V} (h : scal x y = true) (q : Q (.bl (decide (x = y))) H) : rEq x y H Q := ⟨h, q⟩
theorem g_ne {x y : V} (h : scal x y = true) (q : Q (.bl (!decide (x = y))) H) : rNe x y H Q := ⟨h, q⟩
theorem g_tyL (h : SqL K H p xs) : tyV K "list" (.ref p) H := .inl ⟨rfl, _, h⟩
/-! new objects, changed ones -/
def rLstN (xs : List V) (H : Hp) (Q : VK) : Prop := xs.length ≤ sizeLine ∧ ∀ p, H p = none → Q (.ref p) (upd H p (.lst xs))
def rTupN (xs : List V) (H : Hp) (Q : VK) : Prop := xs.length ≤ sizeLine ∧ ∀ p, H p = none → Q (.ref p) (upd H p (.tup xs))
def rRevN (K : PySem.W.Frag) (x : V) (H : Hp) (Q : VK) : Prop := ∃ a xs, x = .ref a ∧ SqL K H a xs ∧ ∀ p, H p = none → Q (.ref p) (upd H p (.lst xs.reverse))
theorem tLst_eq {t : TA} : tLst t σ H Q = t σ H fun xs H1 => rLstN xs H1 Q := rfl
theorem tTup_eq {t : TA} : tTup t σ H Q = t σ H fun xs H1 => rTupN xs H1 Q := rfl
theorem tRevL_eq {t : TE} : tRevL K t σ H Q = t σ H fun x H1 => rRevN K x H1 Q := rfl
def rPart (x : V) (H : Hp) (Q : Option Int → Hp → Prop) : Prop := ∃ i, x = .int i ∧ Q (some i) H
theorem tPart_eq {t : TE} {Q : Option Int → Hp → Prop} : tPart t σ H Q = t σ H fun x H1 => rPart x H1 Q := rfl
theorem g_part {Q : Option Int → Hp → Prop} (q : Q (some i) H) : rPart (.int i) H Q := ⟨i, rfl, q⟩
theorem g_lst (h : xs.length ≤ 100000) (q : ∀ p H1, H p = none → Same H H1 → H1 p = some (.lst xs) → Q (.ref p) H1) : rLstN xs H Q :=
  ⟨Nat.le_trans h (by decide), fun p np => q p _ np (Same.new np) upd_same⟩
theorem g_tup (h : xs.length ≤ 100000) (q : ∀ p H1, H p = none → Same H H1 → H1 p = some (.tup xs) → Q (.ref p) H1) : rTupN xs H Q :=
  ⟨Nat.le_trans h (by decide), fun p np => q p _ np (Same.new np) upd_same⟩
theorem g_new {o : HO} (q : ∀ p H1, H p = none → Same H H1 → H1 p = some o → Q (.ref p) H1) : ∀ p, H p = none → Q (.ref p) (upd H p o) := fun p np => q p _ np (Same.new np) upd_same
theorem g_setL (h : H p = some (.lst xs)) (h1 : ixN xs.length i = some n) (q : ∀ H1, But p H H1 → H1 p = some (.lst (xs.set n v)) → R H1) : rSetL (.ref p) (.int i) v H R := ⟨p, xs, i, n, rfl, rfl, h, h1, q _ But.set upd_same⟩
theorem g_append1 (h : H p = some (.lst xs)) (hl : xs.length < 100000) (q : ∀ H1, But p H H1 → H1 p = some (.lst (xs ++ [v])) → Q .non H1) : rAppend (.ref p) [v] H Q :=
  ⟨p, xs, v, rfl, rfl, h, Nat.lt_of_lt_of_le hl (by decide), q _ But.set upd_same⟩
theorem g_pop (h : H p = some (.lst (xs ++ [v]))) (q : ∀ H1, But p H H1 → H1 p = some (.lst xs) → Q v H1) : tyV K "list" (.ref p) H ∧ rPop (.ref p) [] H Q := by
  refine ⟨g_tyL (sq_of h), p, xs ++ [v], v, rfl, rfl, h, ?_, ?_⟩
  · simp
  · rw [List.dropLast_concat]
    exact q _ But.set upd_same
theorem g_slL {lo hi : Option Int} (h : SqL K H p xs) (q : ∀ p H1, H p = none → Same H H1 → H1 p = some (.lst (cutV xs lo hi)) → Q (.ref p) H1) : rSlL K (.ref p) lo hi H Q := ⟨p, xs, rfl, h, g_new q⟩
theorem g_cat (h : H a = some (.lst xs)) (h2 : H p = some (.lst ys)) (hl : xs.length + ys.length ≤ 100000) (q : ∀ p H1, H p = none → Same H H1 → H1 p = some (.lst (xs ++ ys)) → Q (.ref p) H1) : rCat (.ref a) (.ref p) H Q := ⟨a, p, xs, ys, rfl, rfl, h, h2, Nat.le_trans hl (by decide), g_new q⟩
theorem g_slTo (h : l.length ≤ 100000) (hi : 0 ≤ i) (q : Q (Tx (l.take i.toNat)) H) : rSlTx (Tx l) none (some i) H Q := ⟨l, rfl, h, by rw [slice_to hi]; exact q⟩
theorem g_slFrom (h : l.length ≤ 100000) (hi : 0 ≤ i) (q : Q (Tx (l.drop i.toNat)) H) : rSlTx (Tx l) (some i) none H Q := ⟨l, rfl, h, by rw [slice_from hi]; exact q⟩
/-! tests -/
theorem g_test {c : Prop} [Decidable c] {A B : Prop} (h1 : c → A) (h2 : ¬ c → B) : ∃ k, V.bl (decide c) = V.bl k ∧ if k = true then A else B := by
  refine ⟨_, rfl, ?_⟩
  by_cases h : c
  · rw [decide_eq_true h, if_pos rfl]
    exact h1 h
  · rw [decide_eq_false h, if_neg Bool.false_ne_true]
    exact h2 h
theorem g_testN {c : Prop} [Decidable c] {A B : Prop} (h1 : ¬ c → A) (h2 : c → B) : ∃ k, V.bl (!decide c) = V.bl k ∧ if k = true then A else B := by
  refine ⟨_, rfl, ?_⟩
  by_cases h : c
  · rw [decide_eq_true h]
    exact h2 h
  · rw [decide_eq_false h]
    exact h1 h
theorem g_testB {b : Bool} {A B : Prop} (h1 : b = true → A) (h2 : b = false → B) : ∃ k, V.bl b = V.bl k ∧ if k = true then A else B := by
  refine ⟨_, rfl, ?_⟩
  cases b with
  | true => exact h1 rfl
  | false => exact h2 rfl
end

/-! ### loops -/
def ForR (J : It) (g : TG) (tb : TS) (D : Ends) (σ : L2.St) (H : Hp) : Prop := ∃ W : Nat → Nat → L2.St → Hp → Prop, (∃ m, W 0 m σ H) ∧ ∀ i m σ H, W i m σ H →
  (J.stop i H ∧ D.nx σ H) ∨ (J.go i H ∧ ∃ N : L2.St → Hp → Prop, (∀ σ' H', N σ' H' → ∃ m', m' < m ∧ W (i + 1) m' σ' H') ∧ ∀ x H', J.yld i H x H' → g x σ H' fun σ2 H2 => tb { D with nx := N, ct := N, bk := D.nx } σ2 H2)
theorem tFor_eq {wi : TI} {g : TG} {tb : TS} {D : Ends} {σ : L2.St} {H : Hp} : tFor wi g tb D σ H = wi σ H fun J H1 => ForR J g tb D σ H1 := rfl
def LcR (J : It) (g : TG) (tt : TT) (te : TE) (vs : List Nat) (σ : L2.St) (H1 : Hp) (Q : VK) : Prop := ∀ D, H1 D = none → ∃ W : Nat → Nat → Hp → Prop, (∃ m, W 0 m (upd H1 D (.lst []))) ∧ ∀ i m H, W i m H →
  (J.stop i H ∧ Q (.ref D) H) ∨ (J.go i H ∧ ∃ Nx : Hp → Prop, (∀ H', Nx H' → ∃ m', m' < m ∧ W (i + 1) m' H') ∧ ∀ x H', J.yld i H x H' → g x (wipe σ vs) H' fun σ2 H2 => wipe σ2 vs = wipe σ vs ∧ tt σ2 H2 fun b H3 =>
    if b = true then te σ2 H3 fun y H4 => ∃ acc, H4 D = some (.lst acc) ∧ acc.length < sizeLine ∧ Nx (upd H4 D (.lst (acc ++ [y]))) else Nx H3)
theorem tLc_eq {wi : TI} {g : TG} {tt : TT} {te : TE} {vs : List Nat} {σ : L2.St} {H : Hp} {Q : VK} : tLc wi g tt te vs σ H Q = wi σ H fun J H1 => LcR J g tt te vs σ H1 Q := rfl
section
variable {K : PySem.W.Frag} {σ : L2.St} {H : Hp} {g : TG} {tb : TS} {D : Ends} {l : List Nat} {xs : List V} {a : Addr} {tt : TT} {te : TE} {vs : List Nat} {Q : VK} {n : Nat} {lo : Int}
/-- for c in text, by what is gone through -/
theorem for_txt (Pv : List Nat → L2.St → Hp → Prop) (h0 : Pv [] σ H)
    (hs : ∀ pre c post σ H, l = pre ++ c :: post → Pv pre σ H → g (Tx [c]) σ H fun σ2 H2 => tb { D with nx := Pv (pre ++ [c]), ct := Pv (pre ++ [c]), bk := D.nx } σ2 H2) (hd : ∀ σ H, Pv l σ H → D.nx σ H) : ForR (Its (S l)) g tb D σ H := by
  refine ⟨fun i m σ H => m = l.length - i ∧ i ≤ l.length ∧ Pv (l.take i) σ H, ⟨l.length, by simp, Nat.zero_le _, by simpa using h0⟩, ?_⟩
  rintro i m σ H ⟨rfl, hi, p⟩
  have sz : (S l).cps.size = l.length := by simp
  by_cases hlt : i < l.length
  · have e : l.take (i + 1) = l.take i ++ [l[i]] := by rw [List.take_succ_eq_append_getElem hlt]
    have e2 : l = l.take i ++ l[i] :: l.drop (i + 1) := by rw [← List.drop_eq_getElem_cons hlt, List.take_append_drop]
    refine .inr ⟨by show i < (S l).cps.size; rw [sz]; exact hlt, Pv (l.take (i + 1)), fun σ' H' p' => ⟨l.length - (i + 1), by omega, rfl, hlt, p'⟩, fun x H' y => ?_⟩
    obtain ⟨e1, c, hc, rfl⟩ := y
    subst e1
    have ec : c = l[i] := by
      have : (S l).cps[i]? = some l[i] := by simp [hlt]
      rw [this] at hc
      exact (Option.some.inj hc).symm
    subst ec
    rw [e]
    exact hs (l.take i) l[i] (l.drop (i + 1)) σ _ e2 p
  · have e : i = l.length := by omega
    subst e
    rw [List.take_length] at p
    exact .inl ⟨by show (S l).cps.size ≤ l.length; rw [sz]; exact Nat.le_refl _, hd σ H p⟩
theorem cut_at {α : Type} {xs : List α} {i : Nat} {x : α} (hx : xs[i]? = some x) : xs.take (i + 1) = xs.take i ++ [x] ∧ xs = xs.take i ++ x :: xs.drop (i + 1) := by
  obtain ⟨hlt, ex⟩ := List.getElem?_eq_some_iff.mp hx
  subst ex
  exact ⟨by rw [List.take_succ_eq_append_getElem hlt], by rw [← List.drop_eq_getElem_cons hlt, List.take_append_drop]⟩
/-- for x in list, by what is gone through; the list stays -/
theorem for_lst (xs : List V) (Pv : List V → L2.St → Hp → Prop) (h0 : Pv [] σ H) (hl : ∀ pre post σ H, xs = pre ++ post → Pv pre σ H → SqL K H a xs)
    (hs : ∀ pre x post σ H, xs = pre ++ x :: post → Pv pre σ H → g x σ H fun σ2 H2 => tb { D with nx := Pv (pre ++ [x]), ct := Pv (pre ++ [x]), bk := D.nx } σ2 H2) (hd : ∀ σ H, Pv xs σ H → D.nx σ H) : ForR (Itl K a) g tb D σ H := by
  refine for_list (xs := xs) (fun i σ H => Pv (xs.take i) σ H) (by simpa using h0) (fun i σ H _ p => hl _ (xs.drop i) σ H (List.take_append_drop i xs).symm p) (fun i x σ H hx p => ?_) (fun σ H p => hd σ H (by simpa using p))
  obtain ⟨e, e2⟩ := cut_at hx
  have z := hs (xs.take i) x (xs.drop (i + 1)) σ H e2 p
  rw [← e] at z
  exact z
/-- for i in range -/
theorem for_rng (Pv : Nat → L2.St → Hp → Prop) (h0 : Pv 0 σ H)
    (hs : ∀ i σ H, i < n → Pv i σ H → g (.int (lo + i)) σ H fun σ2 H2 => tb { D with nx := Pv (i + 1), ct := Pv (i + 1), bk := D.nx } σ2 H2) (hd : ∀ σ H, Pv n σ H → D.nx σ H) : ForR (Itr lo n) g tb D σ H := for_range Pv h0 hs hd
/-- what a comprehension's turn is to reach: y put behind the new list at d -/
def LcPut (d : Addr) (R : Hp → Prop) (y : V) (H : Hp) : Prop := ∃ acc, H d = some (.lst acc) ∧ acc.length < sizeLine ∧ R (upd H d (.lst (acc ++ [y])))
theorem lc_put {d : Addr} {R : Hp → Prop} {y : V} {acc : List V} (h : H d = some (.lst acc)) (hl : acc.length < 100000) (q : ∀ H5, But d H H5 → H5 d = some (.lst (acc ++ [y])) → R H5) : LcPut d R y H := ⟨acc, h, Nat.lt_of_lt_of_le hl (by decide), q _ But.set upd_same⟩
theorem lc_w {J : It} {G : Hp → Prop} {Y : Nat → Hp → V → Hp → Prop} (w : Walk J n G Y)
    (h : ∀ d H1, H d = none → Same H H1 → H1 d = some (.lst []) → ∃ Pv : Nat → Hp → Prop, Pv 0 H1 ∧ (∀ i H, i ≤ n → Pv i H → G H) ∧
      (∀ i x H H', i < n → Pv i H → Y i H x H' → g x (wipe σ vs) H' fun σ2 H2 => wipe σ2 vs = wipe σ vs ∧ tt σ2 H2 fun b H3 => if b = true then te σ2 H3 fun y H4 => LcPut d (Pv (i + 1)) y H4 else Pv (i + 1) H3) ∧ ∀ H, Pv n H → Q (.ref d) H) : LcR J g tt te vs σ H Q := by
  intro d nd
  obtain ⟨Pv, h0, hG, hs, hd⟩ := h d _ nd (Same.new nd) upd_same
  exact lc_it w Pv h0 hG hs hd
theorem lc_rng (h : ∀ d H1, H d = none → Same H H1 → H1 d = some (.lst []) → ∃ Pv : Nat → Hp → Prop, Pv 0 H1 ∧
      (∀ (i : Nat) H, i < n → Pv i H → g (.int (lo + i)) (wipe σ vs) H fun σ2 H2 => wipe σ2 vs = wipe σ vs ∧ tt σ2 H2 fun b H3 => if b = true then te σ2 H3 fun y H4 => LcPut d (Pv (i + 1)) y H4 else Pv (i + 1) H3) ∧ ∀ H, Pv n H → Q (.ref d) H) : LcR (Itr lo n) g tt te vs σ H Q := by
  refine lc_w walk_range fun d H1 nd s e => ?_
  obtain ⟨Pv, h0, hs, hd⟩ := h d H1 nd s e
  refine ⟨Pv, h0, fun _ _ _ _ => trivial, fun i x H H' hi p y => ?_, hd⟩
  obtain ⟨rfl, rfl⟩ := y
  exact hs i _ hi p
theorem lc_txt (h : ∀ d H1, H d = none → Same H H1 → H1 d = some (.lst []) → ∃ Pv : List Nat → Hp → Prop, Pv [] H1 ∧
      (∀ pre c post H, l = pre ++ c :: post → Pv pre H → g (Tx [c]) (wipe σ vs) H fun σ2 H2 => wipe σ2 vs = wipe σ vs ∧ tt σ2 H2 fun b H3 => if b = true then te σ2 H3 fun y H4 => LcPut d (Pv (pre ++ [c])) y H4 else Pv (pre ++ [c]) H3) ∧ ∀ H, Pv l H → Q (.ref d) H) : LcR (Its (S l)) g tt te vs σ H Q := by
  refine lc_w walk_str fun d H1 nd s e => ?_
  obtain ⟨Pv, h0, hs, hd⟩ := h d H1 nd s e
  have sz : (S l).cps.size = l.length := by simp
  refine ⟨fun i => Pv (l.take i), by simpa using h0, fun _ _ _ _ => trivial, fun i x H H' hi p y => ?_, fun H p => hd H (by rw [sz, List.take_length] at p; exact p)⟩
  obtain ⟨rfl, c, hc, rfl⟩ := y
  have hc2 : l[i]? = some c := by simpa using hc
  obtain ⟨e1, e2⟩ := cut_at hc2
  have z := hs (l.take i) c (l.drop (i + 1)) _ e2 p
  rw [← e1] at z
  exact z
theorem lc_lst (xs : List V) (h : ∀ d H1, H d = none → Same H H1 → H1 d = some (.lst []) → ∃ Pv : List V → Hp → Prop, Pv [] H1 ∧ (∀ pre post H, xs = pre ++ post → Pv pre H → SqL K H a xs) ∧
      (∀ pre x post H, xs = pre ++ x :: post → Pv pre H → g x (wipe σ vs) H fun σ2 H2 => wipe σ2 vs = wipe σ vs ∧ tt σ2 H2 fun b H3 => if b = true then te σ2 H3 fun y H4 => LcPut d (Pv (pre ++ [x])) y H4 else Pv (pre ++ [x]) H3) ∧ ∀ H, Pv xs H → Q (.ref d) H) : LcR (Itl K a) g tt te vs σ H Q := by
  refine lc_w (walk_list (xs := xs)) fun d H1 nd s e => ?_
  obtain ⟨Pv, h0, hl, hs, hd⟩ := h d H1 nd s e
  refine ⟨fun i => Pv (xs.take i), by simpa using h0, fun i H _ p => hl _ (xs.drop i) H (List.take_append_drop i xs).symm p, fun i x H H' hi p y => ?_, fun H p => hd H (by simpa using p)⟩
  obtain ⟨rfl, hc⟩ := y
  obtain ⟨e1, e2⟩ := cut_at hc
  have z := hs (xs.take i) x (xs.drop (i + 1)) _ e2 p
  rw [← e1] at z
  exact z
end

/-! ### a def of the text -/
def DefAt (K : PySem.W.Frag) (mg : Str → Option Value) (x : Str) (st : Stmt) (ps : List Str) : Prop := ∃ (f : Addr) (fd : FuncData), FunD K x x (defArgs st) (defBody st) (defScope st) [] [] f fd ∧ mg x = some (.ref f) ∧ Binds K fd ps []
section
variable {P : Program} {w : World} {K : PySem.W.Frag} {mg : Str → Option Value} {base : Heap}
theorem fnD {x : Str} {st : Stmt} {f : Addr} {fd : FuncData} {N ps : List Str} {k : Nat} {sp : Sp} (F : FunD K x x (defArgs st) (defBody st) (defScope st) [] [] f fd) (S : FnScope N ps (defScope st)) (len : ∀ vs H Q E, sp vs H Q E → vs.length = ps.length)
    (hbody : ∀ (cdv : Value) (A : Around) (outer : List Env) (s : Shared) (H : Hp) (vs : List V) (Q : VK) (E : XK), Room k (A.deeper (envOfC x (defScope st) s.heap.objs.size f cdv)) → sp vs H Q E →
      ∃ t, PSs (cxOf C8.CX0 P w K mg base N x (defScope st) f cdv A outer s H E).nox (defBody st) t ∧ t { nx := fun _ H' => Q .non H', rt := Q } (start N vs) H) : FnOk P w K mg base C8.CX0 (k + 1) f fd ps sp := by
  refine F.ok S len fun cdv A outer s H vs Q E hr hsp => ?_
  obtain ⟨t, h, q⟩ := hbody cdv A outer s H vs Q E hr hsp
  exact ⟨t, h.nox, q⟩
theorem calD {x : Str} {st : Stmt} {N ps : List Str} {k : Nat} {sp : Sp} (D : DefAt K mg x st ps) (S : FnScope N ps (defScope st)) (len : ∀ vs H Q E, sp vs H Q E → vs.length = ps.length)
    (hbody : ∀ (f : Addr) (cdv : Value) (A : Around) (outer : List Env) (s : Shared) (H : Hp) (vs : List V) (Q : VK) (E : XK), Room k (A.deeper (envOfC x (defScope st) s.heap.objs.size f cdv)) → sp vs H Q E →
      ∃ t, PSs (cxOf C8.CX0 P w K mg base N x (defScope st) f cdv A outer s H E).nox (defBody st) t ∧ t { nx := fun _ H' => Q .non H', rt := Q } (start N vs) H) : C8.Cal P w K mg base (k + 1) x sp [] := by
  obtain ⟨f, fd, F, hm, b⟩ := D
  exact ⟨f, fd, ps, [], fnD F S len (hbody f), hm, F.kp, b, .nil⟩
end
end Ly

set_option maxHeartbeats 4000000
namespace Ly
open PySem SX
/-! ### signs -/
def isSg (c : Nat) : Prop := c ∈ LET ∨ c ∈ BRK
/-- the number of a bracket's kind -/
def knd (c : Nat) : Nat := if c ∈ OPN then OPN.idxOf c else CLO.idxOf c
/-- the other bracket of a bracket's kind -/
def oth (c : Nat) : Nat := if c ∈ OPN then CLO.getD (OPN.idxOf c) 0 else OPN.getD (CLO.idxOf c) 0
theorem find_opn : ∀ c ∈ OPN, Txt.find (S OPN) (S [c]) = (knd c : Int) := by decide +kernel
theorem find_clo : ∀ c ∈ CLO, Txt.find (S CLO) (S [c]) = (knd c : Int) := by decide +kernel
theorem brk_or {c : Nat} : c ∈ BRK ↔ c ∈ OPN ∨ c ∈ CLO := by
  unfold BRK OPN CLO
  simp
  omega
theorem knd_lt : ∀ c ∈ BRK, knd c < 4 := by decide
theorem at_clo : ∀ c ∈ OPN, CLO[knd c]? = some (oth c) := by decide
theorem at_opn : ∀ c ∈ CLO, OPN[knd c]? = some (oth c) := by decide
theorem oth_clo : ∀ c ∈ OPN, oth c ∈ CLO := by decide
theorem oth_opn : ∀ c ∈ CLO, oth c ∈ OPN := by decide
theorem oth_brk : ∀ c ∈ BRK, oth c ∈ BRK := by decide
theorem oth_oth : ∀ c ∈ BRK, oth (oth c) = c := by decide
theorem opn_clo : ∀ c ∈ OPN, c ∉ CLO := by decide
theorem atI_of {α : Type} {l : List α} {k : Nat} {c : α} (h : l[k]? = some c) : L2.atI l (k : Int) = some c := L2.atI_nat h

/-! ### clean texts, by a pile of awaited closing brackets -/
def stp (s : Option (List Nat)) (c : Nat) : Option (List Nat) := match s with
  | none => none
  | some st => if c ∈ OPN then some (oth c :: st) else if c ∈ CLO then (match st with
    | d :: r => if d = c then some r else none
    | [] => none) else some st
def run (l : List Nat) : Option (List Nat) := l.foldl stp (some [])
def clean (l : List Nat) : Prop := run l = some []
instance (l : List Nat) : Decidable (clean l) := inferInstanceAs (Decidable (run l = some []))
theorem run_app (a b : List Nat) : run (a ++ b) = b.foldl stp (run a) := by
  unfold run
  rw [List.foldl_append]
theorem run_snoc (a : List Nat) (c : Nat) : run (a ++ [c]) = stp (run a) c := by
  rw [run_app]
  rfl
theorem stp_let {s : Option (List Nat)} {c : Nat} (h1 : c ∉ OPN) (h2 : c ∉ CLO) : stp s c = s := by
  cases s with
  | none => rfl
  | some st => unfold stp; simp only [h1, h2, if_false]
theorem stp_opn {st : List Nat} {c : Nat} (h1 : c ∈ OPN) : stp (some st) c = some (oth c :: st) := by
  unfold stp
  simp only [h1, if_true]
theorem stp_clo {st : List Nat} {c : Nat} (h2 : c ∈ CLO) : stp (some (c :: st)) c = some st := by
  have h1 : c ∉ OPN := fun h => opn_clo c h h2
  unfold stp
  simp only [h1, h2, if_true, if_false]
theorem let_opn : ∀ c ∈ LET, c ∉ OPN := by decide
theorem let_clo : ∀ c ∈ LET, c ∉ CLO := by decide
theorem brk_at {z : Nat} (h : z < 8) : ∃ c, BRK[z]? = some c ∧ c ∈ BRK := ⟨BRK[z]'h, List.getElem?_eq_getElem h, List.getElem_mem h⟩
theorem let_at {z : Nat} (h : z < 26) : ∃ c, LET[z]? = some c ∧ c ∈ LET := ⟨LET[z]'h, List.getElem?_eq_getElem h, List.getElem_mem h⟩
theorem ixN_nat {n j : Nat} (h : j < n) : L2.ixN n (j : Int) = some j := by
  unfold L2.ixN
  rw [if_pos (by omega), if_pos (by omega), Int.toNat_natCast]
end Ly

set_option maxHeartbeats 4000000
namespace Ly
open PySem PySem.Spec PyProof.Rows L2 SX

/-! ### list(text) -/
def sgV (l : List Nat) : List V := l.map fun c => Tx [c]
section
variable {X : Cx}
theorem vals_signs {l : List Nat} {acc : Array Value} (h : ItemsOf (SignAt (S l)) acc (S l).cps.size) : Vals (sgV l) acc.toList := by
  have hsz : acc.size = l.length := by rw [h.1]; simp
  have key : ∀ (l2 : List Nat) (us : List Value), us.length = l2.length → (∀ j, j < l2.length → ∃ c u, l2[j]? = some c ∧ us[j]? = some (.str ⟨#[c]⟩ u)) → Vals (sgV l2) us := by
    intro l2
    induction l2 with
    | nil =>
      intro us hl _
      cases us with
      | nil => exact .nil
      | cons a b => simp at hl
    | cons c l2 ih =>
      intro us hl hj
      cases us with
      | nil => simp at hl
      | cons a b =>
        obtain ⟨c', u, e1, e2⟩ := hj 0 (by simp)
        simp at e1 e2
        subst e1 e2
        refine .cons ⟨u, rfl⟩ (ih b (by simpa using hl) fun j hlt => ?_)
        obtain ⟨c2, u2, e3, e4⟩ := hj (j + 1) (by simp; omega)
        exact ⟨c2, u2, by simpa using e3, by simpa using e4⟩
  refine key l acc.toList (by simpa using hsz) fun j hj => ?_
  have hj2 : j < acc.size := by omega
  obtain ⟨c, u, e1, e2⟩ := h.2 j acc[j] (by simp [hj2])
  refine ⟨c, u, by simpa using e1, ?_⟩
  rw [← e2]
  simp [hj2]
/-! ### joins of texts -/
def rJoinT (K : PySem.W.Frag) : V → List V → Hp → VK → Prop := fun x xs H Q => ∃ (a : List Nat) (p : Addr) (ps : List (List Nat)), x = Tx a ∧ xs = [.ref p] ∧ SqL K H p (ps.map Tx) ∧ (ps.map (·.length)).sum + ps.length * a.length ≤ 100000 ∧ Q (Tx (TL.joinL a ps)) H
theorem mt_joinT : MtR X "str.join" (rJoinT X.K) := fun pins s σ H x xs v us Q I rx rs h => by
  obtain ⟨a, p, ps, h1, h2, h3, h4, q⟩ := h
  refine mt_join pins s σ H x xs v us Q I rx rs ⟨S a, p, ps.map S, h1, h2, .inl ?_, ?_, ?_⟩
  · rw [List.map_map]
    exact h3
  · rw [lens, List.length_map, S_len]
    exact Nat.le_trans h4 (by decide)
  · rw [join_S]
    exact q

/-! ### text * n -/
end

/-! ### enumerate(text) -/
def IteS (x : Str) : It := ⟨fun i _ => i < x.cps.size, fun i H v H' => ∃ T c, v = .ref T ∧ H T = none ∧ H' = upd H T (.tup [.int (i : Nat), .str ⟨#[c]⟩]) ∧ x.cps[i]? = some c, fun i _ => i = x.cps.size⟩
theorem turn_enumS {P : Program} {w : World} {K : PySem.W.Frag} {elts : List Expr} {kk : Nat} {tpos : Pos} (x : Str) (t : Tok) (e it : Addr) :
    Turn P w K (.Tuple elts kk tpos) (IteS x) [e, it] e (fun i h => (∃ old, IsEnum h e it ((i : Nat) : Int) old) ∧ h.IsStrIter it (strIterType x) x t i ∧ e ≠ it) where
  mem := by simp
  obj := fun i h st b hb => by
    obtain ⟨⟨old, he⟩, ⟨o, ho, hc, hd⟩, _⟩ := st
    have e' : b = e ∨ b = it := by simpa using hb
    rcases e' with z | z
    · rw [z]; exact ⟨_, he, fun v q => nomatch q⟩
    · rw [z]; exact ⟨o, ho, fun v q => by rw [hd] at q; cases q⟩
  keep := fun i h h' st k => let ⟨⟨old, he⟩, ⟨o, ho, r⟩, hne⟩ := st; ⟨⟨old, k e (by simp) _ he⟩, ⟨o, k it (by simp) o ho, r⟩, hne⟩
  item := by
    intro X hP hw hK hc i pins s σ H E I hf st hg
    subst hP hw hK
    obtain ⟨⟨old, he⟩, hit, hne⟩ := st
    have hel : e < s.heap.objs.size := Heap.lt_size he
    have hil : it < s.heap.objs.size := by obtain ⟨_, q, _⟩ := hit; exact Heap.lt_size q
    refine wpAny_pyNext_enum_itemD (Draws.text (A := X.A.in1) (I.ok.hd hc) it x t) he hit hg hne (by simpa using hne) fun u h' tk hP ho hit' hT hsz hk => ?_
    obtain ⟨c, tu, hcx, rfl⟩ := hP
    refine ⟨_, rfl, wpAny_letOwnedTupleGo_enum (s := { s with heap := h', toks := tk + 1 }) ho fun h'' he' sb => ?_⟩
    have hT2 : h''.get? s.heap.objs.size = some { cls := .type "tuple", data := .seq #[.int i tk, .str ⟨#[c]⟩ tu] } := (sb.2 _ (Nat.ne_of_gt hel)).trans hT
    have new : ObjOk X.prog X.w (upd H s.heap.objs.size (.tup [.int (i : Nat), .str ⟨#[c]⟩])) h'' s.heap.objs.size (.tup [.int (i : Nat), .str ⟨#[c]⟩]) :=
      ⟨by show 2 ≤ sizeLine; decide, [.int i tk, .str ⟨#[c]⟩ tu], .cons ⟨_, rfl⟩ (.cons ⟨_, rfl⟩ .nil), ⟨_, hT2, rfl, _, rfl⟩⟩
    have I1 : Inv X pins σ (upd H s.heap.objs.size (.tup [.int (i : Nat), .str ⟨#[c]⟩])) { s with heap := h'', toks := tk + 1 } :=
      I.turnedNew (ch := [e, it]) (fun b ob hb q => (sb.2 b (fun z => hb (by simp [z]))).trans (hk b ob (fun z => hb (by simp [z])) (fun z => hb (by simp [z])) q)) hf (Nat.le_refl _) new
    refine ⟨.ref s.heap.objs.size, _, I1, rfl, ⟨_, c, rfl, I.hok.fresh (Nat.le_refl _), rfl, hcx⟩, ⟨⟨.str ⟨#[c]⟩ tu, ?_⟩, ?_, hne⟩, fun b hb => ?_⟩
    · have e1 : ((i + 1 : Nat) : Int) = (i : Int) + 1 := by omega
      rw [e1]; exact he'
    · obtain ⟨o, ho', r⟩ := hit'
      exact ⟨o, (sb.2 it (Ne.symm hne)).trans ho', r⟩
    · have hb' : b < s.heap.objs.size := by
        have e' : b = e ∨ b = it := by simpa using hb
        rcases e' with z | z
        · rw [z]; exact hel
        · rw [z]; exact hil
      rw [upd_ne (Nat.ne_of_lt hb')]
      exact (hf b hb).1
  done := by
    intro X hP hw hK hc i pins s σ H E I hf st hg
    subst hP hw hK
    obtain ⟨⟨old, he⟩, hit, hne⟩ := st
    obtain ⟨f0, f1, f2, f3, f4, f5⟩ := hf it (by simp)
    have hg2 : i = x.cps.size := hg
    subst hg2
    exact wpAny_pyNext_enum_endD (Draws.text (A := X.A.in1) (I.ok.hd hc) it x t) he hit fun h' eb => ⟨rfl, I.turned (t' := s.toks) (fun b o hb q => eb b o hb q) f0 f1 f3 f4 f5⟩
  self := fun A i s Q E st h => let ⟨⟨_, he⟩, _⟩ := st; wpAny_pyIter_enum he h
def iEnumS (ta : TA) : TI := fun σ H R => ta σ H fun vs H1 => ∃ l : List Nat, vs = [Tx l] ∧ R (IteS (S l)) H1
theorem pi_enumS {X : Cx} {e : Expr} {ta : TA} {p pos tpos : Pos} {elts : List Expr} {kk : Nat} (hg : Gl X "enumerate") (hm : X.mg "enumerate" = none) (ha : PA X [e] ta) (hs : starEach [e] X.env = [(false, eval e X.env)] := by rfl) :
    PI X (.Tuple elts kk tpos) (.Call (.Name "enumerate" p) [e] [] pos) (iEnumS ta) := by
  refine ⟨fun pins s σ H R I h => ?_⟩
  refine Call_ (ld_blt I hg hm boot_enumerate (PyProof.Rows.callWith_type1 (thn (ha.run pos pins s σ H _ I h) fun us s1 ⟨vs, H1, I1, r1, q1⟩ => ?_) hs rfl))
  obtain ⟨l, ex, q⟩ := q1
  subst ex
  obtain ⟨u, rfl, t, rfl⟩ := vals1 r1
  refine call_enumerate_str fun h' he hit hsz hk => wpAny_pyIter_enum he ?_
  have I2 : Inv X pins σ H1 { s1 with heap := h' } := I1.kept (t' := s1.toks) hk
  refine ⟨s1.heap.objs.size + 1, [s1.heap.objs.size + 1, s1.heap.objs.size], _, _, H1, rfl, I2, turn_enumS (S l) t (s1.heap.objs.size + 1) s1.heap.objs.size, ⟨⟨.none, he⟩, hit, Nat.succ_ne_self _⟩, fun b hb => ?_, q⟩
  have e' : b = s1.heap.objs.size + 1 ∨ b = s1.heap.objs.size := by simpa using hb
  have hle : s1.heap.objs.size ≤ b := by
    rcases e' with z | z
    · rw [z]; exact Nat.le_add_right _ _
    · rw [z]; exact Nat.le_refl _
  exact I1.fpOk hle (I1.hok.fresh hle)
theorem walk_enumS {l : List Nat} : Walk (IteS (S l)) l.length (fun _ => True) (fun i H v H' => ∃ T c, v = .ref T ∧ H T = none ∧ H' = upd H T (.tup [.int (i : Nat), Tx [c]]) ∧ l[i]? = some c) :=
  ⟨fun _ _ hi _ => by show _ < (S l).cps.size; simpa using hi, fun _ _ => by show _ = (S l).cps.size; simp, fun i _ _ _ _ _ y => by
    obtain ⟨T, c, h1, h2, h3, h4⟩ := y
    exact ⟨T, c, h1, h2, h3, by simpa using h4⟩⟩
section
variable {K : PySem.W.Frag} {σ : L2.St} {H : Hp} {g : TG} {tb : TS} {D : Ends} {l : List Nat} {xs : List V} {a : Addr}
/-- for i, c in enumerate(text), by what is gone through -/
theorem for_enumS (Pv : List Nat → L2.St → Hp → Prop) (h0 : Pv [] σ H)
    (hs : ∀ pre c post σ H t H1, l = pre ++ c :: post → Pv pre σ H → H t = none → Same H H1 → H1 t = some (.tup [.int pre.length, Tx [c]]) → g (.ref t) σ H1 fun σ2 H2 => tb { D with nx := Pv (pre ++ [c]), ct := Pv (pre ++ [c]), bk := D.nx } σ2 H2) (hd : ∀ σ H, Pv l σ H → D.nx σ H) : ForR (IteS (S l)) g tb D σ H := by
  refine for_it (walk_enumS (l := l)) (fun i σ H => Pv (l.take i) σ H) (by simpa using h0) (fun _ _ _ _ _ => trivial) (fun i v σ H H' hi p y => ?_) (fun σ H p => hd σ H (by simpa using p))
  obtain ⟨t, c, rfl, nt, rfl, e2⟩ := y
  obtain ⟨e, e3⟩ := cut_at e2
  have z := hs (l.take i) c (l.drop (i + 1)) σ H t _ e3 p nt (Same.new nt) (by
    rw [upd_same, List.length_take, Nat.min_eq_left (Nat.le_of_lt hi)])
  rw [← e] at z
  exact z
/-! readings -/
variable {Q : VK} {p : Addr} {m : List Nat} {n : Nat}
theorem g_joinT {ps : List (List Nat)} (h : SqL K H p (ps.map Tx)) (hl : (ps.map (·.length)).sum + ps.length * m.length ≤ 100000) (q : Q (Tx (TL.joinL m ps)) H) : rJoinT K (Tx m) [.ref p] H Q := ⟨m, p, ps, rfl, rfl, h, hl, q⟩
theorem joinL_nil : ∀ ps : List (List Nat), TL.joinL [] ps = ps.flatten
  | [] => rfl
  | [p] => by simp [TL.joinL]
  | p :: q :: r => by
    show p ++ ([] ++ TL.joinL [] (q :: r)) = _
    rw [joinL_nil (q :: r)]
    simp
/-- ''.join of signs -/
theorem g_join0 (h : SqL K H p (sgV l)) (hl : l.length ≤ 100000) (q : Q (Tx l) H) : rJoinT K (Tx []) [.ref p] H Q := by
  refine g_joinT (ps := l.map fun c => [c]) ?_ ?_ ?_
  · rw [List.map_map]
    exact h
  · rw [List.map_map]
    have : ((fun x : List Nat => x.length) ∘ fun c : Nat => [c]) = fun _ => 1 := rfl
    rw [this]
    have e : ∀ l : List Nat, (l.map fun _ => 1).sum = l.length := by
      intro l
      induction l with
      | nil => rfl
      | cons c l ih => simp [ih]; omega
    rw [e]
    simpa using hl
  · rw [joinL_nil]
    have : ∀ l : List Nat, (l.map fun c => [c]).flatten = l := by
      intro l
      induction l with
      | nil => rfl
      | cons c l ih => simp [ih]
    rw [this]
    exact q
end

/-! ### an if whose test is told once -/
def tIfC (c : TT) (t u : TS) : TS := tIfS c t u
theorem ps_ifC {X : Cx} {pos : Pos} {c : Expr} {a b : List Stmt} {tc : TT} {t u : TS} (hc : PT X c tc) (ha : PSs X a t) (hb : PSs X b u) : PS X (.If c a b pos) (tIfC tc t u) := ps_if hc ha hb
/-- the test c comes out as b and leaves the heap -/
def Tst (c : TT) (σ : L2.St) (H : Hp) (b : Bool) : Prop := ∀ Q : Bool → Hp → Prop, Q b H → c σ H Q
theorem g_ifC {c : TT} {t u : TS} {D : Ends} {σ : L2.St} {H : Hp} {b : Bool} (hA : Tst c σ H b) (h1 : b = true → t D σ H) (h2 : b = false → u D σ H) : tIfC c t u D σ H := by
  refine hA _ ?_
  cases b with
  | true => exact h1 rfl
  | false => exact h2 rfl
/-- the test changes the heap as G says -/
def TstH (c : TT) (σ : L2.St) (H : Hp) (b : Bool) (G : Hp → Prop) : Prop := ∀ Q : Bool → Hp → Prop, (∀ H1, G H1 → Q b H1) → c σ H Q
theorem g_ifH {c : TT} {t u : TS} {D : Ends} {σ : L2.St} {H : Hp} {b : Bool} {G : Hp → Prop} (hA : TstH c σ H b G) (h1 : ∀ H1, G H1 → b = true → t D σ H1) (h2 : ∀ H1, G H1 → b = false → u D σ H1) : tIfC c t u D σ H := by
  refine hA _ fun H1 g => ?_
  cases b with
  | true => exact h1 H1 g rfl
  | false => exact h2 H1 g rfl
/-! ### while -/
section
variable {c : TT} {tb : TS} {D : Ends} {σ : L2.St} {H : Hp}
def WhB (tb : TS) (D : Ends) (W : Nat → L2.St → Hp → Prop) (m : Nat) (σ : L2.St) (H : Hp) : Prop := ∃ N : L2.St → Hp → Prop, (∀ σ' H', N σ' H' → ∃ m', m' < m ∧ W m' σ' H') ∧ tb { D with nx := N, ct := N, bk := D.nx } σ H
theorem g_while (W : Nat → L2.St → Hp → Prop) (m : Nat) (h0 : W m σ H) (hs : ∀ m σ H, W m σ H → c σ H fun b H1 => if b = true then WhB tb D W m σ H1 else D.nx σ H1) : tWhile c tb D σ H := ⟨W, ⟨m, h0⟩, hs⟩
theorem g_whb {W : Nat → L2.St → Hp → Prop} {m : Nat} (q : tb { D with nx := fun σ' H' => ∃ m', m' < m ∧ W m' σ' H', ct := fun σ' H' => ∃ m', m' < m ∧ W m' σ' H', bk := D.nx } σ H) : WhB tb D W m σ H := ⟨_, fun _ _ h => h, q⟩
end
/-! ### data: == and != -/
section
variable {K : PySem.W.Frag} {H : Hp} {Q : VK} {p a : Addr} {X : Cx}
end
theorem sgV_snoc (l : List Nat) (c : Nat) : sgV (l ++ [c]) = sgV l ++ [Tx [c]] := by
  unfold sgV
  rw [List.map_append]
  rfl
theorem sgV_len (l : List Nat) : (sgV l).length = l.length := by
  unfold sgV
  rw [List.length_map]

section
variable {K : PySem.W.Frag} {H : Hp} {Q : VK} {p a : Addr} {xs : List V} {v : V} {i : Nat}
theorem g_isi {x : V} {t u : String} {b : Bool} (ty : TyX K H x (.type t)) (h : kitB t u = some b) (q : Q (.bl b) H) : rIsi K [x, .ty u] H Q := ⟨x, .ty u, .type t, .type u, b, rfl, .ty u, ty, kit_ty h, q⟩
theorem ty_str {x : Str} : TyX K H (.str x) (.type "str") := .base (.str x)
theorem ty_int {n : Int} : TyX K H (.int n) (.type "int") := .base (.int n)
theorem ty_bl {b : Bool} : TyX K H (.bl b) (.type "bool") := .base (.bl b)
theorem ty_lst (h : H p = some (.lst xs)) : TyX K H (.ref p) (.type "list") := .base (.lst h)
theorem ty_tup (h : H p = some (.tup xs)) : TyX K H (.ref p) (.type "tuple") := .base (.tup h)
theorem cut_ints (ns : List Int) (lo hi : Option Int) : ∃ ms : List Int, cutV (ns.map V.int) lo hi = ms.map V.int ∧ ms.length ≤ ns.length := by
  unfold cutV
  refine ⟨(ns.drop (HT.sIx (ns.map V.int).length 0 lo)).take (HT.sIx (ns.map V.int).length (ns.map V.int).length hi - HT.sIx (ns.map V.int).length 0 lo), ?_, ?_⟩
  · rw [List.map_take, List.map_drop]
  · rw [List.length_take, List.length_drop]
    omega
theorem mid_at {α : Type} {xs pre post : List α} {x : α} (e : xs = pre ++ x :: post) : xs[pre.length]? = some x := by
  rw [e]
  simp
end
end Ly

set_option maxHeartbeats 4000000
namespace Ly
open PySem PySem.Spec PyProof.Rows L2 SX
/-! ### zip(text, list) -/
def ItzS (K : PySem.W.Frag) (x : Str) (b : Addr) : It :=
  ⟨fun i H => ∃ (ys : List V) (y : V), i < x.cps.size ∧ SqL K H b ys ∧ ys[i]? = some y,
    fun i H v H' => ∃ T c y, v = .ref T ∧ H T = none ∧ H' = upd H T (.tup [.str ⟨#[c]⟩, y]) ∧ x.cps[i]? = some c ∧ ∀ ys, SqL K H b ys → ys[i]? = some y,
    fun i H => ∃ ys : List V, SqL K H b ys ∧ (i = x.cps.size ∨ i = ys.length) ∧ i ≤ x.cps.size ∧ i ≤ ys.length⟩
theorem turn_zipS {P : Program} {w : World} {K : PySem.W.Frag} {elts : List Expr} {kk : Nat} {tpos : Pos} {x : Str} {t : Tok} {b z TI TO i1 i2 : Addr} (D : ZipSep2 z TI TO i1 i2 [i1] [i2, b]) (hb : b ≠ i2) :
    Turn P w K (.Tuple elts kk tpos) (ItzS K x b) [z, TI, TO, i1, i2] z (fun i h => IsZip h z TI TO .none ∧ IsTupOf2 h TI (.ref i1) (.ref i2) ∧ (∃ x y, IsTupOf2 h TO x y) ∧ h.IsStrIter i1 (strIterType x) x t i ∧ h.IsListIter i2 b i) where
  mem := by simp
  obj := fun i h st c hc => by
    obtain ⟨hz, hTI, ⟨x, y, hTO⟩, ⟨o1, e1, _, d1⟩, ⟨o2, e2, _, d2⟩⟩ := st
    have e' : c = z ∨ c = TI ∨ c = TO ∨ c = i1 ∨ c = i2 := by simpa using hc
    rcases e' with q | q | q | q | q
    · rw [q]; exact ⟨_, hz, fun v q => nomatch q⟩
    · rw [q]; exact ⟨_, hTI, fun v q => nomatch q⟩
    · rw [q]; exact ⟨_, hTO, fun v q => nomatch q⟩
    · rw [q]; exact ⟨o1, e1, fun v q => by rw [d1] at q; cases q⟩
    · rw [q]; exact ⟨o2, e2, fun v q => by rw [d2] at q; cases q⟩
  keep := fun i h h' st k => by
    obtain ⟨hz, hTI, ⟨x, y, hTO⟩, ⟨o1, e1, r1⟩, h2⟩ := st
    exact ⟨k z (by simp) _ hz, k TI (by simp) _ hTI, ⟨x, y, k TO (by simp) _ hTO⟩, ⟨o1, k i1 (by simp) o1 e1, r1⟩, h2.at fun o q => k i2 (by simp) o q⟩
  item := by
    intro X hP hw hK hc i pins s σ H E I hf st hg
    subst hP hw hK
    obtain ⟨hz, hTI, ⟨x0, y0, hTO⟩, h1, h2⟩ := st
    obtain ⟨ys, y, hlt, hqy, hy⟩ := hg
    obtain ⟨its2, rv2, p2, _⟩ := I.list hqy
    obtain ⟨u2, hu2, ru2⟩ := rv2.get hy
    have hzl : z < s.heap.objs.size := Heap.lt_size hz
    have hi2 : i < its2.toArray.size := by
      obtain ⟨h, _⟩ := List.getElem?_eq_some_iff.mp hu2
      simpa using h
    refine wpAny_pyNext_zipD2_item D (Draws.text (A := X.A.in1) (I.ok.hd hc) i1 x t) (Draws.list (A := X.A.in1) (I.ok.hd hc) i2 b hb its2.toArray) hz hTI hTO h1 ⟨h2, p2.isList⟩ hlt hi2 fun x1 x2 h' tk hP1 hP2 z' TO' h1' h2' hT hsz hk => ?_
    obtain ⟨c, tu, hcx, rfl⟩ := hP1
    have ex2 : x2 = u2 := by
      have e : its2.toArray[i]? = some u2 := by simpa using hu2
      rw [e] at hP2
      exact (Option.some.inj hP2).symm
    subst ex2
    refine ⟨_, rfl, wpAny_letOwnedTupleGo_zip (s := { s with heap := h', toks := tk }) z' fun h'' z'' sb => ?_⟩
    have hT2 : h''.get? s.heap.objs.size = some { cls := .type "tuple", data := .seq #[.str ⟨#[c]⟩ tu, x2] } := (sb.2 _ (Nat.ne_of_gt hzl)).trans hT
    have new : ObjOk X.prog X.w (upd H s.heap.objs.size (.tup [.str ⟨#[c]⟩, y])) h'' s.heap.objs.size (.tup [.str ⟨#[c]⟩, y]) :=
      ⟨by show 2 ≤ sizeLine; decide, [.str ⟨#[c]⟩ tu, x2], .cons ⟨_, rfl⟩ (.cons ru2 .nil), ⟨_, hT2, rfl, _, rfl⟩⟩
    have I1 : Inv X pins σ (upd H s.heap.objs.size (.tup [.str ⟨#[c]⟩, y])) { s with heap := h'', toks := tk } :=
      I.turnedNew (ch := [z, TI, TO, i1, i2]) (fun c o hb q => (sb.2 c (fun q' => hb (by simp [q']))).trans (hk c o (fun q' => hb (by simp [q'])) (fun q' => hb (by simp [q'])) (fun q' => hb (by simp [q'])) (fun q' => hb (by simp [q'])) q)) hf (Nat.le_refl _) new
    refine ⟨.ref s.heap.objs.size, _, I1, rfl, ⟨_, c, y, rfl, I.hok.fresh (Nat.le_refl _), rfl, hcx, fun l hl => by rw [I.list_inj hl hqy]; exact hy⟩, ⟨z'', ?_, ⟨.str ⟨#[c]⟩ tu, x2, ?_⟩, ?_, ?_⟩, fun c hcm => ?_⟩
    · exact (sb.2 _ D.TIz).trans (hk _ _ D.TIz D.TITO D.TIi1 D.TIi2 hTI)
    · exact (sb.2 _ D.TOz).trans TO'
    · obtain ⟨o, ho', r⟩ := h1'
      exact ⟨o, (sb.2 _ (Ne.symm D.zi1)).trans ho', r⟩
    · exact h2'.1.at fun o q => (sb.2 _ (Ne.symm D.zi2)).trans q
    · have hlt : c < s.heap.objs.size := by
        have e' : c = z ∨ c = TI ∨ c = TO ∨ c = i1 ∨ c = i2 := by simpa using hcm
        rcases e' with q | q | q | q | q
        · rw [q]; exact hzl
        · rw [q]; exact Heap.lt_size hTI
        · rw [q]; exact Heap.lt_size hTO
        · rw [q]; obtain ⟨_, e1, _⟩ := h1; exact Heap.lt_size e1
        · rw [q]; obtain ⟨_, e2, _⟩ := h2; exact Heap.lt_size e2
      rw [upd_ne (Nat.ne_of_lt hlt)]
      exact (hf c hcm).1
  done := by
    intro X hP hw hK hc i pins s σ H E I hf st hg
    subst hP hw hK
    obtain ⟨hz, hTI, ⟨x0, y0, hTO⟩, h1, h2⟩ := st
    obtain ⟨ys, hqy, hend, l1, l2⟩ := hg
    obtain ⟨its2, rv2, p2, _⟩ := I.list hqy
    have ll := rv2.length
    exact wpAny_pyNext_zipD2_end D (Draws.text (A := X.A.in1) (I.ok.hd hc) i1 x t) (Draws.list (A := X.A.in1) (I.ok.hd hc) i2 b hb its2.toArray) hz hTI hTO h1 ⟨h2, p2.isList⟩ l1 (by simp; omega) (by simp; omega)
      fun h' tk hk => ⟨rfl, I.turnedL (t' := tk) (ch := [z, TI, TO, i1, i2]) (fun c o hb q =>
        hk c o (fun q' => hb (by simp [q'])) (fun q' => hb (by simp [q'])) (fun q' => hb (by simp [q'])) (fun q' => hb (by simp [q'])) q) hf⟩
  self := fun A i s Q E st h => wpAny_pyIter_zip st.1 h
def iZipS (K : PySem.W.Frag) (ta : TA) : TI := fun σ H R => ta σ H fun vs H1 => ∃ (l : List Nat) (b : Addr) (ys : List V), vs = [Tx l, .ref b] ∧ SqL K H1 b ys ∧ R (ItzS K (S l) b) H1
theorem pi_zipS {X : Cx} {e e2 : Expr} {ta : TA} {p pos tpos : Pos} {elts : List Expr} {kk : Nat} (hg : Gl X "zip") (hm : X.mg "zip" = none) (ha : PA X [e, e2] ta)
    (hs : starEach [e, e2] X.env = (false, eval e X.env) :: starEach [e2] X.env := by rfl) (hpl : (backTo pos (starEach [e2] X.env)).any (·.1) = false := by rfl) :
    PI X (.Tuple elts kk tpos) (.Call (.Name "zip" p) [e, e2] [] pos) (iZipS X.K ta) := by
  refine ⟨fun pins s σ H R I h => ?_⟩
  refine Call_ (ld_blt I hg hm PyProof.Rows.boot_zip (PyProof.Rows.callWith_type1 (thn (ha.run pos pins s σ H _ I h) fun us s1 ⟨vs, H1, I1, r1, q1⟩ => ?_) hs hpl))
  obtain ⟨l, b, ys, ex, hqy, q⟩ := q1
  subst ex
  obtain ⟨u1, u2, rfl, ⟨t, rfl⟩, r2⟩ := vals2 r1
  cases r2
  obtain ⟨its2, rv2, p2, _⟩ := I1.list hqy
  have lb : b < s1.heap.objs.size := p2.lt
  refine zip_begins2 (begins_text (S l) t) (begins_list b its2.toArray) trivial p2.isList fun h' hz hTI hTO h1 h2 hsz hk => wpAny_pyIter_zip hz ?_
  have I2 : Inv X pins σ H1 { s1 with heap := h' } := I1.kept (t' := s1.toks) hk
  refine ⟨s1.heap.objs.size + 4, [s1.heap.objs.size + 4, s1.heap.objs.size + 2, s1.heap.objs.size + 3, s1.heap.objs.size, s1.heap.objs.size + 1], _, _, H1, rfl, I2,
    turn_zipS (x := S l) (t := t) (b := b) (zip_sep2 (N := s1.heap.objs.size) (fp1 := []) (fp2 := [b]) (by simp) (by simpa using lb)) (Nat.ne_of_lt (Nat.lt_succ_of_lt lb)), ⟨hz, hTI, ⟨_, _, hTO⟩, ⟨_, h1, rfl, rfl⟩, ⟨_, h2, rfl, rfl⟩⟩, fun c hcm => ?_, q⟩
  have e' : c = s1.heap.objs.size + 4 ∨ c = s1.heap.objs.size + 2 ∨ c = s1.heap.objs.size + 3 ∨ c = s1.heap.objs.size ∨ c = s1.heap.objs.size + 1 := by simpa using hcm
  have hle : s1.heap.objs.size ≤ c := by
    rcases e' with z | z | z | z | z
    · rw [z]; exact Nat.le_add_right _ _
    · rw [z]; exact Nat.le_add_right _ _
    · rw [z]; exact Nat.le_add_right _ _
    · rw [z]; exact Nat.le_refl _
    · rw [z]; exact Nat.le_add_right _ _
  exact I1.fpOk hle (I1.hok.fresh hle)
theorem walk_zipS {K : PySem.W.Frag} {l : List Nat} {b : Addr} {ys : List V} (hl : l.length = ys.length) : Walk (ItzS K (S l) b) l.length (fun H => SqL K H b ys) (fun i H v H' => ∃ T c y, v = .ref T ∧ H T = none ∧ H' = upd H T (.tup [Tx [c], y]) ∧ l[i]? = some c ∧ ys[i]? = some y) := by
  have sz : (S l).cps.size = l.length := by simp
  refine ⟨fun i H hi g => ⟨ys, ys[i]'(by omega), by rw [sz]; exact hi, g, by simp [show i < ys.length by omega]⟩, fun H g => ⟨ys, g, .inl sz.symm, by rw [sz]; exact Nat.le_refl _, by omega⟩, fun i H v H' hi g y => ?_⟩
  obtain ⟨T, c, y, h1, h2, h3, h4, h5⟩ := y
  exact ⟨T, c, y, h1, h2, h3, by simpa using h4, h5 ys g⟩

/-! ### flat data -/
def Flat (v : V) : Prop := ∃ d : PyData, (∀ K H, Dp K H v d) ∧ d.canLay0 = true ∧ d.depth = 0
theorem flat_int (i : Int) : Flat (.int i) := ⟨.int i, fun _ _ => .int i, rfl, rfl⟩
theorem flat_all {xs : List V} (h : ∀ v ∈ xs, Flat v) : ∃ ds : List PyData, ds.length = xs.length ∧ (∀ K H, DpAll K H xs ds) ∧ PyData.canLayAll0 ds = true ∧ PyData.depthAll ds = 0 := by
  induction xs with
  | nil => exact ⟨[], rfl, fun _ _ => .nil, rfl, rfl⟩
  | cons v xs ih =>
    obtain ⟨d, h1, h2, h3⟩ := h v (List.mem_cons_self ..)
    obtain ⟨ds, hl, h4, h5, h6⟩ := ih fun x hx => h x (List.mem_cons_of_mem _ hx)
    refine ⟨d :: ds, by simp [hl], fun K H => .cons (h1 K H) (h4 K H), ?_, ?_⟩
    · show (d.canLay0 && PyData.canLayAll0 ds) = true
      rw [h2, h5]
      rfl
    · show max d.depth (PyData.depthAll ds) = 0
      rw [h3, h6]
      rfl
section
variable {K : PySem.W.Frag} {H : Hp} {Q : VK} {p a : Addr} {xs : List V}
theorem nil_eqv {ds : List PyData} : PyData.eqv (.list ds) (.list []) = ds.isEmpty := by cases ds <;> rfl
theorem g_neNil (h : SqL K H p xs) (hf : ∀ v ∈ xs, Flat v) (h2 : SqL K H a []) (q : Q (.bl (!xs.isEmpty)) H) : rNeD K (.ref p) (.ref a) H Q := by
  obtain ⟨ds, hl, h4, h5, h6⟩ := flat_all hf
  refine ⟨.list ds, .list [], .lst h (h4 K H), .lst h2 .nil, ?_, rfl, ?_⟩
  · unfold SeqAt.shaped
    rw [show PyData.canLay0 (.list ds) = PyData.canLayAll0 ds from rfl, h5, show PyData.depth (.list ds) = PyData.depthAll ds + 1 from rfl, h6]
    rfl
  · have e : ds.isEmpty = xs.isEmpty := by
      cases ds <;> cases xs <;> simp at hl ⊢
    rw [nil_eqv, e]
    exact q
theorem g_eqNil (h : SqL K H p xs) (hf : ∀ v ∈ xs, Flat v) (h2 : SqL K H a []) (q : Q (.bl xs.isEmpty) H) : rEqD K (.ref p) (.ref a) H Q := by
  obtain ⟨ds, hl, h4, h5, h6⟩ := flat_all hf
  refine ⟨.list ds, .list [], .lst h (h4 K H), .lst h2 .nil, ?_, rfl, ?_⟩
  · unfold SeqAt.shaped
    rw [show PyData.canLay0 (.list ds) = PyData.canLayAll0 ds from rfl, h5, show PyData.depth (.list ds) = PyData.depthAll ds + 1 from rfl, h6]
    rfl
  · have e : ds.isEmpty = xs.isEmpty := by
      cases ds <;> cases xs <;> simp at hl ⊢
    rw [nil_eqv, e]
    exact q
theorem g_rep {n : Nat} (h : H p = some (.lst xs)) (hl : xs.length * n ≤ 100000) (hn : n ≤ 100000) (q : ∀ p H1, H p = none → Same H H1 → H1 p = some (.lst (List.replicate n xs).flatten) → Q (.ref p) H1) : rRep (.ref p) (.int (n : Int)) H Q := by
  refine ⟨p, n, xs, rfl, rfl, h, by omega, by omega, Nat.le_trans (by rw [Int.toNat_natCast]; exact hl) (by decide), ?_⟩
  rw [Int.toNat_natCast]
  exact g_new q
end

/-! ### downward ranges -/
theorem rgc_dn {n : Nat} (h : n ≤ 100000) : RgC ((n : Int) - 1) (-1) (-1) n := by
  have e := RgC.neg (i := (n : Int) - 1) (j := -1) (by omega) (by omega) (by omega) (by omega)
  rw [show ((n : Int) - 1 - -1).toNat = n by omega] at e
  exact e
section
variable {σ : L2.St} {H : Hp} {g : TG} {tb : TS} {D : Ends} {n : Nat}
/-- for k in range(n - 1, -1, -1): Pv k: those from k on are gone through -/
theorem for_dn (Pv : Nat → L2.St → Hp → Prop) (h0 : Pv n σ H)
    (hs : ∀ (k : Nat) σ H, k < n → Pv (k + 1) σ H → g (.int (k : Int)) σ H fun σ2 H2 => tb { D with nx := Pv k, ct := Pv k, bk := D.nx } σ2 H2) (hd : ∀ σ H, Pv 0 σ H → D.nx σ H) : ForR (Itc ((n : Int) - 1) (-1) n) g tb D σ H := by
  refine for_it walk_rangeC (fun i σ H => Pv (n - i) σ H) h0 (fun _ _ _ _ _ => trivial) (fun i x σ H H' hi p y => ?_) (fun σ H p => hd σ H (by rw [Nat.sub_self] at p; exact p))
  obtain ⟨rfl, rfl⟩ := y
  have e : ((n : Int) - 1 + (i : Nat) * -1) = ((n - (i + 1) : Nat) : Int) := by omega
  show g (V.int ((n : Int) - 1 + (i : Nat) * -1)) σ H' fun σ2 H2 => tb { D with nx := Pv (n - (i + 1)), ct := Pv (n - (i + 1)), bk := D.nx } σ2 H2
  rw [e]
  refine hs (n - (i + 1)) σ _ (by omega) ?_
  rw [show n - (i + 1) + 1 = n - i by omega]
  exact p
end
/-! ### a promise that nobody asks -/
end Ly

set_option maxHeartbeats 4000000
namespace Ly
/-! ### stretches, partners -/
/-- the signs from a on and below b -/
def seg (l : List Nat) (a b : Nat) : List Nat := (l.take b).drop a
theorem seg_snoc {l : List Nat} {a n : Nat} (h : a ≤ n) (hn : n < l.length) : seg l a (n + 1) = seg l a n ++ [l[n]] := by
  unfold seg
  rw [List.take_succ_eq_append_getElem hn, List.drop_append_of_le_length (by rw [List.length_take]; omega)]
theorem seg_self {l : List Nat} {a : Nat} : seg l a a = [] := by
  unfold seg
  exact List.drop_eq_nil_of_le (by rw [List.length_take]; omega)
theorem seg_app {l : List Nat} {a b c : Nat} (h1 : a ≤ b) (h2 : b ≤ c) (h3 : b ≤ l.length) : seg l a c = seg l a b ++ seg l b c := by
  unfold seg
  have e : (l.take c).drop a = ((l.take c).take b ++ (l.take c).drop b).drop a := by rw [List.take_append_drop]
  rw [e, List.take_take, Nat.min_eq_left h2, List.drop_append_of_le_length (by rw [List.length_take]; omega)]
theorem seg_len {l : List Nat} {a b : Nat} (h : b ≤ l.length) : (seg l a b).length = b - a := by
  unfold seg
  rw [List.length_drop, List.length_take]
  omega
theorem seg_all {l : List Nat} : seg l 0 l.length = l := by
  unfold seg
  rw [List.take_length, List.drop_zero]
/-- i an opening bracket, j its partner -/
def ptn (l : List Nat) (i j : Nat) : Prop := i < j ∧ ∃ c, l[i]? = some c ∧ c ∈ OPN ∧ l[j]? = some (oth c) ∧ clean (seg l (i + 1) j)
/-! the pile from any begin -/
theorem fold_none : ∀ l : List Nat, l.foldl stp none = none
  | [] => rfl
  | c :: l => by
    rw [List.foldl_cons]
    exact fold_none l
/-- what lies deeper in the pile stays -/
theorem fold_deep : ∀ (l : List Nat) (st r : List Nat) (t : List Nat), l.foldl stp (some st) = some r → l.foldl stp (some (st ++ t)) = some (r ++ t)
  | [], st, r, t, h => by
    cases h
    rfl
  | c :: l, st, r, t, h => by
    rw [List.foldl_cons] at h ⊢
    by_cases h1 : c ∈ OPN
    · rw [stp_opn h1] at h ⊢
      exact fold_deep l (oth c :: st) r t h
    · by_cases h2 : c ∈ CLO
      · cases st with
        | nil =>
          have e : stp (some []) c = none := by unfold stp; simp only [h1, h2, if_true, if_false]
          rw [e, fold_none] at h
          cases h
        | cons d st =>
          by_cases hd : d = c
          · subst hd
            rw [stp_clo h2] at h
            rw [List.cons_append, stp_clo h2]
            exact fold_deep l st r t h
          · have e : stp (some (d :: st)) c = none := by unfold stp; simp only [h1, h2, hd, if_true, if_false]
            rw [e, fold_none] at h
            cases h
      · rw [stp_let h1 h2] at h ⊢
        exact fold_deep l st r t h
theorem run_clean_app {a b : List Nat} (h : clean a) : run (a ++ b) = run b := by
  rw [run_app, h]
  rfl
theorem fold_run {l : List Nat} {st r : List Nat} (h : run l = some r) : l.foldl stp (some st) = some (r ++ st) := by
  have := fold_deep l [] r st h
  simpa using this
/-- a clean text leaves each pile -/
theorem fold_clean {l : List Nat} (h : clean l) (st : Option (List Nat)) : l.foldl stp st = st := by
  cases st with
  | none => exact fold_none l
  | some st => simpa using fold_run (st := st) h
theorem clean_app {a b : List Nat} (h1 : clean a) (h2 : clean b) : clean (a ++ b) := by
  unfold clean
  rw [run_clean_app h1]
  exact h2
theorem clean_nil : clean [] := rfl
theorem clean_pair {c : Nat} {a : List Nat} (hc : c ∈ OPN) (h : clean a) : clean (c :: (a ++ [oth c])) := by
  show (c :: (a ++ [oth c])).foldl stp (some []) = some []
  rw [List.foldl_cons, stp_opn hc, List.foldl_append, fold_clean h]
  exact stp_clo (oth_clo c hc)
/-! ### the program's way -/
def pstep (l : List Nat) (s : List (Option Nat) × List Nat) (i c : Nat) : List (Option Nat) × List Nat :=
  if c ∈ OPN then (s.1, i :: s.2) else if c ∈ CLO then (match s.2 with
    | j :: w => if l[j]? = some (oth c) then ((s.1.set i (some j)).set j (some i), w) else (s.1, [])
    | [] => (s.1, [])) else s
def pst (l pre : List Nat) : List (Option Nat) × List Nat := pre.zipIdx.foldl (fun s ci => pstep l s ci.2 ci.1) (List.replicate l.length none, [])
theorem pst_snoc (l pre : List Nat) (c : Nat) : pst l (pre ++ [c]) = pstep l (pst l pre) pre.length c := by
  unfold pst
  rw [List.zipIdx_append, List.foldl_append]
  simp
def mates (l : List Nat) : List (Option Nat) := (pst l l).1
/-- what holds of both lists when the signs below n are gone over -/
structure PInv (l : List Nat) (n : Nat) (f : List (Option Nat)) (ws : List Nat) : Prop where
  len : f.length = l.length
  fnd : ∀ i j, f[i]? = some (some j) ↔ (ptn l i j ∧ j < n) ∨ (ptn l j i ∧ i < n)
  opn : ∀ j ∈ ws, j < n ∧ ∃ c, l[j]? = some c ∧ c ∈ OPN
  pile : ∀ k j, ws[k]? = some j → run (seg l (j + 1) n) = some ((ws.take k).map fun j => oth (l.getD j 0))
  all : ∀ i c, i < n → l[i]? = some c → c ∈ OPN → (run (seg l (i + 1) n)).isSome = true → i ∈ ws
  good : ∀ st, run (l.take n) = some st → ws.map (fun j => oth (l.getD j 0)) = st ∧ ∀ i c, i < n → l[i]? = some c → c ∈ BRK → f[i]? = some none → i ∈ ws
  bad : run (l.take n) = none → ∃ i c, i < n ∧ l[i]? = some c ∧ c ∈ CLO ∧ ∀ j, ¬ ptn l j i
theorem getD_of {l : List Nat} {j c : Nat} (h : l[j]? = some c) : l.getD j 0 = c := by
  rw [List.getD_eq_getElem?_getD, h]
  rfl
theorem ptn_lt {l : List Nat} {i j : Nat} (h : ptn l i j) : j < l.length := by
  obtain ⟨_, c, _, _, h2, _⟩ := h
  exact (List.getElem?_eq_some_iff.mp h2).1
theorem seg_run_snoc {l : List Nat} {a n c : Nat} (h : a ≤ n) (hc : l[n]? = some c) : run (seg l a (n + 1)) = stp (run (seg l a n)) c := by
  obtain ⟨hn, e⟩ := List.getElem?_eq_some_iff.mp hc
  rw [seg_snoc h hn, e, run_snoc]
theorem take_run_snoc {l : List Nat} {n c : Nat} (hc : l[n]? = some c) : run (l.take (n + 1)) = stp (run (l.take n)) c := by
  obtain ⟨hn, e⟩ := List.getElem?_eq_some_iff.mp hc
  rw [List.take_succ_eq_append_getElem hn, e, run_snoc]
/-- one closing bracket closes at most the last that waits -/
theorem PInv.top {l : List Nat} {n c : Nat} {f : List (Option Nat)} {ws : List Nat} (I : PInv l n f ws) (hc : l[n]? = some c) (h2 : c ∈ CLO) {i : Nat} (h : ptn l i n) : ∃ w, ws = i :: w ∧ l[i]? = some (oth c) := by
  obtain ⟨hlt, d, hd, hdo, hnd, hcl⟩ := h
  rw [hnd] at hc
  have ed : oth d = c := Option.some.inj hc
  have hi : i ∈ ws := I.all i d hlt hd hdo (by rw [hcl]; rfl)
  obtain ⟨k, hk⟩ := List.mem_iff_getElem?.mp hi
  have hp := I.pile k i hk
  rw [hcl] at hp
  have hk0 : ws.take k = [] := by
    have := Option.some.inj hp
    exact List.map_eq_nil_iff.mp this.symm
  have hk00 : k = 0 := by
    rcases Nat.eq_zero_or_pos k with h | h
    · exact h
    · exfalso
      have hlen : k < ws.length := (List.getElem?_eq_some_iff.mp hk).1
      have := congrArg List.length hk0
      rw [List.length_take, List.length_nil] at this
      omega
  subst hk00
  cases ws with
  | nil => cases hk
  | cons a w =>
    have : a = i := Option.some.inj hk
    subst this
    refine ⟨w, rfl, ?_⟩
    rw [hd, ← ed, oth_oth d (brk_or.mpr (.inl hdo))]
theorem pinv_step {l : List Nat} {n c : Nat} {f : List (Option Nat)} {ws : List Nat} (I : PInv l n f ws) (hc : l[n]? = some c) : PInv l (n + 1) (pstep l (f, ws) n c).1 (pstep l (f, ws) n c).2 := by
  have hn : n < l.length := (List.getElem?_eq_some_iff.mp hc).1
  by_cases h1 : c ∈ OPN
  · -- an opening bracket waits
    have e : pstep l (f, ws) n c = (f, n :: ws) := by unfold pstep; simp only [h1, if_true]
    rw [e]
    have hnc : c ∉ CLO := opn_clo c h1
    refine ⟨I.len, fun i j => ?_, fun j hj => ?_, fun k j hk => ?_, fun i d hi hd hdo hs => ?_, fun st hst => ?_, fun hb => ?_⟩
    · rw [I.fnd i j]
      have key : ∀ i, ¬ ptn l i n := by
        rintro i ⟨_, d, _, hdo, hnd, _⟩
        rw [hnd] at hc
        have : oth d = c := Option.some.inj hc
        exact hnc (this ▸ oth_clo d hdo)
      constructor
      · rintro (⟨p, h⟩ | ⟨p, h⟩)
        · exact .inl ⟨p, by omega⟩
        · exact .inr ⟨p, by omega⟩
      · rintro (⟨p, h⟩ | ⟨p, h⟩)
        · refine .inl ⟨p, ?_⟩
          rcases Nat.lt_or_ge j n with h' | h'
          · exact h'
          · have : j = n := by omega
            subst this
            exact absurd p (key i)
        · refine .inr ⟨p, ?_⟩
          rcases Nat.lt_or_ge i n with h' | h'
          · exact h'
          · have : i = n := by omega
            subst this
            exact absurd p (key j)
    · rcases List.mem_cons.mp hj with rfl | hj
      · exact ⟨by omega, c, hc, h1⟩
      · obtain ⟨a, b⟩ := I.opn j hj
        exact ⟨by omega, b⟩
    · cases k with
      | zero =>
        have : n = j := Option.some.inj hk
        subst this
        rw [seg_self]
        rfl
      | succ k =>
        have hk' : ws[k]? = some j := hk
        have hj := (I.opn j (List.mem_of_getElem? hk')).1
        rw [seg_run_snoc (by omega) hc, I.pile k j hk', stp_opn h1]
        show some (oth c :: _) = some (oth (l.getD n 0) :: _)
        rw [getD_of hc]
    · rcases Nat.lt_or_ge i n with h' | h'
      · refine List.mem_cons_of_mem _ (I.all i d h' hd hdo ?_)
        rw [seg_run_snoc (by omega) hc] at hs
        cases hr : run (seg l (i + 1) n) with
        | none => rw [hr] at hs; cases hs
        | some st => rfl
      · have : i = n := by omega
        subst this
        exact List.mem_cons_self ..
    · rw [take_run_snoc hc] at hst
      cases hr : run (l.take n) with
      | none => rw [hr] at hst; cases hst
      | some st0 =>
        rw [hr, stp_opn h1] at hst
        cases hst
        obtain ⟨a, b⟩ := I.good st0 hr
        refine ⟨?_, fun i d hi hd hdb hfi => ?_⟩
        · show oth (l.getD n 0) :: _ = oth c :: st0
          rw [a, getD_of hc]
        · rcases Nat.lt_or_ge i n with h' | h'
          · exact List.mem_cons_of_mem _ (b i d h' hd hdb hfi)
          · have : i = n := by omega
            subst this
            exact List.mem_cons_self ..
    · rw [take_run_snoc hc] at hb
      cases hr : run (l.take n) with
      | none =>
        obtain ⟨i, d, a, b⟩ := I.bad hr
        exact ⟨i, d, by omega, b⟩
      | some st0 =>
        rw [hr, stp_opn h1] at hb
        cases hb
  · by_cases h2 : c ∈ CLO
    · by_cases hm : ∃ j w, ws = j :: w ∧ l[j]? = some (oth c)
      · -- the last that waits is closed
        obtain ⟨j, w, rfl, hj⟩ := hm
        have e : pstep l (f, j :: w) n c = ((f.set n (some j)).set j (some n), w) := by unfold pstep; simp only [h1, h2, hj, if_true, if_false]
        rw [e]
        have hjn : j < n := (I.opn j (List.mem_cons_self ..)).1
        have hp0 := I.pile 0 j rfl
        have hclj : clean (seg l (j + 1) n) := hp0
        have hcc : oth (oth c) = c := oth_oth c (brk_or.mpr (.inr h2))
        have hpt : ptn l j n := ⟨hjn, oth c, hj, oth_opn c h2, by rw [hcc]; exact hc, hclj⟩
        have uniq : ∀ i, ptn l i n → i = j := fun i hi => by
          obtain ⟨w', ew, _⟩ := I.top hc h2 hi
          cases ew
          rfl
        have uniq2 : ∀ k, ptn l j k → k < n + 1 → k = n := fun k hk hkn => by
          rcases Nat.lt_or_ge k n with h' | h'
          · exfalso
            obtain ⟨hjk, d, hd, hdo, hkd, hcl⟩ := hk
            have hk2 : run (seg l (j + 1) (k + 1)) = none := by
              rw [seg_run_snoc (by omega) hkd, hcl]
              have a1 : oth d ∉ OPN := fun h => opn_clo _ h (oth_clo d hdo)
              unfold stp
              simp only [a1, oth_clo d hdo, if_true, if_false]
            have : run (seg l (j + 1) n) = none := by
              rw [seg_app (b := k + 1) (by omega) (by omega) (by omega), run_app, hk2, fold_none]
            rw [hclj] at this
            cases this
          · omega
        refine ⟨by simp [I.len], fun i k => ?_, fun i hi => ?_, fun k i hk => ?_, fun i d hi hd hdo hs => ?_, fun st hst => ?_, fun hb => ?_⟩
        · have hjl : j < f.length := by rw [I.len]; omega
          have hnl : n < f.length := by rw [I.len]; exact hn
          by_cases hij : i = j
          · subst hij
            rw [List.getElem?_set_self (by simp [hjl])]
            constructor
            · intro h
              cases h
              exact .inl ⟨hpt, by omega⟩
            · rintro (⟨p, h⟩ | ⟨p, h⟩)
              · rw [uniq2 k p h]
              · exfalso
                obtain ⟨_, d, _, hdo, hid, _⟩ := p
                rw [hj] at hid
                have : oth c = oth d := Option.some.inj hid
                exact opn_clo _ (oth_opn c h2) (this ▸ oth_clo d hdo)
          · rw [List.getElem?_set_ne (Ne.symm hij)]
            by_cases hin : i = n
            · subst hin
              rw [List.getElem?_set_self hnl]
              constructor
              · intro h
                cases h
                exact .inr ⟨hpt, by omega⟩
              · rintro (⟨p, h⟩ | ⟨p, h⟩)
                · have := p.1
                  omega
                · rw [uniq k p]
            · rw [List.getElem?_set_ne (Ne.symm hin), I.fnd i k]
              constructor
              · rintro (⟨p, h⟩ | ⟨p, h⟩)
                · exact .inl ⟨p, by omega⟩
                · exact .inr ⟨p, by omega⟩
              · rintro (⟨p, h⟩ | ⟨p, h⟩)
                · refine .inl ⟨p, ?_⟩
                  rcases Nat.lt_or_ge k n with h' | h'
                  · exact h'
                  · have : k = n := by omega
                    subst this
                    exact absurd (uniq i p) hij
                · exact .inr ⟨p, by omega⟩
        · obtain ⟨a, b⟩ := I.opn i (List.mem_cons_of_mem _ hi)
          exact ⟨by omega, b⟩
        · have hk' : (j :: w)[k + 1]? = some i := hk
          have hin := (I.opn i (List.mem_of_getElem? hk')).1
          have hpk := I.pile (k + 1) i hk'
          rw [seg_run_snoc (by omega) hc, hpk]
          show stp (some (oth (l.getD j 0) :: _)) c = _
          rw [getD_of hj, hcc, stp_clo h2]
        · have hin : i < n := by
            rcases Nat.lt_or_ge i n with h' | h'
            · exact h'
            · have : i = n := by omega
              subst this
              rw [hc] at hd
              cases hd
              exact absurd hdo h1
          rw [seg_run_snoc (by omega) hc] at hs
          have hmem : i ∈ j :: w := I.all i d hin hd hdo (by
            cases hr : run (seg l (i + 1) n) with
            | none => rw [hr] at hs; cases hs
            | some st => rfl)
          rcases List.mem_cons.mp hmem with rfl | h'
          · exfalso
            rw [hclj] at hs
            have : stp (some []) c = none := by unfold stp; simp only [h1, h2, if_true, if_false]
            rw [this] at hs
            cases hs
          · exact h'
        · rw [take_run_snoc hc] at hst
          cases hr : run (l.take n) with
          | none => rw [hr] at hst; cases hst
          | some st0 =>
            obtain ⟨a, b⟩ := I.good st0 hr
            have a' : oth (l.getD j 0) :: w.map (fun j => oth (l.getD j 0)) = st0 := a
            rw [getD_of hj, hcc] at a'
            rw [hr, ← a', stp_clo h2] at hst
            have hst' := Option.some.inj hst
            refine ⟨hst', fun i d hi hd hdb hfi => ?_⟩
            have hjl : j < f.length := by rw [I.len]; omega
            have hnl : n < f.length := by rw [I.len]; exact hn
            by_cases hij : i = j
            · subst hij
              rw [List.getElem?_set_self (by simp [hjl])] at hfi
              cases hfi
            · rw [List.getElem?_set_ne (Ne.symm hij)] at hfi
              by_cases hin : i = n
              · subst hin
                rw [List.getElem?_set_self hnl] at hfi
                cases hfi
              · rw [List.getElem?_set_ne (Ne.symm hin)] at hfi
                rcases List.mem_cons.mp (b i d (by omega) hd hdb hfi) with rfl | h'
                · exact absurd rfl hij
                · exact h'
        · rw [take_run_snoc hc] at hb
          cases hr : run (l.take n) with
          | none =>
            obtain ⟨i, d, a, b⟩ := I.bad hr
            exact ⟨i, d, by omega, b⟩
          | some st0 =>
            obtain ⟨a, b⟩ := I.good st0 hr
            have a' : oth (l.getD j 0) :: w.map (fun j => oth (l.getD j 0)) = st0 := a
            rw [getD_of hj, hcc] at a'
            rw [hr, ← a', stp_clo h2] at hb
            cases hb
      · -- nothing is closed: all is forgotten
        have e : pstep l (f, ws) n c = (f, []) := by
          unfold pstep
          simp only [h1, h2, if_true, if_false]
          cases ws with
          | nil => rfl
          | cons j w =>
            have : ¬ l[j]? = some (oth c) := fun h => hm ⟨j, w, rfl, h⟩
            simp only [this, if_false]
        rw [e]
        have none_n : ∀ i, ¬ ptn l i n := fun i hi => by
          obtain ⟨w, ew, hl⟩ := I.top hc h2 hi
          exact hm ⟨i, w, ew, hl⟩
        refine ⟨I.len, fun i j => ?_, fun j hj => (by cases hj), fun k j hk => (by cases hk), fun i d hi hd hdo hs => ?_, fun st hst => ?_, fun hb => ⟨n, c, by omega, hc, h2, none_n⟩⟩
        · rw [I.fnd i j]
          constructor
          · rintro (⟨p, h⟩ | ⟨p, h⟩)
            · exact .inl ⟨p, by omega⟩
            · exact .inr ⟨p, by omega⟩
          · rintro (⟨p, h⟩ | ⟨p, h⟩)
            · refine .inl ⟨p, ?_⟩
              rcases Nat.lt_or_ge j n with h' | h'
              · exact h'
              · have : j = n := by omega
                subst this
                exact absurd p (none_n i)
            · refine .inr ⟨p, ?_⟩
              rcases Nat.lt_or_ge i n with h' | h'
              · exact h'
              · have : i = n := by omega
                subst this
                exact absurd p (none_n j)
        · exfalso
          have hin : i < n := by
            rcases Nat.lt_or_ge i n with h' | h'
            · exact h'
            · have : i = n := by omega
              subst this
              rw [hc] at hd
              cases hd
              exact absurd hdo h1
          rw [seg_run_snoc (by omega) hc] at hs
          cases hr : run (seg l (i + 1) n) with
          | none => rw [hr] at hs; cases hs
          | some st =>
            have hmem : i ∈ ws := I.all i d hin hd hdo (by rw [hr]; rfl)
            obtain ⟨k, hk⟩ := List.mem_iff_getElem?.mp hmem
            have hp := I.pile k i hk
            rw [hr] at hs
            rw [hr] at hp
            have hp' := Option.some.inj hp
            subst hp'
            cases k with
            | zero =>
              have : stp (some []) c = none := by unfold stp; simp only [h1, h2, if_true, if_false]
              rw [List.take_zero, List.map_nil, this] at hs
              cases hs
            | succ k =>
              cases ws with
              | nil => cases hk
              | cons j w =>
                obtain ⟨hjn, cj, hcj, hcjo⟩ := I.opn j (List.mem_cons_self ..)
                rw [List.take_succ_cons, List.map_cons, getD_of hcj] at hs
                have hne : oth cj ≠ c := fun h => hm ⟨j, w, rfl, by rw [hcj, ← h, oth_oth cj (brk_or.mpr (.inl hcjo))]⟩
                have : stp (some (oth cj :: (w.take k).map fun j => oth (l.getD j 0))) c = none := by unfold stp; simp only [h1, h2, hne, if_true, if_false]
                rw [this] at hs
                cases hs
        · exfalso
          rw [take_run_snoc hc] at hst
          cases hr : run (l.take n) with
          | none => rw [hr] at hst; cases hst
          | some st0 =>
            obtain ⟨a, b⟩ := I.good st0 hr
            subst a
            rw [hr] at hst
            cases ws with
            | nil =>
              have : stp (some []) c = none := by unfold stp; simp only [h1, h2, if_true, if_false]
              rw [List.map_nil, this] at hst
              cases hst
            | cons j w =>
              obtain ⟨hjn, cj, hcj, hcjo⟩ := I.opn j (List.mem_cons_self ..)
              rw [List.map_cons, getD_of hcj] at hst
              have hne : oth cj ≠ c := fun h => hm ⟨j, w, rfl, by rw [hcj, ← h, oth_oth cj (brk_or.mpr (.inl hcjo))]⟩
              have : stp (some (oth cj :: w.map fun j => oth (l.getD j 0))) c = none := by unfold stp; simp only [h1, h2, hne, if_true, if_false]
              rw [this] at hst
              cases hst
    · -- a letter
      have e : pstep l (f, ws) n c = (f, ws) := by unfold pstep; simp only [h1, h2, if_false]
      rw [e]
      have none_n : ∀ i, ¬ ptn l i n := by
        rintro i ⟨_, d, _, hdo, hnd, _⟩
        rw [hnd] at hc
        have : oth d = c := Option.some.inj hc
        exact h2 (this ▸ oth_clo d hdo)
      refine ⟨I.len, fun i j => ?_, fun j hj => ?_, fun k j hk => ?_, fun i d hi hd hdo hs => ?_, fun st hst => ?_, fun hb => ?_⟩
      · rw [I.fnd i j]
        constructor
        · rintro (⟨p, h⟩ | ⟨p, h⟩)
          · exact .inl ⟨p, by omega⟩
          · exact .inr ⟨p, by omega⟩
        · rintro (⟨p, h⟩ | ⟨p, h⟩)
          · refine .inl ⟨p, ?_⟩
            rcases Nat.lt_or_ge j n with h' | h'
            · exact h'
            · have : j = n := by omega
              subst this
              exact absurd p (none_n i)
          · refine .inr ⟨p, ?_⟩
            rcases Nat.lt_or_ge i n with h' | h'
            · exact h'
            · have : i = n := by omega
              subst this
              exact absurd p (none_n j)
      · obtain ⟨a, b⟩ := I.opn j hj
        exact ⟨by omega, b⟩
      · have hj := (I.opn j (List.mem_of_getElem? hk)).1
        rw [seg_run_snoc (by omega) hc, I.pile k j hk, stp_let h1 h2]
      · have hin : i < n := by
          rcases Nat.lt_or_ge i n with h' | h'
          · exact h'
          · have : i = n := by omega
            subst this
            rw [hc] at hd
            cases hd
            exact absurd hdo h1
        rw [seg_run_snoc (by omega) hc, stp_let h1 h2] at hs
        exact I.all i d hin hd hdo hs
      · rw [take_run_snoc hc, stp_let h1 h2] at hst
        obtain ⟨a, b⟩ := I.good st hst
        refine ⟨a, fun i d hi hd hdb hfi => ?_⟩
        rcases Nat.lt_or_ge i n with h' | h'
        · exact b i d h' hd hdb hfi
        · have : i = n := by omega
          subst this
          rw [hc] at hd
          cases hd
          exact absurd (brk_or.mp hdb) (by simp [h1, h2])
      · rw [take_run_snoc hc, stp_let h1 h2] at hb
        obtain ⟨i, d, a, b⟩ := I.bad hb
        exact ⟨i, d, by omega, b⟩
theorem pinv_start (l : List Nat) : PInv l 0 (List.replicate l.length none) [] := by
  refine ⟨by simp, fun i j => ⟨fun h => ?_, fun h => ?_⟩, fun j hj => (by cases hj), fun k j hk => (by cases hk), fun i d hi => absurd hi (Nat.not_lt_zero _), fun st hst => ?_, fun hb => ?_⟩
  · rw [List.getElem?_replicate] at h
    split at h <;> cases h
  · rcases h with ⟨_, h⟩ | ⟨_, h⟩ <;> exact absurd h (Nat.not_lt_zero _)
  · rw [List.take_zero] at hst
    cases hst
    exact ⟨rfl, fun i d hi => absurd hi (Nat.not_lt_zero _)⟩
  · rw [List.take_zero] at hb
    cases hb
theorem pinv_all (l : List Nat) : ∀ n, n ≤ l.length → PInv l n (pst l (l.take n)).1 (pst l (l.take n)).2
  | 0, _ => by
    rw [List.take_zero]
    exact pinv_start l
  | n + 1, h => by
    have hn : n < l.length := h
    have ih := pinv_all l n (Nat.le_of_lt hn)
    rw [List.take_succ_eq_append_getElem hn, pst_snoc, List.length_take, Nat.min_eq_left (Nat.le_of_lt hn)]
    exact pinv_step ih (List.getElem?_eq_getElem hn)
theorem pinv_end (l : List Nat) : PInv l l.length (mates l) (pst l l).2 := by
  have h := pinv_all l l.length (Nat.le_refl _)
  rw [List.take_length] at h
  exact h
/-- POINT 5: the told partners -/
theorem mates_ptn (l : List Nat) (i j : Nat) : (mates l)[i]? = some (some j) ↔ ptn l i j ∨ ptn l j i := by
  rw [(pinv_end l).fnd i j]
  constructor
  · rintro (⟨p, _⟩ | ⟨p, _⟩)
    · exact .inl p
    · exact .inr p
  · rintro (p | p)
    · exact .inl ⟨p, ptn_lt p⟩
    · exact .inr ⟨p, ptn_lt p⟩
theorem mates_len (l : List Nat) : (mates l).length = l.length := (pinv_end l).len
/-- clean just where each bracket has a partner -/
theorem clean_mates (l : List Nat) : clean l ↔ ∀ (i c : Nat), l[i]? = some c → c ∈ BRK → (mates l)[i]? ≠ some none := by
  have I := pinv_end l
  constructor
  · intro h i c hi hc hn
    have hr : run (l.take l.length) = some [] := by rw [List.take_length]; exact h
    obtain ⟨a, b⟩ := I.good [] hr
    have hw : (pst l l).2 = [] := List.map_eq_nil_iff.mp a
    have := b i c (List.getElem?_eq_some_iff.mp hi).1 hi hc hn
    rw [hw] at this
    cases this
  · intro h
    cases hr : run (l.take l.length) with
    | none =>
      exfalso
      obtain ⟨i, c, hi, hc, hcc, hp⟩ := I.bad hr
      have hi' : i < (mates l).length := by rw [mates_len]; exact hi
      have hm : (mates l)[i]? = some (mates l)[i] := List.getElem?_eq_getElem hi'
      refine h i c hc (brk_or.mpr (.inr hcc)) ?_
      cases hv : (mates l)[i] with
      | none => rw [hm, hv]
      | some j =>
        exfalso
        rw [hv] at hm
        rcases (mates_ptn l i j).mp hm with p | p
        · obtain ⟨_, d, hd, hdo, _⟩ := p
          rw [hc] at hd
          cases hd
          exact opn_clo _ hdo hcc
        · exact hp j p
    | some st =>
      obtain ⟨a, _⟩ := I.good st hr
      rw [List.take_length] at hr
      cases hw : (pst l l).2 with
      | nil =>
        rw [hw] at a
        show run l = some []
        rw [hr, ← a]
        rfl
      | cons j w =>
        exfalso
        have hj : j ∈ (pst l l).2 := by rw [hw]; exact List.mem_cons_self ..
        obtain ⟨hjl, c, hc, hco⟩ := I.opn j hj
        have hj' : j < (mates l).length := by rw [mates_len]; exact hjl
        have hm : (mates l)[j]? = some (mates l)[j] := List.getElem?_eq_getElem hj'
        refine h j c hc (brk_or.mpr (.inl hco)) ?_
        cases hv : (mates l)[j] with
        | none => rw [hm, hv]
        | some k =>
          exfalso
          rw [hv] at hm
          rcases (mates_ptn l j k).mp hm with p | p
          · obtain ⟨m, hmm⟩ := List.mem_iff_getElem?.mp hj
            have hp := I.pile m j hmm
            have hkl := ptn_lt p
            obtain ⟨hjk, d, hd, hdo, hkd, hcl⟩ := p
            have hk2 : run (seg l (j + 1) (k + 1)) = none := by
              rw [seg_run_snoc (by omega) hkd, hcl]
              have a1 : oth d ∉ OPN := fun h => opn_clo _ h (oth_clo d hdo)
              unfold stp
              simp only [a1, oth_clo d hdo, if_true, if_false]
            rw [seg_app (b := k + 1) (by omega) (by omega) (by omega), run_app, hk2, fold_none] at hp
            cases hp
          · obtain ⟨_, d, hd, hdo, hkd, _⟩ := p
            rw [hc] at hkd
            have : c = oth d := Option.some.inj hkd
            exact opn_clo _ hco (this ▸ oth_clo d hdo)
end Ly

set_option maxHeartbeats 4000000
namespace Ly
/-- the first place at which the pile is as it was below d -/
theorem fold_split : ∀ (n : Nat) (r d st t), r.length ≤ n → d ∈ CLO → r.foldl stp (some (d :: st)) = some t → t.length ≤ st.length → ∃ a b, r = a ++ d :: b ∧ clean a ∧ b.foldl stp (some st) = some t
  | n, [], d, st, t, _, _, h, hl => by
    cases h
    simp at hl
    omega
  | 0, e :: r, d, st, t, hn, _, _, _ => by simp at hn
  | n + 1, e :: r, d, st, t, hn, hd, h, hl => by
    have hn' : r.length ≤ n := by simpa using hn
    rw [List.foldl_cons] at h
    by_cases h1 : e ∈ OPN
    · rw [stp_opn h1] at h
      obtain ⟨a1, b1, e1, c1, f1⟩ := fold_split n r (oth e) (d :: st) t hn' (oth_clo e h1) h (by simp; omega)
      have hb1 : b1.length ≤ n := by
        rw [e1] at hn'
        simp at hn'
        omega
      obtain ⟨a2, b2, e2, c2, f2⟩ := fold_split n b1 d st t hb1 hd f1 hl
      refine ⟨e :: (a1 ++ [oth e]) ++ a2, b2, by rw [e1, e2]; simp, clean_app (clean_pair h1 c1) c2, f2⟩
    · by_cases h2 : e ∈ CLO
      · by_cases hde : d = e
        · subst hde
          rw [stp_clo h2] at h
          exact ⟨[], r, rfl, clean_nil, h⟩
        · exfalso
          have : stp (some (d :: st)) e = none := by unfold stp; simp only [h1, h2, hde, if_true, if_false]
          rw [this, fold_none] at h
          cases h
      · rw [stp_let h1 h2] at h
        obtain ⟨a, b, e1, c1, f1⟩ := fold_split n r d st t hn' hd h hl
        refine ⟨e :: a, b, by rw [e1]; rfl, ?_, f1⟩
        show (e :: a).foldl stp (some []) = some []
        rw [List.foldl_cons, stp_let h1 h2]
        exact c1
theorem clean_let {c : Nat} {r : List Nat} (h1 : c ∉ OPN) (h2 : c ∉ CLO) : clean (c :: r) ↔ clean r := by
  show (c :: r).foldl stp (some []) = some [] ↔ _
  rw [List.foldl_cons, stp_let h1 h2]
  rfl
theorem clean_cancel {a b : List Nat} (h : clean a) : clean (a ++ b) ↔ clean b := by
  unfold clean
  rw [run_clean_app h]
/-! ### by places -/
theorem seg_cons {l : List Nat} {a b c : Nat} (h : l[a]? = some c) (hb : a < b) (hl : b ≤ l.length) : seg l a b = c :: seg l (a + 1) b := by
  obtain ⟨ha, e⟩ := List.getElem?_eq_some_iff.mp h
  rw [seg_app (b := a + 1) (by omega) (by omega) (by omega), seg_snoc (Nat.le_refl a) ha, seg_self, e]
  rfl
end Ly

set_option maxHeartbeats 4000000
namespace Ly
/-! ### partners found from behind -/
def over (l : List Nat) (m : List (Option Nat)) (s : Nat) : Bool := match l[s]? with
  | none => false
  | some c => if c ∈ CLO then false else if c ∈ OPN then (match m[s]? with | some (some _) => true | _ => false) else true
end Ly

set_option maxHeartbeats 4000000
namespace Ly
/-! ### clean texts put together -/
theorem run_mid {a m b : List Nat} (h : clean m) : run (a ++ m ++ b) = run (a ++ b) := by
  rw [run_app, run_app, fold_clean h, ← run_app]
theorem clean_mid {a m b : List Nat} (h : clean m) : clean (a ++ m ++ b) ↔ clean (a ++ b) := by
  unfold clean
  rw [run_mid h]
end Ly

set_option maxHeartbeats 4000000
namespace Ly
open PySem PySem.Spec PyProof.Rows L2 SX
/-! ### text[i:j] -/
section
variable {K : PySem.W.Frag} {H : Hp} {Q : VK} {p a : Addr} {xs : List V}
end
end Ly

set_option maxHeartbeats 4000000
namespace Ly
/-! ### kinds renamed -/
/-! ### turned about -/
/-- the sign turned -/
def tn (c : Nat) : Nat := if c ∈ BRK then oth c else c
end Ly

set_option maxHeartbeats 4000000
namespace Ly
/-! ### clean stretches counted -/
/-- how many begins of l that are not empty are clean -/
def cp (l : List Nat) : Nat := (List.range l.length).countP fun k => decide (clean (l.take (k + 1)))
def many : List Nat → Nat
  | [] => 0
  | c :: r => cp (c :: r) + many r
theorem range_add (a b : Nat) : List.range (a + b) = List.range a ++ (List.range b).map (a + ·) := List.range_add
/-- in general -/
theorem cp_two (s b : List Nat) : cp (s ++ b) = cp s + (List.range b.length).countP fun k => decide (clean (s ++ b.take (k + 1))) := by
  unfold cp
  rw [List.length_append, range_add, List.countP_append, List.countP_map]
  congr 1
  · apply List.countP_congr
    intro k hk
    have hk' : k < s.length := List.mem_range.mp hk
    rw [List.take_append_of_le_length (by omega)]
  · apply List.countP_congr
    intro k hk
    show (decide (clean ((s ++ b).take (s.length + k + 1))) = true ↔ _)
    rw [show s.length + k + 1 = s.length + (k + 1) by omega, List.take_append, List.take_of_length_le (by omega), show s.length + (k + 1) - s.length = k + 1 by omega]
theorem cp_app {a b : List Nat} (h : clean a) : cp (a ++ b) = cp a + cp b := by
  rw [cp_two]
  congr 1
  unfold cp
  apply List.countP_congr
  intro k hk
  rw [decide_eq_true_iff, decide_eq_true_iff, clean_cancel h]
theorem cp_let {c : Nat} {r : List Nat} (h1 : c ∉ OPN) (h2 : c ∉ CLO) : cp (c :: r) = 1 + cp r := by
  have h : clean [c] := (clean_let h1 h2).mpr clean_nil
  have e : c :: r = [c] ++ r := rfl
  rw [e, cp_app h]
  congr 1
  unfold cp
  simp only [List.length_singleton, List.range_one, List.countP_cons, List.countP_nil, List.take_succ_cons, List.take_zero]
  simp [h]
/-! sums -/
/-! ### by places -/
def cps (l : List Nat) : List Nat := (List.range (l.length + 1)).map fun i => cp (l.drop i)
/-! ### texts of one kind -/
theorem unit_let {c : Nat} (h1 : c ∉ OPN) (h2 : c ∉ CLO) : clean [c] ∧ cp [c] = 1 ∧ many [c] = 1 := by
  have e : cp [c] = 1 := by rw [cp_let h1 h2]; rfl
  exact ⟨(clean_let h1 h2).mpr clean_nil, e, by show cp [c] + 0 = 1; rw [e]⟩
/-! ### units -/
end Ly

set_option maxHeartbeats 4000000
namespace Ly
open PySem PySem.Spec PyProof.Rows L2 SX
/-! ### texts with their tokens: for y in [texts]: x = x.replace(y, z) -/
/-- what a local name holds, as it is -/
def Raw (X : Cx) (s : Shared) (x : Str) (u : Value) : Prop := ∃ m, s.heap.Ns X.env.locals m ∧ m x = some u
section
variable {X : Cx} {pins : List (Addr × Obj)} {σ : L2.St} {H : Hp} {s : Shared}
/-- a local name is stored: its value is known, a token is out -/
theorem store_raw {M : Model} {A : Around} {E : Value → Shared → Prop} {i : Nat} {x : Str} {v : V} {u : Value} {Q : Unit → Shared → Prop} (I : Inv X pins σ H s) (hN : X.N.Nodup) (hi : X.N[i]? = some x) (hk : X.env.scope.names.lookup x = some .local) (r : RelV v u)
    (h : ∀ s', Inv X pins (σ.set i (some v)) H s' → Raw X s' x u → s'.toks = s.toks + 1 → (∃ a, Heap.SameBut a s.heap s'.heap ∧ a = X.env.locals) → Q () s') : wpAny M A (storeName X.env x u) Q E s := by
  obtain ⟨m, hn, hl⟩ := id I.loc
  have hcls : (X.env.scope.kind == .class || (X.env.scope.kind == .module && X.env.locals != X.env.globals)) = false := by rw [I.ok.kind]; rfl
  have hiσ : i < σ.length := by rw [I.len]; exact (List.getElem?_eq_some_iff.mp hi).1
  have cne := I.cne
  refine wpAny_storeName_local hk hn (fun h' hn' hs => ?_) hcls
  obtain ⟨oL, _, _, hoL, _⟩ := id hn
  have old : ∀ b o, X.s_0.heap.get? b = some o → h'.get? b = s.heap.get? b := fun b o e => hs.2 b (Nat.ne_of_lt (Nat.lt_of_lt_of_le (Heap.lt_size e) I.ok.above))
  refine h _ ⟨I.ok, I.os, I.bare, ⟨fun b o e n hb hx => (old b o e).trans (I.base.keep b o e n hb hx), fun b o e n hb hx => ?_, I.base.free, fun b o e hx => ?_, I.base.tups, I.base.frzs, I.base.tbls⟩, ⟨_, hn', fun j y v' e1 e2 e3 => ?_⟩, fun y c e => ?_, I.free, I.freeC, fun p hp => ?_, fun b ob e => ?_, by simpa using I.len⟩ ⟨_, hn', by simp⟩ rfl ⟨_, hs, rfl⟩
  · obtain ⟨sl, e1⟩ := I.base.slot b o e n hb hx
    exact ⟨sl, (old b o e).trans e1⟩
  · obtain ⟨o', e1⟩ := I.base.there b o e hx
    exact ⟨o', (old b o e).trans e1⟩
  · by_cases hj : j = i
    · subst hj
      rw [hi] at e1; cases e1
      rw [List.getElem?_set_self hiσ] at e2
      cases e2
      exact ⟨u, r, .inl ⟨hk, by simp⟩⟩
    · rw [List.getElem?_set_ne (Ne.symm hj)] at e2
      obtain ⟨u', r', q⟩ := hl j y v' e1 e2 e3
      refine ⟨u', r', ?_⟩
      rcases q with ⟨k, e⟩ | ⟨k, c, e, z⟩
      · have : y ≠ x := fun e => hj (nodup_ix hN e1 (e ▸ hi))
        exact .inl ⟨k, by simp [this, e]⟩
      · exact .inr ⟨k, c, e, z.sameBut hs (cne y c e)⟩
  · obtain ⟨w', z⟩ := I.cell y c e
    exact ⟨w', z.sameBut hs (cne y c e)⟩
  · obtain ⟨e, n, ne, nf, d⟩ := I.pin p hp
    exact ⟨(hs.2 p.1 ne).trans e, n, ne, nf, d⟩
  · refine (I.hok b ob e).stay (fun c w' hc q => (hs.2 c ?_).trans q) (fun _ q => q) fun _ _ q => q
    rintro rfl
    rcases hc with rfl | hc
    · rw [I.free] at e; cases e
    · rw [I.free] at hc; cases hc
/-- behind a store a token is out -/
theorem pss_asgT {i : Nat} {x : Str} {e : Expr} {te : TE} {rest : List Stmt} {u : TS} {pos' pos : Pos} (hN : X.N.Nodup) (hi : X.N[i]? = some x) (hk : X.env.scope.names.lookup x = some .local) (he : PE X e te) (h2 : PSsT X rest u)
    (hs : swapsWith e (some (.Name x pos')) pos.line X.env = pure false := by rfl) : PSs X (.Assign [.Name x pos'] e pos :: rest) (tSeq (tAsg te (gName i)) u) := by
  refine ⟨fun pins s σ H D I h => ?_⟩
  refine wpAny_execs_cons (wpAny_Assign_Name (thn (he.run pins s σ H _ I h) fun v s1 ⟨y, H1, I1, r1, q1⟩ => ?_) hs)
  exact store_raw I1 hN hi hk r1 fun s2 I2 _ ht _ => h2 pins s2 _ H1 D (by omega) I2 q1
end
section
variable {X : Cx} {ik ip : Nat} {kx px z : Str} {y1 y2 y3 y4 : Str}
end
end Ly

set_option maxHeartbeats 4000000
namespace Ly
open PySem PySem.Spec PyProof.Rows L2 SX PySem.StrLaws
/-! ### pairs struck out -/
def rm (o : Nat) (l : List Nat) : List Nat := replL [o, oth o] [] l
/-! the program's texts -/
end Ly

set_option maxHeartbeats 4000000
namespace Ly
open PySem PySem.Spec PyProof.Rows L2 SX
section
variable {X : Cx} {ik ip : Nat} {kx px z : Str} {y1 y2 y3 y4 : Str}
end
end Ly

set_option maxHeartbeats 4000000
namespace Ly
/-! ### from piece to piece -/
/-! ### sums -/
end Ly

set_option maxHeartbeats 4000000
namespace Ly
open PySem PySem.Spec PyProof.Rows L2 SX
/-! ### nests in the heap: each inner list is one of its own -/
inductive Nd where
  | let_ (c : Nat)
  | num (i : Int)
  | br (o : Nat) (ds : List Nd)
mutual
inductive TrI (H : Hp) : V → Nd → List Addr → Prop
  | let_ (c : Nat) : TrI H (Tx [c]) (.let_ c) []
  | num (i : Int) : TrI H (.int i) (.num i) []
  | br {t b : Addr} {o : Nat} {xs : List V} {ds : List Nd} {A : List Addr} : H t = some (.tup [Tx [o], .ref b]) → H b = some (.lst xs) → TrIs H xs ds A → TrI H (.ref t) (.br o ds) (b :: A)
inductive TrIs (H : Hp) : List V → List Nd → List Addr → Prop
  | nil : TrIs H [] [] []
  | cons {v : V} {vs : List V} {d : Nd} {ds : List Nd} {A B : List Addr} : TrI H v d A → TrIs H vs ds B → TrIs H (v :: vs) (d :: ds) (A ++ B)
end
/-- all but the lists in C stay -/
def ButS (C : List Addr) (H H' : Hp) : Prop := (∀ x ∈ C, ∃ ys, H x = some (.lst ys)) ∧ ∀ x o, H x = some o → x ∉ C → H' x = some o
theorem ButS.refl (H : Hp) : ButS [] H H := ⟨by simp, fun _ _ h _ => h⟩
theorem ButS.of_same {H H' : Hp} (s : Same H H') : ButS [] H H' := ⟨by simp, fun x o h _ => s x o h⟩
mutual
theorem TrI.frame {H H' : Hp} {C : List Addr} (s : ButS C H H') : ∀ {v : V} {d : Nd} {A : List Addr}, TrI H v d A → (∀ x ∈ A, x ∉ C) → TrI H' v d A
  | _, _, _, .let_ c, _ => .let_ c
  | _, _, _, .num i, _ => .num i
  | _, _, _, @TrI.br _ t b o xs ds A ht hb hs, h => .br (s.2 _ _ ht fun hc => by obtain ⟨ys, e⟩ := s.1 _ hc; rw [ht] at e; cases e) (s.2 _ _ hb (h b (List.mem_cons_self ..))) (TrIs.frame s hs fun x hx => h x (List.mem_cons_of_mem _ hx))
theorem TrIs.frame {H H' : Hp} {C : List Addr} (s : ButS C H H') : ∀ {vs : List V} {ds : List Nd} {A : List Addr}, TrIs H vs ds A → (∀ x ∈ A, x ∉ C) → TrIs H' vs ds A
  | _, _, _, .nil, _ => .nil
  | _, _, _, .cons hi hs, h => .cons (TrI.frame s hi fun x hx => h x (List.mem_append_left _ hx)) (TrIs.frame s hs fun x hx => h x (List.mem_append_right _ hx))
end
mutual
theorem TrI.lsts {H : Hp} : ∀ {v : V} {d : Nd} {A : List Addr}, TrI H v d A → ∀ x ∈ A, ∃ ys, H x = some (.lst ys)
  | _, _, _, .let_ c, x, hx => by simp at hx
  | _, _, _, .num i, x, hx => by simp at hx
  | _, _, _, .br ht hb hs, x, hx => by
    rcases List.mem_cons.mp hx with rfl | hx
    · exact ⟨_, hb⟩
    · exact TrIs.lsts hs x hx
theorem TrIs.lsts {H : Hp} : ∀ {vs : List V} {ds : List Nd} {A : List Addr}, TrIs H vs ds A → ∀ x ∈ A, ∃ ys, H x = some (.lst ys)
  | _, _, _, .nil, x, hx => by simp at hx
  | _, _, _, .cons hi hs, x, hx => by
    rcases List.mem_append.mp hx with hx | hx
    · exact TrI.lsts hi x hx
    · exact TrIs.lsts hs x hx
end
theorem TrIs.len {H : Hp} : ∀ {vs : List V} {ds : List Nd} {A : List Addr}, TrIs H vs ds A → vs.length = ds.length
  | _, _, _, .nil => rfl
  | _, _, _, .cons _ hs => by simp [TrIs.len hs]
theorem TrIs.app {H : Hp} : ∀ {vs ws : List V} {ds es : List Nd} {A B : List Addr}, TrIs H vs ds A → TrIs H ws es B → TrIs H (vs ++ ws) (ds ++ es) (A ++ B)
  | _, _, _, _, _, _, .nil, h => h
  | _, _, _, _, _, _, .cons hi hs, h => by
    rw [List.append_assoc]
    exact .cons hi (TrIs.app hs h)
theorem TrIs.snoc {H : Hp} {vs : List V} {v : V} {ds : List Nd} {d : Nd} {A B : List Addr} (h : TrIs H vs ds A) (h1 : TrI H v d B) : TrIs H (vs ++ [v]) (ds ++ [d]) (A ++ B) := by
  have := TrIs.app h (.cons h1 .nil)
  simpa using this
theorem TrIs.split {H : Hp} : ∀ {vs ws : List V} {ds : List Nd} {A : List Addr}, TrIs H (vs ++ ws) ds A → ∃ ds1 ds2 A1 A2, ds = ds1 ++ ds2 ∧ A = A1 ++ A2 ∧ TrIs H vs ds1 A1 ∧ TrIs H ws ds2 A2
  | [], ws, ds, A, h => ⟨[], ds, [], A, rfl, rfl, .nil, h⟩
  | v :: vs, ws, _, _, .cons hi hs => by
    obtain ⟨ds1, ds2, A1, A2, rfl, rfl, h1, h2⟩ := TrIs.split hs
    exact ⟨_ :: ds1, ds2, _ ++ A1, A2, rfl, by rw [List.append_assoc], .cons hi h1, h2⟩
/-! depth, size -/
mutual
def Nd.deep : Nd → Nat
  | .br _ ds => Nd.deeps ds + 1
  | _ => 0
def Nd.deeps : List Nd → Nat
  | [] => 0
  | d :: ds => max (Nd.deep d) (Nd.deeps ds)
end
/-! ### numbered -/
end Ly
namespace Ly
open PySem PySem.Spec PyProof.Rows L2 SX
theorem ButS.trans {C D : List Addr} {H H1 H2 : Hp} (x : ButS C H H1) (y : ButS D H1 H2) (hD : ∀ a ∈ D, ∃ ys, H a = some (.lst ys)) : ButS (C ++ D) H H2 := by
  refine ⟨fun a ha => ?_, fun a o h hn => ?_⟩
  · rcases List.mem_append.mp ha with ha | ha
    · exact x.1 a ha
    · exact hD a ha
  · rw [List.mem_append, not_or] at hn
    exact y.2 a o (x.2 a o h hn.1) hn.2
theorem ButS.but {b : Addr} {xs : List V} {H H1 : Hp} (h : H b = some (.lst xs)) (y : But b H H1) : ButS [b] H H1 := by
  refine ⟨fun a ha => ?_, fun a o h hn => y a o (fun e => hn (by rw [e]; simp)) h⟩
  rw [List.mem_singleton] at ha
  rw [ha]
  exact ⟨_, h⟩
theorem TrI.same {H H' : Hp} (s : Same H H') {v : V} {d : Nd} {A : List Addr} (h : TrI H v d A) : TrI H' v d A := TrI.frame (ButS.of_same s) h (by simp)
theorem TrIs.same {H H' : Hp} (s : Same H H') {v : List V} {d : List Nd} {A : List Addr} (h : TrIs H v d A) : TrIs H' v d A := TrIs.frame (ButS.of_same s) h (by simp)
end Ly

set_option maxHeartbeats 4000000
namespace Ly
open PySem PySem.Spec PyProof.Rows L2 SX
/-! ### a nest being made: the list b hangs in open frames -/
inductive Ctx (H : Hp) : Addr → List Addr → List (List Nd × Nat) → List Addr → Prop
  | nil (b : Addr) : Ctx H b [] [] []
  | cons {b b0 t : Addr} {bs : List Addr} {fs : List (List Nd × Nat)} {A A0 : List Addr} {xs0 : List V} {ds0 : List Nd} {o : Nat} : H b0 = some (.lst (xs0 ++ [.ref t])) → TrIs H xs0 ds0 A0 → H t = some (.tup [Tx [o], .ref b]) → Ctx H b0 bs fs A → Ctx H b (b0 :: bs) ((ds0, o) :: fs) (b0 :: (A0 ++ A))
theorem Ctx.frame {H H' : Hp} {C : List Addr} (s : ButS C H H') : ∀ {b : Addr} {bs : List Addr} {fs : List (List Nd × Nat)} {A : List Addr}, Ctx H b bs fs A → (∀ x ∈ A, x ∉ C) → Ctx H' b bs fs A
  | _, _, _, _, .nil b, _ => .nil b
  | _, _, _, _, .cons h1 h2 h3 h4, h => .cons (s.2 _ _ h1 (h _ (List.mem_cons_self ..))) (TrIs.frame s h2 fun x hx => h x (List.mem_cons_of_mem _ (List.mem_append_left _ hx))) (s.2 _ _ h3 fun hc => by obtain ⟨ys, e⟩ := s.1 _ hc; rw [h3] at e; cases e) (Ctx.frame s h4 fun x hx => h x (List.mem_cons_of_mem _ (List.mem_append_right _ hx)))
theorem Ctx.lsts {H : Hp} : ∀ {b : Addr} {bs : List Addr} {fs : List (List Nd × Nat)} {A : List Addr}, Ctx H b bs fs A → ∀ x ∈ A, ∃ ys, H x = some (.lst ys)
  | _, _, _, _, .nil b, x, hx => by simp at hx
  | _, _, _, _, .cons h1 h2 h3 h4, x, hx => by
    rcases List.mem_cons.mp hx with rfl | hx
    · exact ⟨_, h1⟩
    · rcases List.mem_append.mp hx with hx | hx
      · exact TrIs.lsts h2 x hx
      · exact Ctx.lsts h4 x hx
theorem Ctx.len {H : Hp} : ∀ {b : Addr} {bs : List Addr} {fs : List (List Nd × Nat)} {A : List Addr}, Ctx H b bs fs A → bs.length = fs.length
  | _, _, _, _, .nil b => rfl
  | _, _, _, _, .cons _ _ _ h4 => by simp [Ctx.len h4]
/-- the whole state: the open list, its frames, all lists unlike and new since H0 -/
structure Bld (N : Addr → Prop) (H : Hp) (b : Addr) (bs : List Addr) (fs : List (List Nd × Nat)) (cur : List Nd) : Prop where
  ex : ∃ xs A1 A, H b = some (.lst xs) ∧ TrIs H xs cur A1 ∧ Ctx H b bs fs A ∧ (b :: (A1 ++ A)).Nodup ∧ ∀ x ∈ b :: (A1 ++ A), N x
theorem Bld.start {N : Addr → Prop} {H : Hp} {b : Addr} (h : H b = some (.lst [])) (n : N b) : Bld N H b [] [] [] := ⟨[], [], [], h, .nil, .nil b, by simp, by simpa using n⟩
/-- nothing of it is touched -/
theorem Bld.same {N : Addr → Prop} {H H' : Hp} {b : Addr} {bs : List Addr} {fs : List (List Nd × Nat)} {cur : List Nd} (B : Bld N H b bs fs cur) (s : Same H H') : Bld N H' b bs fs cur := by
  obtain ⟨xs, A1, A, h1, h2, h3, h4, h5⟩ := B.ex
  exact ⟨xs, A1, A, s _ _ h1, TrIs.same s h2, Ctx.frame (ButS.of_same s) h3 (by simp), h4, h5⟩
theorem Bld.but {N : Addr → Prop} {H H' : Hp} {b p : Addr} {bs : List Addr} {fs : List (List Nd × Nat)} {cur : List Nd} {ys : List V} (B : Bld N H b bs fs cur) (s : But p H H') (hp : H p = some (.lst ys)) (hn : ¬ N p) : Bld N H' b bs fs cur := by
  obtain ⟨xs, A1, A, h1, h2, h3, h4, h5⟩ := B.ex
  have bs := ButS.but hp s
  have hno : ∀ x ∈ b :: (A1 ++ A), x ∉ [p] := fun x hx hc => by
    rw [List.mem_singleton] at hc
    rw [hc] at hx
    exact hn (h5 p hx)
  exact ⟨xs, A1, A, bs.2 _ _ h1 (hno b (List.mem_cons_self ..)), TrIs.frame bs h2 fun x hx => hno x (List.mem_cons_of_mem _ (List.mem_append_left _ hx)), Ctx.frame bs h3 fun x hx => hno x (List.mem_cons_of_mem _ (List.mem_append_right _ hx)), h4, h5⟩
theorem Bld.cur {N : Addr → Prop} {H : Hp} {b : Addr} {bs : List Addr} {fs : List (List Nd × Nat)} {cur : List Nd} (B : Bld N H b bs fs cur) : ∃ xs, H b = some (.lst xs) ∧ xs.length = cur.length ∧ N b ∧ bs.length = fs.length := by
  obtain ⟨xs, A1, A, h1, h2, h3, h4, h5⟩ := B.ex
  exact ⟨xs, h1, TrIs.len h2, h5 b (List.mem_cons_self ..), Ctx.len h3⟩
/-- a letter behind -/
theorem Bld.letter {N : Addr → Prop} {H H' : Hp} {b : Addr} {bs : List Addr} {fs : List (List Nd × Nat)} {cur : List Nd} {xs : List V} {c : Nat} (B : Bld N H b bs fs cur) (hb : H b = some (.lst xs)) (s : But b H H') (e : H' b = some (.lst (xs ++ [Tx [c]]))) : Bld N H' b bs fs (cur ++ [.let_ c]) := by
  obtain ⟨xs', A1, A, h1, h2, h3, h4, h5⟩ := B.ex
  rw [hb] at h1
  cases h1
  have bs := ButS.but hb s
  have hn := List.nodup_cons.mp h4
  have hno : ∀ x ∈ A1 ++ A, x ∉ [b] := fun x hx hc => by
    rw [List.mem_singleton] at hc
    rw [hc] at hx
    exact hn.1 hx
  have h2' := TrIs.snoc (TrIs.frame bs h2 fun x hx => hno x (List.mem_append_left _ hx)) (TrI.let_ (H := H') c)
  rw [List.append_nil] at h2'
  exact ⟨_, A1, A, e, h2', Ctx.frame bs h3 fun x hx => hno x (List.mem_append_right _ hx), h4, h5⟩
/-- a bracket closed -/
theorem Bld.close {N : Addr → Prop} {H : Hp} {b : Addr} {bs : List Addr} {fs : List (List Nd × Nat)} {cur ds0 : List Nd} {o : Nat} (B : Bld N H b bs ((ds0, o) :: fs) cur) : ∃ b0 bs0, bs = b0 :: bs0 ∧ Bld N H b0 bs0 fs (ds0 ++ [.br o cur]) := by
  obtain ⟨xs, A1, A, h1, h2, h3, h4, h5⟩ := B.ex
  cases h3 with
  | @cons _ b0 t bs0 _ A' A0 xs0 _ _ k1 k2 k3 k4 =>
    refine ⟨b0, bs0, rfl, ⟨xs0 ++ [.ref t], A0 ++ (b :: A1), A', k1, TrIs.snoc k2 (.br k3 h1 h2), k4, ?_, ?_⟩⟩
    · refine List.Perm.nodup (List.perm_iff_count.mpr fun a => ?_) h4
      simp only [List.count_cons, List.count_append]
      omega
    · intro x hx
      refine h5 x ?_
      simp only [List.mem_cons, List.mem_append] at hx ⊢
      rcases hx with rfl | ((hx | rfl | hx) | hx)
      · exact .inr (.inr (.inl rfl))
      · exact .inr (.inr (.inr (.inl hx)))
      · exact .inl rfl
      · exact .inr (.inl hx)
      · exact .inr (.inr (.inr (.inr hx)))
/-! ### what the text tells -/
def nstep (s : List (List Nd × Nat) × List Nd) (c : Nat) : List (List Nd × Nat) × List Nd :=
  if c ∈ CLO then (match s.1 with | (ds, o) :: fs => (fs, ds ++ [.br o s.2]) | [] => s) else if c ∈ OPN then ((s.2, c) :: s.1, []) else (s.1, s.2 ++ [.let_ c])
def nst (l : List Nat) : List (List Nd × Nat) × List Nd := l.foldl nstep ([], [])
theorem nst_snoc (l : List Nat) (c : Nat) : nst (l ++ [c]) = nstep (nst l) c := by
  unfold nst
  rw [List.foldl_append]
  rfl
/-- the frames are the pile -/
theorem fold_nst : ∀ (l st : List Nat) (fs : List (List Nd × Nat)) (cur : List Nd) (r : List Nat), st = fs.map (fun p => oth p.2) → l.foldl stp (some st) = some r → r = (l.foldl nstep (fs, cur)).1.map fun p => oth p.2
  | [], st, fs, cur, r, h, e => by
    cases e
    exact h
  | c :: l, st, fs, cur, r, h, e => by
    rw [List.foldl_cons] at e ⊢
    by_cases h1 : c ∈ OPN
    · have h2 : c ∉ CLO := opn_clo c h1
      rw [stp_opn h1] at e
      have en : nstep (fs, cur) c = ((cur, c) :: fs, []) := by unfold nstep; rw [if_neg h2, if_pos h1]
      rw [en]
      exact fold_nst l _ _ _ r (by rw [h]; rfl) e
    · by_cases h2 : c ∈ CLO
      · cases fs with
        | nil =>
          subst h
          have e0 : stp (some (List.map (fun p : List Nd × Nat => oth p.2) [])) c = none := by
            show stp (some []) c = none
            unfold stp
            simp only [h1, h2, if_true, if_false]
          rw [e0, fold_none] at e
          cases e
        | cons f fs =>
          obtain ⟨ds, o⟩ := f
          subst h
          by_cases hd : oth o = c
          · have e0 : stp (some (List.map (fun p : List Nd × Nat => oth p.2) ((ds, o) :: fs))) c = some (fs.map fun p => oth p.2) := by
              show stp (some (oth o :: fs.map fun p => oth p.2)) c = _
              rw [hd, stp_clo h2]
            rw [e0] at e
            have en : nstep ((ds, o) :: fs, cur) c = (fs, ds ++ [.br o cur]) := by unfold nstep; rw [if_pos h2]
            rw [en]
            exact fold_nst l _ _ _ r rfl e
          · have e0 : stp (some (List.map (fun p : List Nd × Nat => oth p.2) ((ds, o) :: fs))) c = none := by
              show stp (some (oth o :: fs.map fun p => oth p.2)) c = none
              unfold stp
              simp only [h1, h2, hd, if_true, if_false]
            rw [e0, fold_none] at e
            cases e
      · rw [stp_let h1 h2] at e
        have en : nstep (fs, cur) c = (fs, cur ++ [.let_ c]) := by unfold nstep; rw [if_neg h2, if_neg h1]
        rw [en]
        exact fold_nst l _ _ _ r h e
theorem nst_run {l st : List Nat} (h : run l = some st) : st = (nst l).1.map fun p => oth p.2 := fold_nst l [] [] [] st rfl h
/-- a closing bracket in a clean text closes one -/
theorem nst_clo {l pre post : List Nat} {c : Nat} (h : clean l) (e : l = pre ++ c :: post) (hc : c ∈ CLO) : ∃ ds o fs, (nst pre).1 = (ds, o) :: fs ∧ oth o = c := by
  have h1 : c ∉ OPN := fun h1 => opn_clo c h1 hc
  have h' : run (pre ++ c :: post) = some [] := by rw [← e]; exact h
  rw [run_app, List.foldl_cons] at h'
  cases hr : run pre with
  | none =>
    rw [hr] at h'
    have : stp none c = none := rfl
    rw [this, fold_none] at h'
    cases h'
  | some st =>
    have hst := nst_run hr
    rw [hr] at h'
    cases hf : (nst pre).1 with
    | nil =>
      rw [hf] at hst
      subst hst
      have e0 : stp (some (List.map (fun p : List Nd × Nat => oth p.2) [])) c = none := by
        show stp (some []) c = none
        unfold stp
        simp only [h1, hc, if_true, if_false]
      rw [e0, fold_none] at h'
      cases h'
    | cons f fs =>
      obtain ⟨ds, o⟩ := f
      rw [hf] at hst
      refine ⟨ds, o, fs, rfl, ?_⟩
      by_cases hd : oth o = c
      · exact hd
      · exfalso
        subst hst
        have e0 : stp (some (List.map (fun p : List Nd × Nat => oth p.2) ((ds, o) :: fs))) c = none := by
          show stp (some (oth o :: fs.map fun p => oth p.2)) c = none
          unfold stp
          simp only [h1, hc, hd, if_true, if_false]
        rw [e0, fold_none] at h'
        cases h'
end Ly
namespace Ly
end Ly
namespace Ly
end Ly

set_option maxHeartbeats 4000000
namespace Ly
open PySem PySem.Spec PyProof.Rows L2 SX
/-! ### == and != of deep data -/
section
variable {X : Cx}
end
/-! nests as data -/
end Ly
namespace Ly
open PySem PySem.Spec PyProof.Rows L2 SX
end Ly
namespace Ly
open PySem PySem.Spec PyProof.Rows L2 SX
end Ly
namespace Ly
end Ly

set_option maxHeartbeats 4000000
namespace Ly
open PySem PySem.Spec PyProof.Rows L2 SX
/-! ### more steps -/
theorem kb_str_str : kitB "str" "str" = some true := by decide +kernel
theorem kb_str_int : kitB "str" "int" = some false := by decide +kernel
theorem kb_str_bool : kitB "str" "bool" = some false := by decide +kernel
theorem kb_str_list : kitB "str" "list" = some false := by decide +kernel
theorem kb_str_tuple : kitB "str" "tuple" = some false := by decide +kernel
theorem kb_int_str : kitB "int" "str" = some false := by decide +kernel
theorem kb_int_int : kitB "int" "int" = some true := by decide +kernel
theorem kb_int_bool : kitB "int" "bool" = some false := by decide +kernel
theorem kb_int_list : kitB "int" "list" = some false := by decide +kernel
theorem kb_int_tuple : kitB "int" "tuple" = some false := by decide +kernel
theorem kb_bool_str : kitB "bool" "str" = some false := by decide +kernel
theorem kb_bool_int : kitB "bool" "int" = some true := by decide +kernel
theorem kb_bool_bool : kitB "bool" "bool" = some true := by decide +kernel
theorem kb_bool_list : kitB "bool" "list" = some false := by decide +kernel
theorem kb_bool_tuple : kitB "bool" "tuple" = some false := by decide +kernel
theorem kb_list_str : kitB "list" "str" = some false := by decide +kernel
theorem kb_list_int : kitB "list" "int" = some false := by decide +kernel
theorem kb_list_bool : kitB "list" "bool" = some false := by decide +kernel
theorem kb_list_list : kitB "list" "list" = some true := by decide +kernel
theorem kb_list_tuple : kitB "list" "tuple" = some false := by decide +kernel
theorem kb_tuple_str : kitB "tuple" "str" = some false := by decide +kernel
theorem kb_tuple_int : kitB "tuple" "int" = some false := by decide +kernel
theorem kb_tuple_bool : kitB "tuple" "bool" = some false := by decide +kernel
theorem kb_tuple_list : kitB "tuple" "list" = some false := by decide +kernel
theorem kb_tuple_tuple : kitB "tuple" "tuple" = some true := by decide +kernel
theorem kb_NoneType_str : kitB "NoneType" "str" = some false := by decide +kernel
theorem kb_NoneType_int : kitB "NoneType" "int" = some false := by decide +kernel
theorem kb_NoneType_bool : kitB "NoneType" "bool" = some false := by decide +kernel
theorem kb_NoneType_list : kitB "NoneType" "list" = some false := by decide +kernel
theorem kb_NoneType_tuple : kitB "NoneType" "tuple" = some false := by decide +kernel
theorem kb_dict_str : kitB "dict" "str" = some false := by decide +kernel
theorem kb_dict_int : kitB "dict" "int" = some false := by decide +kernel
theorem kb_dict_bool : kitB "dict" "bool" = some false := by decide +kernel
theorem kb_dict_list : kitB "dict" "list" = some false := by decide +kernel
theorem kb_dict_tuple : kitB "dict" "tuple" = some false := by decide +kernel
section
variable {K : PySem.W.Frag} {σ : L2.St} {H : Hp} {Q : VK} {A B : Prop} {p a : Addr} {xs : List V} {v : V} {i : Int}
theorem g_T (q : A) : ∃ k, V.bl true = V.bl k ∧ if k = true then A else B := ⟨true, rfl, by rw [if_pos rfl]; exact q⟩
theorem g_F (q : B) : ∃ k, V.bl false = V.bl k ∧ if k = true then A else B := ⟨false, rfl, by rw [if_neg Bool.false_ne_true]; exact q⟩
theorem g_NT (q : B) : ∃ k, V.bl true = V.bl k ∧ if (!k) = true then A else B := ⟨true, rfl, q⟩
theorem g_NF (q : A) : ∃ k, V.bl false = V.bl k ∧ if (!k) = true then A else B := ⟨false, rfl, q⟩
theorem g_nT (q : A) : ∃ k, V.bl (!true) = V.bl k ∧ if k = true then B else A := ⟨false, rfl, q⟩
theorem g_nF (q : B) : ∃ k, V.bl (!false) = V.bl k ∧ if k = true then B else A := ⟨true, rfl, q⟩
theorem g_Td {c : Prop} [Decidable c] (h : c) (q : A) : ∃ k, V.bl (decide c) = V.bl k ∧ if k = true then A else B := by rw [decide_eq_true h]; exact g_T q
theorem g_Fd {c : Prop} [Decidable c] (h : ¬ c) (q : B) : ∃ k, V.bl (decide c) = V.bl k ∧ if k = true then A else B := by rw [decide_eq_false h]; exact g_F q
theorem g_NTd {c : Prop} [Decidable c] (h : c) (q : B) : ∃ k, V.bl (decide c) = V.bl k ∧ if (!k) = true then A else B := by rw [decide_eq_true h]; exact g_NT q
theorem g_NFd {c : Prop} [Decidable c] (h : ¬ c) (q : A) : ∃ k, V.bl (decide c) = V.bl k ∧ if (!k) = true then A else B := by rw [decide_eq_false h]; exact g_NF q
theorem g_nTd {c : Prop} [Decidable c] (h : c) (q : B) : ∃ k, V.bl (!decide c) = V.bl k ∧ if k = true then A else B := by rw [decide_eq_true h]; exact g_F q
theorem g_nFd {c : Prop} [Decidable c] (h : ¬ c) (q : A) : ∃ k, V.bl (!decide c) = V.bl k ∧ if k = true then A else B := by rw [decide_eq_false h]; exact g_T q
/-- a test that is told as a truth R of its answer -/
theorem g_RT {R : Bool → Hp → Prop} (q : R true H) : ∃ k, V.bl true = V.bl k ∧ R k H := ⟨_, rfl, q⟩
theorem g_RF {R : Bool → Hp → Prop} (q : R false H) : ∃ k, V.bl false = V.bl k ∧ R k H := ⟨_, rfl, q⟩
theorem g_RTd {c : Prop} [Decidable c] {R : Bool → Hp → Prop} (h : c) (q : R true H) : ∃ k, V.bl (decide c) = V.bl k ∧ R k H := ⟨_, rfl, by rw [decide_eq_true h]; exact q⟩
theorem g_RFd {c : Prop} [Decidable c] {R : Bool → Hp → Prop} (h : ¬ c) (q : R false H) : ∃ k, V.bl (decide c) = V.bl k ∧ R k H := ⟨_, rfl, by rw [decide_eq_false h]; exact q⟩
theorem g_eqS {x : V} (h : scal x x = true) (q : Q (.bl true) H) : rEq x x H Q := ⟨h, by rw [decide_eq_true rfl]; exact q⟩
theorem g_neS {x : V} (h : scal x x = true) (q : Q (.bl false) H) : rNe x x H Q := ⟨h, by rw [decide_eq_true rfl]; exact q⟩
theorem g_ixAU3 (h : H p = some (.tup xs)) (h1 : atI xs i = some v) (q : Q v H) : rIx K (.ref p) (.int i) H Q := .inr (.inl (g_ixU (st_of h) h1 q))
theorem g_ixAL3 (h : H p = some (.lst xs)) (h1 : atI xs i = some v) (q : Q v H) : rIx K (.ref p) (.int i) H Q := .inl (g_ixL (sq_of h) h1 q)
theorem g_ixU3 (h : H p = some (.tup xs)) (h1 : atI xs i = some v) (q : Q v H) : rIxT K (.ref p) (.int i) H Q := g_ixU (st_of h) h1 q
theorem g_lenL3 (h : H p = some (.lst xs)) (q : Q (.int xs.length) H) : rLenL K [.ref p] H Q := g_lenL (sq_of h) q
theorem g_lenU3 (h : H p = some (.tup xs)) (q : Q (.int xs.length) H) : rLenL K [.ref p] H Q := g_lenU (st_of h) q
theorem ty_non : TyX K H .non (.type "NoneType") := .base .non
theorem g_tyL3 (h : H p = some (.lst xs)) (q : A) : tyV K "list" (.ref p) H ∧ A := ⟨g_tyL (sq_of h), q⟩
end
end Ly

set_option maxHeartbeats 4000000
namespace Ly
open PySem PySem.Spec PyProof.Rows L2 SX
/-! ### outlines -/
theorem Bld.closes {N : Addr → Prop} {H : Hp} {l : List Nat} (hc : clean l) : ∀ (cl pre post : List Nat) (b : Addr) (bs : List Addr), l = pre ++ (cl ++ post) → (∀ d ∈ cl, d ∈ CLO) → Bld N H b bs (nst pre).1 (nst pre).2 →
    ∃ b' bs', (b :: bs).drop cl.length = b' :: bs' ∧ Bld N H b' bs' (nst (pre ++ cl)).1 (nst (pre ++ cl)).2
  | [], pre, post, b, bs, e, h, B => ⟨b, bs, rfl, by rw [List.append_nil]; exact B⟩
  | c :: cl, pre, post, b, bs, e, h, B => by
    have hk := h c (List.mem_cons_self ..)
    obtain ⟨ds, o, fs, hf, _⟩ := nst_clo (post := cl ++ post) hc e hk
    rw [hf] at B
    obtain ⟨b0, bs0, rfl, B0⟩ := B.close
    have en : nst (pre ++ [c]) = (fs, ds ++ [.br o (nst pre).2]) := by
      rw [nst_snoc]
      unfold nstep
      rw [if_pos hk, hf]
    obtain ⟨b', bs', h1, h2⟩ := Bld.closes hc cl (pre ++ [c]) post b0 bs0 (by rw [e]; simp) (fun d hd => h d (List.mem_cons_of_mem _ hd)) (by rw [en]; exact B0)
    refine ⟨b', bs', by simpa using h1, ?_⟩
    rw [show pre ++ c :: cl = pre ++ [c] ++ cl by simp]
    exact h2
/-! ### text.split(sign) -/
section
variable {X : Cx}
end
end Ly

set_option maxHeartbeats 4000000
namespace Ly
open PySem PySem.Spec PyProof.Rows L2 SX
/-! ### sorted(text) -/
section
variable {prog : Program} {w : World} {A : Around} {E : Value → Shared → Prop} {s : Shared}
theorem collect_signs {Q : List Value → Shared → Prop} (hh : A.handled = none) (x : Str) (t : Tok) (hn : x.cps.size ≤ sizeLine)
    (hQ : ∀ (h' : Heap) (tk : Nat) (acc : Array Value), (∀ b o, s.heap.get? b = some o → h'.get? b = some o) → s.heap.objs.size ≤ h'.objs.size → ItemsOf (SignAt x) acc x.cps.size → Q acc.toList { s with heap := h', toks := tk }) :
    wpAny (model prog w) A (collect (.str x t)) Q E s := by
  unfold collect
  refine wpAny_bind (wpAny_runValue (codeAny_builtin F.entry_proto_collect ?_))
  rw [Around.under_plainId F.plain_proto_collect _]
  show wpAny _ A.in1 (newList [] >>= fun l => again (.builtin "list.__iadd__" ⟨[l, .str x t], []⟩)) _ _ s
  refine wpAny_bind (wpAny_newObj_type ?_)
  refine wpAny_pure ⟨plainId_quiet F.plain_list_iadd _, codeAny_builtin F.entry_list_iadd ?_⟩
  rw [Around.under_plainId F.plain_list_iadd _]
  show wpAny _ A.in1 (Builtin.List.listExtendWith (.ref s.heap.objs.size) (.str x t) (.ref s.heap.objs.size)) _ _ _
  have hS : (s.heap.push { cls := .type "list", data := .seq ([] : List Value).toArray }).get? s.heap.objs.size = some { cls := .type "list", data := .seq #[] 0 } := Heap.get?_push_size _ rfl
  refine wpAny_mono (wpAny_extend_str (A := A) (R := fun rr s' => rr = .ok (.ret (.ref s.heap.objs.size)) ∧ ∃ (h' : Heap) (tk : Nat) (acc : Array Value) (c' : Nat), s' = { s with heap := h', toks := tk } ∧
      (∀ b o, s.heap.get? b = some o → h'.get? b = some o) ∧ h'.get? s.heap.objs.size = some { cls := .type "list", dict := none, data := .seq acc c', slots := #[] } ∧ ItemsOf (SignAt x) acc x.cps.size)
    (s := { s with heap := s.heap.push { cls := .type "list", data := .seq ([] : List Value).toArray } }) hh x t _ _ 0 hS
    (fun h' tk acc c' hk e hi => ⟨rfl, h', tk, acc, c', rfl, fun b o q => hk b o (Nat.ne_of_lt (Heap.lt_size q)) (Heap.get?_push_of_some _ q), e, hi⟩) hn) (fun fin s' h => ?_) (fun e s' h => ?_)
  · cases fin with
    | done f =>
      obtain ⟨e, h', tk, acc, c', rfl, hk, hS', hi⟩ := h
      cases e
      show wpAny _ A (load s.heap.objs.size >>= _) _ _ _
      exact wpAny_bind (wpAny_load hS' (wpAny_pure (hQ h' tk acc hk (Nat.le_of_lt (Heap.lt_size hS')) hi)))
    | again c' =>
      refine ⟨h.1, codeAny_mono h.2 fun rr s'' hr' => ?_⟩
      obtain ⟨rfl, h', tk, acc, c', rfl, hk, hS', hi⟩ := hr'
      show wpAny _ A (load s.heap.objs.size >>= _) _ _ _
      exact wpAny_bind (wpAny_load hS' (wpAny_pure (hQ h' tk acc hk (Nat.le_of_lt (Heap.lt_size hS')) hi)))
  · exact absurd h.1 (by simp)
theorem sorted_signs {Q : Value → Shared → Prop} (hh : A.handled = none) (x : Str) (t : Tok) (hn : x.cps.size ≤ sizeLine)
    (h : ∀ (h' : Heap) (tk : Nat) (a : Addr) (acc out : Array Value) (e : Nat), (∀ b o, s.heap.get? b = some o → h'.get? b = some o) → s.heap.objs.size ≤ a → ItemsOf (SignAt x) acc x.cps.size → (∃ ss ss', StrsAre acc.toList ss ∧ StrsAre out.toList ss' ∧ ss'.Perm ss) → h'.get? a = some (seqObj "list" out e) → Q (.ref a) { s with heap := h', toks := tk }) :
    wpAny (model prog w) A (call (.builtin "sorted") [.str x t]) Q E s := by
  refine Calls.call_function_entry kind_sorted plain_sorted entry_sorted (args_sorted1 _) ?_
  unfold Builtin.«sorted»
  refine wpAny_bind (m := checkCount "sorted" 1 1 _) (wpAny_pure ?_)
  refine wpAny_bind (collect_signs (by exact hh) x t hn fun h1 tk acc hk hlt hi => ?_)
  have hL : acc.toList.length ≤ sizeLine := by rw [Array.length_toList, hi.1]; exact hn
  refine wpAny_bind (wpAny_newList ?_ hL)
  have hoL : (h1.push (seqObj "list" acc.toList.toArray 0)).get? h1.objs.size = some (seqObj "list" acc.toList.toArray 0) := Heap.get?_push_size _ rfl
  have hall : ∀ v, v ∈ acc.toList → ∃ x t, v = .str x t := by
    intro v hv
    obtain ⟨j, hj⟩ := List.getElem?_of_mem hv
    obtain ⟨c, u, e1, e2⟩ := hi.2 j v (by simpa using hj)
    exact ⟨_, _, e2⟩
  have hS := strsAre_map acc.toList hall
  refine wpAny_bind (wpAny_holding (wpAny_call_entry slot_list_sort ⟨_, hoL, rfl⟩ entry_list_sort (list_sort_treeKAny strKind_oneLt hoL hS.keysOf (fun v₁ v₂ rest e => keyKind_strs (by rw [← e]; exact hS)) hL fun st' hp hs => ⟨_, rfl, ?_⟩) (args_list_sort _)))
  obtain ⟨ss', h1', h2', h3'⟩ := sorted_out_str hS hp hs
  obtain ⟨e, he⟩ := sortedHeap_at (vs := acc.toList) (out := (arrOf st').map (·.2)) hoL
  refine wpAny_pure ⟨_, rfl, h _ tk h1.objs.size acc _ e (fun b o q => ?_) hlt hi ⟨_, ss', hS, h1', h2'⟩ he⟩
  rw [sortedHeap_old (Nat.ne_of_lt (Heap.lt_size (hk b o q))) (by rw [size_push']; exact Nat.lt_succ_of_lt (Heap.lt_size (hk b o q))), Heap.get?_push_of_some _ (hk b o q)]
end
section
variable {X : Cx}
def rSortedT : List V → Hp → VK → Prop := fun xs H Q => ∃ l : List Nat, xs = [Tx l] ∧ l.length ≤ 100000 ∧ ∀ (l' : List Nat) (p : Addr) (H1 : Hp), l'.Perm l → H p = none → Same H H1 → H1 p = some (.lst (sgV l')) → Q (.ref p) H1
theorem sgV_str (l : List Nat) : sgV l = (l.map fun c => S [c]).map V.str := by
  unfold sgV
  rw [List.map_map]
  rfl
theorem call_sortedT (hc : X.calm = true) : CallR X (.builtin "sorted") rSortedT := by
  intro pins s σ H xs us Q I r h
  obtain ⟨l, rfl, hl, q⟩ := h
  obtain ⟨u, rfl, t, rfl⟩ := vals1 r
  have hs : (S l).cps.size ≤ sizeLine := by
    have e : (S l).cps.size = l.length := by simp
    rw [e]
    exact Nat.le_trans hl (by decide)
  refine sorted_signs (I.ok.hd hc) (S l) t hs fun h' tk a acc out e hk hle hi hss he => ?_
  obtain ⟨ss, ss', h1, h2, h3⟩ := hss
  have hv := vals_signs hi
  rw [sgV_str] at hv
  have e1 : ss = l.map fun c => S [c] := by
    rw [← StrsAre.strs h1, ← StrsAre.strs hv.strs]
  subst e1
  have e2 : ss' = (ss'.map fun z => z.cps.toList.headD 0).map fun c => S [c] := by
    rw [List.map_map]
    refine (List.map_id' ss').symm.trans (List.map_congr_left fun z hz => ?_)
    obtain ⟨c, _, rfl⟩ := List.mem_map.mp (h3.mem_iff.mp hz)
    rfl
  have h4 : (ss'.map fun z => z.cps.toList.headD 0).Perm l := by
    have := h3.map fun z => z.cps.toList.headD 0
    rw [List.map_map] at this
    refine this.trans (List.Perm.of_eq ?_)
    refine (List.map_congr_left (g := id) fun c hc => rfl).trans (List.map_id l)
  have hvo := vals_of_strs h2
  rw [e2, ← sgV_str] at hvo
  refine ⟨.ref a, upd H a (.lst (sgV (ss'.map fun z => z.cps.toList.headD 0))), I.laid (t' := tk) hk hle (show ObjOk X.prog X.w _ h' _ (.lst (sgV _)) from ⟨?_, out.toList, e, hvo, by simpa using he⟩), rfl, q _ a _ h4 (I.hok.fresh hle) (Same.new (I.hok.fresh hle)) upd_same⟩
  unfold sgV
  rw [List.length_map, h4.length_eq]
  exact Nat.le_trans hl (by decide)
theorem g_sortedT {l : List Nat} {H : Hp} {Q : VK} (h : l.length ≤ 100000) (q : ∀ (l' : List Nat) (p : Addr) (H1 : Hp), l'.Perm l → H p = none → Same H H1 → H1 p = some (.lst (sgV l')) → Q (.ref p) H1) : rSortedT [Tx l] H Q := ⟨l, rfl, h, q⟩
end
end Ly

set_option maxHeartbeats 4000000
namespace Ly
open PySem PySem.Spec PyProof.Rows L2 SX
/-! ### text[::-1] -/
section
variable {X : Cx}
def rRevT (x : V) (H : Hp) (Q : VK) : Prop := ∃ l : List Nat, x = Tx l ∧ l.length ≤ 100000 ∧ Q (Tx l.reverse) H
def tRevS (te : TE) : TE := fun σ H Q => te σ H fun x H1 => rRevT x H1 Q
theorem g_revT {l : List Nat} {H : Hp} {Q : VK} (h : l.length ≤ 100000) (q : Q (Tx l.reverse) H) : rRevT (Tx l) H Q := ⟨l, rfl, h, q⟩
theorem rev_pick (l : List Nat) : (⟨((Builtin.Str.strSliceIndices none none (-1) (S l).length).filterMap ((S l).cps[·]?)).toArray⟩ : Str) = S l.reverse := by
  rw [S_len, picked_rev]
  have h1 : (List.range l.length).map (fun k => l.length - 1 - k) = (List.range l.length).reverse := by
    refine List.ext_getElem? fun i => ?_
    by_cases hi : i < l.length
    · rw [List.getElem?_map, List.getElem?_range hi, List.getElem?_reverse (by simpa using hi), List.length_range, List.getElem?_range (by omega)]
      rfl
    · rw [List.getElem?_eq_none (by simpa using hi), List.getElem?_eq_none (by simpa using hi)]
  have h2 : (List.range l.length).filterMap (fun i => (S l).cps[i]?) = l := by
    have : ∀ n, n ≤ l.length → (List.range n).filterMap (fun i => (S l).cps[i]?) = l.take n := by
      intro n
      induction n with
      | zero => intro _; rfl
      | succ n ih =>
        intro hn
        rw [List.range_succ, List.filterMap_append, ih (by omega), List.take_succ_eq_append_getElem (by omega)]
        have e : (S l).cps[n]? = some l[n] := by simp [show n < l.length by omega]
        rw [List.filterMap_cons, e]
        rfl
    rw [this l.length (Nat.le_refl _), List.take_length]
  rw [h1, List.filterMap_reverse, h2]
theorem pe_revS {e : Expr} {te : TE} {k : Nat} {p1 p2 p3 pos : Pos} (he : PE X e te) : PE X (.Subscript e (.Slice none none (some (.UnaryOp .USub (.Constant (.int 1) k p1) p2)) p3) pos) (tRevS te) := by
  refine ⟨fun pins s σ H Q I h => ?_⟩
  refine Subscript_ (thn (he.run pins s σ H _ I h) fun v s1 ⟨x, H1, I1, r1, q1⟩ => ?_)
  obtain ⟨l, ex, hx, q⟩ := q1
  subst ex
  obtain ⟨t, rfl⟩ := r1
  have hst : PO X (some (.UnaryOp .USub (.Constant (.int 1) k p1) p2)) (tPart (tUn (rU fun i => .int (-i)) (tC (.int 1)))) := po_some (pe_un un_neg pe_int)
  refine wpAny_Slice (thn (po_none.run pins s1 σ H1 (fun o H2 => o = none ∧ H2 = H1) I1 ⟨rfl, rfl⟩) fun vl s2 ⟨l1, H2, I2, pl, el, e2⟩ => ?_)
  subst el e2
  refine thn (po_none.run pins s2 σ H2 (fun o H3 => o = none ∧ H3 = H2) I2 ⟨rfl, rfl⟩) fun vu s3 ⟨u, H3, I3, pu, eu, e3⟩ => ?_
  subst eu e3
  refine thn (hst.run pins s3 σ H3 (fun o H4 => o = some (-1) ∧ H4 = H3) I3 ⟨1, rfl, -1, rfl, rfl, rfl⟩) fun vs s4 ⟨o, H4, I4, ps, eo, e4⟩ => ?_
  subst eo e4
  have I5 : Inv X pins σ H4 { s4 with heap := s4.heap.push { cls := .type "slice", data := .fields #[vl, vu, vs] } } := I4.kept (t' := s4.toks) fun b ob q => Heap.get?_push_of_some _ q
  obtain ⟨a1, rfl, ea1⟩ := IsPart.raw pl
  obtain ⟨a2, rfl, ea2⟩ := IsPart.raw pu
  obtain ⟨a3, rfl, ea3⟩ := IsPart.raw ps
  show wpAny (model X.prog X.w) X.A (subscriptTail e (.Slice none none (some (.UnaryOp .USub (.Constant (.int 1) k p1) p2)) p3) (.str (S l) t) (.ref s4.heap.objs.size)) (EP X pins σ Q) X.xe { s4 with heap := s4.heap.push { cls := .type "slice", data := .fields #[partValue a1, partValue a2, partValue a3] } }
  refine tail_any (ops := [.str (S l) t, .ref s4.heap.objs.size]) (typeIs_str _ _ _) (F.slot_str_getitem.lookup) ?_ (by with_unfolding_all rfl)
  refine wpAny_getItem_str_slice (l := a1) (u := a2) (st := a3) ⟨_, Heap.get?_push_size _ rfl, rfl, rfl⟩ ?_ ?_
  · rw [ea3]; rfl
  unfold sliceMade slicePicked
  rw [ea1, ea2, ea3]
  have e1 : ((some (-1) : Option Int).getD 1 == 1) = false := rfl
  rw [e1, Bool.false_and, if_neg Bool.false_ne_true]
  show Made.post (Made.str ⟨((Builtin.Str.strSliceIndices none none (-1) (S l).length).filterMap ((S l).cps[·]?)).toArray⟩) (EP X pins σ Q) _
  rw [rev_pick]
  refine ⟨?_, Tx l.reverse, H4, I5.tok _, ⟨_, rfl⟩, q⟩
  show (S l.reverse).length ≤ sizeLine
  rw [S_len, List.length_reverse]
  exact Nat.le_trans hx (by decide)
/-- a[b] where a wants a token -/
theorem pet_ix {a b : Expr} {ta tb : TE} {pos : Pos} {r : R2} (hr : IxR X r) (ha : PET X a ta) (hb : PE X b tb) (hs : PlainIx b) : PET X (.Subscript a b pos) (tOp r ta tb) := by
  intro pins s σ H Q h0 I h
  exact Subscript_ (thn (ha pins s σ H _ h0 I h) fun v s1 ⟨x, H1, I1, r1, q1⟩ => thn (hb.run pins s1 σ H1 _ I1 q1) fun u s2 ⟨y, H2, I2, r2, q2⟩ => hr a b pins s2 σ H2 x y v u Q I2 r1 r2 q2 (hs _ _))
def rReplT (y z : List Nat) (x : V) (H : Hp) (Q : VK) : Prop := ∃ l : List Nat, x = Tx l ∧ l.length ≤ 1000 ∧ z.length ≤ 10 ∧ Q (.str (Txt.replace (S l) (S y) (S z))) H
def tReplT (to : TE) (y z : List Nat) : TE := fun σ H Q => to σ H fun v H1 => rReplT y z v H1 Q
theorem pet_replL {o : Expr} {to : TE} {j k : Nat} {c0 c1 apos pos : Pos} {y z : Str} {ly lz : List Nat} (ey : y = S ly) (ez : z = S lz) (ho : PE X o to) (hyz : (y == z) = false)
    (hst : starEach [.Constant (.str y) j c0, .Constant (.str z) k c1] X.env = [(false, eval (.Constant (.str y) j c0) X.env), (false, eval (.Constant (.str z) k c1) X.env)] := by rfl)
    (hbase : attributeBase o "replace" X.env (eval o X.env) = eval o X.env := by rfl) (hline : (apos.endLine == pos.line) = true := by rfl) :
    PET X (.Call (.Attribute o "replace" apos) [.Constant (.str y) j c0, .Constant (.str z) k c1] [] pos) (tReplT to ly lz) := by
  subst ey ez
  intro pins s σ H Q h0 I h
  refine PySem.Call_method2 hbase hst hline (wpAny_mono (PySem.wpAny_toks (ho.run pins s σ H _ I h)) (fun v s1 q => ?_) fun _ _ z => z.2)
  obtain ⟨hk, v', H1, I1, r1, l, e1, hb1, hb2, q⟩ := q
  subst e1
  obtain ⟨tx, e2⟩ := r1
  subst e2
  refine ⟨"str", _, PySem.F.plainAttrs_str, PySem.F.slot_str_replace, PySem.F.type_str_replace, typeIs_str _ _ _, (fun _ e => nomatch e), Calls.callWith_builtin rfl (Calls.evalArgs_plain (Calls.spliced_cons ?_))⟩
  refine Calls.Constant_str (Calls.spliced_cons (Calls.Constant_str (Calls.spliced_nil ?_)))
  have hb : (S l).length + ((S l).length + 1) * (S lz).length ≤ 16777216 := by
    rw [S_len, S_len]
    have : (l.length + 1) * lz.length ≤ 1001 * 10 := Nat.mul_le_mul (by omega) hb2
    omega
  exact PySem.SC.replace (by show s1.toks ≠ 0; omega) (by show s1.toks + 1 ≠ 0; omega) (by show s1.toks ≠ s1.toks + 1; omega) hyz hb fun t' k => ⟨.str (Txt.replace (S l) (S ly) (S lz)), H1, I1.tok k, ⟨t', rfl⟩, q⟩
end
end Ly
namespace Ly
open PySem PySem.Spec PyProof.Rows L2 SX PySem.StrLaws
theorem replL_one {a b : Nat} : ∀ l : List Nat, replL [a] [b] l = l.map fun c => if c = a then b else c
  | [] => replL_nil
  | c :: r => by
    by_cases h : c = a
    · rw [replL_hit (by simp) (by simp [h]), List.map_cons, if_pos h]
      show [b] ++ replL [a] [b] r = _
      rw [replL_one r]
      rfl
    · rw [replL_miss (by simpa using h), replL_one r, List.map_cons, if_neg h]
theorem replace_one {a b : Nat} {l : List Nat} : Txt.replace (S l) (S [a]) (S [b]) = S (l.map fun c => if c = a then b else c) := by
  refine TL.ext_tl ?_
  have e := replace_list (x := S l) (y := S [a]) (z := S [b]) (by rw [S_len]; exact Nat.le_refl 1)
  exact e.trans (replL_one l)
end Ly

set_option maxHeartbeats 4000000
namespace Ly
/-! ### least numbers of deeds: strikes and turns -/
/-- how many of two brackets are to be turned -/
def tns (c d : Nat) : Nat := if c ∈ CLO ∨ d ∈ OPN then (if c ∈ CLO then 1 else 0) + (if d ∈ OPN then 1 else 0) else if knd c = knd d then 0 else 1
inductive Mn (l : List Nat) : Nat → Nat → Nat → Prop
  | nil (i : Nat) : Mn l i i 0
  | let_ {i j n c : Nat} : l[i]? = some c → c ∉ BRK → Mn l (i + 1) j n → Mn l i j n
  | str {i j n c : Nat} : l[i]? = some c → c ∈ BRK → Mn l (i + 1) j n → Mn l i j (n + 1)
  | pair {i m j a b c d : Nat} : l[i]? = some c → c ∈ BRK → l[m]? = some d → d ∈ BRK → Mn l (i + 1) m a → Mn l (m + 1) j b → Mn l i j (tns c d + a + b)
theorem Mn.le {l : List Nat} {i j n : Nat} (h : Mn l i j n) : i ≤ j := by
  induction h with
  | nil i => exact Nat.le_refl _
  | let_ _ _ _ ih => omega
  | str _ _ _ ih => omega
  | pair _ _ _ _ _ _ ih1 ih2 => omega
theorem Mn.self {l : List Nat} {i n : Nat} (h : Mn l i i n) : n = 0 := by
  cases h with
  | nil => rfl
  | let_ _ _ h => have := h.le; omega
  | str _ _ h => have := h.le; omega
  | pair _ _ _ _ h1 h2 => have := h1.le; have := h2.le; omega
theorem Mn.app {l : List Nat} {i m j a b : Nat} (h : Mn l i m a) (h2 : Mn l m j b) : Mn l i j (a + b) := by
  induction h with
  | nil i => rw [Nat.zero_add]; exact h2
  | let_ e1 e2 _ ih => exact .let_ e1 e2 (ih h2)
  | @str i j n c e1 e2 _ ih =>
    rw [show n + 1 + b = n + b + 1 by omega]
    exact .str e1 e2 (ih h2)
  | @pair i m j a b' c d e1 e2 e3 e4 h3 _ _ ih =>
    rw [Nat.add_assoc]
    exact .pair e1 e2 e3 e4 h3 (ih h2)
theorem Mn.one_str {l : List Nat} {i c : Nat} (e : l[i]? = some c) (h : c ∈ BRK) : Mn l i (i + 1) 1 := .str e h (.nil _)
theorem Mn.last {l : List Nat} {i j n : Nat} (h : Mn l i j n) : i < j → ∃ c, l[j - 1]? = some c ∧ ((c ∉ BRK ∧ Mn l i (j - 1) n) ∨ (c ∈ BRK ∧ ((∃ n', n = n' + 1 ∧ Mn l i (j - 1) n') ∨ ∃ m d a b, i ≤ m ∧ m < j - 1 ∧ l[m]? = some d ∧ d ∈ BRK ∧ Mn l i m a ∧ Mn l (m + 1) (j - 1) b ∧ n = tns d c + a + b))) := by
  induction h with
  | nil i => intro h; omega
  | @let_ i j n c e1 e2 h ih =>
    intro hij
    by_cases hj : i + 1 = j
    · subst hj
      have := h.self
      subst this
      exact ⟨c, by simpa using e1, .inl ⟨e2, .nil _⟩⟩
    · obtain ⟨c', h1, h2⟩ := ih (by have := h.le; omega)
      refine ⟨c', h1, ?_⟩
      rcases h2 with ⟨h2, h3⟩ | ⟨h2, ⟨n', rfl, h3⟩ | ⟨m, d, a, b, g1, g2, g3, g4, g5, g6, rfl⟩⟩
      · exact .inl ⟨h2, .let_ e1 e2 h3⟩
      · exact .inr ⟨h2, .inl ⟨n', rfl, .let_ e1 e2 h3⟩⟩
      · exact .inr ⟨h2, .inr ⟨m, d, a, b, by omega, g2, g3, g4, .let_ e1 e2 g5, g6, rfl⟩⟩
  | @str i j n c e1 e2 h ih =>
    intro hij
    by_cases hj : i + 1 = j
    · subst hj
      have := h.self
      subst this
      exact ⟨c, by simpa using e1, .inr ⟨e2, .inl ⟨0, rfl, .nil _⟩⟩⟩
    · obtain ⟨c', h1, h2⟩ := ih (by have := h.le; omega)
      refine ⟨c', h1, ?_⟩
      rcases h2 with ⟨h2, h3⟩ | ⟨h2, ⟨n', rfl, h3⟩ | ⟨m, d, a, b, g1, g2, g3, g4, g5, g6, rfl⟩⟩
      · exact .inl ⟨h2, .str e1 e2 h3⟩
      · exact .inr ⟨h2, .inl ⟨n' + 1, rfl, .str e1 e2 h3⟩⟩
      · exact .inr ⟨h2, .inr ⟨m, d, a + 1, b, by omega, g2, g3, g4, .str e1 e2 g5, g6, by omega⟩⟩
  | @pair i m j a b c d e1 e2 e3 e4 h1 h2 ih1 ih2 =>
    intro hij
    by_cases hj : m + 1 = j
    · subst hj
      have := h2.self
      subst this
      have hm := h1.le
      exact ⟨d, by simpa using e3, .inr ⟨e4, .inr ⟨i, c, 0, a, Nat.le_refl _, by omega, e1, e2, .nil _, by simpa using h1, by omega⟩⟩⟩
    · have hm := h1.le
      obtain ⟨c', g1, g2⟩ := ih2 (by have := h2.le; omega)
      refine ⟨c', g1, ?_⟩
      rcases g2 with ⟨g2, g3⟩ | ⟨g2, ⟨n', rfl, g3⟩ | ⟨m', d', a', b', k1, k2, k3, k4, k5, k6, rfl⟩⟩
      · exact .inl ⟨g2, .pair e1 e2 e3 e4 h1 g3⟩
      · exact .inr ⟨g2, .inl ⟨tns c d + a + n', by omega, .pair e1 e2 e3 e4 h1 g3⟩⟩
      · exact .inr ⟨g2, .inr ⟨m', d', tns c d + a + a', b', by omega, k2, k3, k4, .pair e1 e2 e3 e4 h1 k5, k6, by omega⟩⟩
/-- the least that is so -/
def Lst (P : Nat → Prop) (n : Nat) : Prop := P n ∧ ∀ m, P m → n ≤ m
theorem Lst.ex {P : Nat → Prop} : ∀ n, P n → ∃ n, Lst P n := by
  intro n
  induction n using Nat.strongRecOn with
  | ind n ih =>
    intro h
    by_cases hm : ∃ m, m < n ∧ P m
    · obtain ⟨m, h1, h2⟩ := hm
      exact ih m h1 h2
    · exact ⟨n, h, fun m hp => Nat.le_of_not_lt fun hlt => hm ⟨m, hlt, hp⟩⟩
theorem Lst.uniq {P : Nat → Prop} {n m : Nat} (h1 : Lst P n) (h2 : Lst P m) : n = m := Nat.le_antisymm (h1.2 m h2.1) (h2.2 n h1.1)
open Classical in
noncomputable def lstN (l : List Nat) (i j : Nat) : Nat := if h : ∃ n, Lst (Mn l i j) n then Classical.choose h else 0
theorem Mn.ex (l : List Nat) : ∀ (k i : Nat), i + k ≤ l.length → ∃ n, Mn l i (i + k) n
  | 0, i, _ => ⟨0, .nil _⟩
  | k + 1, i, h => by
    obtain ⟨n, hn⟩ := Mn.ex l k (i + 1) (by omega)
    rw [show i + 1 + k = i + (k + 1) by omega] at hn
    have e : l[i]? = some l[i] := List.getElem?_eq_getElem (by omega)
    by_cases hb : l[i] ∈ BRK
    · exact ⟨n + 1, .str e hb hn⟩
    · exact ⟨n, .let_ e hb hn⟩
theorem lstN_spec {l : List Nat} {i j : Nat} (h1 : i ≤ j) (h2 : j ≤ l.length) : Lst (Mn l i j) (lstN l i j) := by
  have hx : ∃ n, Lst (Mn l i j) n := by
    obtain ⟨n, hn⟩ := Mn.ex l (j - i) i (by omega)
    rw [show i + (j - i) = j by omega] at hn
    exact Lst.ex n hn
  unfold lstN
  rw [dif_pos hx]
  exact Classical.choose_spec hx
theorem lstN_of {l : List Nat} {i j n : Nat} (h1 : i ≤ j) (h2 : j ≤ l.length) (h : Lst (Mn l i j) n) : lstN l i j = n := (lstN_spec h1 h2).uniq h
theorem lstN_self {l : List Nat} {i : Nat} (h : i ≤ l.length) : lstN l i i = 0 := (lstN_spec (Nat.le_refl _) h).1.self
/-! by the first sign -/
/-- what the first sign makes of the entries e -/
def stepL (l : List Nat) (e : Nat → Nat → Int) (i j : Nat) : List Int :=
  match l[i]? with
  | none => []
  | some c => if c ∈ BRK then (1 + e (i + 1) j) :: (List.range (j - i - 1)).filterMap (fun t => match l[i + 1 + t]? with
      | none => none
      | some d => if d ∈ BRK then some (tns c d + e (i + 1) (i + 1 + t) + e (i + 1 + t + 1) j) else none)
    else [e (i + 1) j]
theorem lst_first {l : List Nat} {i j : Nat} (hi : i < j) (hj : j ≤ l.length) : (lstN l i j : Int) ∈ stepL l (fun a b => lstN l a b) i j ∧ ∀ x ∈ stepL l (fun a b => lstN l a b) i j, (lstN l i j : Int) ≤ x := by
  have e : l[i]? = some l[i] := List.getElem?_eq_getElem (by omega)
  have sp := lstN_spec (l := l) (show i ≤ j by omega) hj
  have sp1 := lstN_spec (l := l) (show i + 1 ≤ j by omega) hj
  unfold stepL
  rw [e]
  dsimp only
  by_cases hb : l[i] ∈ BRK
  · rw [if_pos hb]
    generalize hN : lstN l i j = N at sp ⊢
    constructor
    · cases sp.1 with
      | nil => omega
      | let_ e1 e2 _ => rw [e] at e1; exact absurd (Option.some.inj e1 ▸ hb) e2
      | @str _ _ n c e1 e2 h =>
        have h1 := sp1.2 _ h
        have h2 := sp.2 _ (.str e1 e2 sp1.1)
        have : n = lstN l (i + 1) j := by omega
        rw [List.mem_cons]
        left
        omega
      | @pair _ m _ a b c d e1 e2 e3 e4 h1 h2 =>
        have l1 := h1.le
        have l2 := h2.le
        have s1 := lstN_spec (l := l) (show i + 1 ≤ m by omega) (by omega)
        have s2 := lstN_spec (l := l) (show m + 1 ≤ j by omega) hj
        have m1 := s1.2 _ h1
        have m2 := s2.2 _ h2
        have m3 := sp.2 _ (.pair e1 e2 e3 e4 s1.1 s2.1)
        rw [e] at e1
        have ec : l[i] = c := Option.some.inj e1
        rw [List.mem_cons]
        right
        rw [List.mem_filterMap]
        refine ⟨m - (i + 1), List.mem_range.mpr (by omega), ?_⟩
        rw [show i + 1 + (m - (i + 1)) = m by omega, e3]
        dsimp only
        rw [if_pos e4, ec]
        congr 1
        omega
    · intro x hx
      rw [List.mem_cons] at hx
      rcases hx with rfl | hx
      · have := sp.2 _ (.str e hb sp1.1)
        omega
      · rw [List.mem_filterMap] at hx
        obtain ⟨t, ht, hx⟩ := hx
        rw [List.mem_range] at ht
        have e3 : l[i + 1 + t]? = some l[i + 1 + t] := List.getElem?_eq_getElem (by omega)
        rw [e3] at hx
        dsimp only at hx
        by_cases hd : l[i + 1 + t] ∈ BRK
        · rw [if_pos hd] at hx
          have hx' := Option.some.inj hx
          have s1 := lstN_spec (l := l) (show i + 1 ≤ i + 1 + t by omega) (by omega)
          have s2 := lstN_spec (l := l) (show i + 1 + t + 1 ≤ j by omega) hj
          have := sp.2 _ (.pair e hb e3 hd s1.1 s2.1)
          omega
        · rw [if_neg hd] at hx
          cases hx
  · rw [if_neg hb]
    have : lstN l i j = lstN l (i + 1) j := by
      refine lstN_of (by omega) hj ⟨.let_ e hb sp1.1, fun m hm => ?_⟩
      cases hm with
      | nil => omega
      | let_ _ _ h => exact sp1.2 _ h
      | str e1 e2 _ => rw [e] at e1; exact absurd (Option.some.inj e1 ▸ e2) hb
      | pair e1 e2 _ _ _ _ => rw [e] at e1; exact absurd (Option.some.inj e1 ▸ e2) hb
    rw [this]
    exact ⟨List.mem_singleton.mpr rfl, fun x hx => by rw [List.mem_singleton] at hx; omega⟩
/-! by the last sign -/
/-- the numbers that are looked at for a last bracket: the least one so far -/
def LwB (l : List Nat) (i j c k n : Nat) : Prop := Mn l i (j + 1) n ∧ n ≤ lstN l i j + 1 ∧ ∀ m d, i ≤ m → m < i + k → m < j → l[m]? = some d → d ∈ BRK → n ≤ lstN l i m + lstN l (m + 1) j + tns d c
theorem LwB.start {l : List Nat} {i j c : Nat} (hi : i ≤ j) (hj : j < l.length) (e : l[j]? = some c) (hb : c ∈ BRK) : LwB l i j c 0 (lstN l i j + 1) :=
  ⟨(lstN_spec hi (by omega)).1.app (.one_str e hb), Nat.le_refl _, fun m d h1 h2 => by omega⟩
theorem LwB.skip {l : List Nat} {i j c k n d : Nat} (h : LwB l i j c k n) (e : l[i + k]? = some d) (hd : d ∉ BRK) : LwB l i j c (k + 1) n := by
  refine ⟨h.1, h.2.1, fun m d' h1 h2 h3 h4 h5 => ?_⟩
  by_cases hm : m < i + k
  · exact h.2.2 m d' h1 hm h3 h4 h5
  · have : m = i + k := by omega
    subst this
    rw [e] at h4
    exact absurd (Option.some.inj h4 ▸ h5) hd
theorem LwB.step {l : List Nat} {i j c k n d : Nat} (h : LwB l i j c k n) (hj : j < l.length) (ec : l[j]? = some c) (hc : c ∈ BRK) (hk : i + k < j) (e : l[i + k]? = some d) (hd : d ∈ BRK) : LwB l i j c (k + 1) (min n (lstN l i (i + k) + lstN l (i + k + 1) j + tns d c)) := by
  have s1 := lstN_spec (l := l) (show i ≤ i + k by omega) (by omega)
  have s2 := lstN_spec (l := l) (show i + k + 1 ≤ j by omega) (by omega)
  refine ⟨?_, by have := h.2.1; omega, fun m d' h1 h2 h3 h4 h5 => ?_⟩
  · rcases Nat.le_total n (lstN l i (i + k) + lstN l (i + k + 1) j + tns d c) with hq | hq
    · rw [Nat.min_eq_left hq]
      exact h.1
    · rw [Nat.min_eq_right hq]
      have := s1.1.app (Mn.pair e hd ec hc s2.1 (.nil _))
      rw [show lstN l i (i + k) + lstN l (i + k + 1) j + tns d c = lstN l i (i + k) + (tns d c + lstN l (i + k + 1) j + 0) by omega]
      exact this
  · by_cases hm : m < i + k
    · have := h.2.2 m d' h1 hm h3 h4 h5
      omega
    · have : m = i + k := by omega
      subst this
      rw [e] at h4
      have := Option.some.inj h4
      subst this
      exact Nat.min_le_right _ _
theorem LwB.fin {l : List Nat} {i j c n : Nat} (hi : i ≤ j) (hj : j < l.length) (ec : l[j]? = some c) (hc : c ∈ BRK) (h : LwB l i j c (j - i) n) : lstN l i (j + 1) = n := by
  refine lstN_of (by omega) (by omega) ⟨h.1, fun x hx => ?_⟩
  obtain ⟨c', h1, h2⟩ := hx.last (by omega)
  rw [Nat.add_sub_cancel] at h1 h2
  rw [ec] at h1
  have := Option.some.inj h1
  subst this
  rcases h2 with ⟨h2, _⟩ | ⟨_, ⟨n', rfl, h3⟩ | ⟨m, d, a, b, g1, g2, g3, g4, g5, g6, rfl⟩⟩
  · exact absurd hc h2
  · have := (lstN_spec (l := l) hi (by omega)).2 _ h3
    have := h.2.1
    omega
  · have k1 := (lstN_spec (l := l) g1 (by omega)).2 _ g5
    have k2 := (lstN_spec (l := l) (show m + 1 ≤ j by omega) (by omega)).2 _ g6
    have := h.2.2 m d g1 (by omega) g2 g3 g4
    omega
/-! reckoned -/
end Ly

set_option maxHeartbeats 4000000
namespace Ly
open PySem PySem.Spec PyProof.Rows L2 SX
/-! ### dicts whose keys are pairs of whole numbers -/
section
variable {K : PySem.W.Frag} {σ : L2.St} {H H1 : Hp} {Q : VK} {R : Hp → Prop} {a b p : Addr} {i j : Int} {v : V} {n : Nat} {td ty tv : TE} {D : Ends} {xs : List V}
def rDGet (x y : V) (H : Hp) (Q : VK) : Prop := ∃ a v, x = .ref a ∧ DGet H a y (some v) ∧ Q v H
def rDPut (x y v : V) (H : Hp) (R : Hp → Prop) : Prop := ∃ a H4, x = .ref a ∧ DPut H a y v H4 ∧ R H4
def rDNewT (H : Hp) (Q : VK) : Prop := ∀ p, H p = none → Q (.ref p) (upd H p (.dT []))
theorem tDGet_eq : tDGet td ty σ H Q = td σ H fun x H1 => ty σ H1 fun y H2 => rDGet x y H2 Q := rfl
theorem sDPut_eq : sDPut td ty tv D σ H = tv σ H fun v H1 => td σ H1 fun x H2 => ty σ H2 fun y H3 => rDPut x y v H3 (D.nx σ) := rfl
theorem tDNewT_eq : tDNewT σ H Q = rDNewT H Q := rfl
/-- at a stands a dict of pairs, f tells what it holds, at most n entries -/
def DTab (H : Hp) (a : Addr) (f : Int → Int → Option V) (n : Nat) : Prop := ∃ kvs : List (List Key × V), H a = some (.dT kvs) ∧ kvs.length ≤ n ∧ ∀ i j, valV kvs [.inl i, .inl j] = f i j
theorem DTab.same {f : Int → Int → Option V} (h : DTab H a f n) (s : Same H H1) : DTab H1 a f n := by
  obtain ⟨kvs, h1, h2⟩ := h
  exact ⟨kvs, s _ _ h1, h2⟩
theorem DTab.but {f : Int → Int → Option V} (h : DTab H a f n) (s : But p H H1) (hn : a ≠ p) : DTab H1 a f n := by
  obtain ⟨kvs, h1, h2⟩ := h
  exact ⟨kvs, s _ _ hn h1, h2⟩
theorem DTab.ne {f : Int → Int → Option V} (h : DTab H a f n) (hb : H b = none) : a ≠ b := by
  obtain ⟨kvs, h1, h2⟩ := h
  exact ne_new hb h1
/-! ### places told as natural numbers -/
theorem g_ixLn {x : Int} (k : Nat) (h : SqL K H p xs) (hk : x = (k : Int)) (h1 : xs[k]? = some v) (q : Q v H) : rIxL K (.ref p) (.int x) H Q := by
  subst hk
  exact g_ixL h (atI_of h1) q
theorem g_ixTn {l : List Nat} {x : Int} {c : Nat} (k : Nat) (h : l.length ≤ 100000) (hk : x = (k : Int)) (h1 : l[k]? = some c) (q : Q (Tx [c]) H) : rIxT1 (Tx l) (.int x) H Q := by
  subst hk
  exact g_ixT h (atI_of h1) q
theorem g_setLn {x : Int} (k : Nat) (h : H p = some (.lst xs)) (hk : x = (k : Int)) (h1 : k < xs.length) (q : ∀ H1, But p H H1 → H1 p = some (.lst (xs.set k v)) → R H1) : rSetL (.ref p) (.int x) v H R := by
  subst hk
  exact g_setL h (ixN_nat h1) q
/-! ### min, max -/
theorem g_minL {ns : List Int} (h : SqL K H p (ns.map V.int)) (hn : ns ≠ []) (q : ∀ m, m ∈ ns → (∀ y, y ∈ ns → m ≤ y) → Q (.int m) H) : rMin K [.ref p] H Q := ⟨p, ns, rfl, h, List.length_pos_iff.mpr hn, q⟩
end
section
variable {X : Cx}
def rMin2 : List V → Hp → VK → Prop := fun xs H Q => ∃ i j : Int, xs = [.int i, .int j] ∧ Q (.int (min i j)) H
def rMax2 : List V → Hp → VK → Prop := fun xs H Q => ∃ i j : Int, xs = [.int i, .int j] ∧ Q (.int (max i j)) H
theorem call_min2' (hc : X.calm = true) : CallR X (.builtin "min") rMin2 := fun pins s σ H xs us Q I r h => by
  obtain ⟨i, j, rfl, q⟩ := h
  refine call_min2 hc pins s σ H _ us Q I r ⟨i, j, rfl, ?_⟩
  have e : (if j < i then j else i) = min i j := by split <;> omega
  rw [e]
  exact q
theorem g_min2 {H : Hp} {Q : VK} {i j : Int} (q : Q (.int (min i j)) H) : rMin2 [.int i, .int j] H Q := ⟨i, j, rfl, q⟩
theorem g_max2 {H : Hp} {Q : VK} {i j : Int} (q : Q (.int (max i j)) H) : rMax2 [.int i, .int j] H Q := ⟨i, j, rfl, q⟩
end
/-! ### a list of lists, each its own -/
/-- at d the list of the lists rs; the k-th holds f k -/
structure Tab (H : Hp) (d : Addr) (rs : List Addr) (f : Nat → List V) : Prop where
  hd : H d = some (.lst (rs.map V.ref))
  r : ∀ k r, rs[k]? = some r → H r = some (.lst (f k))
  nd : rs.Nodup
  nin : d ∉ rs
theorem Tab.same {H H' : Hp} {d : Addr} {rs : List Addr} {f : Nat → List V} (T : Tab H d rs f) (s : Same H H') : Tab H' d rs f := ⟨s _ _ T.hd, fun k r h => s _ _ (T.r k r h), T.nd, T.nin⟩
theorem Tab.but {H H' : Hp} {d p : Addr} {rs : List Addr} {f : Nat → List V} (T : Tab H d rs f) (s : But p H H') (h1 : p ≠ d) (h2 : p ∉ rs) : Tab H' d rs f :=
  ⟨s _ _ (Ne.symm h1) T.hd, fun k r h => s _ _ (fun e => h2 (by rw [← e]; exact List.mem_of_getElem? h)) (T.r k r h), T.nd, T.nin⟩
theorem Tab.fresh {H : Hp} {d p : Addr} {rs : List Addr} {f : Nat → List V} (T : Tab H d rs f) (h : H p = none) : p ≠ d ∧ p ∉ rs := by
  refine ⟨fun e => ?_, fun e => ?_⟩
  · have := T.hd
    rw [← e, h] at this
    cases this
  · obtain ⟨k, hk⟩ := List.getElem?_of_mem e
    have := T.r k p hk
    rw [h] at this
    cases this
/-- one row set -/
theorem Tab.set {H H' : Hp} {d r : Addr} {rs : List Addr} {f : Nat → List V} {k : Nat} {xs : List V} (T : Tab H d rs f) (hk : rs[k]? = some r) (s : But r H H') (h : H' r = some (.lst xs)) : Tab H' d rs (fun i => if i = k then xs else f i) := by
  have hr : r ∈ rs := List.mem_of_getElem? hk
  refine ⟨s _ _ (fun e => T.nin (by rw [e]; exact hr)) T.hd, fun i q hi => ?_, T.nd, T.nin⟩
  by_cases e : i = k
  · subst e
    rw [hk] at hi
    have := Option.some.inj hi
    subst this
    rw [if_pos rfl]
    exact h
  · rw [if_neg e]
    refine s _ _ (fun e2 => e ?_) (T.r i q hi)
    subst e2
    obtain ⟨h1, e1⟩ := List.getElem?_eq_some_iff.mp hi
    obtain ⟨h2, e2⟩ := List.getElem?_eq_some_iff.mp hk
    exact (List.getElem_inj T.nd).mp (e1.trans e2.symm)
theorem Tab.congr {H : Hp} {d : Addr} {rs : List Addr} {f g : Nat → List V} (T : Tab H d rs f) (h : ∀ k, k < rs.length → f k = g k) : Tab H d rs g :=
  ⟨T.hd, fun k r hk => by rw [← h k (List.getElem?_eq_some_iff.mp hk).1]; exact T.r k r hk, T.nd, T.nin⟩
theorem Tab.row {H : Hp} {d : Addr} {rs : List Addr} {f : Nat → List V} (T : Tab H d rs f) {k : Nat} (hk : k < rs.length) : ∃ r, rs[k]? = some r ∧ (rs.map V.ref)[k]? = some (V.ref r) ∧ H r = some (.lst (f k)) := by
  refine ⟨rs[k], List.getElem?_eq_getElem hk, by simp [hk], T.r k _ (List.getElem?_eq_getElem hk)⟩
theorem Tab.snoc {H H' : Hp} {d r : Addr} {rs : List Addr} {f : Nat → List V} {xs : List V} (T : Tab H d rs f) (hr : H' r = some (.lst xs)) (hd : H' d = some (.lst ((rs ++ [r]).map V.ref))) (h1 : r ∉ rs) (h2 : d ≠ r) (hk : ∀ q ∈ rs, ∀ o, H q = some o → H' q = some o) : Tab H' d (rs ++ [r]) (fun i => if i = rs.length then xs else f i) := by
  refine ⟨hd, fun i q hi => ?_, ?_, ?_⟩
  · by_cases e : i < rs.length
    · rw [List.getElem?_append_left e] at hi
      rw [if_neg (by omega)]
      exact hk q (List.mem_of_getElem? hi) _ (T.r i q hi)
    · rw [List.getElem?_append_right (by omega)] at hi
      have e2 : i = rs.length := by
        have := (List.getElem?_eq_some_iff.mp hi).1
        simp at this
        omega
      subst e2
      rw [Nat.sub_self] at hi
      have := Option.some.inj hi
      subst this
      rw [if_pos rfl]
      exact hr
  · rw [List.nodup_append]
    refine ⟨T.nd, by simp, fun a ha b hb => ?_⟩
    rw [List.mem_singleton] at hb
    subst hb
    exact fun e => h1 (by rw [← e]; exact ha)
  · rw [List.mem_append, List.mem_singleton]
    rintro (h | h)
    · exact T.nin h
    · exact h2 h
end Ly

set_option maxHeartbeats 4000000
namespace Ly
open PySem PySem.Spec PyProof.Rows L2 SX
theorem g_ET {R : Bool → Prop} (q : R true) : ∃ k, V.bl true = V.bl k ∧ R k := ⟨_, rfl, q⟩
theorem g_EF {R : Bool → Prop} (q : R false) : ∃ k, V.bl false = V.bl k ∧ R k := ⟨_, rfl, q⟩
theorem g_EnT {R : Bool → Prop} (q : R false) : ∃ k, V.bl (!true) = V.bl k ∧ R k := ⟨_, rfl, q⟩
theorem g_EnF {R : Bool → Prop} (q : R true) : ∃ k, V.bl (!false) = V.bl k ∧ R k := ⟨_, rfl, q⟩
/-! ### list + list, where one may be the script -/
section
variable {X : Cx}
end
section
variable {K : PySem.W.Frag} {σ : L2.St} {H : Hp} {g : TG} {tb : TS} {D : Ends} {a b : Addr} {xs ys : List V}
end
end Ly

namespace Ly
/-! ### least numbers with how often they are met -/
/-- a number of deeds and in how many ways; none: in no way -/
abbrev MC := Option (Nat × Nat)
def mAdd : MC → MC → MC
  | none, y => y
  | some p, none => some p
  | some p, some q => if p.1 < q.1 then some p else if q.1 < p.1 then some q else some (p.1, p.2 + q.2)
def mMul : MC → MC → MC
  | some p, some q => some (p.1 + q.1, p.2 * q.2)
  | _, _ => none
def mOne : MC := some (0, 1)
theorem mAdd_none (x : MC) : mAdd x none = x := by cases x <;> rfl
theorem none_mAdd (x : MC) : mAdd none x = x := rfl
theorem mAdd_comm (x y : MC) : mAdd x y = mAdd y x := by
  cases x with
  | none => rw [mAdd_none]; rfl
  | some p =>
    cases y with
    | none => rfl
    | some q =>
      unfold mAdd
      dsimp only
      by_cases h1 : p.1 < q.1
      · rw [if_pos h1, if_neg (by omega), if_pos h1]
      · rw [if_neg h1]
        by_cases h2 : q.1 < p.1
        · rw [if_pos h2, if_pos h2]
        · rw [if_neg h2, if_neg h2, if_neg h1, show p.1 = q.1 by omega, Nat.add_comm]
theorem mAdd_assoc (x y z : MC) : mAdd (mAdd x y) z = mAdd x (mAdd y z) := by
  cases x with
  | none => rfl
  | some p =>
    cases y with
    | none => rfl
    | some q =>
      cases z with
      | none => rw [mAdd_none, mAdd_none]
      | some r =>
        obtain ⟨a, m⟩ := p
        obtain ⟨b, n⟩ := q
        obtain ⟨c, k⟩ := r
        unfold mAdd
        dsimp only
        by_cases h1 : a < b <;> by_cases h2 : b < a <;> by_cases h3 : b < c <;> by_cases h4 : c < b <;> by_cases h5 : a < c <;> by_cases h6 : c < a <;>
          first | (exfalso; omega) | (simp only [h1, h2, h3, h4, h5, h6, if_true, if_false]; try (first | rfl | (rw [Nat.add_assoc]) | (congr 1 <;> omega)))
theorem mMul_comm (x y : MC) : mMul x y = mMul y x := by
  cases x with
  | none => cases y <;> rfl
  | some p =>
    cases y with
    | none => rfl
    | some q =>
      unfold mMul
      dsimp only
      rw [Nat.add_comm, Nat.mul_comm]
theorem mMul_none (x : MC) : mMul x none = none := by cases x <;> rfl
theorem mMul_assoc (x y z : MC) : mMul (mMul x y) z = mMul x (mMul y z) := by
  cases x with
  | none => rfl
  | some p =>
    cases y with
    | none => rfl
    | some q =>
      cases z with
      | none => rfl
      | some r =>
        unfold mMul
        dsimp only
        rw [Nat.add_assoc, Nat.mul_assoc]
theorem mOne_mul (x : MC) : mMul mOne x = x := by
  cases x with
  | none => rfl
  | some p =>
    unfold mMul mOne
    dsimp only
    rw [Nat.zero_add, Nat.one_mul]
theorem mMul_one (x : MC) : mMul x mOne = x := by rw [mMul_comm, mOne_mul]
theorem mMul_add (x y z : MC) : mMul x (mAdd y z) = mAdd (mMul x y) (mMul x z) := by
  cases x with
  | none => rfl
  | some p =>
    cases y with
    | none => rfl
    | some q =>
      cases z with
      | none => rw [mAdd_none, mMul_none, mAdd_none]
      | some r =>
        obtain ⟨a, m⟩ := p
        obtain ⟨b, n⟩ := q
        obtain ⟨c, k⟩ := r
        by_cases h1 : b < c
        · have e1 : mAdd (some (b, n)) (some (c, k)) = some (b, n) := by unfold mAdd; exact if_pos h1
          have e2 : mAdd (mMul (some (a, m)) (some (b, n))) (mMul (some (a, m)) (some (c, k))) = some (a + b, m * n) := by unfold mMul mAdd; exact if_pos (by show a + b < a + c; omega)
          rw [e1, e2]
          rfl
        · by_cases h2 : c < b
          · have e1 : mAdd (some (b, n)) (some (c, k)) = some (c, k) := by unfold mAdd; exact (if_neg h1).trans (if_pos h2)
            have e2 : mAdd (mMul (some (a, m)) (some (b, n))) (mMul (some (a, m)) (some (c, k))) = some (a + c, m * k) := by unfold mMul mAdd; exact (if_neg (by show ¬ a + b < a + c; omega)).trans (if_pos (by show a + c < a + b; omega))
            rw [e1, e2]
            rfl
          · have e1 : mAdd (some (b, n)) (some (c, k)) = some (b, n + k) := by unfold mAdd; exact (if_neg h1).trans (if_neg h2)
            have e2 : mAdd (mMul (some (a, m)) (some (b, n))) (mMul (some (a, m)) (some (c, k))) = some (a + b, m * n + m * k) := by unfold mMul mAdd; exact (if_neg (by show ¬ a + b < a + c; omega)).trans (if_neg (by show ¬ a + c < a + b; omega))
            rw [e1, e2, ← Nat.mul_add]
            rfl
/-! sums -/
def sm (f : Nat → MC) : Nat → MC
  | 0 => none
  | n + 1 => mAdd (sm f n) (f n)
theorem sm_congr {f g : Nat → MC} : ∀ {n : Nat}, (∀ k, k < n → f k = g k) → sm f n = sm g n
  | 0, _ => rfl
  | n + 1, h => by
    rw [sm, sm, sm_congr (fun k hk => h k (by omega)), h n (by omega)]
theorem sm_head (f : Nat → MC) : ∀ n : Nat, sm f (n + 1) = mAdd (f 0) (sm (fun k => f (k + 1)) n)
  | 0 => by rw [sm, sm, sm, none_mAdd, mAdd_none]
  | n + 1 => by rw [sm, sm_head f n, sm, mAdd_assoc]
theorem sm_none : ∀ n : Nat, sm (fun _ => none) n = none
  | 0 => rfl
  | n + 1 => by rw [sm, sm_none n]; rfl
/-! ### tilings: by the first item, by the last one -/
end Ly

set_option maxHeartbeats 4000000
namespace Ly
open PySem PySem.Spec PyProof.Rows L2 SX
/-! ### classes: their methods, their making -/
def MetAt (K : PySem.W.Frag) (c m q : Str) (st : Stmt) (ps : List Str) : Prop := ∃ fd : FuncData, FunD K m q (defArgs st) (defBody st) (defScope st) [] [] (He.ma K (He.ga K c) m) fd ∧ Cls K (He.ga K c) ∧ Meth K (He.ga K c) m (He.ma K (He.ga K c) m) ∧ Binds K fd ps []
def MakAt (K : PySem.W.Frag) (mg : Str → Option Value) (c q : Str) (st : Stmt) (ps : List Str) : Prop := ∃ fd : FuncData, FunD K "__init__" q (defArgs st) (defBody st) (defScope st) [] [] (He.ma K (He.ga K c) "__init__") fd ∧ Mk K (He.ga K c) (He.ma K (He.ga K c) "__init__") ∧ mg c = some (.ref (He.ga K c)) ∧ Binds K fd ps []
section
variable {P : Program} {w : World} {K : PySem.W.Frag} {mg : Str → Option Value} {base : Heap}
theorem fnDq {x q : Str} {st : Stmt} {f : Addr} {fd : FuncData} {N ps : List Str} {k : Nat} {sp : Sp} (F : FunD K x q (defArgs st) (defBody st) (defScope st) [] [] f fd) (S : FnScope N ps (defScope st)) (len : ∀ vs H Q E, sp vs H Q E → vs.length = ps.length)
    (hbody : ∀ (cdv : Value) (A : Around) (outer : List Env) (s : Shared) (H : Hp) (vs : List V) (Q : VK) (E : XK), Room k (A.deeper (envOfC q (defScope st) s.heap.objs.size f cdv)) → sp vs H Q E →
      ∃ t, PSs (cxOf C8.CX0 P w K mg base N q (defScope st) f cdv A outer s H E).nox (defBody st) t ∧ t { nx := fun _ H' => Q .non H', rt := Q } (start N vs) H) : FnOk P w K mg base C8.CX0 (k + 1) f fd ps sp := by
  refine F.ok S len fun cdv A outer s H vs Q E hr hsp => ?_
  obtain ⟨t, h, q⟩ := hbody cdv A outer s H vs Q E hr hsp
  exact ⟨t, h.nox, q⟩
theorem metD {c m q : Str} {st : Stmt} {N ps : List Str} {k : Nat} {sp : Sp} (D : MetAt K c m q st ps) (S : FnScope N ps (defScope st)) (len : ∀ vs H Q E, sp vs H Q E → vs.length = ps.length)
    (hbody : ∀ (f : Addr) (cdv : Value) (A : Around) (outer : List Env) (s : Shared) (H : Hp) (vs : List V) (Q : VK) (E : XK), Room k (A.deeper (envOfC q (defScope st) s.heap.objs.size f cdv)) → sp vs H Q E →
      ∃ t, PSs (cxOf C8.CX0 P w K mg base N q (defScope st) f cdv A outer s H E).nox (defBody st) t ∧ t { nx := fun _ H' => Q .non H', rt := Q } (start N vs) H) : C8.Met P w K mg base (k + 1) (He.ga K c) m sp [] := by
  obtain ⟨fd, F, cl, me, b⟩ := D
  exact ⟨_, fd, ps, [], cl, me, fnDq F S len (hbody _), b, .nil⟩
theorem makD {c q : Str} {st : Stmt} {N ps : List Str} {k : Nat} {sp : Sp} (D : MakAt K mg c q st ps) (S : FnScope N ps (defScope st)) (len : ∀ vs H Q E, sp vs H Q E → vs.length = ps.length)
    (hbody : ∀ (f : Addr) (cdv : Value) (A : Around) (outer : List Env) (s : Shared) (H : Hp) (vs : List V) (Q : VK) (E : XK), Room k (A.deeper (envOfC q (defScope st) s.heap.objs.size f cdv)) → sp vs H Q E →
      ∃ t, PSs (cxOf C8.CX0 P w K mg base N q (defScope st) f cdv A outer s H E).nox (defBody st) t ∧ t { nx := fun _ H' => Q .non H', rt := Q } (start N vs) H) : C8.Mak P w K mg base (k + 1) c (He.ga K c) sp [] := by
  obtain ⟨fd, F, mk, hm, b⟩ := D
  exact ⟨_, fd, ps, [], mk, fnDq F S len (hbody _), hm, b, .nil⟩
end
def rMetO (C : Addr) (m : Str) (x : V) (H : Hp) (A : Prop) : Prop := (∃ a dx fs, x = .ref a ∧ H a = some (.ins C dx fs) ∧ fs.lookup m = none) ∧ A
def tMet (C : Addr) (m : Str) (sp : Sp) (ta : TE) (t : TA) : TE := fun σ H Q => ta σ H fun x H1 => rMetO C m x H1 (t σ H1 fun vs H2 => sp (x :: vs) H2 Q C8.E0)
theorem tMet_eq {C : Addr} {m : Str} {sp : Sp} {ta : TE} {t : TA} : tMeth C m sp [] C8.E0 ta t = tMet C m sp ta t := by
  funext σ H Q
  show (ta σ H fun x H1 => ∃ a dx fs, x = .ref a ∧ H1 a = some (.ins C dx fs) ∧ fs.lookup m = none ∧ t σ H1 fun vs H2 => sp (x :: (vs ++ [])) H2 Q C8.E0) = ta σ H _
  congr 1
  funext x H1
  simp only [List.append_nil]
  refine propext ⟨fun ⟨a, dx, fs, h1, h2, h3, h4⟩ => ⟨⟨a, dx, fs, h1, h2, h3⟩, h4⟩, fun ⟨⟨a, dx, fs, h1, h2, h3⟩, h4⟩ => ⟨a, dx, fs, h1, h2, h3, h4⟩⟩
def rMak (C : Addr) (sp : Sp) (vs : List V) (H : Hp) (Q : VK) : Prop := ∀ x dx, H x = none → H dx = none → dx ≠ x → sp (.ref x :: vs) (upd (upd H dx (.own x)) x (.ins C dx [])) (fun v H2 => v = .non ∧ Q (.ref x) H2) C8.E0
def tMak (C : Addr) (sp : Sp) (t : TA) : TE := fun σ H Q => t σ H fun vs H1 => rMak C sp vs H1 Q
theorem tMak_eq {C : Addr} {sp : Sp} {t : TA} : tMake C sp [] C8.E0 t = tMak C sp t := by
  funext σ H Q
  show (t σ H fun vs H1 => ∀ x dx, H1 x = none → H1 dx = none → dx ≠ x → sp (.ref x :: (vs ++ [])) _ _ C8.E0) = t σ H _
  simp only [List.append_nil]
  rfl
section
variable {X : Cx} {k j : Nat} {C : Addr} {x m : Str} {sp : Sp} {p pos apos : Pos} {e o : Expr} {es : List Expr} {ta : TE} {t : TA}
theorem pe_met {pl : Sem Bool} (c : C8.Met X.prog X.w X.K X.mg X.base k C m sp []) (hr : Room j X.A) (hk : k ≤ j) (he : PE X o ta) (ha : PA X (e :: es) t)
    (hst : starEach (e :: es) X.env = (false, eval e X.env) :: starEach es X.env := by rfl) (hpl : (backTo pos (starEach es X.env)).any (·.1) = false := by rfl)
    (ht : eval (.Call (.Attribute o m apos) (e :: es) [] pos) X.env = (do
      let ov ← eval o X.env
      standAt apos.atName
      let (f, first) ← holding [ov] (getMethod ov m pl)
      callWith pos f first (backTo pos (starEach (e :: es) X.env)) (backToKw pos (keywordEach [] X.env))) := by rfl) :
    PE X (.Call (.Attribute o m apos) (e :: es) [] pos) (tMet C m sp ta t) := by
  rw [← tMet_eq]
  exact C8.pe_mt (pl := pl) c hr hk he ha hst hpl ht
theorem pe_met0 {pl : Sem Bool} (c : C8.Met X.prog X.w X.K X.mg X.base k C m sp []) (hr : Room j X.A) (hk : k ≤ j) (he : PE X o ta)
    (ht : eval (.Call (.Attribute o m apos) [] [] pos) X.env = (do
      let ov ← eval o X.env
      standAt apos.atName
      let (f, first) ← holding [ov] (getMethod ov m pl)
      callWith pos f first (backTo pos (starEach [] X.env)) (backToKw pos (keywordEach [] X.env))) := by rfl) :
    PE X (.Call (.Attribute o m apos) [] [] pos) (tMet C m sp ta tNil) := by
  rw [← tMet_eq]
  exact C8.pe_mt0 (pl := pl) c hr hk he ht
theorem pe_mak (c : C8.Mak X.prog X.w X.K X.mg X.base k x C sp []) (hr : Room j X.A) (hk : k + 1 ≤ j) (hg : Gl X x) (ha : PA X (e :: es) t)
    (hdb : (x == ("__debug__" : Str)) = false := by decide) (he : starEach (e :: es) X.env = (false, eval e X.env) :: starEach es X.env := by rfl) (hpl : (backTo pos (starEach es X.env)).any (·.1) = false := by rfl) :
    PE X (.Call (.Name x p) (e :: es) [] pos) (tMak C sp t) := by
  rw [← tMak_eq]
  exact C8.pe_mk c hr hk hg ha hdb he hpl
end
section
variable {K : PySem.W.Frag} {σ : L2.St} {H : Hp} {Q : VK} {A : Prop} {a dx C : Addr} {fs : List (Str × V)} {m f : Str} {v y : V} {ta tv : TE} {D : Ends} {R : Hp → Prop} {sp : Sp} {vs : List V}
theorem g_met (h : H a = some (.ins C dx fs)) (hl : fs.lookup m = none) (q : A) : rMetO C m (.ref a) H A := ⟨⟨a, dx, fs, rfl, h, hl⟩, q⟩
theorem g_mak (q : ∀ x dx H1, H x = none → Same H H1 → H1 x = some (.ins C dx []) → sp (.ref x :: vs) H1 (fun v H2 => v = .non ∧ Q (.ref x) H2) C8.E0) : rMak C sp vs H Q := fun x dx nx ndx hne =>
  q x dx _ nx (fun b o e => by rw [upd_ne (ne_of_none e nx), upd_ne (ne_of_none e ndx)]; exact e) upd_same
def rFld (K : PySem.W.Frag) (f : Str) (x : V) (H : Hp) (Q : VK) : Prop := ∃ a C dx fs v, x = .ref a ∧ H a = some (.ins C dx fs) ∧ Cls K C ∧ NoAttr K C f ∧ fs.lookup f = some v ∧ Q v H
def rSFld (K : PySem.W.Frag) (f : Str) (y x : V) (H : Hp) (R : Hp → Prop) : Prop := ∃ a C dx fs, x = .ref a ∧ H a = some (.ins C dx fs) ∧ Cls K C ∧ NoAttr K C f ∧ fs.length < 1000 ∧ R (upd H a (.ins C dx (putF f y fs)))
theorem tFld_eq : tFld K ta f σ H Q = ta σ H fun x H1 => rFld K f x H1 Q := rfl
theorem sFld_eq : sFld K ta tv f D σ H = tv σ H fun y H1 => ta σ H1 fun x H2 => rSFld K f y x H2 (D.nx σ) := rfl
theorem g_fld (h : H a = some (.ins C dx fs)) (cl : Cls K C) (na : NoAttr K C f) (hl : fs.lookup f = some v) (q : Q v H) : rFld K f (.ref a) H Q := ⟨a, C, dx, fs, v, rfl, h, cl, na, hl, q⟩
theorem g_sfld (h : H a = some (.ins C dx fs)) (cl : Cls K C) (na : NoAttr K C f) (hl : fs.length < 1000) (q : ∀ H1, But a H H1 → H1 a = some (.ins C dx (putF f y fs)) → R H1) : rSFld K f y (.ref a) H R := ⟨a, C, dx, fs, rfl, h, cl, na, hl, q _ But.set upd_same⟩
end
end Ly

namespace Ly
open PySem
/-! ### the head's facts with one truth more -/
abbrev AlE : Type := He.AlD × Bool
def obsEG (n : Nat) (fa : List He.Fa) (fn : List He.DefD) (ex : PySem.W.Frag → Bool) (g : Addr → Option Obj) : AlE := (He.obsDG n fa fn g, ex (He.frG g (He.asD g n)))
def hookE (n : Nat) (fa : List He.Fa) (fn : List He.DefD) (ex : PySem.W.Frag → Bool) : PySem.W.Hook where
  α := AlE
  obs := fun s => obsEG n fa fn ex s.heap.get?
  val := fun _ => (He.valD fn, true)
  says := fun _ h => ∃ K : PySem.W.Frag, K.In h ∧ He.SaysD fa fn K ∧ ex K = true
  of := fun _ _ e => ⟨_, He.frG_in, congrArg Prod.fst e, congrArg Prod.snd e⟩
  keeps := fun _ _ _ ⟨K, hK, c, cx⟩ k => ⟨K, PySem.W.Frag.In.keeps hK k, c, cx⟩
theorem obsEG_eq {n : Nat} {fa : List He.Fa} {fn : List He.DefD} {ex : PySem.W.Frag → Bool} {g : Addr → Option Obj} {s : Shared} (h : ∀ a, g a = s.heap.get? a) : obsEG n fa fn ex g = (hookE n fa fn ex).obs s := by
  have e : g = s.heap.get? := funext h
  rw [e] <;> rfl
end Ly

set_option maxHeartbeats 4000000
namespace Ly
/-! ### least numbers with how many, by words -/
structure Wd where
  pt : Bool
  st : Bool
  tn : Bool
def few (c d : Nat) : Nat × Nat := if c ∈ OPN ∧ d ∈ CLO then (if knd c = knd d then (0, 1) else (1, 2)) else if c ∈ CLO ∧ d ∈ OPN then (2, 4) else (1, 1)
def w1 : MC := some (1, 1)
/-- a pair of the text's signs at i and m -/
def prM (l : List Nat) (W : Wd) (i m : Nat) : MC := match l[i]?, l[m]? with
  | some c, some d => if c ∈ BRK ∧ d ∈ BRK ∧ ((few c d).1 = 0 ∨ W.tn = true) then some (few c d) else none
  | _, _ => none
def opM (l : List Nat) (W : Wd) (i : Nat) : MC := match l[i]? with
  | some c => if c ∈ OPN ∧ W.pt = true then w1 else none
  | none => none
def clM (l : List Nat) (W : Wd) (m : Nat) : MC := match l[m]? with
  | some c => if c ∈ CLO ∧ W.pt = true then w1 else none
  | none => none
/-- the sign alone: a letter, or a struck bracket -/
def sgM (l : List Nat) (W : Wd) (i : Nat) : MC := match l[i]? with
  | some c => if c ∈ BRK then (if W.st = true then w1 else none) else mOne
  | none => none
def m3 (x y z : MC) : MC := mMul (mMul x y) z
theorem m3_none (y z : MC) : m3 none y z = none := rfl
/-- by the first sign -/
def stM (l : List Nat) (W : Wd) (F : Nat → Nat → MC) (i j : Nat) : MC :=
  mAdd (mMul (sgM l W i) (F (i + 1) j)) (mAdd (sm (fun t => m3 (prM l W i (i + 1 + t)) (F (i + 1) (i + 1 + t)) (F (i + 1 + t + 1) j)) (j - i - 1))
    (mAdd (sm (fun t => m3 (opM l W i) (F (i + 1) (i + 1 + t)) (F (i + 1 + t) j)) (j - i)) (sm (fun t => m3 (clM l W (i + t)) (F i (i + t)) (F (i + t + 1) j)) (j - i))))
theorem stM_congr {l l' : List Nat} {W : Wd} {F F' : Nat → Nat → MC} {i j : Nat} (hi : i < j) (hl : ∀ k, k < j → l[k]? = l'[k]?) (h : ∀ a b, a ≤ b → b ≤ j → b - a < j - i → i ≤ a → F a b = F' a b) : stM l W F i j = stM l' W F' i j := by
  unfold stM
  have e1 : sgM l W i = sgM l' W i := by unfold sgM; rw [hl i hi]
  have e2 : ∀ m, m < j → prM l W i m = prM l' W i m := fun m hm => by unfold prM; rw [hl i hi, hl m hm]
  have e3 : opM l W i = opM l' W i := by unfold opM; rw [hl i hi]
  have e4 : ∀ m, m < j → clM l W m = clM l' W m := fun m hm => by unfold clM; rw [hl m hm]
  rw [e1, h (i + 1) j (by omega) (by omega) (by omega) (by omega), e3]
  congr 1
  congr 1
  · refine sm_congr fun t ht => ?_
    rw [e2 _ (by omega), h (i + 1) (i + 1 + t) (by omega) (by omega) (by omega) (by omega), h (i + 1 + t + 1) j (by omega) (by omega) (by omega) (by omega)]
  · congr 1
    · refine sm_congr fun t ht => ?_
      rw [h (i + 1) (i + 1 + t) (by omega) (by omega) (by omega) (by omega), h (i + 1 + t) j (by omega) (by omega) (by omega) (by omega)]
    · refine sm_congr fun t ht => ?_
      rw [e4 _ (by omega), h i (i + t) (by omega) (by omega) (by omega) (by omega), h (i + t + 1) j (by omega) (by omega) (by omega) (by omega)]
def mcF (l : List Nat) (W : Wd) : Nat → Nat → Nat → MC
  | 0, _, _ => mOne
  | n + 1, i, j => if j ≤ i then mOne else stM l W (mcF l W n) i j
theorem mcF_eq (l l' : List Nat) (W : Wd) : ∀ (n m i j : Nat), j - i ≤ n → j - i ≤ m → (∀ k, k < j → l[k]? = l'[k]?) → mcF l W n i j = mcF l' W m i j
  | 0, 0, i, j, _, _, _ => rfl
  | 0, m + 1, i, j, h1, h2, _ => by rw [mcF, mcF, if_pos (by omega)]
  | n + 1, 0, i, j, h1, h2, _ => by rw [mcF, mcF, if_pos (by omega)]
  | n + 1, m + 1, i, j, h1, h2, hl => by
    rw [mcF, mcF]
    by_cases h : j ≤ i
    · rw [if_pos h, if_pos h]
    · rw [if_neg h, if_neg h]
      exact stM_congr (by omega) hl fun a b g1 g2 g3 g4 => mcF_eq l l' W n m a b (by omega) (by omega) fun k hk => hl k (by omega)
def mcN (l : List Nat) (W : Wd) (i j : Nat) : MC := mcF l W (j - i) i j
theorem mcN_self (l : List Nat) (W : Wd) (i : Nat) : mcN l W i i = mOne := by unfold mcN; rw [Nat.sub_self]; rfl
theorem mcN_step {l : List Nat} {W : Wd} {i j : Nat} (h : i < j) : mcN l W i j = stM l W (mcN l W) i j := by
  have e : mcN l W i j = mcF l W (j - i - 1 + 1) i j := mcF_eq l l W _ _ i j (Nat.le_refl _) (by omega) fun _ _ => rfl
  rw [e, mcF, if_neg (by omega)]
  exact stM_congr h (fun _ _ => rfl) fun a b g1 g2 g3 g4 => mcF_eq l l W _ _ a b (by omega) (Nat.le_refl _) fun _ _ => rfl
theorem mcN_text {l l' : List Nat} {W : Wd} {i j : Nat} (hl : ∀ k, k < j → l[k]? = l'[k]?) : mcN l W i j = mcN l' W i j := mcF_eq l l' W _ _ i j (Nat.le_refl _) (Nat.le_refl _) hl
/-! by the last sign -/
/-! there is always one, where striking is a word -/
theorem mAdd_some {x y : MC} (h : x ≠ none ∨ y ≠ none) : mAdd x y ≠ none := by
  cases x with
  | none => rcases h with h | h
            · exact absurd rfl h
            · exact h
  | some p =>
    cases y with
    | none => exact fun e => nomatch e
    | some q =>
      unfold mAdd
      dsimp only
      split
      · exact fun e => nomatch e
      · split <;> exact fun e => nomatch e
theorem mMul_some {x y : MC} (h1 : x ≠ none) (h2 : y ≠ none) : mMul x y ≠ none := by
  cases x with
  | none => exact absurd rfl h1
  | some p =>
    cases y with
    | none => exact absurd rfl h2
    | some q => exact fun e => nomatch e
theorem mcN_some {l : List Nat} {W : Wd} (hs : W.st = true) : ∀ (n i : Nat), i + n ≤ l.length → mcN l W i (i + n) ≠ none
  | 0, i, _ => by rw [Nat.add_zero, mcN_self]; exact fun e => nomatch e
  | n + 1, i, h => by
    rw [mcN_step (by omega)]
    refine mAdd_some (.inl (mMul_some ?_ ?_))
    · have e : l[i]? = some l[i] := List.getElem?_eq_getElem (by omega)
      unfold sgM
      rw [e]
      dsimp only
      by_cases hb : l[i] ∈ BRK
      · rw [if_pos hb, if_pos hs]; exact fun e => nomatch e
      · rw [if_neg hb]; exact fun e => nomatch e
    · have := mcN_some (l := l) hs n (i + 1) (by omega)
      rw [show i + 1 + n = i + (n + 1) by omega] at this
      exact this
/-! sums of lists -/
def totL (xs : List (Nat × Nat)) : MC := xs.foldl (fun a x => mAdd a (some x)) none
theorem totL_snoc (xs : List (Nat × Nat)) (x : Nat × Nat) : totL (xs ++ [x]) = mAdd (totL xs) (some x) := by
  unfold totL
  rw [List.foldl_append]
  rfl
theorem totL_app : ∀ (ys xs : List (Nat × Nat)), totL (xs ++ ys) = mAdd (totL xs) (totL ys)
  | [], xs => by rw [List.append_nil]; exact (mAdd_none _).symm
  | y :: ys, xs => by
    have e1 := totL_app ys (xs ++ [y])
    have e2 := totL_app ys [y]
    rw [show xs ++ y :: ys = xs ++ [y] ++ ys by simp, e1, totL_snoc, mAdd_assoc, show y :: ys = [y] ++ ys from rfl, e2]
    rfl
theorem totL_opt (xs : List (Nat × Nat)) (y : MC) : totL (xs ++ y.toList) = mAdd (totL xs) y := by
  cases y with
  | none => rw [Option.toList_none, List.append_nil, mAdd_none]
  | some p => exact totL_snoc xs p
end Ly

set_option maxHeartbeats 4000000
namespace Ly
open PySem PySem.Spec PyProof.Rows L2 SX
/-! ### how great the counts can be -/
def cnt : MC → Nat
  | none => 0
  | some p => p.2
theorem cnt_add (x y : MC) : cnt (mAdd x y) ≤ cnt x + cnt y := by
  cases x with
  | none => exact Nat.le_add_left _ _
  | some p =>
    cases y with
    | none => exact Nat.le_add_right _ _
    | some q =>
      unfold mAdd
      dsimp only
      split
      · exact Nat.le_add_right _ _
      · split
        · exact Nat.le_add_left _ _
        · exact Nat.le_refl _
theorem cnt_mul (x y : MC) : cnt (mMul x y) = cnt x * cnt y := by
  cases x with
  | none => exact (Nat.zero_mul _).symm
  | some p =>
    cases y with
    | none => exact (Nat.mul_zero _).symm
    | some q => rfl
theorem cnt_sm {f : Nat → MC} {b : Nat} : ∀ n, (∀ k, k < n → cnt (f k) ≤ b) → cnt (sm f n) ≤ n * b
  | 0, _ => by rw [sm]; exact Nat.zero_le _
  | n + 1, h => by
    have h1 := cnt_sm n fun k hk => h k (by omega)
    have h2 := h n (by omega)
    have h3 := cnt_add (sm f n) (f n)
    rw [sm, Nat.succ_mul]
    omega
theorem cnt_few (c d : Nat) : (few c d).2 ≤ 4 := by
  unfold few
  split
  · split <;> decide
  · split <;> decide
theorem cnt_pr (l : List Nat) (W : Wd) (i m : Nat) : cnt (prM l W i m) ≤ 4 := by
  unfold prM
  split
  · split
    · exact cnt_few _ _
    · exact Nat.zero_le _
  · exact Nat.zero_le _
theorem cnt_op (l : List Nat) (W : Wd) (i : Nat) : cnt (opM l W i) ≤ 4 := by
  unfold opM
  split
  · split
    · show 1 ≤ 4; decide
    · exact Nat.zero_le _
  · exact Nat.zero_le _
theorem cnt_cl (l : List Nat) (W : Wd) (i : Nat) : cnt (clM l W i) ≤ 4 := by
  unfold clM
  split
  · split
    · show 1 ≤ 4; decide
    · exact Nat.zero_le _
  · exact Nat.zero_le _
theorem cnt_sg (l : List Nat) (W : Wd) (i : Nat) : cnt (sgM l W i) ≤ 4 := by
  unfold sgM
  split
  · split
    · split
      · show 1 ≤ 4; decide
      · exact Nat.zero_le _
    · show 1 ≤ 4; decide
  · exact Nat.zero_le _
theorem cnt_m3 {x y z : MC} {n a b : Nat} (hx : cnt x ≤ 4) (hy : cnt y ≤ 2 ^ a) (hz : cnt z ≤ 2 ^ b) (h : a + b ≤ n) : cnt (m3 x y z) ≤ 2 ^ (n + 2) := by
  unfold m3
  rw [cnt_mul, cnt_mul]
  refine Nat.le_trans (Nat.mul_le_mul (Nat.mul_le_mul hx hy) hz) ?_
  rw [show (4 : Nat) = 2 ^ 2 from rfl, ← Nat.pow_add, ← Nat.pow_add]
  exact Nat.pow_le_pow_right (by decide) (by omega)
theorem mcN_cnt {l : List Nat} {W : Wd} : ∀ (n i : Nat), n ≤ 1000 → cnt (mcN l W i (i + n)) ≤ 2 ^ (16 * n) := by
  intro n
  induction n using Nat.strongRecOn with
  | ind n ih =>
    intro i hn
    cases n with
    | zero => rw [Nat.add_zero, mcN_self]; show 1 ≤ 2 ^ 0; decide
    | succ n =>
      have ih' : ∀ a b, a ≤ b → b - a ≤ n → cnt (mcN l W a b) ≤ 2 ^ (16 * (b - a)) := fun a b h1 h2 => by
        have := ih (b - a) (by omega) a (by omega)
        rw [show a + (b - a) = b by omega] at this
        exact this
      rw [mcN_step (by omega)]
      unfold stM
      have k1 : cnt (mMul (sgM l W i) (mcN l W (i + 1) (i + (n + 1)))) ≤ 2 ^ (16 * n + 2) := by
        rw [cnt_mul]
        refine Nat.le_trans (Nat.mul_le_mul (cnt_sg l W i) (ih' _ _ (by omega) (by omega))) ?_
        rw [show (4 : Nat) = 2 ^ 2 from rfl, ← Nat.pow_add]
        exact Nat.pow_le_pow_right (by decide) (by omega)
      have k2 := cnt_sm (f := fun t => m3 (prM l W i (i + 1 + t)) (mcN l W (i + 1) (i + 1 + t)) (mcN l W (i + 1 + t + 1) (i + (n + 1)))) (b := 2 ^ (16 * n + 2)) (i + (n + 1) - i - 1) fun k hk => cnt_m3 (cnt_pr _ _ _ _) (ih' _ _ (by omega) (by omega)) (ih' _ _ (by omega) (by omega)) (by omega)
      have k3 := cnt_sm (f := fun t => m3 (opM l W i) (mcN l W (i + 1) (i + 1 + t)) (mcN l W (i + 1 + t) (i + (n + 1)))) (b := 2 ^ (16 * n + 2)) (i + (n + 1) - i) fun k hk => cnt_m3 (cnt_op _ _ _) (ih' _ _ (by omega) (by omega)) (ih' _ _ (by omega) (by omega)) (by omega)
      have k4 := cnt_sm (f := fun t => m3 (clM l W (i + t)) (mcN l W i (i + t)) (mcN l W (i + t + 1) (i + (n + 1)))) (b := 2 ^ (16 * n + 2)) (i + (n + 1) - i) fun k hk => cnt_m3 (cnt_cl _ _ _) (ih' _ _ (by omega) (by omega)) (ih' _ _ (by omega) (by omega)) (by omega)
      have a1 := cnt_add (mMul (sgM l W i) (mcN l W (i + 1) (i + (n + 1)))) (mAdd (sm (fun t => m3 (prM l W i (i + 1 + t)) (mcN l W (i + 1) (i + 1 + t)) (mcN l W (i + 1 + t + 1) (i + (n + 1)))) (i + (n + 1) - i - 1))
        (mAdd (sm (fun t => m3 (opM l W i) (mcN l W (i + 1) (i + 1 + t)) (mcN l W (i + 1 + t) (i + (n + 1)))) (i + (n + 1) - i)) (sm (fun t => m3 (clM l W (i + t)) (mcN l W i (i + t)) (mcN l W (i + t + 1) (i + (n + 1)))) (i + (n + 1) - i))))
      have a2 := cnt_add (sm (fun t => m3 (prM l W i (i + 1 + t)) (mcN l W (i + 1) (i + 1 + t)) (mcN l W (i + 1 + t + 1) (i + (n + 1)))) (i + (n + 1) - i - 1))
        (mAdd (sm (fun t => m3 (opM l W i) (mcN l W (i + 1) (i + 1 + t)) (mcN l W (i + 1 + t) (i + (n + 1)))) (i + (n + 1) - i)) (sm (fun t => m3 (clM l W (i + t)) (mcN l W i (i + t)) (mcN l W (i + t + 1) (i + (n + 1)))) (i + (n + 1) - i)))
      have a3 := cnt_add (sm (fun t => m3 (opM l W i) (mcN l W (i + 1) (i + 1 + t)) (mcN l W (i + 1 + t) (i + (n + 1)))) (i + (n + 1) - i)) (sm (fun t => m3 (clM l W (i + t)) (mcN l W i (i + t)) (mcN l W (i + t + 1) (i + (n + 1)))) (i + (n + 1) - i))
      have e : (2 : Nat) ^ (16 * (n + 1)) = 16384 * 2 ^ (16 * n + 2) := by
        rw [show (16384 : Nat) = 2 ^ 14 from rfl, ← Nat.pow_add]
        congr 1
        omega
      rw [e]
      generalize (2 : Nat) ^ (16 * n + 2) = B at k1 k2 k3 k4 ⊢
      have q2 : (i + (n + 1) - i - 1) * B ≤ 1000 * B := Nat.mul_le_mul_right _ (by omega)
      have q3 : (i + (n + 1) - i) * B ≤ 1000 * B := Nat.mul_le_mul_right _ (by omega)
      omega
theorem mcN_big {l : List Nat} {W : Wd} {i j : Nat} (h : i ≤ j) (h2 : j - i ≤ 1000) : cnt (mcN l W i j) < 2 ^ 16001 := by
  have := mcN_cnt (l := l) (W := W) (j - i) i h2
  rw [show i + (j - i) = j by omega] at this
  exact Nat.lt_of_le_of_lt this (Nat.pow_lt_pow_right (by decide) (by omega))
/-! ### values -/
def cV : MC → V
  | none => .non
  | some p => .int p.1
def nV : MC → V
  | none => .int 0
  | some p => .int p.2
theorem nV_cnt (x : MC) : nV x = .int (cnt x) := by cases x <;> rfl
def colV (g : MC → V) (F : Nat → Nat → MC) (j n : Nat) : List V := (List.range n).map fun i => g (F i j)
theorem colV_at {g : MC → V} {F : Nat → Nat → MC} {j n i : Nat} (h : i < n) : (colV g F j n)[i]? = some (g (F i j)) := by
  unfold colV
  rw [List.getElem?_map, List.getElem?_range h]
  rfl
theorem colV_congr {g : MC → V} {F F' : Nat → Nat → MC} {j n : Nat} (h : ∀ i, i < n → F i j = F' i j) : colV g F j n = colV g F' j n := by
  unfold colV
  exact List.map_congr_left fun i hi => by rw [h i (List.mem_range.mp hi)]
/-! ### lists of pairs of whole numbers -/
def Prs (H : Hp) (a : Addr) (xs : List (Nat × Nat)) : Prop := ∃ rs : List Addr, H a = some (.lst (rs.map V.ref)) ∧ rs.length = xs.length ∧ ∀ (k : Nat) (r : Addr) (x : Nat × Nat), rs[k]? = some r → xs[k]? = some x → H r = some (.tup [.int x.1, .int x.2])
theorem Prs.same {H H' : Hp} {a : Addr} {xs : List (Nat × Nat)} (h : Prs H a xs) (s : Same H H') : Prs H' a xs := by
  obtain ⟨rs, h1, h2, h3⟩ := h
  exact ⟨rs, s _ _ h1, h2, fun k r x q1 q2 => s _ _ (h3 k r x q1 q2)⟩
theorem Prs.lst {H : Hp} {a : Addr} {xs : List (Nat × Nat)} (h : Prs H a xs) : ∃ ys, H a = some (.lst ys) ∧ ys.length = xs.length := by
  obtain ⟨rs, h1, h2, h3⟩ := h
  exact ⟨_, h1, by rw [List.length_map]; exact h2⟩
theorem Prs.but {H H' : Hp} {a p : Addr} {xs : List (Nat × Nat)} {ys : List V} (h : Prs H a xs) (s : But p H H') (hp : H p = some (.lst ys)) (hn : a ≠ p) : Prs H' a xs := by
  obtain ⟨rs, h1, h2, h3⟩ := h
  refine ⟨rs, s _ _ hn h1, h2, fun k r x q1 q2 => s _ _ (fun e => ?_) (h3 k r x q1 q2)⟩
  have := h3 k r x q1 q2
  rw [e, hp] at this
  cases this
theorem Prs.snoc {H H' : Hp} {a t : Addr} {xs : List (Nat × Nat)} {x : Nat × Nat} (h : Prs H a xs) (ht : H t = some (.tup [.int x.1, .int x.2])) (s : But a H H') (h2 : ∀ rs : List Addr, H a = some (.lst (rs.map V.ref)) → H' a = some (.lst (rs.map V.ref ++ [.ref t]))) : Prs H' a (xs ++ [x]) := by
  obtain ⟨rs, h1, hl, h3⟩ := h
  have ne : ∀ r ys, H r = some (.tup ys) → r ≠ a := fun r ys e q => by rw [q, h1] at e; cases e
  refine ⟨rs ++ [t], by rw [h2 rs h1, List.map_append]; rfl, by simp [hl], fun k r y q1 q2 => ?_⟩
  by_cases e : k < rs.length
  · rw [List.getElem?_append_left e] at q1
    rw [List.getElem?_append_left (by omega)] at q2
    have := h3 k r y q1 q2
    exact s _ _ (ne _ _ this) this
  · have hk : k = rs.length := by
      have := (List.getElem?_eq_some_iff.mp q1).1
      simp at this
      omega
    rw [List.getElem?_append_right (by omega), hk, Nat.sub_self] at q1
    rw [List.getElem?_append_right (by omega), hk, hl, Nat.sub_self] at q2
    have e1 : t = r := Option.some.inj q1
    have e2 : x = y := Option.some.inj q2
    subst e1 e2
    exact s _ _ (ne _ _ ht) ht
/-! ### tuples that stay -/
theorem SqT.same {K : PySem.W.Frag} {H H' : Hp} {a : Addr} {xs : List V} (s : Same H H') (h : SqT K H a xs) : SqT K H' a xs := by
  rcases h with (h | ⟨o, h⟩) | h
  · exact .inl (.inl (s _ _ h))
  · exact .inl (.inr ⟨o, s _ _ h⟩)
  · exact .inr h
theorem SqT.but {K : PySem.W.Frag} {H H' : Hp} {a p : Addr} {xs : List V} {u : HO} (s : But p H H') (h : SqT K H a xs) (hp : H p = some u) (hu : (∀ ys, u ≠ .tup ys) ∧ ∀ o ys, u ≠ .frz o (.tup ys)) : SqT K H' a xs := by
  rcases h with (h | ⟨o, h⟩) | h
  · exact .inl (.inl (s _ _ (fun e => by rw [e, hp] at h; exact hu.1 _ (Option.some.inj h)) h))
  · exact .inl (.inr ⟨o, s _ _ (fun e => by rw [e, hp] at h; exact hu.2 _ _ (Option.some.inj h)) h⟩)
  · exact .inr h
/-- the words: a tuple of texts -/
def WdIs (K : PySem.W.Frag) (H : Hp) (v : V) (W : Wd) : Prop := ∃ a xs, v = .ref a ∧ SqT K H a xs ∧ xs.all flatV = true ∧ inV (Tx [112, 117, 116]) xs = W.pt ∧ inV (Tx [115, 116, 114, 105, 107, 101]) xs = W.st ∧ inV (Tx [116, 117, 114, 110]) xs = W.tn
theorem WdIs.same {K : PySem.W.Frag} {H H' : Hp} {v : V} {W : Wd} (h : WdIs K H v W) (s : Same H H') : WdIs K H' v W := by
  obtain ⟨a, xs, h1, h2, h3⟩ := h
  exact ⟨a, xs, h1, SqT.same s h2, h3⟩
theorem WdIs.but {K : PySem.W.Frag} {H H' : Hp} {v : V} {W : Wd} {p : Addr} {ys : List V} (h : WdIs K H v W) (s : But p H H') (hp : H p = some (.lst ys)) : WdIs K H' v W := by
  obtain ⟨a, xs, h1, h2, h3⟩ := h
  exact ⟨a, xs, h1, SqT.but s h2 hp ⟨(fun _ e => nomatch e), (fun _ _ e => nomatch e)⟩, h3⟩
theorem WdIs.butI {K : PySem.W.Frag} {H H' : Hp} {v : V} {W : Wd} {p C dx : Addr} {fs : List (Str × V)} (h : WdIs K H v W) (s : But p H H') (hp : H p = some (.ins C dx fs)) : WdIs K H' v W := by
  obtain ⟨a, xs, h1, h2, h3⟩ := h
  exact ⟨a, xs, h1, SqT.but s h2 hp ⟨(fun _ e => nomatch e), (fun _ _ e => nomatch e)⟩, h3⟩
/-! ### the object -/
def wfl (l : List Nat) (wd : V) (cd kd : Addr) : List (Str × V) := [("signs", Tx l), ("words", wd), ("costs", .ref cd), ("counts", .ref kd)]
theorem wfl_signs (l : List Nat) (wd : V) (cd kd : Addr) : (wfl l wd cd kd).lookup ("signs" : Str) = some (Tx l) := rfl
theorem wfl_words (l : List Nat) (wd : V) (cd kd : Addr) : (wfl l wd cd kd).lookup ("words" : Str) = some wd := rfl
theorem wfl_costs (l : List Nat) (wd : V) (cd kd : Addr) : (wfl l wd cd kd).lookup ("costs" : Str) = some (.ref cd) := rfl
theorem wfl_counts (l : List Nat) (wd : V) (cd kd : Addr) : (wfl l wd cd kd).lookup ("counts" : Str) = some (.ref kd) := rfl
theorem wfl_put (l l' : List Nat) (wd : V) (cd kd : Addr) : putF "signs" (Tx l') (wfl l wd cd kd) = wfl l' wd cd kd := rfl
end Ly

set_option maxHeartbeats 4000000
namespace Ly
/-! ### alike opening brackets: Catalan's numbers -/
section
variable {m c : Nat} (hc : c ∈ OPN)
include hc
end
end Ly

set_option maxHeartbeats 4000000
namespace Ly
open PySem PySem.Spec PyProof.Rows L2 SX
section
variable {X : Cx} {k j : Nat} {C : Addr} {x m : Str} {sp : Sp} {p pos : Pos}
theorem pe_fldK {K : PySem.W.Frag} {e : Expr} {f : Str} {ta : TE} (hK : X.K = K) (he : PE X e ta) (hb : attributeBase e f X.env (eval e X.env) = eval e X.env) : PE X (.Attribute e f pos) (tFld K ta f) := by
  subst hK
  exact pe_fld he hb
end
end Ly

set_option maxHeartbeats 4000000
namespace Ly
/-! ### the least number with how many is the least number -/
def lo (x : MC) (n : Nat) : Prop := ∀ y, x = some y → n ≤ y.1
def hi (x : MC) (n : Nat) : Prop := ∃ y, x = some y ∧ y.1 ≤ n
theorem lo_add {x y : MC} {n : Nat} (h1 : lo x n) (h2 : lo y n) : lo (mAdd x y) n := by
  intro z hz
  cases x with
  | none => exact h2 z hz
  | some p =>
    cases y with
    | none => exact h1 z hz
    | some q =>
      have a := h1 p rfl
      have b := h2 q rfl
      unfold mAdd at hz
      dsimp only at hz
      split at hz
      · rw [← Option.some.inj hz]; exact a
      · split at hz
        · rw [← Option.some.inj hz]; exact b
        · rw [← Option.some.inj hz]; exact a
theorem hi_addL {x y : MC} {n : Nat} (h : hi x n) : hi (mAdd x y) n := by
  obtain ⟨p, rfl, hp⟩ := h
  cases y with
  | none => exact ⟨p, rfl, hp⟩
  | some q =>
    unfold mAdd
    dsimp only
    split
    · exact ⟨_, rfl, hp⟩
    · split
      · exact ⟨_, rfl, by omega⟩
      · exact ⟨_, rfl, hp⟩
theorem hi_addR {x y : MC} {n : Nat} (h : hi y n) : hi (mAdd x y) n := by
  rw [mAdd_comm]
  exact hi_addL h
theorem lo_sm {f : Nat → MC} {n : Nat} : ∀ k, (∀ i, i < k → lo (f i) n) → lo (sm f k) n
  | 0, _ => fun y hy => by cases hy
  | k + 1, h => lo_add (lo_sm k fun i hi => h i (by omega)) (h k (by omega))
theorem hi_sm {f : Nat → MC} {n i : Nat} : ∀ k, i < k → hi (f i) n → hi (sm f k) n
  | 0, h, _ => by omega
  | k + 1, h, hf => by
    by_cases e : i = k
    · subst e
      exact hi_addR hf
    · exact hi_addL (hi_sm k (by omega) hf)
theorem lo_mul {x y : MC} {a b n : Nat} (h1 : lo x a) (h2 : lo y b) (hn : n ≤ a + b) : lo (mMul x y) n := by
  intro z hz
  cases x with
  | none => cases hz
  | some p =>
    cases y with
    | none => cases hz
    | some q =>
      have a := h1 p rfl
      have b := h2 q rfl
      rw [← Option.some.inj hz]
      show n ≤ p.1 + q.1
      omega
theorem hi_mul {x y : MC} {a b n : Nat} (h1 : hi x a) (h2 : hi y b) (hn : a + b ≤ n) : hi (mMul x y) n := by
  obtain ⟨p, rfl, hp⟩ := h1
  obtain ⟨q, rfl, hq⟩ := h2
  exact ⟨_, rfl, by show p.1 + q.1 ≤ n; omega⟩
theorem few_tns : ∀ c ∈ BRK, ∀ d ∈ BRK, (few c d).1 = tns c d := by decide
theorem mcN_lo {l : List Nat} {W : Wd} : ∀ (n i j : Nat), j - i ≤ n → i ≤ j → j ≤ l.length → lo (mcN l W i j) (lstN l i j)
  | 0, i, j, h, h1, h2 => by
    have : i = j := by omega
    subst this
    rw [mcN_self, lstN_self h2]
    intro y _
    omega
  | n + 1, i, j, h, h1, h2 => by
    by_cases e : i = j
    · subst e
      rw [mcN_self, lstN_self h2]
      intro y _
      omega
    · have ih : ∀ a b, i ≤ a → a ≤ b → b ≤ j → b - a ≤ n → lo (mcN l W a b) (lstN l a b) := fun a b k1 k2 k3 k4 => mcN_lo n a b k4 k2 (by omega)
      have hM : ∀ a b, i ≤ a → a ≤ b → b ≤ j → Mn l a b (lstN l a b) := fun a b k1 k2 k3 => (lstN_spec k2 (by omega)).1
      have up : ∀ m, Mn l i j m → lstN l i j ≤ m := fun m hm => (lstN_spec h1 h2).2 m hm
      rw [mcN_step (by omega)]
      obtain ⟨c, hc⟩ : ∃ c, l[i]? = some c := ⟨_, List.getElem?_eq_getElem (by omega)⟩
      unfold stM
      refine lo_add ?_ (lo_add ?_ (lo_add ?_ ?_))
      · unfold sgM
        rw [hc]
        dsimp only
        by_cases hb : c ∈ BRK
        · rw [if_pos hb]
          split
          · exact lo_mul (a := 1) (b := lstN l (i + 1) j) (fun y hy => by rw [← Option.some.inj hy]; exact Nat.le_refl _) (ih _ _ (by omega) (by omega) (by omega) (by omega)) (by have := up _ (.str hc hb (hM (i + 1) j (by omega) (by omega) (by omega))); omega)
          · intro y hy; cases hy
        · rw [if_neg hb]
          exact lo_mul (a := 0) (b := lstN l (i + 1) j) (fun y _ => Nat.zero_le _) (ih _ _ (by omega) (by omega) (by omega) (by omega)) (by have := up _ (.let_ hc hb (hM (i + 1) j (by omega) (by omega) (by omega))); omega)
      · refine lo_sm _ fun t ht => ?_
        obtain ⟨d, hd⟩ : ∃ d, l[i + 1 + t]? = some d := ⟨_, List.getElem?_eq_getElem (by omega)⟩
        unfold m3 prM
        rw [hc, hd]
        dsimp only
        split
        · rename_i hq
          refine lo_mul (a := tns c d + lstN l (i + 1) (i + 1 + t)) (b := lstN l (i + 1 + t + 1) j) (lo_mul (a := tns c d) (b := lstN l (i + 1) (i + 1 + t)) (fun y hy => ?_) (ih _ _ (by omega) (by omega) (by omega) (by omega)) (Nat.le_refl _)) (ih _ _ (by omega) (by omega) (by omega) (by omega)) ?_
          · rw [← Option.some.inj hy, few_tns c hq.1 d hq.2.1]
            exact Nat.le_refl _
          · have := up _ (.pair hc hq.1 hd hq.2.1 (hM (i + 1) (i + 1 + t) (by omega) (by omega) (by omega)) (hM (i + 1 + t + 1) j (by omega) (by omega) (by omega)))
            omega
        · intro y hy; cases hy
      · refine lo_sm _ fun t ht => ?_
        unfold m3 opM
        rw [hc]
        dsimp only
        split
        · rename_i hq
          refine lo_mul (a := 1 + lstN l (i + 1) (i + 1 + t)) (b := lstN l (i + 1 + t) j) (lo_mul (a := 1) (b := lstN l (i + 1) (i + 1 + t)) (fun y hy => by rw [← Option.some.inj hy]; exact Nat.le_refl _) (ih _ _ (by omega) (by omega) (by omega) (by omega)) (Nat.le_refl _)) (ih _ _ (by omega) (by omega) (by omega) (by omega)) ?_
          have := up _ (.str hc (brk_or.mpr (.inl hq.1)) ((hM (i + 1) (i + 1 + t) (by omega) (by omega) (by omega)).app (hM (i + 1 + t) j (by omega) (by omega) (by omega))))
          omega
        · intro y hy; cases hy
      · refine lo_sm _ fun t ht => ?_
        obtain ⟨d, hd⟩ : ∃ d, l[i + t]? = some d := ⟨_, List.getElem?_eq_getElem (by omega)⟩
        unfold m3 clM
        rw [hd]
        dsimp only
        split
        · rename_i hq
          refine lo_mul (a := 1 + lstN l i (i + t)) (b := lstN l (i + t + 1) j) (lo_mul (a := 1) (b := lstN l i (i + t)) (fun y hy => by rw [← Option.some.inj hy]; exact Nat.le_refl _) (ih _ _ (by omega) (by omega) (by omega) (by omega)) (Nat.le_refl _)) (ih _ _ (by omega) (by omega) (by omega) (by omega)) ?_
          have := up _ ((hM i (i + t) (by omega) (by omega) (by omega)).app (.str hd (brk_or.mpr (.inr hq.1)) (hM (i + t + 1) j (by omega) (by omega) (by omega))))
          omega
        · intro y hy; cases hy
theorem mcN_hi {l : List Nat} {W : Wd} (hs : W.st = true) (ht : W.tn = true) {i j n : Nat} (h : Mn l i j n) : hi (mcN l W i j) n := by
  induction h with
  | nil i => exact ⟨_, mcN_self l W i, Nat.le_refl _⟩
  | @let_ i j n c e hb h ih =>
    have hij := h.le
    rw [mcN_step (by omega)]
    refine hi_addL (hi_mul (a := 0) ?_ ih (by omega))
    unfold sgM
    rw [e]
    dsimp only
    rw [if_neg hb]
    exact ⟨_, rfl, Nat.le_refl _⟩
  | @str i j n c e hb h ih =>
    have hij := h.le
    rw [mcN_step (by omega)]
    refine hi_addL (hi_mul (a := 1) ?_ ih (by omega))
    unfold sgM
    rw [e]
    dsimp only
    rw [if_pos hb, if_pos hs]
    exact ⟨_, rfl, Nat.le_refl _⟩
  | @pair i m j a b c d e1 hc e2 hd h1 h2 ih1 ih2 =>
    have k1 := h1.le
    have k2 := h2.le
    rw [mcN_step (by omega)]
    refine hi_addR (hi_addL (hi_sm (i := m - (i + 1)) _ (by omega) ?_))
    rw [show i + 1 + (m - (i + 1)) = m by omega]
    refine hi_mul (a := tns c d + a) (b := b) (hi_mul (a := tns c d) (b := a) ?_ ih1 (Nat.le_refl _)) ih2 (Nat.le_refl _)
    unfold prM
    rw [e1, e2]
    dsimp only
    rw [if_pos ⟨hc, hd, .inr ht⟩]
    exact ⟨_, rfl, by rw [few_tns c hc d hd]; exact Nat.le_refl _⟩
theorem mcN_cost {l : List Nat} {W : Wd} (hs : W.st = true) (ht : W.tn = true) {i j : Nat} (h1 : i ≤ j) (h2 : j ≤ l.length) : ∃ c, mcN l W i j = some (lstN l i j, c) := by
  obtain ⟨y, hy, hle⟩ := mcN_hi hs ht (lstN_spec h1 h2).1
  have := mcN_lo (W := W) (j - i) i j (Nat.le_refl _) h1 h2 y hy
  refine ⟨y.2, ?_⟩
  rw [hy, show lstN l i j = y.1 by omega]
end Ly

set_option maxHeartbeats 4000000
namespace Ly
open PySem PySem.Spec PyProof.Rows L2 SX
/-! ### data in heaps -/
section
variable {K : PySem.W.Frag} {H : Hp} {Q : VK} {x y : V} {d e : PyData}
end
end Ly

set_option maxHeartbeats 4000000
namespace Ly
open PySem PySem.Spec PyProof.Rows L2 SX
/-! ### deeds -/
inductive Dw where
  | put (c : Nat)
  | str
  | trn (c : Nat)
  deriving DecidableEq
abbrev Deed := Nat × Dw
def Dw.w : Dw → List Nat
  | .put _ => [112, 117, 116]
  | .str => [115, 116, 114, 105, 107, 101]
  | .trn _ => [116, 117, 114, 110]
def Dw.s : Dw → List Nat
  | .put c => [c]
  | .str => []
  | .trn c => [c]
def Dw.isPut : Dw → Bool
  | .put _ => true
  | _ => false
def ddV (d : Deed) : List V := [.int (d.1 : Nat), Tx d.2.w, Tx d.2.s]
def nxB (d e : Deed) : Bool := decide (d.1 < e.1) || (decide (d.1 = e.1) && d.2.isPut)
def putc (p : Nat) (d : Deed) : List Nat := if d.1 = p then (match d.2 with | .put c => [c] | _ => []) else []
def puts (ds : List Deed) (p : Nat) : List Nat := (ds.map (putc p)).flatten
def othD : List Deed → Nat → Option Dw
  | [], _ => none
  | d :: r, p => match othD r p with
    | some w => some w
    | none => if d.1 = p ∧ d.2.isPut = false then some d.2 else none
def mid (o : Option Dw) (x : List Nat) : List Nat := match o with
  | none => x
  | some w => w.s
def piece (l : List Nat) (ds : List Deed) (p : Nat) : List Nat := puts ds p ++ mid (othD ds p) ((l.drop p).take 1)
def app (d : Deed) (s : List Nat) : List Nat := match d.2 with
  | .put c => s.take d.1 ++ [c] ++ s.drop d.1
  | .str => s.eraseIdx d.1
  | .trn c => s.set d.1 c
def behind (l : List Nat) (ds : List Deed) : List Nat := ds.foldr app l
/-! ### lists of deeds in heaps -/
structure Dds (H : Hp) (a : Addr) (rs : List Addr) (ds : List Deed) : Prop where
  hd : H a = some (.lst (rs.map V.ref))
  len : rs.length = ds.length
  it : ∀ (k : Nat) (r : Addr) (d : Deed), rs[k]? = some r → ds[k]? = some d → H r = some (.tup (ddV d))
theorem Dds.same {H H' : Hp} {a : Addr} {rs : List Addr} {ds : List Deed} (h : Dds H a rs ds) (s : Same H H') : Dds H' a rs ds := ⟨s _ _ h.hd, h.len, fun k r d h1 h2 => s _ _ (h.it k r d h1 h2)⟩
theorem Dds.but {H H' : Hp} {a p : Addr} {rs : List Addr} {ds : List Deed} {ys : List V} (h : Dds H a rs ds) (s : But p H H') (hp : H p = some (.lst ys)) (hn : a ≠ p) : Dds H' a rs ds := by
  refine ⟨s _ _ hn h.hd, h.len, fun k r d h1 h2 => ?_⟩
  have := h.it k r d h1 h2
  exact s _ _ (fun e => by rw [e, hp] at this; cases this) this
theorem Dds.row {H : Hp} {a : Addr} {rs : List Addr} {ds : List Deed} (h : Dds H a rs ds) {k : Nat} (hk : k < ds.length) : ∃ r d, rs[k]? = some r ∧ ds[k]? = some d ∧ (rs.map V.ref)[k]? = some (V.ref r) ∧ H r = some (.tup (ddV d)) := by
  have e1 : rs[k]? = some (rs[k]'(by rw [h.len]; exact hk)) := List.getElem?_eq_getElem (by rw [h.len]; exact hk)
  have e2 : ds[k]? = some ds[k] := List.getElem?_eq_getElem hk
  exact ⟨_, _, e1, e2, by rw [List.getElem?_map, e1]; rfl, h.it k _ _ e1 e2⟩
theorem Dds.snoc {H H' : Hp} {a t : Addr} {rs : List Addr} {ds : List Deed} {d : Deed} (h : Dds H a rs ds) (ht : H t = some (.tup (ddV d))) (s : But a H H') (e : H' a = some (.lst (rs.map V.ref ++ [.ref t]))) : Dds H' a (rs ++ [t]) (ds ++ [d]) := by
  have ne : ∀ r ys, H r = some (.tup ys) → r ≠ a := fun r ys e q => by rw [q, h.hd] at e; cases e
  refine ⟨by rw [e, List.map_append]; rfl, by simp [h.len], fun k r y q1 q2 => ?_⟩
  by_cases hk : k < rs.length
  · rw [List.getElem?_append_left hk] at q1
    rw [List.getElem?_append_left (by rw [← h.len]; exact hk)] at q2
    have := h.it k r y q1 q2
    exact s _ _ (ne _ _ this) this
  · have hk : k = rs.length := by
      have := (List.getElem?_eq_some_iff.mp q1).1
      simp at this
      omega
    rw [List.getElem?_append_right (by omega), hk, Nat.sub_self] at q1
    rw [List.getElem?_append_right (by rw [← h.len]; omega), hk, h.len, Nat.sub_self] at q2
    have e1 : t = r := Option.some.inj q1
    have e2 : d = y := Option.some.inj q2
    subst e1 e2
    exact s _ _ (ne _ _ ht) ht
/-! ### one sign of a text by a slice -/
section
variable {K : PySem.W.Frag} {σ : L2.St} {H : Hp} {g : TG} {tb : TS} {D : Ends} {a b : Addr} {xs ys : List V}
end
end Ly

set_option maxHeartbeats 4000000
namespace Ly
/-! ### deeds as rows of steps -/
inductive Stp where
  | kp (c : Nat)
  | st (c : Nat)
  | tn (c d : Nat)
  | pt (d : Nat)
  deriving DecidableEq
def Stp.i : Stp → List Nat
  | .kp c => [c]
  | .st c => [c]
  | .tn c _ => [c]
  | .pt _ => []
def Stp.o : Stp → List Nat
  | .kp c => [c]
  | .st _ => []
  | .tn _ d => [d]
  | .pt d => [d]
def Stp.ok : Stp → Prop
  | .kp _ => True
  | .st c => c ∈ BRK
  | .tn c d => c ∈ BRK ∧ d ∈ BRK ∧ d ≠ c
  | .pt d => d ∈ BRK
def inS (α : List Stp) : List Nat := (α.map Stp.i).flatten
def outS (α : List Stp) : List Nat := (α.map Stp.o).flatten
def okS (α : List Stp) : Prop := ∀ s ∈ α, s.ok
def ddS : Nat → List Stp → List Deed
  | _, [] => []
  | p, .kp _ :: α => ddS (p + 1) α
  | p, .st _ :: α => (p, .str) :: ddS (p + 1) α
  | p, .tn _ d :: α => (p, .trn d) :: ddS (p + 1) α
  | p, .pt d :: α => (p, .put d) :: ddS p α
theorem outS_cons (s : Stp) (α : List Stp) : outS (s :: α) = s.o ++ outS α := rfl
/-! the row of steps of deeds -/
/-! ### deeds that lead back -/
/-! ### rows of old and new signs -/
section
open PySem PySem.Spec PyProof.Rows L2 SX
variable {X : Cx} {tg : Expr}
end
end Ly

set_option maxHeartbeats 4000000
namespace Ly
open PySem PySem.Spec PyProof.Rows L2 SX
/-! ### exceptions that are caught and kept -/
section
variable {X : Cx} {pins : List (Addr × Obj)} {σ : L2.St} {H : Hp} {s : Shared}
end
section
variable {X : Cx} {x n : Str} {c : Value} {i : Nat} {body suite : List Stmt} {b₀ : Stmt} {np pos pos' : Pos} {tb : WX → TS} {ts : Addr → Value → Option Addr → TS} {Wout : WX}
end
/-! isinstance of a kept exception -/
section
variable {X : Cx}
end
/-! defs that raise -/
section
variable {P : Program} {w : World} {K : PySem.W.Frag} {mg : Str → Option Value} {base : Heap}
end
def tOwnX (sp : Sp) (W : WX) (t : TA) : TE := fun σ H Q => t σ H fun vs H1 => sp vs H1 Q (fun cls d H2 => W cls d σ H2)
def tMetX (C : Addr) (m : Str) (sp : Sp) (W : WX) (ta : TE) (t : TA) : TE := fun σ H Q => ta σ H fun x H1 => rMetO C m x H1 (t σ H1 fun vs H2 => sp (x :: vs) H2 Q (fun cls d H2 => W cls d σ H2))
section
variable {X : Cx} {k j : Nat} {C : Addr} {x m : Str} {sp : Sp} {p pos apos : Pos} {e o : Expr} {es : List Expr} {ta : TE} {t : TA} {W : WX}
end
/-! what is known of an error's class -/
structure ErrF (K : PySem.W.Frag) (C M : Addr) : Prop where
  x : PySem.W.excIn K C [.type "ValueError", .type "Exception", .type "BaseException", .type "object"] "ValueError.__new__" = true
  kp : PySem.W.keepIn K (.ref C) = true
  sb : PySem.W.subIn K (.ref C) (.type "BaseException") = some true
  ty : PySem.W.typeIn K (.ref C) = some (.type "type")
  ec : ExcC K C
  em : PySem.W.exmOne K (.ref C) (.ref M) = some true
def errB (K : PySem.W.Frag) (C M : Addr) : Bool := PySem.W.excIn K C [.type "ValueError", .type "Exception", .type "BaseException", .type "object"] "ValueError.__new__" && (PySem.W.keepIn K (.ref C) && (PySem.W.subIn K (.ref C) (.type "BaseException") == some true && (PySem.W.typeIn K (.ref C) == some (.type "type") &&
  (PySem.W.findIn K (.ref C) "__getattribute__" == some (some (.builtin "BaseException.__getattribute__")) && (PySem.W.findIn K (.ref C) "__getattr__" == some none && (PySem.W.hasDictIn K C && (PySem.W.findIn K (.ref C) "__class__" == some (some (.builtin "object.__class__")) &&
  (PySem.W.specialIn K (.builtin "object.__class__") "__get__" == some (some (.builtin "getset_descriptor.__get__")) && (PySem.W.takesIn K (.builtin "object.__class__") == some true && (PySem.W.mroIn K C (.type "object") == some true && PySem.W.exmOne K (.ref C) (.ref M) == some true))))))))))
theorem errB_ok {K : PySem.W.Frag} {C M : Addr} (h : errB K C M = true) : ErrF K C M := by
  unfold errB at h
  simp only [Bool.and_eq_true, beq_iff_eq] at h
  obtain ⟨h1, h2, h3, h4, h5, h6, h7, h8, h9, h10, h11, h12⟩ := h
  exact ⟨h1, h2, h3, h4, ⟨h5, h6, h3, h7, h8, h9, h10, h11⟩, h12⟩
theorem all_at {bs : List Bool} (h : bs.all id = true) {i : Nat} {b : Bool} (e : bs[i]? = some b) : b = true := List.all_eq_true.mp h b (List.mem_of_getElem? e)
/-! readings -/
section
variable {K : PySem.W.Frag} {H : Hp} {Q : VK} {a D : Addr}
end
end Ly

set_option maxHeartbeats 4000000
namespace Ly
open PySem PySem.Spec PyProof.Rows L2 SX
/-! ### promises that stand where nothing is being shown: repr -/
section
variable {P : Program} {w : World} {K : PySem.W.Frag} {mg : Str → Option Value} {base : Heap}
end
/-! ### the law's call -/
section
variable {P : Program} {w : World} {K : PySem.W.Frag} {mg mb : Str → Option Value} {k : Nat} {fa a : Addr} {fd : FuncData} {x : Str} {sp : Sp} {s₁ : Shared} {vs : List Value} {ns : List Int}
end
/-! ### repr of data -/
section
variable {X : Cx}
end
/-! lists of small numbers -/
end Ly

set_option maxHeartbeats 4000000
namespace Ly
open PySem PySem.Spec PyProof.Rows L2 SX
/-! ### paths, depths, the nests within a nest -/
/-! ways of the maker -/
section
variable {fs : List (List Nd × Nat)} {cur ds : List Nd} {c o : Nat}
end
/-! what a path leads to -/
def Rch : List Nd → List Nat → Nd → Prop
  | _, [], _ => False
  | ds, [k], d => ds[k]? = some d
  | ds, k :: j :: p, d => ∃ o es, ds[k]? = some (.br o es) ∧ Rch es (j :: p) d
theorem Rch.cons {ds es : List Nd} {k o : Nat} {p : List Nat} {d : Nd} (h : ds[k]? = some (.br o es)) (r : Rch es p d) : Rch ds (k :: p) d := by
  cases p with
  | nil => exact r.elim
  | cons j p => exact ⟨o, es, h, r⟩
/-! the text within -/
/-! an opening sign of a nest's text opens the nest that stands there in the row of nests within -/
end Ly

set_option maxHeartbeats 4000000
namespace Ly
open PySem PySem.Spec PyProof.Rows L2 SX
/-! ### len(set) of tuples of ints -/
/-! ### nests side by side -/
/-! paths: all different, each behind the one it goes on from -/
/-! outlines side by side, within -/
end Ly

set_option maxHeartbeats 4000000
namespace Ly
/-! ### all rows of steps with so many deeds, counted -/
def Stp.wd (W : Wd) : Stp → Prop
  | .kp _ => True
  | .st _ => W.st = true
  | .tn _ _ => W.tn = true
  | .pt _ => W.pt = true
def cstS : List Stp → Nat
  | [] => 0
  | .kp _ :: α => cstS α
  | .st _ :: α => cstS α + 1
  | .tn _ _ :: α => cstS α + 1
  | .pt _ :: α => cstS α + 1
/-- all rows of steps by words, from a pile of awaited ones, over a text, with so many deeds, in order -/
def rowsL (W : Wd) (st r : List Nat) (n : Nat) : List (List Stp) :=
  (match n with
   | 0 => []
   | n + 1 => if W.pt = true then BRK.flatMap fun c => (match stp (some st) c with | none => [] | some s => rowsL W s r n).map (Stp.pt c :: ·) else [])
  ++ (match r with
   | [] => if st = [] ∧ n = 0 then [[]] else []
   | x :: r => if x ∈ BRK then
        (match n with
         | 0 => []
         | n + 1 => (if W.st = true then (rowsL W st r n).map (Stp.st x :: ·) else []) ++ (if W.tn = true then (BRK.filter (· ≠ x)).flatMap fun c => (match stp (some st) c with | none => [] | some s => rowsL W s r n).map (Stp.tn x c :: ·) else []))
        ++ (match stp (some st) x with | none => [] | some s => rowsL W s r n).map (Stp.kp x :: ·)
      else (rowsL W st r n).map (Stp.kp x :: ·))
termination_by n + r.length
/-! series -/
abbrev Ser := Nat → Nat
def sh (f : Ser) : Ser := fun n => match n with | 0 => 0 | n + 1 => f n
def gat (b : Bool) (f : Ser) : Ser := fun n => if b = true then f n else 0
def oA (f : List Nat → Ser) (o : Option (List Nat)) : Ser := fun n => match o with | none => 0 | some s => f s n
def bS (cs : List Nat) (f : Nat → Ser) : Ser := fun n => (cs.map fun c => f c n).sum
def An (W : Wd) (st r : List Nat) : Ser := fun n => (rowsL W st r n).length
def pA (W : Wd) (st r : List Nat) : Ser := sh (gat W.pt (bS BRK fun c => oA (fun s => An W s r) (stp (some st) c)))
theorem len_oA {W : Wd} {r : List Nat} {n : Nat} (o : Option (List Nat)) (f : List Stp → List Stp) : ((match o with | none => [] | some s => rowsL W s r n).map f).length = oA (fun s => An W s r) o n := by
  cases o with
  | none => rfl
  | some s => rw [List.length_map]; rfl
theorem len_bS {W : Wd} {r st : List Nat} {n : Nat} (cs : List Nat) (f : Nat → List Stp → List Stp) : (cs.flatMap fun c => (match stp (some st) c with | none => [] | some s => rowsL W s r n).map (f c)).length = bS cs (fun c => oA (fun s => An W s r) (stp (some st) c)) n := by
  rw [List.length_flatMap]
  unfold bS
  congr 1
  exact List.map_congr_left fun c _ => len_oA _ _
theorem pA_len {W : Wd} {r st : List Nat} {n : Nat} : (match n with
   | 0 => []
   | n + 1 => if W.pt = true then BRK.flatMap fun c => (match stp (some st) c with | none => [] | some s => rowsL W s r n).map (Stp.pt c :: ·) else []).length = pA W st r n := by
  cases n with
  | zero => rfl
  | succ n =>
    unfold pA sh gat
    dsimp only
    by_cases h : W.pt = true
    · rw [if_pos h, if_pos h, len_bS]
    · rw [if_neg h, if_neg h]; rfl
theorem An_nil (W : Wd) (st : List Nat) (n : Nat) : An W st [] n = pA W st [] n + if st = [] ∧ n = 0 then 1 else 0 := by
  show (rowsL W st [] n).length = _
  rw [rowsL.eq_def, List.length_append, pA_len]
  dsimp only
  by_cases h : st = [] ∧ n = 0
  · rw [if_pos h, if_pos h]; rfl
  · rw [if_neg h, if_neg h]; rfl
theorem An_let {W : Wd} {x : Nat} (hx : x ∉ BRK) (st r : List Nat) (n : Nat) : An W st (x :: r) n = pA W st (x :: r) n + An W st r n := by
  show (rowsL W st (x :: r) n).length = _
  rw [rowsL.eq_def, List.length_append, pA_len]
  dsimp only
  rw [if_neg hx, List.length_map]
  rfl
def tA (W : Wd) (st : List Nat) (x : Nat) (r : List Nat) : Ser := sh fun n => gat W.st (An W st r) n + gat W.tn (bS (BRK.filter (· ≠ x)) fun c => oA (fun s => An W s r) (stp (some st) c)) n
theorem An_brk {W : Wd} {x : Nat} (hx : x ∈ BRK) (st r : List Nat) (n : Nat) : An W st (x :: r) n = pA W st (x :: r) n + (tA W st x r n + oA (fun s => An W s r) (stp (some st) x) n) := by
  show (rowsL W st (x :: r) n).length = _
  rw [rowsL.eq_def, List.length_append, pA_len]
  dsimp only
  rw [if_pos hx, List.length_append, len_oA]
  congr 2
  cases n with
  | zero => rfl
  | succ n =>
    dsimp only [tA, sh]
    rw [List.length_append]
    congr 1
    · unfold gat
      by_cases h : W.st = true
      · rw [if_pos h, if_pos h, List.length_map]; rfl
      · rw [if_neg h, if_neg h]; rfl
    · unfold gat
      by_cases h : W.tn = true
      · rw [if_pos h, if_pos h, len_bS]
      · rw [if_neg h, if_neg h]; rfl
/-! products -/
def cv : Ser → Ser → Ser
  | f, g, 0 => f 0 * g 0
  | f, g, n + 1 => f 0 * g (n + 1) + cv (fun a => f (a + 1)) g n
theorem cv_add (f f' g : Ser) : ∀ n, cv (fun a => f a + f' a) g n = cv f g n + cv f' g n := by
  intro n
  induction n generalizing f f' with
  | zero => exact Nat.add_mul _ _ _
  | succ n ih => rw [cv, cv, cv, ih, Nat.add_mul]; omega
theorem cv_addR (f g g' : Ser) : ∀ n, cv f (fun a => g a + g' a) n = cv f g n + cv f g' n := by
  intro n
  induction n generalizing f with
  | zero => exact Nat.mul_add _ _ _
  | succ n ih => rw [cv, cv, cv, ih, Nat.mul_add]; omega
theorem cv_zero (g : Ser) : ∀ n, cv (fun _ => 0) g n = 0 := by
  intro n
  induction n with
  | zero => exact Nat.zero_mul _
  | succ n ih => rw [cv, ih, Nat.zero_mul]
theorem cv_zeroR (f : Ser) : ∀ n, cv f (fun _ => 0) n = 0 := by
  intro n
  induction n generalizing f with
  | zero => exact Nat.mul_zero _
  | succ n ih => rw [cv, ih, Nat.mul_zero]
theorem cv_sh (f g : Ser) (n : Nat) : cv (sh f) g n = sh (cv f g) n := by
  cases n with
  | zero => exact Nat.zero_mul _
  | succ n => show sh f 0 * g (n + 1) + cv (fun a => f a) g n = cv f g n; rw [show sh f 0 = 0 from rfl, Nat.zero_mul, Nat.zero_add]
theorem cv_one (g : Ser) (n : Nat) : cv (fun a => if a = 0 then 1 else 0) g n = g n := by
  cases n with
  | zero => exact Nat.one_mul _
  | succ n =>
    show 1 * g (n + 1) + cv (fun a => if a + 1 = 0 then 1 else 0) g n = g (n + 1)
    rw [show (fun a : Nat => if a + 1 = 0 then 1 else 0) = fun _ => 0 from funext fun a => if_neg (by omega), cv_zero]
    omega
theorem cv_shR (f g : Ser) : ∀ n, cv f (sh g) n = sh (cv f g) n := by
  intro n
  induction n generalizing f with
  | zero => exact Nat.mul_zero _
  | succ n ih =>
    rw [cv, ih]
    cases n with
    | zero => show f 0 * g 0 + 0 = f 0 * g 0; omega
    | succ n => rfl
theorem cv_pos {f g : Ser} : ∀ {n : Nat}, cv f g n ≠ 0 ↔ ∃ a b, a + b = n ∧ f a ≠ 0 ∧ g b ≠ 0 := by
  intro n
  induction n generalizing f with
  | zero =>
    constructor
    · intro h
      exact ⟨0, 0, rfl, fun e => h (by show f 0 * g 0 = 0; rw [e, Nat.zero_mul]), fun e => h (by show f 0 * g 0 = 0; rw [e, Nat.mul_zero])⟩
    · rintro ⟨a, b, e, h1, h2⟩
      have ea : a = 0 := by omega
      have eb : b = 0 := by omega
      subst ea eb
      exact Nat.mul_ne_zero h1 h2
  | succ n ih =>
    rw [cv]
    constructor
    · intro h
      by_cases h0 : f 0 * g (n + 1) = 0
      · have h1 : cv (fun a => f (a + 1)) g n ≠ 0 := by omega
        obtain ⟨a, b, e, ha, hb⟩ := ih.mp h1
        exact ⟨a + 1, b, by omega, ha, hb⟩
      · exact ⟨0, n + 1, by omega, fun e => h0 (by rw [e, Nat.zero_mul]), fun e => h0 (by rw [e, Nat.mul_zero])⟩
    · rintro ⟨a, b, e, ha, hb⟩
      cases a with
      | zero =>
        have eb : b = n + 1 := by omega
        subst eb
        have := Nat.mul_ne_zero ha hb
        omega
      | succ a =>
        have := (ih (f := fun a => f (a + 1))).mpr ⟨a, b, by omega, ha, hb⟩
        omega
/-- over all ways to part a text in two -/
def SP (f g : List Nat → Ser) : List Nat → Ser
  | [] => cv (f []) (g [])
  | x :: r => fun n => cv (f []) (g (x :: r)) n + SP (fun u => f (x :: u)) g r n
theorem SP_congr {f f' g g' : List Nat → Ser} : ∀ {r : List Nat}, (∀ u v, u ++ v = r → f u = f' u) → (∀ u v, u ++ v = r → g v = g' v) → SP f g r = SP f' g' r
  | [], h1, h2 => by rw [SP, SP, h1 [] [] rfl, h2 [] [] rfl]
  | x :: r, h1, h2 => by
    funext n
    rw [SP, SP, h1 [] (x :: r) rfl, h2 [] (x :: r) rfl, SP_congr (f := fun u => f (x :: u)) (f' := fun u => f' (x :: u)) (fun u v e => h1 (x :: u) v (by rw [List.cons_append, e])) (fun u v e => h2 (x :: u) v (by rw [List.cons_append, e]))]
theorem SP_add (f f' g : List Nat → Ser) : ∀ (r : List Nat) (n : Nat), SP (fun u a => f u a + f' u a) g r n = SP f g r n + SP f' g r n
  | [], n => cv_add _ _ _ n
  | x :: r, n => by
    show cv (fun a => f [] a + f' [] a) _ n + SP (fun u a => f (x :: u) a + f' (x :: u) a) g r n = _
    rw [cv_add, SP_add (fun u => f (x :: u)) (fun u => f' (x :: u)) g r n, SP, SP]
    dsimp only
    omega
theorem SP_addR (f g g' : List Nat → Ser) : ∀ (r : List Nat) (n : Nat), SP f (fun v a => g v a + g' v a) r n = SP f g r n + SP f g' r n := by
  intro r
  induction r generalizing f with
  | nil => intro n; exact cv_addR _ _ _ n
  | cons x r ih =>
    intro n
    show cv _ (fun a => g (x :: r) a + g' (x :: r) a) n + SP (fun u => f (x :: u)) (fun v a => g v a + g' v a) r n = _
    rw [cv_addR, ih, SP, SP]
    dsimp only
    omega
theorem SP_zero (g : List Nat → Ser) : ∀ (r : List Nat) (n : Nat), SP (fun _ _ => 0) g r n = 0
  | [], n => cv_zero _ n
  | x :: r, n => by
    show cv (fun _ => 0) _ n + SP (fun _ _ => 0) g r n = 0
    rw [cv_zero, SP_zero g r n]
theorem SP_sh (f g : List Nat → Ser) : ∀ (r : List Nat) (n : Nat), SP (fun u => sh (f u)) g r n = sh (SP f g r) n := by
  intro r
  induction r generalizing f with
  | nil => intro n; exact cv_sh _ _ n
  | cons x r ih =>
    intro n
    show cv (sh (f [])) _ n + SP (fun u => sh (f (x :: u))) g r n = _
    rw [cv_sh, ih (fun u => f (x :: u))]
    cases n <;> rfl
theorem SP_gat (b : Bool) (f g : List Nat → Ser) (r : List Nat) (n : Nat) : SP (fun u => gat b (f u)) g r n = gat b (SP f g r) n := by
  cases b with
  | true => rfl
  | false => exact SP_zero g r n
theorem SP_bS (cs : List Nat) (f : Nat → List Nat → Ser) (g : List Nat → Ser) (r : List Nat) (n : Nat) : SP (fun u => bS cs fun c => f c u) g r n = bS cs (fun c => SP (f c) g r) n := by
  induction cs with
  | nil => exact SP_zero g r n
  | cons c cs ih =>
    have e : (fun u => bS (c :: cs) fun c => f c u) = fun u a => f c u a + bS cs (fun c => f c u) a := rfl
    rw [e, SP_add, ih]
    rfl
theorem SP_oA (f : List Nat → List Nat → Ser) (o : Option (List Nat)) (g : List Nat → Ser) (r : List Nat) (n : Nat) : SP (fun u => oA (fun s => f s u) o) g r n = oA (fun s => SP (f s) g r) o n := by
  cases o with
  | none => exact SP_zero g r n
  | some s => rfl
/-- closing what is awaited last, then the rest -/
def Cl (W : Wd) (k : Nat) (st v : List Nat) : Ser := fun n => sh (gat W.pt (An W st v)) n + match v with
  | [] => 0
  | x :: v => if x ∈ BRK then (if x = k then An W st v n else sh (gat W.tn (An W st v)) n) else 0
theorem stp_under {k : Nat} (hk : k ∈ CLO) (s st : List Nat) (c : Nat) : stp (some (s ++ k :: st)) c = match stp (some s) c with
    | some s' => some (s' ++ k :: st)
    | none => if s = [] ∧ c = k then some st else none := by
  unfold stp
  dsimp only
  by_cases h1 : c ∈ OPN
  · rw [if_pos h1, if_pos h1]; rfl
  · rw [if_neg h1, if_neg h1]
    by_cases h2 : c ∈ CLO
    · rw [if_pos h2, if_pos h2]
      cases s with
      | nil =>
        show (if k = c then some st else none) = if [] = [] ∧ c = k then some st else none
        by_cases e : k = c
        · rw [if_pos e, if_pos ⟨rfl, e.symm⟩]
        · rw [if_neg e, if_neg (fun h => e h.2.symm)]
      | cons d s =>
        show (if d = c then some (s ++ k :: st) else none) = _
        by_cases e : d = c
        · rw [if_pos e]; dsimp only; rw [if_pos e]
        · rw [if_neg e]; dsimp only; rw [if_neg e]; dsimp only; rw [if_neg (fun h => by cases h.1)]
    · rw [if_neg h2, if_neg h2]

/-- all but what is put first -/
def rA (W : Wd) (st : List Nat) : List Nat → Ser
  | [] => fun n => if st = [] ∧ n = 0 then 1 else 0
  | x :: r => fun n => if x ∈ BRK then tA W st x r n + oA (fun s => An W s r) (stp (some st) x) n else An W st r n
theorem An_eq (W : Wd) (st r : List Nat) (n : Nat) : An W st r n = pA W st r n + rA W st r n := by
  cases r with
  | nil => exact An_nil W st n
  | cons x r =>
    show _ = _ + (if x ∈ BRK then tA W st x r n + oA (fun s => An W s r) (stp (some st) x) n else An W st r n)
    by_cases h : x ∈ BRK
    · rw [if_pos h]; exact An_brk h st r n
    · rw [if_neg h]; exact An_let h st r n
theorem SP_pA (W : Wd) (s : List Nat) (g : List Nat → Ser) (r : List Nat) (n : Nat) : SP (pA W s) g r n = sh (gat W.pt (bS BRK fun c => oA (fun s' => SP (An W s') g r) (stp (some s) c))) n := by
  unfold pA
  rw [SP_sh]
  cases n with
  | zero => rfl
  | succ n =>
    show SP (fun u => gat W.pt _) g r n = gat W.pt _ n
    rw [SP_gat]
    unfold gat
    by_cases h : W.pt = true
    · rw [if_pos h, if_pos h, SP_bS BRK (fun c u => oA (fun s' => An W s' u) (stp (some s) c))]
      unfold bS
      congr 1
      exact List.map_congr_left fun c _ => SP_oA (fun s' u => An W s' u) _ g r n
    · rw [if_neg h, if_neg h]
theorem oA_under {W : Wd} {k : Nat} (hk : k ∈ CLO) {s st r : List Nat} {n c : Nat} {g : List Nat → Ser} (ih : ∀ s', An W (s' ++ k :: st) r n = SP (An W s') g r n) :
    oA (fun s => An W s r) (stp (some (s ++ k :: st)) c) n = oA (fun s' => SP (An W s') g r) (stp (some s) c) n + if s = [] ∧ c = k then An W st r n else 0 := by
  rw [stp_under hk]
  by_cases h : s = [] ∧ c = k
  · obtain ⟨rfl, rfl⟩ := h
    have e : stp (some []) c = none := by
      unfold stp
      dsimp only
      rw [if_neg (fun h => opn_clo c h hk), if_pos hk]
    rw [e]
    dsimp only
    rw [if_pos ⟨rfl, rfl⟩, if_pos ⟨rfl, rfl⟩]
    show An W st r n = 0 + An W st r n
    omega
  · rw [if_neg h, if_neg h]
    cases stp (some s) c with
    | none => rfl
    | some s' => exact ih s'
theorem bS_under {W : Wd} {k : Nat} (hk : k ∈ CLO) {s st r : List Nat} {n : Nat} {g : List Nat → Ser} (ih : ∀ s', An W (s' ++ k :: st) r n = SP (An W s') g r n) : ∀ cs : List Nat,
    bS cs (fun c => oA (fun s => An W s r) (stp (some (s ++ k :: st)) c)) n = bS cs (fun c => oA (fun s' => SP (An W s') g r) (stp (some s) c)) n + if s = [] then cs.count k * An W st r n else 0
  | [] => by unfold bS; simp
  | c :: cs => by
    have i := bS_under hk ih (s := s) cs
    have e1 : ∀ f : Nat → Ser, bS (c :: cs) f n = f c n + bS cs f n := fun f => rfl
    rw [e1, e1, i, oA_under hk ih, List.count_cons]
    by_cases h : s = []
    · rw [if_pos h, if_pos h]
      by_cases e : c = k
      · rw [if_pos ⟨h, e⟩, if_pos (by simp [e]), Nat.add_mul]; omega
      · rw [if_neg (fun q => e q.2), if_neg (by simp [e]), show List.count k cs + 0 = List.count k cs from rfl]; omega
    · rw [if_neg h, if_neg h, if_neg (fun q => h q.1)]; omega
theorem cnt_brk : ∀ k ∈ CLO, BRK.count k = 1 := by decide
theorem cnt_brkF : ∀ k ∈ CLO, ∀ x ∈ BRK, (BRK.filter (· ≠ x)).count k = if x = k then 0 else 1 := by decide
theorem first_ret {W : Wd} {k : Nat} (hk : k ∈ CLO) (st : List Nat) : ∀ (N n : Nat) (r s : List Nat), n + r.length ≤ N → An W (s ++ k :: st) r n = SP (An W s) (Cl W k st) r n := by
  intro N
  induction N with
  | zero =>
    intro n r s h
    have h1 : n = 0 := by omega
    have h2 : r = [] := List.length_eq_zero_iff.mp (by omega)
    subst h1 h2
    rw [An_nil]
    show 0 + (if s ++ k :: st = [] ∧ 0 = 0 then 1 else 0) = An W s [] 0 * (0 + 0)
    rw [if_neg (by simp)]; rfl
  | succ N ihN =>
    intro n r s h
    have eS : SP (An W s) (Cl W k st) r n = SP (pA W s) (Cl W k st) r n + SP (rA W s) (Cl W k st) r n := by
      rw [← SP_add]
      exact congrFun (SP_congr (fun u v e => funext fun a => An_eq W s u a) (fun u v e => rfl)) n
    have eP : pA W (s ++ k :: st) r n = SP (pA W s) (Cl W k st) r n + if s = [] then sh (gat W.pt (An W st r)) n else 0 := by
      rw [SP_pA]
      unfold pA
      cases n with
      | zero => show (0 : Nat) = 0 + _; split <;> rfl
      | succ n =>
        show gat W.pt _ n = gat W.pt _ n + if s = [] then gat W.pt (An W st r) n else 0
        unfold gat
        by_cases hp : W.pt = true
        · rw [if_pos hp, if_pos hp, if_pos hp, bS_under hk (g := Cl W k st) (fun s' => ihN n r s' (by omega)), cnt_brk k hk, Nat.one_mul]
        · rw [if_neg hp, if_neg hp, if_neg hp]; split <;> rfl
    have eB : ∀ r', cv (rA W s []) (Cl W k st r') n = if s = [] then Cl W k st r' n else 0 := fun r' => by
      by_cases hs : s = []
      · rw [if_pos hs]
        have : rA W s [] = fun a => if a = 0 then 1 else 0 := by
          funext a
          show (if s = [] ∧ a = 0 then 1 else 0) = _
          by_cases ha : a = 0
          · rw [if_pos ⟨hs, ha⟩, if_pos ha]
          · rw [if_neg (fun q => ha q.2), if_neg ha]
        rw [this, cv_one]
      · rw [if_neg hs]
        have : rA W s [] = fun _ => 0 := by
          funext a
          exact if_neg (fun q => hs q.1)
        rw [this, cv_zero]
    rw [eS, An_eq, eP]
    cases r with
    | nil =>
      have e0 : rA W (s ++ k :: st) [] n = 0 := if_neg (fun q => by simp at q)
      rw [e0]
      show _ = _ + cv (rA W s []) (Cl W k st []) n
      rw [eB]
      by_cases hs : s = []
      · rw [if_pos hs, if_pos hs]
        show _ = _ + (sh (gat W.pt (An W st [])) n + 0)
        omega
      · rw [if_neg hs, if_neg hs]
    | cons x r =>
      have eR : SP (rA W s) (Cl W k st) (x :: r) n = (if s = [] then Cl W k st (x :: r) n else 0) + SP (fun u => rA W s (x :: u)) (Cl W k st) r n := by
        show cv (rA W s []) (Cl W k st (x :: r)) n + _ = _
        rw [eB]
      rw [eR]
      have hl : n + r.length ≤ N := by rw [List.length_cons] at h; omega
      by_cases hx : x ∈ BRK
      · have e1 : rA W (s ++ k :: st) (x :: r) n = tA W (s ++ k :: st) x r n + oA (fun s => An W s r) (stp (some (s ++ k :: st)) x) n := if_pos hx
        have e2 : SP (fun u => rA W s (x :: u)) (Cl W k st) r n = SP (tA W s x) (Cl W k st) r n + oA (fun s' => SP (An W s') (Cl W k st) r) (stp (some s) x) n := by
          rw [← SP_oA (fun s' u => An W s' u), ← SP_add]
          exact congrFun (SP_congr (fun u v e => funext fun a => if_pos hx) (fun u v e => rfl)) n
        have e3 : tA W (s ++ k :: st) x r n = SP (tA W s x) (Cl W k st) r n + if s = [] ∧ x ≠ k then sh (gat W.tn (An W st r)) n else 0 := by
          unfold tA
          rw [SP_sh]
          cases n with
          | zero => show (0 : Nat) = 0 + _; split <;> rfl
          | succ n =>
            show gat W.st _ n + gat W.tn _ n = SP _ _ r n + if s = [] ∧ x ≠ k then gat W.tn (An W st r) n else 0
            rw [SP_add, SP_gat, SP_gat]
            have hi : ∀ s', An W (s' ++ k :: st) r n = SP (An W s') (Cl W k st) r n := fun s' => ihN n r s' (by omega)
            have a1 : gat W.st (An W (s ++ k :: st) r) n = gat W.st (SP (An W s) (Cl W k st) r) n := by unfold gat; rw [hi s]
            rw [a1]
            have a2 : gat W.tn (bS (BRK.filter (· ≠ x)) fun c => oA (fun s => An W s r) (stp (some (s ++ k :: st)) c)) n = gat W.tn (SP (fun u => bS (BRK.filter (· ≠ x)) fun c => oA (fun s => An W s u) (stp (some s) c)) (Cl W k st) r) n + if s = [] ∧ x ≠ k then gat W.tn (An W st r) n else 0 := by
              unfold gat
              by_cases ht : W.tn = true
              · rw [if_pos ht, if_pos ht, if_pos ht, bS_under hk hi, SP_bS _ (fun c u => oA (fun s => An W s u) (stp (some s) c)), cnt_brkF k hk x hx]
                congr 1
                · unfold bS
                  congr 1
                  exact List.map_congr_left fun c _ => (SP_oA (fun s' u => An W s' u) _ _ r n).symm
                · by_cases hs : s = []
                  · rw [if_pos hs]
                    by_cases hxk : x = k
                    · rw [if_pos hxk, if_neg (fun q => q.2 hxk), Nat.zero_mul]
                    · rw [if_neg hxk, if_pos ⟨hs, hxk⟩, Nat.one_mul]
                  · rw [if_neg hs, if_neg (fun q => hs q.1)]
              · rw [if_neg ht, if_neg ht, if_neg ht]; split <;> rfl
            rw [a2]
            omega
        rw [e1, e2, e3, oA_under hk (g := Cl W k st) (fun s' => ihN n r s' hl)]
        by_cases hs : s = []
        · rw [if_pos hs, if_pos hs]
          have e4 : Cl W k st (x :: r) n = sh (gat W.pt (An W st (x :: r))) n + if x = k then An W st r n else sh (gat W.tn (An W st r)) n := by
            unfold Cl
            dsimp only
            rw [if_pos hx]
          rw [e4]
          by_cases hxk : x = k
          · rw [if_neg (fun q => q.2 hxk), if_pos ⟨hs, hxk⟩, if_pos hxk]; omega
          · rw [if_pos ⟨hs, hxk⟩, if_neg (fun q => hxk q.2), if_neg hxk]; omega
        · rw [if_neg hs, if_neg hs, if_neg (fun q => hs q.1), if_neg (fun q => hs q.1)]; omega
      · have e1 : rA W (s ++ k :: st) (x :: r) n = An W (s ++ k :: st) r n := if_neg hx
        have e2 : SP (fun u => rA W s (x :: u)) (Cl W k st) r n = SP (An W s) (Cl W k st) r n := by
          exact congrFun (SP_congr (fun u v e => funext fun a => if_neg hx) (fun u v e => rfl)) n
        have e4 : Cl W k st (x :: r) n = sh (gat W.pt (An W st (x :: r))) n := by
          unfold Cl
          dsimp only
          rw [if_neg hx]
          rfl
        rw [e1, e2, e4, ihN n r s hl]
        by_cases hs : s = []
        · rw [if_pos hs]; omega
        · rw [if_neg hs]; omega
end Ly

set_option maxHeartbeats 4000000
namespace Ly
/-! ### the least number with how many, of a series -/
def Ld (f : Ser) (x : MC) : Prop := match x with
  | none => ∀ n, f n = 0
  | some p => f p.1 = p.2 ∧ p.2 ≠ 0 ∧ ∀ a, a < p.1 → f a = 0
theorem Ld.uniq {f : Ser} {x y : MC} (h1 : Ld f x) (h2 : Ld f y) : x = y := by
  cases x with
  | none =>
    cases y with
    | none => rfl
    | some q => exact absurd ((h1 q.1).symm.trans h2.1).symm h2.2.1
  | some p =>
    cases y with
    | none => exact absurd ((h2 p.1).symm.trans h1.1).symm h1.2.1
    | some q =>
      obtain ⟨a, m⟩ := p
      obtain ⟨b, k⟩ := q
      obtain ⟨u1, u2, u3⟩ := h1
      obtain ⟨v1, v2, v3⟩ := h2
      dsimp only at *
      have e : a = b := by
        rcases Nat.lt_trichotomy a b with h | h | h
        · exact absurd (u1.symm.trans (v3 a h)) u2
        · exact h
        · exact absurd (v1.symm.trans (u3 b h)) v2
      subst e
      rw [← u1, ← v1]
theorem Ld.congr {f g : Ser} {x : MC} (h : Ld f x) (e : ∀ n, f n = g n) : Ld g x := by
  have : f = g := funext e
  rw [← this]
  exact h
theorem Ld_zero : Ld (fun _ => 0) none := fun _ => rfl
theorem Ld_add {f g : Ser} {x y : MC} (h1 : Ld f x) (h2 : Ld g y) : Ld (fun n => f n + g n) (mAdd x y) := by
  cases x with
  | none => exact h2.congr fun n => by rw [h1 n, Nat.zero_add]
  | some p =>
    cases y with
    | none => exact Ld.congr (x := some p) h1 fun n => by rw [h2 n, Nat.add_zero]
    | some q =>
      obtain ⟨a, m⟩ := p
      obtain ⟨b, k⟩ := q
      obtain ⟨u1, u2, u3⟩ := h1
      obtain ⟨v1, v2, v3⟩ := h2
      dsimp only at *
      unfold mAdd
      dsimp only
      by_cases h : a < b
      · rw [if_pos h]
        exact ⟨by show f a + g a = m; rw [u1, v3 a h]; rfl, u2, fun c hc => by show f c + g c = 0; rw [u3 c hc, v3 c (Nat.lt_trans hc h)]⟩
      · rw [if_neg h]
        by_cases h' : b < a
        · rw [if_pos h']
          exact ⟨by show f b + g b = k; rw [v1, u3 b h', Nat.zero_add], v2, fun c hc => by show f c + g c = 0; rw [v3 c hc, u3 c (Nat.lt_trans hc h')]⟩
        · rw [if_neg h']
          have e : a = b := by omega
          subst e
          exact ⟨by show f a + g a = m + k; rw [u1, v1], by show m + k ≠ 0; omega, fun c hc => by show f c + g c = 0; rw [u3 c hc, v3 c hc]⟩
theorem cv_none {f g : Ser} (h : ∀ n, f n = 0) (n : Nat) : cv f g n = 0 := by
  rw [show f = fun _ => 0 from funext h, cv_zero]
theorem cv_noneR {f g : Ser} (h : ∀ n, g n = 0) (n : Nat) : cv f g n = 0 := by
  rw [show g = fun _ => 0 from funext h, cv_zeroR]
theorem cv_lead {g : Ser} {b k : Nat} (v1 : g b = k) (v3 : ∀ c, c < b → g c = 0) : ∀ (a m : Nat) (f : Ser), f a = m → (∀ c, c < a → f c = 0) → cv f g (a + b) = m * k
  | 0, m, f, u1, _ => by
    rw [Nat.zero_add]
    cases b with
    | zero => show f 0 * g 0 = m * k; rw [u1, v1]
    | succ b =>
      show f 0 * g (b + 1) + cv (fun a => f (a + 1)) g b = m * k
      have : cv (fun a => f (a + 1)) g b = 0 := Classical.byContradiction fun h => by
        obtain ⟨x, y, e, _, hy⟩ := cv_pos.mp h
        exact hy (v3 y (by omega))
      rw [this, u1, v1, Nat.add_zero]
  | a + 1, m, f, u1, u3 => by
    rw [show a + 1 + b = (a + b) + 1 by omega]
    show f 0 * g (a + b + 1) + cv (fun a => f (a + 1)) g (a + b) = m * k
    rw [u3 0 (by omega), Nat.zero_mul, Nat.zero_add]
    exact cv_lead v1 v3 a m (fun a => f (a + 1)) u1 fun c hc => u3 (c + 1) (by omega)
theorem Ld_cv {f g : Ser} {x y : MC} (h1 : Ld f x) (h2 : Ld g y) : Ld (cv f g) (mMul x y) := by
  cases x with
  | none => exact fun n => cv_none h1 n
  | some p =>
    cases y with
    | none => exact fun n => cv_noneR h2 n
    | some q =>
      obtain ⟨a, m⟩ := p
      obtain ⟨b, k⟩ := q
      obtain ⟨u1, u2, u3⟩ := h1
      obtain ⟨v1, v2, v3⟩ := h2
      dsimp only at *
      refine ⟨cv_lead v1 v3 a m f u1 u3, Nat.mul_ne_zero u2 v2, fun c hc => Classical.byContradiction fun h => ?_⟩
      obtain ⟨x, y, e, hx, hy⟩ := cv_pos.mp h
      by_cases hxa : x < a
      · exact hx (u3 x hxa)
      · exact hy (v3 y (by show y < b; have : c < a + b := hc; omega))
def mS (p : Nat × Nat) : Ser := fun n => if n = p.1 then p.2 else 0
theorem Ld_mS {p : Nat × Nat} (h : p.2 ≠ 0) : Ld (mS p) (some p) := ⟨if_pos rfl, h, fun a ha => if_neg (by omega)⟩
theorem cv_mS (f : Ser) (k : Nat) : ∀ (e n : Nat), cv (mS (e, k)) f n = if e ≤ n then k * f (n - e) else 0
  | 0, n => by
    rw [if_pos (Nat.zero_le _)]
    cases n with
    | zero => rfl
    | succ n =>
      show k * f (n + 1) + cv (fun a => if a + 1 = 0 then k else 0) f n = _
      rw [show (fun a : Nat => if a + 1 = 0 then k else 0) = fun _ => 0 from funext fun a => if_neg (by omega), cv_zero]
      rfl
  | e + 1, 0 => by
    rw [if_neg (by omega)]
    show (if 0 = e + 1 then k else 0) * f 0 = 0
    rw [if_neg (by omega), Nat.zero_mul]
  | e + 1, n + 1 => by
    show (if 0 = e + 1 then k else 0) * f (n + 1) + cv (fun a => if a + 1 = e + 1 then k else 0) f n = _
    rw [if_neg (by omega), Nat.zero_mul, Nat.zero_add]
    have : (fun a => if a + 1 = e + 1 then k else 0) = mS (e, k) := funext fun a => by
      show (if a + 1 = e + 1 then k else 0) = if a = e then k else 0
      by_cases h : a = e
      · rw [if_pos h, if_pos (by omega)]
      · rw [if_neg h, if_neg (by omega)]
    rw [this, cv_mS f k e n, show n + 1 - (e + 1) = n - e by omega]
    by_cases h : e ≤ n
    · rw [if_pos h, if_pos (by omega)]
    · rw [if_neg h, if_neg (by omega)]
theorem sh_mS (f : Ser) (n : Nat) : sh f n = cv (mS (1, 1)) f n := by
  rw [cv_mS]
  cases n with
  | zero => rfl
  | succ n => rw [if_pos (by omega), Nat.one_mul]; rfl
theorem Ld_sh {f : Ser} {x : MC} (h : Ld f x) : Ld (sh f) (mMul w1 x) := (Ld_cv (Ld_mS (p := (1, 1)) (by decide)) h).congr fun n => (sh_mS f n).symm
theorem Ld_gat {b : Bool} {f : Ser} {x : MC} (h : Ld f x) : Ld (gat b f) (if b = true then x else none) := by
  cases b with
  | true => exact h
  | false => exact Ld_zero
/-- what is more never comes ahead -/
theorem Ld_junk {f g : Ser} {x : MC} (h : Ld g x) (hle : ∀ n, g n ≤ f n) (hj : ∀ n, g n < f n → ∃ m, m < n ∧ f m ≠ 0) : Ld f x := by
  have key : ∀ n, (∀ m, m < n → g m = 0) → ∀ m, m < n → f m = 0 := by
    intro n hg m
    induction m using Nat.strongRecOn with
    | ind m ih =>
      intro hm
      refine Classical.byContradiction fun h0 => ?_
      obtain ⟨k, hk, hf⟩ := hj m (by rw [hg m hm]; omega)
      exact hf (ih k hk (by omega))
  cases x with
  | none => exact fun n => key (n + 1) (fun m _ => h m) n (by omega)
  | some p =>
    obtain ⟨h1, h2, h3⟩ := h
    have hz := key p.1 h3
    refine ⟨?_, h2, hz⟩
    refine Classical.byContradiction fun hne => ?_
    obtain ⟨k, hk, hf⟩ := hj p.1 (by have := hle p.1; omega)
    exact hf (hz k hk)
theorem cv_le {f g g' : Ser} : ∀ {n : Nat}, (∀ b, g b ≤ g' b) → cv f g n ≤ cv f g' n := by
  intro n h
  induction n generalizing f with
  | zero => exact Nat.mul_le_mul_left _ (h 0)
  | succ n ih => exact Nat.add_le_add (Nat.mul_le_mul_left _ (h _)) ih
theorem cv_lt {f g g' : Ser} : ∀ {n : Nat}, (∀ b, g b ≤ g' b) → cv f g n < cv f g' n → ∃ a b, a + b = n ∧ f a ≠ 0 ∧ g b < g' b := by
  intro n h
  induction n generalizing f with
  | zero =>
    intro hl
    refine ⟨0, 0, rfl, fun e => ?_, Classical.byContradiction fun e => ?_⟩
    · rw [cv, cv, e, Nat.zero_mul, Nat.zero_mul] at hl; omega
    · have : g' 0 ≤ g 0 := by omega
      rw [cv, cv] at hl
      exact absurd (Nat.mul_le_mul_left (f 0) this) (by omega)
  | succ n ih =>
    intro hl
    rw [cv, cv] at hl
    by_cases h1 : cv (fun a => f (a + 1)) g n < cv (fun a => f (a + 1)) g' n
    · obtain ⟨a, b, e, ha, hb⟩ := ih h1
      exact ⟨a + 1, b, by omega, ha, hb⟩
    · have h2 : f 0 * g (n + 1) < f 0 * g' (n + 1) := by omega
      refine ⟨0, n + 1, by omega, fun e => ?_, Classical.byContradiction fun e => ?_⟩
      · rw [e, Nat.zero_mul, Nat.zero_mul] at h2; omega
      · have : g' (n + 1) ≤ g (n + 1) := by omega
        exact absurd (Nat.mul_le_mul_left (f 0) this) (by omega)
theorem SP_le {g g' : List Nat → Ser} (h : ∀ v b, g v b ≤ g' v b) : ∀ {r : List Nat} {f : List Nat → Ser} {n : Nat}, SP f g r n ≤ SP f g' r n
  | [], f, n => cv_le (h [])
  | x :: r, f, n => Nat.add_le_add (cv_le (h (x :: r))) (SP_le h)
theorem SP_lt {g g' : List Nat → Ser} (h : ∀ v b, g v b ≤ g' v b) : ∀ {r : List Nat} {f : List Nat → Ser} {n : Nat}, SP f g r n < SP f g' r n → ∃ u v a b, u ++ v = r ∧ a + b = n ∧ f u a ≠ 0 ∧ g v b < g' v b
  | [], f, n, hl => by
    obtain ⟨a, b, e, ha, hb⟩ := cv_lt (h []) hl
    exact ⟨[], [], a, b, rfl, e, ha, hb⟩
  | x :: r, f, n, hl => by
    by_cases h1 : SP (fun u => f (x :: u)) g r n < SP (fun u => f (x :: u)) g' r n
    · obtain ⟨u, v, a, b, e, e2, ha, hb⟩ := SP_lt h h1
      exact ⟨x :: u, v, a, b, by rw [List.cons_append, e], e2, ha, hb⟩
    · have h2 : cv (f []) (g (x :: r)) n < cv (f []) (g' (x :: r)) n := by
        have : cv (f []) (g (x :: r)) n + SP (fun u => f (x :: u)) g r n < cv (f []) (g' (x :: r)) n + SP (fun u => f (x :: u)) g' r n := hl
        omega
      obtain ⟨a, b, e, ha, hb⟩ := cv_lt (h (x :: r)) h2
      exact ⟨[], x :: r, a, b, rfl, e, ha, hb⟩
theorem SP_shR (f g : List Nat → Ser) : ∀ (r : List Nat) (n : Nat), SP f (fun v => sh (g v)) r n = sh (SP f g r) n := by
  intro r
  induction r generalizing f with
  | nil => intro n; exact cv_shR _ _ n
  | cons x r ih =>
    intro n
    show cv _ (sh (g (x :: r))) n + SP (fun u => f (x :: u)) (fun v => sh (g v)) r n = _
    rw [cv_shR, ih]
    cases n <;> rfl
theorem SP_zeroR (f : List Nat → Ser) : ∀ (r : List Nat) (n : Nat), SP f (fun _ _ => 0) r n = 0 := by
  intro r
  induction r generalizing f with
  | nil => intro n; exact cv_zeroR _ n
  | cons x r ih =>
    intro n
    show cv _ (fun _ => 0) n + SP (fun u => f (x :: u)) (fun _ _ => 0) r n = 0
    rw [cv_zeroR, ih]
theorem SP_gatR (b : Bool) (f g : List Nat → Ser) (r : List Nat) (n : Nat) : SP f (fun v => gat b (g v)) r n = gat b (SP f g r) n := by
  cases b with
  | true => rfl
  | false => exact SP_zeroR f r n
theorem SP_bSR (cs : List Nat) (f : List Nat → Ser) (g : Nat → List Nat → Ser) (r : List Nat) (n : Nat) : SP f (fun v => bS cs fun c => g c v) r n = bS cs (fun c => SP f (g c) r) n := by
  induction cs with
  | nil => exact SP_zeroR f r n
  | cons c cs ih =>
    have e : (fun v => bS (c :: cs) fun c => g c v) = fun v a => g c v a + bS cs (fun c => g c v) a := rfl
    rw [e, SP_addR, ih]
    rfl
end Ly

set_option maxHeartbeats 4000000
namespace Ly
/-! ### rows of steps -/
structure Row (W : Wd) (st r : List Nat) (n : Nat) (α : List Stp) : Prop where
  ok : okS α
  wd : ∀ s ∈ α, s.wd W
  tx : inS α = r
  ct : cstS α = n
  fo : (outS α).foldl stp (some st) = some []
section
variable {W : Wd} {st s r : List Nat} {n c x : Nat} {β : List Stp}
theorem okS_cons {y : Stp} : okS (y :: β) ↔ y.ok ∧ okS β := by
  unfold okS
  simp
theorem wd_cons {y : Stp} : (∀ s ∈ y :: β, s.wd W) ↔ y.wd W ∧ ∀ s ∈ β, s.wd W := by simp
theorem Row.pt (hp : W.pt = true) (hc : c ∈ BRK) (hs : stp (some st) c = some s) (h : Row W s r n β) : Row W st r (n + 1) (.pt c :: β) :=
  ⟨okS_cons.mpr ⟨hc, h.ok⟩, wd_cons.mpr ⟨hp, h.wd⟩, h.tx, by show cstS β + 1 = n + 1; rw [h.ct], by show (outS β).foldl stp (stp (some st) c) = some []; rw [hs]; exact h.fo⟩
theorem Row.str (hp : W.st = true) (hx : x ∈ BRK) (h : Row W st r n β) : Row W st (x :: r) (n + 1) (.st x :: β) :=
  ⟨okS_cons.mpr ⟨hx, h.ok⟩, wd_cons.mpr ⟨hp, h.wd⟩, by show x :: inS β = x :: r; rw [h.tx], by show cstS β + 1 = n + 1; rw [h.ct], h.fo⟩
theorem Row.tn (hp : W.tn = true) (hx : x ∈ BRK) (hc : c ∈ BRK) (hn : c ≠ x) (hs : stp (some st) c = some s) (h : Row W s r n β) : Row W st (x :: r) (n + 1) (.tn x c :: β) :=
  ⟨okS_cons.mpr ⟨⟨hx, hc, hn⟩, h.ok⟩, wd_cons.mpr ⟨hp, h.wd⟩, by show x :: inS β = x :: r; rw [h.tx], by show cstS β + 1 = n + 1; rw [h.ct], by show (outS β).foldl stp (stp (some st) c) = some []; rw [hs]; exact h.fo⟩
theorem Row.kp (hs : stp (some st) x = some s) (h : Row W s r n β) : Row W st (x :: r) n (.kp x :: β) :=
  ⟨okS_cons.mpr ⟨trivial, h.ok⟩, wd_cons.mpr ⟨trivial, h.wd⟩, by show x :: inS β = x :: r; rw [h.tx], h.ct, by show (outS β).foldl stp (stp (some st) x) = some []; rw [hs]; exact h.fo⟩
theorem fold_some {o : Option (List Nat)} {l t : List Nat} (h : l.foldl stp o = some t) : ∃ s, o = some s := by
  cases o with
  | none => rw [fold_none] at h; cases h
  | some s => exact ⟨s, rfl⟩
theorem Row.ipt (h : Row W st r n (.pt c :: β)) : W.pt = true ∧ c ∈ BRK ∧ ∃ s m, stp (some st) c = some s ∧ n = m + 1 ∧ Row W s r m β := by
  obtain ⟨h1, h2, h3, h4, h5⟩ := h
  have h5' : (outS β).foldl stp (stp (some st) c) = some [] := h5
  obtain ⟨s, hs⟩ := fold_some h5'
  rw [hs] at h5'
  exact ⟨(wd_cons.mp h2).1, (okS_cons.mp h1).1, s, cstS β, hs, h4.symm, (okS_cons.mp h1).2, (wd_cons.mp h2).2, h3, rfl, h5'⟩
theorem Row.ist (h : Row W st r n (.st x :: β)) : W.st = true ∧ x ∈ BRK ∧ ∃ r' m, r = x :: r' ∧ n = m + 1 ∧ Row W st r' m β := by
  obtain ⟨h1, h2, h3, h4, h5⟩ := h
  exact ⟨(wd_cons.mp h2).1, (okS_cons.mp h1).1, inS β, cstS β, h3.symm, h4.symm, (okS_cons.mp h1).2, (wd_cons.mp h2).2, rfl, rfl, h5⟩
theorem Row.itn (h : Row W st r n (.tn x c :: β)) : W.tn = true ∧ x ∈ BRK ∧ c ∈ BRK ∧ c ≠ x ∧ ∃ s r' m, stp (some st) c = some s ∧ r = x :: r' ∧ n = m + 1 ∧ Row W s r' m β := by
  obtain ⟨h1, h2, h3, h4, h5⟩ := h
  have h5' : (outS β).foldl stp (stp (some st) c) = some [] := h5
  obtain ⟨s, hs⟩ := fold_some h5'
  rw [hs] at h5'
  obtain ⟨⟨a1, a2, a3⟩, a4⟩ := okS_cons.mp h1
  exact ⟨(wd_cons.mp h2).1, a1, a2, a3, s, inS β, cstS β, hs, h3.symm, h4.symm, a4, (wd_cons.mp h2).2, rfl, rfl, h5'⟩
theorem Row.ikp (h : Row W st r n (.kp x :: β)) : ∃ s r', stp (some st) x = some s ∧ r = x :: r' ∧ Row W s r' n β := by
  obtain ⟨h1, h2, h3, h4, h5⟩ := h
  have h5' : (outS β).foldl stp (stp (some st) x) = some [] := h5
  obtain ⟨s, hs⟩ := fold_some h5'
  rw [hs] at h5'
  exact ⟨s, inS β, hs, h3.symm, (okS_cons.mp h1).2, (wd_cons.mp h2).2, rfl, h4, h5'⟩
end
theorem mem_opt {W : Wd} {r : List Nat} {n : Nat} {o : Option (List Nat)} {f : List Stp → List Stp} {α : List Stp} : α ∈ (match o with | none => [] | some s => rowsL W s r n).map f ↔ ∃ s β, o = some s ∧ β ∈ rowsL W s r n ∧ f β = α := by
  cases o with
  | none => simp
  | some s => simp
theorem not_brk {x : Nat} (h : x ∉ BRK) (st : Option (List Nat)) : stp st x = st := stp_let (fun q => h (brk_or.mpr (.inl q))) (fun q => h (brk_or.mpr (.inr q)))
theorem rows_sound {W : Wd} : ∀ (N n : Nat) (r st : List Nat) (α : List Stp), n + r.length ≤ N → α ∈ rowsL W st r n → Row W st r n α := by
  intro N
  induction N with
  | zero =>
    intro n r st α h hm
    have h1 : n = 0 := by omega
    have h2 : r = [] := List.length_eq_zero_iff.mp (by omega)
    subst h1 h2
    rw [rowsL.eq_def] at hm
    dsimp only at hm
    rw [List.nil_append] at hm
    by_cases hs : st = [] ∧ 0 = 0
    · rw [if_pos hs] at hm
      rw [List.mem_singleton.mp hm, hs.1]
      exact ⟨(fun _ h => nomatch h), (fun _ h => nomatch h), rfl, rfl, rfl⟩
    · rw [if_neg hs] at hm; cases hm
  | succ N ih =>
    intro n r st α h hm
    rw [rowsL.eq_def] at hm
    rcases List.mem_append.mp hm with hm | hm
    · cases n with
      | zero => cases hm
      | succ n =>
        dsimp only at hm
        by_cases hp : W.pt = true
        · rw [if_pos hp] at hm
          obtain ⟨c, hc, hm⟩ := List.mem_flatMap.mp hm
          obtain ⟨s, β, hs, hb, rfl⟩ := mem_opt.mp hm
          exact Row.pt hp hc hs (ih n r s β (by omega) hb)
        · rw [if_neg hp] at hm; cases hm
    · cases r with
      | nil =>
        dsimp only at hm
        by_cases hs : st = [] ∧ n = 0
        · rw [if_pos hs] at hm
          rw [List.mem_singleton.mp hm, hs.1, hs.2]
          exact ⟨(fun _ h => nomatch h), (fun _ h => nomatch h), rfl, rfl, rfl⟩
        · rw [if_neg hs] at hm; cases hm
      | cons x r =>
        rw [List.length_cons] at h
        dsimp only at hm
        by_cases hx : x ∈ BRK
        · rw [if_pos hx] at hm
          rcases List.mem_append.mp hm with hm | hm
          · cases n with
            | zero => cases hm
            | succ n =>
              dsimp only at hm
              rcases List.mem_append.mp hm with hm | hm
              · by_cases hp : W.st = true
                · rw [if_pos hp] at hm
                  obtain ⟨β, hb, rfl⟩ := List.mem_map.mp hm
                  exact Row.str hp hx (ih n r st β (by omega) hb)
                · rw [if_neg hp] at hm; cases hm
              · by_cases hp : W.tn = true
                · rw [if_pos hp] at hm
                  obtain ⟨c, hc, hm⟩ := List.mem_flatMap.mp hm
                  obtain ⟨hc1, hc2⟩ := List.mem_filter.mp hc
                  obtain ⟨s, β, hs, hb, rfl⟩ := mem_opt.mp hm
                  exact Row.tn hp hx hc1 (by simpa using hc2) hs (ih n r s β (by omega) hb)
                · rw [if_neg hp] at hm; cases hm
          · obtain ⟨s, β, hs, hb, rfl⟩ := mem_opt.mp hm
            exact Row.kp hs (ih n r s β (by omega) hb)
        · rw [if_neg hx] at hm
          obtain ⟨β, hb, rfl⟩ := List.mem_map.mp hm
          exact Row.kp (not_brk hx _) (ih n r st β (by omega) hb)
theorem rows_all {W : Wd} : ∀ (α : List Stp) (st r : List Nat) (n : Nat), Row W st r n α → α ∈ rowsL W st r n
  | [], st, r, n, h => by
    have h1 : r = [] := h.tx.symm
    have h2 : n = 0 := h.ct.symm
    have h3 : st = [] := Option.some.inj h.fo
    subst h1 h2 h3
    rw [rowsL.eq_def]
    exact List.mem_append_right _ (by dsimp only; rw [if_pos ⟨rfl, rfl⟩]; exact List.mem_singleton.mpr rfl)
  | .pt c :: β, st, r, n, h => by
    obtain ⟨hp, hc, s, m, hs, rfl, hb⟩ := h.ipt
    rw [rowsL.eq_def]
    refine List.mem_append_left _ ?_
    dsimp only
    rw [if_pos hp]
    exact List.mem_flatMap.mpr ⟨c, hc, mem_opt.mpr ⟨s, β, hs, rows_all β s r m hb, rfl⟩⟩
  | .st x :: β, st, r, n, h => by
    obtain ⟨hp, hx, r', m, rfl, rfl, hb⟩ := h.ist
    rw [rowsL.eq_def]
    refine List.mem_append_right _ ?_
    dsimp only
    rw [if_pos hx]
    refine List.mem_append_left _ (List.mem_append_left _ ?_)
    rw [if_pos hp]
    exact List.mem_map.mpr ⟨β, rows_all β st r' m hb, rfl⟩
  | .tn x c :: β, st, r, n, h => by
    obtain ⟨hp, hx, hc, hn, s, r', m, hs, rfl, rfl, hb⟩ := h.itn
    rw [rowsL.eq_def]
    refine List.mem_append_right _ ?_
    dsimp only
    rw [if_pos hx]
    refine List.mem_append_left _ (List.mem_append_right _ ?_)
    rw [if_pos hp]
    exact List.mem_flatMap.mpr ⟨c, List.mem_filter.mpr ⟨hc, by simpa using hn⟩, mem_opt.mpr ⟨s, β, hs, rows_all β s r' m hb, rfl⟩⟩
  | .kp x :: β, st, r, n, h => by
    obtain ⟨s, r', hs, rfl, hb⟩ := h.ikp
    have hm := rows_all β s r' n hb
    rw [rowsL.eq_def]
    refine List.mem_append_right _ ?_
    dsimp only
    by_cases hx : x ∈ BRK
    · rw [if_pos hx]
      exact List.mem_append_right _ (mem_opt.mpr ⟨s, β, hs, hm, rfl⟩)
    · rw [if_neg hx]
      rw [not_brk hx] at hs
      cases hs
      exact List.mem_map.mpr ⟨β, hm, rfl⟩
theorem mem_rows {W : Wd} {st r : List Nat} {n : Nat} {α : List Stp} : α ∈ rowsL W st r n ↔ Row W st r n α := ⟨rows_sound _ n r st α (Nat.le_refl _), rows_all α st r n⟩
theorem An_pos {W : Wd} {st r : List Nat} {n : Nat} : An W st r n ≠ 0 ↔ ∃ α, Row W st r n α := by
  constructor
  · intro h
    have : rowsL W st r n ≠ [] := fun e => h (by show (rowsL W st r n).length = 0; rw [e]; rfl)
    obtain ⟨α, ha⟩ := List.exists_mem_of_ne_nil _ this
    exact ⟨α, mem_rows.mp ha⟩
  · rintro ⟨α, ha⟩ h
    have := List.length_pos_of_mem (mem_rows.mpr ha)
    have h' : (rowsL W st r n).length = 0 := h
    omega
/-! ### rows put together -/
theorem okS_app {α β : List Stp} (h1 : okS α) (h2 : okS β) : okS (α ++ β) := fun s hs => (List.mem_append.mp hs).elim (h1 s) (h2 s)
theorem inS_app (α β : List Stp) : inS (α ++ β) = inS α ++ inS β := by unfold inS; rw [List.map_append, List.flatten_append]
theorem outS_app (α β : List Stp) : outS (α ++ β) = outS α ++ outS β := by unfold outS; rw [List.map_append, List.flatten_append]
theorem cstS_app : ∀ (α β : List Stp), cstS (α ++ β) = cstS α + cstS β
  | [], β => (Nat.zero_add _).symm
  | .kp _ :: α, β => cstS_app α β
  | .st _ :: α, β => by show cstS (α ++ β) + 1 = cstS α + 1 + cstS β; rw [cstS_app α β]; omega
  | .tn _ _ :: α, β => by show cstS (α ++ β) + 1 = cstS α + 1 + cstS β; rw [cstS_app α β]; omega
  | .pt _ :: α, β => by show cstS (α ++ β) + 1 = cstS α + 1 + cstS β; rw [cstS_app α β]; omega
theorem Row.app {W : Wd} {u v : List Nat} {a b : Nat} {α β : List Stp} (h1 : Row W [] u a α) (h2 : Row W [] v b β) : Row W [] (u ++ v) (a + b) (α ++ β) :=
  ⟨okS_app h1.ok h2.ok, fun s hs => (List.mem_append.mp hs).elim (h1.wd s) (h2.wd s), by rw [inS_app, h1.tx, h2.tx], by rw [cstS_app, h1.ct, h2.ct], by rw [outS_app, List.foldl_append, h1.fo]; exact h2.fo⟩
theorem An_app {W : Wd} {u v : List Nat} {a b : Nat} (h1 : An W [] u a ≠ 0) (h2 : An W [] v b ≠ 0) : An W [] (u ++ v) (a + b) ≠ 0 := by
  obtain ⟨α, ha⟩ := An_pos.mp h1
  obtain ⟨β, hb⟩ := An_pos.mp h2
  exact An_pos.mpr ⟨_, ha.app hb⟩
theorem An_one {W : Wd} {x : Nat} (hp : W.pt = true) (hx : x ∈ BRK) : An W [] [x] 1 ≠ 0 := by
  refine An_pos.mpr ?_
  by_cases ho : x ∈ OPN
  · exact ⟨[.kp x, .pt (oth x)], Row.kp (stp_opn ho) (Row.pt hp (oth_brk x hx) (stp_clo (oth_clo x ho)) ⟨(fun _ h => nomatch h), (fun _ h => nomatch h), rfl, rfl, rfl⟩)⟩
  · have hc : x ∈ CLO := (brk_or.mp hx).resolve_left ho
    have e : stp (some []) (oth x) = some [x] := by rw [stp_opn (oth_opn x hc), oth_oth x hx]
    exact ⟨[.pt (oth x), .kp x], Row.pt hp (oth_brk x hx) e (Row.kp (stp_clo hc) ⟨(fun _ h => nomatch h), (fun _ h => nomatch h), rfl, rfl, rfl⟩)⟩
/-- a sign made into another one, or kept -/
def asS (x c : Nat) : Stp := if c = x then .kp x else .tn x c
def asC (x c : Nat) : Nat := if c = x then 0 else 1
theorem Row.as {W : Wd} {st s r : List Nat} {n x c : Nat} {β : List Stp} (hp : c = x ∨ W.tn = true) (hx : x ∈ BRK) (hc : c ∈ BRK) (hs : stp (some st) c = some s) (h : Row W s r n β) : Row W st (x :: r) (asC x c + n) (asS x c :: β) := by
  unfold asS asC
  by_cases e : c = x
  · rw [if_pos e, if_pos e, Nat.zero_add]
    subst e
    exact Row.kp hs h
  · rw [if_neg e, if_neg e, Nat.add_comm]
    exact Row.tn (hp.resolve_left e) hx hc e hs h
/-- what stands on a pile that stays -/
theorem Row.fr {W : Wd} {u : List Nat} {a : Nat} {α : List Stp} (h : Row W [] u a α) {st r : List Nat} {n : Nat} {β : List Stp} (hb : Row W st r n β) : Row W st (u ++ r) (a + n) (α ++ β) :=
  ⟨okS_app h.ok hb.ok, fun s hs => (List.mem_append.mp hs).elim (h.wd s) (hb.wd s), by rw [inS_app, h.tx, hb.tx], by rw [cstS_app, h.ct, hb.ct], by
    rw [outS_app, List.foldl_append, fold_run (r := []) h.fo]
    exact hb.fo⟩
theorem Row.nil {W : Wd} : Row W [] [] 0 [] := ⟨(fun _ h => nomatch h), (fun _ h => nomatch h), rfl, rfl, rfl⟩
theorem few_way : ∀ x ∈ BRK, ∀ d ∈ BRK, ∃ o ∈ OPN, asC x o + asC d (oth o) = (few x d).1 := by decide
theorem An_pair {W : Wd} {x d : Nat} (hx : x ∈ BRK) (hd : d ∈ BRK) (hg : (few x d).1 = 0 ∨ W.tn = true) {u : List Nat} {a : Nat} (h : An W [] u a ≠ 0) : An W [] (x :: (u ++ [d])) (a + (few x d).1) ≠ 0 := by
  obtain ⟨α, ha⟩ := An_pos.mp h
  obtain ⟨o, ho, ec⟩ := few_way x hx d hd
  have hob := brk_or.mpr (.inl ho)
  have hcb := oth_brk o hob
  have p1 : o = x ∨ W.tn = true := by
    by_cases e : o = x
    · exact .inl e
    · refine .inr (hg.resolve_left ?_)
      have : asC x o = 1 := if_neg e
      omega
  have p2 : oth o = d ∨ W.tn = true := by
    by_cases e : oth o = d
    · exact .inl e
    · refine .inr (hg.resolve_left ?_)
      have : asC d (oth o) = 1 := if_neg e
      omega
  have h2 : Row W [oth o] [d] (asC d (oth o) + 0) [asS d (oth o)] := Row.as p2 hd hcb (stp_clo (oth_clo o ho)) Row.nil
  have h3 := Row.as p1 hx hob (stp_opn ho) (ha.fr h2)
  rw [show asC x o + (a + (asC d (oth o) + 0)) = a + (few x d).1 by omega] at h3
  exact An_pos.mpr ⟨_, h3⟩
end Ly

set_option maxHeartbeats 4000000
namespace Ly
/-! ### all that begins so: what is least of it -/
section
variable {W : Wd}
/-- the sign that closes what was opened with k, kept or turned -/
def clo (W : Wd) (k : Nat) (v : List Nat) : Ser := fun n => match v with
  | [] => 0
  | d :: v => if d ∈ BRK then (if d = k then An W [] v n else sh (gat W.tn (An W [] v)) n) else 0
theorem Cl_eq (k : Nat) (v : List Nat) (n : Nat) : Cl W k [] v n = sh (gat W.pt (An W [] v)) n + clo W k v n := by
  cases v <;> rfl
def g1 (W : Wd) (x : Nat) (v : List Nat) : Ser := fun n => (if x ∈ OPN then Cl W (oth x) [] v n else 0) + sh (gat W.tn (bS (OPN.filter (· ≠ x)) fun o => Cl W (oth o) [] v)) n
def g2 (W : Wd) (v : List Nat) : Ser := sh (gat W.pt (bS OPN fun o => Cl W (oth o) [] v))
theorem bS_filter {f : Nat → Ser} {n : Nat} (p : Nat → Bool) : ∀ {cs : List Nat}, (∀ c ∈ cs, p c = false → f c n = 0) → bS cs f n = bS (cs.filter p) f n
  | [], _ => rfl
  | c :: cs, h => by
    have ih := bS_filter p (cs := cs) fun d hd => h d (List.mem_cons_of_mem _ hd)
    have e1 : ∀ ds, bS (c :: ds) f n = f c n + bS ds f n := fun ds => rfl
    cases hc : p c with
    | true => rw [List.filter_cons_of_pos hc, e1, e1, ih]
    | false => rw [List.filter_cons_of_neg (by rw [hc]; exact Bool.false_ne_true), e1, h c List.mem_cons_self hc, Nat.zero_add, ih]
theorem brk_opn : BRK.filter (fun c => decide (c ∈ OPN)) = OPN := by decide
theorem bS_congr {f g : Nat → Ser} {n : Nat} {cs : List Nat} (h : ∀ c ∈ cs, f c n = g c n) : bS cs f n = bS cs g n := by
  unfold bS
  congr 1
  exact List.map_congr_left h
theorem ret_one {o : Nat} (ho : o ∈ OPN) (r : List Nat) (n : Nat) : An W [oth o] r n = SP (An W []) (Cl W (oth o) []) r n := first_ret (oth_clo o ho) [] _ n r [] (Nat.le_refl _)
theorem oA_opn {r : List Nat} {n c : Nat} (hc : c ∈ OPN) : oA (fun s => An W s r) (stp (some []) c) n = SP (An W []) (Cl W (oth c) []) r n := by
  rw [stp_opn hc]
  exact ret_one hc r n
theorem oA_clo {r : List Nat} {n c : Nat} (hc : c ∈ BRK) (h : c ∉ OPN) : oA (fun s => An W s r) (stp (some []) c) n = 0 := by
  have : stp (some []) c = none := by
    unfold stp
    dsimp only
    rw [if_neg h, if_pos ((brk_or.mp hc).resolve_left h)]
  rw [this]
  rfl
theorem pA_g2 (r : List Nat) (n : Nat) : pA W [] r n = SP (An W []) (g2 W) r n := by
  unfold pA g2
  rw [SP_shR]
  cases n with
  | zero => rfl
  | succ n =>
    show gat W.pt _ n = SP _ (fun v => gat W.pt _) r n
    rw [SP_gatR]
    unfold gat
    by_cases h : W.pt = true
    · rw [if_pos h, if_pos h, SP_bSR OPN _ (fun o v => Cl W (oth o) [] v), bS_filter (fun c => decide (c ∈ OPN)) (fun c hc hp => oA_clo hc (by simpa using hp)), brk_opn]
      exact bS_congr fun c hc => oA_opn hc
    · rw [if_neg h, if_neg h]
theorem An_first {x : Nat} (hx : x ∈ BRK) (r : List Nat) (n : Nat) : An W [] (x :: r) n = SP (An W []) (g2 W) (x :: r) n + (sh (gat W.st (An W [] r)) n + SP (An W []) (g1 W x) r n) := by
  rw [An_brk hx, pA_g2]
  congr 1
  have e1 : SP (An W []) (g1 W x) r n = (if x ∈ OPN then SP (An W []) (Cl W (oth x) []) r n else 0) + sh (gat W.tn (bS (OPN.filter (· ≠ x)) fun o => SP (An W []) (Cl W (oth o) []) r)) n := by
    unfold g1
    rw [SP_addR (An W []) (fun v n => if x ∈ OPN then Cl W (oth x) [] v n else 0) (fun v => sh (gat W.tn (bS (OPN.filter (· ≠ x)) fun o => Cl W (oth o) [] v)))]
    congr 1
    · by_cases h : x ∈ OPN
      · simp only [if_pos h]
      · simp only [if_neg h]; exact SP_zeroR _ r n
    · rw [SP_shR]
      cases n with
      | zero => rfl
      | succ n =>
        show SP _ (fun v => gat W.tn _) r n = gat W.tn _ n
        rw [SP_gatR]
        unfold gat
        by_cases h : W.tn = true
        · rw [if_pos h, if_pos h, SP_bSR _ _ (fun o v => Cl W (oth o) [] v)]
        · rw [if_neg h, if_neg h]
  have e2 : oA (fun s => An W s r) (stp (some []) x) n = if x ∈ OPN then SP (An W []) (Cl W (oth x) []) r n else 0 := by
    by_cases h : x ∈ OPN
    · rw [if_pos h, oA_opn h]
    · rw [if_neg h, oA_clo hx h]
  have e3 : tA W [] x r n = sh (gat W.st (An W [] r)) n + sh (gat W.tn (bS (OPN.filter (· ≠ x)) fun o => SP (An W []) (Cl W (oth o) []) r)) n := by
    unfold tA
    cases n with
    | zero => rfl
    | succ n =>
      show _ + _ = gat W.st _ n + gat W.tn _ n
      congr 1
      unfold gat
      by_cases h : W.tn = true
      · rw [if_pos h, if_pos h, bS_filter (fun c => decide (c ∈ OPN)) (fun c hc hp => oA_clo (List.mem_filter.mp hc).1 (by simpa using hp)), List.filter_filter, show (fun a => decide (a ∈ OPN) && decide (a ≠ x)) = fun a => decide (a ≠ x) && decide (a ∈ OPN) from funext fun a => Bool.and_comm _ _, ← List.filter_filter, brk_opn]
        exact bS_congr fun c hc => oA_opn (List.mem_filter.mp hc).1
      · rw [if_neg h, if_neg h]
  rw [e1, e2, e3]
  omega
theorem An_firstL {x : Nat} (hx : x ∉ BRK) (r : List Nat) (n : Nat) : An W [] (x :: r) n = SP (An W []) (g2 W) (x :: r) n + An W [] r n := by
  rw [An_let hx, pA_g2]
/-! the least ones -/
def g2m (W : Wd) (v : List Nat) : Ser := fun n => match v with
  | [] => 0
  | d :: v => if d ∈ CLO then sh (gat W.pt (An W [] v)) n else 0
def g1o (W : Wd) (x : Nat) (v : List Nat) : Ser := fun n => if x ∈ OPN then sh (gat W.pt (An W [] v)) n else 0
def g1p (W : Wd) (x : Nat) (v : List Nat) : Ser := fun n => match v with
  | [] => 0
  | d :: v => if d ∈ BRK ∧ ((few x d).1 = 0 ∨ W.tn = true) then cv (mS (few x d)) (An W [] v) n else 0
theorem sum_if (cs : List Nat) (d A C : Nat) : (cs.map fun o => if d = oth o then A else C).sum = cs.countP (fun o => decide (d = oth o)) * A + (cs.length - cs.countP (fun o => decide (d = oth o))) * C := by
  induction cs with
  | nil => simp
  | cons c cs ih =>
    have hle := List.countP_le_length (p := fun o => decide (d = oth o)) (l := cs)
    rw [List.map_cons, List.sum_cons, ih, List.length_cons, List.countP_cons]
    by_cases h : d = oth c
    · rw [if_pos h, if_pos (by simpa using h), Nat.add_mul, show cs.length + 1 - (cs.countP (fun o => decide (d = oth o)) + 1) = cs.length - cs.countP (fun o => decide (d = oth o)) by omega]
      omega
    · rw [if_neg h, if_neg (by simpa using h), Nat.add_zero, show cs.length + 1 - cs.countP (fun o => decide (d = oth o)) = (cs.length - cs.countP (fun o => decide (d = oth o))) + 1 by omega, Nat.add_mul _ 1 C]
      omega
theorem sum_add (cs : List Nat) (A : Nat) (f : Nat → Nat) : (cs.map fun o => A + f o).sum = cs.length * A + (cs.map f).sum := by
  induction cs with
  | nil => simp
  | cons c cs ih => rw [List.map_cons, List.sum_cons, ih, List.length_cons, List.map_cons, List.sum_cons, Nat.add_mul]; omega
theorem bS_Cl (cs : List Nat) (v : List Nat) (n : Nat) : bS cs (fun o => Cl W (oth o) [] v) n = cs.length * sh (gat W.pt (An W [] v)) n + (cs.map fun o => clo W (oth o) v n).sum := by
  rw [← sum_add]
  exact bS_congr (g := fun o n => sh (gat W.pt (An W [] v)) n + clo W (oth o) v n) fun c _ => Cl_eq _ v n
theorem clo_sum (cs : List Nat) (d : Nat) (hd : d ∈ BRK) (v : List Nat) (n : Nat) : (cs.map fun o => clo W (oth o) (d :: v) n).sum = cs.countP (fun o => decide (d = oth o)) * An W [] v n + (cs.length - cs.countP (fun o => decide (d = oth o))) * sh (gat W.tn (An W [] v)) n := by
  rw [← sum_if]
  congr 1
  refine List.map_congr_left fun o _ => ?_
  show (if d ∈ BRK then (if d = oth o then An W [] v n else sh (gat W.tn (An W [] v)) n) else 0) = _
  rw [if_pos hd]
theorem clo_not (cs : List Nat) (v : List Nat) (n : Nat) (h : ∀ d w, v = d :: w → d ∉ BRK) : (cs.map fun o => clo W (oth o) v n).sum = 0 := by
  have : ∀ o, clo W (oth o) v n = 0 := fun o => by
    cases v with
    | nil => rfl
    | cons d w => exact if_neg (h d w rfl)
  rw [show (fun o => clo W (oth o) v n) = fun _ => 0 from funext this]
  clear this h
  induction cs with
  | nil => rfl
  | cons c cs ih => rw [List.map_cons, List.sum_cons, ih]
theorem sh_succ (f : Ser) (n : Nat) : sh f (n + 1) = f n := rfl
theorem sh_pos {f : Ser} {n : Nat} (h : sh f n ≠ 0) : ∃ m, n = m + 1 ∧ f m ≠ 0 := by
  cases n with
  | zero => exact absurd rfl h
  | succ m => exact ⟨m, rfl, h⟩
theorem gat_pos {b : Bool} {f : Ser} {n : Nat} (h : gat b f n ≠ 0) : b = true ∧ f n ≠ 0 := by
  unfold gat at h
  by_cases hb : b = true
  · rw [if_pos hb] at h; exact ⟨hb, h⟩
  · rw [if_neg hb] at h; exact absurd rfl h
theorem cnt_opn1 : ∀ d ∈ BRK, OPN.countP (fun o => decide (d = oth o)) = if d ∈ CLO then 1 else 0 := by decide
theorem opn_len : OPN.length = 4 := rfl
/-- what is put first, and not with a sign of the text: there is less -/
theorem g2_both (v : List Nat) (n : Nat) : g2m W v n ≤ g2 W v n ∧ (g2m W v n < g2 W v n → W.pt = true ∧ ((∃ m, n = m + 2 ∧ An W [] v m ≠ 0) ∨ ∃ d w m, v = d :: w ∧ d ∈ BRK ∧ n = m + 2 ∧ An W [] w m ≠ 0)) := by
  by_cases hp : W.pt = true
  · cases n with
    | zero =>
      have e : g2m W v 0 = 0 := by
        cases v with
        | nil => rfl
        | cons d w => show (if d ∈ CLO then 0 else 0) = 0; split <;> rfl
      rw [e]
      exact ⟨Nat.zero_le _, fun h => absurd h (by show ¬ 0 < 0; omega)⟩
    | succ n =>
      have e : g2 W v (n + 1) = 4 * sh (gat W.pt (An W [] v)) n + (OPN.map fun o => clo W (oth o) v n).sum := by
        show gat W.pt _ n = _
        unfold gat
        rw [if_pos hp, ← opn_len]
        exact bS_Cl OPN v n
      have key1 : sh (gat W.pt (An W [] v)) n ≠ 0 → ∃ m, n + 1 = m + 2 ∧ An W [] v m ≠ 0 := fun h => by
        obtain ⟨m, rfl, hm⟩ := sh_pos h
        exact ⟨m, rfl, (gat_pos hm).2⟩
      rw [e]
      cases v with
      | nil =>
        rw [clo_not OPN [] n (fun d w h => by cases h)]
        refine ⟨Nat.zero_le _, fun h => ⟨hp, .inl (key1 ?_)⟩⟩
        have : 0 < 4 * sh (gat W.pt (An W [] [])) n + 0 := h
        omega
      | cons d w =>
        by_cases hd : d ∈ BRK
        · rw [clo_sum OPN d hd, cnt_opn1 d hd, opn_len]
          have key2 : sh (gat W.tn (An W [] w)) n ≠ 0 → ∃ d' w' m, d :: w = d' :: w' ∧ d' ∈ BRK ∧ n + 1 = m + 2 ∧ An W [] w' m ≠ 0 := fun h => by
            obtain ⟨m, rfl, hm⟩ := sh_pos h
            exact ⟨d, w, m, rfl, hd, rfl, (gat_pos hm).2⟩
          by_cases hc : d ∈ CLO
          · have em : g2m W (d :: w) (n + 1) = An W [] w n := by
              show (if d ∈ CLO then gat W.pt (An W [] w) n else 0) = _
              unfold gat
              rw [if_pos hc, if_pos hp]
            rw [em, if_pos hc]
            refine ⟨by omega, fun h => ⟨hp, ?_⟩⟩
            by_cases h1 : sh (gat W.pt (An W [] (d :: w))) n = 0
            · exact .inr (key2 (by omega))
            · exact .inl (key1 h1)
          · have em : g2m W (d :: w) (n + 1) = 0 := if_neg hc
            rw [em, if_neg hc]
            refine ⟨Nat.zero_le _, fun h => ⟨hp, ?_⟩⟩
            by_cases h1 : sh (gat W.pt (An W [] (d :: w))) n = 0
            · exact .inr (key2 (by omega))
            · exact .inl (key1 h1)
        · rw [clo_not OPN (d :: w) n (fun d' w' e => by cases e; exact hd)]
          have em : g2m W (d :: w) (n + 1) = 0 := if_neg fun h => hd (brk_or.mpr (.inr h))
          rw [em]
          exact ⟨Nat.zero_le _, fun h => ⟨hp, .inl (key1 (by omega))⟩⟩
  · have e1 : g2 W v n = 0 := by
      cases n with
      | zero => rfl
      | succ n => exact if_neg hp
    have e2 : g2m W v n = 0 := by
      cases v with
      | nil => rfl
      | cons d w =>
        show (if d ∈ CLO then sh (gat W.pt (An W [] w)) n else 0) = 0
        cases n with
        | zero => show (if d ∈ CLO then 0 else 0) = 0; split <;> rfl
        | succ n => show (if d ∈ CLO then gat W.pt (An W [] w) n else 0) = 0; unfold gat; rw [if_neg hp]; split <;> rfl
    rw [e1, e2]
    exact ⟨Nat.le_refl _, fun h => absurd h (by omega)⟩
theorem g2_junk {v : List Nat} {b : Nat} (h : g2m W v b < g2 W v b) {u : List Nat} {a : Nat} (hu : An W [] u a ≠ 0) : ∃ m, m < a + b ∧ An W [] (u ++ v) m ≠ 0 := by
  obtain ⟨hp, ⟨m, rfl, hm⟩ | ⟨d, w, m, rfl, hd, rfl, hm⟩⟩ := (g2_both v b).2 h
  · exact ⟨a + m, by omega, An_app hu hm⟩
  · refine ⟨a + (1 + m), by omega, ?_⟩
    exact An_app hu (An_app (u := [d]) (An_one hp hd) hm)
/-! pairs -/
def n0 (x d : Nat) : Nat := if x ∈ OPN ∧ d = oth x then 1 else 0
def n1 (x d : Nat) : Nat := (if x ∈ OPN ∧ d ≠ oth x then 1 else 0) + (OPN.filter (· ≠ x)).countP (fun o => decide (d = oth o))
def n2 (x d : Nat) : Nat := (OPN.filter (· ≠ x)).length - (OPN.filter (· ≠ x)).countP (fun o => decide (d = oth o))
theorem few_n : ∀ x ∈ BRK, ∀ d ∈ BRK, (few x d = (0, 1) ∧ n0 x d = 1) ∨ (few x d = (1, n1 x d) ∧ n0 x d = 0) ∨ (few x d = (2, n2 x d) ∧ n0 x d = 0 ∧ n1 x d = 0) := by decide
/-- all ways to make two signs a pair -/
theorem pair_all {x d : Nat} (hd : d ∈ BRK) (v : List Nat) (n : Nat) :
    (if x ∈ OPN then clo W (oth x) (d :: v) n else 0) + sh (gat W.tn (fun n => ((OPN.filter (· ≠ x)).map fun o => clo W (oth o) (d :: v) n).sum)) n
      = n0 x d * An W [] v n + (n1 x d * sh (gat W.tn (An W [] v)) n + n2 x d * sh (sh (gat W.tn (An W [] v))) n) := by
  have e1 : (if x ∈ OPN then clo W (oth x) (d :: v) n else 0) = n0 x d * An W [] v n + (if x ∈ OPN ∧ d ≠ oth x then 1 else 0) * sh (gat W.tn (An W [] v)) n := by
    unfold n0
    by_cases hx : x ∈ OPN
    · rw [if_pos hx]
      show (if d ∈ BRK then (if d = oth x then An W [] v n else sh (gat W.tn (An W [] v)) n) else 0) = _
      rw [if_pos hd]
      by_cases e : d = oth x
      · rw [if_pos e, if_pos ⟨hx, e⟩, if_neg (fun h => h.2 e), Nat.one_mul, Nat.zero_mul]; rfl
      · rw [if_neg e, if_neg (fun h => e h.2), if_pos ⟨hx, e⟩, Nat.one_mul, Nat.zero_mul, Nat.zero_add]
    · rw [if_neg hx, if_neg (fun h => hx h.1), if_neg (fun h => hx h.1), Nat.zero_mul, Nat.zero_mul]
  have e2 : sh (gat W.tn (fun n => ((OPN.filter (· ≠ x)).map fun o => clo W (oth o) (d :: v) n).sum)) n = (OPN.filter (· ≠ x)).countP (fun o => decide (d = oth o)) * sh (gat W.tn (An W [] v)) n + n2 x d * sh (sh (gat W.tn (An W [] v))) n := by
    cases n with
    | zero => rfl
    | succ n =>
      rw [sh_succ, sh_succ, sh_succ]
      unfold gat
      by_cases ht : W.tn = true
      · rw [if_pos ht, if_pos ht]
        refine (clo_sum _ d hd v n).trans ?_
        unfold n2 gat
        rfl
      · rw [if_neg ht, if_neg ht]
        cases n with
        | zero => rfl
        | succ n => show 0 = _ * 0 + _ * (if W.tn = true then _ else 0); rw [if_neg ht, Nat.mul_zero, Nat.mul_zero]
  rw [e1, e2]
  unfold n1
  rw [Nat.add_mul]
  omega
theorem pair_both {x d : Nat} (hx : x ∈ BRK) (hd : d ∈ BRK) (v : List Nat) (n : Nat) : g1p W x (d :: v) n ≤ n0 x d * An W [] v n + (n1 x d * sh (gat W.tn (An W [] v)) n + n2 x d * sh (sh (gat W.tn (An W [] v))) n) ∧
    (g1p W x (d :: v) n < n0 x d * An W [] v n + (n1 x d * sh (gat W.tn (An W [] v)) n + n2 x d * sh (sh (gat W.tn (An W [] v))) n) → W.tn = true ∧ ∃ q m, (few x d).1 < q ∧ n = m + q ∧ An W [] v m ≠ 0) := by
  have eg : g1p W x (d :: v) n = if d ∈ BRK ∧ ((few x d).1 = 0 ∨ W.tn = true) then cv (mS (few x d)) (An W [] v) n else 0 := rfl
  rw [eg]
  by_cases ht : W.tn = true
  · rw [if_pos ⟨hd, .inr ht⟩]
    have eG : gat W.tn (An W [] v) = An W [] v := by rw [ht]; rfl
    rw [eG]
    have k1 : ∀ q, 1 < q → True := fun _ _ => trivial
    have s1 : sh (An W [] v) n ≠ 0 → ∃ m, n = m + 1 ∧ An W [] v m ≠ 0 := sh_pos
    have s2 : sh (sh (An W [] v)) n ≠ 0 → ∃ m, n = m + 2 ∧ An W [] v m ≠ 0 := fun h => by
      obtain ⟨m, rfl, hm⟩ := sh_pos h
      obtain ⟨k, rfl, hk⟩ := sh_pos hm
      exact ⟨k, rfl, hk⟩
    rcases few_n x hx d hd with ⟨ef, e0⟩ | ⟨ef, e0⟩ | ⟨ef, e0, e1⟩
    · rw [ef, cv_mS, if_pos (Nat.zero_le _), e0, Nat.sub_zero]
      refine ⟨by omega, fun h => ⟨ht, ?_⟩⟩
      by_cases z1 : sh (An W [] v) n = 0
      · rw [z1] at h
        have : sh (sh (An W [] v)) n ≠ 0 := fun z2 => by rw [z2] at h; omega
        obtain ⟨m, e, hm⟩ := s2 this
        exact ⟨2, m, by decide, e, hm⟩
      · obtain ⟨m, e, hm⟩ := s1 z1
        exact ⟨1, m, by decide, e, hm⟩
    · have em : cv (mS (1, n1 x d)) (An W [] v) n = n1 x d * sh (An W [] v) n := by
        rw [cv_mS]
        cases n with
        | zero => rfl
        | succ n => rw [if_pos (by omega)]; rfl
      rw [ef, em, e0]
      refine ⟨by omega, fun h => ⟨ht, ?_⟩⟩
      have : sh (sh (An W [] v)) n ≠ 0 := fun z2 => by rw [z2] at h; omega
      obtain ⟨m, e, hm⟩ := s2 this
      exact ⟨2, m, by show 1 < 2; decide, e, hm⟩
    · have em : cv (mS (2, n2 x d)) (An W [] v) n = n2 x d * sh (sh (An W [] v)) n := by
        rw [cv_mS]
        cases n with
        | zero => rfl
        | succ n =>
          cases n with
          | zero => rfl
          | succ n => rw [if_pos (by omega)]; rfl
      rw [ef, em, e0, e1]
      exact ⟨by omega, fun h => absurd h (by omega)⟩
  · have z1 : sh (gat W.tn (An W [] v)) n = 0 := by
      cases n with
      | zero => rfl
      | succ n => exact if_neg ht
    have z2 : sh (sh (gat W.tn (An W [] v))) n = 0 := by
      cases n with
      | zero => rfl
      | succ n =>
        cases n with
        | zero => rfl
        | succ n => exact if_neg ht
    rw [z1, z2]
    rcases few_n x hx d hd with ⟨ef, e0⟩ | ⟨ef, e0⟩ | ⟨ef, e0, e1⟩
    · rw [ef, if_pos ⟨hd, .inl rfl⟩, cv_mS, if_pos (Nat.zero_le _), e0, Nat.sub_zero]
      exact ⟨by omega, fun h => absurd h (by omega)⟩
    · rw [ef, if_neg (fun h => h.2.elim (fun q => absurd (show (1 : Nat) = 0 from q) (by decide)) ht)]
      rw [e0]
      exact ⟨Nat.zero_le _, fun h => absurd h (by omega)⟩
    · rw [ef, if_neg (fun h => h.2.elim (fun q => absurd (show (2 : Nat) = 0 from q) (by decide)) ht)]
      rw [e0]
      exact ⟨Nat.zero_le _, fun h => absurd h (by omega)⟩
/-- g1 by its parts -/
theorem g1_parts (x : Nat) (v : List Nat) (n : Nat) : g1 W x v n = g1o W x v n + ((OPN.filter (· ≠ x)).length * sh (gat W.tn (sh (gat W.pt (An W [] v)))) n + ((if x ∈ OPN then clo W (oth x) v n else 0) + sh (gat W.tn (fun n => ((OPN.filter (· ≠ x)).map fun o => clo W (oth o) v n).sum)) n)) := by
  unfold g1 g1o
  have e1 : (if x ∈ OPN then Cl W (oth x) [] v n else 0) = (if x ∈ OPN then sh (gat W.pt (An W [] v)) n else 0) + (if x ∈ OPN then clo W (oth x) v n else 0) := by
    by_cases h : x ∈ OPN
    · rw [if_pos h, if_pos h, if_pos h, Cl_eq]
    · rw [if_neg h, if_neg h, if_neg h]
  have e2 : sh (gat W.tn (bS (OPN.filter (· ≠ x)) fun o => Cl W (oth o) [] v)) n = (OPN.filter (· ≠ x)).length * sh (gat W.tn (sh (gat W.pt (An W [] v)))) n + sh (gat W.tn (fun n => ((OPN.filter (· ≠ x)).map fun o => clo W (oth o) v n).sum)) n := by
    cases n with
    | zero => rfl
    | succ n =>
      rw [sh_succ, sh_succ, sh_succ]
      unfold gat
      by_cases ht : W.tn = true
      · rw [if_pos ht, if_pos ht, if_pos ht]
        exact bS_Cl _ v n
      · rw [if_neg ht, if_neg ht, if_neg ht, Nat.mul_zero]
  rw [e1, e2]
  omega
theorem g1_both {x : Nat} (hx : x ∈ BRK) (v : List Nat) (n : Nat) : g1o W x v n + g1p W x v n ≤ g1 W x v n ∧ (g1o W x v n + g1p W x v n < g1 W x v n → (W.pt = true ∧ ∃ m, n = m + 2 ∧ An W [] v m ≠ 0) ∨ ∃ d w q m, v = d :: w ∧ d ∈ BRK ∧ W.tn = true ∧ (few x d).1 < q ∧ n = m + q ∧ An W [] w m ≠ 0) := by
  rw [g1_parts]
  have key1 : sh (gat W.tn (sh (gat W.pt (An W [] v)))) n ≠ 0 → W.pt = true ∧ ∃ m, n = m + 2 ∧ An W [] v m ≠ 0 := fun h => by
    obtain ⟨m, rfl, hm⟩ := sh_pos h
    obtain ⟨k, rfl, hk⟩ := sh_pos (gat_pos hm).2
    exact ⟨(gat_pos hk).1, k, rfl, (gat_pos hk).2⟩
  have zero : (∀ d w, v = d :: w → d ∉ BRK) → ((if x ∈ OPN then clo W (oth x) v n else 0) + sh (gat W.tn (fun n => ((OPN.filter (· ≠ x)).map fun o => clo W (oth o) v n).sum)) n = 0 ∧ g1p W x v n = 0) := fun h => by
    have a1 : clo W (oth x) v n = 0 := by
      cases v with
      | nil => rfl
      | cons d w => exact if_neg (h d w rfl)
    have a2 : sh (gat W.tn (fun n => ((OPN.filter (· ≠ x)).map fun o => clo W (oth o) v n).sum)) n = 0 := by
      cases n with
      | zero => rfl
      | succ n =>
        rw [sh_succ]
        unfold gat
        dsimp only
        rw [clo_not _ v n h]
        split <;> rfl
    have a3 : g1p W x v n = 0 := by
      cases v with
      | nil => rfl
      | cons d w => exact if_neg fun q => h d w rfl q.1
    rw [a1, a2, a3]
    exact ⟨by split <;> rfl, rfl⟩
  have fin : ∀ {A : Nat}, g1p W x v n ≤ A → (g1p W x v n < A → ∃ d w q m, v = d :: w ∧ d ∈ BRK ∧ W.tn = true ∧ (few x d).1 < q ∧ n = m + q ∧ An W [] w m ≠ 0) → g1o W x v n + g1p W x v n ≤ g1o W x v n + ((OPN.filter (· ≠ x)).length * sh (gat W.tn (sh (gat W.pt (An W [] v)))) n + A) ∧ (g1o W x v n + g1p W x v n < g1o W x v n + ((OPN.filter (· ≠ x)).length * sh (gat W.tn (sh (gat W.pt (An W [] v)))) n + A) → (W.pt = true ∧ ∃ m, n = m + 2 ∧ An W [] v m ≠ 0) ∨ ∃ d w q m, v = d :: w ∧ d ∈ BRK ∧ W.tn = true ∧ (few x d).1 < q ∧ n = m + q ∧ An W [] w m ≠ 0) := fun h1 h2 => by
    refine ⟨by omega, fun h => ?_⟩
    by_cases z : sh (gat W.tn (sh (gat W.pt (An W [] v)))) n = 0
    · rw [z] at h
      exact .inr (h2 (by omega))
    · exact .inl (key1 z)
  by_cases hv : ∃ d w, v = d :: w ∧ d ∈ BRK
  · obtain ⟨d, w, rfl, hd⟩ := hv
    rw [pair_all hd]
    obtain ⟨p1, p2⟩ := pair_both (W := W) hx hd w n
    refine fin p1 fun h => ?_
    obtain ⟨ht, q, m, h1, h2, h3⟩ := p2 h
    exact ⟨d, w, q, m, rfl, hd, ht, h1, h2, h3⟩
  · obtain ⟨z1, z2⟩ := zero fun d w e hd => hv ⟨d, w, e, hd⟩
    rw [z1]
    refine fin (by rw [z2]; exact Nat.le_refl _) fun h => ?_
    rw [z2] at h
    exact absurd h (by omega)
theorem g1_junk {x : Nat} (hx : x ∈ BRK) {v : List Nat} {b : Nat} (h : g1o W x v b + g1p W x v b < g1 W x v b) {u : List Nat} {a : Nat} (hu : An W [] u a ≠ 0) : ∃ m, m < a + b ∧ An W [] (x :: (u ++ v)) m ≠ 0 := by
  rcases (g1_both hx v b).2 h with ⟨hp, m, rfl, hm⟩ | ⟨d, w, q, m, rfl, hd, ht, hq, rfl, hm⟩
  · refine ⟨1 + (a + m), by omega, ?_⟩
    exact An_app (u := [x]) (An_one hp hx) (An_app hu hm)
  · refine ⟨a + (few x d).1 + m, by omega, ?_⟩
    have := An_app (An_pair hx hd (.inr ht) hu) hm
    rw [show x :: (u ++ [d]) ++ w = x :: (u ++ d :: w) by simp] at this
    exact this
end
end Ly

set_option maxHeartbeats 4000000
namespace Ly
/-! ### the table's numbers are the least ones, with how many -/
theorem Ld_SPz : ∀ {r : List Nat} {f g : List Nat → Ser} {Z : Nat → MC}, (∀ t, t ≤ r.length → Ld (cv (f (r.take t)) (g (r.drop t))) (Z t)) → Ld (SP f g r) (sm Z (r.length + 1))
  | [], f, g, Z, h => h 0 (Nat.le_refl _)
  | x :: r, f, g, Z, h => by
    rw [sm_head]
    refine Ld_add (h 0 (Nat.zero_le _)) ?_
    exact Ld_SPz (f := fun u => f (x :: u)) (Z := fun k => Z (k + 1)) (fun t ht => h (t + 1) (by rw [List.length_cons]; omega))
theorem seg_take {l : List Nat} {i j t : Nat} (h : i + t ≤ j) (hj : j ≤ l.length) : (seg l i j).take t = seg l i (i + t) := by
  rw [seg_app (b := i + t) (by omega) h (by omega), List.take_left' (by rw [seg_len (by omega)]; omega)]
theorem seg_dropT {l : List Nat} {i j t : Nat} (h : i + t ≤ j) (hj : j ≤ l.length) : (seg l i j).drop t = seg l (i + t) j := by
  rw [seg_app (b := i + t) (by omega) h (by omega), List.drop_left' (by rw [seg_len (by omega)]; omega)]
theorem Ld_seg {l : List Nat} {i j : Nat} {f g : List Nat → Ser} {Z : Nat → MC} (hij : i ≤ j) (hj : j ≤ l.length) (h : ∀ t, i + t ≤ j → Ld (cv (f (seg l i (i + t))) (g (seg l (i + t) j))) (Z t)) : Ld (SP f g (seg l i j)) (sm Z (j - i + 1)) := by
  have e : (seg l i j).length = j - i := seg_len hj
  rw [← e]
  refine Ld_SPz fun t ht => ?_
  rw [e] at ht
  rw [seg_take (by omega) hj, seg_dropT (by omega) hj]
  exact h t (by omega)
theorem mMul_left (x y z : MC) : mMul x (mMul y z) = m3 y x z := by
  unfold m3
  rw [← mMul_assoc, mMul_comm x y]
theorem few_pos : ∀ x ∈ BRK, ∀ d ∈ BRK, (few x d).2 ≠ 0 := by decide
theorem Ld_mc {l : List Nat} {W : Wd} : ∀ (N i j : Nat), j - i ≤ N → i ≤ j → j ≤ l.length → Ld (An W [] (seg l i j)) (mcN l W i j) := by
  intro N
  induction N with
  | zero =>
    intro i j h1 h2 h3
    have e : i = j := by omega
    subst e
    rw [seg_self, mcN_self]
    have hz : ∀ n, g2m W [] n = 0 := fun n => rfl
    have hn : ∀ n, An W [] [] n = SP (An W []) (g2 W) [] n + (if n = 0 then 1 else 0) := fun n => by
      rw [An_nil, pA_g2]
      congr 1
      simp
    have hm : ∀ n, SP (An W []) (g2m W) [] n = 0 := fun n => cv_noneR hz n
    refine Ld_junk (g := fun n => SP (An W []) (g2m W) [] n + (if n = 0 then 1 else 0)) ?_ (fun n => ?_) (fun n hl => ?_)
    · exact ⟨by show SP (An W []) (g2m W) [] 0 + 1 = 1; rw [hm], by decide, fun a ha => absurd ha (by show ¬ a < 0; omega)⟩
    · rw [hn]
      exact Nat.add_le_add_right (SP_le (fun v b => (g2_both v b).1)) _
    · rw [hn] at hl
      obtain ⟨u, v, a, b, e1, e2, ha, hb⟩ := SP_lt (fun v b => (g2_both (W := W) v b).1) (show SP (An W []) (g2m W) [] n < SP (An W []) (g2 W) [] n by omega)
      obtain ⟨m, hm, hA⟩ := g2_junk hb ha
      rw [e1] at hA
      exact ⟨m, by omega, hA⟩
  | succ N ihN =>
    intro i j h1 h2 h3
    by_cases hij : i = j
    · exact ihN i j (by omega) h2 h3
    have ih : ∀ a b, i ≤ a → a ≤ b → b ≤ j → b - a < j - i → Ld (An W [] (seg l a b)) (mcN l W a b) := fun a b k1 k2 k3 k4 => ihN a b (by omega) k2 (by omega)
    obtain ⟨x, hx⟩ : ∃ x, l[i]? = some x := ⟨_, List.getElem?_eq_getElem (by omega)⟩
    have es : seg l i j = x :: seg l (i + 1) j := seg_cons hx (by omega) h3
    have hat : ∀ t, i + t < j → ∃ d, l[i + t]? = some d ∧ seg l (i + t) j = d :: seg l (i + t + 1) j := fun t ht => by
      have e : l[i + t]? = some l[i + t] := List.getElem?_eq_getElem (by omega)
      exact ⟨_, e, seg_cons e ht h3⟩
    -- put first, closed by the text's own
    have L2 : Ld (SP (An W []) (g2m W) (seg l i j)) (sm (fun t => m3 (clM l W (i + t)) (mcN l W i (i + t)) (mcN l W (i + t + 1) j)) (j - i)) := by
      have := Ld_seg (f := An W []) (g := g2m W) (Z := fun t => if i + t < j then m3 (clM l W (i + t)) (mcN l W i (i + t)) (mcN l W (i + t + 1) j) else none) h2 h3 (fun t ht => by
        by_cases hlt : i + t < j
        · rw [if_pos hlt]
          obtain ⟨d, hd, ed⟩ := hat t hlt
          rw [ed, ← mMul_left]
          refine Ld_cv (ih i (i + t) (Nat.le_refl _) (by omega) ht (by omega)) ?_
          have hL : Ld (g2m W (d :: seg l (i + t + 1) j)) (mMul (clM l W (i + t)) (mcN l W (i + t + 1) j)) := by
            unfold clM
            rw [hd]
            dsimp only
            by_cases hc : d ∈ CLO
            · have e1 : g2m W (d :: seg l (i + t + 1) j) = sh (gat W.pt (An W [] (seg l (i + t + 1) j))) := funext fun n => if_pos hc
              rw [e1]
              have := Ld_sh (Ld_gat (b := W.pt) (ih (i + t + 1) j (by omega) (by omega) (Nat.le_refl _) (by omega)))
              by_cases hp : W.pt = true
              · rw [if_pos hp] at this
                rw [if_pos ⟨hc, hp⟩]
                exact this
              · rw [if_neg hp, mMul_none] at this
                rw [if_neg fun q => hp q.2]
                exact this
            · have e1 : g2m W (d :: seg l (i + t + 1) j) = fun _ => 0 := funext fun n => if_neg hc
              rw [e1, if_neg fun q => hc q.1]
              exact Ld_zero
          exact hL
        · rw [if_neg hlt]
          have e : i + t = j := by omega
          rw [e, seg_self]
          exact fun n => cv_noneR (fun _ => rfl) n)
      rw [sm, if_neg (by omega), mAdd_none] at this
      rw [sm_congr (g := fun t => if i + t < j then m3 (clM l W (i + t)) (mcN l W i (i + t)) (mcN l W (i + t + 1) j) else none) fun t ht => by rw [if_pos (by omega)]]
      exact this
    have junk2 : ∀ n, SP (An W []) (g2m W) (seg l i j) n < SP (An W []) (g2 W) (seg l i j) n → ∃ m, m < n ∧ An W [] (seg l i j) m ≠ 0 := fun n hl => by
      obtain ⟨u, v, a, b, e1, e2, ha, hb⟩ := SP_lt (fun v b => (g2_both (W := W) v b).1) hl
      obtain ⟨m, hm, hA⟩ := g2_junk hb ha
      rw [e1] at hA
      exact ⟨m, by omega, hA⟩
    have le2 : ∀ n, SP (An W []) (g2m W) (seg l i j) n ≤ SP (An W []) (g2 W) (seg l i j) n := fun n => SP_le (fun v b => (g2_both v b).1)
    rw [mcN_step (by omega)]
    unfold stM
    have ihr := ih (i + 1) j (by omega) (by omega) (Nat.le_refl _) (by omega)
    by_cases hb : x ∈ BRK
    · -- a bracket
      have Lsg : Ld (sh (gat W.st (An W [] (seg l (i + 1) j)))) (mMul (sgM l W i) (mcN l W (i + 1) j)) := by
        unfold sgM
        rw [hx]
        dsimp only
        rw [if_pos hb]
        have := Ld_sh (Ld_gat (b := W.st) ihr)
        by_cases hp : W.st = true
        · rw [if_pos hp] at this
          rw [if_pos hp]
          exact this
        · rw [if_neg hp, mMul_none] at this
          rw [if_neg hp]
          exact this
      have Lop : Ld (SP (An W []) (g1o W x) (seg l (i + 1) j)) (sm (fun t => m3 (opM l W i) (mcN l W (i + 1) (i + 1 + t)) (mcN l W (i + 1 + t) j)) (j - i)) := by
        have := Ld_seg (f := An W []) (g := g1o W x) (Z := fun t => m3 (opM l W i) (mcN l W (i + 1) (i + 1 + t)) (mcN l W (i + 1 + t) j)) (show i + 1 ≤ j by omega) h3 (fun t ht => by
          rw [← mMul_left]
          refine Ld_cv (ih (i + 1) (i + 1 + t) (by omega) (by omega) ht (by omega)) ?_
          have hr := ih (i + 1 + t) j (by omega) (by omega) (Nat.le_refl _) (by omega)
          unfold opM
          rw [hx]
          dsimp only
          by_cases ho : x ∈ OPN
          · have e1 : g1o W x (seg l (i + 1 + t) j) = sh (gat W.pt (An W [] (seg l (i + 1 + t) j))) := funext fun n => if_pos ho
            rw [e1]
            have := Ld_sh (Ld_gat (b := W.pt) hr)
            by_cases hp : W.pt = true
            · rw [if_pos hp] at this
              rw [if_pos ⟨ho, hp⟩]
              exact this
            · rw [if_neg hp, mMul_none] at this
              rw [if_neg fun q => hp q.2]
              exact this
          · have e1 : g1o W x (seg l (i + 1 + t) j) = fun _ => 0 := funext fun n => if_neg ho
            rw [e1, if_neg fun q => ho q.1]
            exact Ld_zero)
        rw [show j - (i + 1) + 1 = j - i by omega] at this
        exact this
      have Lpr : Ld (SP (An W []) (g1p W x) (seg l (i + 1) j)) (sm (fun t => m3 (prM l W i (i + 1 + t)) (mcN l W (i + 1) (i + 1 + t)) (mcN l W (i + 1 + t + 1) j)) (j - i - 1)) := by
        have := Ld_seg (f := An W []) (g := g1p W x) (Z := fun t => if i + 1 + t < j then m3 (prM l W i (i + 1 + t)) (mcN l W (i + 1) (i + 1 + t)) (mcN l W (i + 1 + t + 1) j) else none) (show i + 1 ≤ j by omega) h3 (fun t ht => by
          by_cases hlt : i + 1 + t < j
          · rw [if_pos hlt]
            obtain ⟨d, hd, ed⟩ := hat (1 + t) (by omega)
            rw [show i + (1 + t) = i + 1 + t by omega] at hd ed
            rw [ed, ← mMul_left]
            refine Ld_cv (ih (i + 1) (i + 1 + t) (by omega) (by omega) ht (by omega)) ?_
            have hr := ih (i + 1 + t + 1) j (by omega) (by omega) (Nat.le_refl _) (by omega)
            unfold prM
            rw [hx, hd]
            dsimp only
            by_cases hg : d ∈ BRK ∧ ((few x d).1 = 0 ∨ W.tn = true)
            · have e1 : g1p W x (d :: seg l (i + 1 + t + 1) j) = cv (mS (few x d)) (An W [] (seg l (i + 1 + t + 1) j)) := funext fun n => if_pos hg
              rw [e1, if_pos ⟨hb, hg⟩]
              exact Ld_cv (Ld_mS (few_pos x hb d hg.1)) hr
            · have e1 : g1p W x (d :: seg l (i + 1 + t + 1) j) = fun _ => 0 := funext fun n => if_neg hg
              rw [e1, if_neg fun q => hg q.2]
              exact Ld_zero
          · rw [if_neg hlt]
            have e : i + 1 + t = j := by omega
            rw [e, seg_self]
            exact fun n => cv_noneR (fun _ => rfl) n)
        rw [sm, if_neg (by omega), mAdd_none] at this
        rw [show j - i - 1 = j - (i + 1) by omega, sm_congr (g := fun t => if i + 1 + t < j then m3 (prM l W i (i + 1 + t)) (mcN l W (i + 1) (i + 1 + t)) (mcN l W (i + 1 + t + 1) j) else none) fun t ht => by rw [if_pos (by omega)]]
        exact this
      have Lall := Ld_add Lsg (Ld_add Lpr (Ld_add Lop L2))
      refine Ld_junk Lall (fun n => ?_) (fun n hl => ?_)
      · have q1 := le2 n
        have q2 : SP (An W []) (g1o W x) (seg l (i + 1) j) n + SP (An W []) (g1p W x) (seg l (i + 1) j) n ≤ SP (An W []) (g1 W x) (seg l (i + 1) j) n := by
          rw [← SP_addR]
          exact SP_le (fun v b => (g1_both hb v b).1)
        have e : An W [] (seg l i j) n = SP (An W []) (g2 W) (seg l i j) n + (sh (gat W.st (An W [] (seg l (i + 1) j))) n + SP (An W []) (g1 W x) (seg l (i + 1) j) n) := by
          rw [es]; exact An_first hb _ n
        rw [e]
        omega
      · have e : An W [] (seg l i j) n = SP (An W []) (g2 W) (seg l i j) n + (sh (gat W.st (An W [] (seg l (i + 1) j))) n + SP (An W []) (g1 W x) (seg l (i + 1) j) n) := by
          rw [es]; exact An_first hb _ n
        rw [e] at hl
        by_cases hc : SP (An W []) (g2m W) (seg l i j) n < SP (An W []) (g2 W) (seg l i j) n
        · exact junk2 n hc
        · have q1 := le2 n
          have hl2 : SP (An W []) (fun v n => g1o W x v n + g1p W x v n) (seg l (i + 1) j) n < SP (An W []) (g1 W x) (seg l (i + 1) j) n := by
            rw [SP_addR]
            omega
          obtain ⟨u, v, a, b, e1, e2, ha, hbb⟩ := SP_lt (fun v b => (g1_both (W := W) hb v b).1) hl2
          obtain ⟨m, hm, hA⟩ := g1_junk hb hbb ha
          rw [e1, ← es] at hA
          exact ⟨m, by omega, hA⟩
    · -- a letter
      have n1 : ∀ m, prM l W i m = none := fun m => by
        unfold prM
        rw [hx]
        cases l[m]? with
        | none => rfl
        | some d => exact if_neg fun q => hb q.1
      have n2 : opM l W i = none := by
        unfold opM
        rw [hx]
        exact if_neg fun q => hb (brk_or.mpr (.inl q.1))
      have n3 : sgM l W i = mOne := by
        unfold sgM
        rw [hx]
        exact if_neg hb
      have z1 : sm (fun t => m3 (prM l W i (i + 1 + t)) (mcN l W (i + 1) (i + 1 + t)) (mcN l W (i + 1 + t + 1) j)) (j - i - 1) = none := by
        refine (sm_congr (g := fun _ => none) fun t _ => ?_).trans (sm_none _)
        rw [n1]
        rfl
      have z2 : sm (fun t => m3 (opM l W i) (mcN l W (i + 1) (i + 1 + t)) (mcN l W (i + 1 + t) j)) (j - i) = none := by
        refine (sm_congr (g := fun _ => none) fun t _ => ?_).trans (sm_none _)
        rw [n2]
        rfl
      rw [z1, z2, n3, mOne_mul, none_mAdd, none_mAdd]
      have e : ∀ n, An W [] (seg l i j) n = SP (An W []) (g2 W) (seg l i j) n + An W [] (seg l (i + 1) j) n := fun n => by
        rw [es]; exact An_firstL hb _ n
      refine Ld_junk (Ld_add ihr L2) (fun n => ?_) (fun n hl => ?_)
      · rw [e]
        have := le2 n
        omega
      · rw [e] at hl
        exact junk2 n (by omega)
theorem Ld_whole {W : Wd} (l : List Nat) : Ld (An W [] l) (mcN l W 0 l.length) := by
  have := Ld_mc (l := l) (W := W) _ 0 l.length (Nat.le_refl _) (Nat.zero_le _) (Nat.le_refl _)
  rw [seg_all] at this
  exact this
end Ly

set_option maxHeartbeats 4000000
namespace Ly
/-! ### with some brackets open: the least number from each place on -/
def clC (W : Wd) (l : List Nat) (k : Nat) (F : Nat → MC) (m : Nat) : MC := mAdd (if W.pt = true then mMul w1 (F m) else none) (match l[m]? with
  | none => none
  | some x => if x = k then F (m + 1) else if x ∈ BRK ∧ W.tn = true then mMul w1 (F (m + 1)) else none)
def LV (W : Wd) (l : List Nat) : List Nat → Nat → MC
  | [], i => mcN l W i l.length
  | k :: st, i => sm (fun t => mMul (mcN l W i (i + t)) (clC W l k (LV W l st) (i + t))) (l.length - i + 1)
theorem seg_end {l : List Nat} {i : Nat} : seg l i l.length = l.drop i := by unfold seg; rw [List.take_length]
theorem Ld_LV {W : Wd} {l : List Nat} : ∀ (st : List Nat) (i : Nat), (∀ k ∈ st, k ∈ CLO) → i ≤ l.length → Ld (An W st (l.drop i)) (LV W l st i)
  | [], i, _, hi => by
    rw [← seg_end]
    exact Ld_mc _ i l.length (Nat.le_refl _) hi (Nat.le_refl _)
  | k :: st, i, hc, hi => by
    have hk := hc k List.mem_cons_self
    have ih : ∀ m, m ≤ l.length → Ld (An W st (l.drop m)) (LV W l st m) := fun m hm => Ld_LV st m (fun x hx => hc x (List.mem_cons_of_mem _ hx)) hm
    have e : An W (k :: st) (l.drop i) = SP (An W []) (Cl W k st) (seg l i l.length) := by
      rw [seg_end]
      exact funext fun n => first_ret hk st _ n (l.drop i) [] (Nat.le_refl _)
    rw [e]
    refine Ld_seg hi (Nat.le_refl _) fun t ht => ?_
    refine Ld_cv (Ld_mc _ i (i + t) (Nat.le_refl _) (by omega) ht) ?_
    rw [seg_end]
    have p1 : Ld (sh (gat W.pt (An W st (l.drop (i + t))))) (if W.pt = true then mMul w1 (LV W l st (i + t)) else none) := by
      have := Ld_sh (Ld_gat (b := W.pt) (ih (i + t) ht))
      by_cases hp : W.pt = true
      · rw [if_pos hp] at this ⊢; exact this
      · rw [if_neg hp, mMul_none] at this
        rw [if_neg hp]; exact this
    unfold clC
    by_cases hlt : i + t < l.length
    · have ex : l[i + t]? = some l[i + t] := List.getElem?_eq_getElem hlt
      have ed : l.drop (i + t) = l[i + t] :: l.drop (i + t + 1) := List.drop_eq_getElem_cons hlt
      rw [ex]
      generalize l[i + t] = x at ed
      have p2 := ih (i + t + 1) hlt
      refine Ld.congr (Ld_add (g := fun n => if x ∈ BRK then (if x = k then An W st (l.drop (i + t + 1)) n else sh (gat W.tn (An W st (l.drop (i + t + 1)))) n) else 0) p1 ?_) fun n => by unfold Cl; rw [ed]
      dsimp only
      by_cases hb : x ∈ BRK
      · by_cases hx : x = k
        · rw [if_pos hx]
          exact p2.congr fun n => by rw [if_pos hb, if_pos hx]
        · rw [if_neg hx]
          have := Ld_sh (Ld_gat (b := W.tn) p2)
          by_cases ht : W.tn = true
          · rw [if_pos ht] at this
            rw [if_pos ⟨hb, ht⟩]
            exact this.congr fun n => by rw [if_pos hb, if_neg hx]
          · rw [if_neg ht, mMul_none] at this
            rw [if_neg fun q => ht q.2]
            exact this.congr fun n => by rw [if_pos hb, if_neg hx]
      · have hx : x ≠ k := fun q => hb (q ▸ brk_or.mpr (.inr hk))
        rw [if_neg hx, if_neg fun q => hb q.1]
        exact Ld_zero.congr fun n => by rw [if_neg hb]
    · have ex : l[i + t]? = none := List.getElem?_eq_none (by omega)
      have ed : l.drop (i + t) = [] := List.drop_eq_nil_of_le (by omega)
      rw [ex]
      dsimp only
      rw [mAdd_none]
      refine p1.congr fun n => by unfold Cl; rw [ed]; rfl
/-! ### what can be done at a place, in order -/
def chS (W : Wd) (l : List Nat) (i : Nat) : List Stp := (if W.pt = true then BRK.map Stp.pt else []) ++ (match l[i]? with
  | none => []
  | some x => (if x ∈ BRK ∧ W.st = true then [Stp.st x] else []) ++ ((if x ∈ BRK ∧ W.tn = true then (BRK.filter (· ≠ x)).map (Stp.tn x) else []) ++ [Stp.kp x]))
def Stp.c : Stp → Nat
  | .kp _ => 0
  | _ => 1
/-- the pile behind a step -/
def nxS (st : List Nat) (s : Stp) : Option (List Nat) := s.o.foldl stp (some st)
def aftS (W : Wd) (st l : List Nat) (i n : Nat) (s : Stp) : List (List Stp) := if s.c ≤ n then (match nxS st s with | none => [] | some st' => rowsL W st' (l.drop (i + s.i.length)) (n - s.c)) else []
theorem flatMap_map' {α β γ : Type} (xs : List α) (f : α → β) (g : β → List γ) : (xs.map f).flatMap g = xs.flatMap fun x => g (f x) := by
  induction xs with
  | nil => rfl
  | cons x xs ih => rw [List.map_cons, List.flatMap_cons, List.flatMap_cons, ih]
theorem flatMap_nil' {α β : Type} (xs : List α) : xs.flatMap (fun _ => ([] : List β)) = [] := by
  induction xs with
  | nil => rfl
  | cons x xs ih => rw [List.flatMap_cons, ih]; rfl
theorem flatMap_congr' {α β : Type} {f g : α → List β} : ∀ {xs : List α}, (∀ x ∈ xs, f x = g x) → xs.flatMap f = xs.flatMap g
  | [], _ => rfl
  | x :: xs, h => by rw [List.flatMap_cons, List.flatMap_cons, h x List.mem_cons_self, flatMap_congr' (xs := xs) fun y hy => h y (List.mem_cons_of_mem _ hy)]
theorem rows_ch {W : Wd} {l : List Nat} {st : List Nat} {i n : Nat} (hi : i ≤ l.length) (h : ¬ (i = l.length ∧ st = [] ∧ n = 0)) : rowsL W st (l.drop i) n = (chS W l i).flatMap fun s => (aftS W st l i n s).map (s :: ·) := by
  rw [rowsL.eq_def]
  unfold chS
  rw [List.flatMap_append]
  congr 1
  · cases n with
    | zero =>
      by_cases hp : W.pt = true
      · rw [if_pos hp, flatMap_map']
        exact (flatMap_nil' BRK).symm
      · rw [if_neg hp]; rfl
    | succ n =>
      dsimp only
      by_cases hp : W.pt = true
      · rw [if_pos hp, if_pos hp, flatMap_map']
        refine flatMap_congr' fun c _ => ?_
        show _ = ((if 1 ≤ n + 1 then _ else []) : List (List Stp)).map _
        rw [if_pos (by omega)]
        rfl
      · rw [if_neg hp, if_neg hp]; rfl
  · by_cases hlt : i < l.length
    · have ex : l[i]? = some l[i] := List.getElem?_eq_getElem hlt
      have ed : l.drop i = l[i] :: l.drop (i + 1) := List.drop_eq_getElem_cons hlt
      rw [ex, ed]
      generalize l[i] = x
      dsimp only
      by_cases hb : x ∈ BRK
      · rw [if_pos hb, List.flatMap_append, List.flatMap_append]
        have ek : [Stp.kp x].flatMap (fun s => (aftS W st l i n s).map (s :: ·)) = (match stp (some st) x with | none => [] | some s => rowsL W s (l.drop (i + 1)) n).map (Stp.kp x :: ·) := by
          rw [List.flatMap_cons, List.flatMap_nil, List.append_nil]
          show ((if 0 ≤ n then _ else []) : List (List Stp)).map _ = _
          rw [if_pos (Nat.zero_le _)]
          rfl
        rw [ek, ← List.append_assoc]
        congr 1
        cases n with
        | zero =>
          have z1 : (if x ∈ BRK ∧ W.st = true then [Stp.st x] else []).flatMap (fun s => (aftS W st l i 0 s).map (s :: ·)) = [] := by split <;> rfl
          have z2 : (if x ∈ BRK ∧ W.tn = true then (BRK.filter (· ≠ x)).map (Stp.tn x) else []).flatMap (fun s => (aftS W st l i 0 s).map (s :: ·)) = [] := by
            split
            · rw [flatMap_map']; exact flatMap_nil' _
            · rfl
          rw [z1, z2]
          rfl
        | succ n =>
          dsimp only
          congr 1
          · by_cases hs : W.st = true
            · rw [if_pos hs, if_pos ⟨hb, hs⟩, List.flatMap_cons, List.flatMap_nil, List.append_nil]
              show _ = ((if 1 ≤ n + 1 then _ else []) : List (List Stp)).map _
              rw [if_pos (by omega)]
              rfl
            · rw [if_neg hs, if_neg fun q => hs q.2]; rfl
          · by_cases ht : W.tn = true
            · rw [if_pos ht, if_pos ⟨hb, ht⟩, flatMap_map']
              refine flatMap_congr' fun c _ => ?_
              show _ = ((if 1 ≤ n + 1 then _ else []) : List (List Stp)).map _
              rw [if_pos (by omega)]
              rfl
            · rw [if_neg ht, if_neg fun q => ht q.2]; rfl
      · rw [if_neg hb, if_neg fun q => hb q.1, if_neg fun q => hb q.1]
        show _ = [Stp.kp x].flatMap (fun s => (aftS W st l i n s).map (s :: ·))
        rw [List.flatMap_cons, List.flatMap_nil, List.append_nil]
        have : aftS W st l i n (Stp.kp x) = rowsL W st (l.drop (i + 1)) n := by
          show ((if 0 ≤ n then (match stp (some st) x with | none => [] | some st' => rowsL W st' (l.drop (i + 1)) (n - 0)) else []) : List (List Stp)) = _
          rw [if_pos (Nat.zero_le _), not_brk hb]
          rfl
        rw [this]
    · have ei : i = l.length := by omega
      have ex : l[i]? = none := List.getElem?_eq_none (by omega)
      have ed : l.drop i = [] := List.drop_eq_nil_of_le (by omega)
      rw [ex, ed]
      dsimp only
      rw [if_neg fun q => h ⟨ei, q⟩]
      rfl
/-- how many go on by a step, with just so many deeds -/
def mb (W : Wd) (l : List Nat) (st : List Nat) (i n : Nat) (s : Stp) : Nat := match nxS st s with
  | none => 0
  | some st' => match LV W l st' (i + s.i.length) with
    | none => 0
    | some p => if p.1 + s.c = n then p.2 else 0
theorem nxS_clo {st st' : List Nat} {s : Stp} (h : nxS st s = some st') (hc : ∀ k ∈ st, k ∈ CLO) : ∀ k ∈ st', k ∈ CLO := by
  unfold nxS at h
  have key : ∀ c, stp (some st) c = some st' → ∀ k ∈ st', k ∈ CLO := fun c h => by
    unfold stp at h
    dsimp only at h
    by_cases h1 : c ∈ OPN
    · rw [if_pos h1] at h
      rw [← Option.some.inj h]
      intro k hk
      rcases List.mem_cons.mp hk with rfl | hk
      · exact oth_clo c h1
      · exact hc k hk
    · rw [if_neg h1] at h
      by_cases h2 : c ∈ CLO
      · rw [if_pos h2] at h
        cases st with
        | nil => cases h
        | cons d r =>
          dsimp only at h
          by_cases e : d = c
          · rw [if_pos e] at h
            rw [← Option.some.inj h]
            exact fun k hk => hc k (List.mem_cons_of_mem _ hk)
          · rw [if_neg e] at h; cases h
      · rw [if_neg h2] at h
        rw [← Option.some.inj h]
        exact hc
  cases s with
  | kp c => exact key c h
  | st c => rw [← Option.some.inj (show some st = some st' from h)]; exact hc
  | tn c d => exact key d h
  | pt d => exact key d h
theorem ch_in {W : Wd} {l : List Nat} {i : Nat} {s : Stp} (h : s ∈ chS W l i) : i + s.i.length ≤ max i l.length := by
  unfold chS at h
  rcases List.mem_append.mp h with h | h
  · by_cases hp : W.pt = true
    · rw [if_pos hp] at h
      obtain ⟨c, _, rfl⟩ := List.mem_map.mp h
      show i + 0 ≤ _
      omega
    · rw [if_neg hp] at h; cases h
  · by_cases hlt : i < l.length
    · have : s.i.length ≤ 1 := by cases s <;> simp [Stp.i]
      omega
    · rw [List.getElem?_eq_none (by omega)] at h; cases h
theorem mb_len {W : Wd} {l st : List Nat} {i n N : Nat} {s : Stp} (hi : i ≤ l.length) (hc : ∀ k ∈ st, k ∈ CLO) (h : ¬ (i = l.length ∧ st = [] ∧ n = 0)) (hL : LV W l st i = some (n, N)) (hs : s ∈ chS W l i) : mb W l st i n s = (aftS W st l i n s).length := by
  have hLd := Ld_LV (W := W) st i hc hi
  rw [hL] at hLd
  have hlow : ∀ a, a < n → An W st (l.drop i) a = 0 := hLd.2.2
  have hin := ch_in hs
  rw [Nat.max_eq_right hi] at hin
  unfold mb aftS
  cases hn : nxS st s with
  | none => dsimp only; split <;> rfl
  | some st' =>
    dsimp only
    have hLd' := Ld_LV (W := W) st' (i + s.i.length) (nxS_clo hn hc) hin
    cases hx : LV W l st' (i + s.i.length) with
    | none =>
      rw [hx] at hLd'
      dsimp only
      split
      · exact (hLd' (n - s.c)).symm
      · rfl
    | some p =>
      rw [hx] at hLd'
      dsimp only
      obtain ⟨q1, q2, q3⟩ := hLd'
      by_cases e : p.1 + s.c = n
      · rw [if_pos e, if_pos (by omega), show n - s.c = p.1 by omega]
        exact q1.symm
      · rw [if_neg e]
        by_cases hle : s.c ≤ n
        · rw [if_pos hle]
          by_cases hlt : n < p.1 + s.c
          · exact (q3 (n - s.c) (by omega)).symm
          · -- less than the least
            exfalso
            have hA : An W st (l.drop i) (p.1 + s.c) ≠ 0 := by
              have hne : ¬ (i = l.length ∧ st = [] ∧ p.1 + s.c = 0) := fun q => by
                obtain ⟨e1, e2, e3⟩ := q
                subst e2
                rw [e1] at hL
                have hm : LV W l [] l.length = mOne := mcN_self l W l.length
                rw [hm] at hL
                have : n = 0 := (Prod.mk.inj (Option.some.inj hL)).1.symm
                exact h ⟨e1, rfl, this⟩
              have hpos : rowsL W st' (l.drop (i + s.i.length)) p.1 ≠ [] := fun q => q2 (by
                rw [← q1]
                show (rowsL W st' (l.drop (i + s.i.length)) p.1).length = 0
                rw [q]; rfl)
              obtain ⟨β, hβ⟩ := List.exists_mem_of_ne_nil _ hpos
              have hmem : s :: β ∈ rowsL W st (l.drop i) (p.1 + s.c) := by
                rw [rows_ch hi hne]
                refine List.mem_flatMap.mpr ⟨s, hs, List.mem_map.mpr ⟨β, ?_, rfl⟩⟩
                unfold aftS
                rw [if_pos (by omega), hn, show p.1 + s.c - s.c = p.1 by omega]
                exact hβ
              exact fun q => by
                have := List.length_pos_of_mem hmem
                have q' : (rowsL W st (l.drop i) (p.1 + s.c)).length = 0 := q
                omega
            exact hA (hlow _ (by omega))
        · rw [if_neg hle]; rfl
end Ly

set_option maxHeartbeats 4000000
namespace Ly
/-! ### how many at most, how great the least number at most -/
theorem bS_le {f : Nat → Ser} {n b : Nat} : ∀ {cs : List Nat}, (∀ c ∈ cs, f c n ≤ b) → bS cs f n ≤ cs.length * b
  | [], _ => Nat.zero_le _
  | c :: cs, h => by
    have i := bS_le (cs := cs) fun d hd => h d (List.mem_cons_of_mem _ hd)
    have e : bS (c :: cs) f n = f c n + bS cs f n := rfl
    have := h c List.mem_cons_self
    rw [e, List.length_cons, Nat.add_mul]
    omega
theorem oA_le {f : List Nat → Ser} {o : Option (List Nat)} {n b : Nat} (h : ∀ s, f s n ≤ b) : oA f o n ≤ b := by
  cases o with
  | none => exact Nat.zero_le _
  | some s => exact h s
theorem brk_flen (x : Nat) : (BRK.filter (· ≠ x)).length ≤ 8 := List.length_filter_le _ _
theorem An_upper {W : Wd} : ∀ (N n : Nat) (r st : List Nat), n + r.length ≤ N → An W st r n ≤ 17 ^ (n + r.length) := by
  intro N
  induction N with
  | zero =>
    intro n r st h
    have h1 : n = 0 := by omega
    have h2 : r = [] := List.length_eq_zero_iff.mp (by omega)
    subst h1 h2
    rw [An_nil]
    show 0 + _ ≤ 1
    split <;> omega
  | succ N ih =>
    intro n r st h
    have hp : ∀ m, n = m + 1 → pA W st r n ≤ 8 * 17 ^ (m + r.length) := fun m e => by
      subst e
      show gat W.pt _ m ≤ _
      unfold gat
      split
      · exact bS_le fun c _ => oA_le fun s => ih m r s (by omega)
      · exact Nat.zero_le _
    rw [An_eq]
    cases r with
    | nil =>
      have hr : rA W st [] n ≤ 1 := by show (if _ then 1 else 0) ≤ 1; split <;> omega
      cases n with
      | zero => show 0 + rA W st [] 0 ≤ 1; omega
      | succ n =>
        have h1 := hp n rfl
        have h2 : 17 ^ (n + 1 + ([] : List Nat).length) = 17 * 17 ^ (n + ([] : List Nat).length) := by rw [show n + 1 + ([] : List Nat).length = (n + ([] : List Nat).length) + 1 by omega, Nat.pow_succ, Nat.mul_comm]
        have h3 : 0 < 17 ^ (n + ([] : List Nat).length) := Nat.pow_pos (by decide)
        rw [h2]
        omega
    | cons x r =>
      rw [List.length_cons] at h
      have e1 : 17 ^ (n + (x :: r).length) = 17 * 17 ^ (n + r.length) := by rw [List.length_cons, show n + (r.length + 1) = (n + r.length) + 1 by omega, Nat.pow_succ, Nat.mul_comm]
      have hp' : pA W st (x :: r) n ≤ 8 * 17 ^ (n + r.length) := by
        cases n with
        | zero => exact Nat.zero_le _
        | succ m =>
          have := hp m rfl
          rw [List.length_cons, show m + (r.length + 1) = m + 1 + r.length by omega] at this
          exact this
      have hr : rA W st (x :: r) n ≤ 9 * 17 ^ (n + r.length) := by
        show (if x ∈ BRK then _ else _) ≤ _
        split
        · have h1 : oA (fun s => An W s r) (stp (some st) x) n ≤ 17 ^ (n + r.length) := oA_le fun s => ih n r s (by omega)
          cases n with
          | zero =>
            show 0 + _ ≤ _
            omega
          | succ m =>
            have h2 : tA W st x r (m + 1) ≤ 9 * 17 ^ (m + r.length) := by
              show gat W.st _ m + gat W.tn _ m ≤ _
              have g1 : gat W.st (An W st r) m ≤ 17 ^ (m + r.length) := by
                unfold gat
                split
                · exact ih m r st (by omega)
                · exact Nat.zero_le _
              have g2 : gat W.tn (bS (BRK.filter (· ≠ x)) fun c => oA (fun s => An W s r) (stp (some st) c)) m ≤ 8 * 17 ^ (m + r.length) := by
                unfold gat
                split
                · refine Nat.le_trans (bS_le (b := 17 ^ (m + r.length)) fun c _ => oA_le fun s => ih m r s (by omega)) ?_
                  exact Nat.mul_le_mul_right _ (brk_flen x)
                · exact Nat.zero_le _
              omega
            have h3 : 17 ^ (m + 1 + r.length) = 17 * 17 ^ (m + r.length) := by rw [show m + 1 + r.length = (m + r.length) + 1 by omega, Nat.pow_succ, Nat.mul_comm]
            rw [h3] at h1 ⊢
            omega
        · have := ih n r st (by omega)
          omega
      rw [e1]
      omega
theorem An_low {W : Wd} (hp : W.pt = true) : ∀ (st r : List Nat), (∀ k ∈ st, k ∈ CLO) → ∃ n, n ≤ st.length + r.length ∧ An W st r n ≠ 0
  | [], [], _ => ⟨0, Nat.le_refl _, An_pos.mpr ⟨_, Row.nil⟩⟩
  | [], x :: r, h => by
    obtain ⟨n, hn, ha⟩ := An_low hp [] r h
    by_cases hx : x ∈ BRK
    · exact ⟨1 + n, by rw [List.length_cons]; simp only [List.length_nil] at *; omega, An_app (u := [x]) (An_one hp hx) ha⟩
    · obtain ⟨α, hα⟩ := An_pos.mp ha
      exact ⟨n, by rw [List.length_cons]; omega, An_pos.mpr ⟨_, Row.kp (not_brk hx _) hα⟩⟩
  | k :: st, r, h => by
    have hk := h k List.mem_cons_self
    obtain ⟨n, hn, ha⟩ := An_low hp st r fun x hx => h x (List.mem_cons_of_mem _ hx)
    obtain ⟨α, hα⟩ := An_pos.mp ha
    exact ⟨n + 1, by rw [List.length_cons]; omega, An_pos.mpr ⟨_, Row.pt hp (brk_or.mpr (.inr hk)) (stp_clo hk) hα⟩⟩
theorem cst_in {W : Wd} (hp : W.pt = false) : ∀ α : List Stp, (∀ s ∈ α, s.wd W) → cstS α ≤ (inS α).length
  | [], _ => Nat.le_refl _
  | .kp c :: α, h => by
    have := cst_in hp α (wd_cons.mp h).2
    show cstS α ≤ (inS α).length + 1
    omega
  | .st c :: α, h => by
    have := cst_in hp α (wd_cons.mp h).2
    show cstS α + 1 ≤ (inS α).length + 1
    omega
  | .tn c d :: α, h => by
    have := cst_in hp α (wd_cons.mp h).2
    show cstS α + 1 ≤ (inS α).length + 1
    omega
  | .pt c :: α, h => by
    have : W.pt = true := (wd_cons.mp h).1
    rw [hp] at this
    cases this
theorem LV_low {W : Wd} {l st : List Nat} {i c k : Nat} (hi : i ≤ l.length) (hc : ∀ k ∈ st, k ∈ CLO) (h : LV W l st i = some (c, k)) : c ≤ st.length + (l.length - i) := by
  have hL := Ld_LV (W := W) st i hc hi
  rw [h] at hL
  obtain ⟨h1, h2, h3⟩ := hL
  cases hp : W.pt with
  | true =>
    obtain ⟨n, hn, ha⟩ := An_low hp st (l.drop i) hc
    rw [List.length_drop] at hn
    have : ¬ n < c := fun q => ha (h3 n q)
    omega
  | false =>
    obtain ⟨α, hα⟩ := An_pos.mp (show An W st (l.drop i) c ≠ 0 from fun e => h2 (h1.symm.trans e))
    have := cst_in hp α hα.wd
    rw [hα.ct, hα.tx, List.length_drop] at this
    omega
theorem LV_cnt {W : Wd} {l st : List Nat} {i : Nat} (hi : i ≤ l.length) (hc : ∀ k ∈ st, k ∈ CLO) : cnt (LV W l st i) ≤ 17 ^ (st.length + 2 * l.length) := by
  cases h : LV W l st i with
  | none => exact Nat.zero_le _
  | some p =>
    obtain ⟨c, k⟩ := p
    have h1 := LV_low hi hc h
    have hL := Ld_LV (W := W) st i hc hi
    rw [h] at hL
    have h2 : An W st (l.drop i) c = k := hL.1
    have h3 := An_upper (W := W) _ c (l.drop i) st (Nat.le_refl _)
    rw [h2, List.length_drop] at h3
    exact Nat.le_trans h3 (Nat.pow_le_pow_right (by decide) (by omega))
theorem LV_big {W : Wd} {l st : List Nat} {i : Nat} (hi : i ≤ l.length) (hc : ∀ k ∈ st, k ∈ CLO) (h1 : l.length ≤ 1000) (h2 : st.length ≤ 1000) : cnt (LV W l st i) < 2 ^ 16001 := by
  refine Nat.lt_of_le_of_lt (LV_cnt hi hc) ?_
  refine Nat.lt_of_le_of_lt (Nat.pow_le_pow_right (by decide) (show st.length + 2 * l.length ≤ 3000 by omega)) ?_
  refine Nat.lt_of_le_of_lt (Nat.pow_le_pow_left (show 17 ≤ 2 ^ 5 by decide) 3000) ?_
  rw [← Nat.pow_mul]
  exact Nat.pow_lt_pow_right (by decide) (by decide)
/-! ### the row with a number -/
theorem flat_at {α β : Type} {f : α → List β} : ∀ {pre : List α} {s : α} {post : List α} {k : Nat}, k < (f s).length → ((pre ++ s :: post).flatMap f)[(pre.map fun x => (f x).length).sum + k]? = (f s)[k]?
  | [], s, post, k, h => by
    rw [List.nil_append, List.flatMap_cons, List.map_nil, List.sum_nil, Nat.zero_add, List.getElem?_append_left h]
  | p :: pre, s, post, k, h => by
    rw [List.cons_append, List.flatMap_cons, List.map_cons, List.sum_cons, List.getElem?_append_right (by omega), show (f p).length + (pre.map fun x => (f x).length).sum + k - (f p).length = (pre.map fun x => (f x).length).sum + k by omega]
    exact flat_at h
theorem rows_at {W : Wd} {l st pre post : List Nat} {i n N k : Nat} {p q : List Stp} {s : Stp} (hi : i ≤ l.length) (hc : ∀ k ∈ st, k ∈ CLO) (h : ¬ (i = l.length ∧ st = [] ∧ n = 0)) (hL : LV W l st i = some (n, N)) (e : chS W l i = p ++ s :: q) (hk : k < mb W l st i n s) :
    (rowsL W st (l.drop i) n)[(p.map (mb W l st i n)).sum + k]? = ((aftS W st l i n s)[k]?).map (s :: ·) := by
  have hm : ∀ x ∈ chS W l i, mb W l st i n x = (aftS W st l i n x).length := fun x hx => mb_len hi hc h hL hx
  have e1 : p.map (mb W l st i n) = p.map fun x => ((aftS W st l i n x).map (x :: ·)).length := List.map_congr_left fun x hx => by rw [List.length_map, hm x (by rw [e]; exact List.mem_append_left _ hx)]
  rw [rows_ch hi h, e, e1, flat_at (by rw [List.length_map, ← hm s (by rw [e]; simp)]; exact hk), List.getElem?_map]
theorem rows_sum {W : Wd} {l st : List Nat} {i n N : Nat} (hi : i ≤ l.length) (hc : ∀ k ∈ st, k ∈ CLO) (h : ¬ (i = l.length ∧ st = [] ∧ n = 0)) (hL : LV W l st i = some (n, N)) : ((chS W l i).map (mb W l st i n)).sum = N := by
  have hm : ∀ x ∈ chS W l i, mb W l st i n x = (aftS W st l i n x).length := fun x hx => mb_len hi hc h hL hx
  have hLd := Ld_LV (W := W) st i hc hi
  rw [hL] at hLd
  have h1 : (rowsL W st (l.drop i) n).length = N := hLd.1
  rw [← h1, rows_ch hi h, List.length_flatMap]
  congr 1
  exact List.map_congr_left fun x hx => by rw [List.length_map, hm x hx]
/-- what is left behind a step that is taken -/
theorem aft_go {W : Wd} {l st : List Nat} {i n N k : Nat} {s : Stp} (hi : i ≤ l.length) (hc : ∀ k ∈ st, k ∈ CLO) (h : ¬ (i = l.length ∧ st = [] ∧ n = 0)) (hL : LV W l st i = some (n, N)) (hs : s ∈ chS W l i) (hk : k < mb W l st i n s) :
    ∃ st' n' N', nxS st s = some st' ∧ n = n' + s.c ∧ LV W l st' (i + s.i.length) = some (n', N') ∧ k < N' ∧ aftS W st l i n s = rowsL W st' (l.drop (i + s.i.length)) n' := by
  have hm := mb_len hi hc h hL hs
  unfold mb at hk
  cases hn : nxS st s with
  | none => rw [hn] at hk; exact absurd hk (Nat.not_lt_zero _)
  | some st' =>
    rw [hn] at hk
    dsimp only at hk
    cases hx : LV W l st' (i + s.i.length) with
    | none => rw [hx] at hk; exact absurd hk (Nat.not_lt_zero _)
    | some p =>
      rw [hx] at hk
      dsimp only at hk
      obtain ⟨c, m⟩ := p
      by_cases e : c + s.c = n
      · rw [if_pos e] at hk
        refine ⟨st', c, m, rfl, e.symm, hx, hk, ?_⟩
        unfold aftS
        rw [if_pos (by omega), hn, show n - s.c = c by omega]
      · rw [if_neg e] at hk; exact absurd hk (Nat.not_lt_zero _)
end Ly

set_option maxHeartbeats 4000000
namespace Ly
open PySem PySem.Spec PyProof.Rows L2 SX
/-! ### things side by side -/
theorem pd_imp {α β : Type} {R S : α → β → Prop} (h : ∀ a b, R a b → S a b) : ∀ {xs : List α} {ys : List β}, Paired R xs ys → Paired S xs ys
  | _, _, .nil => .nil
  | _, _, .cons x r => .cons (h _ _ x) (pd_imp h r)
theorem pd_app {α β : Type} {R : α → β → Prop} : ∀ {xs xs' : List α} {ys ys' : List β}, Paired R xs ys → Paired R xs' ys' → Paired R (xs ++ xs') (ys ++ ys')
  | _, _, _, _, .nil, h => h
  | _, _, _, _, .cons x r, h => .cons x (pd_app r h)
theorem pd_len {α β : Type} {R : α → β → Prop} : ∀ {xs : List α} {ys : List β}, Paired R xs ys → xs.length = ys.length
  | _, _, .nil => rfl
  | _, _, .cons x r => by rw [List.length_cons, List.length_cons, pd_len r]
theorem pd_one {α β : Type} {R : α → β → Prop} {x : α} {y : β} (h : R x y) : Paired R [x] [y] := .cons h .nil
/-- a turn through a list and what stands beside it -/
theorem pd_mid {α β : Type} {R : α → β → Prop} : ∀ {pre : List α} {x : α} {post : List α} {ys : List β}, Paired R (pre ++ x :: post) ys → ∃ p y q, ys = p ++ y :: q ∧ p.length = pre.length ∧ R x y ∧ Paired R pre p ∧ Paired R post q
  | [], x, post, _, .cons h r => ⟨[], _, _, rfl, rfl, h, .nil, r⟩
  | a :: pre, x, post, _, .cons h r => by
    obtain ⟨p, y, q, e1, e2, h1, h2, h3⟩ := pd_mid r
    exact ⟨_ :: p, y, q, by rw [e1]; rfl, by rw [List.length_cons, List.length_cons, e2], h1, .cons h h2, h3⟩
theorem g_ext {H : Hp} {Q : VK} {p a : Addr} {xs ys : List V} (h : H p = some (.lst xs)) (h2 : H a = some (.lst ys)) (hl : xs.length + ys.length ≤ 100000) (q : ∀ H1, But p H H1 → H1 p = some (.lst (xs ++ ys)) → Q .non H1) : rExtend (.ref p) [.ref a] H Q := ⟨p, a, xs, ys, rfl, rfl, h, h2, Nat.le_trans hl (by decide), q _ But.set upd_same⟩
theorem atI_last2 {α : Type} (xs : List α) (x y : α) : atI (xs ++ [x, y]) (-2) = some x := by
  unfold atI ixN
  rw [if_neg (by omega), if_pos (by rw [List.length_append]; simp; omega)]
  show (xs ++ [x, y])[_]? = some x
  rw [show (-2 + (((xs ++ [x, y]).length : Nat) : Int)).toNat = xs.length by rw [List.length_append]; simp; omega, List.getElem?_append_right (Nat.le_refl _), Nat.sub_self]
  rfl
/-- the deed of a step -/
def dwS : Stp → Dw
  | .kp c => .trn c
  | .st _ => .str
  | .tn _ d => .trn d
  | .pt d => .put d
end Ly

set_option maxHeartbeats 4000000
namespace Ly
/-! ### so many deeds are enough: strikes and turned pairs, by lists -/
inductive Mx : List Nat → Nat → Prop
  | nil : Mx [] 0
  | let_ {x n : Nat} {r : List Nat} : x ∉ BRK → Mx r n → Mx (x :: r) n
  | str {x n : Nat} {r : List Nat} : x ∈ BRK → Mx r n → Mx (x :: r) (n + 1)
  | pair {x d a b : Nat} {u v : List Nat} : x ∈ BRK → d ∈ BRK → Mx u a → Mx v b → Mx (x :: (u ++ d :: v)) (tns x d + a + b)
theorem Mx.app {u v : List Nat} {a b : Nat} (h : Mx u a) (h2 : Mx v b) : Mx (u ++ v) (a + b) := by
  induction h with
  | nil => rw [Nat.zero_add]; exact h2
  | let_ e _ ih => exact .let_ e ih
  | @str x n r e _ ih =>
    rw [show n + 1 + b = n + b + 1 by omega]
    exact .str e ih
  | @pair x d a b' u v e1 e2 h3 _ _ ih =>
    rw [List.cons_append, List.append_assoc, List.cons_append, Nat.add_assoc]
    exact .pair e1 e2 h3 ih
theorem Mx.one {x : Nat} (h : x ∈ BRK) : Mx [x] 1 := .str h .nil
theorem app_split {α : Type} {u v a z : List α} {d o : α} (h : u ++ d :: v = a ++ o :: z) : (∃ c, u = a ++ o :: c ∧ z = c ++ d :: v) ∨ (u = a ∧ d = o ∧ v = z) ∨ (∃ c, a = u ++ d :: c ∧ v = c ++ o :: z) := by
  rcases List.append_eq_append_iff.mp h with ⟨as, h1, h2⟩ | ⟨bs, h1, h2⟩
  · cases as with
    | nil =>
      rw [List.append_nil] at h1
      cases h2
      exact .inr (.inl ⟨h1.symm, rfl, rfl⟩)
    | cons x as =>
      cases h2
      exact .inr (.inr ⟨as, h1, rfl⟩)
  · cases bs with
    | nil =>
      rw [List.append_nil] at h1
      cases h2
      exact .inr (.inl ⟨h1, rfl, rfl⟩)
    | cons x bs =>
      cases h2
      exact .inl ⟨bs, h1, rfl⟩
theorem Mx.last {w : List Nat} {n : Nat} (h : Mx w n) : ∀ {u : List Nat} {y : Nat}, w = u ++ [y] → y ∈ BRK → (∃ m, Mx u m ∧ m + 1 ≤ n) ∨ (∃ a1 Y a2 p q, u = a1 ++ Y :: a2 ∧ Y ∈ BRK ∧ Mx a1 p ∧ Mx a2 q ∧ tns Y y + p + q ≤ n) := by
  induction h with
  | nil => intro u y e; cases u <;> cases e
  | @let_ x n r hx hr ih =>
    intro u y e hy
    cases u with
    | nil => cases e; exact absurd hy hx
    | cons z u =>
      cases e
      rcases ih rfl hy with ⟨m, h1, h2⟩ | ⟨a1, Y, a2, p, q, rfl, h2, h3, h4, h5⟩
      · exact .inl ⟨m, .let_ hx h1, h2⟩
      · exact .inr ⟨x :: a1, Y, a2, p, q, rfl, h2, .let_ hx h3, h4, h5⟩
  | @str x n r hx hr ih =>
    intro u y e hy
    cases u with
    | nil => cases e; exact .inl ⟨0, .nil, by omega⟩
    | cons z u =>
      cases e
      rcases ih rfl hy with ⟨m, h1, h2⟩ | ⟨a1, Y, a2, p, q, rfl, h2, h3, h4, h5⟩
      · exact .inl ⟨m + 1, .str hx h1, by omega⟩
      · exact .inr ⟨x :: a1, Y, a2, p + 1, q, rfl, h2, .str hx h3, h4, by omega⟩
  | @pair x d a b s v hx hd hs hv ih1 ih2 =>
    intro u y e hy
    cases u with
    | nil =>
      exfalso
      have := congrArg List.length e
      simp at this
    | cons z u =>
      rw [List.cons_append] at e
      have ex : x = z := (List.cons.inj e).1
      subst ex
      rcases app_split (List.cons.inj e).2 with ⟨c, h1, h2⟩ | ⟨h1, h2, h3⟩ | ⟨c, h1, h2⟩
      · exfalso
        cases c <;> cases h2
      · subst h1 h2 h3
        have : b = 0 := by cases hv; rfl
        subst this
        exact .inr ⟨[], x, s, 0, a, rfl, hx, .nil, hs, by omega⟩
      · subst h1
        rcases ih2 h2 hy with ⟨m, g1, g2⟩ | ⟨a1, Y, a2, p, q, rfl, g2, g3, g4, g5⟩
        · exact .inl ⟨tns x d + a + m, .pair hx hd hs g1, by omega⟩
        · exact .inr ⟨x :: (s ++ d :: a1), Y, a2, tns x d + a + p, q, by simp, g2, .pair hx hd hs g3, g4, by omega⟩
/-- the first bracket struck or made a pair -/
theorem Mx.first {x n : Nat} {r : List Nat} (h : Mx (x :: r) n) (hx : x ∈ BRK) : (∃ m, Mx r m ∧ n = m + 1) ∨ (∃ u d v p q, r = u ++ d :: v ∧ d ∈ BRK ∧ Mx u p ∧ Mx v q ∧ n = tns x d + p + q) := by
  cases h with
  | let_ h _ => exact absurd hx h
  | str _ h => exact .inl ⟨_, h, rfl⟩
  | pair _ hd h1 h2 => exact .inr ⟨_, _, _, _, _, rfl, hd, h1, h2, rfl⟩
theorem tns1 : ∀ o ∈ OPN, ∀ d ∈ BRK, 1 ≤ tns (oth o) d := by decide
theorem tns2 : ∀ o ∈ OPN, ∀ e ∈ BRK, ∀ d ∈ BRK, tns e d ≤ tns o d + tns (oth o) e := by decide
theorem tns3 : ∀ o ∈ OPN, ∀ x ∈ BRK, ∀ y ∈ BRK, tns x y ≤ tns x (oth o) + tns y o := by decide
theorem tns4 : ∀ o ∈ OPN, ∀ x ∈ BRK, ∀ y ∈ BRK, tns x y ≤ tns x o + tns (oth o) y := by decide
theorem Mx.out_let {w : List Nat} {n : Nat} (h : Mx w n) : ∀ {a b : List Nat} {x : Nat}, x ∉ BRK → w = a ++ x :: b → Mx (a ++ b) n := by
  induction h with
  | nil => intro a b x _ e; cases a <;> cases e
  | @let_ y n r hy hr ih =>
    intro a b x hx e
    cases a with
    | nil => cases e; exact hr
    | cons z a => cases e; exact .let_ hy (ih hx rfl)
  | @str y n r hy hr ih =>
    intro a b x hx e
    cases a with
    | nil => cases e; exact absurd hy hx
    | cons z a => cases e; exact .str hy (ih hx rfl)
  | @pair y d p q u v hy hd hu hv ih1 ih2 =>
    intro a b x hx e
    cases a with
    | nil => cases e; exact absurd hy hx
    | cons z a =>
      rw [List.cons_append] at e
      have ez : y = z := (List.cons.inj e).1
      subst ez
      rcases app_split (List.cons.inj e).2 with ⟨c, h1, h2⟩ | ⟨h1, h2, h3⟩ | ⟨c, h1, h2⟩
      · subst h2
        have := ih1 hx h1
        rw [List.cons_append, ← List.append_assoc]
        exact .pair hy hd this hv
      · exact absurd (h2 ▸ hd) hx
      · subst h1
        have := ih2 hx h2
        rw [List.cons_append, List.append_assoc, List.cons_append]
        exact .pair hy hd hu this
theorem Mx.out_pair {w : List Nat} {n : Nat} (h : Mx w n) : ∀ {a b : List Nat} {o : Nat}, o ∈ OPN → w = a ++ o :: oth o :: b → ∃ m, m ≤ n ∧ Mx (a ++ b) m := by
  induction h with
  | nil => intro a b x _ e; cases a <;> cases e
  | @let_ y n r hy hr ih =>
    intro a b o ho e
    cases a with
    | nil => cases e; exact absurd (brk_or.mpr (.inl ho)) hy
    | cons z a =>
      cases e
      obtain ⟨m, h1, h2⟩ := ih ho rfl
      exact ⟨m, h1, .let_ hy h2⟩
  | @str y n r hy hr ih =>
    intro a b o ho e
    have hob := oth_brk o (brk_or.mpr (.inl ho))
    cases a with
    | nil =>
      cases e
      rcases hr.first hob with ⟨m, h1, rfl⟩ | ⟨u, d, v, p, q, rfl, hd, h1, h2, rfl⟩
      · exact ⟨m, by omega, h1⟩
      · refine ⟨p + (q + 1), ?_, h1.app (.str hd h2)⟩
        have := tns1 _ ho d hd
        omega
    | cons z a =>
      cases e
      obtain ⟨m, h1, h2⟩ := ih ho rfl
      exact ⟨m + 1, by omega, .str hy h2⟩
  | @pair x d p q u v hx hd hu hv ih1 ih2 =>
    intro a b o ho e
    have hob := oth_brk o (brk_or.mpr (.inl ho))
    cases a with
    | nil =>
      rw [List.nil_append] at e
      have ex : x = o := (List.cons.inj e).1
      subst ex
      have e2 := (List.cons.inj e).2
      cases u with
      | nil => cases e2; exact ⟨q, by omega, hv⟩
      | cons z u =>
        rw [List.cons_append] at e2
        have ez : z = oth x := (List.cons.inj e2).1
        subst ez
        have eb : u ++ d :: v = b := (List.cons.inj e2).2
        subst eb
        rcases hu.first hob with ⟨m, h1, rfl⟩ | ⟨u1, ee, u2, p1, p2, rfl, he, h1, h2, rfl⟩
        · exact ⟨m + (q + 1), by omega, h1.app (.str hd hv)⟩
        · refine ⟨p1 + (tns ee d + p2 + q), ?_, ?_⟩
          · have := tns2 _ ho ee he d hd
            omega
          · have := h1.app (Mx.pair he hd h2 hv)
            rw [List.nil_append, List.append_assoc, List.cons_append]
            exact this
    | cons z a =>
      rw [List.cons_append] at e
      have ez : x = z := (List.cons.inj e).1
      subst ez
      rcases app_split (List.cons.inj e).2 with ⟨c, h1, h2⟩ | ⟨h1, h2, h3⟩ | ⟨c, h1, h2⟩
      · cases c with
        | nil =>
          -- u = a ++ [o], d = oth o
          cases h2
          rcases hu.last h1 (brk_or.mpr (.inl ho)) with ⟨m, g1, g2⟩ | ⟨a1, Y, a2, p1, p2, rfl, g2, g3, g4, g5⟩
          · refine ⟨(m + q) + 1, by omega, ?_⟩
            rw [List.cons_append]
            exact .str hx (g1.app hv)
          · refine ⟨tns x Y + p1 + (p2 + q), ?_, ?_⟩
            · have := tns3 _ ho x hx Y g2
              omega
            · rw [List.cons_append, List.append_assoc, List.cons_append]
              exact .pair hx g2 g3 (g4.app hv)
        | cons y c =>
          cases h2
          obtain ⟨m, g1, g2⟩ := ih1 ho h1
          refine ⟨tns x d + m + q, by omega, ?_⟩
          show Mx (x :: (a ++ (c ++ d :: v))) _
          rw [← List.append_assoc]
          exact .pair hx hd g2 hv
      · subst h1 h2 h3
        rcases hv.first hob with ⟨m, g1, rfl⟩ | ⟨b1, Y, b2, q1, q2, rfl, g2, g3, g4, rfl⟩
        · refine ⟨(p + m) + 1, by omega, ?_⟩
          rw [List.cons_append]
          exact .str hx (hu.app g1)
        · refine ⟨tns x Y + (p + q1) + q2, ?_, ?_⟩
          · have := tns4 _ ho x hx Y g2
            omega
          · rw [List.cons_append, ← List.append_assoc]
            exact .pair hx g2 (hu.app g3) g4
      · subst h1
        obtain ⟨m, g1, g2⟩ := ih2 ho h2
        refine ⟨tns x d + p + m, by omega, ?_⟩
        rw [List.cons_append, List.append_assoc, List.cons_append]
        exact .pair hx hd hu g2
/-! ### the least number -/
noncomputable def lsN (l : List Nat) : Nat := lstN l 0 l.length
theorem Mn.mx {l : List Nat} {i j n : Nat} (h : Mn l i j n) : j ≤ l.length → Mx (seg l i j) n := by
  induction h with
  | nil i => intro _; rw [seg_self]; exact .nil
  | @let_ i j n c e1 e2 h ih =>
    intro hj
    rw [seg_cons e1 (by have := h.le; omega) hj]
    exact .let_ e2 (ih hj)
  | @str i j n c e1 e2 h ih =>
    intro hj
    rw [seg_cons e1 (by have := h.le; omega) hj]
    exact .str e2 (ih hj)
  | @pair i m j a b c d e1 e2 e3 e4 h1 h2 ih1 ih2 =>
    intro hj
    have l1 := h1.le
    have l2 := h2.le
    rw [seg_cons e1 (by omega) hj, seg_app (b := m) l1 (by omega) (by omega), seg_cons e3 (by omega) hj]
    exact .pair e2 e4 (ih1 (by omega)) (ih2 hj)
def wAll : Wd := ⟨true, true, true⟩
theorem lsN_mx (l : List Nat) : Mx l (lsN l) := by
  have := (lstN_spec (l := l) (i := 0) (j := l.length) (Nat.zero_le _) (Nat.le_refl _)).1.mx (Nat.le_refl _)
  rw [seg_all] at this
  exact this
theorem mc_ls {W : Wd} (hs : W.st = true) (ht : W.tn = true) (l : List Nat) : ∃ N, mcN l W 0 l.length = some (lsN l, N) := mcN_cost hs ht (Nat.zero_le _) (Nat.le_refl _)
theorem lsN_An {W : Wd} (hs : W.st = true) (ht : W.tn = true) (l : List Nat) : An W [] l (lsN l) ≠ 0 ∧ ∀ n, An W [] l n ≠ 0 → lsN l ≤ n := by
  obtain ⟨N, hN⟩ := mc_ls hs ht l
  have := Ld_whole (W := W) l
  rw [hN] at this
  obtain ⟨h1, h2, h3⟩ := this
  exact ⟨fun e => h2 (h1.symm.trans e), fun n hn => Nat.le_of_not_lt fun q => hn (h3 n q)⟩
theorem Mx.An {W : Wd} (hs : W.st = true) (ht : W.tn = true) {l : List Nat} {n : Nat} (h : Mx l n) : An W [] l n ≠ 0 := by
  induction h with
  | nil => exact An_pos.mpr ⟨_, Row.nil⟩
  | let_ hx _ ih =>
    obtain ⟨α, ha⟩ := An_pos.mp ih
    exact An_pos.mpr ⟨_, Row.kp (not_brk hx _) ha⟩
  | str hx _ ih =>
    obtain ⟨α, ha⟩ := An_pos.mp ih
    exact An_pos.mpr ⟨_, Row.str hs hx ha⟩
  | @pair x d a b u v hx hd _ _ ih1 ih2 =>
    have := An_app (An_pair hx hd (.inr ht) ih1) ih2
    rw [few_tns x hx d hd, show x :: (u ++ [d]) ++ v = x :: (u ++ d :: v) by simp, show a + tns x d + b = tns x d + a + b by omega] at this
    exact this
theorem lsN_le {l : List Nat} {n : Nat} (h : Mx l n) : lsN l ≤ n := (lsN_An (W := wAll) rfl rfl l).2 n (h.An rfl rfl)
theorem lsN_row (l : List Nat) : ∃ α, Row wAll [] l (lsN l) α := An_pos.mp (lsN_An (W := wAll) rfl rfl l).1
theorem lsN_leR {l : List Nat} {n : Nat} {α : List Stp} (h : Row wAll [] l n α) : lsN l ≤ n := (lsN_An (W := wAll) rfl rfl l).2 n (An_pos.mpr ⟨α, h⟩)
theorem lsN_app (u v : List Nat) : lsN (u ++ v) ≤ lsN u + lsN v := lsN_le ((lsN_mx u).app (lsN_mx v))
theorem lsN_around {o : Nat} (ho : o ∈ OPN) (l : List Nat) : lsN (o :: (l ++ [oth o])) ≤ lsN l := by
  have hob := brk_or.mpr (.inl ho)
  have h := Mx.pair hob (oth_brk o hob) (lsN_mx l) Mx.nil
  have e : tns o (oth o) = 0 := (show ∀ o ∈ OPN, tns o (oth o) = 0 by decide) o ho
  have := lsN_le h
  omega
/-! a clean text put in -/
theorem lsN_out {a b : List Nat} : ∀ (n : Nat) (c : List Nat), c.length ≤ n → clean c → ∀ a b : List Nat, lsN (a ++ b) ≤ lsN (a ++ c ++ b)
  | 0, c, h, _, a, b => by
    have : c = [] := List.length_eq_zero_iff.mp (by omega)
    subst this
    rw [List.append_nil]
    exact Nat.le_refl _
  | n + 1, [], h, _, a, b => by rw [List.append_nil]; exact Nat.le_refl _
  | n + 1, x :: c, h, hc, a, b => by
    rw [List.length_cons] at h
    by_cases ho : x ∈ OPN
    · have hf : c.foldl stp (some [oth x]) = some [] := by
        have : (x :: c).foldl stp (some []) = some [] := hc
        rw [List.foldl_cons, stp_opn ho] at this
        exact this
      obtain ⟨u, v, e, hu, hv⟩ := fold_split c.length c (oth x) [] [] (Nat.le_refl _) (oth_clo x ho) hf (Nat.le_refl _)
      subst e
      have hv' : clean v := hv
      have hl : u.length + (v.length + 1) ≤ n := by simp at h; omega
      have h1 := lsN_out (a := []) (b := []) n v (by omega) hv' a b
      have h2 : lsN (a ++ v ++ b) ≤ lsN (a ++ x :: oth x :: (v ++ b)) := by
        obtain ⟨m, hm, hM⟩ := (lsN_mx (a ++ x :: oth x :: (v ++ b))).out_pair ho rfl
        rw [← List.append_assoc] at hM
        have := lsN_le hM
        omega
      have h3 := lsN_out (a := []) (b := []) n u (by omega) hu (a ++ [x]) (oth x :: (v ++ b))
      rw [show a ++ [x] ++ oth x :: (v ++ b) = a ++ x :: oth x :: (v ++ b) by simp, show a ++ [x] ++ u ++ oth x :: (v ++ b) = a ++ x :: (u ++ oth x :: v) ++ b by simp] at h3
      omega
    · by_cases hcl : x ∈ CLO
      · exfalso
        have : (x :: c).foldl stp (some []) = some [] := hc
        rw [List.foldl_cons] at this
        unfold stp at this
        dsimp only at this
        rw [if_neg ho, if_pos hcl] at this
        have e := fold_none c
        unfold stp at e
        rw [e] at this
        cases this
      · have hb : x ∉ BRK := fun q => (brk_or.mp q).elim ho hcl
        have hc' : clean c := by
          have : (x :: c).foldl stp (some []) = some [] := hc
          rw [List.foldl_cons, not_brk hb] at this
          exact this
        have h1 := lsN_out (a := []) (b := []) n c (by omega) hc' a b
        have h2 := lsN_le ((lsN_mx (a ++ x :: c ++ b)).out_let hb (a := a) (b := c ++ b) (by simp))
        rw [← List.append_assoc] at h2
        omega
end Ly

set_option maxHeartbeats 4000000
namespace Ly
/-! ### rows cut, changed at one place -/
theorem row_cut : ∀ (α : List Stp) (a b : List Nat), inS α = a ++ b → ∃ α1 α2, α = α1 ++ α2 ∧ inS α1 = a ∧ inS α2 = b
  | α, [], b, h => ⟨[], α, rfl, rfl, h⟩
  | [], x :: a, b, h => by cases h
  | .pt c :: α, x :: a, b, h => by
    obtain ⟨α1, α2, rfl, h1, h2⟩ := row_cut α (x :: a) b h
    exact ⟨.pt c :: α1, α2, rfl, h1, h2⟩
  | .kp c :: α, x :: a, b, h => by
    have h' : c :: inS α = x :: (a ++ b) := h
    obtain ⟨α1, α2, rfl, h1, h2⟩ := row_cut α a b (List.cons.inj h').2
    exact ⟨.kp c :: α1, α2, rfl, by show c :: inS α1 = x :: a; rw [h1, (List.cons.inj h').1], h2⟩
  | .st c :: α, x :: a, b, h => by
    have h' : c :: inS α = x :: (a ++ b) := h
    obtain ⟨α1, α2, rfl, h1, h2⟩ := row_cut α a b (List.cons.inj h').2
    exact ⟨.st c :: α1, α2, rfl, by show c :: inS α1 = x :: a; rw [h1, (List.cons.inj h').1], h2⟩
  | .tn c d :: α, x :: a, b, h => by
    have h' : c :: inS α = x :: (a ++ b) := h
    obtain ⟨α1, α2, rfl, h1, h2⟩ := row_cut α a b (List.cons.inj h').2
    exact ⟨.tn c d :: α1, α2, rfl, by show c :: inS α1 = x :: a; rw [h1, (List.cons.inj h').1], h2⟩
theorem row_at : ∀ (α : List Stp) (s : Nat) (b : List Nat), inS α = s :: b → ∃ β1 y β2, α = β1 ++ y :: β2 ∧ inS β1 = [] ∧ y.i = [s] ∧ inS β2 = b
  | [], s, b, h => by cases h
  | .pt c :: α, s, b, h => by
    obtain ⟨β1, y, β2, rfl, h1, h2, h3⟩ := row_at α s b h
    exact ⟨.pt c :: β1, y, β2, rfl, h1, h2, h3⟩
  | .kp c :: α, s, b, h => by
    have h' : c :: inS α = s :: b := h
    exact ⟨[], .kp c, α, rfl, rfl, by rw [← (List.cons.inj h').1]; rfl, (List.cons.inj h').2⟩
  | .st c :: α, s, b, h => by
    have h' : c :: inS α = s :: b := h
    exact ⟨[], .st c, α, rfl, rfl, by rw [← (List.cons.inj h').1]; rfl, (List.cons.inj h').2⟩
  | .tn c d :: α, s, b, h => by
    have h' : c :: inS α = s :: b := h
    exact ⟨[], .tn c d, α, rfl, rfl, by rw [← (List.cons.inj h').1]; rfl, (List.cons.inj h').2⟩
theorem row_mid {α : List Stp} {a b : List Nat} {s : Nat} (h : inS α = a ++ s :: b) : ∃ β1 y β2, α = β1 ++ y :: β2 ∧ inS β1 = a ∧ y.i = [s] ∧ inS β2 = b := by
  obtain ⟨α1, α2, rfl, h1, h2⟩ := row_cut α a (s :: b) h
  obtain ⟨β1, y, β2, rfl, h3, h4, h5⟩ := row_at α2 s b h2
  exact ⟨α1 ++ β1, y, β2, by simp, by rw [inS_app, h1, h3, List.append_nil], h4, h5⟩
theorem kp_in (c : List Nat) : inS (c.map Stp.kp) = c := by
  induction c with
  | nil => rfl
  | cons x c ih => show x :: inS (c.map Stp.kp) = x :: c; rw [ih]
theorem kp_out (c : List Nat) : outS (c.map Stp.kp) = c := by
  induction c with
  | nil => rfl
  | cons x c ih => show x :: outS (c.map Stp.kp) = x :: c; rw [ih]
theorem kp_cst (c : List Nat) : cstS (c.map Stp.kp) = 0 := by
  induction c with
  | nil => rfl
  | cons x c ih => exact ih
theorem kp_ok (c : List Nat) : okS (c.map Stp.kp) := fun s hs => by
  obtain ⟨x, _, rfl⟩ := List.mem_map.mp hs
  exact trivial
theorem kp_wd (W : Wd) (c : List Nat) : ∀ s ∈ c.map Stp.kp, s.wd W := fun s hs => by
  obtain ⟨x, _, rfl⟩ := List.mem_map.mp hs
  exact trivial
section
variable {W : Wd} {a b : List Nat} {n : Nat}
theorem row_ins {α : List Stp} {c : List Nat} (h : Row W [] (a ++ b) n α) (hc : clean c) : ∃ β, Row W [] (a ++ c ++ b) n β := by
  obtain ⟨α1, α2, rfl, h1, h2⟩ := row_cut α a b h.tx
  have hf := h.fo
  rw [outS_app, List.foldl_append] at hf
  refine ⟨α1 ++ c.map Stp.kp ++ α2, okS_app (okS_app (fun s hs => h.ok s (List.mem_append_left _ hs)) (kp_ok c)) (fun s hs => h.ok s (List.mem_append_right _ hs)), fun s hs => ?_, by rw [inS_app, inS_app, kp_in, h1, h2], by rw [cstS_app, cstS_app, kp_cst, ← h.ct, cstS_app]; rfl, ?_⟩
  · rcases List.mem_append.mp hs with hs | hs
    · rcases List.mem_append.mp hs with hs | hs
      · exact h.wd s (List.mem_append_left _ hs)
      · exact kp_wd W c s hs
    · exact h.wd s (List.mem_append_right _ hs)
  · rw [outS_app, outS_app, kp_out, List.foldl_append, List.foldl_append, fold_clean hc]
    exact hf
theorem row_put1 {α : List Stp} {s : Nat} (hs : W.st = true) (hb : s ∈ BRK) (h : Row W [] (a ++ b) n α) : ∃ β, Row W [] (a ++ s :: b) (n + 1) β := by
  obtain ⟨α1, α2, rfl, h1, h2⟩ := row_cut α a b h.tx
  refine ⟨α1 ++ Stp.st s :: α2, okS_app (fun s hs => h.ok s (List.mem_append_left _ hs)) (okS_cons.mpr ⟨hb, fun s hs => h.ok s (List.mem_append_right _ hs)⟩), fun y hy => ?_, ?_, ?_, ?_⟩
  · rcases List.mem_append.mp hy with hy | hy
    · exact h.wd y (List.mem_append_left _ hy)
    · rcases List.mem_cons.mp hy with rfl | hy
      · exact hs
      · exact h.wd y (List.mem_append_right _ hy)
  · rw [inS_app, h1]
    show a ++ s :: inS α2 = _
    rw [h2]
  · rw [cstS_app, ← h.ct, cstS_app]
    show cstS α1 + (cstS α2 + 1) = _
    omega
  · have hf := h.fo
    rw [outS_app] at hf ⊢
    exact hf
theorem row_sub {β1 β2 γ : List Stp} {y : Stp} {st r : List Nat} (h : Row W st r n (β1 ++ y :: β2)) (hg : okS γ) (hw : ∀ s ∈ γ, s.wd W) (ho : ∀ o : Option (List Nat), (outS γ).foldl stp o = y.o.foldl stp o) : Row W st (inS β1 ++ (inS γ ++ inS β2)) (cstS β1 + (cstS γ + cstS β2)) (β1 ++ (γ ++ β2)) := by
  refine ⟨okS_app (fun s hs => h.ok s (List.mem_append_left _ hs)) (okS_app hg (fun s hs => h.ok s (List.mem_append_right _ (List.mem_cons_of_mem _ hs)))), fun s hs => ?_, by rw [inS_app, inS_app], by rw [cstS_app, cstS_app], ?_⟩
  · rcases List.mem_append.mp hs with hs | hs
    · exact h.wd s (List.mem_append_left _ hs)
    · rcases List.mem_append.mp hs with hs | hs
      · exact hw s hs
      · exact h.wd s (List.mem_append_right _ (List.mem_cons_of_mem _ hs))
  · have hf := h.fo
    rw [outS_app, List.foldl_append, outS_cons, List.foldl_append] at hf
    rw [outS_app, outS_app, List.foldl_append, List.foldl_append, ho]
    exact hf
theorem row_drop {α : List Stp} {s : Nat} (hp : W.pt = true) (h : Row W [] (a ++ s :: b) n α) : ∃ m β, m ≤ n + (if s ∈ BRK then 1 else 0) ∧ Row W [] (a ++ b) m β := by
  obtain ⟨β1, y, β2, rfl, h1, h2, h3⟩ := row_mid h.tx
  have hct := h.ct
  rw [cstS_app] at hct
  cases y with
  | kp c =>
    have e : c = s := (List.cons.inj h2).1
    subst e
    have hct' : cstS β1 + cstS β2 = n := hct
    by_cases hb : c ∈ BRK
    · have := row_sub (γ := [Stp.pt c]) h (okS_cons.mpr ⟨hb, fun _ h => nomatch h⟩) (fun s hs => by rw [List.mem_singleton.mp hs]; exact hp) (fun o => rfl)
      rw [h1, h3] at this
      refine ⟨_, _, ?_, this⟩
      rw [if_pos hb]
      show cstS β1 + (1 + cstS β2) ≤ _
      omega
    · have := row_sub (γ := []) h (fun _ h => nomatch h) (fun _ h => nomatch h) (fun o => (not_brk hb o).symm)
      rw [h1, h3] at this
      refine ⟨_, _, ?_, this⟩
      rw [if_neg hb]
      show cstS β1 + (0 + cstS β2) ≤ _
      omega
  | st c =>
    have hct' : cstS β1 + (cstS β2 + 1) = n := hct
    have := row_sub (γ := []) h (fun _ h => nomatch h) (fun _ h => nomatch h) (fun o => rfl)
    rw [h1, h3] at this
    refine ⟨_, _, ?_, this⟩
    show cstS β1 + (0 + cstS β2) ≤ _
    omega
  | tn c d =>
    have hct' : cstS β1 + (cstS β2 + 1) = n := hct
    have hd : d ∈ BRK := (h.ok (.tn c d) (by simp)).2.1
    have := row_sub (γ := [Stp.pt d]) h (okS_cons.mpr ⟨hd, fun _ h => nomatch h⟩) (fun s hs => by rw [List.mem_singleton.mp hs]; exact hp) (fun o => rfl)
    rw [h1, h3] at this
    refine ⟨_, _, ?_, this⟩
    show cstS β1 + (1 + cstS β2) ≤ _
    omega
  | pt c => cases h2
end
/-! ### laws of the least number -/
theorem lsN_ins {a b c : List Nat} (hc : clean c) : lsN (a ++ c ++ b) = lsN (a ++ b) := by
  refine Nat.le_antisymm ?_ (lsN_out (a := []) (b := []) c.length c (Nat.le_refl _) hc a b)
  obtain ⟨α, hα⟩ := lsN_row (a ++ b)
  obtain ⟨β, hβ⟩ := row_ins hα hc
  exact lsN_leR hβ
theorem lsN_more {a b : List Nat} {s : Nat} (hb : s ∈ BRK) : lsN (a ++ s :: b) ≤ lsN (a ++ b) + 1 := by
  obtain ⟨α, hα⟩ := lsN_row (a ++ b)
  obtain ⟨β, hβ⟩ := row_put1 rfl hb hα
  exact lsN_leR hβ
theorem lsN_less {a b : List Nat} {s : Nat} : lsN (a ++ b) ≤ lsN (a ++ s :: b) + if s ∈ BRK then 1 else 0 := by
  obtain ⟨α, hα⟩ := lsN_row (a ++ s :: b)
  obtain ⟨m, β, hm, hβ⟩ := row_drop rfl hα
  have := lsN_leR hβ
  omega
def brks (l : List Nat) : List Nat := l.filter fun c => decide (c ∈ BRK)
theorem brks_cons (x : Nat) (l : List Nat) : (brks (x :: l)).length = (if x ∈ BRK then 1 else 0) + (brks l).length := by
  unfold brks
  by_cases h : x ∈ BRK
  · rw [List.filter_cons_of_pos (by simpa using h), List.length_cons, if_pos h]; omega
  · rw [List.filter_cons_of_neg (by simpa using h), if_neg h]; omega
theorem lsN_front : ∀ (v u : List Nat), lsN u ≤ lsN (u ++ v) + (brks v).length
  | [], u => by rw [List.append_nil]; omega
  | s :: v, u => by
    have h1 := lsN_front v u
    have h2 := lsN_less (a := u) (b := v) (s := s)
    rw [brks_cons]
    omega
theorem lsN_all : ∀ l : List Nat, Mx l (brks l).length
  | [] => .nil
  | x :: l => by
    rw [brks_cons]
    by_cases h : x ∈ BRK
    · rw [if_pos h, Nat.add_comm]; exact .str h (lsN_all l)
    · rw [if_neg h, Nat.zero_add]; exact .let_ h (lsN_all l)
theorem lsN_brks (l : List Nat) : lsN l ≤ (brks l).length := lsN_le (lsN_all l)
theorem Mx.brks {l : List Nat} {n : Nat} (h : Mx l n) : Mx (brks l) n := by
  induction h with
  | nil => exact .nil
  | let_ hx _ ih =>
    unfold Ly.brks
    rw [List.filter_cons_of_neg (by simpa using hx)]
    exact ih
  | str hx _ ih =>
    unfold Ly.brks
    rw [List.filter_cons_of_pos (by simpa using hx)]
    exact .str hx ih
  | pair hx hd _ _ ih1 ih2 =>
    unfold Ly.brks
    rw [List.filter_cons_of_pos (by simpa using hx), List.filter_append, List.filter_cons_of_pos (by simpa using hd)]
    exact .pair hx hd ih1 ih2
theorem clean_one {x : Nat} (h : x ∉ BRK) : clean [x] := by
  show [x].foldl stp (some []) = some []
  rw [List.foldl_cons, not_brk h]
  rfl
theorem lsN_let : ∀ (l a : List Nat), lsN (a ++ l) ≤ lsN (a ++ brks l)
  | [], a => Nat.le_refl _
  | x :: l, a => by
    by_cases h : x ∈ BRK
    · have := lsN_let l (a ++ [x])
      unfold brks at this ⊢
      rw [List.filter_cons_of_pos (by simpa using h)]
      rw [List.append_assoc, List.append_assoc] at this
      exact this
    · have h1 := lsN_let l a
      have h2 := lsN_ins (a := a) (b := l) (clean_one h)
      unfold brks at h1 ⊢
      rw [List.filter_cons_of_neg (by simpa using h)]
      rw [List.append_assoc] at h2
      have h3 : lsN (a ++ x :: l) = lsN (a ++ l) := h2
      omega
theorem lsN_only (l : List Nat) : lsN (brks l) = lsN l := Nat.le_antisymm (lsN_le (lsN_mx l).brks) (lsN_let l [])
/-! clean texts -/
theorem row_zero : ∀ {α : List Stp}, cstS α = 0 → α = (inS α).map Stp.kp
  | [], _ => rfl
  | .kp c :: α, h => by
    show _ = (c :: inS α).map Stp.kp
    rw [List.map_cons, ← row_zero (α := α) h]
  | .st c :: α, h => by cases h
  | .tn c d :: α, h => by cases h
  | .pt c :: α, h => by cases h
theorem row_clean (W : Wd) {l : List Nat} (h : clean l) : Row W [] l 0 (l.map Stp.kp) := ⟨kp_ok l, kp_wd W l, kp_in l, kp_cst l, by rw [kp_out]; exact h⟩
theorem lsN_zero (l : List Nat) : lsN l = 0 ↔ clean l := by
  constructor
  · intro h
    obtain ⟨α, hα⟩ := lsN_row l
    rw [h] at hα
    have e := row_zero hα.ct
    have hf := hα.fo
    rw [e, kp_out, hα.tx] at hf
    exact hf
  · intro h
    exact Nat.le_zero.mp (lsN_leR (row_clean wAll h))
theorem rows_zero (W : Wd) : ∀ (r st : List Nat), rowsL W st r 0 = if r.foldl stp (some st) = some [] then [r.map Stp.kp] else []
  | [], st => by
    rw [rowsL.eq_def]
    show (if st = [] ∧ 0 = 0 then [[]] else []) = if some st = some [] then [[]] else []
    by_cases h : st = []
    · rw [if_pos ⟨h, rfl⟩, if_pos (by rw [h])]
    · rw [if_neg fun q => h q.1, if_neg fun q => h (Option.some.inj q)]
  | x :: r, st => by
    rw [rowsL.eq_def, List.foldl_cons]
    dsimp only
    rw [List.nil_append]
    by_cases hx : x ∈ BRK
    · rw [if_pos hx, List.nil_append]
      cases hs : stp (some st) x with
      | none => rw [fold_none, if_neg (fun q => nomatch q)]; rfl
      | some s =>
        dsimp only
        rw [rows_zero W r s]
        by_cases hf : r.foldl stp (some s) = some []
        · rw [if_pos hf, if_pos hf]; rfl
        · rw [if_neg hf, if_neg hf]; rfl
    · rw [if_neg hx, not_brk hx, rows_zero W r st]
      by_cases hf : r.foldl stp (some st) = some []
      · rw [if_pos hf, if_pos hf]; rfl
      · rw [if_neg hf, if_neg hf]; rfl
theorem mc_clean (W : Wd) {l : List Nat} (h : clean l) : mcN l W 0 l.length = some (0, 1) := by
  have h1 := Ld_whole (W := W) l
  have h2 : Ld (An W [] l) (some (0, 1)) := by
    refine ⟨?_, by decide, fun a ha => absurd ha (by show ¬ a < 0; omega)⟩
    show (rowsL W [] l 0).length = 1
    rw [rows_zero, if_pos (show l.foldl stp (some []) = some [] from h)]
    rfl
  exact h1.uniq h2
theorem dd_kp (l : List Nat) : ∀ p, ddS p (l.map Stp.kp) = [] := by
  induction l with
  | nil => intro p; rfl
  | cons x l ih => intro p; exact ih (p + 1)
end Ly

set_option maxHeartbeats 4000000
namespace K27
open PySem PySem.Spec PyProof.Rows L2 SX Ly
def topS (i : Nat) : Stmt := PySem.Challenge.pw_nestmend_k27_whole_put_together.main.body.getD i (.Pass ⟨0, 0, 0, 0⟩)
abbrev s_wall : Stmt := topS 0
abbrev s_kind_of : Stmt := topS 8
abbrev N_kind_of : List Str := ["bracket"]
theorem st_kind_of (v0 : V) : L2.start N_kind_of [v0] = [some v0] := rfl
theorem sc_kind_of : FnScope N_kind_of ["bracket"] (defScope s_kind_of) := ⟨rfl, rfl, rfl, by decide +kernel, rfl, by decide +kernel, by decide +kernel⟩
abbrev s_other_side : Stmt := topS 9
abbrev N_other_side : List Str := ["bracket"]
theorem st_other_side (v0 : V) : L2.start N_other_side [v0] = [some v0] := rfl
theorem sc_other_side : FnScope N_other_side ["bracket"] (defScope s_other_side) := ⟨rfl, rfl, rfl, by decide +kernel, rfl, by decide +kernel, by decide +kernel⟩
abbrev s_partners : Stmt := topS 10
abbrev N_partners : List Str := ["text", "found", "waiting", "place", "sign"]
theorem st_partners (v0 : V) : L2.start N_partners [v0] = [some v0, none, none, none, none] := rfl
theorem sc_partners : FnScope N_partners ["text"] (defScope s_partners) := ⟨rfl, rfl, rfl, by decide +kernel, rfl, by decide +kernel, by decide +kernel⟩
abbrev s_is_clean : Stmt := topS 11
abbrev N_is_clean : List Str := ["text", "sign", "partner"]
theorem st_is_clean (v0 : V) : L2.start N_is_clean [v0] = [some v0, none, none] := rfl
theorem sc_is_clean : FnScope N_is_clean ["text"] (defScope s_is_clean) := ⟨rfl, rfl, rfl, by decide +kernel, rfl, by decide +kernel, by decide +kernel⟩
abbrev s_is_letter : Stmt := topS 14
abbrev N_is_letter : List Str := ["sign"]
theorem st_is_letter (v0 : V) : L2.start N_is_letter [v0] = [some v0] := rfl
theorem sc_is_letter : FnScope N_is_letter ["sign"] (defScope s_is_letter) := ⟨rfl, rfl, rfl, by decide +kernel, rfl, by decide +kernel, by decide +kernel⟩
abbrev s_fewest_turns : Stmt := topS 15
abbrev N_fewest_turns : List Str := ["one", "other", "unlike"]
theorem st_fewest_turns (v0 v1 : V) : L2.start N_fewest_turns [v0, v1] = [some v0, some v1, none] := rfl
theorem sc_fewest_turns : FnScope N_fewest_turns ["one", "other"] (defScope s_fewest_turns) := ⟨rfl, rfl, rfl, by decide +kernel, rfl, by decide +kernel, by decide +kernel⟩
abbrev s_how_many : Stmt := topS 19
abbrev N_how_many : List Str := ["text"]
theorem st_how_many (v0 : V) : L2.start N_how_many [v0] = [some v0] := rfl
theorem sc_how_many : FnScope N_how_many ["text"] (defScope s_how_many) := ⟨rfl, rfl, rfl, by decide +kernel, rfl, by decide +kernel, by decide +kernel⟩
abbrev s_need_number : Stmt := topS 20
abbrev N_need_number : List Str := ["thing"]
theorem st_need_number (v0 : V) : L2.start N_need_number [v0] = [some v0] := rfl
theorem sc_need_number : FnScope N_need_number ["thing"] (defScope s_need_number) := ⟨rfl, rfl, rfl, by decide +kernel, rfl, by decide +kernel, by decide +kernel⟩
abbrev s_kth : Stmt := topS 22
abbrev N_kth : List Str := ["ways", "k", "walk", "left", "found", "choice", "one", "many"]
theorem st_kth (v0 v1 : V) : L2.start N_kth [v0, v1] = [some v0, some v1, none, none, none, none, none, none] := rfl
theorem sc_kth : FnScope N_kth ["ways", "k"] (defScope s_kth) := ⟨rfl, rfl, rfl, by decide +kernel, rfl, by decide +kernel, by decide +kernel⟩
abbrev s_kth_mending : Stmt := topS 23
abbrev N_kth_mending : List Str := ["text", "k", "ways"]
theorem st_kth_mending (v0 v1 : V) : L2.start N_kth_mending [v0, v1] = [some v0, some v1, none] := rfl
theorem sc_kth_mending : FnScope N_kth_mending ["text", "k"] (defScope s_kth_mending) := ⟨rfl, rfl, rfl, by decide +kernel, rfl, by decide +kernel, by decide +kernel⟩
abbrev s_is_bracket : Stmt := topS 25
abbrev N_is_bracket : List Str := ["sign"]
theorem st_is_bracket (v0 : V) : L2.start N_is_bracket [v0] = [some v0] := rfl
theorem sc_is_bracket : FnScope N_is_bracket ["sign"] (defScope s_is_bracket) := ⟨rfl, rfl, rfl, by decide +kernel, rfl, by decide +kernel, by decide +kernel⟩
abbrev s_turns : Stmt := topS 26
abbrev N_turns : List Str := ["one", "other", "wrong"]
theorem st_turns (v0 v1 : V) : L2.start N_turns [v0, v1] = [some v0, some v1, none] := rfl
theorem sc_turns : FnScope N_turns ["one", "other"] (defScope s_turns) := ⟨rfl, rfl, rfl, by decide +kernel, rfl, by decide +kernel, by decide +kernel⟩
abbrev s_steps_from : Stmt := topS 27
abbrev N_steps_from : List Str := ["text", "entries", "i", "j", "found", "m"]
theorem st_steps_from (v0 v1 v2 v3 : V) : L2.start N_steps_from [v0, v1, v2, v3] = [some v0, some v1, some v2, some v3, none, none] := rfl
theorem sc_steps_from : FnScope N_steps_from ["text", "entries", "i", "j"] (defScope s_steps_from) := ⟨rfl, rfl, rfl, by decide +kernel, rfl, by decide +kernel, by decide +kernel⟩
abbrev s_least_table : Stmt := topS 28
abbrev N_least_table : List Str := ["text", "size", "found", "i", "j"]
theorem st_least_table (v0 : V) : L2.start N_least_table [v0] = [some v0, none, none, none, none] := rfl
theorem sc_least_table : FnScope N_least_table ["text"] (defScope s_least_table) := ⟨rfl, rfl, rfl, by decide +kernel, rfl, by decide +kernel, by decide +kernel⟩
abbrev s_least_number : Stmt := topS 29
abbrev N_least_number : List Str := ["text"]
theorem st_least_number (v0 : V) : L2.start N_least_number [v0] = [some v0] := rfl
theorem sc_least_number : FnScope N_least_number ["text"] (defScope s_least_number) := ⟨rfl, rfl, rfl, by decide +kernel, rfl, by decide +kernel, by decide +kernel⟩
abbrev s_law_well : Stmt := topS 31
abbrev N_law_well : List Str := ["cell"]
theorem st_law_well (v0 : V) : L2.start N_law_well [v0] = [some v0] := rfl
theorem sc_law_well : FnScope N_law_well ["cell"] (defScope s_law_well) := ⟨rfl, rfl, rfl, by decide +kernel, rfl, by decide +kernel, by decide +kernel⟩
abbrev s_law_draw : Stmt := topS 32
abbrev N_law_draw : List Str := ["well", "many", "got", "stirred"]
theorem st_law_draw (v0 v1 : V) : L2.start N_law_draw [v0, v1] = [some v0, some v1, none, none] := rfl
theorem sc_law_draw : FnScope N_law_draw ["well", "many"] (defScope s_law_draw) := ⟨rfl, rfl, rfl, by decide +kernel, rfl, by decide +kernel, by decide +kernel⟩
abbrev s_law_clean : Stmt := topS 33
abbrev N_law_clean : List Str := ["well", "many", "found", "way", "at", "pair"]
theorem st_law_clean (v0 v1 : V) : L2.start N_law_clean [v0, v1] = [some v0, some v1, none, none, none, none] := rfl
theorem sc_law_clean : FnScope N_law_clean ["well", "many"] (defScope s_law_clean) := ⟨rfl, rfl, rfl, by decide +kernel, rfl, by decide +kernel, by decide +kernel⟩
abbrev s_law_bent : Stmt := topS 34
abbrev N_law_bent : List Str := ["well", "text", "sign", "at", "way"]
theorem st_law_bent (v0 v1 : V) : L2.start N_law_bent [v0, v1] = [some v0, some v1, none, none, none] := rfl
theorem sc_law_bent : FnScope N_law_bent ["well", "text"] (defScope s_law_bent) := ⟨rfl, rfl, rfl, by decide +kernel, rfl, by decide +kernel, by decide +kernel⟩
abbrev s_law_text : Stmt := topS 35
abbrev N_law_text : List Str := ["well", "most", "many", "way", "text", "k", "signs"]
theorem st_law_text (v0 v1 : V) : L2.start N_law_text [v0, v1] = [some v0, some v1, none, none, none, none, none] := rfl
theorem sc_law_text : FnScope N_law_text ["well", "most"] (defScope s_law_text) := ⟨rfl, rfl, rfl, by decide +kernel, rfl, by decide +kernel, by decide +kernel⟩
abbrev s_law_brackets : Stmt := topS 36
abbrev N_law_brackets : List Str := ["text", "sign"]
theorem st_law_brackets (v0 : V) : L2.start N_law_brackets [v0] = [some v0, none] := rfl
theorem sc_law_brackets : FnScope N_law_brackets ["text"] (defScope s_law_brackets) := ⟨rfl, rfl, rfl, by decide +kernel, rfl, by decide +kernel, by decide +kernel⟩
abbrev s_law_with_more : Stmt := topS 37
abbrev N_law_with_more : List Str := ["well", "text", "least", "at", "clean", "pair", "letters", "same", "sign"]
theorem st_law_with_more (v0 v1 v2 : V) : L2.start N_law_with_more [v0, v1, v2] = [some v0, some v1, some v2, none, none, none, none, none, none] := rfl
theorem sc_law_with_more : FnScope N_law_with_more ["well", "text", "least"] (defScope s_law_with_more) := ⟨rfl, rfl, rfl, by decide +kernel, rfl, by decide +kernel, by decide +kernel⟩
abbrev s_law : Stmt := topS 38
abbrev N_law : List Str := ["script", "cell", "well", "text", "other", "least", "both"]
theorem st_law (v0 : V) : L2.start N_law [v0] = [some v0, none, none, none, none, none, none] := rfl
theorem sc_law : FnScope N_law ["script"] (defScope s_law) := ⟨rfl, rfl, rfl, by decide +kernel, rfl, by decide +kernel, by decide +kernel⟩
abbrev s_Ways_init : Stmt := inClass (topS 16) 0
abbrev N_Ways_init : List Str := ["self", "signs", "words", "sign"]
theorem st_Ways_init (v0 v1 v2 : V) : L2.start N_Ways_init [v0, v1, v2] = [some v0, some v1, some v2, none] := rfl
theorem sc_Ways_init : FnScope N_Ways_init ["self", "signs", "words"] (defScope s_Ways_init) := ⟨rfl, rfl, rfl, by decide +kernel, rfl, by decide +kernel, by decide +kernel⟩
abbrev s_Ways_cost : Stmt := inClass (topS 16) 1
abbrev N_Ways_cost : List Str := ["self", "i", "j"]
theorem st_Ways_cost (v0 v1 v2 : V) : L2.start N_Ways_cost [v0, v1, v2] = [some v0, some v1, some v2] := rfl
theorem sc_Ways_cost : FnScope N_Ways_cost ["self", "i", "j"] (defScope s_Ways_cost) := ⟨rfl, rfl, rfl, by decide +kernel, rfl, by decide +kernel, by decide +kernel⟩
abbrev s_Ways_count : Stmt := inClass (topS 16) 2
abbrev N_Ways_count : List Str := ["self", "i", "j"]
theorem st_Ways_count (v0 v1 v2 : V) : L2.start N_Ways_count [v0, v1, v2] = [some v0, some v1, some v2] := rfl
theorem sc_Ways_count : FnScope N_Ways_count ["self", "i", "j"] (defScope s_Ways_count) := ⟨rfl, rfl, rfl, by decide +kernel, rfl, by decide +kernel, by decide +kernel⟩
abbrev s_Ways_grow : Stmt := inClass (topS 16) 3
abbrev N_Ways_grow : List Str := ["self", "sign", "end", "begin", "told"]
theorem st_Ways_grow (v0 v1 : V) : L2.start N_Ways_grow [v0, v1] = [some v0, some v1, none, none, none] := rfl
theorem sc_Ways_grow : FnScope N_Ways_grow ["self", "sign"] (defScope s_Ways_grow) := ⟨rfl, rfl, rfl, by decide +kernel, rfl, by decide +kernel, by decide +kernel⟩
abbrev s_Ways_reckoned : Stmt := inClass (topS 16) 5
abbrev N_Ways_reckoned : List Str := ["self", "i", "j", "least", "count", "number", "many"]
theorem st_Ways_reckoned (v0 v1 v2 : V) : L2.start N_Ways_reckoned [v0, v1, v2] = [some v0, some v1, some v2, none, none, none, none] := rfl
theorem sc_Ways_reckoned : FnScope N_Ways_reckoned ["self", "i", "j"] (defScope s_Ways_reckoned) := ⟨rfl, rfl, rfl, by decide +kernel, rfl, by decide +kernel, by decide +kernel⟩
abbrev s_Ways_numbers : Stmt := inClass (topS 16) 6
abbrev N_Ways_numbers : List Str := ["self", "i", "j", "found", "sign", "m", "number", "kinds"]
theorem st_Ways_numbers (v0 v1 v2 : V) : L2.start N_Ways_numbers [v0, v1, v2] = [some v0, some v1, some v2, none, none, none, none, none] := rfl
theorem sc_Ways_numbers : FnScope N_Ways_numbers ["self", "i", "j"] (defScope s_Ways_numbers) := ⟨rfl, rfl, rfl, by decide +kernel, rfl, by decide +kernel, by decide +kernel⟩
abbrev s_Ways_note : Stmt := inClass (topS 16) 7
abbrev N_Ways_note : List Str := ["self", "found", "number", "many", "begin", "m", "j", "behind", "inside", "rest"]
theorem st_Ways_note (v0 v1 v2 v3 v4 v5 v6 : V) : L2.start N_Ways_note [v0, v1, v2, v3, v4, v5, v6] = [some v0, some v1, some v2, some v3, some v4, some v5, some v6, none, none, none] := rfl
theorem sc_Ways_note : FnScope N_Ways_note ["self", "found", "number", "many", "begin", "m", "j"] (defScope s_Ways_note) := ⟨rfl, rfl, rfl, by decide +kernel, rfl, by decide +kernel, by decide +kernel⟩
abbrev s_Ways_note_puts : Stmt := inClass (topS 16) 8
abbrev N_Ways_note_puts : List Str := ["self", "found", "i", "j", "m", "number"]
theorem st_Ways_note_puts (v0 v1 v2 v3 : V) : L2.start N_Ways_note_puts [v0, v1, v2, v3] = [some v0, some v1, some v2, some v3, none, none] := rfl
theorem sc_Ways_note_puts : FnScope N_Ways_note_puts ["self", "found", "i", "j"] (defScope s_Ways_note_puts) := ⟨rfl, rfl, rfl, by decide +kernel, rfl, by decide +kernel, by decide +kernel⟩
abbrev s_Walk_init : Stmt := inClass (topS 21) 0
abbrev N_Walk_init : List Str := ["self", "ways", "i"]
theorem st_Walk_init (v0 v1 : V) : L2.start N_Walk_init [v0, v1] = [some v0, some v1, none] := rfl
theorem sc_Walk_init : FnScope N_Walk_init ["self", "ways"] (defScope s_Walk_init) := ⟨rfl, rfl, rfl, by decide +kernel, rfl, by decide +kernel, by decide +kernel⟩
abbrev s_Walk_closed_at : Stmt := inClass (topS 21) 1
abbrev N_Walk_closed_at : List Str := ["self", "kind", "m", "found"]
theorem st_Walk_closed_at (v0 v1 v2 : V) : L2.start N_Walk_closed_at [v0, v1, v2] = [some v0, some v1, some v2, none] := rfl
theorem sc_Walk_closed_at : FnScope N_Walk_closed_at ["self", "kind", "m"] (defScope s_Walk_closed_at) := ⟨rfl, rfl, rfl, by decide +kernel, rfl, by decide +kernel, by decide +kernel⟩
abbrev s_Walk_best_from : Stmt := inClass (topS 21) 2
abbrev N_Walk_best_from : List Str := ["self", "kind", "i", "least", "count", "m", "more", "behind", "further", "ways", "inside", "number"]
theorem st_Walk_best_from (v0 v1 v2 : V) : L2.start N_Walk_best_from [v0, v1, v2] = [some v0, some v1, some v2, none, none, none, none, none, none, none, none, none] := rfl
theorem sc_Walk_best_from : FnScope N_Walk_best_from ["self", "kind", "i"] (defScope s_Walk_best_from) := ⟨rfl, rfl, rfl, by decide +kernel, rfl, by decide +kernel, by decide +kernel⟩
abbrev s_Walk_closes : Stmt := inClass (topS 21) 3
abbrev N_Walk_closes : List Str := ["self", "sign"]
theorem st_Walk_closes (v0 v1 : V) : L2.start N_Walk_closes [v0, v1] = [some v0, some v1] := rfl
theorem sc_Walk_closes : FnScope N_Walk_closes ["self", "sign"] (defScope s_Walk_closes) := ⟨rfl, rfl, rfl, by decide +kernel, rfl, by decide +kernel, by decide +kernel⟩
abbrev s_Walk_behind : Stmt := inClass (topS 21) 4
abbrev N_Walk_behind : List Str := ["self", "sign", "place"]
theorem st_Walk_behind (v0 v1 v2 : V) : L2.start N_Walk_behind [v0, v1, v2] = [some v0, some v1, some v2] := rfl
theorem sc_Walk_behind : FnScope N_Walk_behind ["self", "sign", "place"] (defScope s_Walk_behind) := ⟨rfl, rfl, rfl, by decide +kernel, rfl, by decide +kernel, by decide +kernel⟩
abbrev s_Walk_choices : Stmt := inClass (topS 21) 5
abbrev N_Walk_choices : List Str := ["self", "found", "here", "others", "sign"]
theorem st_Walk_choices (v0 : V) : L2.start N_Walk_choices [v0] = [some v0, none, none, none, none] := rfl
theorem sc_Walk_choices : FnScope N_Walk_choices ["self"] (defScope s_Walk_choices) := ⟨rfl, rfl, rfl, by decide +kernel, rfl, by decide +kernel, by decide +kernel⟩
abbrev s_Walk_many_behind : Stmt := inClass (topS 21) 6
abbrev N_Walk_many_behind : List Str := ["self", "choice", "left", "deed", "sign", "place", "number", "many"]
theorem st_Walk_many_behind (v0 v1 v2 : V) : L2.start N_Walk_many_behind [v0, v1, v2] = [some v0, some v1, some v2, none, none, none, none, none] := rfl
theorem sc_Walk_many_behind : FnScope N_Walk_many_behind ["self", "choice", "left"] (defScope s_Walk_many_behind) := ⟨rfl, rfl, rfl, by decide +kernel, rfl, by decide +kernel, by decide +kernel⟩
abbrev s_Walk_go : Stmt := inClass (topS 21) 7
abbrev N_Walk_go : List Str := ["self", "choice", "deed", "sign", "place", "kind", "i"]
theorem st_Walk_go (v0 v1 : V) : L2.start N_Walk_go [v0, v1] = [some v0, some v1, none, none, none, none, none] := rfl
theorem sc_Walk_go : FnScope N_Walk_go ["self", "choice"] (defScope s_Walk_go) := ⟨rfl, rfl, rfl, by decide +kernel, rfl, by decide +kernel, by decide +kernel⟩
abbrev s_Walk_is_over : Stmt := inClass (topS 21) 8
abbrev N_Walk_is_over : List Str := ["self"]
theorem st_Walk_is_over (v0 : V) : L2.start N_Walk_is_over [v0] = [some v0] := rfl
theorem sc_Walk_is_over : FnScope N_Walk_is_over ["self"] (defScope s_Walk_is_over) := ⟨rfl, rfl, rfl, by decide +kernel, rfl, by decide +kernel, by decide +kernel⟩
structure Facts (K : PySem.W.Frag) (mg : Str → Option Value) : Prop where
  f_wall : DefAt K mg "_wall" s_wall ["k"]
  f_kind_of : DefAt K mg "kind_of" s_kind_of ["bracket"]
  f_other_side : DefAt K mg "other_side" s_other_side ["bracket"]
  f_partners : DefAt K mg "partners" s_partners ["text"]
  f_is_clean : DefAt K mg "is_clean" s_is_clean ["text"]
  f_is_letter : DefAt K mg "is_letter" s_is_letter ["sign"]
  f_fewest_turns : DefAt K mg "fewest_turns" s_fewest_turns ["one", "other"]
  f_how_many : DefAt K mg "how_many" s_how_many ["text"]
  f_need_number : DefAt K mg "need_number" s_need_number ["thing"]
  f_kth : DefAt K mg "kth" s_kth ["ways", "k"]
  f_kth_mending : DefAt K mg "kth_mending" s_kth_mending ["text", "k"]
  f_is_bracket : DefAt K mg "is_bracket" s_is_bracket ["sign"]
  f_turns : DefAt K mg "turns" s_turns ["one", "other"]
  f_steps_from : DefAt K mg "steps_from" s_steps_from ["text", "entries", "i", "j"]
  f_least_table : DefAt K mg "least_table" s_least_table ["text"]
  f_least_number : DefAt K mg "least_number" s_least_number ["text"]
  f_law_well : DefAt K mg "_law_well" s_law_well ["cell"]
  f_law_draw : DefAt K mg "_law_draw" s_law_draw ["well", "many"]
  f_law_clean : DefAt K mg "_law_clean" s_law_clean ["well", "many"]
  f_law_bent : DefAt K mg "_law_bent" s_law_bent ["well", "text"]
  f_law_text : DefAt K mg "_law_text" s_law_text ["well", "most"]
  f_law_brackets : DefAt K mg "_law_brackets" s_law_brackets ["text"]
  f_law_with_more : DefAt K mg "_law_with_more" s_law_with_more ["well", "text", "least"]
  c_OPENING : ∃ u, mg "OPENING" = some u ∧ RelV (Tx OPN) u
  c_CLOSING : ∃ u, mg "CLOSING" = some u ∧ RelV (Tx CLO) u
  c_BRACKETS_signs : ∃ u, mg "BRACKETS_signs" = some u ∧ RelV (Tx BRK) u
  -- const ALL_WORDS
  c_BRACKETS_counted : ∃ u, mg "BRACKETS_counted" = some u ∧ RelV (Tx BRK) u
  c_ALL_WORDS : ∃ u, mg "ALL_WORDS" = some u ∧ RelV (V.ref (He.ga K "ALL_WORDS")) u
  q_ALL_WORDS : ∀ H : Hp, SqT K H (He.ga K "ALL_WORDS") [Tx [112, 117, 116], Tx [115, 116, 114, 105, 107, 101], Tx [116, 117, 114, 110]]
  b_len : mg "len" = none
  b_int : mg "int" = none
  b_range : mg "range" = none
  b_enumerate : mg "enumerate" = none
  b_zip : mg "zip" = none
  b_isinstance : mg "isinstance" = none
  b_bool : mg "bool" = none
  b_min : mg "min" = none
  b_sorted : mg "sorted" = none
  b_ValueError : mg "ValueError" = none
  b_abs : mg "abs" = none
  g_MendError : mg "MendError" = some (.ref (He.ga K "MendError"))
  c_MendError : ∃ u, mg "MendError" = some u ∧ RelV (V.ref (He.ga K "MendError")) u
  g_NoNumber : mg "NoNumber" = some (.ref (He.ga K "NoNumber"))
  c_NoNumber : ∃ u, mg "NoNumber" = some u ∧ RelV (V.ref (He.ga K "NoNumber")) u
  z_NoNumber : ErrF K (He.ga K "NoNumber") (He.ga K "MendError")
  kv_NoNumber : PySem.W.kitOne K (.ref (He.ga K "NoNumber")) (.type "ValueError") = some true
  kk_NoNumber_NoNumber : PySem.W.kitOne K (.ref (He.ga K "NoNumber")) (.ref (He.ga K "NoNumber")) = some true
  cl_Ways : Cls K (He.ga K "Ways")
  n_Ways_signs : NoAttr K (He.ga K "Ways") "signs"
  n_Ways_words : NoAttr K (He.ga K "Ways") "words"
  n_Ways_costs : NoAttr K (He.ga K "Ways") "costs"
  n_Ways_counts : NoAttr K (He.ga K "Ways") "counts"
  cl_Walk : Cls K (He.ga K "Walk")
  n_Walk_ways : NoAttr K (He.ga K "Walk") "ways"
  n_Walk_end : NoAttr K (He.ga K "Walk") "end"
  n_Walk_at : NoAttr K (He.ga K "Walk") "at"
  n_Walk_open_kinds : NoAttr K (He.ga K "Walk") "open_kinds"
  n_Walk_levels : NoAttr K (He.ga K "Walk") "levels"
  k_Ways_init : MakAt K mg "Ways" "Ways.__init__" s_Ways_init ["self", "signs", "words"]
  m_Ways_cost : MetAt K "Ways" "cost" "Ways.cost" s_Ways_cost ["self", "i", "j"]
  m_Ways_count : MetAt K "Ways" "count" "Ways.count" s_Ways_count ["self", "i", "j"]
  m_Ways_grow : MetAt K "Ways" "grow" "Ways.grow" s_Ways_grow ["self", "sign"]
  m_Ways_reckoned : MetAt K "Ways" "reckoned" "Ways.reckoned" s_Ways_reckoned ["self", "i", "j"]
  m_Ways_numbers : MetAt K "Ways" "numbers" "Ways.numbers" s_Ways_numbers ["self", "i", "j"]
  m_Ways_note : MetAt K "Ways" "note" "Ways.note" s_Ways_note ["self", "found", "number", "many", "begin", "m", "j"]
  m_Ways_note_puts : MetAt K "Ways" "note_puts" "Ways.note_puts" s_Ways_note_puts ["self", "found", "i", "j"]
  k_Walk_init : MakAt K mg "Walk" "Walk.__init__" s_Walk_init ["self", "ways"]
  m_Walk_closed_at : MetAt K "Walk" "closed_at" "Walk.closed_at" s_Walk_closed_at ["self", "kind", "m"]
  m_Walk_best_from : MetAt K "Walk" "best_from" "Walk.best_from" s_Walk_best_from ["self", "kind", "i"]
  m_Walk_closes : MetAt K "Walk" "closes" "Walk.closes" s_Walk_closes ["self", "sign"]
  m_Walk_behind : MetAt K "Walk" "behind" "Walk.behind" s_Walk_behind ["self", "sign", "place"]
  m_Walk_choices : MetAt K "Walk" "choices" "Walk.choices" s_Walk_choices ["self"]
  m_Walk_many_behind : MetAt K "Walk" "many_behind" "Walk.many_behind" s_Walk_many_behind ["self", "choice", "left"]
  m_Walk_go : MetAt K "Walk" "go" "Walk.go" s_Walk_go ["self", "choice"]
  m_Walk_is_over : MetAt K "Walk" "is_over" "Walk.is_over" s_Walk_is_over ["self"]
end K27

set_option maxHeartbeats 4000000
namespace K27
open PySem PySem.Spec PyProof.Rows L2 SX Ly
local macro_rules | `(tactic| wtm_at "unf") => `(tactic| (try simp only [tMetX, tOwnX, tChain, tSeq, tNext, tBreak, tCont, tDrop, tRet, tRetN, tIfS, tAsg, tAug, tC, tOp, tUn, tNil, tCons, tOwn, tCB, tTest, tB, tAnd, tOr, tNot, tAndV, tOrV, tNotV, tIf, gName, gSub, tBM, tBM0, tM0, tM1, tSl, tPart_eq, tNoPart, tLst_eq, tTup_eq, tRevL_eq, tReplT, tRevS, tDGet_eq, sDPut_eq, tDNewT_eq, tMet, tMak, tFld_eq, sFld_eq, C8.tCut, wipe, tYes, gTup, gCons, gNil, List.set_cons_zero, List.set_cons_succ, if_true, if_false, Bool.false_eq_true, Bool.not_true, Bool.not_false, true_and, reduceIte, cx_K, tFor_eq, tLc_eq, iStr, iList, iTup, iRng1, iRng2, iRng3, iEnum, iZip, iEnumS, iZipS]))
local macro_rules | `(tactic| wtm_at "ne") => `(tactic| first | assumption | (apply Ne.symm; assumption) | (apply ne_new; (· assumption); (· wtm_at "lk")) | (apply Ne.symm; apply ne_new; (· assumption); (· wtm_at "lk")))
local macro_rules | `(tactic| wtm_at "lk") => `(tactic| first | assumption | exact upd_same | (apply Same.get; (· assumption); (· wtm_at "lk")) | (apply But.get; (· assumption); (· wtm_at "ne"); (· wtm_at "lk")))
local macro_rules | `(tactic| wtm_at "sq") => `(tactic| first | assumption | (apply sq_of; wtm_at "lk") | (apply Same.seq; (· assumption); (· wtm_at "sq")) | (apply But.sq; (· assumption); (· wtm_at "ne"); (· wtm_at "sq")))
local macro_rules | `(tactic| wtm_at "fr") => `(tactic| first | assumption | (apply Same.fr; (· assumption); (· wtm_at "sm")) | (apply But.fr; (· assumption); (· wtm_at "sm"); (· wtm_at "ne")))
local macro_rules | `(tactic| wtm_at "sm") => `(tactic| first | exact Same.refl _ | exact But.refl | assumption | (apply Same.tr; (· assumption); (· wtm_at "sm")) | (apply Same.b0; (· assumption); (· wtm_at "sm"); (· wtm_at "fr")) | (apply But.sa; (· assumption); (· wtm_at "sm")) | (apply But.tr; (· assumption); (· wtm_at "sm")) | (apply But.b0; (· assumption); (· wtm_at "sm"); (· wtm_at "fr")) | (apply Same.toBut; wtm_at "sm"))
local macro_rules | `(tactic| wtm_at "sc") => `(tactic| first | exact Int.zero_lt_one | (show (0 : Int) < _; omega) | (show (0 : Int) < _; decide) | exact ⟨by omega, by omega⟩ | exact .inl ⟨by omega, by omega⟩ | exact .inr ⟨by omega, by omega⟩)
local macro_rules | `(tactic| wtm_at "go1") => `(tactic| first | ((with_reducible apply g_var); (· exact rfl)) | with_reducible apply g_I0 | ((with_reducible apply g_I); (· wtm_at "sc")) | with_reducible apply g_U | with_reducible apply g_ipI | ((with_reducible apply g_addT); (· first | omega | (simp; done) | (simp; omega))) | with_reducible apply g_inT | with_reducible apply g_ninT | ((with_reducible apply g_lenT); (· omega)) | with_reducible apply g_findT1 | with_reducible apply g_str | with_reducible apply g_part | with_reducible apply g_intB | ((with_reducible apply g_ixL); (· wtm_at "sq"); (· exact rfl)) | ((with_reducible apply g_setL); (· wtm_at "lk"); (· exact rfl)) | ((with_reducible apply g_eq); (· rfl)) | ((with_reducible apply g_ne); (· rfl)))
local macro_rules | `(tactic| wtm_at "go") => `(tactic| repeat wtm_at "go1")
local macro_rules | `(tactic| wtm_at "lp") => `(tactic| skip)
local macro_rules | `(tactic| wtm_at "om") => `(tactic| first | omega | (simp; done) | (simp; omega) | (simp at *; omega))
local macro_rules | `(tactic| wtm_at "ty") => `(tactic| first | exact ty_str | exact ty_int | exact ty_bl | exact ty_non | (apply ty_lst; wtm_at "lk") | (apply ty_tup; wtm_at "lk"))
local macro_rules | `(tactic| wtm_at "kb") => `(tactic| first | exact kb_str_str | exact kb_str_int | exact kb_str_bool | exact kb_str_list | exact kb_str_tuple | exact kb_int_str | exact kb_int_int | exact kb_int_bool | exact kb_int_list | exact kb_int_tuple | exact kb_bool_str | exact kb_bool_int | exact kb_bool_bool | exact kb_bool_list | exact kb_bool_tuple | exact kb_list_str | exact kb_list_int | exact kb_list_bool | exact kb_list_list | exact kb_list_tuple | exact kb_tuple_str | exact kb_tuple_int | exact kb_tuple_bool | exact kb_tuple_list | exact kb_tuple_tuple | exact kb_NoneType_str | exact kb_NoneType_int | exact kb_NoneType_bool | exact kb_NoneType_list | exact kb_NoneType_tuple | exact kb_dict_str | exact kb_dict_int | exact kb_dict_bool | exact kb_dict_list | exact kb_dict_tuple)
local macro_rules | `(tactic| wtm_at "gx1") => `(tactic| first | ((with_reducible apply g_eqS); (· exact rfl)) | ((with_reducible apply g_neS); (· exact rfl)) | wtm_at "go1" | with_reducible apply g_min2 | with_reducible apply g_max2 | with_reducible apply g_T | with_reducible apply g_F | with_reducible apply g_NT | with_reducible apply g_NF | with_reducible apply g_nT | with_reducible apply g_nF | with_reducible apply g_RT | with_reducible apply g_RF | ((with_reducible apply g_isi); (· wtm_at "ty"); (· wtm_at "kb")) | ((with_reducible apply g_ixAU3); (· wtm_at "lk"); (· exact rfl)) | ((with_reducible apply g_ixAL3); (· wtm_at "lk"); (· exact rfl)) | ((with_reducible apply g_ixU3); (· wtm_at "lk"); (· exact rfl)) | ((with_reducible apply g_lenL3); (· wtm_at "lk")) | ((with_reducible apply g_lenU3); (· wtm_at "lk")) | ((with_reducible apply g_tyL3); (· wtm_at "lk")) | ((with_reducible apply g_lenT); (· wtm_at "pv")) | wtm_at "tr" | with_reducible apply g_ET | with_reducible apply g_EF | with_reducible apply g_EnT | with_reducible apply g_EnF)
local macro_rules | `(tactic| wtm_at "pv") => `(tactic| first | exact rfl | assumption | omega | (simp; done) | (simp; omega))
local macro_rules | `(tactic| wtm_at "tr") => `(tactic| first | ((with_reducible apply g_Td); (· wtm_at "pv")) | ((with_reducible apply g_Fd); (· wtm_at "pv")) | ((with_reducible apply g_NTd); (· wtm_at "pv")) | ((with_reducible apply g_NFd); (· wtm_at "pv")) | ((with_reducible apply g_nTd); (· wtm_at "pv")) | ((with_reducible apply g_nFd); (· wtm_at "pv")) | ((with_reducible apply g_RTd); (· wtm_at "pv")) | ((with_reducible apply g_RFd); (· wtm_at "pv")))
local macro_rules | `(tactic| wtm_at "gx") => `(tactic| repeat wtm_at "gx1")

section
variable {P : Program} {w : World} {K : PySem.W.Frag} {mg : Str → Option Value} {base : Heap}
/-! kind_of -/
def sp_kind_of : Sp := fun vs H Q _ => ∃ c : Nat, vs = [Tx [c]] ∧ c ∈ BRK ∧ Q (.int (knd c)) H
theorem ok_kind_of (T : Facts K mg) : C8.Cal P w K mg base 1 "kind_of" sp_kind_of [] := by
  refine calD T.f_kind_of sc_kind_of (fun vs H Q E h => ?_) (fun f cdv A outer s H vs Q E hr h => ?_)
  · obtain ⟨c, rfl, hc, q⟩ := h; rfl
  · obtain ⟨c, rfl, hc, q⟩ := h
    refine ⟨_, (pss_cons (ps_if (pt_cmpR op_inT (pv 0) (C8.pe_gc rfl T.c_OPENING) (by rfl))
       (pss_one (ps_ret (pe_m1 PySem.F.slot_str_index PySem.F.type_str_index mt_idxT (C8.pe_gc rfl T.c_OPENING) (pv 0))))
       pss_nil)
       (pss_one (ps_ret (pe_m1 PySem.F.slot_str_index PySem.F.type_str_index mt_idxT (C8.pe_gc rfl T.c_CLOSING) (pv 0))))), ?_⟩
    rw [st_kind_of]
    wtm_at "unf"
    wtm_at "go"
    refine g_test (fun h => ?_) (fun h => ?_)
    · wtm_at "go"
      exact g_idxT1 (find_opn c h) q
    · wtm_at "go"
      exact g_idxT1 (find_clo c ((brk_or.mp hc).resolve_left h)) q
/-! other_side -/
def sp_other_side : Sp := fun vs H Q _ => ∃ c : Nat, vs = [Tx [c]] ∧ c ∈ BRK ∧ Q (Tx [oth c]) H
theorem ok_other_side (T : Facts K mg) : C8.Cal P w K mg base 2 "other_side" sp_other_side [] := by
  refine calD T.f_other_side sc_other_side (fun vs H Q E h => ?_) (fun f cdv A outer s H vs Q E hr h => ?_)
  · obtain ⟨c, rfl, hc, q⟩ := h; rfl
  · obtain ⟨c, rfl, hc, q⟩ := h
    refine ⟨_, (pss_cons (ps_if (pt_cmpR op_inT (pv 0) (C8.pe_gc rfl T.c_OPENING) (by rfl))
       (pss_one (ps_ret (pe_ix ix_txt (C8.pe_gc rfl T.c_CLOSING) (pe_own (ok_kind_of T) hr (by omega) rfl (pa_cons (pv 0) pa_nil)) (fun _ _ => rfl))))
       pss_nil)
       (pss_one (ps_ret (pe_ix ix_txt (C8.pe_gc rfl T.c_OPENING) (pe_own (ok_kind_of T) hr (by omega) rfl (pa_cons (pv 0) pa_nil)) (fun _ _ => rfl))))), ?_⟩
    rw [st_other_side]
    wtm_at "unf"
    wtm_at "go"
    refine g_test (fun h => ?_) (fun h => ?_)
    · wtm_at "go"
      refine ⟨c, rfl, hc, ?_⟩
      exact g_ixT (by decide) (atI_of (at_clo c h)) q
    · wtm_at "go"
      refine ⟨c, rfl, hc, ?_⟩
      exact g_ixT (by decide) (atI_of (at_opn c ((brk_or.mp hc).resolve_left h))) q
/-- a text's signs from behind, each bracket the other one of its kind -/
def oth1 (c : Nat) : Nat := if c ∈ BRK then oth c else c
def about (l : List Nat) : List Nat := (l.map oth1).reverse
end
end K27

set_option maxHeartbeats 4000000
namespace K27
open PySem PySem.Spec PyProof.Rows L2 SX Ly
local macro_rules | `(tactic| wtm_at "unf") => `(tactic| (try simp only [tMetX, tOwnX, tChain, tSeq, tNext, tBreak, tCont, tDrop, tRet, tRetN, tIfS, tAsg, tAug, tC, tOp, tUn, tNil, tCons, tOwn, tCB, tTest, tB, tAnd, tOr, tNot, tAndV, tOrV, tNotV, tIf, gName, gSub, tBM, tBM0, tM0, tM1, tSl, tPart_eq, tNoPart, tLst_eq, tTup_eq, tRevL_eq, tReplT, tRevS, tDGet_eq, sDPut_eq, tDNewT_eq, tMet, tMak, tFld_eq, sFld_eq, C8.tCut, wipe, tYes, gTup, gCons, gNil, List.set_cons_zero, List.set_cons_succ, if_true, if_false, Bool.false_eq_true, Bool.not_true, Bool.not_false, true_and, reduceIte, cx_K, tFor_eq, tLc_eq, iStr, iList, iTup, iRng1, iRng2, iRng3, iEnum, iZip, iEnumS, iZipS]))
local macro_rules | `(tactic| wtm_at "ne") => `(tactic| first | assumption | (apply Ne.symm; assumption) | (apply ne_new; (· assumption); (· wtm_at "lk")) | (apply Ne.symm; apply ne_new; (· assumption); (· wtm_at "lk")))
local macro_rules | `(tactic| wtm_at "lk") => `(tactic| first | assumption | exact upd_same | (apply Same.get; (· assumption); (· wtm_at "lk")) | (apply But.get; (· assumption); (· wtm_at "ne"); (· wtm_at "lk")))
local macro_rules | `(tactic| wtm_at "sq") => `(tactic| first | assumption | (apply sq_of; wtm_at "lk") | (apply Same.seq; (· assumption); (· wtm_at "sq")) | (apply But.sq; (· assumption); (· wtm_at "ne"); (· wtm_at "sq")))
local macro_rules | `(tactic| wtm_at "fr") => `(tactic| first | assumption | (apply Same.fr; (· assumption); (· wtm_at "sm")) | (apply But.fr; (· assumption); (· wtm_at "sm"); (· wtm_at "ne")))
local macro_rules | `(tactic| wtm_at "sm") => `(tactic| first | exact Same.refl _ | exact But.refl | assumption | (apply Same.tr; (· assumption); (· wtm_at "sm")) | (apply Same.b0; (· assumption); (· wtm_at "sm"); (· wtm_at "fr")) | (apply But.sa; (· assumption); (· wtm_at "sm")) | (apply But.tr; (· assumption); (· wtm_at "sm")) | (apply But.b0; (· assumption); (· wtm_at "sm"); (· wtm_at "fr")) | (apply Same.toBut; wtm_at "sm"))
local macro_rules | `(tactic| wtm_at "sc") => `(tactic| first | exact Int.zero_lt_one | (show (0 : Int) < _; omega) | (show (0 : Int) < _; decide) | exact ⟨by omega, by omega⟩ | exact .inl ⟨by omega, by omega⟩ | exact .inr ⟨by omega, by omega⟩)
local macro_rules | `(tactic| wtm_at "go1") => `(tactic| first | ((with_reducible apply g_var); (· exact rfl)) | with_reducible apply g_I0 | ((with_reducible apply g_I); (· wtm_at "sc")) | with_reducible apply g_U | with_reducible apply g_ipI | ((with_reducible apply g_addT); (· first | omega | (simp; done) | (simp; omega))) | with_reducible apply g_inT | with_reducible apply g_ninT | ((with_reducible apply g_lenT); (· omega)) | with_reducible apply g_findT1 | with_reducible apply g_str | with_reducible apply g_part | with_reducible apply g_intB | ((with_reducible apply g_ixL); (· wtm_at "sq"); (· exact rfl)) | ((with_reducible apply g_setL); (· wtm_at "lk"); (· exact rfl)) | ((with_reducible apply g_eq); (· rfl)) | ((with_reducible apply g_ne); (· rfl)))
local macro_rules | `(tactic| wtm_at "go") => `(tactic| repeat wtm_at "go1")
local macro_rules | `(tactic| wtm_at "lp") => `(tactic| skip)
local macro_rules | `(tactic| wtm_at "om") => `(tactic| first | omega | (simp; done) | (simp; omega) | (simp at *; omega))
local macro_rules | `(tactic| wtm_at "ty") => `(tactic| first | exact ty_str | exact ty_int | exact ty_bl | exact ty_non | (apply ty_lst; wtm_at "lk") | (apply ty_tup; wtm_at "lk"))
local macro_rules | `(tactic| wtm_at "kb") => `(tactic| first | exact kb_str_str | exact kb_str_int | exact kb_str_bool | exact kb_str_list | exact kb_str_tuple | exact kb_int_str | exact kb_int_int | exact kb_int_bool | exact kb_int_list | exact kb_int_tuple | exact kb_bool_str | exact kb_bool_int | exact kb_bool_bool | exact kb_bool_list | exact kb_bool_tuple | exact kb_list_str | exact kb_list_int | exact kb_list_bool | exact kb_list_list | exact kb_list_tuple | exact kb_tuple_str | exact kb_tuple_int | exact kb_tuple_bool | exact kb_tuple_list | exact kb_tuple_tuple | exact kb_NoneType_str | exact kb_NoneType_int | exact kb_NoneType_bool | exact kb_NoneType_list | exact kb_NoneType_tuple | exact kb_dict_str | exact kb_dict_int | exact kb_dict_bool | exact kb_dict_list | exact kb_dict_tuple)
local macro_rules | `(tactic| wtm_at "gx1") => `(tactic| first | ((with_reducible apply g_eqS); (· exact rfl)) | ((with_reducible apply g_neS); (· exact rfl)) | wtm_at "go1" | with_reducible apply g_min2 | with_reducible apply g_max2 | with_reducible apply g_T | with_reducible apply g_F | with_reducible apply g_NT | with_reducible apply g_NF | with_reducible apply g_nT | with_reducible apply g_nF | with_reducible apply g_RT | with_reducible apply g_RF | ((with_reducible apply g_isi); (· wtm_at "ty"); (· wtm_at "kb")) | ((with_reducible apply g_ixAU3); (· wtm_at "lk"); (· exact rfl)) | ((with_reducible apply g_ixAL3); (· wtm_at "lk"); (· exact rfl)) | ((with_reducible apply g_ixU3); (· wtm_at "lk"); (· exact rfl)) | ((with_reducible apply g_lenL3); (· wtm_at "lk")) | ((with_reducible apply g_lenU3); (· wtm_at "lk")) | ((with_reducible apply g_tyL3); (· wtm_at "lk")) | ((with_reducible apply g_lenT); (· wtm_at "pv")) | wtm_at "tr" | with_reducible apply g_ET | with_reducible apply g_EF | with_reducible apply g_EnT | with_reducible apply g_EnF)
local macro_rules | `(tactic| wtm_at "pv") => `(tactic| first | exact rfl | assumption | omega | (simp; done) | (simp; omega))
local macro_rules | `(tactic| wtm_at "tr") => `(tactic| first | ((with_reducible apply g_Td); (· wtm_at "pv")) | ((with_reducible apply g_Fd); (· wtm_at "pv")) | ((with_reducible apply g_NTd); (· wtm_at "pv")) | ((with_reducible apply g_NFd); (· wtm_at "pv")) | ((with_reducible apply g_nTd); (· wtm_at "pv")) | ((with_reducible apply g_nFd); (· wtm_at "pv")) | ((with_reducible apply g_RTd); (· wtm_at "pv")) | ((with_reducible apply g_RFd); (· wtm_at "pv")))
local macro_rules | `(tactic| wtm_at "gx") => `(tactic| repeat wtm_at "gx1")

section
variable {P : Program} {w : World} {K : PySem.W.Frag} {mg : Str → Option Value} {base : Heap}
def optV : Option Nat → V
  | none => .non
  | some n => .int n
def mtV (f : List (Option Nat)) : List V := f.map optV
def wsV (ws : List Nat) : List V := ws.reverse.map fun (n : Nat) => V.int (n : Int)
theorem wsV_cons (j : Nat) (w : List Nat) : wsV (j :: w) = wsV w ++ [V.int j] := by
  unfold wsV
  rw [List.reverse_cons, List.map_append]
  rfl
theorem wsV_len (w : List Nat) : (wsV w).length = w.length := by
  unfold wsV
  rw [List.length_map, List.length_reverse]
theorem mtV_len (f : List (Option Nat)) : (mtV f).length = f.length := by
  unfold mtV
  rw [List.length_map]
theorem flat_wsV (w : List Nat) : ∀ v ∈ wsV w, Flat v := by
  intro v hv
  obtain ⟨n, _, rfl⟩ := List.mem_map.mp hv
  exact flat_int _
theorem ws_lt {l pre post : List Nat} {c : Nat} (e : l = pre ++ c :: post) : PInv l pre.length (pst l pre).1 (pst l pre).2 := by
  have h := pinv_all l pre.length (by rw [e]; simp)
  have e2 : l.take pre.length = pre := by rw [e]; simp
  rw [e2] at h
  exact h
theorem pstep_len (l : List Nat) (s : List (Option Nat) × List Nat) (i c : Nat) : (pstep l s i c).2.length ≤ s.2.length + 1 := by
  obtain ⟨f, ws⟩ := s
  unfold pstep
  split
  · simp
  · split
    · cases ws with
      | nil => simp
      | cons j w =>
        show (if l[j]? = some (oth c) then _ else _ : List (Option Nat) × List Nat).2.length ≤ _
        split
        · simp; omega
        · simp
    · simp
theorem mtV_set (f : List (Option Nat)) (i j : Nat) : mtV (f.set i (some j)) = (mtV f).set i (V.int j) := by
  unfold mtV
  rw [List.map_set]
  rfl
def topM (l ws : List Nat) (c : Nat) : Bool := match ws with
  | [] => false
  | j :: _ => decide (l[j]? = some (oth c))
theorem atI_last1 {α : Type} (xs : List α) (x : α) : atI (xs ++ [x]) (-1) = some x := L2.atI_last xs x
/-! partners -/
def sp_partners : Sp := fun vs H Q _ => ∃ l : List Nat, vs = [Tx l] ∧ l.length ≤ 1000 ∧ ∀ (p : Addr) (H' : Hp), H p = none → Same H H' → H' p = some (.lst (mtV (mates l))) → Q (.ref p) H'
theorem ok_partners (T : Facts K mg) : C8.Cal P w K mg base 3 "partners" sp_partners [] := by
  refine calD T.f_partners sc_partners (fun vs H Q E h => ?_) (fun f cdv A outer s H vs Q E hr h => ?_)
  · obtain ⟨l, rfl, hl, q⟩ := h; rfl
  · obtain ⟨l, rfl, hl, q⟩ := h
    refine ⟨_, (pss_cons (ps_set (i := 1) sc_partners.nd rfl (Or.inl rfl) (pe_op op_rep (pe_lst (pa_cons pe_non pa_nil)) (pe_callB call_lenT rfl T.b_len PySem.boot_len (pa_cons (pv 0) pa_nil))))
       (pss_cons (ps_set (i := 2) sc_partners.nd rfl (Or.inl rfl) (pe_lst pa_nil))
       (pss_cons (ps_for PassesOwn.never rfl (pi_enumS rfl T.b_enumerate (pa_cons (pv 0) pa_nil)) (pg_tup rfl (pgs_cons (pg_name (i := 3) sc_partners.nd rfl (Or.inl rfl)) (pgs_cons (pg_name (i := 4) sc_partners.nd rfl (Or.inl rfl)) pgs_nil)))
       (pss_one (ps_if (pt_cmpR op_inT (pv 4) (C8.pe_gc rfl T.c_OPENING) (by rfl))
       (pss_one (ps_expr (pe_bm PySem.F.plainAttrs_list PySem.F.slot_list_append PySem.F.type_list_append mt_append (pv 2) (pa_cons (pv 3) pa_nil))))
       (pss_one (ps_if (pt_cmpR op_inT (pv 4) (C8.pe_gc rfl T.c_CLOSING) (by rfl))
       (pss_one (ps_ifC (PW.pt (pw_and (pt_cmpR (op_neD hr.units) (pv 2) (pe_lst pa_nil) (nomark _)) (pw_and1 (pt_cmpR op_eq (pe_ix ix_txt (pv 0) (pe_ix ix_list (pv 2) (pe_un un_neg pe_int) (fun _ _ => rfl)) (fun _ _ => rfl)) (pe_own (ok_other_side T) hr (by omega) rfl (pa_cons (pv 4) pa_nil)) (nomark _)))))
       (pss_cons (ps_asg (pe_bm0 PySem.F.plainAttrs_list PySem.F.slot_list_pop PySem.F.type_list_pop mt_pop (pv 2)) (pg_sub (pv 1) (pv 3) set_list))
       (pss_one (ps_asg (pv 3) (pg_sub (pv 1) (pe_ix ix_list (pv 1) (pv 3) (fun _ _ => rfl)) set_list))))
       (pss_one (ps_set (i := 2) sc_partners.nd rfl (Or.inl rfl) (pe_lst pa_nil)))))
       pss_nil)))))
       (pss_one (ps_ret (pv 1)))))), ?_⟩
    rw [st_partners]
    wtm_at "unf"
    wtm_at "go"
    refine g_lst (by show 1 ≤ 100000; decide) fun c0 H0 n0 s0 e0 => ?_
    wtm_at "go"
    refine g_rep e0 (by simp; omega) (by omega) fun fa H1 nfa s1 efa => ?_
    wtm_at "go"
    refine g_lst (by show 0 ≤ 100000; decide) fun wa H2 nwa s2 ewa => ?_
    have efa' : H1 fa = some (.lst (mtV (List.replicate l.length none))) := by
      rw [efa]
      unfold mtV
      congr 2
      have : ∀ n, (List.replicate n [V.non]).flatten = (List.replicate n none).map optV := by
        intro n
        induction n with
        | zero => rfl
        | succ n ih => rw [List.replicate_succ, List.flatten_cons, ih, List.replicate_succ]; rfl
      exact this _
    have hfw : fa ≠ wa := by wtm_at "ne"
    have nf0 : H fa = none := by wtm_at "fr"
    have nw0 : H wa = none := by wtm_at "fr"
    wtm_at "go"
    refine ⟨_, rfl, for_enumS (fun pre σ H' => ∃ (wa : Addr) (y z : Option V), σ = [some (Tx l), some (V.ref fa), some (V.ref wa), y, z] ∧ H wa = none ∧ fa ≠ wa ∧ H' fa = some (.lst (mtV (pst l pre).1)) ∧ H' wa = some (.lst (wsV (pst l pre).2)) ∧ Same H H' ∧ (pst l pre).2.length ≤ pre.length)
      ⟨wa, _, _, rfl, nw0, hfw, by wtm_at "lk", ewa, by wtm_at "sm", Nat.le_refl _⟩ (fun pre c post σ H' t H'' e hv nt st et => ?_) (fun σ H' hv => ?_)⟩
    · obtain ⟨wa, y, z, rfl, nw, hne, ef, ew, sH, hwl⟩ := hv
      have I := ws_lt e
      have hsl := pstep_len l (pst l pre) pre.length c
      have hpl : pre.length < l.length := by rw [e]; simp
      have hfl : (pst l pre).1.length = l.length := I.len
      have nt0 : H t = none := by wtm_at "fr"
      have ef2 : H'' fa = some (.lst (mtV (pst l pre).1)) := by wtm_at "lk"
      have ew2 : H'' wa = some (.lst (wsV (pst l pre).2)) := by wtm_at "lk"
      have sH2 : Same H H'' := by wtm_at "sm"
      wtm_at "unf"
      refine ⟨t, _, rfl, st_of et, rfl, _, _, rfl, _, _, rfl, rfl, ?_⟩
      wtm_at "go"
      rw [pst_snoc]
      refine g_test (fun h => ?_) (fun h => ?_)
      · wtm_at "go"
        refine ⟨g_tyL (sq_of ew2), ?_⟩
        wtm_at "go"
        refine g_append1 ew2 (by rw [wsV_len]; omega) fun H3 b3 e3 => ?_
        have es : pstep l (pst l pre) pre.length c = ((pst l pre).1, pre.length :: (pst l pre).2) := by unfold pstep; simp only [h, if_true]
        rw [es]
        exact ⟨wa, _, _, rfl, nw, hne, by wtm_at "lk", by rw [wsV_cons]; exact e3, by wtm_at "sm", by simp; omega⟩
      · wtm_at "go"
        refine g_test (fun h2 => ?_) (fun h2 => ?_)
        · have hb : c ∈ BRK := brk_or.mpr (.inr h2)
          have hws : ∃ ws, (pst l pre).2 = ws := ⟨_, rfl⟩
          obtain ⟨ws, ews⟩ := hws
          obtain ⟨f0, ef0⟩ : ∃ f0, (pst l pre).1 = f0 := ⟨_, rfl⟩
          have epst : pst l pre = (f0, ws) := by rw [← ews, ← ef0]
          rw [epst] at ef2 ew2 hsl hfl ⊢
          rw [ews] at hwl
          rw [epst] at I
          have hfl' : f0.length = l.length := hfl
          refine g_ifH (b := topM l ws c) (G := fun H3 => Same H'' H3) (fun Q q => ?_) (fun H3 s3 hb3 => ?_) (fun H3 s3 hb3 => ?_)
          · wtm_at "unf"
            wtm_at "go"
            refine g_lst (by show 0 ≤ 100000; decide) fun em H3 nem s3 eem => ?_
            refine g_neNil (sq_of (Same.get s3 ew2)) (flat_wsV _) (sq_of eem) ?_
            refine g_testB (fun h4 => ?_) (fun h4 => ?_)
            · cases ws with
              | nil => simp [wsV] at h4
              | cons j w =>
                obtain ⟨hjn, cj, hcj, hcjo⟩ := I.opn j (List.mem_cons_self ..)
                rw [wsV_cons] at ew2
                wtm_at "go"
                refine g_ixL (sq_of (Same.get s3 ew2)) (atI_last1 _ _) ?_
                refine g_ixT (by omega) (atI_of hcj) ?_
                wtm_at "go"
                refine ⟨c, rfl, hb, ?_⟩
                wtm_at "go"
                refine ⟨_, rfl, ?_⟩
                have hh : decide (Tx [cj] = Tx [oth c]) = topM l (j :: w) c := by
                  show _ = decide (l[j]? = some (oth c))
                  rw [decide_eq_decide, Tx_inj, hcj]
                  simp
                rw [hh]
                exact q H3 s3
            · cases ws with
              | cons j w => simp [wsV] at h4
              | nil =>
                exact q H3 s3
          · obtain ⟨j, w, rfl, hj⟩ : ∃ j w, ws = j :: w ∧ l[j]? = some (oth c) := by
              cases ws with
              | nil => cases hb3
              | cons j w => exact ⟨j, w, rfl, of_decide_eq_true hb3⟩
            have es : pstep l (f0, j :: w) pre.length c = ((f0.set pre.length (some j)).set j (some pre.length), w) := by unfold pstep; simp only [h, h2, hj, if_true, if_false]
            rw [es]
            have hjn : j < pre.length := (I.opn j (List.mem_cons_self ..)).1
            rw [wsV_cons] at ew2
            wtm_at "unf"
            wtm_at "go"
            refine g_pop (Same.get s3 ew2) fun H4 b4 e4 => ?_
            have ef4 : H4 fa = some (.lst (mtV f0)) := by wtm_at "lk"
            wtm_at "go"
            refine g_setL (n := pre.length) ef4 (by rw [mtV_len]; exact ixN_nat (by omega)) fun H5 b5 e5 => ?_
            have e5' : H5 fa = some (.lst (mtV (f0.set pre.length (some j)))) := by
              rw [e5, mtV_set]
            have hget : (mtV (f0.set pre.length (some j)))[pre.length]? = some (V.int j) := by
              unfold mtV
              rw [List.getElem?_map, List.getElem?_set_self (by omega)]
              rfl
            wtm_at "go"
            refine g_ixL (sq_of e5') (atI_of hget) ?_
            refine g_setL (n := j) e5' (by rw [mtV_len, List.length_set]; exact ixN_nat (by omega)) fun H6 b6 e6 => ?_
            have e6' : H6 fa = some (.lst (mtV ((f0.set pre.length (some j)).set j (some pre.length)))) := by
              rw [e6, mtV_set (f0.set pre.length (some j))]
            simp only [List.length_cons] at hwl
            exact ⟨wa, _, _, rfl, nw, hne, e6', by wtm_at "lk", by wtm_at "sm", by simp; omega⟩
          · have es : pstep l (f0, ws) pre.length c = (f0, []) := by
              unfold pstep
              simp only [h, h2, if_true, if_false]
              cases ws with
              | nil => rfl
              | cons j w =>
                have : ¬ l[j]? = some (oth c) := of_decide_eq_false hb3
                simp only [this, if_false]
            rw [es]
            wtm_at "unf"
            refine g_lst (by show 0 ≤ 100000; decide) fun em H4 nem s4 eem => ?_
            have hfe : fa ≠ em := by wtm_at "ne"
            exact ⟨em, _, _, rfl, by wtm_at "fr", hfe, by wtm_at "lk", eem, by wtm_at "sm", by simp⟩
        · have es : pstep l (pst l pre) pre.length c = pst l pre := by unfold pstep; simp only [h, h2, if_false]
          rw [es]
          exact ⟨wa, _, _, rfl, nw, hne, ef2, ew2, sH2, by simp; omega⟩
    · obtain ⟨wa, y, z, rfl, nw, hne, ef, ew, sH, hwl⟩ := hv
      wtm_at "unf"
      wtm_at "go"
      exact q fa H' nf0 sH ef
theorem mid_mate {l : List Nat} {i c : Nat} (h : l[i]? = some c) : ∃ m, (mates l)[i]? = some m := ⟨_, List.getElem?_eq_getElem (by rw [mates_len]; exact (List.getElem?_eq_some_iff.mp h).1)⟩
/-! is_clean -/
def sp_is_clean : Sp := fun vs H Q _ => ∃ l : List Nat, vs = [Tx l] ∧ l.length ≤ 1000 ∧ ∀ H', Same H H' → Q (.bl (decide (clean l))) H'
theorem ok_is_clean (T : Facts K mg) : C8.Cal P w K mg base 4 "is_clean" sp_is_clean [] := by
  refine calD T.f_is_clean sc_is_clean (fun vs H Q E h => ?_) (fun f cdv A outer s H vs Q E hr h => ?_)
  · obtain ⟨l, rfl, hl, q⟩ := h; rfl
  · obtain ⟨l, rfl, hl, q⟩ := h
    refine ⟨_, (pss_one (ps_ret (pe_cmpR (op_eqD hr.units) (pe_lc (own := [("sign", 1), ("partner", 2)]) (g := gTup K 2 (gCons (gName 1) (gCons (gName 2) gNil))) (by rfl) sc_is_clean.nd (pi_zipS rfl T.b_zip (pa_cons (pv 0) (pa_cons (pe_own (ok_partners T) hr (by omega) rfl (pa_cons (pv 0) pa_nil)) pa_nil))) (blkOk_by (own := [("sign", 1), ("partner", 2)]) (N := N_is_clean) (sc := defScope s_is_clean) (by decide +kernel)) (fun _ _ _ _ _ => (pg_tup rfl (pgs_cons (pg_name (i := 1) sc_is_clean.nd rfl (Or.inl rfl)) (pgs_cons (pg_name (i := 2) sc_is_clean.nd rfl (Or.inl rfl)) pgs_nil)))) (fun _ _ _ _ _ => (pts_one (PW.pt (pw_and (pt_cmpR op_isN (pv 2) pe_non (nomark _)) (pw_and1 (pt_cmpR op_inT (pv 1) (C8.pe_gc rfl T.c_BRACKETS_signs) (by rfl))))))) (fun _ _ _ _ _ => pe_int)) (pe_lst pa_nil) (nomark _)))), ?_⟩
    rw [st_is_clean]
    wtm_at "unf"
    wtm_at "go"
    refine ⟨l, rfl, hl, fun ma H1 nma s1 ema => ?_⟩
    refine ⟨l, ma, mtV (mates l), rfl, sq_of ema, ?_⟩
    refine lc_w (walk_zipS (by rw [mtV_len, mates_len])) fun d H2 nd s2 ed => ?_
    have hdm : ma ≠ d := by wtm_at "ne"
    refine ⟨fun i H' => ∃ acc, H' d = some (.lst acc) ∧ acc.length ≤ i ∧ (∀ v ∈ acc, v = V.int 1) ∧ (acc = [] ↔ ∀ (j c : Nat), j < i → l[j]? = some c → c ∈ BRK → (mates l)[j]? ≠ some none) ∧ Same H1 H', ⟨[], ed, Nat.le_refl _, by simp, ?_, by wtm_at "sm"⟩, fun i H' _ hv => ?_, fun i x H' H'' hi hv y => ?_, fun H' hv => ?_⟩
    · simp
    · obtain ⟨acc, e1, e2, e3, e4, e5⟩ := hv
      exact sq_of (by wtm_at "lk")
    · obtain ⟨acc, e1, e2, e3, e4, e5⟩ := hv
      obtain ⟨t, c, v, rfl, nt, rfl, hc, hm⟩ := y
      have st : Same H' (upd H' t (.tup [Tx [c], v])) := Same.new nt
      have et : (upd H' t (.tup [Tx [c], v])) t = some (.tup [Tx [c], v]) := upd_same
      generalize upd H' t (.tup [Tx [c], v]) = H3 at st et
      obtain ⟨m, hmm⟩ := mid_mate hc
      have hv : v = optV m := by
        unfold mtV at hm
        rw [List.getElem?_map, hmm] at hm
        exact (Option.some.inj hm).symm
      subst hv
      have snoc : (∀ (j c : Nat), j < i + 1 → l[j]? = some c → c ∈ BRK → (mates l)[j]? ≠ some none) ↔ (∀ (j c : Nat), j < i → l[j]? = some c → c ∈ BRK → (mates l)[j]? ≠ some none) ∧ (c ∈ BRK → m ≠ none) := by
        constructor
        · intro h
          refine ⟨fun j c' hj => h j c' (by omega), fun hb hn => h i c (by omega) hc hb (by rw [hmm, hn])⟩
        · rintro ⟨ha, hb⟩ j c' hj hjc hcb hn
          rcases Nat.lt_or_ge j i with h' | h'
          · exact ha j c' h' hjc hcb hn
          · have : j = i := by omega
            subst this
            rw [hc] at hjc
            cases hjc
            rw [hmm] at hn
            exact hb hcb (Option.some.inj hn)
      wtm_at "unf"
      refine ⟨t, _, rfl, st_of et, rfl, _, _, rfl, _, _, rfl, rfl, ?_, ?_⟩
      · rfl
      wtm_at "go"
      cases m with
      | some k =>
        refine ⟨_, rfl, ?_⟩
        have hk : decide (optV (some k) = V.non) = false := by simp [optV]
        rw [hk]
        refine ⟨acc, by wtm_at "lk", by omega, e3, ?_, by wtm_at "sm"⟩
        rw [snoc, e4]
        simp
      | none =>
        refine ⟨_, rfl, ?_⟩
        have hk : decide (optV none = V.non) = true := by simp [optV]
        rw [hk]
        wtm_at "unf"
        wtm_at "go"
        refine g_test (fun h => ?_) (fun h => ?_)
        · wtm_at "unf"
          refine lc_put (acc := acc) (by wtm_at "lk") (by omega) fun H5 b5 e5 => ?_
          refine ⟨acc ++ [V.int 1], e5, by simp; omega, ?_, ?_, by wtm_at "sm"⟩
          · intro v hv
            rcases List.mem_append.mp hv with hv | hv
            · exact e3 v hv
            · simpa using hv
          · rw [snoc]
            simp [h]
        · wtm_at "unf"
          refine ⟨acc, by wtm_at "lk", by omega, e3, ?_, by wtm_at "sm"⟩
          rw [snoc, e4]
          simp [h]
    · obtain ⟨acc, e1, e2, e3, e4, e5⟩ := hv
      wtm_at "unf"
      refine g_lst (by show 0 ≤ 100000; decide) fun em H3 nem s3 eem => ?_
      refine g_eqNil (xs := acc) (sq_of (by wtm_at "lk")) (fun v hv => by rw [e3 v hv]; exact flat_int 1) (sq_of eem) ?_
      have hb : acc.isEmpty = decide (clean l) := by
        have : (acc.isEmpty = true) ↔ clean l := by
          rw [List.isEmpty_iff, e4, clean_mates]
          constructor
          · intro h j c hj hb
            exact h j c (List.getElem?_eq_some_iff.mp hj).1 hj hb
          · intro h j c _ hj hb
            exact h j c hj hb
        rw [Bool.eq_iff_iff, this, decide_eq_true_iff]
      rw [hb]
      exact q H3 (by wtm_at "sm")
end
end K27

set_option maxHeartbeats 4000000
namespace K27
open PySem PySem.Spec PyProof.Rows L2 SX Ly
local macro_rules | `(tactic| wtm_at "unf") => `(tactic| (try simp only [tMetX, tOwnX, tChain, tSeq, tNext, tBreak, tCont, tDrop, tRet, tRetN, tIfS, tAsg, tAug, tC, tOp, tUn, tNil, tCons, tOwn, tCB, tTest, tB, tAnd, tOr, tNot, tAndV, tOrV, tNotV, tIf, gName, gSub, tBM, tBM0, tM0, tM1, tSl, tPart_eq, tNoPart, tLst_eq, tTup_eq, tRevL_eq, tReplT, tRevS, tDGet_eq, sDPut_eq, tDNewT_eq, tMet, tMak, tFld_eq, sFld_eq, C8.tCut, wipe, tYes, gTup, gCons, gNil, List.set_cons_zero, List.set_cons_succ, if_true, if_false, Bool.false_eq_true, Bool.not_true, Bool.not_false, true_and, reduceIte, cx_K, tFor_eq, tLc_eq, iStr, iList, iTup, iRng1, iRng2, iRng3, iEnum, iZip, iEnumS, iZipS]))
local macro_rules | `(tactic| wtm_at "ne") => `(tactic| first | assumption | (apply Ne.symm; assumption) | (apply ne_new; (· assumption); (· wtm_at "lk")) | (apply Ne.symm; apply ne_new; (· assumption); (· wtm_at "lk")))
local macro_rules | `(tactic| wtm_at "lk") => `(tactic| first | assumption | exact upd_same | (apply Same.get; (· assumption); (· wtm_at "lk")) | (apply But.get; (· assumption); (· wtm_at "ne"); (· wtm_at "lk")))
local macro_rules | `(tactic| wtm_at "sq") => `(tactic| first | assumption | (apply sq_of; wtm_at "lk") | (apply Same.seq; (· assumption); (· wtm_at "sq")) | (apply But.sq; (· assumption); (· wtm_at "ne"); (· wtm_at "sq")))
local macro_rules | `(tactic| wtm_at "fr") => `(tactic| first | assumption | (apply Same.fr; (· assumption); (· wtm_at "sm")) | (apply But.fr; (· assumption); (· wtm_at "sm"); (· wtm_at "ne")))
local macro_rules | `(tactic| wtm_at "sm") => `(tactic| first | exact Same.refl _ | exact But.refl | assumption | (apply Same.tr; (· assumption); (· wtm_at "sm")) | (apply Same.b0; (· assumption); (· wtm_at "sm"); (· wtm_at "fr")) | (apply But.sa; (· assumption); (· wtm_at "sm")) | (apply But.tr; (· assumption); (· wtm_at "sm")) | (apply But.b0; (· assumption); (· wtm_at "sm"); (· wtm_at "fr")) | (apply Same.toBut; wtm_at "sm"))
local macro_rules | `(tactic| wtm_at "sc") => `(tactic| first | exact Int.zero_lt_one | (show (0 : Int) < _; omega) | (show (0 : Int) < _; decide) | exact ⟨by omega, by omega⟩ | exact .inl ⟨by omega, by omega⟩ | exact .inr ⟨by omega, by omega⟩)
local macro_rules | `(tactic| wtm_at "go1") => `(tactic| first | ((with_reducible apply g_var); (· exact rfl)) | with_reducible apply g_I0 | ((with_reducible apply g_I); (· wtm_at "sc")) | with_reducible apply g_U | with_reducible apply g_ipI | ((with_reducible apply g_addT); (· first | omega | (simp; done) | (simp; omega))) | with_reducible apply g_inT | with_reducible apply g_ninT | ((with_reducible apply g_lenT); (· omega)) | with_reducible apply g_findT1 | with_reducible apply g_str | with_reducible apply g_part | with_reducible apply g_intB | ((with_reducible apply g_ixL); (· wtm_at "sq"); (· exact rfl)) | ((with_reducible apply g_setL); (· wtm_at "lk"); (· exact rfl)) | ((with_reducible apply g_eq); (· rfl)) | ((with_reducible apply g_ne); (· rfl)))
local macro_rules | `(tactic| wtm_at "go") => `(tactic| repeat wtm_at "go1")
local macro_rules | `(tactic| wtm_at "lp") => `(tactic| skip)
local macro_rules | `(tactic| wtm_at "om") => `(tactic| first | omega | (simp; done) | (simp; omega) | (simp at *; omega))
local macro_rules | `(tactic| wtm_at "ty") => `(tactic| first | exact ty_str | exact ty_int | exact ty_bl | exact ty_non | (apply ty_lst; wtm_at "lk") | (apply ty_tup; wtm_at "lk"))
local macro_rules | `(tactic| wtm_at "kb") => `(tactic| first | exact kb_str_str | exact kb_str_int | exact kb_str_bool | exact kb_str_list | exact kb_str_tuple | exact kb_int_str | exact kb_int_int | exact kb_int_bool | exact kb_int_list | exact kb_int_tuple | exact kb_bool_str | exact kb_bool_int | exact kb_bool_bool | exact kb_bool_list | exact kb_bool_tuple | exact kb_list_str | exact kb_list_int | exact kb_list_bool | exact kb_list_list | exact kb_list_tuple | exact kb_tuple_str | exact kb_tuple_int | exact kb_tuple_bool | exact kb_tuple_list | exact kb_tuple_tuple | exact kb_NoneType_str | exact kb_NoneType_int | exact kb_NoneType_bool | exact kb_NoneType_list | exact kb_NoneType_tuple | exact kb_dict_str | exact kb_dict_int | exact kb_dict_bool | exact kb_dict_list | exact kb_dict_tuple)
local macro_rules | `(tactic| wtm_at "gx1") => `(tactic| first | ((with_reducible apply g_eqS); (· exact rfl)) | ((with_reducible apply g_neS); (· exact rfl)) | wtm_at "go1" | with_reducible apply g_min2 | with_reducible apply g_max2 | with_reducible apply g_T | with_reducible apply g_F | with_reducible apply g_NT | with_reducible apply g_NF | with_reducible apply g_nT | with_reducible apply g_nF | with_reducible apply g_RT | with_reducible apply g_RF | ((with_reducible apply g_isi); (· wtm_at "ty"); (· wtm_at "kb")) | ((with_reducible apply g_ixAU3); (· wtm_at "lk"); (· exact rfl)) | ((with_reducible apply g_ixAL3); (· wtm_at "lk"); (· exact rfl)) | ((with_reducible apply g_ixU3); (· wtm_at "lk"); (· exact rfl)) | ((with_reducible apply g_lenL3); (· wtm_at "lk")) | ((with_reducible apply g_lenU3); (· wtm_at "lk")) | ((with_reducible apply g_tyL3); (· wtm_at "lk")) | ((with_reducible apply g_lenT); (· wtm_at "pv")) | wtm_at "tr" | with_reducible apply g_ET | with_reducible apply g_EF | with_reducible apply g_EnT | with_reducible apply g_EnF)
local macro_rules | `(tactic| wtm_at "pv") => `(tactic| first | exact rfl | assumption | omega | (simp; done) | (simp; omega))
local macro_rules | `(tactic| wtm_at "tr") => `(tactic| first | ((with_reducible apply g_Td); (· wtm_at "pv")) | ((with_reducible apply g_Fd); (· wtm_at "pv")) | ((with_reducible apply g_NTd); (· wtm_at "pv")) | ((with_reducible apply g_NFd); (· wtm_at "pv")) | ((with_reducible apply g_nTd); (· wtm_at "pv")) | ((with_reducible apply g_nFd); (· wtm_at "pv")) | ((with_reducible apply g_RTd); (· wtm_at "pv")) | ((with_reducible apply g_RFd); (· wtm_at "pv")))
local macro_rules | `(tactic| wtm_at "gx") => `(tactic| repeat wtm_at "gx1")

section
variable {P : Program} {w : World} {K : PySem.W.Frag} {mg : Str → Option Value} {base : Heap}
/-- a well: two ints -/
structure Wl where
  a : Int
  b : Int
  h0 : 0 ≤ b
  h1 : b < 2147483629
def Wl.o (P : Wl) : HO := .lst [.int P.a, .int P.b]
theorem pair_at4 {z : Nat} (h : z < 4) : ∃ c, ([Tx [40, 41], Tx [60, 62], Tx [91, 93], Tx [123, 125]] : List V)[z]? = some (Tx [c, oth c]) ∧ c ∈ OPN := by
  have hc : z = 0 ∨ z = 1 ∨ z = 2 ∨ z = 3 := by omega
  rcases hc with rfl | rfl | rfl | rfl
  · exact ⟨40, by rw [show oth 40 = 41 by decide]; rfl, by decide⟩
  · exact ⟨60, by rw [show oth 60 = 62 by decide]; rfl, by decide⟩
  · exact ⟨91, by rw [show oth 91 = 93 by decide]; rfl, by decide⟩
  · exact ⟨123, by rw [show oth 123 = 125 by decide]; rfl, by decide⟩
theorem atI_at {l : List Nat} {k : Nat} (h : k < l.length) : atI l (k : Int) = some (l[k]) := atI_of (by simp [h])
/-! _law_well -/
def sp_law_well : Sp := fun vs H Q _ => ∃ c : Int, vs = [.int c] ∧ ∀ (p : Addr) (P1 : Wl) (H' : Hp), H p = none → Same H H' → H' p = some P1.o → Q (.ref p) H'
theorem ok_law_well (T : Facts K mg) : C8.Cal P w K mg base 1 "_law_well" sp_law_well [] := by
  refine calD T.f_law_well sc_law_well (fun vs H Q E h => ?_) (fun f cdv A outer s H vs Q E hr h => ?_)
  · obtain ⟨c, rfl, q⟩ := h; rfl
  · obtain ⟨c, rfl, q⟩ := h
    refine ⟨_, (pss_cons (ps_if (pt_cmpR op_ge (pv 0) (pe_op op_pow pe_int pe_int) (nomark _))
       (pss_one (ps_ret (pe_lst (pa_cons (pv 0) (pa_cons (pe_op op_mod (pv 0) pe_int) pa_nil)))))
       pss_nil)
       (pss_one (ps_ret (pe_lst (pa_cons pe_int (pa_cons (pe_op op_mod (pv 0) pe_int) pa_nil)))))), ?_⟩
    rw [st_law_well]
    wtm_at "unf"
    wtm_at "go"
    refine g_test (fun h => ?_) (fun h => ?_)
    · wtm_at "go"
      refine g_lst (by show 2 ≤ 100000; decide) fun p H1 np s1 e1 => ?_
      exact q p ⟨_, _, Int.emod_nonneg _ (by decide), Int.emod_lt_of_pos _ (by decide)⟩ H1 np s1 e1
    · wtm_at "go"
      refine g_lst (by show 2 ≤ 100000; decide) fun p H1 np s1 e1 => ?_
      exact q p ⟨_, _, Int.emod_nonneg _ (by decide), Int.emod_lt_of_pos _ (by decide)⟩ H1 np s1 e1
/-! _law_draw -/
def sp_law_draw : Sp := fun vs H Q _ => ∃ (p : Addr) (P0 : Wl) (m : Int), vs = [.ref p, .int m] ∧ H p = some P0.o ∧ 0 < m ∧ m < 1000000 ∧ ∀ (r : Int) (P1 : Wl) (H' : Hp), 0 ≤ r → r < m → But p H H' → H' p = some P1.o → Q (.int r) H'
theorem ok_law_draw (T : Facts K mg) : C8.Cal P w K mg base 1 "_law_draw" sp_law_draw [] := by
  refine calD T.f_law_draw sc_law_draw (fun vs H Q E h => ?_) (fun f cdv A outer s H vs Q E hr h => ?_)
  · obtain ⟨p, P0, m, rfl, hp, h0, h1, q⟩ := h; rfl
  · obtain ⟨p, P0, m, rfl, hp, h0, h1, q⟩ := h
    refine ⟨_, (pss_cons (ps_if (pt_cmpR op_gt (pe_ix ix_list (pv 0) pe_int (fun _ _ => rfl)) pe_int (nomark _))
       (pss_cons (ps_set (i := 2) sc_law_draw.nd rfl (Or.inl rfl) (pe_op op_mod (pe_ix ix_list (pv 0) pe_int (fun _ _ => rfl)) (pv 1)))
       (pss_cons (ps_asg (pe_op op_fdiv (pe_ix ix_list (pv 0) pe_int (fun _ _ => rfl)) (pv 1)) (pg_sub (pv 0) pe_int set_list))
       (pss_one (ps_ret (pv 2)))))
       pss_nil)
       (pss_cons (ps_set (i := 3) sc_law_draw.nd rfl (Or.inl rfl) (pe_op op_mod (pe_op op_add (pe_op op_mul (pe_ix ix_list (pv 0) pe_int (fun _ _ => rfl)) pe_int) pe_int) pe_int))
       (pss_cons (ps_set (i := 3) sc_law_draw.nd rfl (Or.inl rfl) (pe_op op_mod (pe_op op_mul (pv 3) (pv 3)) pe_int))
       (pss_cons (ps_asg (pe_op op_mod (pe_op op_add (pe_op op_mul (pv 3) pe_int) pe_int) pe_int) (pg_sub (pv 0) pe_int set_list))
       (pss_one (ps_ret (pe_op op_mod (pe_op op_fdiv (pe_ix ix_list (pv 0) pe_int (fun _ _ => rfl)) pe_int) (pv 1)))))))), ?_⟩
    rw [st_law_draw]
    have hp' : H p = some (.lst [.int P0.a, .int P0.b]) := hp
    have i0 := P0.h0
    have i1 := P0.h1
    wtm_at "unf"
    wtm_at "go"
    refine g_test (fun h => ?_) (fun h => ?_)
    · wtm_at "go"
      intro H2 b2 e2
      wtm_at "go"
      exact q (P0.a % m) ⟨P0.a / m, P0.b, P0.h0, P0.h1⟩ H2 (Int.emod_nonneg _ (by omega)) (Int.emod_lt_of_pos _ h0) (by wtm_at "sm") e2
    · wtm_at "go"
      generalize hx : (P0.b * 48271 + 11) % 2147483647 = x
      have x0 : 0 ≤ x := by rw [← hx]; exact Int.emod_nonneg _ (by decide)
      have x1 : x < 2147483647 := by rw [← hx]; exact Int.emod_lt_of_pos _ (by decide)
      wtm_at "go"
      generalize hy : x * x % 2147483587 = y
      have y0 : 0 ≤ y := by rw [← hy]; exact Int.emod_nonneg _ (by decide)
      have y1 : y < 2147483587 := by rw [← hy]; exact Int.emod_lt_of_pos _ (by decide)
      wtm_at "go"
      generalize hz : (y * 69621 + 40692) % 2147483629 = z
      have z0 : 0 ≤ z := by rw [← hz]; exact Int.emod_nonneg _ (by decide)
      have z1 : z < 2147483629 := by rw [← hz]; exact Int.emod_lt_of_pos _ (by decide)
      intro H2 b2 e2
      wtm_at "go"
      exact q _ ⟨P0.a, z, z0, z1⟩ H2 (Int.emod_nonneg _ (by omega)) (Int.emod_lt_of_pos _ h0) (by wtm_at "sm") e2
theorem sg_ins {a b u : List Nat} (h : ∀ c ∈ a ++ b, isSg c) (hu : ∀ c ∈ u, isSg c) : ∀ c ∈ a ++ u ++ b, isSg c := by
  intro c hc
  simp only [List.mem_append] at hc h
  rcases hc with (hc | hc) | hc
  · exact h c (.inl hc)
  · exact hu c hc
  · exact h c (.inr hc)
theorem sg_one {c : Nat} (h : isSg c) : ∀ d ∈ [c], isSg d := by
  intro d hd
  rw [List.mem_singleton] at hd
  rw [hd]
  exact h
theorem sg_pair {c : Nat} (h : c ∈ OPN) : ∀ d ∈ [c, oth c], isSg d := by
  intro d hd
  simp only [List.mem_cons, List.not_mem_nil, or_false] at hd
  rcases hd with rfl | rfl
  · exact .inr (brk_or.mpr (.inl h))
  · exact .inr (brk_or.mpr (.inr (oth_clo c h)))
theorem sg_brka : ∀ c ∈ [40, 41, 60, 62, 91, 93, 123, 125, 97], isSg c := by unfold isSg; decide
theorem take_len {l : List Nat} {k : Nat} : (l.take k).length ≤ l.length := by rw [List.length_take]; omega
/-! _law_clean -/
def sp_law_clean : Sp := fun vs H Q _ => ∃ (p : Addr) (P0 : Wl) (m : Nat), vs = [.ref p, .int m] ∧ H p = some P0.o ∧ m ≤ 1000 ∧ ∀ (l : List Nat) (P1 : Wl) (H' : Hp), (∀ c ∈ l, isSg c) → l.length ≤ m + 1 → clean l → But p H H' → H' p = some P1.o → Q (Tx l) H'
theorem ok_law_clean (T : Facts K mg) : C8.Cal P w K mg base 2 "_law_clean" sp_law_clean [] := by
  refine calD T.f_law_clean sc_law_clean (fun vs H Q E h => ?_) (fun f cdv A outer s H vs Q E hr h => ?_)
  · obtain ⟨p, P0, m, rfl, hp, hm, q⟩ := h; rfl
  · obtain ⟨p, P0, m, rfl, hp, hm, q⟩ := h
    refine ⟨_, (pss_cons (ps_set (i := 2) sc_law_clean.nd rfl (Or.inl rfl) (pe_strS (l := []) (by decide +kernel)))
       (pss_cons (ps_while PassesOwn.never (pt_cmpR op_lt (pe_callB call_lenT rfl T.b_len PySem.boot_len (pa_cons (pv 2) pa_nil)) (pv 1) (nomark _))
       (pss_cons (ps_set (i := 3) sc_law_clean.nd rfl (Or.inl rfl) (pe_own (ok_law_draw T) hr (by omega) rfl (pa_cons (pv 0) (pa_cons pe_int pa_nil))))
       (pss_cons (ps_set (i := 4) sc_law_clean.nd rfl (Or.inl rfl) (pe_own (ok_law_draw T) hr (by omega) rfl (pa_cons (pv 0) (pa_cons (pe_op op_add (pe_callB call_lenT rfl T.b_len PySem.boot_len (pa_cons (pv 2) pa_nil)) pe_int) pa_nil))))
       (pss_one (ps_if (pt_cmpR op_eq (pv 3) pe_int (nomark _))
       (pss_one (ps_set (i := 2) sc_law_clean.nd rfl (Or.inl rfl) (pe_op op_addT (pe_op op_addT (pe_slice sl_tx (pv 2) po_none (po_some (pv 4))) (pe_ix ix_txt (pe_strS (l := LET) (by decide +kernel)) (pe_own (ok_law_draw T) hr (by omega) rfl (pa_cons (pv 0) (pa_cons pe_int pa_nil))) (fun _ _ => rfl))) (pe_slice sl_tx (pv 2) (po_some (pv 4)) po_none))))
       (pss_cons (ps_set (i := 5) sc_law_clean.nd rfl (Or.inl rfl) (pe_ix ix_list (pe_lst (pa_cons (pe_strS (l := [40, 41]) (by decide +kernel)) (pa_cons (pe_strS (l := [60, 62]) (by decide +kernel)) (pa_cons (pe_strS (l := [91, 93]) (by decide +kernel)) (pa_cons (pe_strS (l := [123, 125]) (by decide +kernel)) pa_nil))))) (pe_own (ok_law_draw T) hr (by omega) rfl (pa_cons (pv 0) (pa_cons pe_int pa_nil))) (fun _ _ => rfl)))
       (pss_one (ps_if (pt_cmpR op_lt (pv 3) pe_int (nomark _))
       (pss_one (ps_set (i := 2) sc_law_clean.nd rfl (Or.inl rfl) (pe_op op_addT (pe_op op_addT (pe_slice sl_tx (pv 2) po_none (po_some (pv 4))) (pv 5)) (pe_slice sl_tx (pv 2) (po_some (pv 4)) po_none))))
       (pss_one (ps_set (i := 2) sc_law_clean.nd rfl (Or.inl rfl) (pe_op op_addT (pe_op op_addT (pe_ix ix_txt (pv 5) pe_int (fun _ _ => rfl)) (pv 2)) (pe_ix ix_txt (pv 5) pe_int (fun _ _ => rfl)))))))))))))
       (pss_one (ps_ret (pv 2))))), ?_⟩
    rw [st_law_clean]
    wtm_at "unf"
    wtm_at "go"
    refine g_while (fun k σ H' => ∃ (t : List Nat) (P1 : Wl) (y3 y4 y5 : Option V), k = m + 1 - t.length ∧ σ = [some (V.ref p), some (V.int m), some (Tx t), y3, y4, y5] ∧ (∀ c ∈ t, isSg c) ∧ t.length ≤ m + 1 ∧ clean t ∧ But p H H' ∧ H' p = some P1.o) (m + 1) ⟨[], P0, _, _, _, by simp, rfl, by simp, by simp, clean_nil, But.refl, hp⟩ ?_
    rintro k σ H' ⟨t, P1, y3, y4, y5, rfl, rfl, hts, htl, htc, bH, eP⟩
    wtm_at "unf"
    wtm_at "go"
    refine g_test (fun h => ?_) (fun h => ?_)
    · refine g_whb ?_
      wtm_at "unf"
      wtm_at "go"
      refine ⟨p, P1, 5, rfl, eP, by decide, by decide, fun x P2 H2 x0 x1 b2 e2 => ?_⟩
      wtm_at "go"
      refine ⟨p, P2, _, rfl, e2, by omega, by omega, fun y P3 H3 z0 z1 b3 e3 => ?_⟩
      obtain ⟨a, rfl⟩ := Int.eq_ofNat_of_zero_le z0
      have hcut : t.take a ++ t.drop a = t := List.take_append_drop a t
      wtm_at "go"
      refine g_test (fun h2 => ?_) (fun h2 => ?_)
      · wtm_at "go"
        refine g_slTo (by omega) (by omega) ?_
        rw [Int.toNat_natCast]
        wtm_at "go"
        refine ⟨p, P3, 26, rfl, e3, by decide, by decide, fun z P4 H4 w0 w1 b4 e4 => ?_⟩
        obtain ⟨b, rfl⟩ := Int.eq_ofNat_of_zero_le w0
        obtain ⟨c, hc1, hc2⟩ := let_at (z := b) (by omega)
        refine g_ixT (by decide) (atI_of hc1) ?_
        refine g_addT (by have := take_len (l := t) (k := a); simp only [List.length_cons, List.length_nil]; omega) ?_
        wtm_at "go"
        refine g_slFrom (by omega) (by omega) ?_
        rw [Int.toNat_natCast]
        refine g_addT (by rw [← List.length_append]; simp; omega) ?_
        have hln : (t.take a ++ [c] ++ t.drop a).length = t.length + 1 := by
          have := congrArg List.length hcut
          simp only [List.length_append, List.length_cons, List.length_nil] at this ⊢
          omega
        refine ⟨m + 1 - (t.take a ++ [c] ++ t.drop a).length, by omega, _, P4, _, _, _, rfl, rfl, sg_ins (by rw [hcut]; exact hts) (sg_one (.inl hc2)), by omega, ?_, by wtm_at "sm", e4⟩
        refine (clean_mid ?_).mpr (by rw [hcut]; exact htc)
        exact (unit_let (let_opn c hc2) (let_clo c hc2)).1
      · wtm_at "go"
        refine g_lst (by show 4 ≤ 100000; decide) fun la H4 nla s4 ela => ?_
        wtm_at "go"
        refine ⟨p, P3, 4, rfl, s4 _ _ e3, by decide, by decide, fun z P4 H5 w0 w1 b5 e5 => ?_⟩
        obtain ⟨b, rfl⟩ := Int.eq_ofNat_of_zero_le w0
        obtain ⟨c, hc1, hc2⟩ := pair_at4 (z := b) (by omega)
        have hlap : la ≠ p := Ne.symm (ne_new nla e3)
        refine g_ixL (sq_of (b5 _ _ hlap ela)) (atI_of hc1) ?_
        wtm_at "go"
        refine g_test (fun h3 => ?_) (fun h3 => ?_)
        · wtm_at "go"
          refine g_slTo (by omega) (by omega) ?_
          rw [Int.toNat_natCast]
          wtm_at "go"
          refine g_slFrom (by omega) (by omega) ?_
          rw [Int.toNat_natCast]
          refine g_addT (by rw [← List.length_append]; simp; omega) ?_
          have hln : (t.take a ++ [c, oth c] ++ t.drop a).length = t.length + 2 := by
            have := congrArg List.length hcut
            simp only [List.length_append, List.length_cons, List.length_nil] at this ⊢
            omega
          refine ⟨m + 1 - (t.take a ++ [c, oth c] ++ t.drop a).length, by omega, _, P4, _, _, _, rfl, rfl, sg_ins (by rw [hcut]; exact hts) (sg_pair hc2), by omega, ?_, by wtm_at "sm", e5⟩
          exact (clean_mid (clean_pair (a := []) hc2 clean_nil)).mpr (by rw [hcut]; exact htc)
        · wtm_at "go"
          refine g_ixT (c := c) (by simp) rfl ?_
          wtm_at "go"
          refine g_ixT (c := oth c) (by simp) rfl ?_
          refine g_addT (by simp; omega) ?_
          refine ⟨m + 1 - ([c] ++ t ++ [oth c]).length, by simp; omega, _, P4, _, _, _, rfl, rfl, ?_, by simp; omega, clean_pair hc2 htc, by wtm_at "sm", e5⟩
          intro d hd
          simp only [List.mem_append, List.mem_singleton] at hd
          rcases hd with (rfl | hd) | rfl
          · exact .inr (brk_or.mpr (.inl hc2))
          · exact hts d hd
          · exact .inr (brk_or.mpr (.inr (oth_clo c hc2)))
    · wtm_at "unf"
      wtm_at "go"
      exact q t P1 H' hts htl htc bH eP
/-! _law_bent -/
def sp_law_bent : Sp := fun vs H Q _ => ∃ (p : Addr) (P0 : Wl) (l : List Nat), vs = [.ref p, Tx l] ∧ H p = some P0.o ∧ l.length ≤ 1000 ∧ (∀ c ∈ l, isSg c) ∧ ∀ (l' : List Nat) (P1 : Wl) (H' : Hp), (∀ c ∈ l', isSg c) → l'.length ≤ l.length + 1 → But p H H' → H' p = some P1.o → Q (Tx l') H'
theorem ok_law_bent (T : Facts K mg) : C8.Cal P w K mg base 2 "_law_bent" sp_law_bent [] := by
  refine calD T.f_law_bent sc_law_bent (fun vs H Q E h => ?_) (fun f cdv A outer s H vs Q E hr h => ?_)
  · obtain ⟨p, P0, l, rfl, hp, hl, hs, q⟩ := h; rfl
  · obtain ⟨p, P0, l, rfl, hp, hl, hs, q⟩ := h
    refine ⟨_, (pss_cons (ps_set (i := 2) sc_law_bent.nd rfl (Or.inl rfl) (pe_ix ix_txt (pe_strS (l := [40, 41, 60, 62, 91, 93, 123, 125, 97]) (by decide +kernel)) (pe_own (ok_law_draw T) hr (by omega) rfl (pa_cons (pv 0) (pa_cons pe_int pa_nil))) (fun _ _ => rfl)))
       (pss_cons (ps_set (i := 3) sc_law_bent.nd rfl (Or.inl rfl) (pe_own (ok_law_draw T) hr (by omega) rfl (pa_cons (pv 0) (pa_cons (pe_op op_add (pe_callB call_lenT rfl T.b_len PySem.boot_len (pa_cons (pv 1) pa_nil)) pe_int) pa_nil))))
       (pss_cons (ps_set (i := 4) sc_law_bent.nd rfl (Or.inl rfl) (pe_own (ok_law_draw T) hr (by omega) rfl (pa_cons (pv 0) (pa_cons pe_int pa_nil))))
       (pss_cons (ps_if (pt_cmpR op_eq (pv 4) pe_int (nomark _))
       (pss_one (ps_ret (pe_op op_addT (pe_slice sl_tx (pv 1) po_none (po_some (pv 3))) (pe_slice sl_tx (pv 1) (po_some (pe_op op_add (pv 3) pe_int)) po_none))))
       pss_nil)
       (pss_one (ps_ret (pe_op op_addT (pe_op op_addT (pe_slice sl_tx (pv 1) po_none (po_some (pv 3))) (pv 2)) (pe_slice sl_tx (pv 1) (po_some (pe_op op_sub (pe_op op_add (pv 3) (pv 4)) pe_int)) po_none)))))))), ?_⟩
    rw [st_law_bent]
    wtm_at "unf"
    wtm_at "go"
    refine ⟨p, P0, 9, rfl, hp, by decide, by decide, fun x P2 H2 x0 x1 b2 e2 => ?_⟩
    obtain ⟨a, rfl⟩ := Int.eq_ofNat_of_zero_le x0
    have ha : a < ([40, 41, 60, 62, 91, 93, 123, 125, 97] : List Nat).length := by show a < 9; omega
    refine g_ixT (by decide) (atI_at ha) ?_
    have hsg := sg_brka _ (List.getElem_mem ha)
    generalize ([40, 41, 60, 62, 91, 93, 123, 125, 97] : List Nat)[a] = c at hsg
    wtm_at "go"
    refine ⟨p, P2, _, rfl, e2, by omega, by omega, fun y P3 H3 z0 z1 b3 e3 => ?_⟩
    obtain ⟨b, rfl⟩ := Int.eq_ofNat_of_zero_le z0
    have hb : b ≤ l.length := by omega
    wtm_at "go"
    refine ⟨p, P3, 3, rfl, e3, by omega, by omega, fun y P4 H4 w0 w1 b4 e4 => ?_⟩
    obtain ⟨w, rfl⟩ := Int.eq_ofNat_of_zero_le w0
    have htl := List.length_take (i := b) (l := l)
    wtm_at "go"
    refine g_test (fun h2 => ?_) (fun h2 => ?_)
    · wtm_at "go"
      refine g_slTo (by omega) (by omega) ?_
      rw [Int.toNat_natCast]
      wtm_at "go"
      refine g_slFrom (by omega) (by omega) ?_
      rw [show ((b : Int) + 1).toNat = b + 1 by omega]
      have hdl := List.length_drop (i := b + 1) (l := l)
      refine g_addT (by omega) ?_
      refine q _ P4 H4 (fun d hd => ?_) (by rw [List.length_append]; omega) (by wtm_at "sm") e4
      rcases List.mem_append.mp hd with hd | hd
      · exact hs d (List.mem_of_mem_take hd)
      · exact hs d (List.mem_of_mem_drop hd)
    · have hw : w ≠ 0 := fun e => h2 (by rw [e]; rfl)
      wtm_at "go"
      refine g_slTo (by omega) (by omega) ?_
      rw [Int.toNat_natCast]
      wtm_at "go"
      refine g_slFrom (by omega) (by omega) ?_
      rw [show ((b : Int) + (w : Int) - 1).toNat = b + (w - 1) by omega]
      have hdl := List.length_drop (i := b + (w - 1)) (l := l)
      refine g_addT (by simp; omega) ?_
      refine q _ P4 H4 (fun d hd => ?_) (by simp; omega) (by wtm_at "sm") e4
      simp only [List.mem_append, List.mem_singleton] at hd
      rcases hd with (hd | rfl) | hd
      · exact hs d (List.mem_of_mem_take hd)
      · exact hsg
      · exact hs d (List.mem_of_mem_drop hd)
theorem signs_at {z : Nat} (h : z < 4) : ∃ l : List Nat, ([Tx [40, 41, 60, 62, 91, 93, 123, 125, 97], Tx [40, 41, 60, 62, 91, 93, 123, 125, 97, 98], Tx [40, 41], Tx [40, 91, 41, 93]] : List V)[z]? = some (Tx l) ∧ (∀ c ∈ l, isSg c) ∧ 0 < l.length ∧ l.length ≤ 10 := by
  have hc : z = 0 ∨ z = 1 ∨ z = 2 ∨ z = 3 := by omega
  unfold isSg
  rcases hc with rfl | rfl | rfl | rfl
  · exact ⟨_, rfl, by decide, by decide, by decide⟩
  · exact ⟨_, rfl, by decide, by decide, by decide⟩
  · exact ⟨_, rfl, by decide, by decide, by decide⟩
  · exact ⟨_, rfl, by decide, by decide, by decide⟩
/-! _law_text -/
def sp_law_text : Sp := fun vs H Q _ => ∃ (p : Addr) (P0 : Wl) (m : Nat), vs = [.ref p, .int m] ∧ H p = some P0.o ∧ m ≤ 100 ∧ ∀ (l : List Nat) (P1 : Wl) (H' : Hp), (∀ c ∈ l, isSg c) → l.length ≤ m → But p H H' → H' p = some P1.o → Q (Tx l) H'
theorem ok_law_text (T : Facts K mg) : C8.Cal P w K mg base 3 "_law_text" sp_law_text [] := by
  refine calD T.f_law_text sc_law_text (fun vs H Q E h => ?_) (fun f cdv A outer s H vs Q E hr h => ?_)
  · obtain ⟨p, P0, m, rfl, hp, hm, q⟩ := h; rfl
  · obtain ⟨p, P0, m, rfl, hp, hm, q⟩ := h
    refine ⟨_, (pss_cons (ps_set (i := 2) sc_law_text.nd rfl (Or.inl rfl) (pe_own (ok_law_draw T) hr (by omega) rfl (pa_cons (pv 0) (pa_cons (pe_op op_add (pv 1) pe_int) pa_nil))))
       (pss_cons (ps_set (i := 3) sc_law_text.nd rfl (Or.inl rfl) (pe_own (ok_law_draw T) hr (by omega) rfl (pa_cons (pv 0) (pa_cons pe_int pa_nil))))
       (pss_cons (ps_if (pt_cmpR op_lt (pv 3) pe_int (nomark _))
       (pss_cons (ps_set (i := 4) sc_law_text.nd rfl (Or.inl rfl) (pe_own (ok_law_clean T) hr (by omega) rfl (pa_cons (pv 0) (pa_cons (pv 2) pa_nil))))
       (pss_cons (ps_for PassesOwn.never rfl (pi_range1 rfl T.b_range (pa_cons (pe_own (ok_law_draw T) hr (by omega) rfl (pa_cons (pv 0) (pa_cons pe_int pa_nil))) pa_nil)) (pg_name (i := 5) sc_law_text.nd rfl (Or.inl rfl))
       (pss_one (ps_set (i := 4) sc_law_text.nd rfl (Or.inl rfl) (pe_own (ok_law_bent T) hr (by omega) rfl (pa_cons (pv 0) (pa_cons (pv 4) pa_nil))))))
       (pss_one (ps_ret (pe_slice sl_tx (pv 4) po_none (po_some (pv 1)))))))
       pss_nil)
       (pss_cons (ps_set (i := 6) sc_law_text.nd rfl (Or.inr rfl) (pe_ix ix_list (pe_lst (pa_cons (pe_strS (l := [40, 41, 60, 62, 91, 93, 123, 125, 97]) (by decide +kernel)) (pa_cons (pe_strS (l := [40, 41, 60, 62, 91, 93, 123, 125, 97, 98]) (by decide +kernel)) (pa_cons (pe_strS (l := [40, 41]) (by decide +kernel)) (pa_cons (pe_strS (l := [40, 91, 41, 93]) (by decide +kernel)) pa_nil))))) (pe_op op_sub (pv 3) pe_int) (fun _ _ => rfl)))
       (pss_asgT (i := 4) sc_law_text.nd rfl rfl (pe_m1 PySem.F.slot_str_join PySem.F.type_str_join mt_joinT (pe_strS (l := []) (by decide +kernel)) (pe_lc (own := [("k", 5)]) (by rfl) sc_law_text.nd (pi_range1 rfl T.b_range (pa_cons (pv 2) pa_nil)) (blkOk_by (own := [("k", 5)]) (N := N_law_text) (sc := defScope s_law_text) (by decide +kernel)) (fun _ _ _ _ _ => (pg_name (i := 5) sc_law_text.nd rfl (Or.inl rfl))) (fun _ _ _ _ _ => pts_nil) (fun _ _ _ _ _ => (pe_ix ix_txt (pv 6) (pe_own (ok_law_draw T) hr (by omega) rfl (pa_cons (pv 0) (pa_cons (pe_callB call_lenT rfl T.b_len PySem.boot_len (pa_cons (pv 6) pa_nil)) pa_nil))) (fun _ _ => rfl))))) (psst_cons (CwR.pst_if (pt_cmpR op_eq (pe_own (ok_law_draw T) hr (by omega) rfl (pa_cons (pv 0) (pa_cons pe_int pa_nil))) pe_int (nomark _)) (CwR.psst_one (CwR.pst_ret (pet_ix ix_list (pet_lst (pat_cons (pet_replL (ly := [41]) (lz := [40]) (by decide +kernel) (by decide +kernel) (pv 4) (by decide)) (pat_cons (CwR.PET.of (pe_revS (pe_m1 PySem.F.slot_str_join PySem.F.type_str_join mt_joinT (pe_strS (l := []) (by decide +kernel)) (pe_callB (call_sortedT rfl) rfl T.b_sorted (by decide +kernel) (pa_cons (pv 4) pa_nil))))) pat_nil))) (pe_own (ok_law_draw T) hr (by omega) rfl (pa_cons (pv 0) (pa_cons pe_int pa_nil))) (fun _ _ => rfl)))) CwR.psst_nil) (PSsT.of (pss_one (ps_ret (pv 4)))))))))), ?_⟩
    rw [st_law_text]
    wtm_at "unf"
    wtm_at "go"
    refine ⟨p, P0, _, rfl, hp, by omega, by omega, fun x P2 H2 x0 x1 b2 e2 => ?_⟩
    obtain ⟨n, rfl⟩ := Int.eq_ofNat_of_zero_le x0
    wtm_at "go"
    refine ⟨p, P2, 6, rfl, e2, by decide, by decide, fun y P3 H3 z0 z1 b3 e3 => ?_⟩
    obtain ⟨w, rfl⟩ := Int.eq_ofNat_of_zero_le z0
    wtm_at "go"
    refine g_test (fun h2 => ?_) (fun h2 => ?_)
    · wtm_at "go"
      refine ⟨p, P3, n, rfl, e3, by omega, fun t P4 H4 hts htl htc b4 e4 => ?_⟩
      wtm_at "go"
      refine ⟨p, P4, 4, rfl, e4, by decide, by decide, fun y P5 H5 w0 w1 b5 e5 => ?_⟩
      obtain ⟨v, rfl⟩ := Int.eq_ofNat_of_zero_le w0
      refine ⟨_, rfl, by omega, by omega, for_rng (fun i σ H' => ∃ (u : List Nat) (P6 : Wl) (y5 : Option V), σ = [some (V.ref p), some (V.int m), some (V.int n), some (V.int w), some (Tx u), y5, none] ∧ (∀ c ∈ u, isSg c) ∧ u.length ≤ 102 + i ∧ But p H H' ∧ H' p = some P6.o) ⟨t, P5, _, rfl, hts, by omega, by wtm_at "sm", e5⟩ (fun i σ H' hi hv => ?_) (fun σ H' hv => ?_)⟩
      · obtain ⟨u, P6, y5, rfl, hus, hul, bH, eH⟩ := hv
        rw [Int.toNat_natCast] at hi
        wtm_at "unf"
        wtm_at "go"
        refine ⟨p, P6, u, rfl, eH, by omega, hus, fun u' P7 H7 hus' hul' b7 e7 => ?_⟩
        exact ⟨u', P7, _, rfl, hus', by omega, by wtm_at "sm", e7⟩
      · obtain ⟨u, P6, y5, rfl, hus, hul, bH, eH⟩ := hv
        rw [Int.toNat_natCast] at hul
        wtm_at "unf"
        wtm_at "go"
        refine g_slTo (by omega) (by omega) ?_
        rw [Int.toNat_natCast]
        exact q _ P6 H' (fun d hd => hus d (List.mem_of_mem_take hd)) (by rw [List.length_take]; omega) bH eH
    · wtm_at "go"
      refine g_lst (by show 4 ≤ 100000; decide) fun la H4 nla s4 ela => ?_
      wtm_at "go"
      obtain ⟨sg, hsg1, hsg2, hsg3, hsg4⟩ := signs_at (z := w - 2) (by omega)
      refine g_ixL (sq_of ela) (by rw [show ((w : Int) - 2) = ((w - 2 : Nat) : Int) by omega]; exact atI_of hsg1) ?_
      wtm_at "go"
      refine ⟨_, rfl, by omega, by omega, lc_rng fun d H5 nd s5 ed => ⟨fun i H' => ∃ (u : List Nat) (P6 : Wl), H' d = some (.lst (sgV u)) ∧ u.length = i ∧ (∀ c ∈ u, isSg c) ∧ But p H H' ∧ H' p = some P6.o, ⟨[], P3, ed, rfl, by simp, by wtm_at "sm", s5 _ _ (s4 _ _ e3)⟩, fun i H' hi hv => ?_, fun H' hv => ?_⟩⟩
      · obtain ⟨u, P6, eu, hul, hus, bH, eH⟩ := hv
        rw [Int.toNat_natCast] at hi
        wtm_at "unf"
        refine ⟨rfl, ?_⟩
        wtm_at "go"
        have hdp : d ≠ p := Ne.symm (ne_new nd (s4 _ _ e3))
        refine ⟨p, P6, _, rfl, eH, by omega, by omega, fun x P7 H7 v0 v1 b7 e7 => ?_⟩
        obtain ⟨v, rfl⟩ := Int.eq_ofNat_of_zero_le v0
        have hv2 : v < sg.length := by omega
        refine g_ixT (by omega) (atI_at hv2) ?_
        refine lc_put (b7 _ _ hdp eu) (by rw [sgV_len]; omega) fun H8 b8 e8 => ?_
        refine ⟨u ++ [sg[v]], P7, by rw [sgV_snoc]; exact e8, by simp [hul], fun c hc => ?_, But.b0 b8 (But.tr b7 bH) (But.fr (s4.free nd) (But.tr b3 b2) hdp), b8 _ _ (Ne.symm hdp) e7⟩
        rcases List.mem_append.mp hc with hc | hc
        · exact hus c hc
        · rw [List.mem_singleton] at hc
          rw [hc]
          exact hsg2 _ (List.getElem_mem hv2)
      · obtain ⟨u, P6, eu, hul, hus, bH, eH⟩ := hv
        rw [Int.toNat_natCast] at hul
        wtm_at "go"
        refine g_join0 (sq_of eu) (by omega) ?_
        wtm_at "go"
        refine ⟨p, P6, 6, rfl, eH, by decide, by decide, fun x P7 H7 v0 v1 b7 e7 => ?_⟩
        wtm_at "go"
        refine g_test (fun h3 => ?_) (fun h3 => ?_)
        · wtm_at "go"
          refine ⟨u, rfl, by omega, by decide, ?_⟩
          rw [replace_one]
          wtm_at "go"
          refine g_sortedT (by omega) fun u2 sa H8 hpm nsa s8 esa => ?_
          have hu2 : u2.length = u.length := hpm.length_eq
          refine g_join0 (sq_of esa) (by omega) ?_
          refine g_revT (by omega) ?_
          refine g_lst (by show 2 ≤ 100000; decide) fun lb H9 nlb s9 elb => ?_
          wtm_at "go"
          have hlbp : lb ≠ p := Ne.symm (ne_new nlb (s8 _ _ e7))
          refine ⟨p, P7, 2, rfl, s9 _ _ (s8 _ _ e7), by decide, by decide, fun z P8 H10 z0 z1 b10 e10 => ?_⟩
          have elb2 := b10 _ _ hlbp elb
          have hbut : But p H H10 := But.tr b10 (But.sa s9 (But.sa s8 (But.tr b7 bH)))
          rcases (show z = 0 ∨ z = 1 by omega) with rfl | rfl
          · refine g_ixL (sq_of elb2) (show atI [Tx _, Tx _] 0 = some _ from rfl) ?_
            refine q _ P8 H10 (fun c hc => ?_) (by rw [List.length_map]; omega) hbut e10
            obtain ⟨c0, hc0, rfl⟩ := List.mem_map.mp hc
            by_cases hq : c0 = 41
            · rw [if_pos hq]
              unfold isSg
              decide
            · rw [if_neg hq]
              exact hus c0 hc0
          · refine g_ixL (sq_of elb2) (show atI [Tx _, Tx _] 1 = some _ from rfl) ?_
            exact q _ P8 H10 (fun c hc => hus c (hpm.mem_iff.mp (List.mem_reverse.mp hc))) (by rw [List.length_reverse]; omega) hbut e10
        · wtm_at "go"
          exact q u P7 H7 hus (by omega) (But.tr b7 bH) e7
end
end K27

set_option maxHeartbeats 4000000
namespace K27
open PySem PySem.Spec PyProof.Rows L2 SX Ly
local macro_rules | `(tactic| wtm_at "unf") => `(tactic| (try simp only [tMetX, tOwnX, tChain, tSeq, tNext, tBreak, tCont, tDrop, tRet, tRetN, tIfS, tAsg, tAug, tC, tOp, tUn, tNil, tCons, tOwn, tCB, tTest, tB, tAnd, tOr, tNot, tAndV, tOrV, tNotV, tIf, gName, gSub, tBM, tBM0, tM0, tM1, tSl, tPart_eq, tNoPart, tLst_eq, tTup_eq, tRevL_eq, tReplT, tRevS, tDGet_eq, sDPut_eq, tDNewT_eq, tMet, tMak, tFld_eq, sFld_eq, C8.tCut, wipe, tYes, gTup, gCons, gNil, List.set_cons_zero, List.set_cons_succ, if_true, if_false, Bool.false_eq_true, Bool.not_true, Bool.not_false, true_and, reduceIte, cx_K, tFor_eq, tLc_eq, iStr, iList, iTup, iRng1, iRng2, iRng3, iEnum, iZip, iEnumS, iZipS]))
local macro_rules | `(tactic| wtm_at "ne") => `(tactic| first | assumption | (apply Ne.symm; assumption) | (apply ne_new; (· assumption); (· wtm_at "lk")) | (apply Ne.symm; apply ne_new; (· assumption); (· wtm_at "lk")))
local macro_rules | `(tactic| wtm_at "lk") => `(tactic| first | assumption | exact upd_same | (apply Same.get; (· assumption); (· wtm_at "lk")) | (apply But.get; (· assumption); (· wtm_at "ne"); (· wtm_at "lk")))
local macro_rules | `(tactic| wtm_at "sq") => `(tactic| first | assumption | (apply sq_of; wtm_at "lk") | (apply Same.seq; (· assumption); (· wtm_at "sq")) | (apply But.sq; (· assumption); (· wtm_at "ne"); (· wtm_at "sq")))
local macro_rules | `(tactic| wtm_at "fr") => `(tactic| first | assumption | (apply Same.fr; (· assumption); (· wtm_at "sm")) | (apply But.fr; (· assumption); (· wtm_at "sm"); (· wtm_at "ne")))
local macro_rules | `(tactic| wtm_at "sm") => `(tactic| first | exact Same.refl _ | exact But.refl | assumption | (apply Same.tr; (· assumption); (· wtm_at "sm")) | (apply Same.b0; (· assumption); (· wtm_at "sm"); (· wtm_at "fr")) | (apply But.sa; (· assumption); (· wtm_at "sm")) | (apply But.tr; (· assumption); (· wtm_at "sm")) | (apply But.b0; (· assumption); (· wtm_at "sm"); (· wtm_at "fr")) | (apply Same.toBut; wtm_at "sm"))
local macro_rules | `(tactic| wtm_at "sc") => `(tactic| first | exact Int.zero_lt_one | (show (0 : Int) < _; omega) | (show (0 : Int) < _; decide) | exact ⟨by omega, by omega⟩ | exact .inl ⟨by omega, by omega⟩ | exact .inr ⟨by omega, by omega⟩)
local macro_rules | `(tactic| wtm_at "go1") => `(tactic| first | ((with_reducible apply g_var); (· exact rfl)) | with_reducible apply g_I0 | ((with_reducible apply g_I); (· wtm_at "sc")) | with_reducible apply g_U | with_reducible apply g_ipI | ((with_reducible apply g_addT); (· first | omega | (simp; done) | (simp; omega))) | with_reducible apply g_inT | with_reducible apply g_ninT | ((with_reducible apply g_lenT); (· omega)) | with_reducible apply g_findT1 | with_reducible apply g_str | with_reducible apply g_part | with_reducible apply g_intB | ((with_reducible apply g_ixL); (· wtm_at "sq"); (· exact rfl)) | ((with_reducible apply g_setL); (· wtm_at "lk"); (· exact rfl)) | ((with_reducible apply g_eq); (· rfl)) | ((with_reducible apply g_ne); (· rfl)))
local macro_rules | `(tactic| wtm_at "go") => `(tactic| repeat wtm_at "go1")
local macro_rules | `(tactic| wtm_at "lp") => `(tactic| skip)
local macro_rules | `(tactic| wtm_at "om") => `(tactic| first | omega | (simp; done) | (simp; omega) | (simp at *; omega))
local macro_rules | `(tactic| wtm_at "ty") => `(tactic| first | exact ty_str | exact ty_int | exact ty_bl | exact ty_non | (apply ty_lst; wtm_at "lk") | (apply ty_tup; wtm_at "lk"))
local macro_rules | `(tactic| wtm_at "kb") => `(tactic| first | exact kb_str_str | exact kb_str_int | exact kb_str_bool | exact kb_str_list | exact kb_str_tuple | exact kb_int_str | exact kb_int_int | exact kb_int_bool | exact kb_int_list | exact kb_int_tuple | exact kb_bool_str | exact kb_bool_int | exact kb_bool_bool | exact kb_bool_list | exact kb_bool_tuple | exact kb_list_str | exact kb_list_int | exact kb_list_bool | exact kb_list_list | exact kb_list_tuple | exact kb_tuple_str | exact kb_tuple_int | exact kb_tuple_bool | exact kb_tuple_list | exact kb_tuple_tuple | exact kb_NoneType_str | exact kb_NoneType_int | exact kb_NoneType_bool | exact kb_NoneType_list | exact kb_NoneType_tuple | exact kb_dict_str | exact kb_dict_int | exact kb_dict_bool | exact kb_dict_list | exact kb_dict_tuple)
local macro_rules | `(tactic| wtm_at "gx1") => `(tactic| first | ((with_reducible apply g_eqS); (· exact rfl)) | ((with_reducible apply g_neS); (· exact rfl)) | wtm_at "go1" | with_reducible apply g_min2 | with_reducible apply g_max2 | with_reducible apply g_T | with_reducible apply g_F | with_reducible apply g_NT | with_reducible apply g_NF | with_reducible apply g_nT | with_reducible apply g_nF | with_reducible apply g_RT | with_reducible apply g_RF | ((with_reducible apply g_isi); (· wtm_at "ty"); (· wtm_at "kb")) | ((with_reducible apply g_ixAU3); (· wtm_at "lk"); (· exact rfl)) | ((with_reducible apply g_ixAL3); (· wtm_at "lk"); (· exact rfl)) | ((with_reducible apply g_ixU3); (· wtm_at "lk"); (· exact rfl)) | ((with_reducible apply g_lenL3); (· wtm_at "lk")) | ((with_reducible apply g_lenU3); (· wtm_at "lk")) | ((with_reducible apply g_tyL3); (· wtm_at "lk")) | ((with_reducible apply g_lenT); (· wtm_at "pv")) | wtm_at "tr" | with_reducible apply g_ET | with_reducible apply g_EF | with_reducible apply g_EnT | with_reducible apply g_EnF)
local macro_rules | `(tactic| wtm_at "pv") => `(tactic| first | exact rfl | assumption | omega | (simp; done) | (simp; omega))
local macro_rules | `(tactic| wtm_at "tr") => `(tactic| first | ((with_reducible apply g_Td); (· wtm_at "pv")) | ((with_reducible apply g_Fd); (· wtm_at "pv")) | ((with_reducible apply g_NTd); (· wtm_at "pv")) | ((with_reducible apply g_NFd); (· wtm_at "pv")) | ((with_reducible apply g_nTd); (· wtm_at "pv")) | ((with_reducible apply g_nFd); (· wtm_at "pv")) | ((with_reducible apply g_RTd); (· wtm_at "pv")) | ((with_reducible apply g_RFd); (· wtm_at "pv")))
local macro_rules | `(tactic| wtm_at "gx") => `(tactic| repeat wtm_at "gx1")

section
variable {P : Program} {w : World} {K : PySem.W.Frag} {mg : Str → Option Value} {base : Heap}
/-! is_bracket -/
def sp_is_bracket : Sp := fun vs H Q _ => ∃ c : Nat, vs = [Tx [c]] ∧ Q (.bl (decide (c ∈ BRK))) H
theorem ok_is_bracket (T : Facts K mg) : C8.Cal P w K mg base 1 "is_bracket" sp_is_bracket [] := by
  refine calD T.f_is_bracket sc_is_bracket (fun vs H Q E h => ?_) (fun f cdv A outer s H vs Q E hr h => ?_)
  · obtain ⟨c, rfl, q⟩ := h; rfl
  · obtain ⟨c, rfl, q⟩ := h
    refine ⟨_, (pss_one (ps_ret (pe_or (pe_cmpR op_inT (pv 0) (C8.pe_gc rfl T.c_OPENING) (by rfl)) (pe_one (pe_cmpR op_inT (pv 0) (C8.pe_gc rfl T.c_CLOSING) (by rfl)))))), ?_⟩
    rw [st_is_bracket]
    wtm_at "unf"
    wtm_at "gx"
    refine g_test (fun h => ?_) (fun h => ?_)
    · rw [decide_eq_true (brk_or.mpr (.inl h))] at q
      exact q
    · wtm_at "gx"
      have e : decide (c ∈ BRK) = decide (c ∈ CLO) := decide_eq_decide.mpr ⟨fun hb => (brk_or.mp hb).resolve_left h, fun hc => brk_or.mpr (.inr hc)⟩
      rw [e] at q
      exact q
/-! turns -/
def sp_turns : Sp := fun vs H Q _ => ∃ c d : Nat, vs = [Tx [c], Tx [d]] ∧ c ∈ BRK ∧ d ∈ BRK ∧ Q (.int (tns c d)) H
theorem ok_turns (T : Facts K mg) : C8.Cal P w K mg base 2 "turns" sp_turns [] := by
  refine calD T.f_turns sc_turns (fun vs H Q E h => ?_) (fun f cdv A outer s H vs Q E hr h => ?_)
  · obtain ⟨c, d, rfl, hc, hd, q⟩ := h; rfl
  · obtain ⟨c, d, rfl, hc, hd, q⟩ := h
    refine ⟨_, (pss_cons (ps_set (i := 2) sc_turns.nd rfl (Or.inl rfl) (pe_op op_add (pe_callTy call_intB rfl T.b_int (by decide +kernel) (pa_cons (pe_cmpR op_inT (pv 0) (C8.pe_gc rfl T.c_CLOSING) (by rfl)) pa_nil)) (pe_callTy call_intB rfl T.b_int (by decide +kernel) (pa_cons (pe_cmpR op_inT (pv 1) (C8.pe_gc rfl T.c_OPENING) (by rfl)) pa_nil))))
       (pss_cons (ps_if (pt_cmpR op_eq (pv 2) pe_int (nomark _))
       (pss_one (ps_ret (pe_callTy call_intB rfl T.b_int (by decide +kernel) (pa_cons (pe_cmpR op_ne (pe_own (ok_kind_of T) hr (by omega) rfl (pa_cons (pv 0) pa_nil)) (pe_own (ok_kind_of T) hr (by omega) rfl (pa_cons (pv 1) pa_nil)) (nomark _)) pa_nil))))
       pss_nil)
       (pss_one (ps_ret (pv 2))))), ?_⟩
    rw [st_turns]
    unfold tns at q
    wtm_at "unf"
    wtm_at "gx"
    by_cases h1 : c ∈ CLO <;> by_cases h2 : d ∈ OPN <;> simp only [h1, h2, or_true, true_or, or_false, if_true, if_false, decide_true, decide_false, Bool.false_eq_true] at q ⊢
    · refine g_Fd (by simp) ?_
      wtm_at "gx"
      exact q
    · refine g_Fd (by simp) ?_
      wtm_at "gx"
      exact q
    · refine g_Fd (by simp) ?_
      wtm_at "gx"
      exact q
    · refine g_Td (by simp) ?_
      wtm_at "gx"
      refine ⟨c, rfl, hc, ?_⟩
      wtm_at "gx"
      refine ⟨d, rfl, hd, ?_⟩
      wtm_at "gx"
      by_cases h3 : knd c = knd d
      · rw [if_pos h3] at q
        rw [decide_eq_true (by rw [h3])]
        exact q
      · rw [if_neg h3] at q
        rw [decide_eq_false (fun hq => h3 (by have := V.int.inj hq; omega))]
        exact q
/-- the entries of the rows k: n k of them, by e -/
def rowV (e : Nat → Nat → Int) (k n : Nat) : List V := (List.range n).map fun t => V.int (e k (k + t))
theorem rowV_len (e : Nat → Nat → Int) (k n : Nat) : (rowV e k n).length = n := by unfold rowV; rw [List.length_map, List.length_range]
theorem rowV_at {e : Nat → Nat → Int} {k n t : Nat} (h : t < n) : (rowV e k n)[t]? = some (V.int (e k (k + t))) := by
  unfold rowV
  rw [List.getElem?_map, List.getElem?_range h]
  rfl
theorem rowV_snoc (e : Nat → Nat → Int) (k n : Nat) : rowV e k (n + 1) = rowV e k n ++ [V.int (e k (k + n))] := by
  unfold rowV
  rw [List.range_succ, List.map_append]
  rfl
/-! steps_from -/
def sp_steps_from : Sp := fun vs H Q _ => ∃ (l : List Nat) (d : Addr) (rs : List Addr) (f : Nat → List V) (e : Nat → Nat → Int) (i j : Nat), vs = [Tx l, .ref d, .int i, .int j] ∧ l.length ≤ 1000 ∧ Tab H d rs f ∧ rs.length = l.length + 1 ∧ (∀ k, i < k → k ≤ l.length → f k = rowV e k (l.length + 1 - k)) ∧ i < j ∧ j ≤ l.length ∧ ∀ (p : Addr) (H' : Hp), H p = none → Same H H' → H' p = some (.lst ((stepL l e i j).map V.int)) → Q (.ref p) H'
theorem ok_steps_from (T : Facts K mg) : C8.Cal P w K mg base 3 "steps_from" sp_steps_from [] := by
  refine calD T.f_steps_from sc_steps_from (fun vs H Q E h => ?_) (fun f cdv A outer s H vs Q E hr h => ?_)
  · obtain ⟨l, d, rs, f, e, i, j, rfl, hl, hT, hrl, hf, hi, hj, q⟩ := h; rfl
  · obtain ⟨l, d, rs, f, e, i, j, rfl, hl, hT, hrl, hf, hi, hj, q⟩ := h
    refine ⟨_, (pss_cons (ps_if (pt_not (pt_val (pe_own (ok_is_bracket T) hr (by omega) rfl (pa_cons (pe_ix ix_txt (pv 0) (pv 2) (fun _ _ => rfl)) pa_nil))))
       (pss_one (ps_ret (pe_lst (pa_cons (pe_ix ix_list (pe_ix ix_list (pv 1) (pe_op op_add (pv 2) pe_int) (fun _ _ => rfl)) (pe_op op_sub (pe_op op_sub (pv 3) (pv 2)) pe_int) (fun _ _ => rfl)) pa_nil))))
       pss_nil)
       (pss_cons (ps_set (i := 4) sc_steps_from.nd rfl (Or.inl rfl) (pe_lst (pa_cons (pe_op op_add pe_int (pe_ix ix_list (pe_ix ix_list (pv 1) (pe_op op_add (pv 2) pe_int) (fun _ _ => rfl)) (pe_op op_sub (pe_op op_sub (pv 3) (pv 2)) pe_int) (fun _ _ => rfl))) pa_nil)))
       (pss_cons (ps_for PassesOwn.never rfl (pi_range2 rfl T.b_range (pa_cons (pe_op op_add (pv 2) pe_int) (pa_cons (pv 3) pa_nil))) (pg_name (i := 5) sc_steps_from.nd rfl (Or.inl rfl))
       (pss_one (ps_if (pt_val (pe_own (ok_is_bracket T) hr (by omega) rfl (pa_cons (pe_ix ix_txt (pv 0) (pv 5) (fun _ _ => rfl)) pa_nil)))
       (pss_one (ps_expr (pe_bm PySem.F.plainAttrs_list PySem.F.slot_list_append PySem.F.type_list_append mt_append (pv 4) (pa_cons (pe_op op_add (pe_op op_add (pe_own (ok_turns T) hr (by omega) rfl (pa_cons (pe_ix ix_txt (pv 0) (pv 2) (fun _ _ => rfl)) (pa_cons (pe_ix ix_txt (pv 0) (pv 5) (fun _ _ => rfl)) pa_nil))) (pe_ix ix_list (pe_ix ix_list (pv 1) (pe_op op_add (pv 2) pe_int) (fun _ _ => rfl)) (pe_op op_sub (pe_op op_sub (pv 5) (pv 2)) pe_int) (fun _ _ => rfl))) (pe_ix ix_list (pe_ix ix_list (pv 1) (pe_op op_add (pv 5) pe_int) (fun _ _ => rfl)) (pe_op op_sub (pe_op op_sub (pv 3) (pv 5)) pe_int) (fun _ _ => rfl))) pa_nil))))
       pss_nil)))
       (pss_one (ps_ret (pv 4)))))), ?_⟩
    rw [st_steps_from]
    have e0 : l[i]? = some l[i] := List.getElem?_eq_getElem (by omega)
    have rd : ∀ (H' : Hp), Same H H' → ∀ k m : Nat, i < k → k ≤ m → m ≤ l.length → ∃ r, (rs.map V.ref)[k]? = some (V.ref r) ∧ SqL K H' r (f k) ∧ (f k)[m - k]? = some (V.int (e k m)) := by
      intro H' s k m h1 h2 h3
      obtain ⟨r, _, h5, h6⟩ := (hT.same s).row (k := k) (by omega)
      refine ⟨r, h5, sq_of h6, ?_⟩
      rw [hf k h1 (by omega), rowV_at (by omega), show k + (m - k) = m by omega]
    have hdd : ∀ (H' : Hp), Same H H' → SqL K H' d (rs.map V.ref) := fun H' s => sq_of (hT.same s).hd
    wtm_at "unf"
    wtm_at "gx"
    refine g_ixT (by omega) (atI_of e0) ?_
    refine ⟨_, rfl, ?_⟩
    unfold stepL at q
    rw [e0] at q
    dsimp only at q
    generalize l[i] = c at e0 q
    obtain ⟨r1, h11, h12, h13⟩ := rd H (Same.refl _) (i + 1) j (by omega) (by omega) hj
    by_cases hb : c ∈ BRK
    · rw [if_pos hb] at q
      rw [decide_eq_true hb]
      wtm_at "gx"
      refine g_ixLn (i + 1) (hdd H (Same.refl _)) (by omega) h11 ?_
      wtm_at "gx"
      refine g_ixLn (j - (i + 1)) h12 (by omega) h13 ?_
      wtm_at "gx"
      refine g_lst (by show 1 ≤ 100000; decide) fun p H1 np s1 ep => ?_
      wtm_at "gx"
      refine ⟨_, _, rfl, ⟨by omega, by omega, by omega, by omega⟩, for_rng (fun k σ H' => ∃ y, σ = [some (Tx l), some (V.ref d), some (V.int i), some (V.int j), some (V.ref p), y] ∧ Same H H' ∧ H' p = some (.lst (((1 + e (i + 1) j) :: (List.range k).filterMap (fun t => match l[i + 1 + t]? with | none => none | some d => if d ∈ BRK then some (tns c d + e (i + 1) (i + 1 + t) + e (i + 1 + t + 1) j) else none)).map V.int))) ⟨_, rfl, s1, ep⟩ (fun k σ H' hk hv => ?_) (fun σ H' hv => ?_)⟩
      · obtain ⟨y, rfl, sH, ep2⟩ := hv
        have hk2 : k < j - i - 1 := by omega
        have em : l[i + 1 + k]? = some l[i + 1 + k] := List.getElem?_eq_getElem (by omega)
        generalize hcm : l[i + 1 + k] = m at em
        have hlen : ((1 + e (i + 1) j) :: (List.range k).filterMap (fun t => match l[i + 1 + t]? with | none => none | some d => if d ∈ BRK then some (tns c d + e (i + 1) (i + 1 + t) + e (i + 1 + t + 1) j) else none)).length ≤ k + 1 := by
          rw [List.length_cons]
          have := List.length_filterMap_le (fun t => match l[i + 1 + t]? with | none => none | some d => if d ∈ BRK then some (tns c d + e (i + 1) (i + 1 + t) + e (i + 1 + t + 1) j) else none) (List.range k)
          rw [List.length_range] at this
          omega
        wtm_at "unf"
        wtm_at "gx"
        refine g_ixTn (i + 1 + k) (by omega) (by omega) em ?_
        refine ⟨m, rfl, ?_⟩
        refine g_test (fun hm => ?_) (fun hm => ?_)
        · wtm_at "gx"
          refine g_ixT (by omega) (atI_of e0) ?_
          wtm_at "gx"
          refine g_ixTn (i + 1 + k) (by omega) (by omega) em ?_
          refine ⟨c, m, rfl, hb, hm, ?_⟩
          wtm_at "gx"
          obtain ⟨r2, g1, g2, g3⟩ := rd H' sH (i + 1) (i + 1 + k) (by omega) (by omega) (by omega)
          obtain ⟨r3, k1, k2, k3⟩ := rd H' sH (i + 1 + k + 1) j (by omega) (by omega) hj
          refine g_ixLn (i + 1) (hdd H' sH) (by omega) g1 ?_
          wtm_at "gx"
          refine g_ixLn (i + 1 + k - (i + 1)) g2 (by omega) g3 ?_
          wtm_at "gx"
          refine g_ixLn (i + 1 + k + 1) (hdd H' sH) (by omega) k1 ?_
          wtm_at "gx"
          refine g_ixLn (j - (i + 1 + k + 1)) k2 (by omega) k3 ?_
          wtm_at "gx"
          refine g_append1 ep2 (by rw [List.length_map]; omega) fun H3 b3 e3 => ?_
          refine ⟨_, rfl, Same.b0 b3 sH np, ?_⟩
          rw [e3, List.range_succ, List.filterMap_append, List.filterMap_cons, List.filterMap_nil, em]
          dsimp only
          rw [if_pos hm]
          simp
        · wtm_at "unf"
          refine ⟨_, rfl, sH, ?_⟩
          rw [ep2, List.range_succ, List.filterMap_append, List.filterMap_cons, List.filterMap_nil, em]
          dsimp only
          rw [if_neg hm]
          simp
      · obtain ⟨y, rfl, sH, ep2⟩ := hv
        wtm_at "unf"
        wtm_at "gx"
        refine q p H' np sH ?_
        rw [ep2, show ((j : Int) - ((i : Int) + 1)).toNat = j - i - 1 by omega]
        try rfl
    · rw [if_neg hb] at q
      rw [decide_eq_false hb]
      wtm_at "gx"
      refine g_ixLn (i + 1) (hdd H (Same.refl _)) (by omega) h11 ?_
      wtm_at "gx"
      refine g_ixLn (j - (i + 1)) h12 (by omega) h13 ?_
      refine g_lst (by show 1 ≤ 100000; decide) fun p H1 np s1 ep => ?_
      exact q p H1 np s1 ep
/-! least_table -/
def sp_least_table : Sp := fun vs H Q _ => ∃ l : List Nat, vs = [Tx l] ∧ l.length ≤ 1000 ∧ ∀ (d : Addr) (rs : List Addr) (H' : Hp), Same H H' → (∀ x ∈ d :: rs, H x = none) → rs.length = l.length + 1 → Tab H' d rs (fun k => rowV (fun a b => lstN l a b) k (l.length + 1 - k)) → Q (.ref d) H'
theorem ok_least_table (T : Facts K mg) : C8.Cal P w K mg base 4 "least_table" sp_least_table [] := by
  refine calD T.f_least_table sc_least_table (fun vs H Q E h => ?_) (fun f cdv A outer s H vs Q E hr h => ?_)
  · obtain ⟨l, rfl, hl, q⟩ := h; rfl
  · obtain ⟨l, rfl, hl, q⟩ := h
    refine ⟨_, (pss_cons (ps_set (i := 1) sc_least_table.nd rfl (Or.inl rfl) (pe_callB call_lenT rfl T.b_len PySem.boot_len (pa_cons (pv 0) pa_nil)))
       (pss_cons (ps_setLc (i := 2) (own := [("i", 3)]) (by rfl) sc_least_table.nd rfl rfl (sw_true rfl rfl rfl (by decide +kernel)) (pi_range1 rfl T.b_range (pa_cons (pe_op op_add (pv 1) pe_int) pa_nil)) (blkOk_by (own := [("i", 3)]) (N := N_least_table) (sc := defScope s_least_table) (by decide +kernel)) (fun _ _ _ _ _ => (pg_name (i := 3) sc_least_table.nd rfl (Or.inl rfl))) (fun _ _ _ _ _ => pts_nil) (fun _ _ _ _ _ => (pe_lst (pa_cons pe_int pa_nil))))
       (pss_cons (ps_for PassesOwn.never rfl (pi_range3 rfl T.b_range (pa_cons (pe_op op_sub (pv 1) pe_int) (pa_cons (pe_un un_neg pe_int) (pa_cons (pe_un un_neg pe_int) pa_nil)))) (pg_name (i := 3) sc_least_table.nd rfl (Or.inl rfl))
       (pss_one (ps_for PassesOwn.never rfl (pi_range2 rfl T.b_range (pa_cons (pe_op op_add (pv 3) pe_int) (pa_cons (pe_op op_add (pv 1) pe_int) pa_nil))) (pg_name (i := 4) sc_least_table.nd rfl (Or.inl rfl))
       (pss_one (ps_expr (pe_bm PySem.F.plainAttrs_list PySem.F.slot_list_append PySem.F.type_list_append mt_append (pe_ix ix_list (pv 2) (pv 3) (fun _ _ => rfl)) (pa_cons (pe_callB (cr_min rfl) rfl T.b_min (by decide +kernel) (pa_cons (pe_own (ok_steps_from T) hr (by omega) rfl (pa_cons (pv 0) (pa_cons (pv 2) (pa_cons (pv 3) (pa_cons (pv 4) pa_nil))))) pa_nil)) pa_nil)))))))
       (pss_one (ps_ret (pv 2)))))), ?_⟩
    rw [st_least_table]
    wtm_at "unf"
    wtm_at "gx"
    refine ⟨_, rfl, by omega, by omega, lc_rng fun d H1 nd s1 ed => ⟨fun i H' => ∃ rs : List Addr, rs.length = i ∧ Same H H' ∧ (∀ x ∈ rs, H x = none) ∧ Tab H' d rs (fun _ => [V.int 0]), ⟨[], rfl, s1, by simp, ⟨ed, by simp, by simp, by simp⟩⟩, fun i H' hi hv => ?_, fun H' hv => ?_⟩⟩
    · obtain ⟨rs, hrl, sH, hfr, hT⟩ := hv
      wtm_at "unf"
      refine ⟨rfl, ?_⟩
      refine g_lst (by show 1 ≤ 100000; decide) fun r H2 nr s2 er => ?_
      obtain ⟨f1, f2⟩ := hT.fresh nr
      refine lc_put (s2 _ _ hT.hd) (by rw [List.length_map]; omega) fun H3 b3 e3 => ?_
      refine ⟨rs ++ [r], by simp [hrl], Same.b0 b3 (sH.trans s2) nd, fun x hx => ?_, ?_⟩
      · rcases List.mem_append.mp hx with hx | hx
        · exact hfr x hx
        · rw [List.mem_singleton] at hx
          rw [hx]
          exact sH.free nr
      · refine (Tab.snoc (hT.same s2) (b3 _ _ f1 er) (by rw [e3, List.map_append]; rfl) f2 (Ne.symm f1) (fun q hq o ho => b3 _ _ (fun e => (hT.nin (by rw [← e]; exact hq))) ho)).congr fun k hk => ?_
        split <;> rfl
    · obtain ⟨rs, hrl, sH, hfr, hT⟩ := hv
      have hrl2 : rs.length = l.length + 1 := by omega
      wtm_at "gx"
      refine ⟨_, _, _, l.length, rfl, rgc_dn (by omega), for_dn (fun k σ H' => ∃ y3 y4, σ = [some (Tx l), some (V.int l.length), some (V.ref d), y3, y4] ∧ Same H H' ∧ Tab H' d rs (fun t => rowV (fun a b => lstN l a b) t (if k ≤ t then l.length + 1 - t else 1))) ⟨_, _, rfl, sH, ?_⟩ (fun k σ H' hk hv => ?_) (fun σ H' hv => ?_)⟩
      · refine hT.congr fun k hk => ?_
        have e1 : (if l.length ≤ k then l.length + 1 - k else 1) = 1 := by split <;> omega
        rw [e1]
        show [V.int 0] = [V.int ((lstN l k (k + 0) : Nat) : Int)]
        rw [Nat.add_zero, lstN_self (l := l) (by omega)]
        rfl
      · obtain ⟨y3, y4, rfl, sH2, hT2⟩ := hv
        wtm_at "unf"
        wtm_at "gx"
        obtain ⟨rk, hrk, hrk2, hrk3⟩ := hT2.row (k := k) (by omega)
        have hrkH : H rk = none := hfr rk (List.mem_of_getElem? hrk)
        refine ⟨_, _, rfl, ⟨by omega, by omega, by omega, by omega⟩, for_rng (fun t σ H' => ∃ y4, σ = [some (Tx l), some (V.int l.length), some (V.ref d), some (V.int k), y4] ∧ Same H H' ∧ Tab H' d rs (fun u => rowV (fun a b => lstN l a b) u (if u = k then 1 + t else if k + 1 ≤ u then l.length + 1 - u else 1))) ⟨_, rfl, sH2, ?_⟩ (fun t σ H' ht hv => ?_) (fun σ H' hv => ?_)⟩
        · refine hT2.congr fun u hu => ?_
          congr 1
          by_cases e : u = k
          · rw [if_pos e, if_neg (by omega)]
          · rw [if_neg e]
        · obtain ⟨y4, rfl, sH3, hT3⟩ := hv
          have ht2 : t < l.length - k := by omega
          obtain ⟨rk', hrk', hrk2', hrk3'⟩ := hT3.row (k := k) (by omega)
          have : rk' = rk := by rw [hrk] at hrk'; exact (Option.some.inj hrk').symm
          subst this
          rw [if_pos rfl] at hrk3'
          wtm_at "unf"
          wtm_at "gx"
          refine g_ixLn k (sq_of hT3.hd) (by omega) hrk2' ?_
          wtm_at "gx"
          refine ⟨l, d, rs, _, fun a b => lstN l a b, k, k + 1 + t, ?_, by omega, hT3, hrl2, fun u h1 h2 => ?_, by omega, by omega, fun p H4 np s4 e4 => ?_⟩
          · rw [show ((k + 1 + t : Nat) : Int) = (k : Int) + 1 + (t : Int) by omega]
          · rw [if_neg (by omega), if_pos (by omega)]
          have lf := lst_first (l := l) (i := k) (j := k + 1 + t) (by omega) (by omega)
          refine g_minL (sq_of e4) (fun hq => by rw [hq] at lf; cases lf.1) fun x hx1 hx2 => ?_
          have hx : x = (lstN l k (k + 1 + t) : Int) := Int.le_antisymm (hx2 _ lf.1) (lf.2 _ hx1)
          subst hx
          refine g_append1 (s4 _ _ hrk3') (by rw [rowV_len]; omega) fun H5 b5 e5 => ?_
          refine ⟨_, rfl, Same.b0 b5 (sH3.trans s4) hrkH, ?_⟩
          refine ((hT3.same s4).set hrk b5 e5).congr fun u hu => ?_
          by_cases e : u = k
          · subst e
            rw [if_pos rfl, if_pos rfl, show 1 + (t + 1) = (1 + t) + 1 by omega, rowV_snoc, show u + (1 + t) = u + 1 + t by omega]
          · rw [if_neg e, if_neg e, if_neg e]
        · obtain ⟨y4, rfl, sH3, hT3⟩ := hv
          refine ⟨_, _, rfl, sH3, hT3.congr fun u hu => ?_⟩
          congr 1
          by_cases e : u = k
          · subst e
            rw [if_pos rfl, if_pos (Nat.le_refl _)]
            omega
          · rw [if_neg e]
            by_cases e2 : k + 1 ≤ u
            · rw [if_pos e2, if_pos (by omega)]
            · rw [if_neg e2, if_neg (by omega)]
      · obtain ⟨y3, y4, rfl, sH2, hT2⟩ := hv
        wtm_at "unf"
        wtm_at "gx"
        refine q d rs H' sH2 (fun x hx => ?_) hrl2 (hT2.congr fun k hk => by rw [if_pos (Nat.zero_le _)])
        rcases List.mem_cons.mp hx with rfl | hx
        · exact nd
        · exact hfr x hx
/-! least_number -/
def sp_least_number : Sp := fun vs H Q _ => ∃ l : List Nat, vs = [Tx l] ∧ l.length ≤ 1000 ∧ ∀ H', Same H H' → Q (.int (lstN l 0 l.length)) H'
theorem ok_least_number (T : Facts K mg) : C8.Cal P w K mg base 5 "least_number" sp_least_number [] := by
  refine calD T.f_least_number sc_least_number (fun vs H Q E h => ?_) (fun f cdv A outer s H vs Q E hr h => ?_)
  · obtain ⟨l, rfl, hl, q⟩ := h; rfl
  · obtain ⟨l, rfl, hl, q⟩ := h
    refine ⟨_, (pss_one (ps_ret (pe_ix ix_list (pe_ix ix_list (pe_own (ok_least_table T) hr (by omega) rfl (pa_cons (pv 0) pa_nil)) pe_int (fun _ _ => rfl)) (pe_un un_neg pe_int) (fun _ _ => rfl)))), ?_⟩
    rw [st_least_number]
    wtm_at "unf"
    wtm_at "gx"
    refine ⟨l, rfl, hl, fun d rs H' sH hfr hrl hT => ?_⟩
    obtain ⟨r, h1, h2, h3⟩ := hT.row (k := 0) (by omega)
    refine g_ixLn 0 (sq_of hT.hd) rfl h2 ?_
    wtm_at "gx"
    rw [Nat.sub_zero, rowV_snoc, Nat.zero_add] at h3
    refine g_ixL (sq_of h3) (L2.atI_last _ _) ?_
    exact q _ sH
end
end K27

set_option maxHeartbeats 4000000
namespace K27
open PySem PySem.Spec PyProof.Rows L2 SX Ly
local macro_rules | `(tactic| wtm_at "unf") => `(tactic| (try simp only [tMetX, tOwnX, tChain, tSeq, tNext, tBreak, tCont, tDrop, tRet, tRetN, tIfS, tAsg, tAug, tC, tOp, tUn, tNil, tCons, tOwn, tCB, tTest, tB, tAnd, tOr, tNot, tAndV, tOrV, tNotV, tIf, gName, gSub, tBM, tBM0, tM0, tM1, tSl, tPart_eq, tNoPart, tLst_eq, tTup_eq, tRevL_eq, tReplT, tRevS, tDGet_eq, sDPut_eq, tDNewT_eq, tMet, tMak, tFld_eq, sFld_eq, C8.tCut, wipe, tYes, gTup, gCons, gNil, List.set_cons_zero, List.set_cons_succ, if_true, if_false, Bool.false_eq_true, Bool.not_true, Bool.not_false, true_and, reduceIte, cx_K, tFor_eq, tLc_eq, iStr, iList, iTup, iRng1, iRng2, iRng3, iEnum, iZip, iEnumS, iZipS]))
local macro_rules | `(tactic| wtm_at "ne") => `(tactic| first | assumption | (apply Ne.symm; assumption) | (apply ne_new; (· assumption); (· wtm_at "lk")) | (apply Ne.symm; apply ne_new; (· assumption); (· wtm_at "lk")))
local macro_rules | `(tactic| wtm_at "lk") => `(tactic| first | assumption | exact upd_same | (apply Same.get; (· assumption); (· wtm_at "lk")) | (apply But.get; (· assumption); (· wtm_at "ne"); (· wtm_at "lk")))
local macro_rules | `(tactic| wtm_at "sq") => `(tactic| first | assumption | (apply sq_of; wtm_at "lk") | (apply Same.seq; (· assumption); (· wtm_at "sq")) | (apply But.sq; (· assumption); (· wtm_at "ne"); (· wtm_at "sq")))
local macro_rules | `(tactic| wtm_at "fr") => `(tactic| first | assumption | (apply Same.fr; (· assumption); (· wtm_at "sm")) | (apply But.fr; (· assumption); (· wtm_at "sm"); (· wtm_at "ne")))
local macro_rules | `(tactic| wtm_at "sm") => `(tactic| first | exact Same.refl _ | exact But.refl | assumption | (apply Same.tr; (· assumption); (· wtm_at "sm")) | (apply Same.b0; (· assumption); (· wtm_at "sm"); (· wtm_at "fr")) | (apply But.sa; (· assumption); (· wtm_at "sm")) | (apply But.tr; (· assumption); (· wtm_at "sm")) | (apply But.b0; (· assumption); (· wtm_at "sm"); (· wtm_at "fr")) | (apply Same.toBut; wtm_at "sm"))
local macro_rules | `(tactic| wtm_at "sc") => `(tactic| first | exact Int.zero_lt_one | (show (0 : Int) < _; omega) | (show (0 : Int) < _; decide) | exact ⟨by omega, by omega⟩ | exact .inl ⟨by omega, by omega⟩ | exact .inr ⟨by omega, by omega⟩)
local macro_rules | `(tactic| wtm_at "go1") => `(tactic| first | ((with_reducible apply g_var); (· exact rfl)) | with_reducible apply g_I0 | ((with_reducible apply g_I); (· wtm_at "sc")) | with_reducible apply g_U | with_reducible apply g_ipI | ((with_reducible apply g_addT); (· first | omega | (simp; done) | (simp; omega))) | with_reducible apply g_inT | with_reducible apply g_ninT | ((with_reducible apply g_lenT); (· omega)) | with_reducible apply g_findT1 | with_reducible apply g_str | with_reducible apply g_part | with_reducible apply g_intB | ((with_reducible apply g_ixL); (· wtm_at "sq"); (· exact rfl)) | ((with_reducible apply g_setL); (· wtm_at "lk"); (· exact rfl)) | ((with_reducible apply g_eq); (· rfl)) | ((with_reducible apply g_ne); (· rfl)))
local macro_rules | `(tactic| wtm_at "go") => `(tactic| repeat wtm_at "go1")
local macro_rules | `(tactic| wtm_at "lp") => `(tactic| skip)
local macro_rules | `(tactic| wtm_at "om") => `(tactic| first | omega | (simp; done) | (simp; omega) | (simp at *; omega))
local macro_rules | `(tactic| wtm_at "ty") => `(tactic| first | exact ty_str | exact ty_int | exact ty_bl | exact ty_non | (apply ty_lst; wtm_at "lk") | (apply ty_tup; wtm_at "lk"))
local macro_rules | `(tactic| wtm_at "kb") => `(tactic| first | exact kb_str_str | exact kb_str_int | exact kb_str_bool | exact kb_str_list | exact kb_str_tuple | exact kb_int_str | exact kb_int_int | exact kb_int_bool | exact kb_int_list | exact kb_int_tuple | exact kb_bool_str | exact kb_bool_int | exact kb_bool_bool | exact kb_bool_list | exact kb_bool_tuple | exact kb_list_str | exact kb_list_int | exact kb_list_bool | exact kb_list_list | exact kb_list_tuple | exact kb_tuple_str | exact kb_tuple_int | exact kb_tuple_bool | exact kb_tuple_list | exact kb_tuple_tuple | exact kb_NoneType_str | exact kb_NoneType_int | exact kb_NoneType_bool | exact kb_NoneType_list | exact kb_NoneType_tuple | exact kb_dict_str | exact kb_dict_int | exact kb_dict_bool | exact kb_dict_list | exact kb_dict_tuple)
local macro_rules | `(tactic| wtm_at "gx1") => `(tactic| first | ((with_reducible apply g_eqS); (· exact rfl)) | ((with_reducible apply g_neS); (· exact rfl)) | wtm_at "go1" | with_reducible apply g_min2 | with_reducible apply g_max2 | with_reducible apply g_T | with_reducible apply g_F | with_reducible apply g_NT | with_reducible apply g_NF | with_reducible apply g_nT | with_reducible apply g_nF | with_reducible apply g_RT | with_reducible apply g_RF | ((with_reducible apply g_isi); (· wtm_at "ty"); (· wtm_at "kb")) | ((with_reducible apply g_ixAU3); (· wtm_at "lk"); (· exact rfl)) | ((with_reducible apply g_ixAL3); (· wtm_at "lk"); (· exact rfl)) | ((with_reducible apply g_ixU3); (· wtm_at "lk"); (· exact rfl)) | ((with_reducible apply g_lenL3); (· wtm_at "lk")) | ((with_reducible apply g_lenU3); (· wtm_at "lk")) | ((with_reducible apply g_tyL3); (· wtm_at "lk")) | ((with_reducible apply g_lenT); (· wtm_at "pv")) | wtm_at "tr" | with_reducible apply g_ET | with_reducible apply g_EF | with_reducible apply g_EnT | with_reducible apply g_EnF)
local macro_rules | `(tactic| wtm_at "pv") => `(tactic| first | exact rfl | assumption | omega | (simp; done) | (simp; omega))
local macro_rules | `(tactic| wtm_at "tr") => `(tactic| first | ((with_reducible apply g_Td); (· wtm_at "pv")) | ((with_reducible apply g_Fd); (· wtm_at "pv")) | ((with_reducible apply g_NTd); (· wtm_at "pv")) | ((with_reducible apply g_NFd); (· wtm_at "pv")) | ((with_reducible apply g_nTd); (· wtm_at "pv")) | ((with_reducible apply g_nFd); (· wtm_at "pv")) | ((with_reducible apply g_RTd); (· wtm_at "pv")) | ((with_reducible apply g_RFd); (· wtm_at "pv")))
local macro_rules | `(tactic| wtm_at "gx") => `(tactic| repeat wtm_at "gx1")

section
variable {P : Program} {w : World} {K : PySem.W.Frag} {mg : Str → Option Value} {base : Heap}
structure WaysG (K : PySem.W.Frag) (H : Hp) (p : Addr) (l : List Nat) (W : Wd) (cd kd : Addr) (crs krs : List Addr) (fc fk : Nat → List V) : Prop where
  ob : ∃ dx wd, H p = some (.ins (He.ga K "Ways") dx (wfl l wd cd kd)) ∧ WdIs K H wd W
  c : Tab H cd crs fc
  k : Tab H kd krs fk
  sep : ∀ x ∈ cd :: crs, x ∉ kd :: krs
theorem WaysG.same {K : PySem.W.Frag} {H H' : Hp} {p : Addr} {l : List Nat} {W : Wd} {cd kd : Addr} {crs krs : List Addr} {fc fk : Nat → List V} (G : WaysG K H p l W cd kd crs krs fc fk) (s : Same H H') : WaysG K H' p l W cd kd crs krs fc fk := by
  obtain ⟨dx, wd, h1, h2⟩ := G.ob
  exact ⟨⟨dx, wd, s _ _ h1, h2.same s⟩, G.c.same s, G.k.same s, G.sep⟩
theorem WaysG.butL {K : PySem.W.Frag} {H H' : Hp} {p q : Addr} {l : List Nat} {W : Wd} {cd kd : Addr} {crs krs : List Addr} {fc fk : Nat → List V} {ys : List V} (G : WaysG K H p l W cd kd crs krs fc fk) (s : But q H H') (hq : H q = some (.lst ys)) (h1 : q ∉ cd :: crs) (h2 : q ∉ kd :: krs) : WaysG K H' p l W cd kd crs krs fc fk := by
  obtain ⟨dx, wd, g1, g2⟩ := G.ob
  rw [List.mem_cons, not_or] at h1 h2
  exact ⟨⟨dx, wd, s _ _ (fun e => by rw [e, hq] at g1; cases g1) g1, g2.but s hq⟩, G.c.but s h1.1 h1.2, G.k.but s h2.1 h2.2, G.sep⟩
theorem WaysG.fresh {K : PySem.W.Frag} {H : Hp} {p q : Addr} {l : List Nat} {W : Wd} {cd kd : Addr} {crs krs : List Addr} {fc fk : Nat → List V} (G : WaysG K H p l W cd kd crs krs fc fk) (h : H q = none) : q ∉ cd :: crs ∧ q ∉ kd :: krs := by
  have h1 := G.c.fresh h
  have h2 := G.k.fresh h
  rw [List.mem_cons, List.mem_cons, not_or, not_or]
  exact ⟨h1, h2⟩
/-- entry (a, b) of both tables tells x -/
def Ent (fc fk : Nat → List V) (a b : Nat) (x : MC) : Prop := (fc b)[a]? = some (cV x) ∧ (fk b)[a]? = some (nV x)
section
variable {P : Program} {w : World} {K : PySem.W.Frag} {mg : Str → Option Value} {H : Hp} {p : Addr} {l : List Nat} {W : Wd} {cd kd : Addr} {crs krs : List Addr} {fc fk : Nat → List V} {Q : VK} {A : Prop}
theorem g_wsig (T : Facts K mg) (G : WaysG K H p l W cd kd crs krs fc fk) (q : Q (Tx l) H) : rFld K "signs" (.ref p) H Q := by
  obtain ⟨dx, wd, h1, h2⟩ := G.ob
  exact g_fld h1 T.cl_Ways T.n_Ways_signs (wfl_signs ..) q
theorem g_wcost (T : Facts K mg) (G : WaysG K H p l W cd kd crs krs fc fk) (q : Q (.ref cd) H) : rFld K "costs" (.ref p) H Q := by
  obtain ⟨dx, wd, h1, h2⟩ := G.ob
  exact g_fld h1 T.cl_Ways T.n_Ways_costs (wfl_costs ..) q
theorem g_wcount (T : Facts K mg) (G : WaysG K H p l W cd kd crs krs fc fk) (q : Q (.ref kd) H) : rFld K "counts" (.ref p) H Q := by
  obtain ⟨dx, wd, h1, h2⟩ := G.ob
  exact g_fld h1 T.cl_Ways T.n_Ways_counts (wfl_counts ..) q
theorem g_wword (T : Facts K mg) (G : WaysG K H p l W cd kd crs krs fc fk) (q : ∀ wd, WdIs K H wd W → Q wd H) : rFld K "words" (.ref p) H Q := by
  obtain ⟨dx, wd, h1, h2⟩ := G.ob
  exact g_fld h1 T.cl_Ways T.n_Ways_words (wfl_words ..) (q wd h2)
theorem g_wmet {m : Str} (G : WaysG K H p l W cd kd crs krs fc fk) (hm : ∀ l wd cd kd, (wfl l wd cd kd).lookup m = none) (q : A) : rMetO (He.ga K "Ways") m (.ref p) H A := by
  obtain ⟨dx, wd, h1, h2⟩ := G.ob
  exact g_met h1 (hm _ _ _ _) q
theorem g_inPut {wd : V} (h : WdIs K H wd W) (q : Q (.bl W.pt) H) : rIn K false (Tx [112, 117, 116]) wd H Q := by
  obtain ⟨a, xs, h1, h2, h3, h4, h5, h6⟩ := h
  exact ⟨a, xs, h1, .inr h2, rfl, h3, by rw [if_neg Bool.false_ne_true, h4]; exact q⟩
theorem g_inStrike {wd : V} (h : WdIs K H wd W) (q : Q (.bl W.st) H) : rIn K false (Tx [115, 116, 114, 105, 107, 101]) wd H Q := by
  obtain ⟨a, xs, h1, h2, h3, h4, h5, h6⟩ := h
  exact ⟨a, xs, h1, .inr h2, rfl, h3, by rw [if_neg Bool.false_ne_true, h5]; exact q⟩
theorem g_inTurn {wd : V} (h : WdIs K H wd W) (q : Q (.bl W.tn) H) : rIn K false (Tx [116, 117, 114, 110]) wd H Q := by
  obtain ⟨a, xs, h1, h2, h3, h4, h5, h6⟩ := h
  exact ⟨a, xs, h1, .inr h2, rfl, h3, by rw [if_neg Bool.false_ne_true, h6]; exact q⟩
end
theorem two_pow_lt {a : Nat} (h : a ≤ 4) : ((a : Int)).natAbs < 2 ^ 3 := by omega
/-! is_letter -/
def sp_is_letter : Sp := fun vs H Q _ => ∃ c : Nat, vs = [Tx [c]] ∧ Q (.bl (decide (c ∉ BRK))) H
theorem ok_is_letter (T : Facts K mg) : C8.Cal P w K mg base 1 "is_letter" sp_is_letter [] := by
  refine calD T.f_is_letter sc_is_letter (fun vs H Q E h => ?_) (fun f cdv A outer s H vs Q E hr h => ?_)
  · obtain ⟨c, rfl, q⟩ := h; rfl
  · obtain ⟨c, rfl, q⟩ := h
    refine ⟨_, (pss_one (ps_ret (pe_and (pe_cmpR op_notInT (pv 0) (C8.pe_gc rfl T.c_OPENING) (by rfl)) (pe_one (pe_cmpR op_notInT (pv 0) (C8.pe_gc rfl T.c_CLOSING) (by rfl)))))), ?_⟩
    rw [st_is_letter]
    wtm_at "unf"
    wtm_at "gx"
    refine g_testN (fun h => ?_) (fun h => ?_)
    · wtm_at "gx"
      have e : decide (¬ c ∈ BRK) = !decide (c ∈ CLO) := by
        by_cases h2 : c ∈ CLO
        · rw [decide_eq_true h2, decide_eq_false (show ¬ ¬ c ∈ BRK from fun hq => hq (brk_or.mpr (.inr h2)))]; rfl
        · rw [decide_eq_false h2, decide_eq_true (show ¬ c ∈ BRK from fun hb => (brk_or.mp hb).elim h h2)]; rfl
      rw [e] at q
      exact q
    · rw [decide_eq_false (show ¬ ¬ c ∈ BRK from fun hq => hq (brk_or.mpr (.inl h)))] at q
      exact q
/-! fewest_turns -/
def sp_fewest_turns : Sp := fun vs H Q _ => ∃ c d : Nat, vs = [Tx [c], Tx [d]] ∧ c ∈ BRK ∧ d ∈ BRK ∧ ∀ (t : Addr) (H' : Hp), H t = none → Same H H' → H' t = some (.tup [.int (few c d).1, .int (few c d).2]) → Q (.ref t) H'
theorem ok_fewest_turns (T : Facts K mg) : C8.Cal P w K mg base 2 "fewest_turns" sp_fewest_turns [] := by
  refine calD T.f_fewest_turns sc_fewest_turns (fun vs H Q E h => ?_) (fun f cdv A outer s H vs Q E hr h => ?_)
  · obtain ⟨c, d, rfl, hc, hd, q⟩ := h; rfl
  · obtain ⟨c, d, rfl, hc, hd, q⟩ := h
    refine ⟨_, (pss_cons (ps_ifC (PW.pt (pw_and (pt_cmpR op_inT (pv 0) (C8.pe_gc rfl T.c_OPENING) (by rfl)) (pw_and1 (pt_cmpR op_inT (pv 1) (C8.pe_gc rfl T.c_CLOSING) (by rfl)))))
       (pss_cons (ps_set (i := 2) sc_fewest_turns.nd rfl (Or.inl rfl) (pe_callTy call_intB rfl T.b_int (by decide +kernel) (pa_cons (pe_cmpR op_ne (pe_own (ok_kind_of T) hr (by omega) rfl (pa_cons (pv 0) pa_nil)) (pe_own (ok_kind_of T) hr (by omega) rfl (pa_cons (pv 1) pa_nil)) (nomark _)) pa_nil)))
       (pss_one (ps_ret (pe_tup (pa_cons (pv 2) (pa_cons (pe_op op_add pe_int (pv 2)) pa_nil))))))
       pss_nil)
       (pss_cons (ps_ifC (PW.pt (pw_and (pt_cmpR op_inT (pv 0) (C8.pe_gc rfl T.c_CLOSING) (by rfl)) (pw_and1 (pt_cmpR op_inT (pv 1) (C8.pe_gc rfl T.c_OPENING) (by rfl)))))
       (pss_one (ps_ret (pe_tup (pa_cons pe_int (pa_cons (pe_callB call_lenT rfl T.b_len PySem.boot_len (pa_cons (C8.pe_gc rfl T.c_OPENING) pa_nil)) pa_nil)))))
       pss_nil)
       (pss_one (ps_ret (pe_tup (pa_cons pe_int (pa_cons pe_int pa_nil))))))), ?_⟩
    rw [st_fewest_turns]
    unfold few at q
    wtm_at "unf"
    refine g_ifC (b := decide (c ∈ OPN ∧ d ∈ CLO)) (fun Q q => ?_) (fun h => ?_) (fun h => ?_)
    · wtm_at "unf"
      wtm_at "gx"
      refine g_test (fun h1 => ?_) (fun h1 => ?_)
      · wtm_at "gx"
        refine ⟨_, rfl, ?_⟩
        rw [show decide (c ∈ OPN ∧ d ∈ CLO) = decide (d ∈ CLO) from decide_eq_decide.mpr ⟨fun z => z.2, fun z => ⟨h1, z⟩⟩] at q
        exact q
      · rw [decide_eq_false (fun z => h1 z.1)] at q
        exact q
    · have h' := of_decide_eq_true h
      rw [if_pos h'] at q
      wtm_at "unf"
      wtm_at "gx"
      refine ⟨c, rfl, hc, ?_⟩
      wtm_at "gx"
      refine ⟨d, rfl, hd, ?_⟩
      wtm_at "gx"
      refine g_tup (by show 2 ≤ 100000; decide) fun t H1 nt s1 et => q t H1 nt s1 ?_
      rw [et]
      by_cases h3 : knd c = knd d
      · rw [if_pos h3, decide_eq_true (by rw [h3])]
        rfl
      · rw [if_neg h3, decide_eq_false (fun hq => h3 (by have := V.int.inj hq; omega))]
        rfl
    · have h' := of_decide_eq_false h
      rw [if_neg h'] at q
      wtm_at "unf"
      refine g_ifC (b := decide (c ∈ CLO ∧ d ∈ OPN)) (fun Q q => ?_) (fun h => ?_) (fun h => ?_)
      · wtm_at "unf"
        wtm_at "gx"
        refine g_test (fun h1 => ?_) (fun h1 => ?_)
        · wtm_at "gx"
          refine ⟨_, rfl, ?_⟩
          rw [show decide (c ∈ CLO ∧ d ∈ OPN) = decide (d ∈ OPN) from decide_eq_decide.mpr ⟨fun z => z.2, fun z => ⟨h1, z⟩⟩] at q
          exact q
        · rw [decide_eq_false (fun z => h1 z.1)] at q
          exact q
      · rw [if_pos (of_decide_eq_true h)] at q
        wtm_at "unf"
        wtm_at "gx"
        refine g_lenT (by decide) ?_
        refine g_tup (by show 2 ≤ 100000; decide) fun t H1 nt s1 et => q t H1 nt s1 et
      · rw [if_neg (of_decide_eq_false h)] at q
        wtm_at "unf"
        wtm_at "gx"
        refine g_tup (by show 2 ≤ 100000; decide) fun t H1 nt s1 et => q t H1 nt s1 et
/-! Ways.count -/
def sp_Ways_count (K : PySem.W.Frag) : Sp := fun vs H Q _ => ∃ (p : Addr) (i j : Nat) (l : List Nat) (W : Wd) (cd kd : Addr) (crs krs : List Addr) (fc fk : Nat → List V) (v : V), vs = [.ref p, .int i, .int j] ∧ WaysG K H p l W cd kd crs krs fc fk ∧ j < krs.length ∧ (fk j)[i]? = some v ∧ Q v H
theorem ok_Ways_count (T : Facts K mg) : C8.Met P w K mg base 1 (He.ga K "Ways") "count" (sp_Ways_count K) [] := by
  refine metD T.m_Ways_count sc_Ways_count (fun vs H Q E h => ?_) (fun f cdv A outer s H vs Q E hr h => ?_)
  · obtain ⟨p, i, j, l, W, cd, kd, crs, krs, fc, fk, v, rfl, hG, hj, hv, q⟩ := h; rfl
  · obtain ⟨p, i, j, l, W, cd, kd, crs, krs, fc, fk, v, rfl, hG, hj, hv, q⟩ := h
    refine ⟨_, (pss_one (ps_ret (pe_ix ix_list (pe_ix ix_list (pe_fld (pv 0) rfl) (pv 2) (fun _ _ => rfl)) (pv 1) (fun _ _ => rfl)))), ?_⟩
    rw [st_Ways_count]
    wtm_at "unf"
    wtm_at "gx"
    refine g_wcount T hG ?_
    wtm_at "gx"
    obtain ⟨r, h1, h2, h3⟩ := hG.k.row hj
    refine g_ixLn j (sq_of hG.k.hd) rfl h2 ?_
    wtm_at "gx"
    exact g_ixLn i (sq_of h3) rfl hv q
/-! Ways.note -/
def sp_Ways_note (K : PySem.W.Frag) : Sp := fun vs H Q _ => ∃ (p fa : Addr) (nm mn b m j : Nat) (l : List Nat) (W : Wd) (cd kd : Addr) (crs krs : List Addr) (fc fk : Nat → List V) (xs : List (Nat × Nat)) (x y : MC), vs = [.ref p, .ref fa, .int nm, .int mn, .int b, .int m, .int j] ∧ WaysG K H p l W cd kd crs krs fc fk ∧ Prs H fa xs ∧ fa ∉ cd :: crs ∧ fa ∉ kd :: krs ∧ m < crs.length ∧ m < krs.length ∧ j < crs.length ∧ j < krs.length ∧ Ent fc fk b m x ∧ Ent fc fk (min (m + 1) j) j y ∧ mn ≤ 4 ∧ cnt x < 2 ^ 16001 ∧ cnt y < 2 ^ 16001 ∧ xs.length < 90000 ∧ ∀ H', But fa H H' → Prs H' fa (xs ++ (m3 (some (nm, mn)) x y).toList) → Q .non H'
theorem ok_Ways_note (T : Facts K mg) : C8.Met P w K mg base 1 (He.ga K "Ways") "note" (sp_Ways_note K) [] := by
  refine metD T.m_Ways_note sc_Ways_note (fun vs H Q E h => ?_) (fun f cdv A outer s H vs Q E hr h => ?_)
  · obtain ⟨p, fa, nm, mn, b, m, j, l, W, cd, kd, crs, krs, fc, fk, xs, x, y, rfl, hG, hP, hfa1, hfa2, hm, hm2, hj, hj2, hx, hy, hmn, hcx, hcy, hxl, q⟩ := h; rfl
  · obtain ⟨p, fa, nm, mn, b, m, j, l, W, cd, kd, crs, krs, fc, fk, xs, x, y, rfl, hG, hP, hfa1, hfa2, hm, hm2, hj, hj2, hx, hy, hmn, hcx, hcy, hxl, q⟩ := h
    refine ⟨_, (pss_cons (ps_set (i := 7) sc_Ways_note.nd rfl (Or.inl rfl) (pe_callB (call_min2' rfl) rfl T.b_min (by decide +kernel) (pa_cons (pe_op op_add (pv 5) pe_int) (pa_cons (pv 6) pa_nil))))
       (pss_cons (ps_set (i := 8) sc_Ways_note.nd rfl (Or.inl rfl) (pe_ix ix_list (pe_ix ix_list (pe_fld (pv 0) rfl) (pv 5) (fun _ _ => rfl)) (pv 4) (fun _ _ => rfl)))
       (pss_cons (ps_set (i := 9) sc_Ways_note.nd rfl (Or.inl rfl) (pe_ix ix_list (pe_ix ix_list (pe_fld (pv 0) rfl) (pv 6) (fun _ _ => rfl)) (pv 7) (fun _ _ => rfl)))
       (pss_one (ps_ifC (PW.pt (pw_and (pt_cmpR op_notN (pv 8) pe_non (nomark _)) (pw_and1 (pt_cmpR op_notN (pv 9) pe_non (nomark _)))))
       (pss_one (ps_expr (pe_bm PySem.F.plainAttrs_list PySem.F.slot_list_append PySem.F.type_list_append mt_append (pv 1) (pa_cons (pe_tup (pa_cons (pe_op op_add (pe_op op_add (pv 2) (pv 8)) (pv 9)) (pa_cons (pe_op op_mulW (pe_op op_mulW (pv 3) (pe_ix ix_list (pe_ix ix_list (pe_fld (pv 0) rfl) (pv 5) (fun _ _ => rfl)) (pv 4) (fun _ _ => rfl))) (pe_ix ix_list (pe_ix ix_list (pe_fld (pv 0) rfl) (pv 6) (fun _ _ => rfl)) (pv 7) (fun _ _ => rfl))) pa_nil))) pa_nil))))
       pss_nil))))), ?_⟩
    rw [st_Ways_note]
    obtain ⟨rm, hm1, hm2', hm3⟩ := hG.c.row hm
    obtain ⟨rj, hj1, hj2', hj3⟩ := hG.c.row hj
    obtain ⟨km, gm1, gm2, gm3⟩ := hG.k.row hm2
    obtain ⟨kj, gj1, gj2, gj3⟩ := hG.k.row hj2
    wtm_at "unf"
    wtm_at "gx"
    rw [show min ((m : Int) + 1) (j : Int) = ((min (m + 1) j : Nat) : Int) by omega]
    refine g_wcost T hG ?_
    wtm_at "gx"
    refine g_ixLn m (sq_of hG.c.hd) rfl hm2' ?_
    wtm_at "gx"
    refine g_ixLn b (sq_of hm3) rfl hx.1 ?_
    wtm_at "gx"
    refine g_wcost T hG ?_
    wtm_at "gx"
    refine g_ixLn j (sq_of hG.c.hd) rfl hj2' ?_
    wtm_at "gx"
    refine g_ixLn (min (m + 1) j) (sq_of hj3) rfl hy.1 ?_
    cases x with
    | none =>
      refine g_ifC (b := false) (fun Q q => ?_) (fun h => ?_) (fun h => ?_)
      · wtm_at "unf"
        wtm_at "gx"
        exact q
      · cases h
      · refine q H But.refl ?_
        rw [m3, mMul_none]
        show Prs H fa (xs ++ [])
        rw [List.append_nil]
        exact hP
    | some x =>
    rw [show cV (some x) = V.int x.1 from rfl]
    cases y with
    | none =>
      rw [show cV none = V.non from rfl]
      refine g_ifC (b := false) (fun Q q => ?_) (fun h => ?_) (fun h => ?_)
      · wtm_at "unf"
        wtm_at "gx"
        refine ⟨_, rfl, ?_⟩
        rw [decide_eq_true rfl]
        exact q
      · cases h
      · refine q H But.refl ?_
        rw [m3, mMul_none]
        show Prs H fa (xs ++ [])
        rw [List.append_nil]
        exact hP
    | some y =>
      rw [show cV (some y) = V.int y.1 from rfl]
      have hx2 : (fk m)[b]? = some (V.int x.2) := hx.2
      have hy2 : (fk j)[min (m + 1) j]? = some (V.int y.2) := hy.2
      have hbx : ((x.2 : Nat) : Int).natAbs < 2 ^ 16001 := by rw [Int.natAbs_natCast]; exact hcx
      have hby : ((y.2 : Nat) : Int).natAbs < 2 ^ 16001 := by rw [Int.natAbs_natCast]; exact hcy
      refine g_ifC (b := true) (fun Q q => ?_) (fun h => ?_) (fun h => ?_)
      · wtm_at "unf"
        wtm_at "gx"
        refine ⟨_, rfl, ?_⟩
        rw [decide_eq_false (fun h => nomatch h)]
        exact q
      · obtain ⟨rsP, hP1, hP2, hP3⟩ := id hP
        wtm_at "unf"
        wtm_at "gx"
        refine g_wcount T hG ?_
        wtm_at "gx"
        refine g_ixLn m (sq_of hG.k.hd) rfl gm2 ?_
        wtm_at "gx"
        refine g_ixLn b (sq_of gm3) rfl hx2 ?_
        refine g_I (wide_mul (a := 3) (b := 16001) (two_pow_lt hmn) hbx (by decide) (by decide) (by decide)) ?_
        wtm_at "gx"
        refine g_wcount T hG ?_
        wtm_at "gx"
        refine g_ixLn j (sq_of hG.k.hd) rfl gj2 ?_
        wtm_at "gx"
        refine g_ixLn (min (m + 1) j) (sq_of gj3) rfl hy2 ?_
        refine g_I (wide_mul (a := 16004) (b := 16001) (wide_lt (a := 3) (b := 16001) (two_pow_lt hmn) hbx) hby (by decide) (by decide) (by decide)) ?_
        refine g_tup (by show 2 ≤ 100000; decide) fun t H1 nt s1 et => ?_
        refine g_append1 (s1 _ _ hP1) (by rw [List.length_map]; omega) fun H2 b2 e2 => ?_
        refine q H2 (Same.but s1 b2) ?_
        refine Prs.snoc (t := t) (x := ((nm + x.1) + y.1, (mn * x.2) * y.2)) (hP.same s1) ?_ b2 fun rs' h' => ?_
        · rw [et]
          simp
        · have := (s1 _ _ hP1).symm.trans h'
          injection this with this
          injection this with this
          rw [e2, this]
      · cases h
/-! Ways.note_puts -/
def sp_Ways_note_puts (K : PySem.W.Frag) : Sp := fun vs H Q _ => ∃ (p fa : Addr) (i j : Nat) (l : List Nat) (W : Wd) (cd kd : Addr) (crs krs : List Addr) (fc fk : Nat → List V) (xs : List (Nat × Nat)), vs = [.ref p, .ref fa, .int i, .int j] ∧ WaysG K H p l W cd kd crs krs fc fk ∧ Prs H fa xs ∧ fa ∉ cd :: crs ∧ fa ∉ kd :: krs ∧ i < j ∧ j ≤ l.length ∧ l.length ≤ 1000 ∧ crs.length = l.length + 1 ∧ krs.length = l.length + 1 ∧ (∀ a b, i ≤ a → a ≤ b → b ≤ j → b - a < j - i → Ent fc fk a b (mcN l W a b)) ∧ W.pt = true ∧ (∀ a b, a ≤ b → b ≤ l.length → mcN l W a b ≠ none) ∧ xs.length ≤ 2000 ∧ ∀ (ys : List (Nat × Nat)) (H' : Hp), But fa H H' → Prs H' fa (xs ++ ys) → totL ys = mAdd (sm (fun t => m3 (opM l W i) (mcN l W (i + 1) (i + 1 + t)) (mcN l W (i + 1 + t) j)) (j - i)) (sm (fun t => m3 (clM l W (i + t)) (mcN l W i (i + t)) (mcN l W (i + t + 1) j)) (j - i)) → ys.length ≤ 2 * (j - i) → Q .non H'
theorem ok_Ways_note_puts (T : Facts K mg) : C8.Met P w K mg base 2 (He.ga K "Ways") "note_puts" (sp_Ways_note_puts K) [] := by
  refine metD T.m_Ways_note_puts sc_Ways_note_puts (fun vs H Q E h => ?_) (fun f cdv A outer s H vs Q E hr h => ?_)
  · obtain ⟨p, fa, i, j, l, W, cd, kd, crs, krs, fc, fk, xs, rfl, hG, hP, hfa1, hfa2, hi, hj, hjl, hcl, hkl, hE, hW, hN, hxl, q⟩ := h; rfl
  · obtain ⟨p, fa, i, j, l, W, cd, kd, crs, krs, fc, fk, xs, rfl, hG, hP, hfa1, hfa2, hi, hj, hjl, hcl, hkl, hE, hW, hN, hxl, q⟩ := h
    refine ⟨_, (C8.pss_cut (ps_if (pt_cmpR op_inT (pe_ix ix_txt (pe_fld (pv 0) rfl) (pv 2) (fun _ _ => rfl)) (C8.pe_gc rfl T.c_OPENING) (by rfl))
       (pss_one (ps_for PassesOwn.never rfl (pi_range2 rfl T.b_range (pa_cons (pe_op op_add (pv 2) pe_int) (pa_cons (pe_op op_add (pv 3) pe_int) pa_nil))) (pg_name (i := 4) sc_Ways_note_puts.nd rfl (Or.inl rfl))
       (pss_cons (ps_set (i := 5) sc_Ways_note_puts.nd rfl (Or.inl rfl) (pe_op op_add (pe_op op_add pe_int (pe_ix ix_list (pe_ix ix_list (pe_fld (pv 0) rfl) (pv 4) (fun _ _ => rfl)) (pe_op op_add (pv 2) pe_int) (fun _ _ => rfl))) (pe_ix ix_list (pe_ix ix_list (pe_fld (pv 0) rfl) (pv 3) (fun _ _ => rfl)) (pv 4) (fun _ _ => rfl))))
       (pss_one (ps_expr (pe_bm PySem.F.plainAttrs_list PySem.F.slot_list_append PySem.F.type_list_append mt_append (pv 1) (pa_cons (pe_tup (pa_cons (pv 5) (pa_cons (pe_op op_mulW (pe_ix ix_list (pe_ix ix_list (pe_fld (pv 0) rfl) (pv 4) (fun _ _ => rfl)) (pe_op op_add (pv 2) pe_int) (fun _ _ => rfl)) (pe_ix ix_list (pe_ix ix_list (pe_fld (pv 0) rfl) (pv 3) (fun _ _ => rfl)) (pv 4) (fun _ _ => rfl))) pa_nil))) pa_nil)))))))
       pss_nil)
       (pss_one (ps_for PassesOwn.never rfl (pi_range2 rfl T.b_range (pa_cons (pv 2) (pa_cons (pv 3) pa_nil))) (pg_name (i := 4) sc_Ways_note_puts.nd rfl (Or.inl rfl))
       (pss_one (ps_if (pt_cmpR op_inT (pe_ix ix_txt (pe_fld (pv 0) rfl) (pv 4) (fun _ _ => rfl)) (C8.pe_gc rfl T.c_CLOSING) (by rfl))
       (pss_one (ps_expr (pe_met (ok_Ways_note T) hr (by omega) (pv 0) (pa_cons (pv 1) (pa_cons pe_int (pa_cons pe_int (pa_cons (pv 2) (pa_cons (pv 4) (pa_cons (pv 3) pa_nil)))))))))
       pss_nil))))), ?_⟩
    rw [st_Ways_note_puts]
    have hcn : ∀ a b, a ≤ b → b ≤ j → cnt (mcN l W a b) < 2 ^ 16001 := fun a b h1 h2 => mcN_big h1 (by omega)
    have hsg : l[i]? = some l[i] := List.getElem?_eq_getElem (by omega)
    have hnn : ∀ a b, a ≤ b → b ≤ j → ∃ x : Nat × Nat, mcN l W a b = some x := fun a b h1 h2 => Option.ne_none_iff_exists'.mp (hN a b h1 (by omega))
    have rdc : ∀ (H' : Hp), WaysG K H' p l W cd kd crs krs fc fk → ∀ a b, i ≤ a → a ≤ b → b ≤ j → b - a < j - i → ∃ r r2, (crs.map V.ref)[b]? = some (V.ref r) ∧ SqL K H' r (fc b) ∧ (fc b)[a]? = some (cV (mcN l W a b)) ∧ (krs.map V.ref)[b]? = some (V.ref r2) ∧ SqL K H' r2 (fk b) ∧ (fk b)[a]? = some (nV (mcN l W a b)) := by
      intro H' G' a b h1 h2 h3 h4
      obtain ⟨r, _, g2, g3⟩ := G'.c.row (k := b) (by omega)
      obtain ⟨r2, _, g5, g6⟩ := G'.k.row (k := b) (by omega)
      exact ⟨r, r2, g2, sq_of g3, (hE a b h1 h2 h3 h4).1, g5, sq_of g6, (hE a b h1 h2 h3 h4).2⟩
    generalize hc : l[i] = c at hsg
    wtm_at "unf"
    refine ⟨fun σ' H1 => ∃ (ys : List (Nat × Nat)) (y4 y5 : Option V), σ' = [some (V.ref p), some (V.ref fa), some (V.int i), some (V.int j), y4, y5] ∧ But fa H H1 ∧ Prs H1 fa (xs ++ ys) ∧ WaysG K H1 p l W cd kd crs krs fc fk ∧ totL ys = sm (fun t => m3 (opM l W i) (mcN l W (i + 1) (i + 1 + t)) (mcN l W (i + 1 + t) j)) (j - i) ∧ ys.length ≤ j - i, ?_, ?_⟩
    · wtm_at "gx"
      refine g_wsig T hG ?_
      wtm_at "gx"
      refine g_ixT (by omega) (atI_of hsg) ?_
      wtm_at "gx"
      refine g_test (fun ho => ?_) (fun ho => ?_)
      · have hop : opM l W i = w1 := by unfold opM; rw [hsg]; exact if_pos ⟨ho, hW⟩
        wtm_at "gx"
        refine ⟨_, _, rfl, ⟨by omega, by omega, by omega, by omega⟩, for_rng (fun t σ H1 => ∃ (ys : List (Nat × Nat)) (y4 y5 : Option V), σ = [some (V.ref p), some (V.ref fa), some (V.int i), some (V.int j), y4, y5] ∧ But fa H H1 ∧ Prs H1 fa (xs ++ ys) ∧ WaysG K H1 p l W cd kd crs krs fc fk ∧ totL ys = sm (fun t => m3 (opM l W i) (mcN l W (i + 1) (i + 1 + t)) (mcN l W (i + 1 + t) j)) t ∧ ys.length ≤ t) ⟨[], _, _, rfl, But.refl, by rw [List.append_nil]; exact hP, hG, rfl, by simp⟩ (fun t σ H1 ht hv => ?_) (fun σ H1 hv => ?_)⟩
        · obtain ⟨ys, y4, y5, rfl, bH, hP1, hG1, hty, hyl⟩ := hv
          have ht2 : t < j - i := by omega
          obtain ⟨ra, ra2, a1, a2, a3, a4, a5, a6⟩ := rdc H1 hG1 (i + 1) (i + 1 + t) (by omega) (by omega) (by omega) (by omega)
          obtain ⟨rb, rb2, b1, b2, b3, b4, b5, b6⟩ := rdc H1 hG1 (i + 1 + t) j (by omega) (by omega) (by omega) (by omega)
          have c1 := hcn (i + 1) (i + 1 + t) (by omega) (by omega)
          have c2 := hcn (i + 1 + t) j (by omega) (by omega)
          obtain ⟨x, hx⟩ := hnn (i + 1) (i + 1 + t) (by omega) (by omega)
          obtain ⟨y, hy⟩ := hnn (i + 1 + t) j (by omega) (by omega)
          rw [hx] at a3 a6 c1
          rw [hy] at b3 b6 c2
          have hbx : ((x.2 : Nat) : Int).natAbs < 2 ^ 16001 := by rw [Int.natAbs_natCast]; exact c1
          have hby : ((y.2 : Nat) : Int).natAbs < 2 ^ 16001 := by rw [Int.natAbs_natCast]; exact c2
          obtain ⟨rsP, hQ1, hQ2, hQ3⟩ := id hP1
          wtm_at "unf"
          wtm_at "gx"
          refine g_wcost T hG1 ?_
          wtm_at "gx"
          refine g_ixLn (i + 1 + t) (sq_of hG1.c.hd) (by omega) a1 ?_
          wtm_at "gx"
          refine g_ixLn (v := V.int x.1) (i + 1) a2 (by omega) a3 ?_
          wtm_at "gx"
          refine g_wcost T hG1 ?_
          wtm_at "gx"
          refine g_ixLn j (sq_of hG1.c.hd) (by omega) b1 ?_
          wtm_at "gx"
          refine g_ixLn (v := V.int y.1) (i + 1 + t) b2 (by omega) b3 ?_
          wtm_at "gx"
          refine g_wcount T hG1 ?_
          wtm_at "gx"
          refine g_ixLn (i + 1 + t) (sq_of hG1.k.hd) (by omega) a4 ?_
          wtm_at "gx"
          refine g_ixLn (v := V.int x.2) (i + 1) a5 (by omega) a6 ?_
          wtm_at "gx"
          refine g_wcount T hG1 ?_
          wtm_at "gx"
          refine g_ixLn j (sq_of hG1.k.hd) (by omega) b4 ?_
          wtm_at "gx"
          refine g_ixLn (v := V.int y.2) (i + 1 + t) b5 (by omega) b6 ?_
          refine g_I (wide_mul (a := 16001) (b := 16001) hbx hby (by decide) (by decide) (by decide)) ?_
          refine g_tup (by show 2 ≤ 100000; decide) fun tt H2 nt s2 et => ?_
          refine g_append1 (s2 _ _ hQ1) (by rw [List.length_map, hQ2, List.length_append]; omega) fun H3 b3' e3 => ?_
          refine ⟨ys ++ [((1 + x.1) + y.1, (1 * x.2) * y.2)], _, _, rfl, But.tr b3' (But.sa s2 bH), ?_, (hG1.same s2).butL b3' (s2 _ _ hQ1) hfa1 hfa2, ?_, by simp; omega⟩
          · rw [← List.append_assoc]
            refine Prs.snoc (t := tt) (hP1.same s2) ?_ b3' fun rs' h' => ?_
            · rw [et]
              simp
            · have := (s2 _ _ hQ1).symm.trans h'
              injection this with this
              injection this with this
              rw [e3, this]
          · rw [totL_snoc, hty, sm, hop, hx, hy]
            rfl
        · obtain ⟨ys, y4, y5, rfl, bH, hP1, hG1, hty, hyl⟩ := hv
          have e : ((j : Int) + 1 - ((i : Int) + 1)).toNat = j - i := by omega
          rw [e] at hty hyl
          exact ⟨ys, _, _, rfl, bH, hP1, hG1, hty, hyl⟩
      · have hop : opM l W i = none := by unfold opM; rw [hsg]; exact if_neg fun z => ho z.1
        wtm_at "unf"
        refine ⟨[], _, _, rfl, But.refl, by rw [List.append_nil]; exact hP, hG, ?_, by simp⟩
        rw [hop]
        exact (sm_none (j - i)).symm
    · rintro σ' H1 ⟨ys, y4, y5, rfl, bH, hP1, hG1, hty, hyl⟩
      wtm_at "unf"
      wtm_at "gx"
      refine ⟨_, _, rfl, ⟨by omega, by omega, by omega, by omega⟩, for_rng (fun t σ H1 => ∃ (zs : List (Nat × Nat)) (y4 y5 : Option V), σ = [some (V.ref p), some (V.ref fa), some (V.int i), some (V.int j), y4, y5] ∧ But fa H H1 ∧ Prs H1 fa (xs ++ ys ++ zs) ∧ WaysG K H1 p l W cd kd crs krs fc fk ∧ totL zs = sm (fun t => m3 (clM l W (i + t)) (mcN l W i (i + t)) (mcN l W (i + t + 1) j)) t ∧ zs.length ≤ t) ⟨[], _, _, rfl, bH, by rw [List.append_nil]; exact hP1, hG1, rfl, by simp⟩ (fun t σ H1 ht hv => ?_) (fun σ H1 hv => ?_)⟩
      · obtain ⟨zs, y4, y5, rfl, bH, hP1, hG1, htz, hzl⟩ := hv
        have ht2 : t < j - i := by omega
        have em : l[i + t]? = some l[i + t] := List.getElem?_eq_getElem (by omega)
        generalize l[i + t] = d at em
        wtm_at "unf"
        wtm_at "gx"
        refine g_wsig T hG1 ?_
        wtm_at "gx"
        refine g_ixTn (i + t) (by omega) (by omega) em ?_
        wtm_at "gx"
        refine g_test (fun ho => ?_) (fun ho => ?_)
        · have hcl' : clM l W (i + t) = w1 := by unfold clM; rw [em]; exact if_pos ⟨ho, hW⟩
          wtm_at "gx"
          refine g_wmet hG1 (fun _ _ _ _ => rfl) ?_
          wtm_at "gx"
          refine ⟨p, fa, 1, 1, i, i + t, j, l, W, cd, kd, crs, krs, fc, fk, xs ++ ys ++ zs, mcN l W i (i + t), mcN l W (i + t + 1) j, ?_, hG1, hP1, hfa1, hfa2, by omega, by omega, by omega, by omega, hE _ _ (by omega) (by omega) (by omega) (by omega), by rw [show min (i + t + 1) j = i + t + 1 by omega]; exact hE _ _ (by omega) (by omega) (by omega) (by omega), by decide, hcn _ _ (by omega) (by omega), hcn _ _ (by omega) (by omega), by simp; omega, fun H2 b2 hP2 => ?_⟩
          · rw [show ((i + t : Nat) : Int) = (i : Int) + (t : Int) by omega]
            rfl
          obtain ⟨yl, hyl1, hyl2⟩ := hP1.lst
          refine ⟨zs ++ (m3 (some (1, 1)) (mcN l W i (i + t)) (mcN l W (i + t + 1) j)).toList, _, _, rfl, But.tr b2 bH, by rw [← List.append_assoc]; exact hP2, hG1.butL b2 hyl1 hfa1 hfa2, ?_, ?_⟩
          · rw [totL_opt, htz, sm, hcl']
            rfl
          · rw [List.length_append]
            have : ∀ o : MC, o.toList.length ≤ 1 := fun o => by cases o <;> simp
            have := this (m3 (some (1, 1)) (mcN l W i (i + t)) (mcN l W (i + t + 1) j))
            omega
        · have hcl' : clM l W (i + t) = none := by unfold clM; rw [em]; exact if_neg fun z => ho z.1
          wtm_at "unf"
          refine ⟨zs, _, _, rfl, bH, hP1, hG1, ?_, by omega⟩
          rw [htz, sm, hcl', m3_none, mAdd_none]
      · obtain ⟨zs, y4, y5, rfl, bH, hP1, hG1, htz, hzl⟩ := hv
        rw [show ((j : Int) - (i : Int)).toNat = j - i by omega] at htz hzl
        refine q (ys ++ zs) H1 bH (by rw [← List.append_assoc]; exact hP1) ?_ (by rw [List.length_append]; omega)
        rw [totL_app, hty, htz]
/-! Ways.numbers -/
def sp_Ways_numbers (K : PySem.W.Frag) : Sp := fun vs H Q _ => ∃ (p : Addr) (i j : Nat) (l : List Nat) (W : Wd) (cd kd : Addr) (crs krs : List Addr) (fc fk : Nat → List V), vs = [.ref p, .int i, .int j] ∧ WaysG K H p l W cd kd crs krs fc fk ∧ i < j ∧ j ≤ l.length ∧ l.length ≤ 1000 ∧ crs.length = l.length + 1 ∧ krs.length = l.length + 1 ∧ (∀ a b, i ≤ a → a ≤ b → b ≤ j → b - a < j - i → Ent fc fk a b (mcN l W a b)) ∧ (W.pt = true → ∀ a b, a ≤ b → b ≤ l.length → mcN l W a b ≠ none) ∧ ∀ (fa : Addr) (xs : List (Nat × Nat)) (H' : Hp), H fa = none → Same H H' → Prs H' fa xs → totL xs = stM l W (mcN l W) i j → Q (.ref fa) H'
theorem ok_Ways_numbers (T : Facts K mg) : C8.Met P w K mg base 3 (He.ga K "Ways") "numbers" (sp_Ways_numbers K) [] := by
  refine metD T.m_Ways_numbers sc_Ways_numbers (fun vs H Q E h => ?_) (fun f cdv A outer s H vs Q E hr h => ?_)
  · obtain ⟨p, i, j, l, W, cd, kd, crs, krs, fc, fk, rfl, hG, hi, hj, hjl, hcl, hkl, hE, hp, q⟩ := h; rfl
  · obtain ⟨p, i, j, l, W, cd, kd, crs, krs, fc, fk, rfl, hG, hi, hj, hjl, hcl, hkl, hE, hp, q⟩ := h
    refine ⟨_, (pss_cons (ps_set (i := 3) sc_Ways_numbers.nd rfl (Or.inl rfl) (pe_lst pa_nil))
       (pss_cons (ps_set (i := 4) sc_Ways_numbers.nd rfl (Or.inl rfl) (pe_ix ix_txt (pe_fld (pv 0) rfl) (pv 1) (fun _ _ => rfl)))
       (C8.pss_cut (ps_if (pt_val (pe_own (ok_is_letter T) hr (by omega) rfl (pa_cons (pv 4) pa_nil)))
       (pss_one (ps_expr (pe_met (ok_Ways_note T) hr (by omega) (pv 0) (pa_cons (pv 3) (pa_cons pe_int (pa_cons pe_int (pa_cons (pe_op op_add (pv 1) pe_int) (pa_cons (pv 2) (pa_cons (pv 2) pa_nil)))))))))
       (C8.pss_cut (ps_if (pt_cmpR op_in_seq (pe_strS (l := [115, 116, 114, 105, 107, 101]) (by decide +kernel)) (pe_fld (pv 0) rfl) (by rfl))
       (pss_one (ps_expr (pe_met (ok_Ways_note T) hr (by omega) (pv 0) (pa_cons (pv 3) (pa_cons pe_int (pa_cons pe_int (pa_cons (pe_op op_add (pv 1) pe_int) (pa_cons (pv 2) (pa_cons (pv 2) pa_nil)))))))))
       pss_nil)
       (pss_one (ps_for PassesOwn.never rfl (pi_range2 rfl T.b_range (pa_cons (pe_op op_add (pv 1) pe_int) (pa_cons (pv 2) pa_nil))) (pg_name (i := 5) sc_Ways_numbers.nd rfl (Or.inl rfl))
       (pss_one (ps_if (pt_not (pt_val (pe_own (ok_is_letter T) hr (by omega) rfl (pa_cons (pe_ix ix_txt (pe_fld (pv 0) rfl) (pv 5) (fun _ _ => rfl)) pa_nil))))
       (pss_cons (ps_asg (pe_own (ok_fewest_turns T) hr (by omega) rfl (pa_cons (pv 4) (pa_cons (pe_ix ix_txt (pe_fld (pv 0) rfl) (pv 5) (fun _ _ => rfl)) pa_nil))) (pg_tup rfl (pgs_cons (pg_name (i := 6) sc_Ways_numbers.nd rfl (Or.inl rfl)) (pgs_cons (pg_name (i := 7) sc_Ways_numbers.nd rfl (Or.inl rfl)) pgs_nil))))
       (pss_one (ps_ifC (PW.pt (pw_or (pt_cmpR op_eq (pv 6) pe_int (nomark _)) (pw_or1 (pt_cmpR op_in_seq (pe_strS (l := [116, 117, 114, 110]) (by decide +kernel)) (pe_fld (pv 0) rfl) (by rfl)))))
       (pss_one (ps_expr (pe_met (ok_Ways_note T) hr (by omega) (pv 0) (pa_cons (pv 3) (pa_cons (pv 6) (pa_cons (pv 7) (pa_cons (pe_op op_add (pv 1) pe_int) (pa_cons (pv 5) (pa_cons (pv 2) pa_nil)))))))))
       pss_nil)))
       pss_nil))))))
       (C8.pss_cut (ps_if (pt_cmpR op_in_seq (pe_strS (l := [112, 117, 116]) (by decide +kernel)) (pe_fld (pv 0) rfl) (by rfl))
       (pss_one (ps_expr (pe_met (ok_Ways_note_puts T) hr (by omega) (pv 0) (pa_cons (pv 3) (pa_cons (pv 1) (pa_cons (pv 2) pa_nil))))))
       pss_nil)
       (pss_one (ps_ret (pv 3))))))), ?_⟩
    rw [st_Ways_numbers]
    have hcn : ∀ a b, a ≤ b → b ≤ j → cnt (mcN l W a b) < 2 ^ 16001 := fun a b h1 h2 => mcN_big h1 (by omega)
    have hsg : l[i]? = some l[i] := List.getElem?_eq_getElem (by omega)
    generalize l[i] = c at hsg
    have hopt : ∀ o : MC, o.toList.length ≤ 1 := fun o => by cases o <;> simp
    wtm_at "unf"
    refine g_lst (by show 0 ≤ 100000; decide) fun fa H1 nfa s1 efa => ?_
    have hG1 := hG.same s1
    obtain ⟨hfa1, hfa2⟩ := hG.fresh nfa
    have hP1 : Prs H1 fa [] := ⟨[], efa, rfl, fun k r x h => by simp at h⟩
    wtm_at "gx"
    refine g_wsig T hG1 ?_
    wtm_at "gx"
    refine g_ixT (by omega) (atI_of hsg) ?_
    refine ⟨fun σ' H2 => ∃ (ys : List (Nat × Nat)) (y5 y6 y7 : Option V), σ' = [some (V.ref p), some (V.int i), some (V.int j), some (V.ref fa), some (Tx [c]), y5, y6, y7] ∧ But fa H1 H2 ∧ Prs H2 fa ys ∧ WaysG K H2 p l W cd kd crs krs fc fk ∧ totL ys = mAdd (mMul (sgM l W i) (mcN l W (i + 1) j)) (sm (fun t => m3 (prM l W i (i + 1 + t)) (mcN l W (i + 1) (i + 1 + t)) (mcN l W (i + 1 + t + 1) j)) (j - i - 1)) ∧ ys.length ≤ j - i, ?_, ?_⟩
    · wtm_at "gx"
      refine ⟨c, rfl, ?_⟩
      by_cases hb : c ∈ BRK
      · rw [decide_eq_false (show ¬ ¬ c ∈ BRK from fun z => z hb)]
        wtm_at "gx"
        -- the strike
        refine ⟨fun σ' H2 => ∃ (ys : List (Nat × Nat)), σ' = [some (V.ref p), some (V.int i), some (V.int j), some (V.ref fa), some (Tx [c]), none, none, none] ∧ But fa H1 H2 ∧ Prs H2 fa ys ∧ WaysG K H2 p l W cd kd crs krs fc fk ∧ totL ys = mMul (sgM l W i) (mcN l W (i + 1) j) ∧ ys.length ≤ 1, ?_, ?_⟩
        · wtm_at "gx"
          refine g_wword T hG1 fun wd hwd => ?_
          refine g_inStrike hwd ?_
          cases hst : W.st with
          | true =>
            wtm_at "gx"
            refine g_wmet hG1 (fun _ _ _ _ => rfl) ?_
            wtm_at "gx"
            have hsgm : sgM l W i = w1 := by unfold sgM; rw [hsg]; dsimp only; rw [if_pos hb, if_pos hst]
            refine ⟨p, fa, 1, 1, i + 1, j, j, l, W, cd, kd, crs, krs, fc, fk, [], mcN l W (i + 1) j, mcN l W j j, by simp, hG1, hP1, hfa1, hfa2, by omega, by omega, by omega, by omega, hE _ _ (by omega) (by omega) (by omega) (by omega), by rw [show min (j + 1) j = j by omega]; exact hE _ _ (by omega) (by omega) (by omega) (by omega), by decide, hcn _ _ (by omega) (by omega), hcn _ _ (by omega) (by omega), by decide, fun H2 b2 hP2 => ?_⟩
            refine ⟨_, rfl, b2, hP2, hG1.butL b2 efa hfa1 hfa2, ?_, ?_⟩
            · rw [totL_opt, mcN_self, m3, mMul_one, hsgm]
              rfl
            · simpa using hopt _
          | false =>
            have hsgm : sgM l W i = none := by unfold sgM; rw [hsg]; dsimp only; rw [if_pos hb, if_neg (by rw [hst]; decide)]
            wtm_at "gx"
            exact ⟨[], rfl, But.refl, hP1, hG1, by rw [hsgm]; rfl, by simp⟩
        · rintro σ' H2 ⟨ys0, rfl, bH2, hP2, hG2, hty0, hyl0⟩
          wtm_at "unf"
          wtm_at "gx"
          refine ⟨_, _, rfl, ⟨by omega, by omega, by omega, by omega⟩, for_rng (fun t σ H3 => ∃ (ys : List (Nat × Nat)) (y5 y6 y7 : Option V), σ = [some (V.ref p), some (V.int i), some (V.int j), some (V.ref fa), some (Tx [c]), y5, y6, y7] ∧ But fa H1 H3 ∧ Prs H3 fa ys ∧ WaysG K H3 p l W cd kd crs krs fc fk ∧ totL ys = mAdd (mMul (sgM l W i) (mcN l W (i + 1) j)) (sm (fun t => m3 (prM l W i (i + 1 + t)) (mcN l W (i + 1) (i + 1 + t)) (mcN l W (i + 1 + t + 1) j)) t) ∧ ys.length ≤ 1 + t) ⟨ys0, _, _, _, rfl, bH2, hP2, hG2, by rw [sm, mAdd_none]; exact hty0, by omega⟩ (fun t σ H3 ht hv => ?_) (fun σ H3 hv => ?_)⟩
          · obtain ⟨ys, y5, y6, y7, rfl, bH3, hP3, hG3, hty, hyl⟩ := hv
            have ht2 : t < j - i - 1 := by omega
            have em : l[i + 1 + t]? = some l[i + 1 + t] := List.getElem?_eq_getElem (by omega)
            generalize l[i + 1 + t] = d at em
            wtm_at "unf"
            wtm_at "gx"
            refine g_wsig T hG3 ?_
            wtm_at "gx"
            refine g_ixTn (i + 1 + t) (by omega) (by omega) em ?_
            refine ⟨d, rfl, ?_⟩
            by_cases hd : d ∈ BRK
            · rw [decide_eq_false (show ¬ ¬ d ∈ BRK from fun z => z hd)]
              wtm_at "gx"
              refine g_wsig T hG3 ?_
              wtm_at "gx"
              refine g_ixTn (i + 1 + t) (by omega) (by omega) em ?_
              refine ⟨c, d, rfl, hb, hd, fun tt H4 ntt s4 ett => ?_⟩
              refine ⟨tt, _, rfl, st_of ett, rfl, _, _, rfl, _, _, rfl, rfl, ?_⟩
              wtm_at "unf"
              have hG4 := hG3.same s4
              refine g_ifH (b := decide ((few c d).1 = 0) || W.tn) (G := fun H5 => H5 = H4) (fun Q q => ?_) (fun H5 e5 hbt => ?_) (fun H5 e5 hbt => ?_)
              · wtm_at "unf"
                wtm_at "gx"
                by_cases h0 : (few c d).1 = 0
                · rw [h0]
                  wtm_at "gx"
                  rw [decide_eq_true h0] at q
                  exact q _ rfl
                · refine g_Fd (fun z => h0 (by have := V.int.inj z; omega)) ?_
                  wtm_at "gx"
                  refine g_wword T hG4 fun wd hwd => ?_
                  refine g_inTurn hwd ?_
                  rw [decide_eq_false h0] at q
                  exact ⟨_, rfl, q _ rfl⟩
              · subst e5
                have hpr : prM l W i (i + 1 + t) = some (few c d) := by
                  unfold prM
                  rw [hsg, em]
                  refine if_pos ⟨hb, hd, ?_⟩
                  rcases (Bool.or_eq_true _ _).mp hbt with h | h
                  · exact .inl (of_decide_eq_true h)
                  · exact .inr h
                wtm_at "unf"
                wtm_at "gx"
                refine g_wmet hG4 (fun _ _ _ _ => rfl) ?_
                wtm_at "gx"
                refine ⟨p, fa, (few c d).1, (few c d).2, i + 1, i + 1 + t, j, l, W, cd, kd, crs, krs, fc, fk, ys, mcN l W (i + 1) (i + 1 + t), mcN l W (i + 1 + t + 1) j, by simp, hG4, hP3.same s4, hfa1, hfa2, by omega, by omega, by omega, by omega, hE _ _ (by omega) (by omega) (by omega) (by omega), by rw [show min (i + 1 + t + 1) j = i + 1 + t + 1 by omega]; exact hE _ _ (by omega) (by omega) (by omega) (by omega), cnt_few c d, hcn _ _ (by omega) (by omega), hcn _ _ (by omega) (by omega), by omega, fun H6 b6 hP6 => ?_⟩
                obtain ⟨yl, hyl1, hyl2⟩ := (hP3.same s4).lst
                refine ⟨_, _, _, _, rfl, But.tr b6 (But.sa s4 bH3), hP6, hG4.butL b6 hyl1 hfa1 hfa2, ?_, ?_⟩
                · rw [totL_opt, hty, sm, hpr, mAdd_assoc]
                · have := hopt (m3 (some ((few c d).1, (few c d).2)) (mcN l W (i + 1) (i + 1 + t)) (mcN l W (i + 1 + t + 1) j))
                  rw [List.length_append]
                  omega
              · subst e5
                have hpr : prM l W i (i + 1 + t) = none := by
                  unfold prM
                  rw [hsg, em]
                  refine if_neg fun z => ?_
                  rw [Bool.or_eq_false_iff] at hbt
                  rcases z.2.2 with h | h
                  · exact of_decide_eq_false hbt.1 h
                  · rw [hbt.2] at h; cases h
                wtm_at "unf"
                refine ⟨ys, _, _, _, rfl, But.sa s4 bH3, hP3.same s4, hG4, ?_, by omega⟩
                rw [hty, sm, hpr, m3_none, mAdd_none]
            · rw [decide_eq_true hd]
              wtm_at "gx"
              have hpr : prM l W i (i + 1 + t) = none := by
                unfold prM
                rw [hsg, em]
                exact if_neg fun z => hd z.2.1
              refine ⟨ys, _, _, _, rfl, bH3, hP3, hG3, ?_, by omega⟩
              rw [hty, sm, hpr, m3_none, mAdd_none]
          · obtain ⟨ys, y5, y6, y7, rfl, bH3, hP3, hG3, hty, hyl⟩ := hv
            have e : ((j : Int) - ((i : Int) + 1)).toNat = j - i - 1 := by omega
            rw [e] at hty hyl
            exact ⟨ys, _, _, _, rfl, bH3, hP3, hG3, hty, by omega⟩
      · rw [decide_eq_true hb]
        wtm_at "gx"
        refine g_wmet hG1 (fun _ _ _ _ => rfl) ?_
        wtm_at "gx"
        have hsgm : sgM l W i = mOne := by unfold sgM; rw [hsg]; dsimp only; rw [if_neg hb]
        refine ⟨p, fa, 0, 1, i + 1, j, j, l, W, cd, kd, crs, krs, fc, fk, [], mcN l W (i + 1) j, mcN l W j j, by simp, hG1, hP1, hfa1, hfa2, by omega, by omega, by omega, by omega, hE _ _ (by omega) (by omega) (by omega) (by omega), by rw [show min (j + 1) j = j by omega]; exact hE _ _ (by omega) (by omega) (by omega) (by omega), by decide, hcn _ _ (by omega) (by omega), hcn _ _ (by omega) (by omega), by decide, fun H2 b2 hP2 => ?_⟩
        refine ⟨_, _, _, _, rfl, b2, hP2, hG1.butL b2 efa hfa1 hfa2, ?_, ?_⟩
        · have hpn : sm (fun t => m3 (prM l W i (i + 1 + t)) (mcN l W (i + 1) (i + 1 + t)) (mcN l W (i + 1 + t + 1) j)) (j - i - 1) = none := by
            refine (sm_congr (g := fun _ => none) fun k hk => ?_).trans (sm_none _)
            have : prM l W i (i + 1 + k) = none := by
              unfold prM
              rw [hsg]
              cases l[i + 1 + k]? with
              | none => rfl
              | some d => exact if_neg fun z => hb z.1
            rw [this, m3_none]
          rw [totL_opt, mcN_self, m3, mMul_one, hsgm, hpn, mAdd_none]
          rfl
        · have := hopt (m3 (some (0, 1)) (mcN l W (i + 1) j) (mcN l W j j))
          simp only [List.nil_append]
          omega
    · rintro σ' H2 ⟨ys, y5, y6, y7, rfl, bH2, hP2, hG2, hty, hyl⟩
      have sH2 : Same H H2 := Same.b0 bH2 s1 nfa
      wtm_at "unf"
      refine ⟨fun σ' H3 => ∃ zs : List (Nat × Nat), σ' = [some (V.ref p), some (V.int i), some (V.int j), some (V.ref fa), some (Tx [c]), y5, y6, y7] ∧ Same H H3 ∧ Prs H3 fa zs ∧ totL zs = stM l W (mcN l W) i j, ?_, ?_⟩
      · wtm_at "gx"
        refine g_wword T hG2 fun wd hwd => ?_
        refine g_inPut hwd ?_
        cases hpt : W.pt with
        | true =>
          wtm_at "gx"
          refine g_wmet hG2 (fun _ _ _ _ => rfl) ?_
          wtm_at "gx"
          refine ⟨p, fa, i, j, l, W, cd, kd, crs, krs, fc, fk, ys, rfl, hG2, hP2, hfa1, hfa2, hi, hj, hjl, hcl, hkl, hE, hpt, hp hpt, by omega, fun zs H3 b3 hP3 htz hzl => ?_⟩
          refine ⟨ys ++ zs, rfl, Same.b0 b3 sH2 nfa, hP3, ?_⟩
          rw [totL_app, hty, htz]
          unfold Ly.stM
          rw [mAdd_assoc]
        | false =>
          wtm_at "gx"
          refine ⟨ys, rfl, sH2, hP2, ?_⟩
          have ho : sm (fun t => m3 (opM l W i) (mcN l W (i + 1) (i + 1 + t)) (mcN l W (i + 1 + t) j)) (j - i) = none := by
            refine (sm_congr (g := fun _ => none) fun k hk => ?_).trans (sm_none _)
            have : opM l W i = none := by unfold opM; rw [hsg]; exact if_neg fun z => by rw [hpt] at z; cases z.2
            rw [this, m3_none]
          have hc2 : sm (fun t => m3 (clM l W (i + t)) (mcN l W i (i + t)) (mcN l W (i + t + 1) j)) (j - i) = none := by
            refine (sm_congr (g := fun _ => none) fun k hk => ?_).trans (sm_none _)
            have : clM l W (i + k) = none := by
              unfold clM
              cases l[i + k]? with
              | none => rfl
              | some d => exact if_neg fun z => by rw [hpt] at z; cases z.2
            rw [this, m3_none]
          unfold Ly.stM
          rw [hty, ho, hc2, mAdd_none, mAdd_none]
      · rintro σ' H3 ⟨zs, rfl, sH3, hP3, htz⟩
        wtm_at "unf"
        wtm_at "gx"
        exact q fa zs H3 nfa sH3 hP3 htz
def mlA (a : MC) (b : Nat) : Nat := match a with
  | none => b
  | some q => if b < q.1 then b else q.1
def mcA (a : MC) (b : Nat) : Nat := match a with
  | none => 0
  | some q => if b < q.1 then 0 else q.2
theorem ml_add (a : MC) (b m : Nat) : mAdd a (some (b, m)) = some (mlA a b, mcA a b + if b = mlA a b then m else 0) := by
  cases a with
  | none =>
    show some (b, m) = some (b, 0 + if b = b then m else 0)
    rw [if_pos rfl, Nat.zero_add]
  | some q =>
    obtain ⟨a, n⟩ := q
    have e1 : mlA (some (a, n)) b = if b < a then b else a := rfl
    have e2 : mcA (some (a, n)) b = if b < a then 0 else n := rfl
    have e3 : mAdd (some (a, n)) (some (b, m)) = if a < b then some (a, n) else if b < a then some (b, m) else some (a, n + m) := rfl
    rw [e1, e2, e3]
    by_cases h1 : a < b
    · have h2 : ¬ b < a := by omega
      have h3 : ¬ b = a := by omega
      simp only [h1, h2, h3, if_true, if_false, Nat.add_zero]
    · by_cases h2 : b < a
      · simp only [h1, h2, if_true, if_false, Nat.zero_add]
      · have h3 : b = a := by omega
        subst h3
        simp only [Nat.lt_irrefl, if_true, if_false]
/-! Ways.reckoned -/
def sp_Ways_reckoned (K : PySem.W.Frag) : Sp := fun vs H Q _ => ∃ (p : Addr) (i j : Nat) (l : List Nat) (W : Wd) (cd kd : Addr) (crs krs : List Addr) (fc fk : Nat → List V), vs = [.ref p, .int i, .int j] ∧ WaysG K H p l W cd kd crs krs fc fk ∧ i < j ∧ j ≤ l.length ∧ l.length ≤ 1000 ∧ crs.length = l.length + 1 ∧ krs.length = l.length + 1 ∧ (∀ a b, i ≤ a → a ≤ b → b ≤ j → b - a < j - i → Ent fc fk a b (mcN l W a b)) ∧ (W.pt = true → ∀ a b, a ≤ b → b ≤ l.length → mcN l W a b ≠ none) ∧ ∀ (t : Addr) (H' : Hp), H t = none → Same H H' → H' t = some (.tup [cV (mcN l W i j), nV (mcN l W i j)]) → Q (.ref t) H'
theorem ok_Ways_reckoned (T : Facts K mg) : C8.Met P w K mg base 4 (He.ga K "Ways") "reckoned" (sp_Ways_reckoned K) [] := by
  refine metD T.m_Ways_reckoned sc_Ways_reckoned (fun vs H Q E h => ?_) (fun f cdv A outer s H vs Q E hr h => ?_)
  · obtain ⟨p, i, j, l, W, cd, kd, crs, krs, fc, fk, rfl, hG, hi, hj, hjl, hcl, hkl, hE, hp, q⟩ := h; rfl
  · obtain ⟨p, i, j, l, W, cd, kd, crs, krs, fc, fk, rfl, hG, hi, hj, hjl, hcl, hkl, hE, hp, q⟩ := h
    refine ⟨_, (pss_cons (ps_set (i := 3) sc_Ways_reckoned.nd rfl (Or.inl rfl) pe_non)
       (pss_cons (ps_set (i := 4) sc_Ways_reckoned.nd rfl (Or.inl rfl) pe_int)
       (pss_cons (ps_for PassesOwn.never rfl (pi_list (pe_met (ok_Ways_numbers T) hr (by omega) (pv 0) (pa_cons (pv 1) (pa_cons (pv 2) pa_nil)))) (pg_tup rfl (pgs_cons (pg_name (i := 5) sc_Ways_reckoned.nd rfl (Or.inl rfl)) (pgs_cons (pg_name (i := 6) sc_Ways_reckoned.nd rfl (Or.inl rfl)) pgs_nil)))
       (C8.pss_cut (ps_ifC (PW.pt (pw_or (pt_cmpR op_isN (pv 3) pe_non (nomark _)) (pw_or1 (pt_cmpR op_lt (pv 5) (pv 3) (nomark _)))))
       (pss_cons (ps_set (i := 3) sc_Ways_reckoned.nd rfl (Or.inl rfl) (pv 5))
       (pss_one (ps_set (i := 4) sc_Ways_reckoned.nd rfl (Or.inl rfl) pe_int)))
       pss_nil)
       (pss_one (ps_if (pt_cmpR op_eq (pv 5) (pv 3) (nomark _))
       (pss_one (ps_aug (i := 4) sc_Ways_reckoned.nd rfl (Or.inl rfl) (pv 6) ip_add))
       pss_nil))))
       (pss_one (ps_ret (pe_tup (pa_cons (pv 3) (pa_cons (pv 4) pa_nil)))))))), ?_⟩
    rw [st_Ways_reckoned]
    wtm_at "unf"
    wtm_at "gx"
    refine g_wmet hG (fun _ _ _ _ => rfl) ?_
    wtm_at "gx"
    refine ⟨p, i, j, l, W, cd, kd, crs, krs, fc, fk, rfl, hG, hi, hj, hjl, hcl, hkl, hE, hp, fun fa xs H1 nfa s1 hP htx => ?_⟩
    rw [← mcN_step hi] at htx
    obtain ⟨rs, hP1, hP2, hP3⟩ := hP
    refine ⟨fa, rfl, ⟨_, sq_of hP1⟩, for_lst (rs.map V.ref) (fun pre σ H2 => ∃ y5 y6, σ = [some (V.ref p), some (V.int i), some (V.int j), some (cV (totL (xs.take pre.length))), some (nV (totL (xs.take pre.length))), y5, y6] ∧ H2 = H1) ⟨_, _, rfl, rfl⟩ (fun pre post σ H2 e hv => ?_) (fun pre x post σ H2 e hv => ?_) (fun σ H2 hv => ?_)⟩
    · obtain ⟨y5, y6, rfl, rfl⟩ := hv
      exact sq_of hP1
    · obtain ⟨y5, y6, rfl, rfl⟩ := hv
      have hlt : pre.length < rs.length := by
        have := congrArg List.length e
        simp at this
        omega
      have hx : (rs.map V.ref)[pre.length]? = some x := mid_at e
      have hr : rs[pre.length]? = some rs[pre.length] := List.getElem?_eq_getElem hlt
      have hxx : xs[pre.length]? = some xs[pre.length] := List.getElem?_eq_getElem (by omega)
      have hx2 : x = V.ref rs[pre.length] := by
        rw [List.getElem?_map, hr] at hx
        exact (Option.some.inj hx).symm
      subst hx2
      have ht := hP3 _ _ _ hr hxx
      have etk : xs.take (pre ++ [V.ref rs[pre.length]]).length = xs.take pre.length ++ [xs[pre.length]] := by
        rw [List.length_append, List.length_singleton]
        exact List.take_succ_eq_append_getElem (by omega)
      rw [etk, totL_snoc]
      generalize xs[pre.length] = bm at ht etk
      generalize rs[pre.length] = r at ht etk
      obtain ⟨b, m⟩ := bm
      generalize totL (xs.take pre.length) = a
      rw [ml_add]
      wtm_at "unf"
      refine ⟨r, _, rfl, st_of ht, rfl, _, _, rfl, _, _, rfl, rfl, ?_⟩
      wtm_at "unf"
      refine ⟨fun σ' H3 => σ' = [some (V.ref p), some (V.int i), some (V.int j), some (V.int (mlA a b)), some (V.int (mcA a b)), some (V.int b), some (V.int m)] ∧ H3 = H2, ?_, ?_⟩
      · cases a with
        | none =>
          refine g_ifC (b := true) (fun Q q => ?_) (fun h => ?_) (fun h => ?_)
          · wtm_at "unf"
            wtm_at "gx"
            exact q
          · wtm_at "unf"
            wtm_at "gx"
            exact ⟨rfl, rfl⟩
          · cases h
        | some q0 =>
          obtain ⟨a, n⟩ := q0
          rw [show cV (some (a, n)) = V.int a from rfl, show nV (some (a, n)) = V.int n from rfl]
          refine g_ifC (b := decide (b < a)) (fun Q q => ?_) (fun h => ?_) (fun h => ?_)
          · wtm_at "unf"
            wtm_at "gx"
            refine ⟨_, rfl, ?_⟩
            rw [show decide ((b : Int) < (a : Int)) = decide (b < a) from decide_eq_decide.mpr (by omega)]
            exact q
          · wtm_at "unf"
            wtm_at "gx"
            have hlt := of_decide_eq_true h
            have e1 : mlA (some (a, n)) b = b := if_pos hlt
            have e2 : mcA (some (a, n)) b = 0 := if_pos hlt
            rw [e1, e2]
            exact ⟨rfl, rfl⟩
          · have hlt := of_decide_eq_false h
            have e1 : mlA (some (a, n)) b = a := if_neg hlt
            have e2 : mcA (some (a, n)) b = n := if_neg hlt
            rw [e1, e2]
            exact ⟨rfl, rfl⟩
      · rintro σ' H3 ⟨rfl, rfl⟩
        wtm_at "gx"
        refine g_test (fun h => ?_) (fun h => ?_)
        · have h' : b = mlA a b := by have := V.int.inj h; omega
          rw [if_pos h']
          refine ⟨_, rfl, ?_⟩
          wtm_at "gx"
          exact ⟨_, _, rfl, rfl⟩
        · have h' : ¬ b = mlA a b := fun e => h (by rw [← e])
          rw [if_neg h', Nat.add_zero]
          exact ⟨_, _, rfl, rfl⟩
    · obtain ⟨y5, y6, rfl, rfl⟩ := hv
      rw [List.length_map, hP2, List.take_length, htx]
      wtm_at "unf"
      wtm_at "gx"
      exact g_tup (by show 2 ≤ 100000; decide) fun t H3 nt s3 et => q t H3 (s1.free nt) (s1.trans s3) et
structure WaysAt (K : PySem.W.Frag) (H : Hp) (p : Addr) (l : List Nat) (W : Wd) (cd kd : Addr) (crs krs : List Addr) : Prop where
  g : WaysG K H p l W cd kd crs krs (fun j => colV cV (mcN l W) j (j + 1)) (fun j => colV nV (mcN l W) j (j + 1))
  cl : crs.length = l.length + 1
  kl : krs.length = l.length + 1
/-- all but three stay -/
def Bt3 (p q r : Addr) (H H' : Hp) : Prop := ∀ x o, x ≠ p → x ≠ q → x ≠ r → H x = some o → H' x = some o
theorem rep_flat (v : V) : ∀ n, (List.replicate n [v]).flatten = (List.range n).map fun _ => v
  | 0 => rfl
  | n + 1 => by
    rw [List.replicate_succ', List.flatten_append, rep_flat v n, List.range_succ, List.map_append]
    rfl
/-- a column being filled from its end: those from k on are told -/
def plV (g : MC → V) (F : Nat → Nat → MC) (e k : Nat) : List V := (List.range (e + 1)).map fun a => if k ≤ a then g (F a e) else g mOne
theorem plV_len (g : MC → V) (F : Nat → Nat → MC) (e k : Nat) : (plV g F e k).length = e + 1 := by unfold plV; rw [List.length_map, List.length_range]
theorem plV_at {g : MC → V} {F : Nat → Nat → MC} {e k a : Nat} (h : a ≤ e) (hk : k ≤ a) : (plV g F e k)[a]? = some (g (F a e)) := by
  unfold plV
  rw [List.getElem?_map, List.getElem?_range (by omega)]
  show some (if k ≤ a then _ else _) = _
  rw [if_pos hk]
theorem plV_set {g : MC → V} {F : Nat → Nat → MC} {e k : Nat} (h : k ≤ e) : (plV g F e (k + 1)).set k (g (F k e)) = plV g F e k := by
  refine List.ext_getElem? fun a => ?_
  by_cases ha : a < e + 1
  · by_cases hk : a = k
    · subst hk
      rw [List.getElem?_set_self (by rw [plV_len]; exact ha), plV_at (by omega) (Nat.le_refl _)]
    · rw [List.getElem?_set_ne (Ne.symm hk)]
      unfold plV
      rw [List.getElem?_map, List.getElem?_map, List.getElem?_range ha]
      show some (if k + 1 ≤ a then _ else _) = some (if k ≤ a then _ else _)
      by_cases h2 : k ≤ a
      · rw [if_pos h2, if_pos (by omega)]
      · rw [if_neg h2, if_neg (by omega)]
  · rw [List.getElem?_eq_none (by rw [List.length_set, plV_len]; omega), List.getElem?_eq_none (by rw [plV_len]; omega)]
theorem plV_start {g : MC → V} {F : Nat → Nat → MC} {e : Nat} (hF : F e e = mOne) : (List.range (e + 1)).map (fun _ => g mOne) = plV g F e e := by
  unfold plV
  refine List.map_congr_left fun a ha => ?_
  have ha' := List.mem_range.mp ha
  by_cases h : e ≤ a
  · rw [if_pos h, show a = e by omega, hF]
  · rw [if_neg h]
theorem plV_zero (g : MC → V) (F : Nat → Nat → MC) (e : Nat) : plV g F e 0 = colV g F e (e + 1) := by
  unfold plV colV
  exact List.map_congr_left fun a _ => by rw [if_pos (Nat.zero_le _)]
theorem ins_notin {H : Hp} {p d C dx : Addr} {fs : List (Str × V)} {rs : List Addr} {f : Nat → List V} (h : H p = some (.ins C dx fs)) (T : Tab H d rs f) : p ≠ d ∧ p ∉ rs := by
  refine ⟨fun e => ?_, fun e => ?_⟩
  · have := T.hd
    rw [← e, h] at this
    cases this
  · obtain ⟨k, hk⟩ := List.getElem?_of_mem e
    have := T.r k p hk
    rw [h] at this
    cases this
theorem snoc_text (l : List Nat) (c : Nat) {W : Wd} {a b : Nat} (h : b ≤ l.length) : mcN (l ++ [c]) W a b = mcN l W a b := mcN_text fun k hk => List.getElem?_append_left (by omega)
/-! Ways.grow -/
def sp_Ways_grow (K : PySem.W.Frag) : Sp := fun vs H Q _ => ∃ (p : Addr) (c : Nat) (l : List Nat) (W : Wd) (cd kd : Addr) (crs krs : List Addr), vs = [.ref p, Tx [c]] ∧ WaysAt K H p l W cd kd crs krs ∧ l.length < 1000 ∧ (W.pt = true → ∀ a b, a ≤ b → b ≤ l.length + 1 → mcN (l ++ [c]) W a b ≠ none) ∧ ∀ (r1 r2 : Addr) (H' : Hp), Bt3 p cd kd H H' → H r1 = none → H r2 = none → WaysAt K H' p (l ++ [c]) W cd kd (crs ++ [r1]) (krs ++ [r2]) → Q .non H'
theorem ok_Ways_grow (T : Facts K mg) : C8.Met P w K mg base 5 (He.ga K "Ways") "grow" (sp_Ways_grow K) [] := by
  refine metD T.m_Ways_grow sc_Ways_grow (fun vs H Q E h => ?_) (fun f cdv A outer s H vs Q E hr h => ?_)
  · obtain ⟨p, c, l, W, cd, kd, crs, krs, rfl, hA, hl, hN, q⟩ := h; rfl
  · obtain ⟨p, c, l, W, cd, kd, crs, krs, rfl, hA, hl, hN, q⟩ := h
    refine ⟨_, (pss_cons (ps_fld (pv 0) (pe_op op_addT (pe_fld (pv 0) rfl) (pv 1)) rfl)
       (pss_cons (ps_set (i := 2) sc_Ways_grow.nd rfl (Or.inl rfl) (pe_callB call_lenT rfl T.b_len PySem.boot_len (pa_cons (pe_fld (pv 0) rfl) pa_nil)))
       (pss_cons (ps_expr (pe_bm PySem.F.plainAttrs_list PySem.F.slot_list_append PySem.F.type_list_append mt_append (pe_fld (pv 0) rfl) (pa_cons (pe_op op_rep (pe_lst (pa_cons pe_int pa_nil)) (pe_op op_add (pv 2) pe_int)) pa_nil)))
       (pss_cons (ps_expr (pe_bm PySem.F.plainAttrs_list PySem.F.slot_list_append PySem.F.type_list_append mt_append (pe_fld (pv 0) rfl) (pa_cons (pe_op op_rep (pe_lst (pa_cons pe_int pa_nil)) (pe_op op_add (pv 2) pe_int)) pa_nil)))
       (pss_one (ps_for PassesOwn.never rfl (pi_range3 rfl T.b_range (pa_cons (pe_op op_sub (pv 2) pe_int) (pa_cons (pe_un un_neg pe_int) (pa_cons (pe_un un_neg pe_int) pa_nil)))) (pg_name (i := 3) sc_Ways_grow.nd rfl (Or.inl rfl))
       (pss_cons (ps_set (i := 4) sc_Ways_grow.nd rfl (Or.inl rfl) (pe_met (ok_Ways_reckoned T) hr (by omega) (pv 0) (pa_cons (pv 3) (pa_cons (pv 2) pa_nil))))
       (pss_one (ps_asg (pv 4) (pg_tup rfl (pgs_cons (pg_sub (pe_ix ix_list (pe_fld (pv 0) rfl) (pv 2) (fun _ _ => rfl)) (pv 3) set_list) (pgs_cons (pg_sub (pe_ix ix_list (pe_fld (pv 0) rfl) (pv 2) (fun _ _ => rfl)) (pv 3) set_list) pgs_nil)))))))))))), ?_⟩
    rw [st_Ways_grow]
    have hG := hA.g
    have hcl := hA.cl
    have hkl := hA.kl
    obtain ⟨dx, wd, hob, hwd⟩ := hG.ob
    obtain ⟨np1, np2⟩ := ins_notin hob hG.c
    obtain ⟨np3, np4⟩ := ins_notin hob hG.k
    wtm_at "unf"
    wtm_at "gx"
    refine g_wsig T hG ?_
    wtm_at "gx"
    refine g_sfld hob T.cl_Ways T.n_Ways_signs (by show 4 < 1000; decide) fun H1 b1 e1 => ?_
    rw [wfl_put] at e1
    have G1 : WaysG K H1 p (l ++ [c]) W cd kd crs krs (fun j => colV cV (mcN l W) j (j + 1)) (fun j => colV nV (mcN l W) j (j + 1)) := ⟨⟨dx, wd, e1, hwd.butI b1 hob⟩, hG.c.but b1 np1 np2, hG.k.but b1 np3 np4, hG.sep⟩
    wtm_at "unf"
    wtm_at "gx"
    refine g_wsig T G1 ?_
    wtm_at "gx"
    refine g_wcost T G1 ?_
    refine g_tyL3 G1.c.hd ?_
    wtm_at "gx"
    refine g_lst (by show 1 ≤ 100000; decide) fun la H2 nla s2 ela => ?_
    wtm_at "gx"
    have hE : (l ++ [c]).length = l.length + 1 := by simp
    generalize hEE : l.length + 1 = E at hE hcl hkl
    rw [hE, show ((E : Nat) : Int) + 1 = ((E + 1 : Nat) : Int) by omega]
    refine g_rep ela (by show 1 * _ ≤ _; omega) (by omega) fun r1 H3 nr1 s3 er1 => ?_
    rw [rep_flat] at er1
    have G3 := G1.same (s2.trans s3)
    refine g_append1 G3.c.hd (by rw [List.length_map]; omega) fun H4 b4 e4 => ?_
    have fr1 := (G1.same s2).fresh nr1
    have nr10 : H r1 = none := But.fr (s2.free nr1) b1 (fun e => by rw [e] at nr1; rw [(s2 _ _ e1)] at nr1; cases nr1)
    have er14 := b4 _ _ (fun e => fr1.1 (by rw [e]; exact List.mem_cons_self ..)) er1
    have hcdk : cd ∉ kd :: krs := hG.sep cd (List.mem_cons_self ..)
    rw [List.mem_cons, not_or] at hcdk
    have k4 : Tab H4 kd krs (fun j => colV nV (mcN l W) j (j + 1)) := G3.k.but b4 hcdk.1 hcdk.2
    have c4 : Tab H4 cd (crs ++ [r1]) (fun i => if i = crs.length then (List.range (E + 1)).map (fun _ => V.int 0) else colV cV (mcN l W) i (i + 1)) :=
      Tab.snoc G3.c er14 (by rw [e4, List.map_append]; rfl) (fun h => fr1.1 (List.mem_cons_of_mem _ h)) (fun e => fr1.1 (by rw [e]; exact List.mem_cons_self ..)) (fun q hq o ho => b4 _ _ (fun e => G3.c.nin (by rw [← e]; exact hq)) ho)
    obtain ⟨dx3, wd3, hob3, hwd3⟩ := G3.ob
    have hob4 := b4 _ _ (ins_notin hob3 G3.c).1 hob3
    have hwd4 := hwd3.but b4 G3.c.hd
    wtm_at "gx"
    refine g_fld hob4 T.cl_Ways T.n_Ways_counts (wfl_counts ..) ?_
    refine g_tyL3 k4.hd ?_
    refine g_lst (by show 1 ≤ 100000; decide) fun lb H5 nlb s5 elb => ?_
    wtm_at "gx"
    rw [show ((E : Nat) : Int) + 1 = ((E + 1 : Nat) : Int) by omega]
    refine g_rep elb (by show 1 * _ ≤ _; omega) (by omega) fun r2 H6 nr2 s6 er2 => ?_
    rw [rep_flat] at er2
    have k6 := k4.same (s5.trans s6)
    have c6 := c4.same (s5.trans s6)
    refine g_append1 k6.hd (by rw [List.length_map]; omega) fun H7 b7 e7 => ?_
    have fr2k := (k4.same s5).fresh nr2
    have fr2c := (c4.same s5).fresh nr2
    have er27 := b7 _ _ fr2k.1 er2
    have hne1 : ∀ x ∈ cd :: (crs ++ [r1]), x ≠ kd ∧ x ∉ krs := by
      intro x hx
      rw [List.mem_cons, List.mem_append, List.mem_singleton] at hx
      rcases hx with rfl | hx | rfl
      · exact hcdk
      · have := hG.sep x (List.mem_cons_of_mem _ hx)
        rw [List.mem_cons, not_or] at this
        exact this
      · have := fr1.2
        rw [List.mem_cons, not_or] at this
        exact this
    have c7 : Tab H7 cd (crs ++ [r1]) _ := c6.but b7 (Ne.symm (hne1 cd (List.mem_cons_self ..)).1) (fun h => (hne1 kd (List.mem_cons_of_mem _ h)).1 rfl)
    have k7 : Tab H7 kd (krs ++ [r2]) (fun i => if i = krs.length then (List.range (E + 1)).map (fun _ => V.int 1) else colV nV (mcN l W) i (i + 1)) :=
      Tab.snoc k6 er27 (by rw [e7, List.map_append]; rfl) fr2k.2 (Ne.symm fr2k.1) (fun q hq o ho => b7 _ _ (fun e => k6.nin (by rw [← e]; exact hq)) ho)
    have hob6 := s6 _ _ (s5 _ _ hob4)
    have hob7 := b7 _ _ (ins_notin hob6 k6).1 hob6
    have hwd7 := ((hwd4.same s5).same s6).but b7 k6.hd
    have nr20 : H r2 = none := by
      have h4 : H4 r2 = none := s5.free nr2
      have h3 : H3 r2 = none := But.fr h4 b4 fr2c.1
      have h1 : H1 r2 = none := s2.free (s3.free h3)
      exact But.fr h1 b1 fun e => by rw [e, e1] at h1; cases h1
    have hsep7 : ∀ x ∈ cd :: (crs ++ [r1]), x ∉ kd :: (krs ++ [r2]) := by
      intro x hx hy
      rw [List.mem_cons, List.mem_append, List.mem_singleton] at hy
      rcases hy with hy | hy | hy
      · exact (hne1 x hx).1 hy
      · exact (hne1 x hx).2 hy
      · subst hy
        rcases List.mem_cons.mp hx with hx | hx
        · exact fr2c.1 hx
        · exact fr2c.2 hx
    have hF : ∀ j, j ≤ l.length → ∀ g : MC → V, colV g (mcN l W) j (j + 1) = colV g (mcN (l ++ [c]) W) j (j + 1) := fun j hj g => colV_congr fun i hi => (snoc_text l c hj).symm
    have bt7 : Bt3 p cd kd H H7 := fun x o h1 h2 h3 hx => b7 _ _ h3 (s6 _ _ (s5 _ _ (b4 _ _ h2 (s3 _ _ (s2 _ _ (b1 _ _ h1 hx))))))
    have G7 : WaysG K H7 p (l ++ [c]) W cd kd (crs ++ [r1]) (krs ++ [r2]) (fun j => if j = E then plV cV (mcN (l ++ [c]) W) E E else colV cV (mcN (l ++ [c]) W) j (j + 1)) (fun j => if j = E then plV nV (mcN (l ++ [c]) W) E E else colV nV (mcN (l ++ [c]) W) j (j + 1)) := by
      refine ⟨⟨dx3, wd3, hob7, hwd7⟩, c7.congr fun j hj => ?_, k7.congr fun j hj => ?_, hsep7⟩
      · rw [List.length_append, List.length_singleton] at hj
        by_cases e : j = E
        · rw [if_pos (by omega), if_pos e]
          exact plV_start (g := cV) (mcN_self _ _ _)
        · rw [if_neg (by omega), if_neg e]
          exact hF j (by omega) cV
      · rw [List.length_append, List.length_singleton] at hj
        by_cases e : j = E
        · rw [if_pos (by omega), if_pos e]
          exact plV_start (g := nV) (mcN_self _ _ _)
        · rw [if_neg (by omega), if_neg e]
          exact hF j (by omega) nV
    wtm_at "gx"
    refine ⟨_, _, _, E, rfl, rgc_dn (by omega), for_dn (fun k σ H' => ∃ y3 y4, σ = [some (V.ref p), some (Tx [c]), some (V.int E), y3, y4] ∧ Bt3 p cd kd H H' ∧ WaysG K H' p (l ++ [c]) W cd kd (crs ++ [r1]) (krs ++ [r2]) (fun j => if j = E then plV cV (mcN (l ++ [c]) W) E k else colV cV (mcN (l ++ [c]) W) j (j + 1)) (fun j => if j = E then plV nV (mcN (l ++ [c]) W) E k else colV nV (mcN (l ++ [c]) W) j (j + 1))) ⟨_, _, rfl, bt7, G7⟩ (fun k σ H' hk hv => ?_) (fun σ H' hv => ?_)⟩
    · obtain ⟨y3, y4, rfl, bt, G⟩ := hv
      wtm_at "unf"
      wtm_at "gx"
      refine g_wmet G (fun _ _ _ _ => rfl) ?_
      wtm_at "gx"
      refine ⟨p, k, E, l ++ [c], W, cd, kd, _, _, _, _, rfl, G, hk, by omega, by omega, by simp; omega, by simp; omega, fun a b h1 h2 h3 h4 => ?_, fun hpt a b h1 h2 => hN hpt a b h1 (by omega), fun t H8 nt s8 et => ?_⟩
      · by_cases e : b = E
        · subst e
          refine ⟨?_, ?_⟩
          · show (if b = b then _ else _)[a]? = _
            rw [if_pos rfl]
            exact plV_at (by omega) (by omega)
          · show (if b = b then _ else _)[a]? = _
            rw [if_pos rfl]
            exact plV_at (by omega) (by omega)
        · refine ⟨?_, ?_⟩
          · show (if b = E then _ else _)[a]? = _
            rw [if_neg e]
            exact colV_at (by omega)
          · show (if b = E then _ else _)[a]? = _
            rw [if_neg e]
            exact colV_at (by omega)
      have G8 := G.same s8
      wtm_at "gx"
      refine ⟨t, _, rfl, st_of et, rfl, _, _, rfl, ?_⟩
      obtain ⟨ra, ha1, ha2, ha3⟩ := G8.c.row (k := E) (by rw [List.length_append, List.length_singleton]; omega)
      obtain ⟨rb, hb1, hb2, hb3⟩ := G8.k.row (k := E) (by rw [List.length_append, List.length_singleton]; omega)
      have era : ra = r1 := by
        rw [List.getElem?_append_right (by omega), hcl, Nat.sub_self] at ha1
        exact (Option.some.inj ha1).symm
      have erb : rb = r2 := by
        rw [List.getElem?_append_right (by omega), hkl, Nat.sub_self] at hb1
        exact (Option.some.inj hb1).symm
      subst era erb
      rw [if_pos rfl] at ha3 hb3
      wtm_at "gx"
      refine g_wcost T G8 ?_
      wtm_at "gx"
      refine g_ixLn E (sq_of G8.c.hd) rfl ha2 ?_
      wtm_at "gx"
      refine g_setLn k ha3 rfl (by rw [plV_len]; omega) fun H9 b9 e9 => ?_
      rw [plV_set (by omega)] at e9
      obtain ⟨dx8, wd8, hob8, hwd8⟩ := G8.ob
      have hsepa := G8.sep ra (List.mem_cons_of_mem _ (List.mem_of_getElem? ha1))
      rw [List.mem_cons, not_or] at hsepa
      have c9 := G8.c.set ha1 b9 e9
      have k9 := G8.k.but b9 hsepa.1 hsepa.2
      have hpa : p ≠ ra := fun e => by rw [← e, hob8] at ha3; cases ha3
      have hob9 := b9 _ _ hpa hob8
      have hwd9 := hwd8.but b9 ha3
      refine ⟨_, _, rfl, ?_⟩
      wtm_at "gx"
      refine g_fld hob9 T.cl_Ways T.n_Ways_counts (wfl_counts ..) ?_
      wtm_at "gx"
      refine g_ixLn E (sq_of k9.hd) rfl hb2 ?_
      wtm_at "gx"
      have hrab : rb ≠ ra := fun e => hsepa.2 (by rw [← e]; exact List.mem_of_getElem? hb1)
      have hb9 := b9 _ _ hrab hb3
      refine g_setLn k hb9 rfl (by rw [plV_len]; omega) fun H10 b10 e10 => ?_
      rw [plV_set (by omega)] at e10
      have hsepb : ∀ x ∈ cd :: (crs ++ [ra]), x ≠ rb := fun x hx e => G8.sep x hx (by rw [e]; exact List.mem_cons_of_mem _ (List.mem_of_getElem? hb1))
      have c10 := c9.but b10 (fun e => hsepb cd (List.mem_cons_self ..) e.symm) (fun h => hsepb rb (List.mem_cons_of_mem _ h) rfl)
      have k10 := k9.set hb1 b10 e10
      have hpb : p ≠ rb := fun e => by rw [← e, hob8] at hb3; cases hb3
      refine ⟨rfl, _, _, rfl, fun x o h1 h2 h3 hx => ?_, ⟨dx8, wd8, b10 _ _ hpb hob9, hwd9.but b10 hb9⟩, c10.congr fun j hj => ?_, k10.congr fun j hj => ?_, G8.sep⟩
      · exact b10 _ _ (fun e => by rw [e, nr20] at hx; cases hx) (b9 _ _ (fun e => by rw [e, nr10] at hx; cases hx) (s8 _ _ (bt x o h1 h2 h3 hx)))
      · by_cases e : j = E
        · rw [if_pos e, if_pos e]
        · rw [if_neg e, if_neg e, if_neg e]
      · by_cases e : j = E
        · rw [if_pos e, if_pos e]
        · rw [if_neg e, if_neg e, if_neg e]
    · obtain ⟨y3, y4, rfl, bt, G⟩ := hv
      refine q r1 r2 H' bt nr10 nr20 ⟨?_, by simp; omega, by simp; omega⟩
      obtain ⟨ob, c, k, sep⟩ := G
      refine ⟨ob, c.congr fun j hj => ?_, k.congr fun j hj => ?_, sep⟩
      · by_cases e : j = E
        · rw [if_pos e, plV_zero, e]
        · rw [if_neg e]
      · by_cases e : j = E
        · rw [if_pos e, plV_zero, e]
        · rw [if_neg e]
/-! Ways.__init__ -/
def sp_Ways_init (K : PySem.W.Frag) : Sp := fun vs H Q _ => ∃ (p dx : Addr) (l : List Nat) (wd : V) (W : Wd), vs = [.ref p, Tx l, wd] ∧ H p = some (.ins (He.ga K "Ways") dx []) ∧ WdIs K H wd W ∧ l.length ≤ 1000 ∧ (∀ l' : List Nat, W.pt = true → ∀ a b, a ≤ b → b ≤ l'.length → mcN l' W a b ≠ none) ∧ ∀ (cd kd : Addr) (crs krs : List Addr) (H' : Hp), But p H H' → H cd = none → H kd = none → WaysAt K H' p l W cd kd crs krs → Q .non H'
theorem ok_Ways_init (T : Facts K mg) : C8.Mak P w K mg base 6 "Ways" (He.ga K "Ways") (sp_Ways_init K) [] := by
  refine makD T.k_Ways_init sc_Ways_init (fun vs H Q E h => ?_) (fun f cdv A outer s H vs Q E hr h => ?_)
  · obtain ⟨p, dx, l, wd, W, rfl, hp, hw, hl, hN, q⟩ := h; rfl
  · obtain ⟨p, dx, l, wd, W, rfl, hp, hw, hl, hN, q⟩ := h
    refine ⟨_, (pss_cons (ps_fld (pv 0) (pe_strS (l := []) (by decide +kernel)) rfl)
       (pss_cons (ps_fld (pv 0) (pv 2) rfl)
       (pss_cons (ps_fld (pv 0) (pe_lst (pa_cons (pe_lst (pa_cons pe_int pa_nil)) pa_nil)) rfl)
       (pss_cons (ps_fld (pv 0) (pe_lst (pa_cons (pe_lst (pa_cons pe_int pa_nil)) pa_nil)) rfl)
       (pss_one (ps_for PassesOwn.never rfl (pi_str (pv 1)) (pg_name (i := 3) sc_Ways_init.nd rfl (Or.inl rfl))
       (pss_one (ps_expr (pe_met (ok_Ways_grow T) hr (by omega) (pv 0) (pa_cons (pv 3) pa_nil)))))))))), ?_⟩
    rw [st_Ways_init]
    wtm_at "unf"
    wtm_at "gx"
    refine g_sfld hp T.cl_Ways T.n_Ways_signs (by decide) fun H1 b1 e1 => ?_
    wtm_at "unf"
    wtm_at "gx"
    refine g_sfld e1 T.cl_Ways T.n_Ways_words (by decide) fun H2 b2 e2 => ?_
    wtm_at "unf"
    wtm_at "gx"
    refine g_lst (by show 1 ≤ 100000; decide) fun r1 H3 nr1 s3 er1 => ?_
    refine g_lst (by show 1 ≤ 100000; decide) fun cd H4 ncd s4 ecd => ?_
    wtm_at "gx"
    refine g_sfld (s4 _ _ (s3 _ _ e2)) T.cl_Ways T.n_Ways_costs (by show 2 < 1000; decide) fun H5 b5 e5 => ?_
    wtm_at "unf"
    wtm_at "gx"
    refine g_lst (by show 1 ≤ 100000; decide) fun r2 H6 nr2 s6 er2 => ?_
    refine g_lst (by show 1 ≤ 100000; decide) fun kd H7 nkd s7 ekd => ?_
    wtm_at "gx"
    refine g_sfld (s7 _ _ (s6 _ _ e5)) T.cl_Ways T.n_Ways_counts (by show 3 < 1000; decide) fun H8 b8 e8 => ?_
    have e8' : H8 p = some (.ins (He.ga K "Ways") dx (wfl [] wd cd kd)) := e8
    have hnp : ∀ {x : Addr} {G : Hp}, G x = none → ∀ o, G p = some o → x ≠ p := fun h o h' e => by rw [e, h'] at h; cases h
    have p1 : r1 ≠ p := hnp nr1 _ e2
    have p2 : cd ≠ p := hnp ncd _ (s3 _ _ e2)
    have p3 : r2 ≠ p := hnp nr2 _ e5
    have p4 : kd ≠ p := hnp nkd _ (s6 _ _ e5)
    have d1 : r1 ≠ cd := ne_new ncd er1
    have er1' : H5 r1 = some (.lst [V.int 0]) := b5 _ _ p1 (s4 _ _ er1)
    have ecd' : H5 cd = some (.lst [V.ref r1]) := b5 _ _ p2 ecd
    have d2 : r1 ≠ r2 := ne_new nr2 er1'
    have d3 : cd ≠ r2 := ne_new nr2 ecd'
    have d4 : r1 ≠ kd := ne_new nkd (s6 _ _ er1')
    have d5 : cd ≠ kd := ne_new nkd (s6 _ _ ecd')
    have d6 : r2 ≠ kd := ne_new nkd er2
    have b2' : But p H H2 := But.tr b2 b1
    have b5' : But p H H5 := But.tr b5 (But.sa s4 (But.sa s3 b2'))
    have b8' : But p H H8 := But.tr b8 (But.sa s7 (But.sa s6 b5'))
    have ncd0 : H cd = none := But.fr (s3.free ncd) b2' p2
    have nkd0 : H kd = none := But.fr (s6.free nkd) b5' p4
    have hwd8 : WdIs K H8 wd W := ((((((hw.butI b1 hp).butI b2 e1).same s3).same s4).butI b5 (s4 _ _ (s3 _ _ e2))).same (s6.trans s7)).butI b8 (s7 _ _ (s6 _ _ e5))
    have A0 : WaysAt K H8 p [] W cd kd [r1] [r2] := by
      refine ⟨⟨⟨dx, wd, e8', hwd8⟩, ⟨b8 _ _ p2 (s7 _ _ (s6 _ _ ecd')), fun k r h => ?_, by simp, by simpa using Ne.symm d1⟩, ⟨b8 _ _ p4 ekd, fun k r h => ?_, by simp, by simpa using Ne.symm d6⟩, fun x hx hy => ?_⟩, rfl, rfl⟩
      · cases k with
        | zero =>
          have : r1 = r := Option.some.inj h
          subst this
          rw [b8 _ _ p1 (s7 _ _ (s6 _ _ er1'))]
          rfl
        | succ k => simp at h
      · cases k with
        | zero =>
          have : r2 = r := Option.some.inj h
          subst this
          rw [b8 _ _ p3 (s7 _ _ er2)]
          rfl
        | succ k => simp at h
      · simp only [List.mem_cons, List.not_mem_nil, or_false] at hx hy
        rcases hx with rfl | rfl <;> rcases hy with h | h
        · exact d5 h
        · exact d3 h
        · exact d4 h
        · exact d2 h
    wtm_at "unf"
    wtm_at "gx"
    refine ⟨_, rfl, for_txt (fun pre σ H' => ∃ (crs krs : List Addr) (y : Option V), σ = [some (V.ref p), some (Tx l), some wd, y] ∧ But p H H' ∧ WaysAt K H' p pre W cd kd crs krs) ⟨[r1], [r2], _, rfl, b8', A0⟩ (fun pre c post σ H' e hv => ?_) (fun σ H' hv => ?_)⟩
    · obtain ⟨crs, krs, y, rfl, bH, hA⟩ := hv
      have hpl : pre.length < 1000 := by rw [e] at hl; simp at hl; omega
      wtm_at "unf"
      wtm_at "gx"
      refine g_wmet hA.g (fun _ _ _ _ => rfl) ?_
      wtm_at "gx"
      refine ⟨p, c, pre, W, cd, kd, crs, krs, rfl, hA, hpl, fun hpt a b h1 h2 => hN (pre ++ [c]) hpt a b h1 (by simpa using h2), fun s1 s2 H9 bt n1 n2 hA9 => ?_⟩
      exact ⟨_, _, _, rfl, fun x o hx ho => bt x o hx (fun e => by rw [e, ncd0] at ho; cases ho) (fun e => by rw [e, nkd0] at ho; cases ho) (bH x o hx ho), hA9⟩
    · obtain ⟨crs, krs, y, rfl, bH, hA⟩ := hv
      wtm_at "unf"
      exact q cd kd crs krs H' bH ncd0 nkd0 hA
def allW : Wd := ⟨true, true, true⟩
/-! how_many -/
def sp_how_many : Sp := fun vs H Q _ => ∃ l : List Nat, vs = [Tx l] ∧ l.length ≤ 1000 ∧ ∀ H', Same H H' → Q (.int (cnt (mcN l allW 0 l.length))) H'
theorem ok_how_many (T : Facts K mg) : C8.Cal P w K mg base 8 "how_many" sp_how_many [] := by
  refine calD T.f_how_many sc_how_many (fun vs H Q E h => ?_) (fun f cdv A outer s H vs Q E hr h => ?_)
  · obtain ⟨l, rfl, hl, q⟩ := h; rfl
  · obtain ⟨l, rfl, hl, q⟩ := h
    refine ⟨_, (pss_one (ps_ret (pe_met (ok_Ways_count T) hr (by omega) (pe_mak (ok_Ways_init T) hr (by omega) rfl (pa_cons (pv 0) (pa_cons (C8.pe_gc rfl T.c_ALL_WORDS) pa_nil))) (pa_cons pe_int (pa_cons (pe_callB call_lenT rfl T.b_len PySem.boot_len (pa_cons (pv 0) pa_nil)) pa_nil))))), ?_⟩
    rw [st_how_many]
    wtm_at "unf"
    wtm_at "gx"
    refine g_mak fun x dx H1 nx s1 ex => ?_
    refine ⟨x, dx, l, _, allW, rfl, ex, ⟨_, _, rfl, T.q_ALL_WORDS H1, by decide +kernel, by decide +kernel, by decide +kernel, by decide +kernel⟩, hl, fun l' _ a b h1 h2 => ?_, fun cd kd crs krs H2 b2 n1 n2 hA => ?_⟩
    · have := mcN_some (l := l') (W := allW) rfl (b - a) a (by omega)
      rw [show a + (b - a) = b by omega] at this
      exact this
    refine ⟨rfl, ?_⟩
    refine g_wmet hA.g (fun _ _ _ _ => rfl) ?_
    wtm_at "gx"
    refine ⟨x, 0, l.length, l, allW, cd, kd, crs, krs, _, _, _, rfl, hA.g, by have := hA.kl; omega, colV_at (by omega), ?_⟩
    rw [nV_cnt]
    exact q H2 (Same.b0 b2 s1 nx)
end
end K27

set_option maxHeartbeats 4000000
namespace K27
open PySem PySem.Spec PyProof.Rows L2 SX Ly
local macro_rules | `(tactic| wtm_at "unf") => `(tactic| (try simp only [tMetX, tOwnX, tChain, tSeq, tNext, tBreak, tCont, tDrop, tRet, tRetN, tIfS, tAsg, tAug, tC, tOp, tUn, tNil, tCons, tOwn, tCB, tTest, tB, tAnd, tOr, tNot, tAndV, tOrV, tNotV, tIf, gName, gSub, tBM, tBM0, tM0, tM1, tSl, tPart_eq, tNoPart, tLst_eq, tTup_eq, tRevL_eq, tReplT, tRevS, tDGet_eq, sDPut_eq, tDNewT_eq, tMet, tMak, tFld_eq, sFld_eq, C8.tCut, wipe, tYes, gTup, gCons, gNil, List.set_cons_zero, List.set_cons_succ, if_true, if_false, Bool.false_eq_true, Bool.not_true, Bool.not_false, true_and, reduceIte, cx_K, tFor_eq, tLc_eq, iStr, iList, iTup, iRng1, iRng2, iRng3, iEnum, iZip, iEnumS, iZipS]))
local macro_rules | `(tactic| wtm_at "ne") => `(tactic| first | assumption | (apply Ne.symm; assumption) | (apply ne_new; (· assumption); (· wtm_at "lk")) | (apply Ne.symm; apply ne_new; (· assumption); (· wtm_at "lk")))
local macro_rules | `(tactic| wtm_at "lk") => `(tactic| first | assumption | exact upd_same | (apply Same.get; (· assumption); (· wtm_at "lk")) | (apply But.get; (· assumption); (· wtm_at "ne"); (· wtm_at "lk")))
local macro_rules | `(tactic| wtm_at "sq") => `(tactic| first | assumption | (apply sq_of; wtm_at "lk") | (apply Same.seq; (· assumption); (· wtm_at "sq")) | (apply But.sq; (· assumption); (· wtm_at "ne"); (· wtm_at "sq")))
local macro_rules | `(tactic| wtm_at "fr") => `(tactic| first | assumption | (apply Same.fr; (· assumption); (· wtm_at "sm")) | (apply But.fr; (· assumption); (· wtm_at "sm"); (· wtm_at "ne")))
local macro_rules | `(tactic| wtm_at "sm") => `(tactic| first | exact Same.refl _ | exact But.refl | assumption | (apply Same.tr; (· assumption); (· wtm_at "sm")) | (apply Same.b0; (· assumption); (· wtm_at "sm"); (· wtm_at "fr")) | (apply But.sa; (· assumption); (· wtm_at "sm")) | (apply But.tr; (· assumption); (· wtm_at "sm")) | (apply But.b0; (· assumption); (· wtm_at "sm"); (· wtm_at "fr")) | (apply Same.toBut; wtm_at "sm"))
local macro_rules | `(tactic| wtm_at "sc") => `(tactic| first | exact Int.zero_lt_one | (show (0 : Int) < _; omega) | (show (0 : Int) < _; decide) | exact ⟨by omega, by omega⟩ | exact .inl ⟨by omega, by omega⟩ | exact .inr ⟨by omega, by omega⟩)
local macro_rules | `(tactic| wtm_at "go1") => `(tactic| first | ((with_reducible apply g_var); (· exact rfl)) | with_reducible apply g_I0 | ((with_reducible apply g_I); (· wtm_at "sc")) | with_reducible apply g_U | with_reducible apply g_ipI | ((with_reducible apply g_addT); (· first | omega | (simp; done) | (simp; omega))) | with_reducible apply g_inT | with_reducible apply g_ninT | ((with_reducible apply g_lenT); (· omega)) | with_reducible apply g_findT1 | with_reducible apply g_str | with_reducible apply g_part | with_reducible apply g_intB | ((with_reducible apply g_ixL); (· wtm_at "sq"); (· exact rfl)) | ((with_reducible apply g_setL); (· wtm_at "lk"); (· exact rfl)) | ((with_reducible apply g_eq); (· rfl)) | ((with_reducible apply g_ne); (· rfl)))
local macro_rules | `(tactic| wtm_at "go") => `(tactic| repeat wtm_at "go1")
local macro_rules | `(tactic| wtm_at "lp") => `(tactic| skip)
local macro_rules | `(tactic| wtm_at "om") => `(tactic| first | omega | (simp; done) | (simp; omega) | (simp at *; omega))
local macro_rules | `(tactic| wtm_at "ty") => `(tactic| first | exact ty_str | exact ty_int | exact ty_bl | exact ty_non | (apply ty_lst; wtm_at "lk") | (apply ty_tup; wtm_at "lk"))
local macro_rules | `(tactic| wtm_at "kb") => `(tactic| first | exact kb_str_str | exact kb_str_int | exact kb_str_bool | exact kb_str_list | exact kb_str_tuple | exact kb_int_str | exact kb_int_int | exact kb_int_bool | exact kb_int_list | exact kb_int_tuple | exact kb_bool_str | exact kb_bool_int | exact kb_bool_bool | exact kb_bool_list | exact kb_bool_tuple | exact kb_list_str | exact kb_list_int | exact kb_list_bool | exact kb_list_list | exact kb_list_tuple | exact kb_tuple_str | exact kb_tuple_int | exact kb_tuple_bool | exact kb_tuple_list | exact kb_tuple_tuple | exact kb_NoneType_str | exact kb_NoneType_int | exact kb_NoneType_bool | exact kb_NoneType_list | exact kb_NoneType_tuple | exact kb_dict_str | exact kb_dict_int | exact kb_dict_bool | exact kb_dict_list | exact kb_dict_tuple)
local macro_rules | `(tactic| wtm_at "gx1") => `(tactic| first | ((with_reducible apply g_eqS); (· exact rfl)) | ((with_reducible apply g_neS); (· exact rfl)) | wtm_at "go1" | with_reducible apply g_min2 | with_reducible apply g_max2 | with_reducible apply g_T | with_reducible apply g_F | with_reducible apply g_NT | with_reducible apply g_NF | with_reducible apply g_nT | with_reducible apply g_nF | with_reducible apply g_RT | with_reducible apply g_RF | ((with_reducible apply g_isi); (· wtm_at "ty"); (· wtm_at "kb")) | ((with_reducible apply g_ixAU3); (· wtm_at "lk"); (· exact rfl)) | ((with_reducible apply g_ixAL3); (· wtm_at "lk"); (· exact rfl)) | ((with_reducible apply g_ixU3); (· wtm_at "lk"); (· exact rfl)) | ((with_reducible apply g_lenL3); (· wtm_at "lk")) | ((with_reducible apply g_lenU3); (· wtm_at "lk")) | ((with_reducible apply g_tyL3); (· wtm_at "lk")) | ((with_reducible apply g_lenT); (· wtm_at "pv")) | wtm_at "tr" | with_reducible apply g_ET | with_reducible apply g_EF | with_reducible apply g_EnT | with_reducible apply g_EnF)
local macro_rules | `(tactic| wtm_at "pv") => `(tactic| first | exact rfl | assumption | omega | (simp; done) | (simp; omega))
local macro_rules | `(tactic| wtm_at "tr") => `(tactic| first | ((with_reducible apply g_Td); (· wtm_at "pv")) | ((with_reducible apply g_Fd); (· wtm_at "pv")) | ((with_reducible apply g_NTd); (· wtm_at "pv")) | ((with_reducible apply g_NFd); (· wtm_at "pv")) | ((with_reducible apply g_nTd); (· wtm_at "pv")) | ((with_reducible apply g_nFd); (· wtm_at "pv")) | ((with_reducible apply g_RTd); (· wtm_at "pv")) | ((with_reducible apply g_RFd); (· wtm_at "pv")))
local macro_rules | `(tactic| wtm_at "gx") => `(tactic| repeat wtm_at "gx1")

section
variable {P : Program} {w : World} {K : PySem.W.Frag} {mg : Str → Option Value} {base : Heap}
/-! Ways.cost -/
def sp_Ways_cost (K : PySem.W.Frag) : Sp := fun vs H Q _ => ∃ (p : Addr) (i j : Nat) (l : List Nat) (W : Wd) (cd kd : Addr) (crs krs : List Addr) (fc fk : Nat → List V) (v : V), vs = [.ref p, .int i, .int j] ∧ WaysG K H p l W cd kd crs krs fc fk ∧ j < crs.length ∧ (fc j)[i]? = some v ∧ Q v H
theorem ok_Ways_cost (T : Facts K mg) : C8.Met P w K mg base 1 (He.ga K "Ways") "cost" (sp_Ways_cost K) [] := by
  refine metD T.m_Ways_cost sc_Ways_cost (fun vs H Q E h => ?_) (fun f cdv A outer s H vs Q E hr h => ?_)
  · obtain ⟨p, i, j, l, W, cd, kd, crs, krs, fc, fk, v, rfl, hG, hj, hv, q⟩ := h; rfl
  · obtain ⟨p, i, j, l, W, cd, kd, crs, krs, fc, fk, v, rfl, hG, hj, hv, q⟩ := h
    refine ⟨_, (pss_one (ps_ret (pe_ix ix_list (pe_ix ix_list (pe_fld (pv 0) rfl) (pv 2) (fun _ _ => rfl)) (pv 1) (fun _ _ => rfl)))), ?_⟩
    rw [st_Ways_cost]
    obtain ⟨r, h1, h2, h3⟩ := hG.c.row hj
    wtm_at "unf"
    wtm_at "gx"
    refine g_wcost T hG ?_
    wtm_at "gx"
    refine g_ixL (sq_of hG.c.hd) (atI_of h2) ?_
    wtm_at "gx"
    exact g_ixL (sq_of h3) (atI_of hv) q
end
end K27

set_option maxHeartbeats 4000000
namespace K27
open PySem PySem.Spec PyProof.Rows L2 SX Ly
local macro_rules | `(tactic| wtm_at "unf") => `(tactic| (try simp only [tMetX, tOwnX, tChain, tSeq, tNext, tBreak, tCont, tDrop, tRet, tRetN, tIfS, tAsg, tAug, tC, tOp, tUn, tNil, tCons, tOwn, tCB, tTest, tB, tAnd, tOr, tNot, tAndV, tOrV, tNotV, tIf, gName, gSub, tBM, tBM0, tM0, tM1, tSl, tPart_eq, tNoPart, tLst_eq, tTup_eq, tRevL_eq, tReplT, tRevS, tDGet_eq, sDPut_eq, tDNewT_eq, tMet, tMak, tFld_eq, sFld_eq, C8.tCut, wipe, tYes, gTup, gCons, gNil, List.set_cons_zero, List.set_cons_succ, if_true, if_false, Bool.false_eq_true, Bool.not_true, Bool.not_false, true_and, reduceIte, cx_K, tFor_eq, tLc_eq, iStr, iList, iTup, iRng1, iRng2, iRng3, iEnum, iZip, iEnumS, iZipS]))
local macro_rules | `(tactic| wtm_at "ne") => `(tactic| first | assumption | (apply Ne.symm; assumption) | (apply ne_new; (· assumption); (· wtm_at "lk")) | (apply Ne.symm; apply ne_new; (· assumption); (· wtm_at "lk")))
local macro_rules | `(tactic| wtm_at "lk") => `(tactic| first | assumption | exact upd_same | (apply Same.get; (· assumption); (· wtm_at "lk")) | (apply But.get; (· assumption); (· wtm_at "ne"); (· wtm_at "lk")))
local macro_rules | `(tactic| wtm_at "sq") => `(tactic| first | assumption | (apply sq_of; wtm_at "lk") | (apply Same.seq; (· assumption); (· wtm_at "sq")) | (apply But.sq; (· assumption); (· wtm_at "ne"); (· wtm_at "sq")))
local macro_rules | `(tactic| wtm_at "fr") => `(tactic| first | assumption | (apply Same.fr; (· assumption); (· wtm_at "sm")) | (apply But.fr; (· assumption); (· wtm_at "sm"); (· wtm_at "ne")))
local macro_rules | `(tactic| wtm_at "sm") => `(tactic| first | exact Same.refl _ | exact But.refl | assumption | (apply Same.tr; (· assumption); (· wtm_at "sm")) | (apply Same.b0; (· assumption); (· wtm_at "sm"); (· wtm_at "fr")) | (apply But.sa; (· assumption); (· wtm_at "sm")) | (apply But.tr; (· assumption); (· wtm_at "sm")) | (apply But.b0; (· assumption); (· wtm_at "sm"); (· wtm_at "fr")) | (apply Same.toBut; wtm_at "sm"))
local macro_rules | `(tactic| wtm_at "sc") => `(tactic| first | exact Int.zero_lt_one | (show (0 : Int) < _; omega) | (show (0 : Int) < _; decide) | exact ⟨by omega, by omega⟩ | exact .inl ⟨by omega, by omega⟩ | exact .inr ⟨by omega, by omega⟩)
local macro_rules | `(tactic| wtm_at "go1") => `(tactic| first | ((with_reducible apply g_var); (· exact rfl)) | with_reducible apply g_I0 | ((with_reducible apply g_I); (· wtm_at "sc")) | with_reducible apply g_U | with_reducible apply g_ipI | ((with_reducible apply g_addT); (· first | omega | (simp; done) | (simp; omega))) | with_reducible apply g_inT | with_reducible apply g_ninT | ((with_reducible apply g_lenT); (· omega)) | with_reducible apply g_findT1 | with_reducible apply g_str | with_reducible apply g_part | with_reducible apply g_intB | ((with_reducible apply g_ixL); (· wtm_at "sq"); (· exact rfl)) | ((with_reducible apply g_setL); (· wtm_at "lk"); (· exact rfl)) | ((with_reducible apply g_eq); (· rfl)) | ((with_reducible apply g_ne); (· rfl)))
local macro_rules | `(tactic| wtm_at "go") => `(tactic| repeat wtm_at "go1")
local macro_rules | `(tactic| wtm_at "lp") => `(tactic| skip)
local macro_rules | `(tactic| wtm_at "om") => `(tactic| first | omega | (simp; done) | (simp; omega) | (simp at *; omega))
local macro_rules | `(tactic| wtm_at "ty") => `(tactic| first | exact ty_str | exact ty_int | exact ty_bl | exact ty_non | (apply ty_lst; wtm_at "lk") | (apply ty_tup; wtm_at "lk"))
local macro_rules | `(tactic| wtm_at "kb") => `(tactic| first | exact kb_str_str | exact kb_str_int | exact kb_str_bool | exact kb_str_list | exact kb_str_tuple | exact kb_int_str | exact kb_int_int | exact kb_int_bool | exact kb_int_list | exact kb_int_tuple | exact kb_bool_str | exact kb_bool_int | exact kb_bool_bool | exact kb_bool_list | exact kb_bool_tuple | exact kb_list_str | exact kb_list_int | exact kb_list_bool | exact kb_list_list | exact kb_list_tuple | exact kb_tuple_str | exact kb_tuple_int | exact kb_tuple_bool | exact kb_tuple_list | exact kb_tuple_tuple | exact kb_NoneType_str | exact kb_NoneType_int | exact kb_NoneType_bool | exact kb_NoneType_list | exact kb_NoneType_tuple | exact kb_dict_str | exact kb_dict_int | exact kb_dict_bool | exact kb_dict_list | exact kb_dict_tuple)
local macro_rules | `(tactic| wtm_at "gx1") => `(tactic| first | ((with_reducible apply g_eqS); (· exact rfl)) | ((with_reducible apply g_neS); (· exact rfl)) | wtm_at "go1" | with_reducible apply g_min2 | with_reducible apply g_max2 | with_reducible apply g_T | with_reducible apply g_F | with_reducible apply g_NT | with_reducible apply g_NF | with_reducible apply g_nT | with_reducible apply g_nF | with_reducible apply g_RT | with_reducible apply g_RF | ((with_reducible apply g_isi); (· wtm_at "ty"); (· wtm_at "kb")) | ((with_reducible apply g_ixAU3); (· wtm_at "lk"); (· exact rfl)) | ((with_reducible apply g_ixAL3); (· wtm_at "lk"); (· exact rfl)) | ((with_reducible apply g_ixU3); (· wtm_at "lk"); (· exact rfl)) | ((with_reducible apply g_lenL3); (· wtm_at "lk")) | ((with_reducible apply g_lenU3); (· wtm_at "lk")) | ((with_reducible apply g_tyL3); (· wtm_at "lk")) | ((with_reducible apply g_lenT); (· wtm_at "pv")) | wtm_at "tr" | with_reducible apply g_ET | with_reducible apply g_EF | with_reducible apply g_EnT | with_reducible apply g_EnF)
local macro_rules | `(tactic| wtm_at "pv") => `(tactic| first | exact rfl | assumption | omega | (simp; done) | (simp; omega))
local macro_rules | `(tactic| wtm_at "tr") => `(tactic| first | ((with_reducible apply g_Td); (· wtm_at "pv")) | ((with_reducible apply g_Fd); (· wtm_at "pv")) | ((with_reducible apply g_NTd); (· wtm_at "pv")) | ((with_reducible apply g_NFd); (· wtm_at "pv")) | ((with_reducible apply g_nTd); (· wtm_at "pv")) | ((with_reducible apply g_nFd); (· wtm_at "pv")) | ((with_reducible apply g_RTd); (· wtm_at "pv")) | ((with_reducible apply g_RFd); (· wtm_at "pv")))
local macro_rules | `(tactic| wtm_at "gx") => `(tactic| repeat wtm_at "gx1")

section
variable {P : Program} {w : World} {K : PySem.W.Frag} {mg : Str → Option Value} {base : Heap}
/-! ### the walk: a place, what is open, what may come behind -/
def kfl (pw : Addr) (e i : Int) (ok lv : Addr) : List (Str × V) := [("ways", .ref pw), ("end", .int e), ("at", .int i), ("open_kinds", .ref ok), ("levels", .ref lv)]
theorem kfl_ways (pw : Addr) (e i : Int) (ok lv : Addr) : (kfl pw e i ok lv).lookup ("ways" : Str) = some (.ref pw) := rfl
theorem kfl_end (pw : Addr) (e i : Int) (ok lv : Addr) : (kfl pw e i ok lv).lookup ("end" : Str) = some (.int e) := rfl
theorem kfl_at (pw : Addr) (e i : Int) (ok lv : Addr) : (kfl pw e i ok lv).lookup ("at" : Str) = some (.int i) := rfl
theorem kfl_open (pw : Addr) (e i : Int) (ok lv : Addr) : (kfl pw e i ok lv).lookup ("open_kinds" : Str) = some (.ref ok) := rfl
theorem kfl_levels (pw : Addr) (e i : Int) (ok lv : Addr) : (kfl pw e i ok lv).lookup ("levels" : Str) = some (.ref lv) := rfl
theorem kfl_put (pw : Addr) (e i j : Int) (ok lv : Addr) : putF "at" (.int j) (kfl pw e i ok lv) = kfl pw e j ok lv := rfl
def LvRow (H : Hp) (a : Addr) (F : Nat → MC) (n : Nat) : Prop := ∃ rs : List Addr, H a = some (.lst (rs.map V.ref)) ∧ rs.length = n ∧ ∀ k r, rs[k]? = some r → H r = some (.tup [cV (F k), nV (F k)])
theorem LvRow.same {H H' : Hp} {a : Addr} {F : Nat → MC} {n : Nat} (h : LvRow H a F n) (s : Same H H') : LvRow H' a F n := by
  obtain ⟨rs, h1, h2, h3⟩ := h
  exact ⟨rs, s _ _ h1, h2, fun k r e => s _ _ (h3 k r e)⟩
theorem LvRow.but {H H' : Hp} {a p : Addr} {F : Nat → MC} {n : Nat} (h : LvRow H a F n) (s : But p H H') (hn : a ≠ p) (hp : ∀ ys, H p ≠ some (.tup ys)) : LvRow H' a F n := by
  obtain ⟨rs, h1, h2, h3⟩ := h
  exact ⟨rs, s _ _ hn h1, h2, fun k r e => s _ _ (fun q => hp _ (by rw [← q]; exact h3 k r e)) (h3 k r e)⟩
theorem LvRow.at {H : Hp} {a : Addr} {F : Nat → MC} {n k : Nat} (h : LvRow H a F n) (hk : k < n) : ∃ ys r, H a = some (.lst ys) ∧ ys[k]? = some (.ref r) ∧ H r = some (.tup [cV (F k), nV (F k)]) := by
  obtain ⟨rs, h1, h2, h3⟩ := h
  have e : rs[k]? = some rs[k] := List.getElem?_eq_getElem (by omega)
  exact ⟨_, _, h1, by rw [List.getElem?_map, e]; rfl, h3 k _ e⟩
def LvL (H : Hp) (W : Wd) (l : List Nat) : List Nat → List Addr → Prop
  | [], [a] => LvRow H a (LV W l []) (l.length + 1)
  | k :: st, a :: as => LvRow H a (LV W l (k :: st)) (l.length + 1) ∧ LvL H W l st as
  | _, _ => False
theorem LvL.same {H H' : Hp} {W : Wd} {l : List Nat} (s : Same H H') : ∀ {st : List Nat} {as : List Addr}, LvL H W l st as → LvL H' W l st as
  | [], [a], h => LvRow.same h s
  | k :: st, a :: as, h => ⟨LvRow.same h.1 s, LvL.same s h.2⟩
theorem LvL.but {H H' : Hp} {W : Wd} {l : List Nat} {p : Addr} (s : But p H H') (hp : ∀ ys, H p ≠ some (.tup ys)) : ∀ {st : List Nat} {as : List Addr}, LvL H W l st as → p ∉ as → LvL H' W l st as
  | [], [a], h, hn => LvRow.but h s (fun e => hn (by rw [e]; exact List.mem_cons_self ..)) hp
  | k :: st, a :: as, h, hn => ⟨LvRow.but h.1 s (fun e => hn (by rw [e]; exact List.mem_cons_self ..)) hp, LvL.but s hp h.2 fun q => hn (List.mem_cons_of_mem _ q)⟩
theorem LvL.top {H : Hp} {W : Wd} {l : List Nat} : ∀ {st : List Nat} {as : List Addr}, LvL H W l st as → ∃ a as0, as = a :: as0 ∧ LvRow H a (LV W l st) (l.length + 1)
  | [], [a], h => ⟨a, [], rfl, h⟩
  | k :: st, a :: as, h => ⟨a, as, rfl, h.1⟩
theorem LvL.len {H : Hp} {W : Wd} {l : List Nat} : ∀ {st : List Nat} {as : List Addr}, LvL H W l st as → as.length = st.length + 1
  | [], [a], h => rfl
  | k :: st, a :: as, h => by rw [List.length_cons, List.length_cons, LvL.len h.2]
theorem LvL.lsts {H : Hp} {W : Wd} {l : List Nat} : ∀ {st : List Nat} {as : List Addr}, LvL H W l st as → ∀ a ∈ as, ∃ ys, H a = some (.lst ys)
  | [], [a], h, x, hx => by
    obtain ⟨rs, h1, _⟩ := h
    rw [List.mem_singleton.mp hx]
    exact ⟨_, h1⟩
  | k :: st, a :: as, h, x, hx => by
    rcases List.mem_cons.mp hx with rfl | hx
    · obtain ⟨rs, h1, _⟩ := h.1
      exact ⟨_, h1⟩
    · exact LvL.lsts h.2 x hx
structure WalkAt (K : PySem.W.Frag) (H : Hp) (p pw : Addr) (l : List Nat) (W : Wd) (i : Nat) (st : List Nat) (ok lv : Addr) (as : List Addr) (cd kd : Addr) (crs krs : List Addr) : Prop where
  ob : ∃ dx, H p = some (.ins (He.ga K "Walk") dx (kfl pw l.length i ok lv))
  ws : WaysAt K H pw l W cd kd crs krs
  op : H ok = some (.lst (st.reverse.map fun k => V.int (knd k)))
  le : H lv = some (.lst (as.reverse.map V.ref))
  lev : LvL H W l st as
  n1 : ok ≠ lv
  n2 : ok ∉ cd :: crs ∧ ok ∉ kd :: krs
  n3 : lv ∉ cd :: crs ∧ lv ∉ kd :: krs
  n4 : ok ∉ as ∧ lv ∉ as
  cl : ∀ k ∈ st, k ∈ CLO
  il : i ≤ l.length
theorem WaysAt.same {K : PySem.W.Frag} {H H' : Hp} {p : Addr} {l : List Nat} {W : Wd} {cd kd : Addr} {crs krs : List Addr} (h : WaysAt K H p l W cd kd crs krs) (s : Same H H') : WaysAt K H' p l W cd kd crs krs := ⟨h.g.same s, h.cl, h.kl⟩
theorem WalkAt.same {K : PySem.W.Frag} {H H' : Hp} {p pw : Addr} {l : List Nat} {W : Wd} {i : Nat} {st : List Nat} {ok lv : Addr} {as : List Addr} {cd kd : Addr} {crs krs : List Addr} (h : WalkAt K H p pw l W i st ok lv as cd kd crs krs) (s : Same H H') : WalkAt K H' p pw l W i st ok lv as cd kd crs krs := by
  obtain ⟨dx, h1⟩ := h.ob
  exact ⟨⟨dx, s _ _ h1⟩, h.ws.same s, s _ _ h.op, s _ _ h.le, LvL.same s h.lev, h.n1, h.n2, h.n3, h.n4, h.cl, h.il⟩
section
variable {P : Program} {w : World} {K : PySem.W.Frag} {mg : Str → Option Value} {H : Hp} {p pw : Addr} {l : List Nat} {W : Wd} {i : Nat} {st : List Nat} {ok lv : Addr} {as : List Addr} {cd kd : Addr} {crs krs : List Addr} {Q : VK} {A : Prop}
theorem g_kways (T : Facts K mg) (G : WalkAt K H p pw l W i st ok lv as cd kd crs krs) (q : Q (.ref pw) H) : rFld K "ways" (.ref p) H Q := by
  obtain ⟨dx, h1⟩ := G.ob
  exact g_fld h1 T.cl_Walk T.n_Walk_ways (kfl_ways ..) q
theorem g_kend (T : Facts K mg) (G : WalkAt K H p pw l W i st ok lv as cd kd crs krs) (q : Q (.int l.length) H) : rFld K "end" (.ref p) H Q := by
  obtain ⟨dx, h1⟩ := G.ob
  exact g_fld h1 T.cl_Walk T.n_Walk_end (kfl_end ..) q
theorem g_kat (T : Facts K mg) (G : WalkAt K H p pw l W i st ok lv as cd kd crs krs) (q : Q (.int i) H) : rFld K "at" (.ref p) H Q := by
  obtain ⟨dx, h1⟩ := G.ob
  exact g_fld h1 T.cl_Walk T.n_Walk_at (kfl_at ..) q
theorem g_kopen (T : Facts K mg) (G : WalkAt K H p pw l W i st ok lv as cd kd crs krs) (q : Q (.ref ok) H) : rFld K "open_kinds" (.ref p) H Q := by
  obtain ⟨dx, h1⟩ := G.ob
  exact g_fld h1 T.cl_Walk T.n_Walk_open_kinds (kfl_open ..) q
theorem g_klev (T : Facts K mg) (G : WalkAt K H p pw l W i st ok lv as cd kd crs krs) (q : Q (.ref lv) H) : rFld K "levels" (.ref p) H Q := by
  obtain ⟨dx, h1⟩ := G.ob
  exact g_fld h1 T.cl_Walk T.n_Walk_levels (kfl_levels ..) q
theorem g_kmet {m : Str} (G : WalkAt K H p pw l W i st ok lv as cd kd crs krs) (hm : ∀ pw e i ok lv, (kfl pw e i ok lv).lookup m = none) (q : A) : rMetO (He.ga K "Walk") m (.ref p) H A := by
  obtain ⟨dx, h1⟩ := G.ob
  exact g_met h1 (hm _ _ _ _ _) q
end
/-- how what is open last can be closed at a place: how many deeds, where to go on -/
def clA (W : Wd) (l : List Nat) (k m : Nat) : List (Nat × Nat) := (if W.pt = true then [(1, m)] else []) ++ (match l[m]? with
  | none => []
  | some x => if x = k then [(0, m + 1)] else if x ∈ BRK ∧ W.tn = true then [(1, m + 1)] else [])
def clP (F : Nat → MC) (xs : List (Nat × Nat)) : MC := xs.foldl (fun a p => mAdd a (mMul (some (p.1, 1)) (F p.2))) none
theorem clP_snoc (F : Nat → MC) (xs : List (Nat × Nat)) (p : Nat × Nat) : clP F (xs ++ [p]) = mAdd (clP F xs) (mMul (some (p.1, 1)) (F p.2)) := by
  unfold clP
  rw [List.foldl_append]
  rfl
theorem clP_all (W : Wd) (l : List Nat) (k m : Nat) (F : Nat → MC) : clP F (clA W l k m) = clC W l k F m := by
  unfold clA clC
  have e1 : ∀ x : MC, mMul (some (0, 1)) x = x := mOne_mul
  cases l[m]? with
  | none =>
    by_cases hp : W.pt = true
    · rw [if_pos hp, if_pos hp]; dsimp only; rw [mAdd_none]; rfl
    · rw [if_neg hp, if_neg hp]; rfl
  | some x =>
    dsimp only
    by_cases hp : W.pt = true
    · rw [if_pos hp, if_pos hp]
      by_cases hx : x = k
      · rw [if_pos hx, if_pos hx]
        show mAdd (mAdd none _) (mMul (some (0, 1)) (F (m + 1))) = _
        rw [e1]; rfl
      · rw [if_neg hx, if_neg hx]
        by_cases ht : x ∈ BRK ∧ W.tn = true
        · rw [if_pos ht, if_pos ht]; rfl
        · rw [if_neg ht, if_neg ht, mAdd_none]; rfl
    · rw [if_neg hp, if_neg hp]
      by_cases hx : x = k
      · rw [if_pos hx, if_pos hx]
        show mMul (some (0, 1)) (F (m + 1)) = _
        rw [e1]; rfl
      · rw [if_neg hx, if_neg hx]
        by_cases ht : x ∈ BRK ∧ W.tn = true
        · rw [if_pos ht, if_pos ht]; rfl
        · rw [if_neg ht, if_neg ht]; rfl
theorem g_appP {H : Hp} {Q : VK} {a r : Addr} {xs : List (Nat × Nat)} {x : Nat × Nat} (h : Prs H a xs) (ht : H r = some (.tup [.int x.1, .int x.2])) (hl : xs.length < 90000) (q : ∀ H1, But a H H1 → Prs H1 a (xs ++ [x]) → Q .non H1) : rAppend (.ref a) [.ref r] H Q := by
  obtain ⟨rs, h1, h2, h3⟩ := h
  refine g_append1 h1 (by rw [List.length_map]; omega) fun H1 b1 e1 => q H1 b1 ?_
  refine Prs.snoc ⟨rs, h1, h2, h3⟩ ht b1 fun rs' e => ?_
  rw [h1] at e
  rw [e1]
  rw [show rs.map V.ref = rs'.map V.ref from by injection e with e; injection e]
theorem prs_lst {H : Hp} {a : Addr} {xs : List (Nat × Nat)} (h : Prs H a xs) : ∃ ys, H a = some (.lst ys) := by
  obtain ⟨rs, h1, _⟩ := h
  exact ⟨_, h1⟩
theorem knd_inj : ∀ k ∈ CLO, ∀ c ∈ CLO, knd k = knd c → k = c := by decide
theorem knd_oth : ∀ c ∈ OPN, knd (oth c) = knd c := by decide
theorem clo_knd : ∀ k ∈ CLO, CLO[knd k]? = some k := by decide
theorem WaysAt.butI {K : PySem.W.Frag} {H H' : Hp} {p q C dx : Addr} {l : List Nat} {W : Wd} {cd kd : Addr} {crs krs : List Addr} {fs : List (Str × V)} (h : WaysAt K H p l W cd kd crs krs) (b : But q H H') (hq : H q = some (.ins C dx fs)) (hne : p ≠ q) : WaysAt K H' p l W cd kd crs krs := by
  obtain ⟨dx', wd, h1, h2⟩ := h.g.ob
  obtain ⟨n1, n2⟩ := ins_notin hq h.g.c
  obtain ⟨n3, n4⟩ := ins_notin hq h.g.k
  exact ⟨⟨⟨dx', wd, b _ _ hne h1, h2.butI b hq⟩, h.g.c.but b n1 n2, h.g.k.but b n3 n4, h.g.sep⟩, h.cl, h.kl⟩
theorem WaysAt.butL {K : PySem.W.Frag} {H H' : Hp} {p q : Addr} {l : List Nat} {W : Wd} {cd kd : Addr} {crs krs : List Addr} {ys : List V} (h : WaysAt K H p l W cd kd crs krs) (b : But q H H') (hq : H q = some (.lst ys)) (h1 : q ∉ cd :: crs) (h2 : q ∉ kd :: krs) : WaysAt K H' p l W cd kd crs krs := ⟨h.g.butL b hq h1 h2, h.cl, h.kl⟩
theorem WalkAt.ne {K : PySem.W.Frag} {H : Hp} {p pw : Addr} {l : List Nat} {W : Wd} {i : Nat} {st : List Nat} {ok lv : Addr} {as : List Addr} {cd kd : Addr} {crs krs : List Addr} (h : WalkAt K H p pw l W i st ok lv as cd kd crs krs) : pw ≠ p := fun e => by
  obtain ⟨dx, h1⟩ := h.ob
  obtain ⟨dx', wd, h2, _⟩ := h.ws.g.ob
  rw [e, h1] at h2
  injection h2 with h2
  injection h2 with _ _ h3
  have := congrArg List.length h3
  exact absurd this (by show ¬ 5 = 4; decide)
/-- the place moved -/
theorem WalkAt.at {K : PySem.W.Frag} {H H' : Hp} {p pw dx : Addr} {l : List Nat} {W : Wd} {i j : Nat} {st : List Nat} {ok lv : Addr} {as : List Addr} {cd kd : Addr} {crs krs : List Addr} (h : WalkAt K H p pw l W i st ok lv as cd kd crs krs) (b : But p H H') (hob : H p = some (.ins (He.ga K "Walk") dx (kfl pw l.length i ok lv))) (e : H' p = some (.ins (He.ga K "Walk") dx (kfl pw l.length (j : Nat) ok lv))) (hj : j ≤ l.length) : WalkAt K H' p pw l W j st ok lv as cd kd crs krs := by
  have k : ∀ x ys, H x = some (.lst ys) → H' x = some (.lst ys) := fun x ys q => b _ _ (fun e => by rw [e, hob] at q; cases q) q
  have np : p ∉ as := fun q => by
    obtain ⟨ys, hy⟩ := LvL.lsts h.lev p q
    rw [hob] at hy
    cases hy
  exact ⟨⟨dx, e⟩, h.ws.butI b hob h.ne, k _ _ h.op, k _ _ h.le, LvL.but b (fun ys q => by rw [hob] at q; cases q) h.lev np, h.n1, h.n2, h.n3, h.n4, h.cl, hj⟩
/-! Walk.closed_at -/
def sp_Walk_closed_at (K : PySem.W.Frag) : Sp := fun vs H Q _ => ∃ (p : Addr) (k m : Nat) (pw : Addr) (l : List Nat) (W : Wd) (i : Nat) (st : List Nat) (ok lv : Addr) (as : List Addr) (cd kd : Addr) (crs krs : List Addr), vs = [.ref p, .int (knd k), .int m] ∧ WalkAt K H p pw l W i st ok lv as cd kd crs krs ∧ k ∈ CLO ∧ m ≤ l.length ∧ l.length ≤ 1000 ∧ ∀ (fa : Addr) (H' : Hp), H fa = none → Same H H' → Prs H' fa (clA W l k m) → Q (.ref fa) H'
theorem ok_Walk_closed_at (T : Facts K mg) : C8.Met P w K mg base 1 (He.ga K "Walk") "closed_at" (sp_Walk_closed_at K) [] := by
  refine metD T.m_Walk_closed_at sc_Walk_closed_at (fun vs H Q E h => ?_) (fun f cdv A outer s H vs Q E hr h => ?_)
  · obtain ⟨p, k, m, pw, l, W, i, st, ok, lv, as, cd, kd, crs, krs, rfl, hG, hk, hm, hl, q⟩ := h; rfl
  · obtain ⟨p, k, m, pw, l, W, i, st, ok, lv, as, cd, kd, crs, krs, rfl, hG, hk, hm, hl, q⟩ := h
    refine ⟨_, (pss_cons (ps_set (i := 3) sc_Walk_closed_at.nd rfl (Or.inl rfl) (pe_lst pa_nil))
       (C8.pss_cut (ps_if (pt_cmpR op_in_seq (pe_strS (l := [112, 117, 116]) (by decide +kernel)) (pe_fld (pe_fld (pv 0) rfl) rfl) (by rfl))
       (pss_one (ps_expr (pe_bm PySem.F.plainAttrs_list PySem.F.slot_list_append PySem.F.type_list_append mt_append (pv 3) (pa_cons (pe_tup (pa_cons pe_int (pa_cons (pv 2) pa_nil))) pa_nil))))
       pss_nil)
       (C8.pss_cut (ps_ifC (PW.pt (pw_and (pt_cmpR op_lt (pv 2) (pe_fld (pv 0) rfl) (nomark _)) (pw_and1 (pt_cmpR op_eq (pe_ix ix_txt (pe_fld (pe_fld (pv 0) rfl) rfl) (pv 2) (fun _ _ => rfl)) (pe_ix ix_txt (C8.pe_gc rfl T.c_CLOSING) (pv 1) (fun _ _ => rfl)) (nomark _)))))
       (pss_one (ps_expr (pe_bm PySem.F.plainAttrs_list PySem.F.slot_list_append PySem.F.type_list_append mt_append (pv 3) (pa_cons (pe_tup (pa_cons pe_int (pa_cons (pe_op op_add (pv 2) pe_int) pa_nil))) pa_nil))))
       (pss_one (ps_ifC (PW.pt (pw_and (pt_cmpR op_lt (pv 2) (pe_fld (pv 0) rfl) (nomark _)) (pw_and (pt_cmpR op_inT (pe_ix ix_txt (pe_fld (pe_fld (pv 0) rfl) rfl) (pv 2) (fun _ _ => rfl)) (C8.pe_gc rfl T.c_BRACKETS_counted) (by rfl)) (pw_and1 (pt_cmpR op_in_seq (pe_strS (l := [116, 117, 114, 110]) (by decide +kernel)) (pe_fld (pe_fld (pv 0) rfl) rfl) (by rfl))))))
       (pss_one (ps_expr (pe_bm PySem.F.plainAttrs_list PySem.F.slot_list_append PySem.F.type_list_append mt_append (pv 3) (pa_cons (pe_tup (pa_cons pe_int (pa_cons (pe_op op_add (pv 2) pe_int) pa_nil))) pa_nil))))
       pss_nil)))
       (pss_one (ps_ret (pv 3)))))), ?_⟩
    rw [st_Walk_closed_at]
    wtm_at "unf"
    wtm_at "gx"
    refine g_lst (by show 0 ≤ 100000; decide) fun fa H1 nfa s1 efa => ?_
    have hP0 : Prs H1 fa [] := ⟨[], efa, rfl, fun k r x e => by cases e⟩
    have G1 := hG.same s1
    refine ⟨fun σ' H2 => σ' = [some (V.ref p), some (V.int (knd k)), some (V.int m), some (V.ref fa)] ∧ Same H H2 ∧ Prs H2 fa (if W.pt = true then [(1, m)] else []), ?_, ?_⟩
    · wtm_at "gx"
      refine g_kways T G1 ?_
      refine g_wword T G1.ws.g fun wd hwd => ?_
      refine g_inPut hwd ?_
      refine ⟨_, rfl, ?_⟩
      by_cases hp : W.pt = true
      · rw [if_pos hp, if_pos hp]
        wtm_at "gx"
        refine g_tup (by show 2 ≤ 100000; decide) fun t H2 nt s2 et => ?_
        refine g_appP (x := (1, m)) (hP0.same s2) et (by decide) fun H3 b3 e3 => ?_
        exact ⟨rfl, Same.b0 b3 (s1.trans s2) nfa, e3⟩
      · rw [if_neg hp, if_neg hp]
        exact ⟨rfl, s1, hP0⟩
    rintro σ' H2 ⟨rfl, s2, hP⟩
    have G2 := hG.same s2
    have hkx := clo_knd k hk
    have hkl : knd k < 4 := knd_lt k (brk_or.mpr (.inr hk))
    refine ⟨fun σ' H3 => σ' = [some (V.ref p), some (V.int (knd k)), some (V.int m), some (V.ref fa)] ∧ Same H H3 ∧ Prs H3 fa (clA W l k m), ?_, ?_⟩
    · obtain ⟨ys, hys⟩ := prs_lst hP
      have hpl : (if W.pt = true then [((1 : Nat), m)] else []).length ≤ 1 := by split <;> simp
      by_cases hml : m < l.length
      · have ex : l[m]? = some l[m] := List.getElem?_eq_getElem hml
        have eA : clA W l k m = (if W.pt = true then [(1, m)] else []) ++ (if l[m] = k then [(0, m + 1)] else if l[m] ∈ BRK ∧ W.tn = true then [(1, m + 1)] else []) := by unfold clA; rw [ex]
        refine g_ifC (b := decide (l[m] = k)) (fun Q q => ?_) (fun h => ?_) (fun h => ?_)
        · wtm_at "unf"
          wtm_at "gx"
          refine g_kend T G2 ?_
          wtm_at "gx"
          refine g_kways T G2 ?_
          refine g_wsig T G2.ws.g ?_
          wtm_at "gx"
          refine g_ixT (by omega) (atI_of ex) ?_
          wtm_at "gx"
          refine g_ixT (by decide) (atI_of hkx) ?_
          wtm_at "gx"
          refine ⟨_, rfl, ?_⟩
          rw [show decide (Tx [l[m]] = Tx [k]) = decide (l[m] = k) from decide_eq_decide.mpr ⟨fun h => (List.cons.inj (Tx_inj.mp h)).1, fun h => by rw [h]⟩]
          exact q
        · have hx := of_decide_eq_true h
          wtm_at "unf"
          wtm_at "gx"
          refine g_tup (by show 2 ≤ 100000; decide) fun t H3 nt s3 et => ?_
          refine g_appP (x := (0, m + 1)) (hP.same s3) et (by omega) fun H4 b4 e4 => ?_
          rw [eA, if_pos hx]
          exact ⟨Same.b0 b4 (s2.trans s3) nfa, e4⟩
        · have hx := of_decide_eq_false h
          refine g_ifC (b := decide (l[m] ∈ BRK ∧ W.tn = true)) (fun Q q => ?_) (fun h => ?_) (fun h => ?_)
          · wtm_at "unf"
            wtm_at "gx"
            refine g_kend T G2 ?_
            wtm_at "gx"
            refine g_kways T G2 ?_
            refine g_wsig T G2.ws.g ?_
            wtm_at "gx"
            refine g_ixT (by omega) (atI_of ex) ?_
            wtm_at "gx"
            refine g_test (fun hb => ?_) (fun hb => ?_)
            · wtm_at "gx"
              refine g_kways T G2 ?_
              refine g_wword T G2.ws.g fun wd hwd => ?_
              refine g_inTurn hwd ?_
              refine ⟨_, rfl, ?_⟩
              rw [show W.tn = decide (l[m] ∈ BRK ∧ W.tn = true) by simp [hb]]
              exact q
            · rw [show (false : Bool) = decide (l[m] ∈ BRK ∧ W.tn = true) by simp [hb]]
              exact q
          · have hx2 := of_decide_eq_true h
            wtm_at "unf"
            wtm_at "gx"
            refine g_tup (by show 2 ≤ 100000; decide) fun t H3 nt s3 et => ?_
            refine g_appP (x := (1, m + 1)) (hP.same s3) et (by omega) fun H4 b4 e4 => ?_
            rw [eA, if_neg hx, if_pos hx2]
            exact ⟨Same.b0 b4 (s2.trans s3) nfa, e4⟩
          · have hx2 := of_decide_eq_false h
            refine ⟨rfl, s2, ?_⟩
            rw [eA, if_neg hx, if_neg hx2, List.append_nil]
            exact hP
      · have ex : l[m]? = none := List.getElem?_eq_none (by omega)
        have eA : clA W l k m = (if W.pt = true then [(1, m)] else []) := by unfold clA; rw [ex]; exact List.append_nil _
        refine g_ifC (b := false) (fun Q q => ?_) (fun h => by cases h) (fun h => ?_)
        · wtm_at "unf"
          wtm_at "gx"
          refine g_kend T G2 ?_
          wtm_at "gx"
          exact q
        refine g_ifC (b := false) (fun Q q => ?_) (fun h => by cases h) (fun h => ?_)
        · wtm_at "unf"
          wtm_at "gx"
          refine g_kend T G2 ?_
          wtm_at "gx"
          exact q
        refine ⟨rfl, s2, ?_⟩
        rw [eA]
        exact hP
    · rintro σ' H3 ⟨rfl, s3, hP3⟩
      wtm_at "gx"
      exact q fa H3 nfa s3 hP3
/-! Walk.best_from -/
def sp_Walk_best_from (K : PySem.W.Frag) : Sp := fun vs H Q _ => ∃ (p : Addr) (k a : Nat) (pw : Addr) (l : List Nat) (W : Wd) (i : Nat) (st : List Nat) (ok lv : Addr) (as : List Addr) (cd kd : Addr) (crs krs : List Addr), vs = [.ref p, .int (knd k), .int a] ∧ WalkAt K H p pw l W i st ok lv as cd kd crs krs ∧ k ∈ CLO ∧ a ≤ l.length ∧ l.length ≤ 1000 ∧ st.length ≤ 1000 ∧ ∀ (t : Addr) (H' : Hp), H t = none → Same H H' → H' t = some (.tup [cV (LV W l (k :: st) a), nV (LV W l (k :: st) a)]) → Q (.ref t) H'
theorem ok_Walk_best_from (T : Facts K mg) : C8.Met P w K mg base 2 (He.ga K "Walk") "best_from" (sp_Walk_best_from K) [] := by
  refine metD T.m_Walk_best_from sc_Walk_best_from (fun vs H Q E h => ?_) (fun f cdv A outer s H vs Q E hr h => ?_)
  · obtain ⟨p, k, a, pw, l, W, i, st, ok, lv, as, cd, kd, crs, krs, rfl, hG, hk, ha, hl, hst, q⟩ := h; rfl
  · obtain ⟨p, k, a, pw, l, W, i, st, ok, lv, as, cd, kd, crs, krs, rfl, hG, hk, ha, hl, hst, q⟩ := h
    refine ⟨_, (pss_cons (ps_set (i := 3) sc_Walk_best_from.nd rfl (Or.inl rfl) pe_non)
       (pss_cons (ps_set (i := 4) sc_Walk_best_from.nd rfl (Or.inl rfl) pe_int)
       (pss_cons (ps_for PassesOwn.never rfl (pi_range2 rfl T.b_range (pa_cons (pv 2) (pa_cons (pe_op op_add (pe_fld (pv 0) rfl) pe_int) pa_nil))) (pg_name (i := 5) sc_Walk_best_from.nd rfl (Or.inl rfl))
       (pss_one (ps_for PassesOwn.never rfl (pi_list (pe_met (ok_Walk_closed_at T) hr (by omega) (pv 0) (pa_cons (pv 1) (pa_cons (pv 5) pa_nil)))) (pg_tup rfl (pgs_cons (pg_name (i := 6) sc_Walk_best_from.nd rfl (Or.inl rfl)) (pgs_cons (pg_name (i := 7) sc_Walk_best_from.nd rfl (Or.inl rfl)) pgs_nil)))
       (pss_cons (ps_asg (pe_ix ix_list (pe_ix ix_list (pe_fld (pv 0) rfl) (pe_un un_neg pe_int) (fun _ _ => rfl)) (pv 7) (fun _ _ => rfl)) (pg_tup rfl (pgs_cons (pg_name (i := 8) sc_Walk_best_from.nd rfl (Or.inl rfl)) (pgs_cons (pg_name (i := 9) sc_Walk_best_from.nd rfl (Or.inl rfl)) pgs_nil))))
       (pss_cons (ps_set (i := 10) sc_Walk_best_from.nd rfl (Or.inl rfl) (pe_met (ok_Ways_cost T) hr (by omega) (pe_fld (pv 0) rfl) (pa_cons (pv 2) (pa_cons (pv 5) pa_nil))))
       (pss_one (ps_ifC (PW.pt (pw_and (pt_cmpR op_notN (pv 8) pe_non (nomark _)) (pw_and1 (pt_cmpR op_notN (pv 10) pe_non (nomark _)))))
       (pss_cons (ps_set (i := 11) sc_Walk_best_from.nd rfl (Or.inl rfl) (pe_op op_add (pe_op op_add (pv 6) (pv 10)) (pv 8)))
       (C8.pss_cut (ps_ifC (PW.pt (pw_or (pt_cmpR op_isN (pv 3) pe_non (nomark _)) (pw_or1 (pt_cmpR op_lt (pv 11) (pv 3) (nomark _)))))
       (pss_cons (ps_set (i := 3) sc_Walk_best_from.nd rfl (Or.inl rfl) (pv 11))
       (pss_one (ps_set (i := 4) sc_Walk_best_from.nd rfl (Or.inl rfl) pe_int)))
       pss_nil)
       (pss_one (ps_if (pt_cmpR op_eq (pv 11) (pv 3) (nomark _))
       (pss_one (ps_aug (i := 4) sc_Walk_best_from.nd rfl (Or.inl rfl) (pe_op op_mulW (pv 9) (pe_met (ok_Ways_count T) hr (by omega) (pe_fld (pv 0) rfl) (pa_cons (pv 2) (pa_cons (pv 5) pa_nil)))) ip_add))
       pss_nil))))
       pss_nil)))))))
       (pss_one (ps_ret (pe_tup (pa_cons (pv 3) (pa_cons (pv 4) pa_nil)))))))), ?_⟩
    rw [st_Walk_best_from]
    have hF : ∀ m, m ≤ l.length → cnt (LV W l st m) < 2 ^ 16001 := fun m hm => LV_big hm hG.cl hl hst
    have hM : ∀ m, a ≤ m → m ≤ l.length → cnt (mcN l W a m) < 2 ^ 16001 := fun m h1 h2 => mcN_big h1 (by omega)
    obtain ⟨a0, as0, eas, hrow⟩ := LvL.top hG.lev
    wtm_at "unf"
    wtm_at "gx"
    refine g_kend T hG ?_
    wtm_at "gx"
    refine ⟨_, _, rfl, by omega, for_rng (fun t σ H' => ∃ y5 y6 y7 y8 y9 y10 y11, σ = [some (V.ref p), some (V.int (knd k)), some (V.int a), some (cV (sm (fun t => mMul (mcN l W a (a + t)) (clC W l k (LV W l st) (a + t))) t)), some (nV (sm (fun t => mMul (mcN l W a (a + t)) (clC W l k (LV W l st) (a + t))) t)), y5, y6, y7, y8, y9, y10, y11] ∧ Same H H') ⟨_, _, _, _, _, _, _, rfl, Same.refl _⟩ (fun t σ H' ht hv => ?_) (fun σ H' hv => ?_)⟩
    · obtain ⟨y5, y6, y7, y8, y9, y10, y11, rfl, sH⟩ := hv
      have G1 := hG.same sH
      have htl : a + t ≤ l.length := by omega
      rw [show (a : Int) + (t : Int) = ((a + t : Nat) : Int) by omega]
      wtm_at "unf"
      wtm_at "gx"
      refine g_kmet G1 (fun _ _ _ _ _ => rfl) ?_
      wtm_at "gx"
      refine ⟨p, k, a + t, pw, l, W, i, st, ok, lv, as, cd, kd, crs, krs, rfl, G1, hk, htl, hl, fun fa H1 nfa s1 hP => ?_⟩
      have hbe : ∀ x ∈ clA W l k (a + t), x.1 ≤ 1 ∧ x.2 ≤ l.length := fun x hx => by
        unfold clA at hx
        rcases List.mem_append.mp hx with hx | hx
        · split at hx
          · rw [List.mem_singleton.mp hx]; exact ⟨Nat.le_refl _, htl⟩
          · cases hx
        · by_cases hlt : a + t < l.length
          · rw [List.getElem?_eq_getElem hlt] at hx
            dsimp only at hx
            split at hx
            · rw [List.mem_singleton.mp hx]; exact ⟨by show _ ≤ 1; omega, hlt⟩
            · split at hx
              · rw [List.mem_singleton.mp hx]; exact ⟨by show _ ≤ 1; omega, hlt⟩
              · cases hx
          · rw [List.getElem?_eq_none (by omega)] at hx; cases hx
      have esm : sm (fun t => mMul (mcN l W a (a + t)) (clC W l k (LV W l st) (a + t))) (t + 1) = mAdd (sm (fun t => mMul (mcN l W a (a + t)) (clC W l k (LV W l st) (a + t))) t) (mMul (mcN l W a (a + t)) (clP (LV W l st) (clA W l k (a + t)))) := by rw [clP_all]; rfl
      rw [esm]
      generalize sm (fun t => mMul (mcN l W a (a + t)) (clC W l k (LV W l st) (a + t))) t = A0
      generalize clA W l k (a + t) = xs at hP hbe
      obtain ⟨rs, hP1, hP2, hP3⟩ := hP
      have sH1 : Same H H1 := sH.trans s1
      refine ⟨fa, rfl, ⟨_, sq_of hP1⟩, for_lst (rs.map V.ref) (fun pre σ H2 => ∃ y6 y7 y8 y9 y10 y11, σ = [some (V.ref p), some (V.int (knd k)), some (V.int a), some (cV (mAdd A0 (mMul (mcN l W a (a + t)) (clP (LV W l st) (xs.take pre.length))))), some (nV (mAdd A0 (mMul (mcN l W a (a + t)) (clP (LV W l st) (xs.take pre.length))))), some (V.int ((a + t : Nat) : Int)), y6, y7, y8, y9, y10, y11] ∧ Same H1 H2) ⟨y6, y7, y8, y9, y10, y11, ?_, Same.refl _⟩ (fun pre post σ H2 e hv => ?_) (fun pre x post σ H2 e hv => ?_) (fun σ H2 hv => ?_)⟩
      · rw [List.length_nil, List.take_zero, show clP (LV W l st) [] = none from rfl, mMul_none, mAdd_none]
      · obtain ⟨y6, y7, y8, y9, y10, y11, rfl, s2⟩ := hv
        exact sq_of (s2 _ _ hP1)
      · obtain ⟨y6, y7, y8, y9, y10, y11, rfl, s2⟩ := hv
        have G2 := hG.same (sH1.trans s2)
        have hlt : pre.length < rs.length := by
          have := congrArg List.length e
          simp at this
          omega
        have hx : (rs.map V.ref)[pre.length]? = some x := mid_at e
        have hr : rs[pre.length]? = some rs[pre.length] := List.getElem?_eq_getElem hlt
        have hxx : xs[pre.length]? = some xs[pre.length] := List.getElem?_eq_getElem (by omega)
        have hx2 : x = V.ref rs[pre.length] := by
          rw [List.getElem?_map, hr] at hx
          exact (Option.some.inj hx).symm
        subst hx2
        have htp := s2 _ _ (hP3 _ _ _ hr hxx)
        have etk : xs.take (pre ++ [V.ref rs[pre.length]]).length = xs.take pre.length ++ [xs[pre.length]] := by
          rw [List.length_append, List.length_singleton]
          exact List.take_succ_eq_append_getElem (by omega)
        have hbx := hbe xs[pre.length] (List.getElem_mem (by omega))
        rw [etk, clP_snoc, mMul_add, ← mAdd_assoc]
        generalize xs[pre.length] = bm at htp etk hbx
        generalize rs[pre.length] = r at htp etk
        obtain ⟨mo, be⟩ := bm
        generalize mAdd A0 (mMul (mcN l W a (a + t)) (clP (LV W l st) (xs.take pre.length))) = B
        dsimp only at hbx htp ⊢
        obtain ⟨ys, rr, hy1, hy2, hy3⟩ := LvRow.at (hrow.same (sH1.trans s2)) (k := be) (by omega)
        wtm_at "unf"
        refine ⟨r, _, rfl, st_of htp, rfl, _, _, rfl, _, _, rfl, rfl, ?_⟩
        wtm_at "unf"
        wtm_at "gx"
        refine g_klev T G2 ?_
        wtm_at "gx"
        have hle := G2.le
        rw [eas, List.reverse_cons, List.map_append] at hle
        refine g_ixL (sq_of hle) (atI_last1 _ _) ?_
        wtm_at "gx"
        refine g_ixL (sq_of hy1) (atI_of hy2) ?_
        refine ⟨rr, _, rfl, st_of hy3, rfl, _, _, rfl, _, _, rfl, rfl, ?_⟩
        wtm_at "gx"
        refine g_kways T G2 ?_
        refine g_wmet G2.ws.g (fun _ _ _ _ => rfl) ?_
        wtm_at "gx"
        refine ⟨pw, a, a + t, l, W, cd, kd, crs, krs, _, _, _, rfl, G2.ws.g, by have := G2.ws.cl; omega, colV_at (by omega), ?_⟩
        have hcx := hF be hbx.2
        have hcy := hM (a + t) (by omega) htl
        have hcol : (colV nV (mcN l W) (a + t) (a + t + 1))[a]? = some (nV (mcN l W a (a + t))) := colV_at (by omega)
        generalize LV W l st be = X at hcx hy3
        generalize mcN l W a (a + t) = Y at hcy hcol
        cases X with
        | none =>
          refine g_ifC (b := false) (fun Q q => ?_) (fun h => by cases h) (fun h => ?_)
          · wtm_at "unf"
            wtm_at "gx"
            exact q
          · rw [mMul_none, mMul_none, mAdd_none]
            exact ⟨_, _, _, _, _, _, rfl, s2⟩
        | some x =>
        rw [show cV (some x) = V.int x.1 from rfl]
        cases Y with
        | none =>
          rw [show cV none = V.non from rfl]
          refine g_ifC (b := false) (fun Q q => ?_) (fun h => by cases h) (fun h => ?_)
          · wtm_at "unf"
            wtm_at "gx"
            refine ⟨_, rfl, ?_⟩
            rw [decide_eq_true rfl]
            exact q
          · rw [show mMul none (mMul (some (mo, 1)) (some x)) = none from rfl, mAdd_none]
            exact ⟨_, _, _, _, _, _, rfl, s2⟩
        | some y =>
        rw [show cV (some y) = V.int y.1 from rfl]
        obtain ⟨xc, xk⟩ := x
        obtain ⟨yc, yk⟩ := y
        rw [show mMul (some (yc, yk)) (mMul (some (mo, 1)) (some (xc, xk))) = some (mo + yc + xc, xk * yk) by
          show some (yc + (mo + xc), yk * (1 * xk)) = _
          rw [Nat.one_mul, Nat.mul_comm]
          congr 2
          omega, ml_add]
        refine g_ifC (b := true) (fun Q q => ?_) (fun h => ?_) (fun h => by cases h)
        · wtm_at "unf"
          wtm_at "gx"
          refine ⟨_, rfl, ?_⟩
          rw [decide_eq_false (fun h => nomatch h)]
          exact q
        · wtm_at "unf"
          wtm_at "gx"
          rw [show (mo : Int) + (yc : Int) + (xc : Int) = ((mo + yc + xc : Nat) : Int) by omega]
          generalize mo + yc + xc = b
          refine ⟨fun σ' H3 => σ' = [some (V.ref p), some (V.int (knd k)), some (V.int a), some (V.int (mlA B b)), some (V.int (mcA B b)), some (V.int ((a + t : Nat) : Int)), some (V.int mo), some (V.int be), some (V.int xc), some (V.int xk), some (V.int yc), some (V.int b)] ∧ H3 = H2, ?_, ?_⟩
          · cases B with
            | none =>
              refine g_ifC (b := true) (fun Q q => ?_) (fun h => ?_) (fun h => by cases h)
              · wtm_at "unf"
                wtm_at "gx"
                exact q
              · wtm_at "unf"
                wtm_at "gx"
                exact ⟨rfl, rfl⟩
            | some q0 =>
              obtain ⟨a', n'⟩ := q0
              rw [show cV (some (a', n')) = V.int a' from rfl, show nV (some (a', n')) = V.int n' from rfl]
              refine g_ifC (b := decide (b < a')) (fun Q q => ?_) (fun h => ?_) (fun h => ?_)
              · wtm_at "unf"
                wtm_at "gx"
                refine ⟨_, rfl, ?_⟩
                rw [show decide ((b : Int) < (a' : Int)) = decide (b < a') from decide_eq_decide.mpr (by omega)]
                exact q
              · wtm_at "unf"
                wtm_at "gx"
                have hlt := of_decide_eq_true h
                have e1 : mlA (some (a', n')) b = b := if_pos hlt
                have e2 : mcA (some (a', n')) b = 0 := if_pos hlt
                rw [e1, e2]
                exact ⟨rfl, rfl⟩
              · have hlt := of_decide_eq_false h
                have e1 : mlA (some (a', n')) b = a' := if_neg hlt
                have e2 : mcA (some (a', n')) b = n' := if_neg hlt
                rw [e1, e2]
                exact ⟨rfl, rfl⟩
          · rintro σ' H3 ⟨rfl, rfl⟩
            wtm_at "gx"
            refine g_test (fun h => ?_) (fun h => ?_)
            · have h' : b = mlA B b := by have := V.int.inj h; omega
              rw [if_pos h']
              refine ⟨_, rfl, ?_⟩
              wtm_at "gx"
              refine g_kways T G2 ?_
              refine g_wmet G2.ws.g (fun _ _ _ _ => rfl) ?_
              wtm_at "gx"
              refine ⟨pw, a, a + t, l, W, cd, kd, crs, krs, _, _, _, rfl, G2.ws.g, by have := G2.ws.kl; omega, hcol, ?_⟩
              have hbx' : ((xk : Nat) : Int).natAbs < 2 ^ 16001 := by rw [Int.natAbs_natCast]; exact hcx
              have hby' : ((yk : Nat) : Int).natAbs < 2 ^ 16001 := by rw [Int.natAbs_natCast]; exact hcy
              refine g_I (wide_mul (a := 16001) (b := 16001) hbx' hby' (by decide) (by decide) (by decide)) ?_
              wtm_at "gx"
              exact ⟨_, _, _, _, _, _, rfl, s2⟩
            · have h' : ¬ b = mlA B b := fun e => h (by rw [← e])
              rw [if_neg h', Nat.add_zero]
              exact ⟨_, _, _, _, _, _, rfl, s2⟩
      · obtain ⟨y6, y7, y8, y9, y10, y11, rfl, s2⟩ := hv
        rw [List.length_map, hP2, List.take_length]
        exact ⟨_, _, _, _, _, _, _, rfl, sH1.trans s2⟩
    · obtain ⟨y5, y6, y7, y8, y9, y10, y11, rfl, sH⟩ := hv
      wtm_at "unf"
      wtm_at "gx"
      refine g_tup (by show 2 ≤ 100000; decide) fun t H3 nt s3 et => q t H3 (sH.free nt) (sH.trans s3) ?_
      rw [et]
      have e : ((l.length : Int) + 1 - (a : Int)).toNat = l.length - a + 1 := by omega
      rw [e]
      rfl
/-! Walk.closes -/
def sp_Walk_closes (K : PySem.W.Frag) : Sp := fun vs H Q _ => ∃ (p : Addr) (c : Nat) (pw : Addr) (l : List Nat) (W : Wd) (i : Nat) (st : List Nat) (ok lv : Addr) (as : List Addr) (cd kd : Addr) (crs krs : List Addr), vs = [.ref p, Tx [c]] ∧ WalkAt K H p pw l W i st ok lv as cd kd crs krs ∧ c ∈ CLO ∧ ∀ H', Same H H' → Q (.bl (decide (st.head? = some c))) H'
theorem ok_Walk_closes (T : Facts K mg) : C8.Met P w K mg base 2 (He.ga K "Walk") "closes" (sp_Walk_closes K) [] := by
  refine metD T.m_Walk_closes sc_Walk_closes (fun vs H Q E h => ?_) (fun f cdv A outer s H vs Q E hr h => ?_)
  · obtain ⟨p, c, pw, l, W, i, st, ok, lv, as, cd, kd, crs, krs, rfl, hG, hc, q⟩ := h; rfl
  · obtain ⟨p, c, pw, l, W, i, st, ok, lv, as, cd, kd, crs, krs, rfl, hG, hc, q⟩ := h
    refine ⟨_, (pss_one (ps_ret (pe_and (pe_cmpR (op_neD hr.units) (pe_fld (pv 0) rfl) (pe_lst pa_nil) (nomark _)) (pe_one (pe_cmpR op_eq (pe_ix ix_list (pe_fld (pv 0) rfl) (pe_un un_neg pe_int) (fun _ _ => rfl)) (pe_own (ok_kind_of T) hr (by omega) rfl (pa_cons (pv 1) pa_nil)) (nomark _)))))), ?_⟩
    rw [st_Walk_closes]
    have hfl : ∀ v ∈ st.reverse.map (fun k => V.int (knd k)), Flat v := fun v hv => by
      obtain ⟨k, _, rfl⟩ := List.mem_map.mp hv
      exact flat_int _
    wtm_at "unf"
    wtm_at "gx"
    refine g_kopen T hG ?_
    refine g_lst (by show 0 ≤ 100000; decide) fun e H1 ne s1 ee => ?_
    have G1 := hG.same s1
    refine g_neNil (sq_of G1.op) hfl (sq_of ee) ?_
    cases st with
    | nil =>
      refine ⟨false, rfl, ?_⟩
      rw [if_neg Bool.false_ne_true]
      exact q _ s1
    | cons k st =>
      have hk := hG.cl k (List.mem_cons_self ..)
      refine ⟨true, by rw [List.reverse_cons, List.map_append]; simp, ?_⟩
      rw [if_pos rfl]
      wtm_at "gx"
      refine g_kopen T G1 ?_
      wtm_at "gx"
      have hop := G1.op
      rw [List.reverse_cons, List.map_append] at hop
      refine g_ixL (sq_of hop) (atI_last1 _ _) ?_
      wtm_at "gx"
      refine ⟨c, rfl, brk_or.mpr (.inr hc), ?_⟩
      wtm_at "gx"
      have e : decide (V.int (knd k) = V.int (knd c)) = decide ((k :: st).head? = some c) := decide_eq_decide.mpr ⟨fun h => by
        have h1 : knd k = knd c := by have := V.int.inj h; omega
        rw [List.head?_cons, knd_inj k hk c hc h1], fun h => by rw [List.head?_cons] at h; rw [Option.some.inj h]⟩
      rw [e]
      exact q _ s1
/-- what may come behind a sign -/
def bhS (W : Wd) (l st : List Nat) (c pl : Nat) : MC := match stp (some st) c with
  | none => none
  | some st' => LV W l st' pl
/-! Walk.behind -/
def sp_Walk_behind (K : PySem.W.Frag) : Sp := fun vs H Q _ => ∃ (p : Addr) (c pl : Nat) (pw : Addr) (l : List Nat) (W : Wd) (i : Nat) (st : List Nat) (ok lv : Addr) (as : List Addr) (cd kd : Addr) (crs krs : List Addr), vs = [.ref p, Tx [c], .int pl] ∧ WalkAt K H p pw l W i st ok lv as cd kd crs krs ∧ pl ≤ l.length ∧ l.length ≤ 1000 ∧ st.length ≤ 1000 ∧ ∀ (t : Addr) (H' : Hp), Same H H' → H' t = some (.tup [cV (bhS W l st c pl), nV (bhS W l st c pl)]) → Q (.ref t) H'
theorem ok_Walk_behind (T : Facts K mg) : C8.Met P w K mg base 3 (He.ga K "Walk") "behind" (sp_Walk_behind K) [] := by
  refine metD T.m_Walk_behind sc_Walk_behind (fun vs H Q E h => ?_) (fun f cdv A outer s H vs Q E hr h => ?_)
  · obtain ⟨p, c, pl, pw, l, W, i, st, ok, lv, as, cd, kd, crs, krs, rfl, hG, hpl, hl, hst, q⟩ := h; rfl
  · obtain ⟨p, c, pl, pw, l, W, i, st, ok, lv, as, cd, kd, crs, krs, rfl, hG, hpl, hl, hst, q⟩ := h
    refine ⟨_, (pss_cons (ps_if (pt_cmpR op_inT (pv 1) (C8.pe_gc rfl T.c_OPENING) (by rfl))
       (pss_one (ps_ret (pe_met (ok_Walk_best_from T) hr (by omega) (pv 0) (pa_cons (pe_own (ok_kind_of T) hr (by omega) rfl (pa_cons (pv 1) pa_nil)) (pa_cons (pv 2) pa_nil)))))
       pss_nil)
       (pss_cons (ps_if (pt_cmpR op_inT (pv 1) (C8.pe_gc rfl T.c_CLOSING) (by rfl))
       (pss_cons (ps_if (pt_not (pt_val (pe_met (ok_Walk_closes T) hr (by omega) (pv 0) (pa_cons (pv 1) pa_nil))))
       (pss_one (ps_ret (pe_tup (pa_cons pe_non (pa_cons pe_int pa_nil)))))
       pss_nil)
       (pss_one (ps_ret (pe_ix ix_list (pe_ix ix_list (pe_fld (pv 0) rfl) (pe_un un_neg pe_int) (fun _ _ => rfl)) (pv 2) (fun _ _ => rfl)))))
       pss_nil)
       (pss_one (ps_ret (pe_ix ix_list (pe_ix ix_list (pe_fld (pv 0) rfl) (pe_un un_neg pe_int) (fun _ _ => rfl)) (pv 2) (fun _ _ => rfl)))))), ?_⟩
    rw [st_Walk_behind]
    obtain ⟨a0, as0, eas, hrow⟩ := LvL.top hG.lev
    wtm_at "unf"
    wtm_at "gx"
    refine g_test (fun ho => ?_) (fun ho => ?_)
    · wtm_at "gx"
      refine g_kmet hG (fun _ _ _ _ _ => rfl) ?_
      wtm_at "gx"
      refine ⟨c, rfl, brk_or.mpr (.inl ho), ?_⟩
      wtm_at "gx"
      have e : bhS W l st c pl = LV W l (oth c :: st) pl := by unfold bhS; rw [stp_opn ho]
      rw [e] at q
      refine ⟨p, oth c, pl, pw, l, W, i, st, ok, lv, as, cd, kd, crs, krs, by rw [knd_oth c ho], hG, oth_clo c ho, hpl, hl, hst, fun t H' nt s et => q t H' s et⟩
    · wtm_at "gx"
      refine g_test (fun hc => ?_) (fun hc => ?_)
      · wtm_at "gx"
        refine g_kmet hG (fun _ _ _ _ _ => rfl) ?_
        wtm_at "gx"
        refine ⟨p, c, pw, l, W, i, st, ok, lv, as, cd, kd, crs, krs, rfl, hG, hc, fun H1 s1 => ?_⟩
        have G1 := hG.same s1
        cases st with
        | nil =>
          refine ⟨_, rfl, ?_⟩
          rw [if_pos (by simp)]
          have e : bhS W l [] c pl = none := by unfold bhS stp; dsimp only; rw [if_neg ho, if_pos hc]
          rw [e] at q
          exact g_tup (by show 2 ≤ 100000; decide) fun t H2 nt s2 et => q t H2 (s1.trans s2) et
        | cons k st =>
          by_cases hk : k = c
          · subst hk
            refine ⟨_, rfl, ?_⟩
            rw [if_neg (by simp)]
            have e : bhS W l (k :: st) k pl = LV W l st pl := by unfold bhS; rw [stp_clo hc]
            rw [e] at q
            have hlev := hG.lev
            rw [eas] at hlev
            obtain ⟨a1, as1, eas1, hrow1⟩ := LvL.top hlev.2
            wtm_at "gx"
            refine g_klev T G1 ?_
            wtm_at "gx"
            have hle := G1.le
            rw [eas, eas1, List.reverse_cons, List.reverse_cons, List.append_assoc, List.map_append] at hle
            refine g_ixL (sq_of hle) (atI_last2 _ _ _) ?_
            wtm_at "gx"
            obtain ⟨ys, rr, hy1, hy2, hy3⟩ := LvRow.at (hrow1.same s1) (k := pl) (by omega)
            refine g_ixL (sq_of hy1) (atI_of hy2) ?_
            exact q rr H1 s1 hy3
          · refine ⟨_, rfl, ?_⟩
            rw [if_pos (by simp [hk])]
            have e : bhS W l (k :: st) c pl = none := by unfold bhS stp; dsimp only; rw [if_neg ho, if_pos hc, if_neg hk]
            rw [e] at q
            exact g_tup (by show 2 ≤ 100000; decide) fun t H2 nt s2 et => q t H2 (s1.trans s2) et
      · wtm_at "gx"
        refine g_klev T hG ?_
        wtm_at "gx"
        have hle := hG.le
        rw [eas, List.reverse_cons, List.map_append] at hle
        refine g_ixL (sq_of hle) (atI_last1 _ _) ?_
        wtm_at "gx"
        obtain ⟨ys, rr, hy1, hy2, hy3⟩ := LvRow.at hrow (k := pl) (by omega)
        refine g_ixL (sq_of hy1) (atI_of hy2) ?_
        have e : bhS W l st c pl = LV W l st pl := by unfold bhS; rw [stp_let ho hc]
        rw [e] at q
        exact q rr H (Same.refl _) hy3
/-- a choice as a value: the deed or None, the sign that then stands, where to go on -/
def DvIs (H : Hp) (i : Nat) (s : Stp) (dv : V) : Prop := match s with
  | .kp _ => dv = .non
  | _ => ∃ td, dv = .ref td ∧ H td = some (.tup (ddV (i, dwS s)))
def ChV (H : Hp) (i : Nat) (v : V) (s : Stp) : Prop := ∃ t dv, v = .ref t ∧ H t = some (.tup [dv, Tx s.o, .int ((i + s.i.length : Nat) : Int)]) ∧ DvIs H i s dv
theorem DvIs.same {H H' : Hp} {i : Nat} {s : Stp} {dv : V} (h : DvIs H i s dv) (z : Same H H') : DvIs H' i s dv := by
  cases s with
  | kp c => exact h
  | st c => obtain ⟨td, h1, h2⟩ := h; exact ⟨td, h1, z _ _ h2⟩
  | tn c d => obtain ⟨td, h1, h2⟩ := h; exact ⟨td, h1, z _ _ h2⟩
  | pt d => obtain ⟨td, h1, h2⟩ := h; exact ⟨td, h1, z _ _ h2⟩
theorem DvIs.but {H H' : Hp} {i : Nat} {s : Stp} {dv : V} {p : Addr} (h : DvIs H i s dv) (z : But p H H') (hp : ∀ ys, H p ≠ some (.tup ys)) : DvIs H' i s dv := by
  have key : ∀ td, H td = some (.tup (ddV (i, dwS s))) → H' td = some (.tup (ddV (i, dwS s))) := fun td e => z _ _ (fun q => hp _ (by rw [← q]; exact e)) e
  cases s with
  | kp c => exact h
  | st c => obtain ⟨td, h1, h2⟩ := h; exact ⟨td, h1, key _ h2⟩
  | tn c d => obtain ⟨td, h1, h2⟩ := h; exact ⟨td, h1, key _ h2⟩
  | pt d => obtain ⟨td, h1, h2⟩ := h; exact ⟨td, h1, key _ h2⟩
theorem ChV.same {H H' : Hp} {i : Nat} {v : V} {s : Stp} (h : ChV H i v s) (z : Same H H') : ChV H' i v s := by
  obtain ⟨t, dv, h1, h2, h3⟩ := h
  exact ⟨t, dv, h1, z _ _ h2, h3.same z⟩
theorem ChV.but {H H' : Hp} {i : Nat} {v : V} {s : Stp} {p : Addr} (h : ChV H i v s) (z : But p H H') (hp : ∀ ys, H p ≠ some (.tup ys)) : ChV H' i v s := by
  obtain ⟨t, dv, h1, h2, h3⟩ := h
  exact ⟨t, dv, h1, z _ _ (fun q => hp _ (by rw [← q]; exact h2)) h2, h3.but z hp⟩
/-! Walk.choices -/
def sp_Walk_choices (K : PySem.W.Frag) : Sp := fun vs H Q _ => ∃ (p pw : Addr) (l : List Nat) (W : Wd) (i : Nat) (st : List Nat) (ok lv : Addr) (as : List Addr) (cd kd : Addr) (crs krs : List Addr), vs = [.ref p] ∧ WalkAt K H p pw l W i st ok lv as cd kd crs krs ∧ l.length ≤ 1000 ∧ ∀ (fa : Addr) (ys : List V) (H' : Hp), H fa = none → Same H H' → H' fa = some (.lst ys) → Paired (ChV H' i) ys (chS W l i) → Q (.ref fa) H'
theorem ok_Walk_choices (T : Facts K mg) : C8.Met P w K mg base 1 (He.ga K "Walk") "choices" (sp_Walk_choices K) [] := by
  refine metD T.m_Walk_choices sc_Walk_choices (fun vs H Q E h => ?_) (fun f cdv A outer s H vs Q E hr h => ?_)
  · obtain ⟨p, pw, l, W, i, st, ok, lv, as, cd, kd, crs, krs, rfl, hG, hl, q⟩ := h; rfl
  · obtain ⟨p, pw, l, W, i, st, ok, lv, as, cd, kd, crs, krs, rfl, hG, hl, q⟩ := h
    refine ⟨_, (pss_cons (ps_set (i := 1) sc_Walk_choices.nd rfl (Or.inl rfl) (pe_lst pa_nil))
       (C8.pss_cut (ps_if (pt_cmpR op_in_seq (pe_strS (l := [112, 117, 116]) (by decide +kernel)) (pe_fld (pe_fld (pv 0) rfl) rfl) (by rfl))
       (pss_one (ps_expr (pe_bm PySem.F.plainAttrs_list PySem.F.slot_list_extend PySem.F.type_list_extend mt_extend (pv 1) (pa_cons (pe_lc (own := [("sign", 4)]) (by rfl) sc_Walk_choices.nd (pi_str (C8.pe_gc rfl T.c_BRACKETS_counted)) (blkOk_by (own := [("sign", 4)]) (N := N_Walk_choices) (sc := defScope s_Walk_choices) (by decide +kernel)) (fun _ _ _ _ _ => (pg_name (i := 4) sc_Walk_choices.nd rfl (Or.inl rfl))) (fun _ _ _ _ _ => pts_nil) (fun _ _ _ _ _ => (pe_tup (pa_cons (pe_tup (pa_cons (pe_fldK (K := K) rfl (pv 0) rfl) (pa_cons (pe_strS (l := [112, 117, 116]) (by decide +kernel)) (pa_cons (pv 4) pa_nil)))) (pa_cons (pv 4) (pa_cons (pe_fldK (K := K) rfl (pv 0) rfl) pa_nil)))))) pa_nil))))
       pss_nil)
       (pss_cons (ps_if (pt_cmpR op_eq (pe_fld (pv 0) rfl) (pe_fld (pv 0) rfl) (nomark _))
       (pss_one (ps_ret (pv 1)))
       pss_nil)
       (pss_cons (ps_set (i := 2) sc_Walk_choices.nd rfl (Or.inr rfl) (pe_ix ix_txt (pe_fld (pe_fld (pv 0) rfl) rfl) (pe_fld (pv 0) rfl) (fun _ _ => rfl)))
       (C8.pss_cut (ps_ifC (PW.pt (pw_and (pt_cmpR op_inT (pv 2) (C8.pe_gc rfl T.c_BRACKETS_counted) (by rfl)) (pw_and1 (pt_cmpR op_in_seq (pe_strS (l := [115, 116, 114, 105, 107, 101]) (by decide +kernel)) (pe_fld (pe_fld (pv 0) rfl) rfl) (by rfl)))))
       (pss_one (ps_expr (pe_bm PySem.F.plainAttrs_list PySem.F.slot_list_append PySem.F.type_list_append mt_append (pv 1) (pa_cons (pe_tup (pa_cons (pe_tup (pa_cons (pe_fld (pv 0) rfl) (pa_cons (pe_strS (l := [115, 116, 114, 105, 107, 101]) (by decide +kernel)) (pa_cons (pe_strS (l := []) (by decide +kernel)) pa_nil)))) (pa_cons (pe_strS (l := []) (by decide +kernel)) (pa_cons (pe_op op_add (pe_fld (pv 0) rfl) pe_int) pa_nil)))) pa_nil))))
       pss_nil)
       (C8.pss_cut (ps_ifC (PW.pt (pw_and (pt_cmpR op_inT (pv 2) (C8.pe_gc rfl T.c_BRACKETS_counted) (by rfl)) (pw_and1 (pt_cmpR op_in_seq (pe_strS (l := [116, 117, 114, 110]) (by decide +kernel)) (pe_fld (pe_fld (pv 0) rfl) rfl) (by rfl)))))
       (pss_cons (ps_setLc (i := 3) (own := [("sign", 4)]) (by rfl) sc_Walk_choices.nd rfl rfl (sw_true rfl rfl rfl (by decide +kernel)) (pi_str (C8.pe_gc rfl T.c_BRACKETS_counted)) (blkOk_by (own := [("sign", 4)]) (N := N_Walk_choices) (sc := defScope s_Walk_choices) (by decide +kernel)) (fun _ _ _ _ _ => (pg_name (i := 4) sc_Walk_choices.nd rfl (Or.inl rfl))) (fun _ _ _ _ _ => (pts_one (pt_cmpR op_ne (pv 4) (pv 2) (nomark _)))) (fun _ _ _ _ _ => (pv 4)))
       (pss_one (ps_expr (pe_bm PySem.F.plainAttrs_list PySem.F.slot_list_extend PySem.F.type_list_extend mt_extend (pv 1) (pa_cons (pe_lc (own := [("sign", 4)]) (by rfl) sc_Walk_choices.nd (pi_list (pv 3)) (blkOk_by (own := [("sign", 4)]) (N := N_Walk_choices) (sc := defScope s_Walk_choices) (by decide +kernel)) (fun _ _ _ _ _ => (pg_name (i := 4) sc_Walk_choices.nd rfl (Or.inl rfl))) (fun _ _ _ _ _ => pts_nil) (fun _ _ _ _ _ => (pe_tup (pa_cons (pe_tup (pa_cons (pe_fldK (K := K) rfl (pv 0) rfl) (pa_cons (pe_strS (l := [116, 117, 114, 110]) (by decide +kernel)) (pa_cons (pv 4) pa_nil)))) (pa_cons (pv 4) (pa_cons (pe_op op_add (pe_fldK (K := K) rfl (pv 0) rfl) pe_int) pa_nil)))))) pa_nil)))))
       pss_nil)
       (pss_cons (ps_expr (pe_bm PySem.F.plainAttrs_list PySem.F.slot_list_append PySem.F.type_list_append mt_append (pv 1) (pa_cons (pe_tup (pa_cons pe_non (pa_cons (pv 2) (pa_cons (pe_op op_add (pe_fld (pv 0) rfl) pe_int) pa_nil)))) pa_nil)))
       (pss_one (ps_ret (pv 1)))))))))), ?_⟩
    rw [st_Walk_choices]
    wtm_at "unf"
    wtm_at "gx"
    refine g_lst (by show 0 ≤ 100000; decide) fun fa H1 nfa s1 efa => ?_
    refine ⟨fun σ' H2 => ∃ ys, σ' = [some (V.ref p), some (V.ref fa), none, none, none] ∧ Same H H2 ∧ H2 fa = some (.lst ys) ∧ Paired (ChV H2 i) ys (if W.pt = true then BRK.map Stp.pt else []), ?_, ?_⟩
    · have G1 := hG.same s1
      wtm_at "gx"
      refine g_kways T G1 ?_
      refine g_wword T G1.ws.g fun wd hwd => ?_
      refine g_inPut hwd ?_
      refine ⟨_, rfl, ?_⟩
      by_cases hp : W.pt = true
      · rw [if_pos hp, if_pos hp]
        wtm_at "gx"
        refine ⟨_, rfl, lc_txt fun d H2 nd s2 ed => ⟨fun pre H' => ∃ ys, H' d = some (.lst ys) ∧ Paired (ChV H' i) ys (pre.map Stp.pt) ∧ Same H1 H', ⟨[], ed, .nil, s2⟩, fun pre c post H' e hv => ?_, fun H' hv => ?_⟩⟩
        · obtain ⟨ys, e1, e2, e3⟩ := hv
          have G2 := hG.same (s1.trans e3)
          have hpre : pre.length ≤ 8 := by have := congrArg List.length e; simp [BRK] at this; omega
          wtm_at "unf"
          refine ⟨rfl, ?_⟩
          wtm_at "gx"
          refine g_kat T G2 ?_
          wtm_at "gx"
          refine g_tup (by show 3 ≤ 100000; decide) fun td H3 ntd s3 etd => ?_
          wtm_at "gx"
          refine g_kat T (G2.same s3) ?_
          refine g_tup (by show 3 ≤ 100000; decide) fun t H4 nt s4 et => ?_
          have eys := s4 _ _ (s3 _ _ e1)
          have hyl : ys.length ≤ 8 := by rw [pd_len e2, List.length_map]; omega
          refine lc_put eys (by omega) fun H5 b5 e5 => ⟨_, e5, ?_, Same.b0 b5 (e3.trans (s3.trans s4)) nd⟩
          have hnt : ∀ zs, H4 d ≠ some (.tup zs) := fun zs q => by rw [eys] at q; cases q
          rw [List.map_append]
          refine pd_app (pd_imp (fun _ _ h => (h.same (s3.trans s4)).but b5 hnt) e2) (pd_one ?_)
          exact ChV.but ⟨t, V.ref td, rfl, by rw [et]; rfl, td, rfl, s4 _ _ etd⟩ b5 hnt
        · obtain ⟨ys, e1, e2, e3⟩ := hv
          have hyl : ys.length = 8 := by rw [pd_len e2, List.length_map]; rfl
          refine g_ext (e3 _ _ efa) e1 (by simp; omega) fun H5 b5 e5 => ?_
          have hnt : ∀ zs, H' fa ≠ some (.tup zs) := fun zs q => by rw [e3 _ _ efa] at q; cases q
          refine ⟨_, rfl, Same.b0 b5 (s1.trans e3) nfa, e5, ?_⟩
          rw [List.nil_append]
          exact pd_imp (fun _ _ h => h.but b5 hnt) e2
      · rw [if_neg hp, if_neg hp]
        exact ⟨[], rfl, s1, efa, .nil⟩
    rintro σ' H2 ⟨ys, rfl, s2, efa2, hP⟩
    have G2 := hG.same s2
    have hil := hG.il
    have hyl : ys.length ≤ 8 := by
      rw [pd_len hP]
      split
      · exact Nat.le_refl _
      · exact Nat.zero_le _
    wtm_at "gx"
    refine g_kat T G2 ?_
    wtm_at "gx"
    refine g_kend T G2 ?_
    wtm_at "gx"
    refine g_test (fun h => ?_) (fun h => ?_)
    · have e : i = l.length := by have := V.int.inj h; omega
      wtm_at "gx"
      refine q fa ys H2 nfa s2 efa2 ?_
      unfold chS
      rw [List.getElem?_eq_none (by omega), List.append_nil]
      exact hP
    have hlt : i < l.length := by
      have : i ≠ l.length := fun e => h (by rw [e])
      omega
    have ex : l[i]? = some l[i] := List.getElem?_eq_getElem hlt
    have eC : chS W l i = (if W.pt = true then BRK.map Stp.pt else []) ++ ((if l[i] ∈ BRK ∧ W.st = true then [Stp.st l[i]] else []) ++ ((if l[i] ∈ BRK ∧ W.tn = true then (BRK.filter (· ≠ l[i])).map (Stp.tn l[i]) else []) ++ [Stp.kp l[i]])) := by unfold chS; rw [ex]
    wtm_at "gx"
    refine g_kways T G2 ?_
    refine g_wsig T G2.ws.g ?_
    wtm_at "gx"
    refine g_kat T G2 ?_
    refine g_ixT (by omega) (atI_of ex) ?_
    generalize l[i] = x at ex eC
    refine ⟨fun σ' H3 => ∃ ys, σ' = [some (V.ref p), some (V.ref fa), some (Tx [x]), none, none] ∧ Same H H3 ∧ H3 fa = some (.lst ys) ∧ ys.length ≤ 9 ∧ Paired (ChV H3 i) ys ((if W.pt = true then BRK.map Stp.pt else []) ++ (if x ∈ BRK ∧ W.st = true then [Stp.st x] else [])), ?_, ?_⟩
    · refine g_ifC (b := decide (x ∈ BRK ∧ W.st = true)) (fun Q q => ?_) (fun h => ?_) (fun h => ?_)
      · wtm_at "unf"
        wtm_at "gx"
        refine g_test (fun hb => ?_) (fun hb => ?_)
        · wtm_at "gx"
          refine g_kways T G2 ?_
          refine g_wword T G2.ws.g fun wd hwd => ?_
          refine g_inStrike hwd ?_
          refine ⟨_, rfl, ?_⟩
          rw [show W.st = decide (x ∈ BRK ∧ W.st = true) by simp [hb]]
          exact q
        · rw [show (false : Bool) = decide (x ∈ BRK ∧ W.st = true) by simp [hb]]
          exact q
      · have hx := of_decide_eq_true h
        wtm_at "unf"
        wtm_at "gx"
        refine g_kat T G2 ?_
        wtm_at "gx"
        refine g_tup (by show 3 ≤ 100000; decide) fun td H3 ntd s3 etd => ?_
        wtm_at "gx"
        refine g_kat T (G2.same s3) ?_
        wtm_at "gx"
        refine g_tup (by show 3 ≤ 100000; decide) fun t H4 nt s4 et => ?_
        have eys := s4 _ _ (s3 _ _ efa2)
        refine g_append1 eys (by omega) fun H5 b5 e5 => ?_
        have hnt : ∀ zs, H4 fa ≠ some (.tup zs) := fun zs q => by rw [eys] at q; cases q
        refine ⟨_, Same.b0 b5 (s2.trans (s3.trans s4)) nfa, e5, by simp; omega, ?_⟩
        rw [if_pos hx]
        refine pd_app (pd_imp (fun _ _ h => (h.same (s3.trans s4)).but b5 hnt) hP) (pd_one ?_)
        exact ChV.but ⟨t, V.ref td, rfl, by rw [et]; rfl, td, rfl, s4 _ _ etd⟩ b5 hnt
      · have hx := of_decide_eq_false h
        refine ⟨ys, rfl, s2, efa2, by omega, ?_⟩
        rw [if_neg hx, List.append_nil]
        exact hP
    rintro σ' H3 ⟨ys3, rfl, s3, efa3, hyl3, hP3⟩
    have G3 := hG.same s3
    rw [eC, ← List.append_assoc, ← List.append_assoc] at q
    generalize (if W.pt = true then BRK.map Stp.pt else []) ++ (if x ∈ BRK ∧ W.st = true then [Stp.st x] else []) = A0 at hP3 q
    refine ⟨fun σ' H4 => ∃ ys y3, σ' = [some (V.ref p), some (V.ref fa), some (Tx [x]), y3, none] ∧ Same H H4 ∧ H4 fa = some (.lst ys) ∧ ys.length ≤ 20 ∧ Paired (ChV H4 i) ys (A0 ++ (if x ∈ BRK ∧ W.tn = true then (BRK.filter (· ≠ x)).map (Stp.tn x) else [])), ?_, ?_⟩
    · refine g_ifC (b := decide (x ∈ BRK ∧ W.tn = true)) (fun Q q => ?_) (fun h => ?_) (fun h => ?_)
      · wtm_at "unf"
        wtm_at "gx"
        refine g_test (fun hb => ?_) (fun hb => ?_)
        · wtm_at "gx"
          refine g_kways T G3 ?_
          refine g_wword T G3.ws.g fun wd hwd => ?_
          refine g_inTurn hwd ?_
          refine ⟨_, rfl, ?_⟩
          rw [show W.tn = decide (x ∈ BRK ∧ W.tn = true) by simp [hb]]
          exact q
        · rw [show (false : Bool) = decide (x ∈ BRK ∧ W.tn = true) by simp [hb]]
          exact q
      · have hx := of_decide_eq_true h
        rw [if_pos hx]
        wtm_at "unf"
        wtm_at "gx"
        refine ⟨_, rfl, lc_txt fun d H4 nd s4 ed => ⟨fun pre H' => H' d = some (.lst ((pre.filter (· ≠ x)).map fun c => Tx [c])) ∧ Same H3 H', ⟨ed, s4⟩, fun pre c post H' e hv => ?_, fun H' hv => ?_⟩⟩
        · obtain ⟨e1, e3⟩ := hv
          have hpre : (pre.filter (· ≠ x)).length ≤ 8 := Nat.le_trans (List.length_filter_le _ _) (by have := congrArg List.length e; simp [BRK] at this; omega)
          wtm_at "unf"
          refine ⟨rfl, ?_⟩
          wtm_at "gx"
          by_cases hc : c = x
          · refine ⟨false, by rw [hc, decide_eq_true rfl]; rfl, ?_⟩
            rw [if_neg Bool.false_ne_true]
            refine ⟨?_, e3⟩
            rw [List.filter_append, List.filter_cons_of_neg (by simpa using hc)]
            simpa using e1
          · refine ⟨true, by rw [decide_eq_false (fun q => hc (List.cons.inj (Tx_inj.mp q)).1)]; rfl, ?_⟩
            rw [if_pos rfl]
            wtm_at "gx"
            refine lc_put e1 (by rw [List.length_map]; omega) fun H5 b5 e5 => ⟨?_, Same.b0 b5 e3 nd⟩
            rw [List.filter_append, List.filter_cons_of_pos (by simpa using hc), List.map_append]
            exact e5
        obtain ⟨ed5, s5⟩ := hv
        have G5 := hG.same (s3.trans s5)
        have efa5 := s5 _ _ efa3
        generalize hF : BRK.filter (· ≠ x) = F at ed5
        have hFl : F.length ≤ 8 := by rw [← hF]; exact List.length_filter_le _ _
        wtm_at "gx"
        refine ⟨d, rfl, ⟨_, sq_of ed5⟩, lc_lst (F.map fun c => Tx [c]) fun d2 H6 nd2 s6 ed2 => ⟨fun pre G => ∃ ys, G d2 = some (.lst ys) ∧ Paired (ChV G i) ys ((F.take pre.length).map (Stp.tn x)) ∧ Same H' G, ⟨[], ed2, .nil, s6⟩, fun pre post G e hv => ?_, fun pre v post G e hv => ?_, fun G hv => ?_⟩⟩
        · obtain ⟨ys, e1, e2, e3⟩ := hv
          exact sq_of (e3 _ _ ed5)
        · obtain ⟨ys, e1, e2, e3⟩ := hv
          have hk : pre.length < F.length := by have := congrArg List.length e; simp at this; omega
          have ec : F[pre.length]? = some F[pre.length] := List.getElem?_eq_getElem hk
          have hv : v = Tx [F[pre.length]] := by
            have h1 : (F.map fun c => Tx [c])[pre.length]? = some v := mid_at e
            rw [List.getElem?_map, ec] at h1
            exact (Option.some.inj h1).symm
          have etk : F.take (pre ++ [v]).length = F.take pre.length ++ [F[pre.length]] := by
            rw [List.length_append, List.length_singleton]
            exact List.take_succ_eq_append_getElem hk
          have GG := G5.same e3
          generalize F[pre.length] = c at hv etk
          subst hv
          wtm_at "unf"
          refine ⟨rfl, ?_⟩
          wtm_at "gx"
          refine g_kat T GG ?_
          wtm_at "gx"
          refine g_tup (by show 3 ≤ 100000; decide) fun td G3 ntd g3 etd => ?_
          wtm_at "gx"
          refine g_kat T (GG.same g3) ?_
          wtm_at "gx"
          refine g_tup (by show 3 ≤ 100000; decide) fun t G4 nt g4 et => ?_
          have eys := g4 _ _ (g3 _ _ e1)
          have hyl : ys.length ≤ 8 := by rw [pd_len e2, List.length_map, List.length_take]; omega
          refine lc_put eys (by omega) fun G5 b5 e5 => ⟨_, e5, ?_, Same.b0 b5 (e3.trans (g3.trans g4)) nd2⟩
          have hnt : ∀ zs, G4 d2 ≠ some (.tup zs) := fun zs q => by rw [eys] at q; cases q
          rw [etk, List.map_append]
          refine pd_app (pd_imp (fun _ _ h => (h.same (g3.trans g4)).but b5 hnt) e2) (pd_one ?_)
          exact ChV.but ⟨t, V.ref td, rfl, by rw [et]; rfl, td, rfl, g4 _ _ etd⟩ b5 hnt
        · obtain ⟨ys, e1, e2, e3⟩ := hv
          rw [List.length_map, List.take_length] at e2
          have hyl : ys.length ≤ 8 := by rw [pd_len e2, List.length_map]; omega
          have efa6 := e3 _ _ efa5
          refine g_ext efa6 e1 (by omega) fun G5 b5 e5 => ?_
          have hnt : ∀ zs, G fa ≠ some (.tup zs) := fun zs q => by rw [efa6] at q; cases q
          refine ⟨_, _, rfl, Same.b0 b5 (s3.trans (s5.trans e3)) nfa, e5, by rw [List.length_append]; omega, ?_⟩
          exact pd_app (pd_imp (fun _ _ h => (h.same (s5.trans e3)).but b5 hnt) hP3) (pd_imp (fun _ _ h => h.but b5 hnt) e2)
      · have hx := of_decide_eq_false h
        refine ⟨ys3, _, rfl, s3, efa3, by omega, ?_⟩
        rw [if_neg hx, List.append_nil]
        exact hP3
    rintro σ' H4 ⟨ys4, y3, rfl, s4, efa4, hyl4, hP4⟩
    have G4 := hG.same s4
    wtm_at "gx"
    refine g_kat T G4 ?_
    wtm_at "gx"
    refine g_tup (by show 3 ≤ 100000; decide) fun t H5 nt s5 et => ?_
    have eys := s5 _ _ efa4
    refine g_append1 eys (by omega) fun H6 b6 e6 => ?_
    have hnt : ∀ zs, H5 fa ≠ some (.tup zs) := fun zs q => by rw [eys] at q; cases q
    wtm_at "gx"
    refine q fa _ H6 nfa (Same.b0 b6 (s4.trans s5) nfa) e6 ?_
    refine pd_app (pd_imp (fun _ _ h => (h.same s5).but b6 hnt) hP4) (pd_one ?_)
    exact ChV.but ⟨t, V.non, rfl, by rw [et]; rfl, rfl⟩ b6 hnt
def nxB (W : Wd) (l st : List Nat) (s : Stp) (pl : Nat) : MC := match nxS st s with
  | none => none
  | some st' => LV W l st' pl
theorem mb_nxB (W : Wd) (l st : List Nat) (i n : Nat) (s : Stp) : mb W l st i n s = match nxB W l st s (i + s.i.length) with
    | none => 0
    | some p => if p.1 + s.c = n then p.2 else 0 := by
  unfold mb nxB
  cases nxS st s <;> rfl
theorem LvRow.snoc {H H' : Hp} {a r : Addr} {F : Nat → MC} {n : Nat} (h : LvRow H a F n) (hr : H r = some (.tup [cV (F n), nV (F n)])) (b : But a H H') (e : ∀ ys, H a = some (.lst ys) → H' a = some (.lst (ys ++ [.ref r]))) : LvRow H' a F (n + 1) := by
  obtain ⟨rs, h1, h2, h3⟩ := h
  have ne : ∀ x ys, H x = some (.tup ys) → x ≠ a := fun x ys q z => by rw [z, h1] at q; cases q
  refine ⟨rs ++ [r], by rw [e _ h1, List.map_append]; rfl, by rw [List.length_append, h2]; rfl, fun k x hk => ?_⟩
  by_cases hlt : k < rs.length
  · rw [List.getElem?_append_left hlt] at hk
    exact b _ _ (ne _ _ (h3 k x hk)) (h3 k x hk)
  · rw [List.getElem?_append_right (by omega)] at hk
    have hk0 : k = n := by
      have := (List.getElem?_eq_some_iff.mp hk).1
      simp at this
      omega
    subst hk0
    rw [h2, Nat.sub_self] at hk
    have : r = x := Option.some.inj hk
    subst this
    exact b _ _ (ne _ _ hr) hr
theorem g_pop1 {H : Hp} {Q : VK} {p : Addr} {xs : List V} {v : V} (h : H p = some (.lst (xs ++ [v]))) (q : ∀ H1, But p H H1 → H1 p = some (.lst xs) → Q v H1) : rPop (.ref p) [] H Q := by
  refine ⟨p, xs ++ [v], v, rfl, rfl, h, by simp, ?_⟩
  rw [List.dropLast_concat]
  exact q _ But.set upd_same
/-! Walk.many_behind -/
def sp_Walk_many_behind (K : PySem.W.Frag) : Sp := fun vs H Q _ => ∃ (p : Addr) (v : V) (n : Nat) (s0 : Stp) (pw : Addr) (l : List Nat) (W : Wd) (i : Nat) (st : List Nat) (ok lv : Addr) (as : List Addr) (cd kd : Addr) (crs krs : List Addr), vs = [.ref p, v, .int n] ∧ WalkAt K H p pw l W i st ok lv as cd kd crs krs ∧ ChV H i v s0 ∧ s0 ∈ chS W l i ∧ l.length ≤ 1000 ∧ st.length ≤ 1000 ∧ ∀ H', Same H H' → Q (.int (mb W l st i n s0)) H'
theorem ok_Walk_many_behind (T : Facts K mg) : C8.Met P w K mg base 4 (He.ga K "Walk") "many_behind" (sp_Walk_many_behind K) [] := by
  refine metD T.m_Walk_many_behind sc_Walk_many_behind (fun vs H Q E h => ?_) (fun f cdv A outer s H vs Q E hr h => ?_)
  · obtain ⟨p, v, n, s0, pw, l, W, i, st, ok, lv, as, cd, kd, crs, krs, rfl, hG, hv, hs, hl, hst, q⟩ := h; rfl
  · obtain ⟨p, v, n, s0, pw, l, W, i, st, ok, lv, as, cd, kd, crs, krs, rfl, hG, hv, hs, hl, hst, q⟩ := h
    refine ⟨_, (pss_cons (ps_asg (pv 1) (pg_tup rfl (pgs_cons (pg_name (i := 3) sc_Walk_many_behind.nd rfl (Or.inl rfl)) (pgs_cons (pg_name (i := 4) sc_Walk_many_behind.nd rfl (Or.inl rfl)) (pgs_cons (pg_name (i := 5) sc_Walk_many_behind.nd rfl (Or.inl rfl)) pgs_nil)))))
       (pss_cons (ps_asg (pe_ix ix_list (pe_ix ix_list (pe_fld (pv 0) rfl) (pe_un un_neg pe_int) (fun _ _ => rfl)) (pv 5) (fun _ _ => rfl)) (pg_tup rfl (pgs_cons (pg_name (i := 6) sc_Walk_many_behind.nd rfl (Or.inl rfl)) (pgs_cons (pg_name (i := 7) sc_Walk_many_behind.nd rfl (Or.inl rfl)) pgs_nil))))
       (C8.pss_cut (ps_if (pt_cmpR op_ne (pv 4) (pe_strS (l := []) (by decide +kernel)) (nomark _))
       (pss_one (ps_asg (pe_met (ok_Walk_behind T) hr (by omega) (pv 0) (pa_cons (pv 4) (pa_cons (pv 5) pa_nil))) (pg_tup rfl (pgs_cons (pg_name (i := 6) sc_Walk_many_behind.nd rfl (Or.inl rfl)) (pgs_cons (pg_name (i := 7) sc_Walk_many_behind.nd rfl (Or.inl rfl)) pgs_nil)))))
       pss_nil)
       (pss_cons (ps_ifC (PW.pt (pw_or (pt_cmpR op_isN (pv 6) pe_non (nomark _)) (pw_or1 (pt_cmpR op_ne (pe_op op_add (pv 6) (pe_callTy call_intB rfl T.b_int (by decide +kernel) (pa_cons (pe_cmpR op_notN (pv 3) pe_non (nomark _)) pa_nil))) (pv 2) (nomark _)))))
       (pss_one (ps_ret pe_int))
       pss_nil)
       (pss_one (ps_ret (pv 7))))))), ?_⟩
    rw [st_Walk_many_behind]
    obtain ⟨t, dv, rfl, ht, hdv⟩ := hv
    have hin := ch_in hs
    rw [Nat.max_eq_right hG.il] at hin
    obtain ⟨a0, as0, eas, hrow⟩ := LvL.top hG.lev
    obtain ⟨ys, rr, hy1, hy2, hy3⟩ := LvRow.at hrow (k := i + s0.i.length) (by omega)
    wtm_at "unf"
    wtm_at "gx"
    refine ⟨t, _, rfl, st_of ht, rfl, _, _, rfl, _, _, rfl, _, _, rfl, rfl, ?_⟩
    wtm_at "gx"
    refine g_klev T hG ?_
    wtm_at "gx"
    have hle := hG.le
    rw [eas, List.reverse_cons, List.map_append] at hle
    refine g_ixL (sq_of hle) (atI_last1 _ _) ?_
    wtm_at "gx"
    refine g_ixL (sq_of hy1) (atI_of hy2) ?_
    refine ⟨rr, _, rfl, st_of hy3, rfl, _, _, rfl, _, _, rfl, rfl, ?_⟩
    have hmb := mb_nxB W l st i n s0
    have hone : ∀ c, s0.o = [c] → bhS W l st c (i + s0.i.length) = nxB W l st s0 (i + s0.i.length) := fun c e1 => by
      unfold nxB nxS bhS
      rw [e1]
      rfl
    have hnil : s0.o = [] → LV W l st (i + s0.i.length) = nxB W l st s0 (i + s0.i.length) := fun e1 => by
      unfold nxB nxS
      rw [e1]
      rfl
    generalize nxB W l st s0 (i + s0.i.length) = X at hmb hone hnil
    refine ⟨fun σ' H1 => σ' = [some (V.ref p), some (V.ref t), some (V.int n), some dv, some (Tx s0.o), some (V.int ((i + s0.i.length : Nat) : Int)), some (cV X), some (nV X)] ∧ Same H H1, ?_, ?_⟩
    · wtm_at "unf"
      wtm_at "gx"
      by_cases ho : s0.o = []
      · refine ⟨false, by rw [ho, decide_eq_true rfl]; rfl, ?_⟩
        rw [if_neg Bool.false_ne_true, hnil ho]
        exact ⟨rfl, Same.refl _⟩
      · obtain ⟨c, hc⟩ : ∃ c, s0.o = [c] := by
          cases s0 with
          | kp c => exact ⟨c, rfl⟩
          | st c => exact absurd rfl ho
          | tn c d => exact ⟨d, rfl⟩
          | pt d => exact ⟨d, rfl⟩
        refine ⟨true, by rw [decide_eq_false (fun q => ho (Tx_inj.mp q))]; rfl, ?_⟩
        rw [if_pos rfl]
        wtm_at "gx"
        refine g_kmet hG (fun _ _ _ _ _ => rfl) ?_
        wtm_at "gx"
        have hb := hone c hc
        refine ⟨p, c, i + s0.i.length, pw, l, W, i, st, ok, lv, as, cd, kd, crs, krs, by rw [hc], hG, hin, hl, hst, fun t' H1 s1 et => ?_⟩
        rw [hb] at et
        exact ⟨t', _, rfl, st_of et, rfl, _, _, rfl, _, _, rfl, rfl, rfl, s1⟩
    rintro σ' H1 ⟨rfl, s1⟩
    have hdv1 : decide (dv = V.non) = decide (s0.c = 0) := by
      cases s0 with
      | kp c => rw [show dv = V.non from hdv]; rfl
      | st c => obtain ⟨td, rfl, _⟩ := hdv; rfl
      | tn c d => obtain ⟨td, rfl, _⟩ := hdv; rfl
      | pt d => obtain ⟨td, rfl, _⟩ := hdv; rfl
    have hc1 : s0.c = 0 ∨ s0.c = 1 := by cases s0 <;> simp [Stp.c]
    cases X with
    | none =>
      refine g_ifC (b := true) (fun Q q => ?_) (fun h => ?_) (fun h => by cases h)
      · wtm_at "unf"
        wtm_at "gx"
        exact q
      · wtm_at "unf"
        wtm_at "gx"
        rw [hmb] at q
        exact q _ s1
    | some x =>
    obtain ⟨xc, xk⟩ := x
    rw [show cV (some (xc, xk)) = V.int xc from rfl, show nV (some (xc, xk)) = V.int xk from rfl]
    refine g_ifC (b := !decide (xc + s0.c = n)) (fun Q q => ?_) (fun h => ?_) (fun h => ?_)
    · wtm_at "unf"
      wtm_at "gx"
      rw [hdv1]
      refine ⟨_, rfl, ?_⟩
      have e : (!decide (V.int ((xc : Int) + (if (!decide (s0.c = 0)) = true then 1 else 0)) = V.int n)) = !decide (xc + s0.c = n) := by
        congr 1
        refine decide_eq_decide.mpr ?_
        rcases hc1 with h | h <;> rw [h] <;> simp <;> omega
      rw [e]
      exact q
    · have h' : ¬ xc + s0.c = n := by simpa using h
      wtm_at "unf"
      wtm_at "gx"
      rw [hmb] at q
      dsimp only at q
      rw [if_neg h'] at q
      exact q _ s1
    · have h' : xc + s0.c = n := by simpa using h
      wtm_at "unf"
      wtm_at "gx"
      rw [hmb] at q
      dsimp only at q
      rw [if_pos h'] at q
      exact q _ s1
/-! Walk.is_over -/
def sp_Walk_is_over (K : PySem.W.Frag) : Sp := fun vs H Q _ => ∃ (p pw : Addr) (l : List Nat) (W : Wd) (i : Nat) (st : List Nat) (ok lv : Addr) (as : List Addr) (cd kd : Addr) (crs krs : List Addr), vs = [.ref p] ∧ WalkAt K H p pw l W i st ok lv as cd kd crs krs ∧ ∀ H', Same H H' → Q (.bl (decide (i = l.length ∧ st = []))) H'
theorem ok_Walk_is_over (T : Facts K mg) : C8.Met P w K mg base 1 (He.ga K "Walk") "is_over" (sp_Walk_is_over K) [] := by
  refine metD T.m_Walk_is_over sc_Walk_is_over (fun vs H Q E h => ?_) (fun f cdv A outer s H vs Q E hr h => ?_)
  · obtain ⟨p, pw, l, W, i, st, ok, lv, as, cd, kd, crs, krs, rfl, hG, q⟩ := h; rfl
  · obtain ⟨p, pw, l, W, i, st, ok, lv, as, cd, kd, crs, krs, rfl, hG, q⟩ := h
    refine ⟨_, (pss_one (ps_ret (pe_and (pe_cmpR op_eq (pe_fld (pv 0) rfl) (pe_fld (pv 0) rfl) (nomark _)) (pe_one (pe_cmpR (op_eqD hr.units) (pe_fld (pv 0) rfl) (pe_lst pa_nil) (nomark _)))))), ?_⟩
    rw [st_Walk_is_over]
    have hfl : ∀ v ∈ st.reverse.map (fun k => V.int (knd k)), Flat v := fun v hv => by
      obtain ⟨k, _, rfl⟩ := List.mem_map.mp hv
      exact flat_int _
    wtm_at "unf"
    wtm_at "gx"
    refine g_kat T hG ?_
    wtm_at "gx"
    refine g_kend T hG ?_
    wtm_at "gx"
    by_cases e : i = l.length
    · refine ⟨true, by rw [e, decide_eq_true rfl], ?_⟩
      rw [if_pos rfl]
      wtm_at "gx"
      refine g_kopen T hG ?_
      refine g_lst (by show 0 ≤ 100000; decide) fun ea H1 ne s1 ee => ?_
      refine g_eqNil (sq_of (s1 _ _ hG.op)) hfl (sq_of ee) ?_
      have h : (st.reverse.map fun k => V.int (knd k)).isEmpty = decide (i = l.length ∧ st = []) := by
        cases st with
        | nil => simp [e]
        | cons k st => simp
      rw [h]
      exact q _ s1
    · refine ⟨false, by rw [decide_eq_false (fun h => e (by have := V.int.inj h; omega))], ?_⟩
      rw [if_neg Bool.false_ne_true, show (false : Bool) = decide (i = l.length ∧ st = []) by simp [e]]
      exact q _ (Same.refl _)
/-! Walk.go -/
def sp_Walk_go (K : PySem.W.Frag) : Sp := fun vs H Q _ => ∃ (p : Addr) (v : V) (s0 : Stp) (st' : List Nat) (pw : Addr) (l : List Nat) (W : Wd) (i : Nat) (st : List Nat) (ok lv : Addr) (as : List Addr) (cd kd : Addr) (crs krs : List Addr), vs = [.ref p, v] ∧ WalkAt K H p pw l W i st ok lv as cd kd crs krs ∧ ChV H i v s0 ∧ s0 ∈ chS W l i ∧ nxS st s0 = some st' ∧ l.length ≤ 1000 ∧ st.length ≤ 999 ∧ ∀ (as' : List Addr) (H' : Hp), Bt3 p ok lv H H' → (∀ a ∈ as', a ∈ as ∨ H a = none) → WalkAt K H' p pw l W (i + s0.i.length) st' ok lv as' cd kd crs krs → Q .non H'
theorem ok_Walk_go (T : Facts K mg) : C8.Met P w K mg base 3 (He.ga K "Walk") "go" (sp_Walk_go K) [] := by
  refine metD T.m_Walk_go sc_Walk_go (fun vs H Q E h => ?_) (fun f cdv A outer s H vs Q E hr h => ?_)
  · obtain ⟨p, v, s0, st', pw, l, W, i, st, ok, lv, as, cd, kd, crs, krs, rfl, hG, hv, hs, hn, hl, hst, q⟩ := h; rfl
  · obtain ⟨p, v, s0, st', pw, l, W, i, st, ok, lv, as, cd, kd, crs, krs, rfl, hG, hv, hs, hn, hl, hst, q⟩ := h
    refine ⟨_, (pss_cons (ps_asg (pv 1) (pg_tup rfl (pgs_cons (pg_name (i := 2) sc_Walk_go.nd rfl (Or.inl rfl)) (pgs_cons (pg_name (i := 3) sc_Walk_go.nd rfl (Or.inl rfl)) (pgs_cons (pg_name (i := 4) sc_Walk_go.nd rfl (Or.inl rfl)) pgs_nil)))))
       (pss_cons (ps_fld (pv 0) (pv 4) rfl)
       (pss_one (ps_ifC (PW.pt (pw_and (pt_cmpR op_ne (pv 3) (pe_strS (l := []) (by decide +kernel)) (nomark _)) (pw_and1 (pt_cmpR op_inT (pv 3) (C8.pe_gc rfl T.c_OPENING) (by rfl)))))
       (pss_cons (ps_set (i := 5) sc_Walk_go.nd rfl (Or.inr rfl) (pe_own (ok_kind_of T) hr (by omega) rfl (pa_cons (pv 3) pa_nil)))
       (pss_cons (ps_expr (pe_bm PySem.F.plainAttrs_list PySem.F.slot_list_append PySem.F.type_list_append mt_append (pe_fld (pv 0) rfl) (pa_cons (pe_lc (own := [("i", 6)]) (by rfl) sc_Walk_go.nd (pi_range1 rfl T.b_range (pa_cons (pe_op op_add (pe_fld (pv 0) rfl) pe_int) pa_nil)) (blkOk_by (own := [("i", 6)]) (N := N_Walk_go) (sc := defScope s_Walk_go) (by decide +kernel)) (fun _ _ _ _ _ => (pg_name (i := 6) sc_Walk_go.nd rfl (Or.inl rfl))) (fun _ _ _ _ _ => pts_nil) (fun _ _ _ _ _ => (pe_met (ok_Walk_best_from T) hr (by omega) (pv 0) (pa_cons (pv 5) (pa_cons (pv 6) pa_nil))))) pa_nil)))
       (pss_one (ps_expr (pe_bm PySem.F.plainAttrs_list PySem.F.slot_list_append PySem.F.type_list_append mt_append (pe_fld (pv 0) rfl) (pa_cons (pv 5) pa_nil))))))
       (pss_one (ps_ifC (PW.pt (pw_and (pt_cmpR op_ne (pv 3) (pe_strS (l := []) (by decide +kernel)) (nomark _)) (pw_and1 (pt_cmpR op_inT (pv 3) (C8.pe_gc rfl T.c_CLOSING) (by rfl)))))
       (pss_cons (ps_expr (pe_bm0 PySem.F.plainAttrs_list PySem.F.slot_list_pop PySem.F.type_list_pop mt_pop (pe_fld (pv 0) rfl)))
       (pss_one (ps_expr (pe_bm0 PySem.F.plainAttrs_list PySem.F.slot_list_pop PySem.F.type_list_pop mt_pop (pe_fld (pv 0) rfl)))))
       pss_nil)))))), ?_⟩
    rw [st_Walk_go]
    obtain ⟨t, dv, rfl, ht, hdv⟩ := hv
    have hin := ch_in hs
    rw [Nat.max_eq_right hG.il] at hin
    obtain ⟨dx, hob⟩ := hG.ob
    wtm_at "unf"
    wtm_at "gx"
    refine ⟨t, _, rfl, st_of ht, rfl, _, _, rfl, _, _, rfl, _, _, rfl, rfl, ?_⟩
    wtm_at "gx"
    refine g_sfld hob T.cl_Walk T.n_Walk_at (by show 5 < 1000; decide) fun H1 b1 e1 => ?_
    rw [kfl_put] at e1
    have G1 : WalkAt K H1 p pw l W (i + s0.i.length) st ok lv as cd kd crs krs := hG.at b1 hob e1 hin
    have bt1 : ∀ {G : Hp}, Same H1 G → Bt3 p ok lv H G := fun s x o n1 n2 n3 h => s _ _ (b1 _ _ n1 h)
    by_cases ho : s0.o = []
    · have e : st' = st := by
        unfold nxS at hn
        rw [ho] at hn
        exact (Option.some.inj hn).symm
      subst e
      rw [ho]
      refine g_ifC (b := false) (fun Q q => ?_) (fun h => by cases h) (fun _ => ?_)
      · wtm_at "unf"
        wtm_at "gx"
        exact q
      refine g_ifC (b := false) (fun Q q => ?_) (fun h => by cases h) (fun _ => ?_)
      · wtm_at "unf"
        wtm_at "gx"
        exact q
      exact q as H1 (bt1 (Same.refl _)) (fun a h => .inl h) G1
    obtain ⟨c, hc⟩ : ∃ c, s0.o = [c] := by
      cases s0 with
      | kp c => exact ⟨c, rfl⟩
      | st c => exact absurd rfl ho
      | tn c d => exact ⟨d, rfl⟩
      | pt d => exact ⟨d, rfl⟩
    have hn' : stp (some st) c = some st' := by
      unfold nxS at hn
      rw [hc] at hn
      exact hn
    rw [hc]
    by_cases hop : c ∈ OPN
    · rw [stp_opn hop] at hn'
      have e := Option.some.inj hn'
      subst e
      refine g_ifC (b := true) (fun Q q => ?_) (fun _ => ?_) (fun h => by cases h)
      · wtm_at "unf"
        wtm_at "gx"
        exact q
      wtm_at "unf"
      wtm_at "gx"
      refine ⟨c, rfl, brk_or.mpr (.inl hop), ?_⟩
      wtm_at "gx"
      refine g_klev T G1 ?_
      have hle1 := G1.le
      wtm_at "gx"
      refine g_kend T G1 ?_
      wtm_at "gx"
      refine ⟨_, rfl, by omega, by omega, lc_rng fun d H2 nd s2 ed => ⟨fun t' H' => LvRow H' d (LV W l (oth c :: st)) t' ∧ Same H1 H', ⟨⟨[], ed, rfl, fun k r e => by cases e⟩, s2⟩, fun t' H' ht' hv => ?_, fun H' hv => ?_⟩⟩
      · obtain ⟨hr, sH⟩ := hv
        have GG := G1.same sH
        rw [show (0 : Int) + (t' : Int) = (t' : Int) by omega]
        wtm_at "unf"
        refine ⟨rfl, ?_⟩
        wtm_at "gx"
        refine g_kmet GG (fun _ _ _ _ _ => rfl) ?_
        wtm_at "gx"
        refine ⟨p, oth c, t', pw, l, W, _, st, ok, lv, as, cd, kd, crs, krs, by rw [knd_oth c hop], GG, oth_clo c hop, by omega, hl, by omega, fun r H3 nr s3 er => ?_⟩
        obtain ⟨rs, h1, h2, h3⟩ := hr.same s3
        refine lc_put h1 (by rw [List.length_map]; omega) fun H4 b4 e4 => ⟨LvRow.snoc (hr.same s3) er b4 (fun ys q => ?_), Same.b0 b4 (sH.trans s3) nd⟩
        rw [h1] at q
        injection q with q
        injection q with q
        rw [← q]
        exact e4
      obtain ⟨hr, sH⟩ := hv
      rw [show ((l.length : Int) + 1).toNat = l.length + 1 by omega] at hr
      have GG := G1.same sH
      have hal := LvL.len GG.lev
      obtain ⟨dx2, hob2⟩ := GG.ob
      have hle2 := GG.le
      have hop2 := GG.op
      have hlst : ∀ {x : Addr} {ys : List V}, H' x = some (.lst ys) → p ≠ x := fun h q => by rw [← q, hob2] at h; cases h
      refine g_append1 hle2 (by rw [List.length_map, List.length_reverse]; omega) fun H2 b2 e2 => ?_
      have hob3 := b2 _ _ (hlst hle2) hob2
      have hop3 := b2 _ _ GG.n1 hop2
      wtm_at "gx"
      refine g_fld hob3 T.cl_Walk T.n_Walk_open_kinds (kfl_open ..) ?_
      wtm_at "gx"
      refine g_append1 hop3 (by rw [List.length_map, List.length_reverse]; omega) fun H3 b3 e3 => ?_
      have hdok : d ≠ ok := Ne.symm (ne_new nd G1.op)
      have hdlv : d ≠ lv := Ne.symm (ne_new nd G1.le)
      have tn2 : ∀ ys, H' lv ≠ some (.tup ys) := fun ys h => by rw [hle2] at h; cases h
      have tn3 : ∀ ys, H2 ok ≠ some (.tup ys) := fun ys h => by rw [hop3] at h; cases h
      have hfr : ∀ a ∈ d :: as, a ∈ as ∨ H a = none := fun a h => by
        rcases List.mem_cons.mp h with rfl | h
        · exact .inr (But.fr nd b1 (fun e => by rw [e, e1] at nd; cases nd))
        · exact .inl h
      refine q (d :: as) H3 (fun x o n1 n2 n3 h => b3 _ _ n2 (b2 _ _ n3 (sH _ _ (b1 _ _ n1 h)))) hfr ⟨⟨dx2, b3 _ _ (hlst hop2) hob3⟩, (GG.ws.butL b2 hle2 GG.n3.1 GG.n3.2).butL b3 hop3 GG.n2.1 GG.n2.2, ?_, ?_, ⟨(hr.but b2 hdlv tn2).but b3 hdok tn3, LvL.but b3 tn3 (LvL.but b2 tn2 GG.lev GG.n4.2) GG.n4.1⟩, GG.n1, GG.n2, GG.n3, ⟨?_, ?_⟩, ?_, GG.il⟩
      · rw [e3, List.reverse_cons, List.map_append]
        show _ = some (HO.lst (_ ++ [V.int (knd (oth c))]))
        rw [knd_oth c hop]
      · rw [b3 _ _ (Ne.symm GG.n1) e2, List.reverse_cons, List.map_append]
        rfl
      · intro h
        rcases List.mem_cons.mp h with h | h
        · exact hdok h.symm
        · exact GG.n4.1 h
      · intro h
        rcases List.mem_cons.mp h with h | h
        · exact hdlv h.symm
        · exact GG.n4.2 h
      · intro k hk
        rcases List.mem_cons.mp hk with rfl | hk
        · exact oth_clo c hop
        · exact GG.cl k hk
    · have hcc : c ∈ CLO ∨ c ∉ CLO := Classical.em _
      rcases hcc with hcl | hcl
      · cases st with
        | nil =>
          unfold stp at hn'
          dsimp only at hn'
          rw [if_neg hop, if_pos hcl] at hn'
          cases hn'
        | cons k st =>
        have hk : k = c ∧ st = st' := by
          unfold stp at hn'
          dsimp only at hn'
          rw [if_neg hop, if_pos hcl] at hn'
          by_cases e : k = c
          · rw [if_pos e] at hn'
            exact ⟨e, Option.some.inj hn'⟩
          · rw [if_neg e] at hn'
            cases hn'
        obtain ⟨rfl, rfl⟩ := hk
        refine g_ifC (b := false) (fun Q q => ?_) (fun h => by cases h) (fun _ => ?_)
        · wtm_at "unf"
          wtm_at "gx"
          exact q
        refine g_ifC (b := true) (fun Q q => ?_) (fun _ => ?_) (fun h => by cases h)
        · wtm_at "unf"
          wtm_at "gx"
          exact q
        obtain ⟨a0, as0, eas, hrow⟩ := LvL.top G1.lev
        have hlev := G1.lev
        rw [eas] at hlev
        have hle1 := G1.le
        have hop1 := G1.op
        rw [eas, List.reverse_cons, List.map_append] at hle1
        rw [List.reverse_cons, List.map_append] at hop1
        have hlst : ∀ {x : Addr} {ys : List V}, H1 x = some (.lst ys) → p ≠ x := fun h q => by rw [← q, e1] at h; cases h
        wtm_at "unf"
        wtm_at "gx"
        refine g_klev T G1 ?_
        wtm_at "gx"
        refine g_pop1 hle1 fun H2 b2 e2 => ?_
        have hob2 := b2 _ _ (hlst hle1) e1
        have hop2 := b2 _ _ G1.n1 hop1
        wtm_at "gx"
        refine g_fld hob2 T.cl_Walk T.n_Walk_open_kinds (kfl_open ..) ?_
        wtm_at "gx"
        refine g_pop1 hop2 fun H3 b3 e3 => ?_
        have tn2 : ∀ ys, H1 lv ≠ some (.tup ys) := fun ys h => by rw [hle1] at h; cases h
        have tn3 : ∀ ys, H2 ok ≠ some (.tup ys) := fun ys h => by rw [hop2] at h; cases h
        have n4a : ok ∉ as0 := fun h => G1.n4.1 (by rw [eas]; exact List.mem_cons_of_mem _ h)
        have n4b : lv ∉ as0 := fun h => G1.n4.2 (by rw [eas]; exact List.mem_cons_of_mem _ h)
        exact q as0 H3 (fun x o n1 n2 n3 h => b3 _ _ n2 (b2 _ _ n3 (b1 _ _ n1 h))) (fun a h => .inl (by rw [eas]; exact List.mem_cons_of_mem _ h)) ⟨⟨dx, b3 _ _ (hlst hop1) hob2⟩, (G1.ws.butL b2 hle1 G1.n3.1 G1.n3.2).butL b3 hop2 G1.n2.1 G1.n2.2, e3, b3 _ _ (Ne.symm G1.n1) e2, LvL.but b3 tn3 (LvL.but b2 tn2 hlev.2 n4b) n4a, G1.n1, G1.n2, G1.n3, ⟨n4a, n4b⟩, fun k hk => G1.cl k (List.mem_cons_of_mem _ hk), G1.il⟩
      · rw [stp_let hop hcl] at hn'
        have e := Option.some.inj hn'
        subst e
        refine g_ifC (b := false) (fun Q q => ?_) (fun h => by cases h) (fun _ => ?_)
        · wtm_at "unf"
          wtm_at "gx"
          exact q
        refine g_ifC (b := false) (fun Q q => ?_) (fun h => by cases h) (fun _ => ?_)
        · wtm_at "unf"
          wtm_at "gx"
          exact q
        exact q as H1 (bt1 (Same.refl _)) (fun a h => .inl h) G1
/-! Walk.__init__ -/
def sp_Walk_init (K : PySem.W.Frag) : Sp := fun vs H Q _ => ∃ (p dx pw : Addr) (l : List Nat) (W : Wd) (cd kd : Addr) (crs krs : List Addr), vs = [.ref p, .ref pw] ∧ H p = some (.ins (He.ga K "Walk") dx []) ∧ WaysAt K H pw l W cd kd crs krs ∧ l.length ≤ 1000 ∧ ∀ (ok lv : Addr) (as : List Addr) (H' : Hp), But p H H' → H ok = none → H lv = none → WalkAt K H' p pw l W 0 [] ok lv as cd kd crs krs → Q .non H'
theorem ok_Walk_init (T : Facts K mg) : C8.Mak P w K mg base 2 "Walk" (He.ga K "Walk") (sp_Walk_init K) [] := by
  refine makD T.k_Walk_init sc_Walk_init (fun vs H Q E h => ?_) (fun f cdv A outer s H vs Q E hr h => ?_)
  · obtain ⟨p, dx, pw, l, W, cd, kd, crs, krs, rfl, hp, hA, hl, q⟩ := h; rfl
  · obtain ⟨p, dx, pw, l, W, cd, kd, crs, krs, rfl, hp, hA, hl, q⟩ := h
    refine ⟨_, (pss_cons (ps_fld (pv 0) (pv 1) rfl)
       (pss_cons (ps_fld (pv 0) (pe_callB call_lenT rfl T.b_len PySem.boot_len (pa_cons (pe_fld (pv 1) rfl) pa_nil)) rfl)
       (pss_cons (ps_fld (pv 0) pe_int rfl)
       (pss_cons (ps_fld (pv 0) (pe_lst pa_nil) rfl)
       (pss_one (ps_fld (pv 0) (pe_lst (pa_cons (pe_lc (own := [("i", 2)]) (by rfl) sc_Walk_init.nd (pi_range1 rfl T.b_range (pa_cons (pe_op op_add (pe_fld (pv 0) rfl) pe_int) pa_nil)) (blkOk_by (own := [("i", 2)]) (N := N_Walk_init) (sc := defScope s_Walk_init) (by decide +kernel)) (fun _ _ _ _ _ => (pg_name (i := 2) sc_Walk_init.nd rfl (Or.inl rfl))) (fun _ _ _ _ _ => pts_nil) (fun _ _ _ _ _ => (pe_tup (pa_cons (pe_met (ok_Ways_cost T) hr (by omega) (pv 1) (pa_cons (pv 2) (pa_cons (pe_fldK (K := K) rfl (pv 0) rfl) pa_nil))) (pa_cons (pe_met (ok_Ways_count T) hr (by omega) (pv 1) (pa_cons (pv 2) (pa_cons (pe_fldK (K := K) rfl (pv 0) rfl) pa_nil))) pa_nil))))) pa_nil)) rfl)))))), ?_⟩
    rw [st_Walk_init]
    wtm_at "unf"
    wtm_at "gx"
    refine g_sfld hp T.cl_Walk T.n_Walk_ways (by decide) fun H1 b1 e1 => ?_
    have hne : pw ≠ p := fun e => by
      obtain ⟨dx', wd, h1, _⟩ := hA.g.ob
      rw [e, hp] at h1
      injection h1 with h1
      injection h1 with _ _ h3
      have := congrArg List.length h3
      exact absurd this (by show ¬ 0 = 4; decide)
    have A1 := hA.butI b1 hp hne
    wtm_at "unf"
    wtm_at "gx"
    refine g_wsig T A1.g ?_
    wtm_at "gx"
    refine g_sfld e1 T.cl_Walk T.n_Walk_end (by show 1 < 1000; decide) fun H2 b2 e2 => ?_
    have A2 := A1.butI b2 e1 hne
    wtm_at "unf"
    wtm_at "gx"
    refine g_sfld e2 T.cl_Walk T.n_Walk_at (by show 2 < 1000; decide) fun H3 b3 e3 => ?_
    have A3 := A2.butI b3 e2 hne
    wtm_at "unf"
    wtm_at "gx"
    refine g_lst (by show 0 ≤ 100000; decide) fun ok H4 nok s4 eok => ?_
    wtm_at "gx"
    refine g_sfld (s4 _ _ e3) T.cl_Walk T.n_Walk_open_kinds (by show 3 < 1000; decide) fun H5 b5 e5 => ?_
    have A5 := (A3.same s4).butI b5 (s4 _ _ e3) hne
    wtm_at "unf"
    wtm_at "gx"
    refine g_fld e5 T.cl_Walk T.n_Walk_end rfl ?_
    wtm_at "gx"
    refine ⟨_, rfl, by omega, by omega, lc_rng fun d H6 nd s6 ed => ⟨fun t' H' => LvRow H' d (LV W l []) t' ∧ Same H5 H', ⟨⟨[], ed, rfl, fun k r e => by cases e⟩, s6⟩, fun t' H' ht' hv => ?_, fun H' hv => ?_⟩⟩
    · obtain ⟨hr, sH⟩ := hv
      have AA := A5.same sH
      have hcl := AA.cl
      have hkl := AA.kl
      rw [show (0 : Int) + (t' : Int) = (t' : Int) by omega]
      wtm_at "unf"
      refine ⟨rfl, ?_⟩
      wtm_at "gx"
      refine g_wmet AA.g (fun _ _ _ _ => rfl) ?_
      wtm_at "gx"
      refine g_fld (sH _ _ e5) T.cl_Walk T.n_Walk_end rfl ?_
      refine ⟨pw, t', l.length, l, W, cd, kd, crs, krs, _, _, _, rfl, AA.g, by omega, colV_at (by omega), ?_⟩
      wtm_at "gx"
      refine g_wmet AA.g (fun _ _ _ _ => rfl) ?_
      wtm_at "gx"
      refine g_fld (sH _ _ e5) T.cl_Walk T.n_Walk_end rfl ?_
      refine ⟨pw, t', l.length, l, W, cd, kd, crs, krs, _, _, _, rfl, AA.g, by omega, colV_at (by omega), ?_⟩
      refine g_tup (by show 2 ≤ 100000; decide) fun r H3 nr s3 er => ?_
      obtain ⟨rs, h1, h2, h3⟩ := hr.same s3
      refine lc_put h1 (by rw [List.length_map]; omega) fun H4 b4 e4 => ⟨LvRow.snoc (hr.same s3) er b4 (fun ys q => ?_), Same.b0 b4 (sH.trans s3) nd⟩
      rw [h1] at q
      injection q with q
      injection q with q
      rw [← q]
      exact e4
    obtain ⟨hr, sH⟩ := hv
    rw [show ((l.length : Int) + 1).toNat = l.length + 1 by omega] at hr
    refine g_lst (by show 1 ≤ 100000; decide) fun lv H7 nlv s7 elv => ?_
    wtm_at "gx"
    have s57 : Same H5 H7 := sH.trans s7
    refine g_sfld (s57 _ _ e5) T.cl_Walk T.n_Walk_levels (by show 4 < 1000; decide) fun H8 b8 e8 => ?_
    have e8' : H8 p = some (.ins (He.ga K "Walk") dx (kfl pw l.length (0 : Nat) ok lv)) := e8
    have hne2 : ∀ {x : Addr} {G : Hp} {o : HO}, G x = none → G p = some o → x ≠ p := fun h h' e => by rw [e, h'] at h; cases h
    have p1 : ok ≠ p := hne2 nok e3
    have p2 : lv ≠ p := hne2 nlv (sH _ _ e5)
    have p3 : d ≠ p := hne2 nd e5
    have eok5 : H5 ok = some (.lst []) := b5 _ _ p1 eok
    have d1 : ok ≠ lv := ne_new nlv (sH _ _ eok5)
    have d2 : ok ≠ d := ne_new nd eok5
    obtain ⟨rsd, ed1, _⟩ := id hr
    have d3 : d ≠ lv := ne_new nlv ed1
    have b3' : But p H H3 := But.tr b3 (But.tr b2 b1)
    have b5' : But p H H5 := But.tr b5 (But.sa s4 b3')
    have fr1 := (A3.g).fresh nok
    have fr2 := ((A5.same sH).g).fresh nlv
    have A8 := (A5.same s57).butI b8 (s57 _ _ e5) hne
    have tn8 : ∀ ys, H7 p ≠ some (.tup ys) := fun ys h => by rw [s57 _ _ e5] at h; cases h
    refine q ok lv [d] H8 (But.tr b8 (But.sa s57 b5')) (But.fr nok b3' p1) (But.fr (sH.free nlv) b5' p2) ⟨⟨dx, e8'⟩, A8, b8 _ _ p1 (s57 _ _ eok5), b8 _ _ p2 elv, LvRow.but (hr.same s7) b8 p3 tn8, d1, fr1, fr2, ⟨fun h => d2 (List.mem_singleton.mp h), fun h => d3 (List.mem_singleton.mp h).symm⟩, (fun k hk => by cases hk), Nat.zero_le _⟩
theorem nxS_len {st st' : List Nat} {s : Stp} (h : nxS st s = some st') : st'.length ≤ st.length + 1 := by
  have key : ∀ c, stp (some st) c = some st' → st'.length ≤ st.length + 1 := fun c h => by
    unfold stp at h
    dsimp only at h
    split at h
    · rw [← Option.some.inj h]; simp
    · split at h
      · split at h
        · split at h
          · rw [← Option.some.inj h]; simp; omega
          · cases h
        · cases h
      · rw [← Option.some.inj h]; omega
  cases s with
  | kp c => exact key c h
  | st c => rw [← Option.some.inj (show some st = some st' from h)]; omega
  | tn c d => exact key d h
  | pt d => exact key d h
theorem dd_step (s : Stp) (β : List Stp) (i : Nat) : ddS i (s :: β) = (if s.c = 1 then [(i, dwS s)] else []) ++ ddS (i + s.i.length) β := by
  cases s <;> rfl
theorem Bt3.same {p q r : Addr} {H H' : Hp} {G : Hp} (b : Bt3 p q r H H') (s : Same G H) (h1 : G p = none) (h2 : G q = none) (h3 : G r = none) : Same G H' := fun x o h => b x o (fun e => by rw [e, h1] at h; cases h) (fun e => by rw [e, h2] at h; cases h) (fun e => by rw [e, h3] at h; cases h) (s x o h)
theorem WalkAt.butF {K : PySem.W.Frag} {H H' : Hp} {p pw : Addr} {l : List Nat} {W : Wd} {i : Nat} {st : List Nat} {ok lv : Addr} {as : List Addr} {cd kd : Addr} {crs krs : List Addr} {f : Addr} {ys : List V} (h : WalkAt K H p pw l W i st ok lv as cd kd crs krs) (b : But f H H') (hf : H f = some (.lst ys)) (h1 : f ∉ cd :: crs) (h2 : f ∉ kd :: krs) (h3 : f ≠ ok) (h4 : f ≠ lv) (h5 : f ∉ as) : WalkAt K H' p pw l W i st ok lv as cd kd crs krs := by
  obtain ⟨dx, hob⟩ := h.ob
  exact ⟨⟨dx, b _ _ (fun e => by rw [e, hf] at hob; cases hob) hob⟩, h.ws.butL b hf h1 h2, b _ _ (Ne.symm h3) h.op, b _ _ (Ne.symm h4) h.le, LvL.but b (fun zs q => by rw [hf] at q; cases q) h.lev h5, h.n1, h.n2, h.n3, h.n4, h.cl, h.il⟩
/-! need_number -/
def sp_need_number : Sp := fun vs H Q _ => ∃ k : Nat, vs = [.int k] ∧ Q .non H
theorem ok_need_number (T : Facts K mg) : C8.Cal P w K mg base 1 "need_number" sp_need_number [] := by
  refine calD T.f_need_number sc_need_number (fun vs H Q E h => ?_) (fun f cdv A outer s H vs Q E hr h => ?_)
  · obtain ⟨k, rfl, q⟩ := h; rfl
  · obtain ⟨k, rfl, q⟩ := h
    refine ⟨_, (pss_one (ps_ifC (PW.pt (pw_or (pt_not (pt_val (pe_callB call_isi rfl T.b_isinstance (by decide +kernel) (pa_cons (pv 0) (pa_cons (pe_bltn (v := .ty "int") rfl T.b_int (by decide +kernel) rfl) pa_nil))))) (pw_or (pt_val (pe_callB call_isi rfl T.b_isinstance (by decide +kernel) (pa_cons (pv 0) (pa_cons (pe_bltn (v := .ty "bool") rfl T.b_bool (by decide +kernel) rfl) pa_nil)))) (pw_or1 (pt_cmpR op_lt (pv 0) pe_int (nomark _))))))
       (pss_one ps_never)
       pss_nil)), ?_⟩
    rw [st_need_number]
    wtm_at "unf"
    refine g_ifC (b := false) (fun Q q => ?_) (fun h => by cases h) (fun _ => q)
    wtm_at "unf"
    wtm_at "gx"
    exact q
/-! kth -/
def sp_kth (K : PySem.W.Frag) : Sp := fun vs H Q _ => ∃ (pw : Addr) (k : Nat) (l : List Nat) (W : Wd) (cd kd : Addr) (crs krs : List Addr) (c N : Nat), vs = [.ref pw, .int k] ∧ WaysAt K H pw l W cd kd crs krs ∧ l.length ≤ 300 ∧ mcN l W 0 l.length = some (c, N) ∧ k < N ∧ ∀ (fa : Addr) (rs : List Addr) (α : List Stp) (H' : Hp), H fa = none → Same H H' → (rowsL W [] l c)[k]? = some α → Dds H' fa rs (ddS 0 α) → Q (.ref fa) H'
theorem ok_kth (T : Facts K mg) : C8.Cal P w K mg base 5 "kth" (sp_kth K) [] := by
  refine calD T.f_kth sc_kth (fun vs H Q E h => ?_) (fun f cdv A outer s H vs Q E hr h => ?_)
  · obtain ⟨pw, k, l, W, cd, kd, crs, krs, c, N, rfl, hA, hl, hc, hk, q⟩ := h; rfl
  · obtain ⟨pw, k, l, W, cd, kd, crs, krs, c, N, rfl, hA, hl, hc, hk, q⟩ := h
    refine ⟨_, (pss_cons (ps_set (i := 2) sc_kth.nd rfl (Or.inl rfl) (pe_mak (ok_Walk_init T) hr (by omega) rfl (pa_cons (pv 0) pa_nil)))
       (pss_cons (ps_set (i := 3) sc_kth.nd rfl (Or.inl rfl) (pe_met (ok_Ways_cost T) hr (by omega) (pv 0) (pa_cons pe_int (pa_cons (pe_fld (pv 2) rfl) pa_nil))))
       (pss_cons (ps_set (i := 4) sc_kth.nd rfl (Or.inl rfl) (pe_lst pa_nil))
       (pss_cons (ps_while PassesOwn.never (PW.pt (pw_or (pt_not (pt_val (pe_met0 (ok_Walk_is_over T) hr (by omega) (pv 2)))) (pw_or1 (pt_cmpR op_gt (pv 3) pe_int (nomark _)))))
       (pss_cons (ps_set (i := 5) sc_kth.nd rfl (Or.inl rfl) pe_non)
       (pss_cons (ps_for PassesOwn.never rfl (pi_list (pe_met0 (ok_Walk_choices T) hr (by omega) (pv 2))) (pg_name (i := 6) sc_kth.nd rfl (Or.inl rfl))
       (pss_cons (ps_set (i := 7) sc_kth.nd rfl (Or.inl rfl) (pe_met (ok_Walk_many_behind T) hr (by omega) (pv 2) (pa_cons (pv 6) (pa_cons (pv 3) pa_nil))))
       (pss_one (ps_ifC (PW.pt (pw_and (pt_cmpR op_isN (pv 5) pe_non (nomark _)) (pw_and1 (pt_cmpR op_lt (pv 1) (pv 7) (nomark _)))))
       (pss_one (ps_set (i := 5) sc_kth.nd rfl (Or.inl rfl) (pv 6)))
       (pss_one (ps_if (pt_cmpR op_isN (pv 5) pe_non (nomark _))
       (pss_one (ps_aug (i := 1) sc_kth.nd rfl (Or.inl rfl) (pv 7) ip_sub))
       pss_nil))))))
       (pss_cons (ps_expr (pe_met (ok_Walk_go T) hr (by omega) (pv 2) (pa_cons (pv 5) pa_nil)))
       (pss_one (ps_if (pt_cmpR op_notN (pe_ix ix_tup (pv 5) pe_int (fun _ _ => rfl)) pe_non (nomark _))
       (pss_cons (ps_expr (pe_bm PySem.F.plainAttrs_list PySem.F.slot_list_append PySem.F.type_list_append mt_append (pv 4) (pa_cons (pe_ix ix_tup (pv 5) pe_int (fun _ _ => rfl)) pa_nil)))
       (pss_one (ps_aug (i := 3) sc_kth.nd rfl (Or.inl rfl) pe_int ip_sub)))
       pss_nil))))))
       (pss_one (ps_ret (pv 4))))))), ?_⟩
    rw [st_kth]
    wtm_at "unf"
    wtm_at "gx"
    refine g_mak fun x dx H1 nx s1 ex => ?_
    refine ⟨x, dx, pw, l, W, cd, kd, crs, krs, rfl, ex, hA.same s1, by omega, fun ok lv as H2 b2 nok nlv hG => ?_⟩
    refine ⟨rfl, ?_⟩
    have s2 : Same H H2 := Same.b0 b2 s1 nx
    wtm_at "gx"
    refine g_wmet hG.ws.g (fun _ _ _ _ => rfl) ?_
    wtm_at "gx"
    refine g_kend T hG ?_
    refine ⟨pw, 0, l.length, l, W, cd, kd, crs, krs, _, _, _, rfl, hG.ws.g, by have := hG.ws.cl; omega, colV_at (by omega), ?_⟩
    rw [hc]
    refine g_lst (by show 0 ≤ 100000; decide) fun fa H3 nfa s3 efa => ?_
    have G3 := hG.same s3
    have hLV : LV W l [] 0 = some (c, N) := hc
    have hcl : c ≤ l.length := by have := LV_low (Nat.zero_le _) (fun k hk => by cases hk) hLV; simpa using this
    have hN : (rowsL W [] l c).length = N := by
      have := Ld_whole (W := W) l
      rw [hc] at this
      exact this.1
    obtain ⟨α0, hα0⟩ : ∃ α, (rowsL W [] l c)[k]? = some α := ⟨_, List.getElem?_eq_getElem (by omega)⟩
    have nok1 : H ok = none := s1.free nok
    have nlv1 : H lv = none := s1.free nlv
    have nfa0 : H fa = none := s2.free nfa
    have fr3 := hG.ws.g.fresh nfa
    have fas : fa ∉ as := fun h => by
      obtain ⟨ys, hy⟩ := LvL.lsts hG.lev fa h
      rw [nfa] at hy
      cases hy
    have faok : fa ≠ ok := Ne.symm (ne_new nfa hG.op)
    have falv : fa ≠ lv := Ne.symm (ne_new nfa hG.le)
    refine g_while (fun m σ H' => ∃ (i left kk n : Nat) (st as : List Nat) (β : List Stp) (ds : List Deed) (rs : List Addr) (y5 y6 y7 : Option V), m = left + (l.length - i) ∧ σ = [some (V.ref pw), some (V.int kk), some (V.ref x), some (V.int left), some (V.ref fa), y5, y6, y7] ∧ WalkAt K H' x pw l W i st ok lv as cd kd crs krs ∧ LV W l st i = some (left, n) ∧ kk < n ∧ st.length + left + (l.length - i) ≤ 2 * l.length ∧ (rowsL W st (l.drop i) left)[kk]? = some β ∧ ddS 0 α0 = ds ++ ddS i β ∧ Dds H' fa rs ds ∧ ds.length + left = c ∧ fa ∉ as ∧ Same H H') (c + l.length) ⟨0, c, k, N, [], as, α0, [], [], _, _, _, rfl, rfl, G3, hLV, hk, by simp; omega, by rw [List.drop_zero]; exact hα0, rfl, ⟨efa, rfl, fun k r d h => by cases h⟩, by simp, fas, s2.trans s3⟩ ?_
    rintro m σ H' ⟨i, left, kk, n, st, as, β, ds, rs, y5, y6, y7, rfl, rfl, G, hL, hkk, hbd, hβ, hdd, hD, hdl, hfas, sH⟩
    have hil := G.il
    wtm_at "unf"
    wtm_at "gx"
    refine g_kmet G (fun _ _ _ _ _ => rfl) ?_
    wtm_at "gx"
    refine ⟨x, pw, l, W, i, st, ok, lv, as, cd, kd, crs, krs, rfl, G, fun H4 s4 => ?_⟩
    have G4 := G.same s4
    by_cases hov : i = l.length ∧ st = []
    · obtain ⟨rfl, rfl⟩ := hov
      have h1 : LV W l [] l.length = mOne := mcN_self l W l.length
      rw [h1] at hL
      have h2 := Option.some.inj hL
      have h3 : left = 0 := (Prod.mk.inj h2).1.symm
      have h4 : n = 1 := (Prod.mk.inj h2).2.symm
      subst h3
      refine ⟨true, by simp, ?_⟩
      wtm_at "unf"
      wtm_at "gx"
      have h5 : kk = 0 := by omega
      subst h5
      have h6 : rowsL W [] (l.drop l.length) 0 = [[]] := by rw [List.drop_length, rowsL.eq_def]; rfl
      rw [h6] at hβ
      have h7 : β = [] := (Option.some.inj hβ).symm
      subst h7
      rw [show ddS l.length [] = [] from rfl, List.append_nil] at hdd
      refine q fa rs α0 H4 nfa0 (sH.trans s4) hα0 ?_
      rw [hdd]
      exact hD.same s4
    have hne : ¬ (i = l.length ∧ st = [] ∧ left = 0) := fun h => hov ⟨h.1, h.2.1⟩
    refine ⟨false, by simp [hov], ?_⟩
    wtm_at "unf"
    refine g_whb ?_
    wtm_at "unf"
    wtm_at "gx"
    refine g_kmet G4 (fun _ _ _ _ _ => rfl) ?_
    refine ⟨x, pw, l, W, i, st, ok, lv, as, cd, kd, crs, krs, rfl, G4, by omega, fun ca ys H5 nca s5 eca hP => ?_⟩
    have s45 : Same H' H5 := s4.trans s5
    have hys := pd_len hP
    refine ⟨ca, rfl, ⟨_, sq_of eca⟩, for_lst ys (fun pre σ H6 => Same H5 H6 ∧ ∃ (kk' : Nat) (y6 y7 : Option V), (σ = [some (V.ref pw), some (V.int kk'), some (V.ref x), some (V.int left), some (V.ref fa), some V.non, y6, y7] ∧ kk = (((chS W l i).take pre.length).map (mb W l st i left)).sum + kk') ∨ (∃ (v : V) (p0 q0 : List Stp) (s0 : Stp), σ = [some (V.ref pw), some (V.int kk'), some (V.ref x), some (V.int left), some (V.ref fa), some v, y6, y7] ∧ ChV H5 i v s0 ∧ chS W l i = p0 ++ s0 :: q0 ∧ kk = (p0.map (mb W l st i left)).sum + kk' ∧ kk' < mb W l st i left s0)) ⟨Same.refl _, kk, _, _, .inl ⟨rfl, by simp⟩⟩ (fun pre post σ H6 e hv => ?_) (fun pre v post σ H6 e hv => ?_) (fun σ H6 hv => ?_)⟩
    · exact sq_of (hv.1 _ _ eca)
    · obtain ⟨s6, kk', y6', y7', hv⟩ := hv
      rw [e] at hP
      obtain ⟨p1, s1', q1, ec, hpl, hch, _, _⟩ := pd_mid hP
      have G6 := G.same (s45.trans s6)
      have hmem : s1' ∈ chS W l i := by rw [ec]; simp
      have htk : (chS W l i).take (pre ++ [v]).length = p1 ++ [s1'] := by
        rw [List.length_append, List.length_singleton, ← hpl, ec, show p1 ++ s1' :: q1 = (p1 ++ [s1']) ++ q1 by simp, show p1.length + 1 = (p1 ++ [s1']).length by simp, List.take_left]
      have htk0 : (chS W l i).take pre.length = p1 := by rw [← hpl, ec, List.take_left]
      rcases hv with ⟨rfl, hks⟩ | ⟨v0, p0, q0, s0, rfl, hc0, ec0, hks, hlt⟩
      · rw [htk0] at hks
        wtm_at "unf"
        wtm_at "gx"
        refine g_kmet G6 (fun _ _ _ _ _ => rfl) ?_
        wtm_at "gx"
        refine ⟨x, v, left, s1', pw, l, W, i, st, ok, lv, as, cd, kd, crs, krs, rfl, G6, hch.same s6, hmem, by omega, by omega, fun H7 s7 => ?_⟩
        refine g_ifC (b := decide (kk' < mb W l st i left s1')) (fun Q q => ?_) (fun h => ?_) (fun h => ?_)
        · wtm_at "unf"
          wtm_at "gx"
          refine ⟨_, rfl, ?_⟩
          rw [show decide ((kk' : Int) < ((mb W l st i left s1' : Nat) : Int)) = decide (kk' < mb W l st i left s1') from decide_eq_decide.mpr (by omega)]
          exact q
        · have hlt := of_decide_eq_true h
          wtm_at "unf"
          wtm_at "gx"
          exact ⟨s6.trans s7, kk', _, _, .inr ⟨v, p1, q1, s1', rfl, hch, ec, hks, hlt⟩⟩
        · have hge := of_decide_eq_false h
          wtm_at "unf"
          wtm_at "gx"
          refine ⟨_, rfl, ?_⟩
          wtm_at "gx"
          refine ⟨s6.trans s7, kk' - mb W l st i left s1', some v, some (V.int ((mb W l st i left s1' : Nat) : Int)), .inl ⟨?_, ?_⟩⟩
          · rw [show (kk' : Int) - ((mb W l st i left s1' : Nat) : Int) = ((kk' - mb W l st i left s1' : Nat) : Int) by omega]
          · rw [htk, List.map_append, List.sum_append]
            show kk = _ + (mb W l st i left s1' + 0) + _
            omega
      · obtain ⟨t0, dv0, rfl, _⟩ := id hc0
        wtm_at "unf"
        wtm_at "gx"
        refine g_kmet G6 (fun _ _ _ _ _ => rfl) ?_
        wtm_at "gx"
        refine ⟨x, v, left, s1', pw, l, W, i, st, ok, lv, as, cd, kd, crs, krs, rfl, G6, hch.same s6, hmem, by omega, by omega, fun H7 s7 => ?_⟩
        refine g_ifC (b := false) (fun Q q => ?_) (fun h => by cases h) (fun h => ?_)
        · wtm_at "unf"
          wtm_at "gx"
          exact q
        · wtm_at "unf"
          wtm_at "gx"
          exact ⟨s6.trans s7, kk', _, _, .inr ⟨_, p0, q0, s0, rfl, hc0, ec0, hks, hlt⟩⟩
    obtain ⟨s6, kk', y6', y7', hv⟩ := hv
    have hsum := rows_sum G.il G.cl hne hL
    rcases hv with ⟨rfl, hks⟩ | ⟨v0, p0, q0, s0, rfl, hc0, ec0, hks, hlt⟩
    · exfalso
      rw [hys, List.take_length, hsum] at hks
      omega
    have G6 := G.same (s45.trans s6)
    have hmem : s0 ∈ chS W l i := by rw [ec0]; simp
    obtain ⟨st', n', N', hnx, hnn, hL', hkN, haft⟩ := aft_go G.il G.cl hne hL hmem hlt
    have hrow := rows_at (pre := []) (post := []) G.il G.cl hne hL ec0 hlt
    rw [← hks, hβ, haft] at hrow
    obtain ⟨β', hβ', eβ⟩ : ∃ β', (rowsL W st' (l.drop (i + s0.i.length)) n')[kk']? = some β' ∧ β = s0 :: β' := by
      cases h : (rowsL W st' (l.drop (i + s0.i.length)) n')[kk']? with
      | none => rw [h] at hrow; cases hrow
      | some b => rw [h] at hrow; exact ⟨b, rfl, Option.some.inj hrow⟩
    subst eβ
    rw [dd_step] at hdd
    have hin := ch_in hmem
    rw [Nat.max_eq_right G.il] at hin
    have hcs := hc0.same s6
    obtain ⟨t0, dv0, rfl, ht0, hdv0⟩ := id hcs
    have hstl : st'.length ≤ st.length + 1 := nxS_len hnx
    have hdec : s0.c + s0.i.length ≥ 1 := by cases s0 <;> simp [Stp.c, Stp.i]
    have hic : s0.i.length ≤ 1 := by cases s0 <;> simp [Stp.i]
    have hcc : s0.c = 0 ∨ s0.c = 1 := by cases s0 <;> simp [Stp.c]
    have sH6 : Same H H6 := sH.trans (s45.trans s6)
    wtm_at "unf"
    wtm_at "gx"
    refine g_kmet G6 (fun _ _ _ _ _ => rfl) ?_
    wtm_at "gx"
    refine ⟨x, V.ref t0, s0, st', pw, l, W, i, st, ok, lv, as, cd, kd, crs, krs, rfl, G6, hcs, hmem, hnx, by omega, by omega, fun as' H7 b7 has G7 => ?_⟩
    obtain ⟨dxx, hobx⟩ := G6.ob
    have kt : ∀ z ys, H6 z = some (.tup ys) → H7 z = some (.tup ys) := fun z ys h => b7 _ _ (fun e => by rw [e, hobx] at h; cases h) (fun e => by rw [e, G6.op] at h; cases h) (fun e => by rw [e, G6.le] at h; cases h) h
    have ht7 := kt _ _ ht0
    have efa6 : H6 fa = some (.lst (rs.map V.ref)) := (s45.trans s6) _ _ hD.hd
    have fax : fa ≠ x := fun e => by rw [e, hobx] at efa6; cases efa6
    have efa7 : H7 fa = some (.lst (rs.map V.ref)) := b7 _ _ fax faok falv efa6
    have hD7 : Dds H7 fa rs ds := ⟨efa7, hD.len, fun k r d h1 h2 => kt _ _ ((s45.trans s6) _ _ (hD.it k r d h1 h2))⟩
    have sH7 : Same H H7 := Bt3.same b7 sH6 nx nok1 nlv1
    have hfas7 : fa ∉ as' := fun h => (has fa h).elim hfas fun h' => by rw [efa6] at h'; cases h'
    wtm_at "gx"
    rcases hcc with hc | hc
    · have hdn : dv0 = V.non := by
        cases s0 with
        | kp c => exact hdv0
        | st c => cases hc
        | tn c d => cases hc
        | pt d => cases hc
      subst hdn
      refine ⟨false, by rw [decide_eq_true rfl]; rfl, ?_⟩
      rw [if_neg Bool.false_ne_true]
      rw [hc, if_neg (by decide), List.nil_append] at hdd
      have e : left = n' := by omega
      subst e
      exact ⟨_, by omega, i + s0.i.length, left, kk', N', st', as', β', ds, rs, _, _, _, rfl, rfl, G7, hL', hkN, by omega, hβ', hdd, hD7, hdl, hfas7, sH7⟩
    · obtain ⟨td, rfl, htd⟩ : ∃ td, dv0 = V.ref td ∧ H6 td = some (.tup (ddV (i, dwS s0))) := by
        cases s0 with
        | kp c => cases hc
        | st c => exact hdv0
        | tn c d => exact hdv0
        | pt d => exact hdv0
      refine ⟨true, rfl, ?_⟩
      rw [if_pos rfl]
      rw [hc, if_pos rfl] at hdd
      have htd7 := kt _ _ htd
      have hrl := hD7.len
      wtm_at "gx"
      refine g_append1 efa7 (by rw [List.length_map]; omega) fun H8 b8 e8 => ?_
      wtm_at "gx"
      refine ⟨_, rfl, ?_⟩
      wtm_at "gx"
      have hD8 := hD7.snoc htd7 b8 e8
      exact ⟨n' + (l.length - (i + s0.i.length)), by omega, i + s0.i.length, n', kk', N', st', as', β', ds ++ [(i, dwS s0)], rs ++ [td], _, _, _, rfl, by rw [show (left : Int) - 1 = ((n' : Nat) : Int) by omega], G7.butF b8 efa7 fr3.1 fr3.2 faok falv hfas7, hL', hkN, by omega, hβ', by rw [hdd, List.append_assoc], hD8, by rw [List.length_append, List.length_singleton]; omega, hfas7, Same.b0 b8 sH7 nfa0⟩
/-! kth_mending -/
def sp_kth_mending : Sp := fun vs H Q _ => ∃ (l : List Nat) (k : Nat), vs = [Tx l, .int k] ∧ l.length ≤ 300 ∧ k < cnt (mcN l allW 0 l.length) ∧ ∀ (fa : Addr) (rs : List Addr) (c N : Nat) (α : List Stp) (H' : Hp), mcN l allW 0 l.length = some (c, N) → H fa = none → Same H H' → (rowsL allW [] l c)[k]? = some α → Dds H' fa rs (ddS 0 α) → Q (.ref fa) H'
theorem ok_kth_mending (T : Facts K mg) : C8.Cal P w K mg base 8 "kth_mending" sp_kth_mending [] := by
  refine calD T.f_kth_mending sc_kth_mending (fun vs H Q E h => ?_) (fun f cdv A outer s H vs Q E hr h => ?_)
  · obtain ⟨l, k, rfl, hl, hk, q⟩ := h; rfl
  · obtain ⟨l, k, rfl, hl, hk, q⟩ := h
    refine ⟨_, (pss_cons (ps_expr (pe_own (ok_need_number T) hr (by omega) rfl (pa_cons (pv 1) pa_nil)))
       (pss_cons (ps_set (i := 2) sc_kth_mending.nd rfl (Or.inl rfl) (pe_mak (ok_Ways_init T) hr (by omega) rfl (pa_cons (pv 0) (pa_cons (C8.pe_gc rfl T.c_ALL_WORDS) pa_nil))))
       (pss_cons (ps_if (pt_cmpR op_ge (pv 1) (pe_met (ok_Ways_count T) hr (by omega) (pv 2) (pa_cons pe_int (pa_cons (pe_callB call_lenT rfl T.b_len PySem.boot_len (pa_cons (pv 0) pa_nil)) pa_nil))) (nomark _))
       (pss_one ps_never)
       pss_nil)
       (pss_one (ps_ret (pe_own (ok_kth T) hr (by omega) rfl (pa_cons (pv 2) (pa_cons (pv 1) pa_nil)))))))), ?_⟩
    rw [st_kth_mending]
    wtm_at "unf"
    wtm_at "gx"
    refine ⟨k, rfl, ?_⟩
    wtm_at "gx"
    refine g_mak fun x dx H1 nx s1 ex => ?_
    refine ⟨x, dx, l, _, allW, rfl, ex, ⟨_, _, rfl, T.q_ALL_WORDS H1, by decide +kernel, by decide +kernel, by decide +kernel, by decide +kernel⟩, by omega, fun l' _ a b h1 h2 => ?_, fun cd kd crs krs H2 b2 n1 n2 hA => ?_⟩
    · have := mcN_some (l := l') (W := allW) rfl (b - a) a (by omega)
      rw [show a + (b - a) = b by omega] at this
      exact this
    refine ⟨rfl, ?_⟩
    wtm_at "gx"
    refine g_wmet hA.g (fun _ _ _ _ => rfl) ?_
    wtm_at "gx"
    refine ⟨x, 0, l.length, l, allW, cd, kd, crs, krs, _, _, _, rfl, hA.g, by have := hA.kl; omega, colV_at (by omega), ?_⟩
    rw [nV_cnt]
    wtm_at "gx"
    have s2 : Same H H2 := Same.b0 b2 s1 nx
    cases hc : mcN l allW 0 l.length with
    | none => rw [hc] at hk; exact absurd hk (Nat.not_lt_zero _)
    | some cn =>
    obtain ⟨c, N⟩ := cn
    rw [hc] at hk
    refine ⟨x, k, l, allW, cd, kd, crs, krs, c, N, rfl, hA, hl, hc, hk, fun fa rs α H3 nfa s3 hα hD => q fa rs c N α H3 hc (s2.free nfa) (s2.trans s3) hα hD⟩
end
end K27

set_option maxHeartbeats 4000000
namespace K27
open PySem PySem.Spec PyProof.Rows L2 SX Ly
local macro_rules | `(tactic| wtm_at "unf") => `(tactic| (try simp only [tMetX, tOwnX, tChain, tSeq, tNext, tBreak, tCont, tDrop, tRet, tRetN, tIfS, tAsg, tAug, tC, tOp, tUn, tNil, tCons, tOwn, tCB, tTest, tB, tAnd, tOr, tNot, tAndV, tOrV, tNotV, tIf, gName, gSub, tBM, tBM0, tM0, tM1, tSl, tPart_eq, tNoPart, tLst_eq, tTup_eq, tRevL_eq, tReplT, tRevS, tDGet_eq, sDPut_eq, tDNewT_eq, tMet, tMak, tFld_eq, sFld_eq, C8.tCut, wipe, tYes, gTup, gCons, gNil, List.set_cons_zero, List.set_cons_succ, if_true, if_false, Bool.false_eq_true, Bool.not_true, Bool.not_false, true_and, reduceIte, cx_K, tFor_eq, tLc_eq, iStr, iList, iTup, iRng1, iRng2, iRng3, iEnum, iZip, iEnumS, iZipS]))
local macro_rules | `(tactic| wtm_at "ne") => `(tactic| first | assumption | (apply Ne.symm; assumption) | (apply ne_new; (· assumption); (· wtm_at "lk")) | (apply Ne.symm; apply ne_new; (· assumption); (· wtm_at "lk")))
local macro_rules | `(tactic| wtm_at "lk") => `(tactic| first | assumption | exact upd_same | (apply Same.get; (· assumption); (· wtm_at "lk")) | (apply But.get; (· assumption); (· wtm_at "ne"); (· wtm_at "lk")))
local macro_rules | `(tactic| wtm_at "sq") => `(tactic| first | assumption | (apply sq_of; wtm_at "lk") | (apply Same.seq; (· assumption); (· wtm_at "sq")) | (apply But.sq; (· assumption); (· wtm_at "ne"); (· wtm_at "sq")))
local macro_rules | `(tactic| wtm_at "fr") => `(tactic| first | assumption | (apply Same.fr; (· assumption); (· wtm_at "sm")) | (apply But.fr; (· assumption); (· wtm_at "sm"); (· wtm_at "ne")))
local macro_rules | `(tactic| wtm_at "sm") => `(tactic| first | exact Same.refl _ | exact But.refl | assumption | (apply Same.tr; (· assumption); (· wtm_at "sm")) | (apply Same.b0; (· assumption); (· wtm_at "sm"); (· wtm_at "fr")) | (apply But.sa; (· assumption); (· wtm_at "sm")) | (apply But.tr; (· assumption); (· wtm_at "sm")) | (apply But.b0; (· assumption); (· wtm_at "sm"); (· wtm_at "fr")) | (apply Same.toBut; wtm_at "sm"))
local macro_rules | `(tactic| wtm_at "sc") => `(tactic| first | exact Int.zero_lt_one | (show (0 : Int) < _; omega) | (show (0 : Int) < _; decide) | exact ⟨by omega, by omega⟩ | exact .inl ⟨by omega, by omega⟩ | exact .inr ⟨by omega, by omega⟩)
local macro_rules | `(tactic| wtm_at "go1") => `(tactic| first | ((with_reducible apply g_var); (· exact rfl)) | with_reducible apply g_I0 | ((with_reducible apply g_I); (· wtm_at "sc")) | with_reducible apply g_U | with_reducible apply g_ipI | ((with_reducible apply g_addT); (· first | omega | (simp; done) | (simp; omega))) | with_reducible apply g_inT | with_reducible apply g_ninT | ((with_reducible apply g_lenT); (· omega)) | with_reducible apply g_findT1 | with_reducible apply g_str | with_reducible apply g_part | with_reducible apply g_intB | ((with_reducible apply g_ixL); (· wtm_at "sq"); (· exact rfl)) | ((with_reducible apply g_setL); (· wtm_at "lk"); (· exact rfl)) | ((with_reducible apply g_eq); (· rfl)) | ((with_reducible apply g_ne); (· rfl)))
local macro_rules | `(tactic| wtm_at "go") => `(tactic| repeat wtm_at "go1")
local macro_rules | `(tactic| wtm_at "lp") => `(tactic| skip)
local macro_rules | `(tactic| wtm_at "om") => `(tactic| first | omega | (simp; done) | (simp; omega) | (simp at *; omega))
local macro_rules | `(tactic| wtm_at "ty") => `(tactic| first | exact ty_str | exact ty_int | exact ty_bl | exact ty_non | (apply ty_lst; wtm_at "lk") | (apply ty_tup; wtm_at "lk"))
local macro_rules | `(tactic| wtm_at "kb") => `(tactic| first | exact kb_str_str | exact kb_str_int | exact kb_str_bool | exact kb_str_list | exact kb_str_tuple | exact kb_int_str | exact kb_int_int | exact kb_int_bool | exact kb_int_list | exact kb_int_tuple | exact kb_bool_str | exact kb_bool_int | exact kb_bool_bool | exact kb_bool_list | exact kb_bool_tuple | exact kb_list_str | exact kb_list_int | exact kb_list_bool | exact kb_list_list | exact kb_list_tuple | exact kb_tuple_str | exact kb_tuple_int | exact kb_tuple_bool | exact kb_tuple_list | exact kb_tuple_tuple | exact kb_NoneType_str | exact kb_NoneType_int | exact kb_NoneType_bool | exact kb_NoneType_list | exact kb_NoneType_tuple | exact kb_dict_str | exact kb_dict_int | exact kb_dict_bool | exact kb_dict_list | exact kb_dict_tuple)
local macro_rules | `(tactic| wtm_at "gx1") => `(tactic| first | ((with_reducible apply g_eqS); (· exact rfl)) | ((with_reducible apply g_neS); (· exact rfl)) | wtm_at "go1" | with_reducible apply g_min2 | with_reducible apply g_max2 | with_reducible apply g_T | with_reducible apply g_F | with_reducible apply g_NT | with_reducible apply g_NF | with_reducible apply g_nT | with_reducible apply g_nF | with_reducible apply g_RT | with_reducible apply g_RF | ((with_reducible apply g_isi); (· wtm_at "ty"); (· wtm_at "kb")) | ((with_reducible apply g_ixAU3); (· wtm_at "lk"); (· exact rfl)) | ((with_reducible apply g_ixAL3); (· wtm_at "lk"); (· exact rfl)) | ((with_reducible apply g_ixU3); (· wtm_at "lk"); (· exact rfl)) | ((with_reducible apply g_lenL3); (· wtm_at "lk")) | ((with_reducible apply g_lenU3); (· wtm_at "lk")) | ((with_reducible apply g_tyL3); (· wtm_at "lk")) | ((with_reducible apply g_lenT); (· wtm_at "pv")) | wtm_at "tr" | with_reducible apply g_ET | with_reducible apply g_EF | with_reducible apply g_EnT | with_reducible apply g_EnF)
local macro_rules | `(tactic| wtm_at "pv") => `(tactic| first | exact rfl | assumption | omega | (simp; done) | (simp; omega))
local macro_rules | `(tactic| wtm_at "tr") => `(tactic| first | ((with_reducible apply g_Td); (· wtm_at "pv")) | ((with_reducible apply g_Fd); (· wtm_at "pv")) | ((with_reducible apply g_NTd); (· wtm_at "pv")) | ((with_reducible apply g_NFd); (· wtm_at "pv")) | ((with_reducible apply g_nTd); (· wtm_at "pv")) | ((with_reducible apply g_nFd); (· wtm_at "pv")) | ((with_reducible apply g_RTd); (· wtm_at "pv")) | ((with_reducible apply g_RFd); (· wtm_at "pv")))
local macro_rules | `(tactic| wtm_at "gx") => `(tactic| repeat wtm_at "gx1")

section
variable {P : Program} {w : World} {K : PySem.W.Frag} {mg : Str → Option Value} {base : Heap}
/-! _law_brackets -/
def sp_law_brackets : Sp := fun vs H Q _ => ∃ l : List Nat, vs = [Tx l] ∧ l.length ≤ 1000 ∧ ∀ H', Same H H' → Q (.int (brks l).length) H'
theorem ok_law_brackets (T : Facts K mg) : C8.Cal P w K mg base 1 "_law_brackets" sp_law_brackets [] := by
  refine calD T.f_law_brackets sc_law_brackets (fun vs H Q E h => ?_) (fun f cdv A outer s H vs Q E hr h => ?_)
  · obtain ⟨l, rfl, hl, q⟩ := h; rfl
  · obtain ⟨l, rfl, hl, q⟩ := h
    refine ⟨_, (pss_one (ps_ret (pe_callB call_lenL rfl T.b_len PySem.boot_len (pa_cons (pe_lc (own := [("sign", 1)]) (by rfl) sc_law_brackets.nd (pi_str (pv 0)) (blkOk_by (own := [("sign", 1)]) (N := N_law_brackets) (sc := defScope s_law_brackets) (by decide +kernel)) (fun _ _ _ _ _ => (pg_name (i := 1) sc_law_brackets.nd rfl (Or.inl rfl))) (fun _ _ _ _ _ => (pts_one (pt_cmpR op_inT (pv 1) (pe_strS (l := BRK) (by decide +kernel)) (by rfl)))) (fun _ _ _ _ _ => (pv 1))) pa_nil)))), ?_⟩
    rw [st_law_brackets]
    wtm_at "unf"
    wtm_at "gx"
    refine ⟨_, rfl, lc_txt fun d H1 nd s1 ed => ⟨fun pre H' => H' d = some (.lst ((brks pre).map fun c => Tx [c])) ∧ Same H H', ⟨ed, s1⟩, fun pre c post H' e hv => ?_, fun H' hv => ?_⟩⟩
    · obtain ⟨ed', sH⟩ := hv
      have hpl : (brks pre).length ≤ 1000 := by
        have h1 : (brks pre).length ≤ pre.length := List.length_filter_le _ _
        have h2 := congrArg List.length e
        simp at h2
        omega
      wtm_at "unf"
      refine ⟨rfl, ?_⟩
      wtm_at "gx"
      refine g_test (fun h => ?_) (fun h => ?_)
      · wtm_at "unf"
        wtm_at "gx"
        refine lc_put ed' (by rw [List.length_map]; omega) fun H4 b4 e4 => ⟨?_, Same.b0 b4 sH nd⟩
        unfold brks at e4 ⊢
        rw [List.filter_append, List.filter_cons_of_pos (by simpa using h), List.map_append]
        exact e4
      · refine ⟨?_, sH⟩
        unfold brks at ed' ⊢
        rw [List.filter_append, List.filter_cons_of_neg (by simpa using h)]
        simpa using ed'
    · obtain ⟨ed', sH⟩ := hv
      refine g_lenL (sq_of ed') ?_
      rw [List.length_map]
      exact q _ sH
/-! _law_with_more -/
def sp_law_with_more : Sp := fun vs H Q _ => ∃ (p : Addr) (P0 : Wl) (l : List Nat) (n : Nat), vs = [.ref p, Tx l, .int n] ∧ H p = some P0.o ∧ l.length ≤ 100 ∧ (∀ c ∈ l, isSg c) ∧ n = lsN l ∧ ∀ (P1 : Wl) (H' : Hp), But p H H' → H' p = some P1.o → Q (.bl true) H'
theorem ok_law_with_more (T : Facts K mg) : C8.Cal P w K mg base 6 "_law_with_more" sp_law_with_more [] := by
  refine calD T.f_law_with_more sc_law_with_more (fun vs H Q E h => ?_) (fun f cdv A outer s H vs Q E hr h => ?_)
  · obtain ⟨p, P0, l, n, rfl, hp, hl, hsl, hn, q⟩ := h; rfl
  · obtain ⟨p, P0, l, n, rfl, hp, hl, hsl, hn, q⟩ := h
    refine ⟨_, (pss_cons (ps_set (i := 3) sc_law_with_more.nd rfl (Or.inl rfl) (pe_own (ok_law_draw T) hr (by omega) rfl (pa_cons (pv 0) (pa_cons (pe_op op_add (pe_callB call_lenT rfl T.b_len PySem.boot_len (pa_cons (pv 1) pa_nil)) pe_int) pa_nil))))
       (pss_cons (ps_set (i := 4) sc_law_with_more.nd rfl (Or.inl rfl) (pe_own (ok_law_clean T) hr (by omega) rfl (pa_cons (pv 0) (pa_cons (pe_own (ok_law_draw T) hr (by omega) rfl (pa_cons (pv 0) (pa_cons pe_int pa_nil))) pa_nil))))
       (pss_cons (ps_set (i := 5) sc_law_with_more.nd rfl (Or.inl rfl) (pe_ix ix_list (pe_lst (pa_cons (pe_strS (l := [40, 41]) (by decide +kernel)) (pa_cons (pe_strS (l := [60, 62]) (by decide +kernel)) (pa_cons (pe_strS (l := [91, 93]) (by decide +kernel)) (pa_cons (pe_strS (l := [123, 125]) (by decide +kernel)) pa_nil))))) (pe_own (ok_law_draw T) hr (by omega) rfl (pa_cons (pv 0) (pa_cons pe_int pa_nil))) (fun _ _ => rfl)))
       (pss_cons (ps_set (i := 6) sc_law_with_more.nd rfl (Or.inl rfl) (pe_m1 PySem.F.slot_str_join PySem.F.type_str_join mt_joinT (pe_strS (l := []) (by decide +kernel)) (pe_lc (own := [("sign", 8)]) (by rfl) sc_law_with_more.nd (pi_str (pv 1)) (blkOk_by (own := [("sign", 8)]) (N := N_law_with_more) (sc := defScope s_law_with_more) (by decide +kernel)) (fun _ _ _ _ _ => (pg_name (i := 8) sc_law_with_more.nd rfl (Or.inl rfl))) (fun _ _ _ _ _ => (pts_one (pt_cmpR op_inT (pv 8) (pe_strS (l := BRK) (by decide +kernel)) (by rfl)))) (fun _ _ _ _ _ => (pv 8)))))
       (pss_cons (ps_for PassesOwn.never rfl (pi_list (pe_lst (pa_cons (pe_op op_addT (pe_op op_addT (pe_slice sl_tx (pv 1) po_none (po_some (pv 3))) (pv 4)) (pe_slice sl_tx (pv 1) (po_some (pv 3)) po_none)) (pa_cons (pe_op op_addT (pv 4) (pv 1)) (pa_cons (pe_op op_addT (pv 1) (pv 4)) (pa_cons (pe_op op_addT (pe_op op_addT (pe_slice sl_tx (pv 1) po_none (po_some (pv 3))) (pe_strS (l := [113]) (by decide +kernel))) (pe_slice sl_tx (pv 1) (po_some (pv 3)) po_none)) (pa_cons (pv 6) pa_nil))))))) (pg_name (i := 7) sc_law_with_more.nd rfl (Or.inl rfl))
       (pss_one (ps_if (pt_cmpR op_ne (pe_own (ok_least_number T) hr (by omega) rfl (pa_cons (pv 7) pa_nil)) (pv 2) (nomark _))
       (pss_one (ps_ret pe_bl))
       pss_nil)))
       (pss_cons (ps_if (pt_cmpR op_gt (pe_own (ok_least_number T) hr (by omega) rfl (pa_cons (pe_op op_addT (pe_op op_addT (pe_ix ix_txt (pv 5) pe_int (fun _ _ => rfl)) (pv 1)) (pe_ix ix_txt (pv 5) pe_int (fun _ _ => rfl))) pa_nil)) (pv 2) (nomark _))
       (pss_one (ps_ret pe_bl))
       pss_nil)
       (pss_cons (ps_set (i := 8) sc_law_with_more.nd rfl (Or.inl rfl) (pe_ix ix_txt (pe_strS (l := BRK) (by decide +kernel)) (pe_own (ok_law_draw T) hr (by omega) rfl (pa_cons (pv 0) (pa_cons pe_int pa_nil))) (fun _ _ => rfl)))
       (pss_one (ps_ret (pe_cmpR op_lt (pe_callB call_abs rfl T.b_abs (by decide +kernel) (pa_cons (pe_op op_sub (pe_own (ok_least_number T) hr (by omega) rfl (pa_cons (pe_op op_addT (pe_op op_addT (pe_slice sl_tx (pv 1) po_none (po_some (pv 3))) (pv 8)) (pe_slice sl_tx (pv 1) (po_some (pv 3)) po_none)) pa_nil)) (pv 2)) pa_nil)) pe_int (nomark _))))))))))), ?_⟩
    rw [st_law_with_more]
    wtm_at "unf"
    wtm_at "gx"
    refine ⟨p, P0, _, rfl, hp, by omega, by omega, fun r P1 H1 r0 r1 b1 e1 => ?_⟩
    obtain ⟨a, rfl⟩ := Int.eq_ofNat_of_zero_le r0
    wtm_at "gx"
    refine ⟨p, P1, 7, rfl, e1, by decide, by decide, fun m P2 H2 m0 m1 b2 e2 => ?_⟩
    obtain ⟨m, rfl⟩ := Int.eq_ofNat_of_zero_le m0
    refine ⟨p, P2, m, rfl, e2, by omega, fun c P3 H3 hcs hcl hcc b3 e3 => ?_⟩
    wtm_at "gx"
    refine g_lst (by show 4 ≤ 100000; decide) fun la H4 nla s4 ela => ?_
    wtm_at "gx"
    refine ⟨p, P3, 4, rfl, s4 _ _ e3, by decide, by decide, fun z P4 H5 z0 z1 b5 e5 => ?_⟩
    obtain ⟨z, rfl⟩ := Int.eq_ofNat_of_zero_le z0
    obtain ⟨o, ho1, ho2⟩ := pair_at4 (z := z) (by omega)
    have hlap : la ≠ p := Ne.symm (ne_new nla e3)
    refine g_ixL (sq_of (b5 _ _ hlap ela)) (atI_of ho1) ?_
    wtm_at "gx"
    have hbl : (brks l).length ≤ l.length := List.length_filter_le _ _
    refine ⟨_, rfl, lc_txt fun d H6 nd s6 ed => ⟨fun pre H' => H' d = some (.lst (sgV (brks pre))) ∧ Same H5 H', ⟨ed, s6⟩, fun pre c' post H' e hv => ?_, fun H' hv => ?_⟩⟩
    · obtain ⟨ed', sH⟩ := hv
      have hpl : (brks pre).length ≤ 1000 := by
        have h1 : (brks pre).length ≤ pre.length := List.length_filter_le _ _
        have h2 := congrArg List.length e
        simp at h2
        omega
      wtm_at "unf"
      refine ⟨rfl, ?_⟩
      wtm_at "gx"
      refine g_test (fun h => ?_) (fun h => ?_)
      · wtm_at "unf"
        wtm_at "gx"
        refine lc_put ed' (by unfold sgV; rw [List.length_map]; omega) fun H4 b4 e4 => ⟨?_, Same.b0 b4 sH nd⟩
        unfold brks sgV at e4 ⊢
        rw [List.filter_append, List.filter_cons_of_pos (by simpa using h), List.map_append]
        exact e4
      · refine ⟨?_, sH⟩
        unfold brks at ed' ⊢
        rw [List.filter_append, List.filter_cons_of_neg (by simpa using h)]
        simpa using ed'
    obtain ⟨ed', sH⟩ := hv
    have hcut : l.take a ++ l.drop a = l := List.take_append_drop a l
    have hcutl : (l.take a).length + (l.drop a).length = l.length := by rw [← List.length_append, hcut]
    refine g_join0 (sq_of ed') (by omega) ?_
    wtm_at "gx"
    refine g_slTo (by omega) (by omega) ?_
    rw [Int.toNat_natCast]
    wtm_at "gx"
    refine g_slFrom (by omega) (by omega) ?_
    rw [Int.toNat_natCast]
    refine g_addT (by rw [List.length_append]; omega) ?_
    wtm_at "gx"
    refine g_slTo (by omega) (by omega) ?_
    rw [Int.toNat_natCast]
    wtm_at "gx"
    refine g_slFrom (by omega) (by omega) ?_
    rw [Int.toNat_natCast]
    refine g_addT (by rw [List.length_append, List.length_singleton]; omega) ?_
    wtm_at "gx"
    refine g_lst (by show 5 ≤ 100000; decide) fun xa H7 nxa s7 exa => ?_
    have hall : ∀ x ∈ [Tx (l.take a ++ c ++ l.drop a), Tx (c ++ l), Tx (l ++ c), Tx (l.take a ++ [113] ++ l.drop a), Tx (brks l)], ∃ t, x = Tx t ∧ t.length ≤ 1000 ∧ lsN t = n := fun x hx => by
      simp only [List.mem_cons, List.not_mem_nil, or_false] at hx
      rcases hx with rfl | rfl | rfl | rfl | rfl
      · exact ⟨_, rfl, by simp only [List.length_append]; omega, by rw [lsN_ins hcc, hcut, hn]⟩
      · exact ⟨_, rfl, by simp only [List.length_append]; omega, by have := lsN_ins (a := []) (b := l) hcc; rw [hn]; exact this⟩
      · exact ⟨_, rfl, by simp only [List.length_append]; omega, by have := lsN_ins (a := l) (b := []) hcc; rw [List.append_nil, List.append_nil] at this; rw [hn]; exact this⟩
      · exact ⟨_, rfl, by simp only [List.length_append, List.length_singleton]; omega, by rw [lsN_ins (clean_one (by decide)), hcut, hn]⟩
      · exact ⟨_, rfl, by omega, by rw [lsN_only, hn]⟩
    have e57 := (sH.trans s7) _ _ e5
    refine ⟨xa, rfl, ⟨_, sq_of exa⟩, for_lst [Tx (l.take a ++ c ++ l.drop a), Tx (c ++ l), Tx (l ++ c), Tx (l.take a ++ [113] ++ l.drop a), Tx (brks l)] (fun pre σ H8 => ∃ y7, σ = [some (V.ref p), some (Tx l), some (V.int n), some (V.int a), some (Tx c), some (Tx [o, oth o]), some (Tx (brks l)), y7, none] ∧ Same H7 H8) ⟨_, rfl, Same.refl _⟩ (fun pre post σ H8 e hv => ?_) (fun pre x post σ H8 e hv => ?_) (fun σ H8 hv => ?_)⟩
    · obtain ⟨y7, rfl, s8⟩ := hv
      exact sq_of (s8 _ _ exa)
    · obtain ⟨y7, rfl, s8⟩ := hv
      obtain ⟨t, rfl, ht1, ht2⟩ := hall x (by rw [e]; simp)
      wtm_at "unf"
      wtm_at "gx"
      refine ⟨t, rfl, ht1, fun H9 s9 => ?_⟩
      rw [show lstN t 0 t.length = n from ht2]
      wtm_at "gx"
      exact ⟨_, rfl, s8.trans s9⟩
    obtain ⟨y7, rfl, s8⟩ := hv
    have e58 := s8 _ _ e57
    have b58 : But p H H8 := But.sa ((sH.trans s7).trans s8) (But.tr b5 (But.sa s4 (But.tr b3 (But.tr b2 b1))))
    wtm_at "unf"
    wtm_at "gx"
    refine g_ixT (c := o) (by show 2 ≤ 100000; decide) rfl ?_
    wtm_at "gx"
    refine g_ixT (c := oth o) (by show 2 ≤ 100000; decide) rfl ?_
    refine g_addT (by simp; omega) ?_
    refine ⟨_, rfl, by simp; omega, fun H9 s9 => ?_⟩
    have h1 : lstN ([o] ++ l ++ [oth o]) 0 ([o] ++ l ++ [oth o]).length ≤ n := by rw [hn]; exact lsN_around ho2 l
    wtm_at "gx"
    refine ⟨p, P4, 8, rfl, s9 _ _ e58, by decide, by decide, fun k P5 H10 k0 k1 b10 e10 => ?_⟩
    obtain ⟨k, rfl⟩ := Int.eq_ofNat_of_zero_le k0
    obtain ⟨s1, hs1, hs2⟩ := brk_at (z := k) (by omega)
    refine g_ixT (by decide) (atI_of hs1) ?_
    wtm_at "gx"
    refine g_slTo (by omega) (by omega) ?_
    rw [Int.toNat_natCast]
    wtm_at "gx"
    refine g_slFrom (by omega) (by omega) ?_
    rw [Int.toNat_natCast]
    refine g_addT (by rw [List.length_append, List.length_singleton]; omega) ?_
    refine ⟨_, rfl, by simp only [List.length_append, List.length_singleton]; omega, fun H11 s11 => ?_⟩
    have h2 : lsN (l.take a ++ [s1] ++ l.drop a) ≤ n + 1 ∧ n ≤ lsN (l.take a ++ [s1] ++ l.drop a) + 1 := by
      have g1 := lsN_more (a := l.take a) (b := l.drop a) hs2
      have g2 := lsN_less (a := l.take a) (b := l.drop a) (s := s1)
      rw [if_pos hs2] at g2
      rw [hcut] at g1 g2
      rw [List.append_assoc, hn]
      exact ⟨g1, g2⟩
    rw [show lstN (l.take a ++ [s1] ++ l.drop a) 0 (l.take a ++ [s1] ++ l.drop a).length = lsN (l.take a ++ [s1] ++ l.drop a) from rfl]
    generalize lsN (l.take a ++ [s1] ++ l.drop a) = m2 at h2
    wtm_at "gx"
    refine ⟨_, rfl, ?_⟩
    wtm_at "gx"
    have h3 : decide ((if (m2 : Int) - (n : Int) < 0 then -((m2 : Int) - (n : Int)) else (m2 : Int) - (n : Int)) < 2) = true := decide_eq_true (by split <;> omega)
    rw [h3]
    exact q P5 H11 (But.sa s11 (But.tr b10 (But.sa s9 b58))) (s11 _ _ e10)
/-! law -/
def spLaw (K : PySem.W.Frag) : Sp := fun vs H Q _ => ∃ (a : Addr) (ns : List Int), vs = [.ref a] ∧ SqL K H a (ns.map V.int) ∧ ns.length ≤ 63 ∧ ∀ H', Q (.bl true) H'
theorem ok_law {f : Addr} {fd : FuncData} (T : Facts K mg) (F : FunD K "law" "law" (defArgs s_law) (defBody s_law) (defScope s_law) [] [] f fd) : FnOk P w K mg base C8.CX0 9 f fd ["script"] (spLaw K) := by
  refine fnD F sc_law (fun vs H Q E h => ?_) (fun cdv A outer s H vs Q E hr h => ?_)
  · obtain ⟨a, ns, rfl, hS, hlen, q⟩ := h; rfl
  · obtain ⟨a, ns, rfl, hS, hlen, q⟩ := h
    refine ⟨_, (pss_cons (ps_for PassesOwn.never rfl (pi_list (pe_op op_cat (pe_lst (pa_cons pe_int (pa_cons pe_int pa_nil))) (pe_slice sl_list (pv 0) po_none (po_some pe_int)))) (pg_name (i := 1) sc_law.nd rfl (Or.inl rfl))
       (pss_cons (ps_set (i := 2) sc_law.nd rfl (Or.inl rfl) (pe_own (ok_law_well T) hr (by omega) rfl (pa_cons (pv 1) pa_nil)))
       (pss_cons (ps_set (i := 3) sc_law.nd rfl (Or.inl rfl) (pe_own (ok_law_text T) hr (by omega) rfl (pa_cons (pv 2) (pa_cons pe_int pa_nil))))
       (pss_cons (ps_set (i := 4) sc_law.nd rfl (Or.inl rfl) (pe_own (ok_law_text T) hr (by omega) rfl (pa_cons (pv 2) (pa_cons pe_int pa_nil))))
       (pss_cons (ps_set (i := 5) sc_law.nd rfl (Or.inl rfl) (pe_own (ok_least_number T) hr (by omega) rfl (pa_cons (pv 3) pa_nil)))
       (pss_cons (ps_ifC (PW.pt (pw_or (pt_not (pt_val (pe_own (ok_law_with_more T) hr (by omega) rfl (pa_cons (pv 2) (pa_cons (pv 3) (pa_cons (pv 5) pa_nil)))))) (pw_or1 (pt_not (pt_chain op_le op_le pe_int (pv 5) (pe_own (ok_law_brackets T) hr (by omega) rfl (pa_cons (pv 3) pa_nil)))))))
       (pss_one (ps_ret pe_bl))
       pss_nil)
       (pss_cons (ps_set (i := 6) sc_law.nd rfl (Or.inl rfl) (pe_own (ok_least_number T) hr (by omega) rfl (pa_cons (pe_op op_addT (pv 3) (pv 4)) pa_nil)))
       (pss_cons (ps_ifC (PW.pt (pw_or (pt_cmpR op_gt (pv 6) (pe_op op_add (pv 5) (pe_own (ok_least_number T) hr (by omega) rfl (pa_cons (pv 4) pa_nil))) (nomark _)) (pw_or1 (pt_cmpR op_lt (pv 6) (pe_op op_sub (pv 5) (pe_own (ok_law_brackets T) hr (by omega) rfl (pa_cons (pv 4) pa_nil))) (nomark _)))))
       (pss_one (ps_ret pe_bl))
       pss_nil)
       (pss_one (ps_ifC (PW.pt (pw_or (pt_cmpR op_ne (pe_cmpR op_eq (pv 5) pe_int (nomark _)) (pe_own (ok_is_clean T) hr (by omega) rfl (pa_cons (pv 3) pa_nil)) (nomark _)) (pw_or1 (PW.pt (pw_and (pt_cmpR op_eq (pv 5) pe_int (nomark _)) (pw_and1 (PW.pt (pw_or (pt_cmpR op_ne (pe_own (ok_how_many T) hr (by omega) rfl (pa_cons (pv 3) pa_nil)) pe_int (nomark _)) (pw_or1 (pt_cmpR (op_neD hr.units) (pe_own (ok_kth_mending T) hr (by omega) rfl (pa_cons (pv 3) (pa_cons pe_int pa_nil))) (pe_lst pa_nil) (nomark _)))))))))))
       (pss_one (ps_ret pe_bl))
       pss_nil))))))))))
       (pss_one (ps_ret pe_bl))), ?_⟩
    rw [st_law]
    wtm_at "unf"
    wtm_at "gx"
    refine g_lst (by show 2 ≤ 100000; decide) fun c1 H1 n1 s1 e1 => ?_
    wtm_at "gx"
    refine g_slL (Same.seq s1 hS) fun c2 H2 n2 s2 e2 => ?_
    obtain ⟨ms, ems, hms⟩ := cut_ints ns none (some 3)
    rw [ems] at e2
    refine g_cat (s2 _ _ e1) e2 (by simp; omega) fun c3 H3 n3 s3 e3 => ?_
    obtain ⟨zs, ezs⟩ : ∃ zs : List Int, [V.int 0, V.int 5] ++ ms.map V.int = zs.map V.int := ⟨0 :: 5 :: ms, rfl⟩
    rw [ezs] at e3
    refine ⟨_, rfl, ⟨_, sq_of e3⟩, for_lst (zs.map V.int) (fun pre σ H' => ∃ y1 y2 y3 y4 y5 y6, σ = [some (V.ref a), y1, y2, y3, y4, y5, y6] ∧ Same H3 H') ⟨_, _, _, _, _, _, rfl, Same.refl _⟩ (fun pre post σ H' e hv => ?_) (fun pre x post σ H' e hv => ?_) (fun σ H' hv => ?_)⟩
    · obtain ⟨y1, y2, y3, y4, y5, y6, rfl, sH⟩ := hv
      exact sq_of (sH _ _ e3)
    · obtain ⟨y1, y2, y3, y4, y5, y6, rfl, sH⟩ := hv
      obtain ⟨z, rfl⟩ : ∃ z, x = V.int z := by
        have hm : x ∈ zs.map V.int := by rw [e]; simp
        obtain ⟨z, _, hz⟩ := List.mem_map.mp hm
        exact ⟨z, hz.symm⟩
      wtm_at "unf"
      wtm_at "gx"
      refine ⟨z, rfl, fun p P1 H5 np s5 e5 => ?_⟩
      have np3 := sH.free np
      wtm_at "gx"
      refine ⟨p, P1, 8, rfl, e5, by decide, fun l P2 H6 hls hll b6 e6 => ?_⟩
      wtm_at "gx"
      refine ⟨p, P2, 8, rfl, e6, by decide, fun m P3 H7 hms hml b7 e7 => ?_⟩
      wtm_at "gx"
      refine ⟨l, rfl, by omega, fun H8 s8 => ?_⟩
      have b8 : But p H5 H8 := But.sa s8 (But.tr b7 b6)
      have e8 := s8 _ _ e7
      have hbl := lsN_brks l
      have hapl := lsN_app l m
      have hfr := lsN_front m l
      have hz := lsN_zero l
      rw [show lstN l 0 l.length = lsN l from rfl]
      wtm_at "unf"
      refine g_ifH (b := false) (G := fun G => But p H8 G) (fun Q' q' => ?_) (fun G g h => by cases h) (fun G g _ => ?_)
      · wtm_at "unf"
        wtm_at "gx"
        refine ⟨p, P3, l, lsN l, rfl, e8, by omega, hls, rfl, fun P4 G1 g1 eg1 => ?_⟩
        wtm_at "gx"
        refine ⟨l, rfl, by omega, fun G2 g2 => ?_⟩
        wtm_at "gx"
        exact q' _ (But.sa g2 g1)
      wtm_at "unf"
      wtm_at "gx"
      refine ⟨l ++ m, rfl, by rw [List.length_append]; omega, fun H9 s9 => ?_⟩
      rw [show lstN (l ++ m) 0 (l ++ m).length = lsN (l ++ m) from rfl]
      wtm_at "unf"
      refine g_ifH (b := false) (G := fun G2 => Same H9 G2) (fun Q' q' => ?_) (fun G2 g2 h => by cases h) (fun G2 g2 _ => ?_)
      · wtm_at "unf"
        wtm_at "gx"
        refine ⟨m, rfl, by omega, fun G1 g1 => ?_⟩
        rw [show lstN m 0 m.length = lsN m from rfl]
        wtm_at "gx"
        refine ⟨m, rfl, by omega, fun G3 g3 => ?_⟩
        wtm_at "gx"
        exact q' _ (g1.trans g3)
      wtm_at "unf"
      refine g_ifH (b := false) (G := fun G3 => Same G2 G3) (fun Q' q' => ?_) (fun G3 g3 h => by cases h) (fun G3 g3 _ => ?_)
      · wtm_at "unf"
        wtm_at "gx"
        refine ⟨l, rfl, by omega, fun G4 g4 => ?_⟩
        wtm_at "gx"
        by_cases hc : clean l
        · refine ⟨true, by rw [hz.mpr hc]; rfl, ?_⟩
          rw [if_pos rfl]
          have hmc := mc_clean allW hc
          wtm_at "gx"
          refine ⟨l, rfl, by omega, fun G5 g5 => ?_⟩
          rw [hmc]
          wtm_at "gx"
          refine ⟨l, 0, rfl, by omega, by rw [hmc]; decide, fun fa rs c N α G6 h1 nfa g6 hα hD => ?_⟩
          rw [hmc] at h1
          have hc0 : c = 0 := (Prod.mk.inj (Option.some.inj h1)).1.symm
          subst hc0
          have hr := rows_zero allW l []
          rw [if_pos (show l.foldl stp (some []) = some [] from hc)] at hr
          rw [hr] at hα
          have hα' : α = l.map Stp.kp := (Option.some.inj hα).symm
          subst hα'
          rw [dd_kp] at hD
          refine g_lst (by show 0 ≤ 100000; decide) fun ea G7 nea g7 eea => ?_
          have hrs : rs = [] := List.length_eq_zero_iff.mp hD.len
          have hfa := hD.hd
          rw [hrs] at hfa
          refine g_neNil (sq_of (g7 _ _ hfa)) (fun v hv => by cases hv) (sq_of eea) ?_
          exact ⟨_, rfl, q' _ (g4.trans (g5.trans (g6.trans g7)))⟩
        · refine ⟨false, by rw [decide_eq_false (fun h => hc (hz.mp (by have := V.int.inj h; omega)))], ?_⟩
          rw [if_neg Bool.false_ne_true]
          exact q' _ g4
      exact ⟨_, _, _, _, _, _, rfl, Same.tr (g2.trans g3) (Same.tr s9 (Same.b0 g (Same.b0 b8 (sH.trans s5) np3) np3))⟩
    · obtain ⟨y1, y2, y3, y4, y5, y6, rfl, sH⟩ := hv
      wtm_at "unf"
      wtm_at "gx"
      exact q _
end
end K27

set_option maxHeartbeats 0
namespace K27
open PySem PySem.Spec PyProof.Rows L2 SX Ly
/-! ### the head -/
def d_wall : He.DefD := ⟨("_wall", none), "_wall", "_wall", defArgs s_wall, defBody s_wall, defScope s_wall, [], []⟩
def d_kind_of : He.DefD := ⟨("kind_of", none), "kind_of", "kind_of", defArgs s_kind_of, defBody s_kind_of, defScope s_kind_of, [], []⟩
def d_other_side : He.DefD := ⟨("other_side", none), "other_side", "other_side", defArgs s_other_side, defBody s_other_side, defScope s_other_side, [], []⟩
def d_partners : He.DefD := ⟨("partners", none), "partners", "partners", defArgs s_partners, defBody s_partners, defScope s_partners, [], []⟩
def d_is_clean : He.DefD := ⟨("is_clean", none), "is_clean", "is_clean", defArgs s_is_clean, defBody s_is_clean, defScope s_is_clean, [], []⟩
def d_is_letter : He.DefD := ⟨("is_letter", none), "is_letter", "is_letter", defArgs s_is_letter, defBody s_is_letter, defScope s_is_letter, [], []⟩
def d_fewest_turns : He.DefD := ⟨("fewest_turns", none), "fewest_turns", "fewest_turns", defArgs s_fewest_turns, defBody s_fewest_turns, defScope s_fewest_turns, [], []⟩
def d_how_many : He.DefD := ⟨("how_many", none), "how_many", "how_many", defArgs s_how_many, defBody s_how_many, defScope s_how_many, [], []⟩
def d_need_number : He.DefD := ⟨("need_number", none), "need_number", "need_number", defArgs s_need_number, defBody s_need_number, defScope s_need_number, [], []⟩
def d_kth : He.DefD := ⟨("kth", none), "kth", "kth", defArgs s_kth, defBody s_kth, defScope s_kth, [], []⟩
def d_kth_mending : He.DefD := ⟨("kth_mending", none), "kth_mending", "kth_mending", defArgs s_kth_mending, defBody s_kth_mending, defScope s_kth_mending, [], []⟩
def d_is_bracket : He.DefD := ⟨("is_bracket", none), "is_bracket", "is_bracket", defArgs s_is_bracket, defBody s_is_bracket, defScope s_is_bracket, [], []⟩
def d_turns : He.DefD := ⟨("turns", none), "turns", "turns", defArgs s_turns, defBody s_turns, defScope s_turns, [], []⟩
def d_steps_from : He.DefD := ⟨("steps_from", none), "steps_from", "steps_from", defArgs s_steps_from, defBody s_steps_from, defScope s_steps_from, [], []⟩
def d_least_table : He.DefD := ⟨("least_table", none), "least_table", "least_table", defArgs s_least_table, defBody s_least_table, defScope s_least_table, [], []⟩
def d_least_number : He.DefD := ⟨("least_number", none), "least_number", "least_number", defArgs s_least_number, defBody s_least_number, defScope s_least_number, [], []⟩
def d_law_well : He.DefD := ⟨("_law_well", none), "_law_well", "_law_well", defArgs s_law_well, defBody s_law_well, defScope s_law_well, [], []⟩
def d_law_draw : He.DefD := ⟨("_law_draw", none), "_law_draw", "_law_draw", defArgs s_law_draw, defBody s_law_draw, defScope s_law_draw, [], []⟩
def d_law_clean : He.DefD := ⟨("_law_clean", none), "_law_clean", "_law_clean", defArgs s_law_clean, defBody s_law_clean, defScope s_law_clean, [], []⟩
def d_law_bent : He.DefD := ⟨("_law_bent", none), "_law_bent", "_law_bent", defArgs s_law_bent, defBody s_law_bent, defScope s_law_bent, [], []⟩
def d_law_text : He.DefD := ⟨("_law_text", none), "_law_text", "_law_text", defArgs s_law_text, defBody s_law_text, defScope s_law_text, [], []⟩
def d_law_brackets : He.DefD := ⟨("_law_brackets", none), "_law_brackets", "_law_brackets", defArgs s_law_brackets, defBody s_law_brackets, defScope s_law_brackets, [], []⟩
def d_law_with_more : He.DefD := ⟨("_law_with_more", none), "_law_with_more", "_law_with_more", defArgs s_law_with_more, defBody s_law_with_more, defScope s_law_with_more, [], []⟩
def d_law : He.DefD := ⟨("law", none), "law", "law", defArgs s_law, defBody s_law, defScope s_law, [], []⟩
def d_Ways_init : He.DefD := ⟨("Ways", some "__init__"), "__init__", "Ways.__init__", defArgs s_Ways_init, defBody s_Ways_init, defScope s_Ways_init, [], []⟩
def d_Ways_cost : He.DefD := ⟨("Ways", some "cost"), "cost", "Ways.cost", defArgs s_Ways_cost, defBody s_Ways_cost, defScope s_Ways_cost, [], []⟩
def d_Ways_count : He.DefD := ⟨("Ways", some "count"), "count", "Ways.count", defArgs s_Ways_count, defBody s_Ways_count, defScope s_Ways_count, [], []⟩
def d_Ways_grow : He.DefD := ⟨("Ways", some "grow"), "grow", "Ways.grow", defArgs s_Ways_grow, defBody s_Ways_grow, defScope s_Ways_grow, [], []⟩
def d_Ways_reckoned : He.DefD := ⟨("Ways", some "reckoned"), "reckoned", "Ways.reckoned", defArgs s_Ways_reckoned, defBody s_Ways_reckoned, defScope s_Ways_reckoned, [], []⟩
def d_Ways_numbers : He.DefD := ⟨("Ways", some "numbers"), "numbers", "Ways.numbers", defArgs s_Ways_numbers, defBody s_Ways_numbers, defScope s_Ways_numbers, [], []⟩
def d_Ways_note : He.DefD := ⟨("Ways", some "note"), "note", "Ways.note", defArgs s_Ways_note, defBody s_Ways_note, defScope s_Ways_note, [], []⟩
def d_Ways_note_puts : He.DefD := ⟨("Ways", some "note_puts"), "note_puts", "Ways.note_puts", defArgs s_Ways_note_puts, defBody s_Ways_note_puts, defScope s_Ways_note_puts, [], []⟩
def d_Walk_init : He.DefD := ⟨("Walk", some "__init__"), "__init__", "Walk.__init__", defArgs s_Walk_init, defBody s_Walk_init, defScope s_Walk_init, [], []⟩
def d_Walk_closed_at : He.DefD := ⟨("Walk", some "closed_at"), "closed_at", "Walk.closed_at", defArgs s_Walk_closed_at, defBody s_Walk_closed_at, defScope s_Walk_closed_at, [], []⟩
def d_Walk_best_from : He.DefD := ⟨("Walk", some "best_from"), "best_from", "Walk.best_from", defArgs s_Walk_best_from, defBody s_Walk_best_from, defScope s_Walk_best_from, [], []⟩
def d_Walk_closes : He.DefD := ⟨("Walk", some "closes"), "closes", "Walk.closes", defArgs s_Walk_closes, defBody s_Walk_closes, defScope s_Walk_closes, [], []⟩
def d_Walk_behind : He.DefD := ⟨("Walk", some "behind"), "behind", "Walk.behind", defArgs s_Walk_behind, defBody s_Walk_behind, defScope s_Walk_behind, [], []⟩
def d_Walk_choices : He.DefD := ⟨("Walk", some "choices"), "choices", "Walk.choices", defArgs s_Walk_choices, defBody s_Walk_choices, defScope s_Walk_choices, [], []⟩
def d_Walk_many_behind : He.DefD := ⟨("Walk", some "many_behind"), "many_behind", "Walk.many_behind", defArgs s_Walk_many_behind, defBody s_Walk_many_behind, defScope s_Walk_many_behind, [], []⟩
def d_Walk_go : He.DefD := ⟨("Walk", some "go"), "go", "Walk.go", defArgs s_Walk_go, defBody s_Walk_go, defScope s_Walk_go, [], []⟩
def d_Walk_is_over : He.DefD := ⟨("Walk", some "is_over"), "is_over", "Walk.is_over", defArgs s_Walk_is_over, defBody s_Walk_is_over, defScope s_Walk_is_over, [], []⟩
def fn : List He.DefD := [d_wall, d_kind_of, d_other_side, d_partners, d_is_clean, d_is_letter, d_fewest_turns, d_how_many, d_need_number, d_kth, d_kth_mending, d_is_bracket, d_turns, d_steps_from, d_least_table, d_least_number, d_law_well, d_law_draw, d_law_clean, d_law_bent, d_law_text, d_law_brackets, d_law_with_more, d_law, d_Ways_init, d_Ways_cost, d_Ways_count, d_Ways_grow, d_Ways_reckoned, d_Ways_numbers, d_Ways_note, d_Ways_note_puts, d_Walk_init, d_Walk_closed_at, d_Walk_best_from, d_Walk_closes, d_Walk_behind, d_Walk_choices, d_Walk_many_behind, d_Walk_go, d_Walk_is_over]
def exL (K : PySem.W.Frag) : List Bool := (He.tupB K "ALL_WORDS" [.str (S [112, 117, 116]), .str (S [115, 116, 114, 105, 107, 101]), .str (S [116, 117, 114, 110])]) :: (errB K (He.ga K "NoNumber") (He.ga K "MendError")) :: (PySem.W.kitOne K (.ref (He.ga K "NoNumber")) (.type "ValueError") == some true) :: (PySem.W.kitOne K (.ref (He.ga K "NoNumber")) (.ref (He.ga K "NoNumber")) == some true) :: []
def ex (K : PySem.W.Frag) : Bool := (exL K).all id
def fa : List He.Fa := [.glo "_wall", .glo "kind_of", .glo "other_side", .glo "partners", .glo "is_clean", .glo "is_letter", .glo "fewest_turns", .glo "how_many", .glo "need_number", .glo "kth", .glo "kth_mending", .glo "is_bracket", .glo "turns", .glo "steps_from", .glo "least_table", .glo "least_number", .glo "_law_well", .glo "_law_draw", .glo "_law_clean", .glo "_law_bent", .glo "_law_text", .glo "_law_brackets", .glo "_law_with_more", .glo "law", .str "OPENING" (S OPN), .str "CLOSING" (S CLO), .str "BRACKETS_signs" (S BRK), .str "BRACKETS_counted" (S BRK), .free "len", .free "int", .free "range", .free "enumerate", .free "zip", .free "isinstance", .free "bool", .free "min", .free "sorted", .free "ValueError", .free "abs", .glo "ALL_WORDS", .glo "MendError", .glo "NoNumber", .glo "Ways", .cls "Ways", .noat "Ways" "signs", .noat "Ways" "words", .noat "Ways" "costs", .noat "Ways" "counts", .glo "Walk", .cls "Walk", .noat "Walk" "ways", .noat "Walk" "end", .noat "Walk" "at", .noat "Walk" "open_kinds", .noat "Walk" "levels", .mkr "Ways", .meth "Ways" "cost", .meth "Ways" "count", .meth "Ways" "grow", .meth "Ways" "reckoned", .meth "Ways" "numbers", .meth "Ways" "note", .meth "Ways" "note_puts", .mkr "Walk", .meth "Walk" "closed_at", .meth "Walk" "best_from", .meth "Walk" "closes", .meth "Walk" "behind", .meth "Walk" "choices", .meth "Walk" "many_behind", .meth "Walk" "go", .meth "Walk" "is_over"]
abbrev R : PySem.W.OpenRow := PySem.W.OpenLaw.row PySem.Challenge.rw_nestmend_k27_whole_put_together
abbrev hk : PySem.W.Hook := hookE 4 fa fn ex
def ob (s : PySem.W.SharedT) : AlE := obsEG 4 fa fn ex (HandSHeadRun.getT s)
theorem ob_eq (s : PySem.W.SharedT) : ob s = hk.obs s.abs := obsEG_eq (HandSHeadRun.getT_eq s)
def loose : List Str := ("_wall" : Str) :: ("MendError" : Str) :: ("NoNumber" : Str) :: ("OPENING" : Str) :: ("CLOSING" : Str) :: ("BRACKETS_signs" : Str) :: ("kind_of" : Str) :: ("other_side" : Str) :: ("partners" : Str) :: ("is_clean" : Str) :: ("ALL_WORDS" : Str) :: ("is_letter" : Str) :: ("fewest_turns" : Str) :: ("Ways" : Str) :: ("BRACKETS_counted" : Str) :: ("how_many" : Str) :: ("need_number" : Str) :: ("Walk" : Str) :: ("kth" : Str) :: ("kth_mending" : Str) :: ("is_bracket" : Str) :: ("turns" : Str) :: ("steps_from" : Str) :: ("least_table" : Str) :: ("least_number" : Str) :: ("_law_well" : Str) :: ("_law_draw" : Str) :: ("_law_clean" : Str) :: ("_law_bent" : Str) :: ("_law_text" : Str) :: ("_law_brackets" : Str) :: ("_law_with_more" : Str) :: []
theorem run (w : World) : HandSHeadRun.RunEq R (PySem.W.view R.prog [38]) hk ob 6000 loose w := by
  intro os
  kernel_rfl
theorem facts {K : PySem.W.Frag} {h : Heap} {mg : Str → Option Value} (X : K.In h) (G : h.Ns mainGlobals mg) (c : He.SaysD fa fn K) (cx : ex K = true) : Facts K mg where
  f_wall := by
    obtain ⟨fd, F⟩ := c.def_ 0 (d := d_wall) rfl
    exact ⟨_, fd, F, He.glo_ok X G (c.fact 0 (f := .glo "_wall") rfl), FunD.bindsN F fun _ _ _ _ _ _ us hl => match us, hl with | [_], _ => rfl⟩
  f_kind_of := by
    obtain ⟨fd, F⟩ := c.def_ 1 (d := d_kind_of) rfl
    exact ⟨_, fd, F, He.glo_ok X G (c.fact 1 (f := .glo "kind_of") rfl), FunD.bindsN F fun _ _ _ _ _ _ us hl => match us, hl with | [_], _ => rfl⟩
  f_other_side := by
    obtain ⟨fd, F⟩ := c.def_ 2 (d := d_other_side) rfl
    exact ⟨_, fd, F, He.glo_ok X G (c.fact 2 (f := .glo "other_side") rfl), FunD.bindsN F fun _ _ _ _ _ _ us hl => match us, hl with | [_], _ => rfl⟩
  f_partners := by
    obtain ⟨fd, F⟩ := c.def_ 3 (d := d_partners) rfl
    exact ⟨_, fd, F, He.glo_ok X G (c.fact 3 (f := .glo "partners") rfl), FunD.bindsN F fun _ _ _ _ _ _ us hl => match us, hl with | [_], _ => rfl⟩
  f_is_clean := by
    obtain ⟨fd, F⟩ := c.def_ 4 (d := d_is_clean) rfl
    exact ⟨_, fd, F, He.glo_ok X G (c.fact 4 (f := .glo "is_clean") rfl), FunD.bindsN F fun _ _ _ _ _ _ us hl => match us, hl with | [_], _ => rfl⟩
  f_is_letter := by
    obtain ⟨fd, F⟩ := c.def_ 5 (d := d_is_letter) rfl
    exact ⟨_, fd, F, He.glo_ok X G (c.fact 5 (f := .glo "is_letter") rfl), FunD.bindsN F fun _ _ _ _ _ _ us hl => match us, hl with | [_], _ => rfl⟩
  f_fewest_turns := by
    obtain ⟨fd, F⟩ := c.def_ 6 (d := d_fewest_turns) rfl
    exact ⟨_, fd, F, He.glo_ok X G (c.fact 6 (f := .glo "fewest_turns") rfl), FunD.bindsN F fun _ _ _ _ _ _ us hl => match us, hl with | [_, _], _ => rfl⟩
  f_how_many := by
    obtain ⟨fd, F⟩ := c.def_ 7 (d := d_how_many) rfl
    exact ⟨_, fd, F, He.glo_ok X G (c.fact 7 (f := .glo "how_many") rfl), FunD.bindsN F fun _ _ _ _ _ _ us hl => match us, hl with | [_], _ => rfl⟩
  f_need_number := by
    obtain ⟨fd, F⟩ := c.def_ 8 (d := d_need_number) rfl
    exact ⟨_, fd, F, He.glo_ok X G (c.fact 8 (f := .glo "need_number") rfl), FunD.bindsN F fun _ _ _ _ _ _ us hl => match us, hl with | [_], _ => rfl⟩
  f_kth := by
    obtain ⟨fd, F⟩ := c.def_ 9 (d := d_kth) rfl
    exact ⟨_, fd, F, He.glo_ok X G (c.fact 9 (f := .glo "kth") rfl), FunD.bindsN F fun _ _ _ _ _ _ us hl => match us, hl with | [_, _], _ => rfl⟩
  f_kth_mending := by
    obtain ⟨fd, F⟩ := c.def_ 10 (d := d_kth_mending) rfl
    exact ⟨_, fd, F, He.glo_ok X G (c.fact 10 (f := .glo "kth_mending") rfl), FunD.bindsN F fun _ _ _ _ _ _ us hl => match us, hl with | [_, _], _ => rfl⟩
  f_is_bracket := by
    obtain ⟨fd, F⟩ := c.def_ 11 (d := d_is_bracket) rfl
    exact ⟨_, fd, F, He.glo_ok X G (c.fact 11 (f := .glo "is_bracket") rfl), FunD.bindsN F fun _ _ _ _ _ _ us hl => match us, hl with | [_], _ => rfl⟩
  f_turns := by
    obtain ⟨fd, F⟩ := c.def_ 12 (d := d_turns) rfl
    exact ⟨_, fd, F, He.glo_ok X G (c.fact 12 (f := .glo "turns") rfl), FunD.bindsN F fun _ _ _ _ _ _ us hl => match us, hl with | [_, _], _ => rfl⟩
  f_steps_from := by
    obtain ⟨fd, F⟩ := c.def_ 13 (d := d_steps_from) rfl
    exact ⟨_, fd, F, He.glo_ok X G (c.fact 13 (f := .glo "steps_from") rfl), FunD.bindsN F fun _ _ _ _ _ _ us hl => match us, hl with | [_, _, _, _], _ => rfl⟩
  f_least_table := by
    obtain ⟨fd, F⟩ := c.def_ 14 (d := d_least_table) rfl
    exact ⟨_, fd, F, He.glo_ok X G (c.fact 14 (f := .glo "least_table") rfl), FunD.bindsN F fun _ _ _ _ _ _ us hl => match us, hl with | [_], _ => rfl⟩
  f_least_number := by
    obtain ⟨fd, F⟩ := c.def_ 15 (d := d_least_number) rfl
    exact ⟨_, fd, F, He.glo_ok X G (c.fact 15 (f := .glo "least_number") rfl), FunD.bindsN F fun _ _ _ _ _ _ us hl => match us, hl with | [_], _ => rfl⟩
  f_law_well := by
    obtain ⟨fd, F⟩ := c.def_ 16 (d := d_law_well) rfl
    exact ⟨_, fd, F, He.glo_ok X G (c.fact 16 (f := .glo "_law_well") rfl), FunD.bindsN F fun _ _ _ _ _ _ us hl => match us, hl with | [_], _ => rfl⟩
  f_law_draw := by
    obtain ⟨fd, F⟩ := c.def_ 17 (d := d_law_draw) rfl
    exact ⟨_, fd, F, He.glo_ok X G (c.fact 17 (f := .glo "_law_draw") rfl), FunD.bindsN F fun _ _ _ _ _ _ us hl => match us, hl with | [_, _], _ => rfl⟩
  f_law_clean := by
    obtain ⟨fd, F⟩ := c.def_ 18 (d := d_law_clean) rfl
    exact ⟨_, fd, F, He.glo_ok X G (c.fact 18 (f := .glo "_law_clean") rfl), FunD.bindsN F fun _ _ _ _ _ _ us hl => match us, hl with | [_, _], _ => rfl⟩
  f_law_bent := by
    obtain ⟨fd, F⟩ := c.def_ 19 (d := d_law_bent) rfl
    exact ⟨_, fd, F, He.glo_ok X G (c.fact 19 (f := .glo "_law_bent") rfl), FunD.bindsN F fun _ _ _ _ _ _ us hl => match us, hl with | [_, _], _ => rfl⟩
  f_law_text := by
    obtain ⟨fd, F⟩ := c.def_ 20 (d := d_law_text) rfl
    exact ⟨_, fd, F, He.glo_ok X G (c.fact 20 (f := .glo "_law_text") rfl), FunD.bindsN F fun _ _ _ _ _ _ us hl => match us, hl with | [_, _], _ => rfl⟩
  f_law_brackets := by
    obtain ⟨fd, F⟩ := c.def_ 21 (d := d_law_brackets) rfl
    exact ⟨_, fd, F, He.glo_ok X G (c.fact 21 (f := .glo "_law_brackets") rfl), FunD.bindsN F fun _ _ _ _ _ _ us hl => match us, hl with | [_], _ => rfl⟩
  f_law_with_more := by
    obtain ⟨fd, F⟩ := c.def_ 22 (d := d_law_with_more) rfl
    exact ⟨_, fd, F, He.glo_ok X G (c.fact 22 (f := .glo "_law_with_more") rfl), FunD.bindsN F fun _ _ _ _ _ _ us hl => match us, hl with | [_, _, _], _ => rfl⟩
  c_OPENING := by
    obtain ⟨t, e⟩ := He.str_ok X G (c.fact 24 (f := .str "OPENING" (S OPN)) rfl)
    exact ⟨_, e, ⟨t, rfl⟩⟩
  c_CLOSING := by
    obtain ⟨t, e⟩ := He.str_ok X G (c.fact 25 (f := .str "CLOSING" (S CLO)) rfl)
    exact ⟨_, e, ⟨t, rfl⟩⟩
  c_BRACKETS_signs := by
    obtain ⟨t, e⟩ := He.str_ok X G (c.fact 26 (f := .str "BRACKETS_signs" (S BRK)) rfl)
    exact ⟨_, e, ⟨t, rfl⟩⟩
  c_BRACKETS_counted := by
    obtain ⟨t, e⟩ := He.str_ok X G (c.fact 27 (f := .str "BRACKETS_counted" (S BRK)) rfl)
    exact ⟨_, e, ⟨t, rfl⟩⟩
  b_len := He.free_ok X G (c.fact 28 (f := .free "len") rfl)
  b_int := He.free_ok X G (c.fact 29 (f := .free "int") rfl)
  b_range := He.free_ok X G (c.fact 30 (f := .free "range") rfl)
  b_enumerate := He.free_ok X G (c.fact 31 (f := .free "enumerate") rfl)
  b_zip := He.free_ok X G (c.fact 32 (f := .free "zip") rfl)
  b_isinstance := He.free_ok X G (c.fact 33 (f := .free "isinstance") rfl)
  b_bool := He.free_ok X G (c.fact 34 (f := .free "bool") rfl)
  b_min := He.free_ok X G (c.fact 35 (f := .free "min") rfl)
  b_sorted := He.free_ok X G (c.fact 36 (f := .free "sorted") rfl)
  b_ValueError := He.free_ok X G (c.fact 37 (f := .free "ValueError") rfl)
  b_abs := He.free_ok X G (c.fact 38 (f := .free "abs") rfl)
  c_ALL_WORDS := ⟨_, He.glo_ok X G (c.fact 39 (f := .glo "ALL_WORDS") rfl), rfl⟩
  q_ALL_WORDS := fun H => He.tupB_ok (vs := [.str (S [112, 117, 116]), .str (S [115, 116, 114, 105, 107, 101]), .str (S [116, 117, 114, 110])]) (all_at cx (i := 0) rfl) H
  g_MendError := He.glo_ok X G (c.fact 40 (f := .glo "MendError") rfl)
  c_MendError := ⟨_, He.glo_ok X G (c.fact 40 (f := .glo "MendError") rfl), rfl⟩
  g_NoNumber := He.glo_ok X G (c.fact 41 (f := .glo "NoNumber") rfl)
  c_NoNumber := ⟨_, He.glo_ok X G (c.fact 41 (f := .glo "NoNumber") rfl), rfl⟩
  z_NoNumber := errB_ok (all_at cx (i := 1) rfl)
  kv_NoNumber := beq_iff_eq.mp (all_at cx (i := 2) rfl)
  kk_NoNumber_NoNumber := beq_iff_eq.mp (all_at cx (i := 3) rfl)
  cl_Ways := He.cls_ok (c.fact 43 (f := .cls "Ways") rfl)
  n_Ways_signs := He.noat_ok (c.fact 44 (f := .noat "Ways" "signs") rfl)
  n_Ways_words := He.noat_ok (c.fact 45 (f := .noat "Ways" "words") rfl)
  n_Ways_costs := He.noat_ok (c.fact 46 (f := .noat "Ways" "costs") rfl)
  n_Ways_counts := He.noat_ok (c.fact 47 (f := .noat "Ways" "counts") rfl)
  cl_Walk := He.cls_ok (c.fact 49 (f := .cls "Walk") rfl)
  n_Walk_ways := He.noat_ok (c.fact 50 (f := .noat "Walk" "ways") rfl)
  n_Walk_end := He.noat_ok (c.fact 51 (f := .noat "Walk" "end") rfl)
  n_Walk_at := He.noat_ok (c.fact 52 (f := .noat "Walk" "at") rfl)
  n_Walk_open_kinds := He.noat_ok (c.fact 53 (f := .noat "Walk" "open_kinds") rfl)
  n_Walk_levels := He.noat_ok (c.fact 54 (f := .noat "Walk" "levels") rfl)
  k_Ways_init := by
    obtain ⟨fd, F⟩ := c.def_ 24 (d := d_Ways_init) rfl
    exact ⟨fd, F, He.mkr_ok (c.fact 55 (f := .mkr "Ways") rfl), He.glo_ok X G (c.fact 42 (f := .glo "Ways") rfl), FunD.bindsN F fun _ _ _ _ _ _ us hl => match us, hl with | [_, _, _], _ => rfl⟩
  m_Ways_cost := by
    obtain ⟨fd, F⟩ := c.def_ 25 (d := d_Ways_cost) rfl
    exact ⟨fd, F, He.cls_ok (c.fact 43 (f := .cls "Ways") rfl), He.meth_ok (c.fact 56 (f := .meth "Ways" "cost") rfl), FunD.bindsN F fun _ _ _ _ _ _ us hl => match us, hl with | [_, _, _], _ => rfl⟩
  m_Ways_count := by
    obtain ⟨fd, F⟩ := c.def_ 26 (d := d_Ways_count) rfl
    exact ⟨fd, F, He.cls_ok (c.fact 43 (f := .cls "Ways") rfl), He.meth_ok (c.fact 57 (f := .meth "Ways" "count") rfl), FunD.bindsN F fun _ _ _ _ _ _ us hl => match us, hl with | [_, _, _], _ => rfl⟩
  m_Ways_grow := by
    obtain ⟨fd, F⟩ := c.def_ 27 (d := d_Ways_grow) rfl
    exact ⟨fd, F, He.cls_ok (c.fact 43 (f := .cls "Ways") rfl), He.meth_ok (c.fact 58 (f := .meth "Ways" "grow") rfl), FunD.bindsN F fun _ _ _ _ _ _ us hl => match us, hl with | [_, _], _ => rfl⟩
  m_Ways_reckoned := by
    obtain ⟨fd, F⟩ := c.def_ 28 (d := d_Ways_reckoned) rfl
    exact ⟨fd, F, He.cls_ok (c.fact 43 (f := .cls "Ways") rfl), He.meth_ok (c.fact 59 (f := .meth "Ways" "reckoned") rfl), FunD.bindsN F fun _ _ _ _ _ _ us hl => match us, hl with | [_, _, _], _ => rfl⟩
  m_Ways_numbers := by
    obtain ⟨fd, F⟩ := c.def_ 29 (d := d_Ways_numbers) rfl
    exact ⟨fd, F, He.cls_ok (c.fact 43 (f := .cls "Ways") rfl), He.meth_ok (c.fact 60 (f := .meth "Ways" "numbers") rfl), FunD.bindsN F fun _ _ _ _ _ _ us hl => match us, hl with | [_, _, _], _ => rfl⟩
  m_Ways_note := by
    obtain ⟨fd, F⟩ := c.def_ 30 (d := d_Ways_note) rfl
    exact ⟨fd, F, He.cls_ok (c.fact 43 (f := .cls "Ways") rfl), He.meth_ok (c.fact 61 (f := .meth "Ways" "note") rfl), FunD.bindsN F fun _ _ _ _ _ _ us hl => match us, hl with | [_, _, _, _, _, _, _], _ => rfl⟩
  m_Ways_note_puts := by
    obtain ⟨fd, F⟩ := c.def_ 31 (d := d_Ways_note_puts) rfl
    exact ⟨fd, F, He.cls_ok (c.fact 43 (f := .cls "Ways") rfl), He.meth_ok (c.fact 62 (f := .meth "Ways" "note_puts") rfl), FunD.bindsN F fun _ _ _ _ _ _ us hl => match us, hl with | [_, _, _, _], _ => rfl⟩
  k_Walk_init := by
    obtain ⟨fd, F⟩ := c.def_ 32 (d := d_Walk_init) rfl
    exact ⟨fd, F, He.mkr_ok (c.fact 63 (f := .mkr "Walk") rfl), He.glo_ok X G (c.fact 48 (f := .glo "Walk") rfl), FunD.bindsN F fun _ _ _ _ _ _ us hl => match us, hl with | [_, _], _ => rfl⟩
  m_Walk_closed_at := by
    obtain ⟨fd, F⟩ := c.def_ 33 (d := d_Walk_closed_at) rfl
    exact ⟨fd, F, He.cls_ok (c.fact 49 (f := .cls "Walk") rfl), He.meth_ok (c.fact 64 (f := .meth "Walk" "closed_at") rfl), FunD.bindsN F fun _ _ _ _ _ _ us hl => match us, hl with | [_, _, _], _ => rfl⟩
  m_Walk_best_from := by
    obtain ⟨fd, F⟩ := c.def_ 34 (d := d_Walk_best_from) rfl
    exact ⟨fd, F, He.cls_ok (c.fact 49 (f := .cls "Walk") rfl), He.meth_ok (c.fact 65 (f := .meth "Walk" "best_from") rfl), FunD.bindsN F fun _ _ _ _ _ _ us hl => match us, hl with | [_, _, _], _ => rfl⟩
  m_Walk_closes := by
    obtain ⟨fd, F⟩ := c.def_ 35 (d := d_Walk_closes) rfl
    exact ⟨fd, F, He.cls_ok (c.fact 49 (f := .cls "Walk") rfl), He.meth_ok (c.fact 66 (f := .meth "Walk" "closes") rfl), FunD.bindsN F fun _ _ _ _ _ _ us hl => match us, hl with | [_, _], _ => rfl⟩
  m_Walk_behind := by
    obtain ⟨fd, F⟩ := c.def_ 36 (d := d_Walk_behind) rfl
    exact ⟨fd, F, He.cls_ok (c.fact 49 (f := .cls "Walk") rfl), He.meth_ok (c.fact 67 (f := .meth "Walk" "behind") rfl), FunD.bindsN F fun _ _ _ _ _ _ us hl => match us, hl with | [_, _, _], _ => rfl⟩
  m_Walk_choices := by
    obtain ⟨fd, F⟩ := c.def_ 37 (d := d_Walk_choices) rfl
    exact ⟨fd, F, He.cls_ok (c.fact 49 (f := .cls "Walk") rfl), He.meth_ok (c.fact 68 (f := .meth "Walk" "choices") rfl), FunD.bindsN F fun _ _ _ _ _ _ us hl => match us, hl with | [_], _ => rfl⟩
  m_Walk_many_behind := by
    obtain ⟨fd, F⟩ := c.def_ 38 (d := d_Walk_many_behind) rfl
    exact ⟨fd, F, He.cls_ok (c.fact 49 (f := .cls "Walk") rfl), He.meth_ok (c.fact 69 (f := .meth "Walk" "many_behind") rfl), FunD.bindsN F fun _ _ _ _ _ _ us hl => match us, hl with | [_, _, _], _ => rfl⟩
  m_Walk_go := by
    obtain ⟨fd, F⟩ := c.def_ 39 (d := d_Walk_go) rfl
    exact ⟨fd, F, He.cls_ok (c.fact 49 (f := .cls "Walk") rfl), He.meth_ok (c.fact 70 (f := .meth "Walk" "go") rfl), FunD.bindsN F fun _ _ _ _ _ _ us hl => match us, hl with | [_, _], _ => rfl⟩
  m_Walk_is_over := by
    obtain ⟨fd, F⟩ := c.def_ 40 (d := d_Walk_is_over) rfl
    exact ⟨fd, F, He.cls_ok (c.fact 49 (f := .cls "Walk") rfl), He.meth_ok (c.fact 71 (f := .meth "Walk" "is_over") rfl), FunD.bindsN F fun _ _ _ _ _ _ us hl => match us, hl with | [_], _ => rfl⟩
theorem law_at {K : PySem.W.Frag} {h : Heap} {mg : Str → Option Value} {f : Addr} (X : K.In h) (G : h.Ns mainGlobals mg) (hfa : mg ("law" : Str) = some (.ref f)) (c : He.SaysD fa fn K) :
    ∃ fd : FuncData, (∀ (s : Shared) (v : Value), BindsTo s fd ⟨[v], []⟩ [("script", v)]) ∧ FunD K "law" "law" (defArgs s_law) (defBody s_law) (defScope s_law) [] [] f fd := by
  obtain ⟨fd, F⟩ := c.def_ 23 (d := d_law) rfl
  have e := hfa.symm.trans (He.glo_ok X G (c.fact 23 (f := .glo "law") rfl))
  cases e
  have b := FunD.bindsA (ps := ["script"]) F fun _ _ _ _ _ _ us hl => match us, hl with | [_], _ => rfl
  exact ⟨fd, fun s v => b s [v] rfl, F⟩

end K27
open PySem PySem.W PySem.Calls PyProof.Rows
theorem PySem.Challenge.cw_nestmend_k27_whole_put_together_holds : PySem.Challenge.rw_nestmend_k27_whole_put_together.Holds := by
  w_on; o_law
  refine HandSHeadRun.head_any (r := OpenLaw.row PySem.Challenge.rw_nestmend_k27_whole_put_together) (q := view (OpenLaw.row PySem.Challenge.rw_nestmend_k27_whole_put_together).prog [38]) (H := K27.hk) (ob := K27.ob) (M := 6000) (loose := K27.loose) (d := HandSHeadRun.topDef (OpenLaw.row PySem.Challenge.rw_nestmend_k27_whole_put_together).prog 38) (kwd := []) K27.ob_eq
    (by kernel_rfl) (fun s => by kernel_rfl) K27.run (by kernel_rfl) (by kernel_rfl) (by kernel_rfl) (by rfl) (by first | assumption | decide +kernel) (by decide +kernel) ⟨rfl, rfl, rfl, rfl, rfl, by decide +kernel⟩ ?hw ?hc
  case hw => w_witness2
  case hc =>
    refine L2.walk_ofE (l := PySem.Challenge.rw_nestmend_k27_whole_put_together) (n := 63) (k := 9) (x := "script") (CX := C8.CX0) rfl (by decide) (by kernel_rfl) ⟨rfl, by decide, by decide⟩ ?F (fun _ _ _ _ z => z)
    intro w mg fa h Y G hmg0
    obtain ⟨K, KX, c, cx⟩ := Y
    have hmg : mg ("law" : PySem.Str) = some (.ref fa) := by
      have e : (HandSHeadRun.topDef (OpenLaw.row PySem.Challenge.rw_nestmend_k27_whole_put_together).prog 38).name = ("law" : PySem.Str) := by kernel_rfl
      rw [← e]
      exact hmg0
    obtain ⟨fd, hb, F⟩ := K27.law_at KX G hmg c
    exact ⟨K, fd, K27.spLaw K, KX, hb, fun H a ns hl _ hS => ⟨a, ns, rfl, hS, hl, fun _ => rfl⟩, fun base _ _ => K27.ok_law (K27.facts KX G c cx) F⟩
