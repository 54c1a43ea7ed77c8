import PyProof.Rows.All
import Wide.All
import OpenK.AllK
import Wide.FinOn
import HandS.ForMost
import HandS.Codes
import HandS.Style
import HandS.Walk
import HandS.IsInst
import HandS.Wide
import HandS.Defaults
import HandS.Flow
import HandS.Replace
import KE.GoesMore
import KE.GoesZip
import KE.GoesEnum
import PyProof.ListStr
import PyProof.StrBlock2
import HandS.Conv
import HandS.ReplaceLit
import HandS.ReplaceList
import HandS.SortInts
import PyProof.Rows.SortShellAny
import PyProof.Rows.StrRev
import PyProof.Rows.SeqMore
import HandS.HeadHook1
import HandS.HeadHook2
import HandS.More
import HandS.ExcOwn
import HandS.ExcIs
import HandS.TryOnly
import HandS.WordsExc
import HandS.HeadEnd
import HandS.TupSets
import HandS.Deep
import KE.LtData
import HandS.Zip
import KE.KDictPairs
import HandS.SetFor
import HandS.Strs
import PyProof.Rows.StrFirst
import HandS.Dict
import HandS.List
import PyProof.ReprRoads
import PyProof.StrLawsRepr
import PyProof.ReprLen
import HandS.DeepEq
import HandS.StrMore
import KE.KIntText
import KE.IntTextLaws
import PySem.Challenge.RW_nestmend_k46_deeds_written
import HandS.Head0
import HandS.Head1
import HandS.Head2
set_option Elab.async false
set_option linter.all false
set_option maxRecDepth 100000
set_option maxHeartbeats 4000000
namespace Ly
open PySem PySem.Spec PyProof.Rows L2 SX

/-- a text by its codes -/
abbrev Tx (l : List Nat) : V := V.str (S l)
theorem Tx_inj {a b : List Nat} : Tx a = Tx b ↔ a = b := ⟨fun h => S_inj (V.str.inj h), fun h => by rw [h]⟩
def OPN : List Nat := [40, 60, 91, 123]
def CLO : List Nat := [41, 62, 93, 125]
def BRK : List Nat := [40, 41, 60, 62, 91, 93, 123, 125]
/-! ### rules -/
section
variable {X : Cx} {k j : Nat} {x : Str} {sp : Sp} {p pos : Pos} {e : Expr} {es : List Expr} {t : TA} {ta tb : TE}
def tOwn (sp : Sp) (t : TA) : TE := fun σ H Q => t σ H fun vs H1 => sp vs H1 Q C8.E0
theorem pe_own (c : C8.Cal X.prog X.w X.K X.mg X.base k x sp []) (hr : Room j X.A) (hk : k ≤ j) (hg : Gl X x) (ha : PA X (e :: es) t)
    (hdb : (x == ("__debug__" : Str)) = false := by decide) (he : starEach (e :: es) X.env = (false, eval e X.env) :: starEach es X.env := by rfl) (hpl : (backTo pos (starEach es X.env)).any (·.1) = false := by rfl) :
    PE X (.Call (.Name x p) (e :: es) [] pos) (tOwn sp t) := by
  have h := C8.pe_c (p := p) c hr hk hg ha hdb he hpl
  have e : tCall sp [] C8.E0 t = tOwn sp t := by
    funext σ H Q
    show (t σ H fun vs H1 => sp (vs ++ []) H1 Q C8.E0) = _
    simp only [List.append_nil]
    rfl
  rw [← e]
  exact h
theorem pe_strS {z : Str} {jj : Nat} {l : List Nat} (h : z = S l) : PE X (.Constant (.str z) jj pos) (tC (Tx l)) := by
  subst h
  exact pe_str
/-- operators by names -/
def rAddT : R2 := fun x y H Q => ∃ a b : List Nat, x = Tx a ∧ y = Tx b ∧ a.length + b.length ≤ 100000 ∧ Q (Tx (a ++ b)) H
theorem op_addT : OpR X (binaryOp .Add) rAddT := fun pins s σ H x y v u Q I rx ry h => by
  obtain ⟨a, b, rfl, rfl, hl, q⟩ := h
  refine op_add_str pins s σ H _ _ v u Q I rx ry ⟨_, _, rfl, rfl, ?_, ?_⟩
  · rw [S_len, S_len]
    exact Nat.le_trans hl (by decide)
  · rw [S_cat]
    exact q
def rInT (neg : Bool) : R2 := fun x y H Q => ∃ (c : Nat) (l : List Nat), x = Tx [c] ∧ y = Tx l ∧ Q (.bl (if neg then !decide (c ∈ l) else decide (c ∈ l))) H
theorem op_notInT : OpR X (compareOp .NotIn) (rInT true) := fun pins s σ H x y v u Q I rx ry h => by
  obtain ⟨c, l, rfl, rfl, q⟩ := h
  exact op_notIn_sign pins s σ H _ _ v u Q I rx ry ⟨c, S l, rfl, rfl, q⟩
def rIxT1 : R2 := fun x y H Q => ∃ (l : List Nat) (i : Int) (c : Nat), x = Tx l ∧ y = .int i ∧ l.length ≤ 100000 ∧ atI l i = some c ∧ Q (Tx [c]) H
theorem ix_txt : IxR X rIxT1 := fun value slice pins s σ H x y v u Q I rx ry h hs => by
  obtain ⟨l, i, c, rfl, rfl, hl, h1, q⟩ := h
  refine ix_str value slice pins s σ H _ _ v u Q I rx ry ⟨S l, i, c, rfl, rfl, ?_, h1, q⟩ hs
  rw [S_len]
  exact Nat.le_trans hl (by decide)
def rLenT : List V → Hp → VK → Prop := fun xs H Q => ∃ l : List Nat, xs = [Tx l] ∧ l.length ≤ 100000 ∧ Q (.int l.length) H
theorem call_lenT : CallR X (.builtin "len") rLenT := fun pins s σ H xs us Q I r h => by
  obtain ⟨l, rfl, hl, q⟩ := h
  refine call_len_str pins s σ H _ us Q I r ⟨S l, rfl, ?_, ?_⟩
  · rw [S_len]
    exact Nat.le_trans hl (by decide)
  · rw [S_len]
    exact q
def rIntB : List V → Hp → VK → Prop := fun xs H Q => ∃ b : Bool, xs = [.bl b] ∧ Q (.int (if b then 1 else 0)) H
theorem call_intB : CallR X (.type "int") rIntB := fun pins s σ H xs us Q I r h => by
  obtain ⟨b, rfl, q⟩ := h
  exact call_int1 pins s σ H _ us Q I r (.inr ⟨b, rfl, q⟩)
def rLenL (K : PySem.W.Frag) : List V → Hp → VK → Prop := fun xs H Q => ∃ p ys, xs = [.ref p] ∧ (SqL K H p ys ∨ SqT K H p ys) ∧ Q (.int ys.length) H
def rFindT : V → List V → Hp → VK → Prop := fun x xs H Q => ∃ a b : List Nat, x = Tx a ∧ xs = [Tx b] ∧ Q (.int (Txt.find (S a) (S b))) H
def rSlTx : V → Option Int → Option Int → Hp → VK → Prop := fun x lo hi H Q => ∃ l : List Nat, x = Tx l ∧ l.length ≤ 100000 ∧ Q (.str (Txt.slice (S l) lo hi)) H
theorem sl_tx : SlR X rSlTx := by
  intro pins s σ H x v vl vu lo hi sl Q I rx hs pl pu h
  obtain ⟨l, hx, hz, q⟩ := h
  refine C8.sl_txt pins s σ H x v vl vu lo hi sl Q I rx hs pl pu ⟨S l, hx, ?_, q⟩
  rw [S_len]
  exact Nat.le_trans hz (by decide)
end

/-! ### heaps -/
def But (p : Addr) (H H' : Hp) : Prop := ∀ b o, b ≠ p → H b = some o → H' b = some o
section
variable {H H' H1 H2 : Hp} {a b p : Addr} {o u : HO}
theorem Same.new (h : H p = none) : Same H (upd H p u) := fun b x e => by
  rw [upd_ne (ne_of_none e h)]
  exact e
theorem But.refl : But p H H := fun _ _ _ h => h
theorem But.set : But p H (upd H p u) := fun b x n e => by
  rw [upd_ne n]
  exact e
theorem But.trans (x : But p H H1) (y : But p H1 H2) : But p H H2 := fun b o n h => y b o n (x b o n h)
theorem But.same (x : But p H H1) (y : Same H1 H2) : But p H H2 := fun b o n h => y b o (x b o n h)
theorem Same.but (x : Same H H1) (y : But p H1 H2) : But p H H2 := fun b o n h => y b o n (x b o h)
theorem Same.toBut (x : Same H H1) : But p H H1 := fun b o _ h => x b o h
/-- p is new since H -/
theorem Same.but0 (x : Same H H1) (y : But p H1 H2) (n : H p = none) : Same H H2 := fun b o h => y b o (ne_of_none h n) (x b o h)
theorem But.free (x : But p H H1) (n : a ≠ p) (h : H1 a = none) : H a = none := by
  cases q : H a with
  | none => rfl
  | some o =>
    rw [x a o n q] at h
    cases h
theorem But.but0 {q : Addr} (x : But p H H1) (y : But q H1 H2) (n : H q = none) : But p H H2 := fun b o m h => y b o (ne_of_none h n) (x b o m h)
theorem Same.get (s : Same H H1) (h : H a = some o) : H1 a = some o := s a o h
theorem But.get (s : But p H H1) (n : a ≠ p) (h : H a = some o) : H1 a = some o := s a o n h
theorem ne_new (n : H b = none) (h : H a = some o) : a ≠ b := ne_of_none h n
theorem Same.fr (n : H1 a = none) (x : Same H H1) : H a = none := x.free n
theorem But.fr (n : H1 a = none) (x : But p H H1) (m : a ≠ p) : H a = none := x.free m n
theorem Same.tr (y : Same H1 H2) (x : Same H H1) : Same H H2 := x.trans y
theorem Same.b0 (y : But p H1 H2) (x : Same H H1) (n : H p = none) : Same H H2 := Same.but0 x y n
theorem But.sa (y : Same H1 H2) (x : But p H H1) : But p H H2 := But.same x y
theorem But.tr (y : But p H1 H2) (x : But p H H1) : But p H H2 := x.trans y
theorem But.b0 {q : Addr} (y : But q H1 H2) (x : But p H H1) (n : H q = none) : But p H H2 := But.but0 x y n
theorem sq_of {K : PySem.W.Frag} {xs : List V} (h : H a = some (.lst xs)) : SqL K H a xs := .inl (.inl h)
theorem st_of {K : PySem.W.Frag} {xs : List V} (h : H a = some (.tup xs)) : SqT K H a xs := .inl (.inl h)
theorem But.sq {K : PySem.W.Frag} {xs : List V} (x : But p H H1) (n : a ≠ p) (h : SqL K H a xs) : SqL K H1 a xs := by
  rcases h with (h | ⟨o, h⟩) | h
  · exact .inl (.inl (x _ _ n h))
  · exact .inl (.inr ⟨o, x _ _ n h⟩)
  · exact .inr h
end

/-! ### readings, step by step -/
theorem cx_K {CX : CXT} {P : Program} {w : World} {K : PySem.W.Frag} {mg : Str → Option Value} {base : Heap} {N : List Str} {q : Str} {sc : Scope} {f : Addr} {cd : Value} {A : Around} {outer : List Env} {s : Shared} {H : Hp} {E : XK} : (cxOf CX P w K mg base N q sc f cd A outer s H E).K = K := rfl
section
variable {K : PySem.W.Frag} {σ : L2.St} {H : Hp} {Q : VK} {R : Hp → Prop} {i j : Int} {n : Nat} {v : V} {a p : Addr} {l m : List Nat} {xs ys : List V}
theorem g_var (h : σ[n]? = some (some v)) (q : Q v H) : tVar n σ H Q := ⟨v, h, q⟩
theorem g_I0 {g : Int → Int → V} (q : Q (g i j) H) : rI0 g (.int i) (.int j) H Q := ⟨i, j, rfl, rfl, q⟩
theorem g_I {C : Int → Int → Prop} {g : Int → Int → V} (c : C i j) (q : Q (g i j) H) : rI C g (.int i) (.int j) H Q := ⟨i, j, rfl, rfl, c, q⟩
theorem g_U {g : Int → V} (q : Q (g i) H) : rU g (.int i) H Q := ⟨i, rfl, q⟩
theorem g_ipI {g : Int → Int → Int} (q : Q (.int (g i j)) H) : ipI g (.int i) (.int j) H Q := ⟨i, j, rfl, rfl, q⟩
theorem g_addT (h : l.length + m.length ≤ 100000) (q : Q (Tx (l ++ m)) H) : rAddT (Tx l) (Tx m) H Q := ⟨l, m, rfl, rfl, h, q⟩
theorem g_inT {c : Nat} (q : Q (.bl (decide (c ∈ l))) H) : rInT false (Tx [c]) (Tx l) H Q := ⟨c, l, rfl, rfl, q⟩
theorem g_ninT {c : Nat} (q : Q (.bl (!decide (c ∈ l))) H) : rInT true (Tx [c]) (Tx l) H Q := ⟨c, l, rfl, rfl, q⟩
theorem g_ixT {c : Nat} (h : l.length ≤ 100000) (h1 : atI l i = some c) (q : Q (Tx [c]) H) : rIxT1 (Tx l) (.int i) H Q := ⟨l, i, c, rfl, rfl, h, h1, q⟩
theorem g_ixL (h : SqL K H p xs) (h1 : atI xs i = some v) (q : Q v H) : rIxL K (.ref p) (.int i) H Q := ⟨p, xs, i, v, rfl, rfl, h, h1, q⟩
theorem g_ixU (h : SqT K H p xs) (h1 : atI xs i = some v) (q : Q v H) : rIxT K (.ref p) (.int i) H Q := ⟨p, xs, i, v, rfl, rfl, h, h1, q⟩
theorem g_lenT (h : l.length ≤ 100000) (q : Q (.int l.length) H) : rLenT [Tx l] H Q := ⟨l, rfl, h, q⟩
theorem g_lenL (h : SqL K H p xs) (q : Q (.int xs.length) H) : rLenL K [.ref p] H Q := ⟨p, xs, rfl, .inl h, q⟩
theorem g_lenU (h : SqT K H p xs) (q : Q (.int xs.length) H) : rLenL K [.ref p] H Q := ⟨p, xs, rfl, .inr h, q⟩
theorem g_findT1 (q : Q (.int (Txt.find (S l) (S m))) H) : rFindT (Tx l) [Tx m] H Q := ⟨l, m, rfl, rfl, q⟩
theorem g_str {A : Prop} (q : A) : (∃ z, Tx l = .str z) ∧ A := ⟨⟨_, rfl⟩, q⟩
theorem g_intB {b : Bool} (q : Q (.int (if b then 1 else 0)) H) : rIntB [.bl b] H Q := ⟨b, rfl, q⟩
theorem g_eq {x y : V} (h : scal x y = true) (q : Q (.bl (decide (x = y))) H) : rEq x y H Q := ⟨h, q⟩
theorem g_ne {x y : V} (h : scal x y = true) (q : Q (.bl (!decide (x = y))) H) : rNe x y H Q := ⟨h, q⟩
theorem g_tyL (h : SqL K H p xs) : tyV K "list" (.ref p) H := .inl ⟨rfl, _, h⟩
/-! new objects, changed ones -/
def rLstN (xs : List V) (H : Hp) (Q : VK) : Prop := xs.length ≤ sizeLine ∧ ∀ p, H p = none → Q (.ref p) (upd H p (.lst xs))
def rTupN (xs : List V) (H : Hp) (Q : VK) : Prop := xs.length ≤ sizeLine ∧ ∀ p, H p = none → Q (.ref p) (upd H p (.tup xs))
def rRevN (K : PySem.W.Frag) (x : V) (H : Hp) (Q : VK) : Prop := ∃ a xs, x = .ref a ∧ SqL K H a xs ∧ ∀ p, H p = none → Q (.ref p) (upd H p (.lst xs.reverse))
theorem tLst_eq {t : TA} : tLst t σ H Q = t σ H fun xs H1 => rLstN xs H1 Q := rfl
theorem tTup_eq {t : TA} : tTup t σ H Q = t σ H fun xs H1 => rTupN xs H1 Q := rfl
theorem tRevL_eq {t : TE} : tRevL K t σ H Q = t σ H fun x H1 => rRevN K x H1 Q := rfl
def rPart (x : V) (H : Hp) (Q : Option Int → Hp → Prop) : Prop := ∃ i, x = .int i ∧ Q (some i) H
theorem tPart_eq {t : TE} {Q : Option Int → Hp → Prop} : tPart t σ H Q = t σ H fun x H1 => rPart x H1 Q := rfl
theorem g_part {Q : Option Int → Hp → Prop} (q : Q (some i) H) : rPart (.int i) H Q := ⟨i, rfl, q⟩
theorem g_lst (h : xs.length ≤ 100000) (q : ∀ p H1, H p = none → Same H H1 → H1 p = some (.lst xs) → Q (.ref p) H1) : rLstN xs H Q :=
  ⟨Nat.le_trans h (by decide), fun p np => q p _ np (Same.new np) upd_same⟩
theorem g_tup (h : xs.length ≤ 100000) (q : ∀ p H1, H p = none → Same H H1 → H1 p = some (.tup xs) → Q (.ref p) H1) : rTupN xs H Q :=
  ⟨Nat.le_trans h (by decide), fun p np => q p _ np (Same.new np) upd_same⟩
theorem g_new {o : HO} (q : ∀ p H1, H p = none → Same H H1 → H1 p = some o → Q (.ref p) H1) : ∀ p, H p = none → Q (.ref p) (upd H p o) := fun p np => q p _ np (Same.new np) upd_same
theorem g_setL (h : H p = some (.lst xs)) (h1 : ixN xs.length i = some n) (q : ∀ H1, But p H H1 → H1 p = some (.lst (xs.set n v)) → R H1) : rSetL (.ref p) (.int i) v H R := ⟨p, xs, i, n, rfl, rfl, h, h1, q _ But.set upd_same⟩
theorem g_append1 (h : H p = some (.lst xs)) (hl : xs.length < 100000) (q : ∀ H1, But p H H1 → H1 p = some (.lst (xs ++ [v])) → Q .non H1) : rAppend (.ref p) [v] H Q :=
  ⟨p, xs, v, rfl, rfl, h, Nat.lt_of_lt_of_le hl (by decide), q _ But.set upd_same⟩
theorem g_slL {lo hi : Option Int} (h : SqL K H p xs) (q : ∀ p H1, H p = none → Same H H1 → H1 p = some (.lst (cutV xs lo hi)) → Q (.ref p) H1) : rSlL K (.ref p) lo hi H Q := ⟨p, xs, rfl, h, g_new q⟩
theorem g_revL (h : SqL K H p xs) (q : ∀ p H1, H p = none → Same H H1 → H1 p = some (.lst xs.reverse) → Q (.ref p) H1) : rRevN K (.ref p) H Q := ⟨p, xs, rfl, h, g_new q⟩
theorem g_cat (h : H a = some (.lst xs)) (h2 : H p = some (.lst ys)) (hl : xs.length + ys.length ≤ 100000) (q : ∀ p H1, H p = none → Same H H1 → H1 p = some (.lst (xs ++ ys)) → Q (.ref p) H1) : rCat (.ref a) (.ref p) H Q := ⟨a, p, xs, ys, rfl, rfl, h, h2, Nat.le_trans hl (by decide), g_new q⟩
theorem g_slFrom (h : l.length ≤ 100000) (hi : 0 ≤ i) (q : Q (Tx (l.drop i.toNat)) H) : rSlTx (Tx l) (some i) none H Q := ⟨l, rfl, h, by rw [slice_from hi]; exact q⟩
/-! tests -/
theorem g_test {c : Prop} [Decidable c] {A B : Prop} (h1 : c → A) (h2 : ¬ c → B) : ∃ k, V.bl (decide c) = V.bl k ∧ if k = true then A else B := by
  refine ⟨_, rfl, ?_⟩
  by_cases h : c
  · rw [decide_eq_true h, if_pos rfl]
    exact h1 h
  · rw [decide_eq_false h, if_neg Bool.false_ne_true]
    exact h2 h
theorem g_testB {b : Bool} {A B : Prop} (h1 : b = true → A) (h2 : b = false → B) : ∃ k, V.bl b = V.bl k ∧ if k = true then A else B := by
  refine ⟨_, rfl, ?_⟩
  cases b with
  | true => exact h1 rfl
  | false => exact h2 rfl
end

/-! ### loops -/
def ForR (J : It) (g : TG) (tb : TS) (D : Ends) (σ : L2.St) (H : Hp) : Prop := ∃ W : Nat → Nat → L2.St → Hp → Prop, (∃ m, W 0 m σ H) ∧ ∀ i m σ H, W i m σ H →
  (J.stop i H ∧ D.nx σ H) ∨ (J.go i H ∧ ∃ N : L2.St → Hp → Prop, (∀ σ' H', N σ' H' → ∃ m', m' < m ∧ W (i + 1) m' σ' H') ∧ ∀ x H', J.yld i H x H' → g x σ H' fun σ2 H2 => tb { D with nx := N, ct := N, bk := D.nx } σ2 H2)
theorem tFor_eq {wi : TI} {g : TG} {tb : TS} {D : Ends} {σ : L2.St} {H : Hp} : tFor wi g tb D σ H = wi σ H fun J H1 => ForR J g tb D σ H1 := rfl
def LcR (J : It) (g : TG) (tt : TT) (te : TE) (vs : List Nat) (σ : L2.St) (H1 : Hp) (Q : VK) : Prop := ∀ D, H1 D = none → ∃ W : Nat → Nat → Hp → Prop, (∃ m, W 0 m (upd H1 D (.lst []))) ∧ ∀ i m H, W i m H →
  (J.stop i H ∧ Q (.ref D) H) ∨ (J.go i H ∧ ∃ Nx : Hp → Prop, (∀ H', Nx H' → ∃ m', m' < m ∧ W (i + 1) m' H') ∧ ∀ x H', J.yld i H x H' → g x (wipe σ vs) H' fun σ2 H2 => wipe σ2 vs = wipe σ vs ∧ tt σ2 H2 fun b H3 =>
    if b = true then te σ2 H3 fun y H4 => ∃ acc, H4 D = some (.lst acc) ∧ acc.length < sizeLine ∧ Nx (upd H4 D (.lst (acc ++ [y]))) else Nx H3)
theorem tLc_eq {wi : TI} {g : TG} {tt : TT} {te : TE} {vs : List Nat} {σ : L2.St} {H : Hp} {Q : VK} : tLc wi g tt te vs σ H Q = wi σ H fun J H1 => LcR J g tt te vs σ H1 Q := rfl
section
variable {K : PySem.W.Frag} {σ : L2.St} {H : Hp} {g : TG} {tb : TS} {D : Ends} {l : List Nat} {xs : List V} {a : Addr} {tt : TT} {te : TE} {vs : List Nat} {Q : VK} {n : Nat} {lo : Int}
theorem cut_at {α : Type} {xs : List α} {i : Nat} {x : α} (hx : xs[i]? = some x) : xs.take (i + 1) = xs.take i ++ [x] ∧ xs = xs.take i ++ x :: xs.drop (i + 1) := by
  obtain ⟨hlt, ex⟩ := List.getElem?_eq_some_iff.mp hx
  subst ex
  exact ⟨by rw [List.take_succ_eq_append_getElem hlt], by rw [← List.drop_eq_getElem_cons hlt, List.take_append_drop]⟩
/-- for x in list, by what is gone through; the list stays -/
theorem for_lst (xs : List V) (Pv : List V → L2.St → Hp → Prop) (h0 : Pv [] σ H) (hl : ∀ pre post σ H, xs = pre ++ post → Pv pre σ H → SqL K H a xs)
    (hs : ∀ pre x post σ H, xs = pre ++ x :: post → Pv pre σ H → g x σ H fun σ2 H2 => tb { D with nx := Pv (pre ++ [x]), ct := Pv (pre ++ [x]), bk := D.nx } σ2 H2) (hd : ∀ σ H, Pv xs σ H → D.nx σ H) : ForR (Itl K a) g tb D σ H := by
  refine for_list (xs := xs) (fun i σ H => Pv (xs.take i) σ H) (by simpa using h0) (fun i σ H _ p => hl _ (xs.drop i) σ H (List.take_append_drop i xs).symm p) (fun i x σ H hx p => ?_) (fun σ H p => hd σ H (by simpa using p))
  obtain ⟨e, e2⟩ := cut_at hx
  have z := hs (xs.take i) x (xs.drop (i + 1)) σ H e2 p
  rw [← e] at z
  exact z
/-- for i in range -/
theorem for_rng (Pv : Nat → L2.St → Hp → Prop) (h0 : Pv 0 σ H)
    (hs : ∀ i σ H, i < n → Pv i σ H → g (.int (lo + i)) σ H fun σ2 H2 => tb { D with nx := Pv (i + 1), ct := Pv (i + 1), bk := D.nx } σ2 H2) (hd : ∀ σ H, Pv n σ H → D.nx σ H) : ForR (Itr lo n) g tb D σ H := for_range Pv h0 hs hd
/-- what a comprehension's turn is to reach: y put behind the new list at d -/
def LcPut (d : Addr) (R : Hp → Prop) (y : V) (H : Hp) : Prop := ∃ acc, H d = some (.lst acc) ∧ acc.length < sizeLine ∧ R (upd H d (.lst (acc ++ [y])))
theorem lc_put {d : Addr} {R : Hp → Prop} {y : V} {acc : List V} (h : H d = some (.lst acc)) (hl : acc.length < 100000) (q : ∀ H5, But d H H5 → H5 d = some (.lst (acc ++ [y])) → R H5) : LcPut d R y H := ⟨acc, h, Nat.lt_of_lt_of_le hl (by decide), q _ But.set upd_same⟩
theorem lc_w {J : It} {G : Hp → Prop} {Y : Nat → Hp → V → Hp → Prop} (w : Walk J n G Y)
    (h : ∀ d H1, H d = none → Same H H1 → H1 d = some (.lst []) → ∃ Pv : Nat → Hp → Prop, Pv 0 H1 ∧ (∀ i H, i ≤ n → Pv i H → G H) ∧
      (∀ i x H H', i < n → Pv i H → Y i H x H' → g x (wipe σ vs) H' fun σ2 H2 => wipe σ2 vs = wipe σ vs ∧ tt σ2 H2 fun b H3 => if b = true then te σ2 H3 fun y H4 => LcPut d (Pv (i + 1)) y H4 else Pv (i + 1) H3) ∧ ∀ H, Pv n H → Q (.ref d) H) : LcR J g tt te vs σ H Q := by
  intro d nd
  obtain ⟨Pv, h0, hG, hs, hd⟩ := h d _ nd (Same.new nd) upd_same
  exact lc_it w Pv h0 hG hs hd
theorem lc_rng (h : ∀ d H1, H d = none → Same H H1 → H1 d = some (.lst []) → ∃ Pv : Nat → Hp → Prop, Pv 0 H1 ∧
      (∀ (i : Nat) H, i < n → Pv i H → g (.int (lo + i)) (wipe σ vs) H fun σ2 H2 => wipe σ2 vs = wipe σ vs ∧ tt σ2 H2 fun b H3 => if b = true then te σ2 H3 fun y H4 => LcPut d (Pv (i + 1)) y H4 else Pv (i + 1) H3) ∧ ∀ H, Pv n H → Q (.ref d) H) : LcR (Itr lo n) g tt te vs σ H Q := by
  refine lc_w walk_range fun d H1 nd s e => ?_
  obtain ⟨Pv, h0, hs, hd⟩ := h d H1 nd s e
  refine ⟨Pv, h0, fun _ _ _ _ => trivial, fun i x H H' hi p y => ?_, hd⟩
  obtain ⟨rfl, rfl⟩ := y
  exact hs i _ hi p
theorem lc_txt (h : ∀ d H1, H d = none → Same H H1 → H1 d = some (.lst []) → ∃ Pv : List Nat → Hp → Prop, Pv [] H1 ∧
      (∀ pre c post H, l = pre ++ c :: post → Pv pre H → g (Tx [c]) (wipe σ vs) H fun σ2 H2 => wipe σ2 vs = wipe σ vs ∧ tt σ2 H2 fun b H3 => if b = true then te σ2 H3 fun y H4 => LcPut d (Pv (pre ++ [c])) y H4 else Pv (pre ++ [c]) H3) ∧ ∀ H, Pv l H → Q (.ref d) H) : LcR (Its (S l)) g tt te vs σ H Q := by
  refine lc_w walk_str fun d H1 nd s e => ?_
  obtain ⟨Pv, h0, hs, hd⟩ := h d H1 nd s e
  have sz : (S l).cps.size = l.length := by simp
  refine ⟨fun i => Pv (l.take i), by simpa using h0, fun _ _ _ _ => trivial, fun i x H H' hi p y => ?_, fun H p => hd H (by rw [sz, List.take_length] at p; exact p)⟩
  obtain ⟨rfl, c, hc, rfl⟩ := y
  have hc2 : l[i]? = some c := by simpa using hc
  obtain ⟨e1, e2⟩ := cut_at hc2
  have z := hs (l.take i) c (l.drop (i + 1)) _ e2 p
  rw [← e1] at z
  exact z
theorem lc_lst (xs : List V) (h : ∀ d H1, H d = none → Same H H1 → H1 d = some (.lst []) → ∃ Pv : List V → Hp → Prop, Pv [] H1 ∧ (∀ pre post H, xs = pre ++ post → Pv pre H → SqL K H a xs) ∧
      (∀ pre x post H, xs = pre ++ x :: post → Pv pre H → g x (wipe σ vs) H fun σ2 H2 => wipe σ2 vs = wipe σ vs ∧ tt σ2 H2 fun b H3 => if b = true then te σ2 H3 fun y H4 => LcPut d (Pv (pre ++ [x])) y H4 else Pv (pre ++ [x]) H3) ∧ ∀ H, Pv xs H → Q (.ref d) H) : LcR (Itl K a) g tt te vs σ H Q := by
  refine lc_w (walk_list (xs := xs)) fun d H1 nd s e => ?_
  obtain ⟨Pv, h0, hl, hs, hd⟩ := h d H1 nd s e
  refine ⟨fun i => Pv (xs.take i), by simpa using h0, fun i H _ p => hl _ (xs.drop i) H (List.take_append_drop i xs).symm p, fun i x H H' hi p y => ?_, fun H p => hd H (by simpa using p)⟩
  obtain ⟨rfl, hc⟩ := y
  obtain ⟨e1, e2⟩ := cut_at hc
  have z := hs (xs.take i) x (xs.drop (i + 1)) _ e2 p
  rw [← e1] at z
  exact z
end

/-! ### a def of the text -/
def DefAt (K : PySem.W.Frag) (mg : Str → Option Value) (x : Str) (st : Stmt) (ps : List Str) : Prop := ∃ (f : Addr) (fd : FuncData), FunD K x x (defArgs st) (defBody st) (defScope st) [] [] f fd ∧ mg x = some (.ref f) ∧ Binds K fd ps []
section
variable {P : Program} {w : World} {K : PySem.W.Frag} {mg : Str → Option Value} {base : Heap}
theorem fnD {x : Str} {st : Stmt} {f : Addr} {fd : FuncData} {N ps : List Str} {k : Nat} {sp : Sp} (F : FunD K x x (defArgs st) (defBody st) (defScope st) [] [] f fd) (S : FnScope N ps (defScope st)) (len : ∀ vs H Q E, sp vs H Q E → vs.length = ps.length)
    (hbody : ∀ (cdv : Value) (A : Around) (outer : List Env) (s : Shared) (H : Hp) (vs : List V) (Q : VK) (E : XK), Room k (A.deeper (envOfC x (defScope st) s.heap.objs.size f cdv)) → sp vs H Q E →
      ∃ t, PSs (cxOf C8.CX0 P w K mg base N x (defScope st) f cdv A outer s H E).nox (defBody st) t ∧ t { nx := fun _ H' => Q .non H', rt := Q } (start N vs) H) : FnOk P w K mg base C8.CX0 (k + 1) f fd ps sp := by
  refine F.ok S len fun cdv A outer s H vs Q E hr hsp => ?_
  obtain ⟨t, h, q⟩ := hbody cdv A outer s H vs Q E hr hsp
  exact ⟨t, h.nox, q⟩
theorem calD {x : Str} {st : Stmt} {N ps : List Str} {k : Nat} {sp : Sp} (D : DefAt K mg x st ps) (S : FnScope N ps (defScope st)) (len : ∀ vs H Q E, sp vs H Q E → vs.length = ps.length)
    (hbody : ∀ (f : Addr) (cdv : Value) (A : Around) (outer : List Env) (s : Shared) (H : Hp) (vs : List V) (Q : VK) (E : XK), Room k (A.deeper (envOfC x (defScope st) s.heap.objs.size f cdv)) → sp vs H Q E →
      ∃ t, PSs (cxOf C8.CX0 P w K mg base N x (defScope st) f cdv A outer s H E).nox (defBody st) t ∧ t { nx := fun _ H' => Q .non H', rt := Q } (start N vs) H) : C8.Cal P w K mg base (k + 1) x sp [] := by
  obtain ⟨f, fd, F, hm, b⟩ := D
  exact ⟨f, fd, ps, [], fnD F S len (hbody f), hm, F.kp, b, .nil⟩
end
end Ly

set_option maxHeartbeats 4000000
namespace Ly
open PySem SX
/-! ### signs -/
/-- the number of a bracket's kind -/
def knd (c : Nat) : Nat := if c ∈ OPN then OPN.idxOf c else CLO.idxOf c
/-- the other bracket of a bracket's kind -/
def oth (c : Nat) : Nat := if c ∈ OPN then CLO.getD (OPN.idxOf c) 0 else OPN.getD (CLO.idxOf c) 0
theorem brk_or {c : Nat} : c ∈ BRK ↔ c ∈ OPN ∨ c ∈ CLO := by
  unfold BRK OPN CLO
  simp
  omega
theorem oth_clo : ∀ c ∈ OPN, oth c ∈ CLO := by decide
theorem oth_opn : ∀ c ∈ CLO, oth c ∈ OPN := by decide
theorem oth_brk : ∀ c ∈ BRK, oth c ∈ BRK := by decide
theorem oth_oth : ∀ c ∈ BRK, oth (oth c) = c := by decide
theorem opn_clo : ∀ c ∈ OPN, c ∉ CLO := by decide
theorem atI_of {α : Type} {l : List α} {k : Nat} {c : α} (h : l[k]? = some c) : L2.atI l (k : Int) = some c := L2.atI_nat h

/-! ### clean texts, by a pile of awaited closing brackets -/
def stp (s : Option (List Nat)) (c : Nat) : Option (List Nat) := match s with
  | none => none
  | some st => if c ∈ OPN then some (oth c :: st) else if c ∈ CLO then (match st with
    | d :: r => if d = c then some r else none
    | [] => none) else some st
def run (l : List Nat) : Option (List Nat) := l.foldl stp (some [])
def clean (l : List Nat) : Prop := run l = some []
instance (l : List Nat) : Decidable (clean l) := inferInstanceAs (Decidable (run l = some []))
theorem run_app (a b : List Nat) : run (a ++ b) = b.foldl stp (run a) := by
  unfold run
  rw [List.foldl_append]
theorem stp_let {s : Option (List Nat)} {c : Nat} (h1 : c ∉ OPN) (h2 : c ∉ CLO) : stp s c = s := by
  cases s with
  | none => rfl
  | some st => unfold stp; simp only [h1, h2, if_false]
theorem stp_opn {st : List Nat} {c : Nat} (h1 : c ∈ OPN) : stp (some st) c = some (oth c :: st) := by
  unfold stp
  simp only [h1, if_true]
theorem stp_clo {st : List Nat} {c : Nat} (h2 : c ∈ CLO) : stp (some (c :: st)) c = some st := by
  have h1 : c ∉ OPN := fun h => opn_clo c h h2
  unfold stp
  simp only [h1, h2, if_true, if_false]
theorem brk_at {z : Nat} (h : z < 8) : ∃ c, BRK[z]? = some c ∧ c ∈ BRK := ⟨BRK[z]'h, List.getElem?_eq_getElem h, List.getElem_mem h⟩
theorem ixN_nat {n j : Nat} (h : j < n) : L2.ixN n (j : Int) = some j := by
  unfold L2.ixN
  rw [if_pos (by omega), if_pos (by omega), Int.toNat_natCast]
end Ly

set_option maxHeartbeats 4000000
namespace Ly
open PySem PySem.Spec PyProof.Rows L2 SX

/-! ### list(text) -/
def sgV (l : List Nat) : List V := l.map fun c => Tx [c]
section
variable {X : Cx}
def rListT : List V → Hp → VK → Prop := fun xs H Q => ∃ l : List Nat, xs = [Tx l] ∧ l.length ≤ 100000 ∧ ∀ p, H p = none → Q (.ref p) (upd H p (.lst (sgV l)))
theorem vals_signs {l : List Nat} {acc : Array Value} (h : ItemsOf (SignAt (S l)) acc (S l).cps.size) : Vals (sgV l) acc.toList := by
  have hsz : acc.size = l.length := by rw [h.1]; simp
  have key : ∀ (l2 : List Nat) (us : List Value), us.length = l2.length → (∀ j, j < l2.length → ∃ c u, l2[j]? = some c ∧ us[j]? = some (.str ⟨#[c]⟩ u)) → Vals (sgV l2) us := by
    intro l2
    induction l2 with
    | nil =>
      intro us hl _
      cases us with
      | nil => exact .nil
      | cons a b => simp at hl
    | cons c l2 ih =>
      intro us hl hj
      cases us with
      | nil => simp at hl
      | cons a b =>
        obtain ⟨c', u, e1, e2⟩ := hj 0 (by simp)
        simp at e1 e2
        subst e1 e2
        refine .cons ⟨u, rfl⟩ (ih b (by simpa using hl) fun j hlt => ?_)
        obtain ⟨c2, u2, e3, e4⟩ := hj (j + 1) (by simp; omega)
        exact ⟨c2, u2, by simpa using e3, by simpa using e4⟩
  refine key l acc.toList (by simpa using hsz) fun j hj => ?_
  have hj2 : j < acc.size := by omega
  obtain ⟨c, u, e1, e2⟩ := h.2 j acc[j] (by simp [hj2])
  refine ⟨c, u, by simpa using e1, ?_⟩
  rw [← e2]
  simp [hj2]
theorem call_listT (hc : X.calm = true) : CallR X (.type "list") rListT := by
  intro pins s σ H xs us Q I r h
  obtain ⟨l, rfl, hl, q⟩ := h
  obtain ⟨u, rfl, t, rfl⟩ := vals1 r
  have hs : (S l).cps.size ≤ sizeLine := by
    have e : (S l).cps.size = l.length := by simp
    rw [e]
    exact Nat.le_trans hl (by decide)
  refine call_list_str (I.ok.hd hc) (S l) t (fun h' tk acc c' kp e it => ?_) hs
  refine ⟨.ref s.heap.objs.size, _, I.laid (t' := tk) kp (Nat.le_refl _) (show ObjOk X.prog X.w _ h' _ (.lst (sgV l)) from ⟨?_, acc.toList, c', vals_signs it, by simpa using e⟩), rfl, q _ (I.hok.fresh (Nat.le_refl _))⟩
  unfold sgV
  rw [List.length_map]
  exact Nat.le_trans hl (by decide)

/-! ### joins of texts -/
def rJoinT (K : PySem.W.Frag) : V → List V → Hp → VK → Prop := fun x xs H Q => ∃ (a : List Nat) (p : Addr) (ps : List (List Nat)), x = Tx a ∧ xs = [.ref p] ∧ SqL K H p (ps.map Tx) ∧ (ps.map (·.length)).sum + ps.length * a.length ≤ 100000 ∧ Q (Tx (TL.joinL a ps)) H
theorem mt_joinT : MtR X "str.join" (rJoinT X.K) := fun pins s σ H x xs v us Q I rx rs h => by
  obtain ⟨a, p, ps, h1, h2, h3, h4, q⟩ := h
  refine mt_join pins s σ H x xs v us Q I rx rs ⟨S a, p, ps.map S, h1, h2, .inl ?_, ?_, ?_⟩
  · rw [List.map_map]
    exact h3
  · rw [lens, List.length_map, S_len]
    exact Nat.le_trans h4 (by decide)
  · rw [join_S]
    exact q

/-! ### text * n -/
end

/-! ### enumerate(text) -/
def IteS (x : Str) : It := ⟨fun i _ => i < x.cps.size, fun i H v H' => ∃ T c, v = .ref T ∧ H T = none ∧ H' = upd H T (.tup [.int (i : Nat), .str ⟨#[c]⟩]) ∧ x.cps[i]? = some c, fun i _ => i = x.cps.size⟩
def iEnumS (ta : TA) : TI := fun σ H R => ta σ H fun vs H1 => ∃ l : List Nat, vs = [Tx l] ∧ R (IteS (S l)) H1
section
variable {K : PySem.W.Frag} {σ : L2.St} {H : Hp} {g : TG} {tb : TS} {D : Ends} {l : List Nat} {xs : List V} {a : Addr}
/-! readings -/
variable {Q : VK} {p : Addr} {m : List Nat} {n : Nat}
theorem g_listT (h : l.length ≤ 100000) (q : ∀ p H1, H p = none → Same H H1 → H1 p = some (.lst (sgV l)) → Q (.ref p) H1) : rListT [Tx l] H Q := ⟨l, rfl, h, g_new q⟩
theorem g_joinT {ps : List (List Nat)} (h : SqL K H p (ps.map Tx)) (hl : (ps.map (·.length)).sum + ps.length * m.length ≤ 100000) (q : Q (Tx (TL.joinL m ps)) H) : rJoinT K (Tx m) [.ref p] H Q := ⟨m, p, ps, rfl, rfl, h, hl, q⟩
end

/-! ### an if whose test is told once -/
def tIfC (c : TT) (t u : TS) : TS := tIfS c t u
theorem ps_ifC {X : Cx} {pos : Pos} {c : Expr} {a b : List Stmt} {tc : TT} {t u : TS} (hc : PT X c tc) (ha : PSs X a t) (hb : PSs X b u) : PS X (.If c a b pos) (tIfC tc t u) := ps_if hc ha hb
/-- the test c comes out as b and leaves the heap -/
def Tst (c : TT) (σ : L2.St) (H : Hp) (b : Bool) : Prop := ∀ Q : Bool → Hp → Prop, Q b H → c σ H Q
theorem g_ifC {c : TT} {t u : TS} {D : Ends} {σ : L2.St} {H : Hp} {b : Bool} (hA : Tst c σ H b) (h1 : b = true → t D σ H) (h2 : b = false → u D σ H) : tIfC c t u D σ H := by
  refine hA _ ?_
  cases b with
  | true => exact h1 rfl
  | false => exact h2 rfl
/-- the test changes the heap as G says -/
def TstH (c : TT) (σ : L2.St) (H : Hp) (b : Bool) (G : Hp → Prop) : Prop := ∀ Q : Bool → Hp → Prop, (∀ H1, G H1 → Q b H1) → c σ H Q
theorem g_ifH {c : TT} {t u : TS} {D : Ends} {σ : L2.St} {H : Hp} {b : Bool} {G : Hp → Prop} (hA : TstH c σ H b G) (h1 : ∀ H1, G H1 → b = true → t D σ H1) (h2 : ∀ H1, G H1 → b = false → u D σ H1) : tIfC c t u D σ H := by
  refine hA _ fun H1 g => ?_
  cases b with
  | true => exact h1 H1 g rfl
  | false => exact h2 H1 g rfl
/-! ### while -/
section
variable {c : TT} {tb : TS} {D : Ends} {σ : L2.St} {H : Hp}
end
/-! ### data: == and != -/
def txD (l : List Nat) : PyData := .str (S l)
section
variable {K : PySem.W.Frag} {H : Hp} {Q : VK} {p a : Addr} {X : Cx}
theorem can_tx {l : List Nat} (h : ∀ c ∈ l, c < 1114112) : PyData.canLay0 (txD l) = true := by
  show PyData.strOk (S l) = true
  unfold PyData.strOk
  rw [← Array.all_toList]
  exact List.all_eq_true.mpr fun c hc => decide_eq_true (h c hc)
end
section
variable {K : PySem.W.Frag} {H : Hp} {Q : VK} {p a : Addr} {xs : List V} {v : V} {i : Nat}
theorem g_isi {x : V} {t u : String} {b : Bool} (ty : TyX K H x (.type t)) (h : kitB t u = some b) (q : Q (.bl b) H) : rIsi K [x, .ty u] H Q := ⟨x, .ty u, .type t, .type u, b, rfl, .ty u, ty, kit_ty h, q⟩
theorem ty_str {x : Str} : TyX K H (.str x) (.type "str") := .base (.str x)
theorem ty_int {n : Int} : TyX K H (.int n) (.type "int") := .base (.int n)
theorem ty_bl {b : Bool} : TyX K H (.bl b) (.type "bool") := .base (.bl b)
theorem ty_lst (h : H p = some (.lst xs)) : TyX K H (.ref p) (.type "list") := .base (.lst h)
theorem ty_tup (h : H p = some (.tup xs)) : TyX K H (.ref p) (.type "tuple") := .base (.tup h)
theorem cut_ints (ns : List Int) (lo hi : Option Int) : ∃ ms : List Int, cutV (ns.map V.int) lo hi = ms.map V.int ∧ ms.length ≤ ns.length := by
  unfold cutV
  refine ⟨(ns.drop (HT.sIx (ns.map V.int).length 0 lo)).take (HT.sIx (ns.map V.int).length (ns.map V.int).length hi - HT.sIx (ns.map V.int).length 0 lo), ?_, ?_⟩
  · rw [List.map_take, List.map_drop]
  · rw [List.length_take, List.length_drop]
    omega
theorem mid_at {α : Type} {xs pre post : List α} {x : α} (e : xs = pre ++ x :: post) : xs[pre.length]? = some x := by
  rw [e]
  simp
end
end Ly

set_option maxHeartbeats 4000000
namespace Ly
open PySem PySem.Spec PyProof.Rows L2 SX
/-! ### zip(text, list) -/
def ItzS (K : PySem.W.Frag) (x : Str) (b : Addr) : It :=
  ⟨fun i H => ∃ (ys : List V) (y : V), i < x.cps.size ∧ SqL K H b ys ∧ ys[i]? = some y,
    fun i H v H' => ∃ T c y, v = .ref T ∧ H T = none ∧ H' = upd H T (.tup [.str ⟨#[c]⟩, y]) ∧ x.cps[i]? = some c ∧ ∀ ys, SqL K H b ys → ys[i]? = some y,
    fun i H => ∃ ys : List V, SqL K H b ys ∧ (i = x.cps.size ∨ i = ys.length) ∧ i ≤ x.cps.size ∧ i ≤ ys.length⟩
def iZipS (K : PySem.W.Frag) (ta : TA) : TI := fun σ H R => ta σ H fun vs H1 => ∃ (l : List Nat) (b : Addr) (ys : List V), vs = [Tx l, .ref b] ∧ SqL K H1 b ys ∧ R (ItzS K (S l) b) H1
/-! ### flat data -/
section
variable {K : PySem.W.Frag} {H : Hp} {Q : VK} {p a : Addr} {xs : List V}
theorem g_rep {n : Nat} (h : H p = some (.lst xs)) (hl : xs.length * n ≤ 100000) (hn : n ≤ 100000) (q : ∀ p H1, H p = none → Same H H1 → H1 p = some (.lst (List.replicate n xs).flatten) → Q (.ref p) H1) : rRep (.ref p) (.int (n : Int)) H Q := by
  refine ⟨p, n, xs, rfl, rfl, h, by omega, by omega, Nat.le_trans (by rw [Int.toNat_natCast]; exact hl) (by decide), ?_⟩
  rw [Int.toNat_natCast]
  exact g_new q
end

/-! ### downward ranges -/
section
variable {σ : L2.St} {H : Hp} {g : TG} {tb : TS} {D : Ends} {n : Nat}
end
/-! ### a promise that nobody asks -/
end Ly

set_option maxHeartbeats 4000000
namespace Ly
/-! ### stretches, partners -/
/-- the signs from a on and below b -/
def seg (l : List Nat) (a b : Nat) : List Nat := (l.take b).drop a
/-- i an opening bracket, j its partner -/
def ptn (l : List Nat) (i j : Nat) : Prop := i < j ∧ ∃ c, l[i]? = some c ∧ c ∈ OPN ∧ l[j]? = some (oth c) ∧ clean (seg l (i + 1) j)
/-! the pile from any begin -/
theorem fold_none : ∀ l : List Nat, l.foldl stp none = none
  | [] => rfl
  | c :: l => by
    rw [List.foldl_cons]
    exact fold_none l
/-- what lies deeper in the pile stays -/
theorem fold_deep : ∀ (l : List Nat) (st r : List Nat) (t : List Nat), l.foldl stp (some st) = some r → l.foldl stp (some (st ++ t)) = some (r ++ t)
  | [], st, r, t, h => by
    cases h
    rfl
  | c :: l, st, r, t, h => by
    rw [List.foldl_cons] at h ⊢
    by_cases h1 : c ∈ OPN
    · rw [stp_opn h1] at h ⊢
      exact fold_deep l (oth c :: st) r t h
    · by_cases h2 : c ∈ CLO
      · cases st with
        | nil =>
          have e : stp (some []) c = none := by unfold stp; simp only [h1, h2, if_true, if_false]
          rw [e, fold_none] at h
          cases h
        | cons d st =>
          by_cases hd : d = c
          · subst hd
            rw [stp_clo h2] at h
            rw [List.cons_append, stp_clo h2]
            exact fold_deep l st r t h
          · have e : stp (some (d :: st)) c = none := by unfold stp; simp only [h1, h2, hd, if_true, if_false]
            rw [e, fold_none] at h
            cases h
      · rw [stp_let h1 h2] at h ⊢
        exact fold_deep l st r t h
theorem run_clean_app {a b : List Nat} (h : clean a) : run (a ++ b) = run b := by
  rw [run_app, h]
  rfl
theorem fold_run {l : List Nat} {st r : List Nat} (h : run l = some r) : l.foldl stp (some st) = some (r ++ st) := by
  have := fold_deep l [] r st h
  simpa using this
/-- a clean text leaves each pile -/
theorem fold_clean {l : List Nat} (h : clean l) (st : Option (List Nat)) : l.foldl stp st = st := by
  cases st with
  | none => exact fold_none l
  | some st => simpa using fold_run (st := st) h
theorem clean_app {a b : List Nat} (h1 : clean a) (h2 : clean b) : clean (a ++ b) := by
  unfold clean
  rw [run_clean_app h1]
  exact h2
theorem clean_pair {c : Nat} {a : List Nat} (hc : c ∈ OPN) (h : clean a) : clean (c :: (a ++ [oth c])) := by
  show (c :: (a ++ [oth c])).foldl stp (some []) = some []
  rw [List.foldl_cons, stp_opn hc, List.foldl_append, fold_clean h]
  exact stp_clo (oth_clo c hc)
/-! ### the program's way -/
/-- what holds of both lists when the signs below n are gone over -/
structure PInv (l : List Nat) (n : Nat) (f : List (Option Nat)) (ws : List Nat) : Prop where
  len : f.length = l.length
  fnd : ∀ i j, f[i]? = some (some j) ↔ (ptn l i j ∧ j < n) ∨ (ptn l j i ∧ i < n)
  opn : ∀ j ∈ ws, j < n ∧ ∃ c, l[j]? = some c ∧ c ∈ OPN
  pile : ∀ k j, ws[k]? = some j → run (seg l (j + 1) n) = some ((ws.take k).map fun j => oth (l.getD j 0))
  all : ∀ i c, i < n → l[i]? = some c → c ∈ OPN → (run (seg l (i + 1) n)).isSome = true → i ∈ ws
  good : ∀ st, run (l.take n) = some st → ws.map (fun j => oth (l.getD j 0)) = st ∧ ∀ i c, i < n → l[i]? = some c → c ∈ BRK → f[i]? = some none → i ∈ ws
  bad : run (l.take n) = none → ∃ i c, i < n ∧ l[i]? = some c ∧ c ∈ CLO ∧ ∀ j, ¬ ptn l j i
/-- one closing bracket closes at most the last that waits -/
theorem PInv.top {l : List Nat} {n c : Nat} {f : List (Option Nat)} {ws : List Nat} (I : PInv l n f ws) (hc : l[n]? = some c) (h2 : c ∈ CLO) {i : Nat} (h : ptn l i n) : ∃ w, ws = i :: w ∧ l[i]? = some (oth c) := by
  obtain ⟨hlt, d, hd, hdo, hnd, hcl⟩ := h
  rw [hnd] at hc
  have ed : oth d = c := Option.some.inj hc
  have hi : i ∈ ws := I.all i d hlt hd hdo (by rw [hcl]; rfl)
  obtain ⟨k, hk⟩ := List.mem_iff_getElem?.mp hi
  have hp := I.pile k i hk
  rw [hcl] at hp
  have hk0 : ws.take k = [] := by
    have := Option.some.inj hp
    exact List.map_eq_nil_iff.mp this.symm
  have hk00 : k = 0 := by
    rcases Nat.eq_zero_or_pos k with h | h
    · exact h
    · exfalso
      have hlen : k < ws.length := (List.getElem?_eq_some_iff.mp hk).1
      have := congrArg List.length hk0
      rw [List.length_take, List.length_nil] at this
      omega
  subst hk00
  cases ws with
  | nil => cases hk
  | cons a w =>
    have : a = i := Option.some.inj hk
    subst this
    refine ⟨w, rfl, ?_⟩
    rw [hd, ← ed, oth_oth d (brk_or.mpr (.inl hdo))]
end Ly

set_option maxHeartbeats 4000000
namespace Ly
theorem clean_let {c : Nat} {r : List Nat} (h1 : c ∉ OPN) (h2 : c ∉ CLO) : clean (c :: r) ↔ clean r := by
  show (c :: r).foldl stp (some []) = some [] ↔ _
  rw [List.foldl_cons, stp_let h1 h2]
  rfl
/-! ### by places -/
end Ly

set_option maxHeartbeats 4000000
namespace Ly
/-! ### partners found from behind -/
def over (l : List Nat) (m : List (Option Nat)) (s : Nat) : Bool := match l[s]? with
  | none => false
  | some c => if c ∈ CLO then false else if c ∈ OPN then (match m[s]? with | some (some _) => true | _ => false) else true
end Ly

set_option maxHeartbeats 4000000
namespace Ly
/-! ### clean texts put together -/
end Ly

set_option maxHeartbeats 4000000
namespace Ly
open PySem PySem.Spec PyProof.Rows L2 SX
/-! ### text[i:j] -/
theorem slice_both {a : List Nat} {i j : Nat} (h1 : i ≤ j) (h2 : j ≤ a.length) : Txt.slice (S a) (some (i : Int)) (some (j : Int)) = S ((a.take j).drop i) := by
  have hl : ((S a).length : Int) = (a.length : Int) := by rw [S_len]
  have e := beq_iff_eq.mp (PyProof.Rows.slice_closesL (x := S a) (i := (i : Int)) (j := (j : Int)) (by omega) (by omega) (by omega))
  refine e.trans (TL.ext_tl ?_)
  show (a.drop (i : Int).toNat).take ((j : Int) - i).toNat = (a.take j).drop i
  rw [Int.toNat_natCast, show ((j : Int) - i).toNat = j - i by omega, List.drop_take]
section
variable {K : PySem.W.Frag} {H : Hp} {Q : VK} {p a : Addr} {xs : List V}
end
end Ly

set_option maxHeartbeats 4000000
namespace Ly
/-! ### kinds renamed -/
/-! ### turned about -/
/-- the sign turned -/
def tn (c : Nat) : Nat := if c ∈ BRK then oth c else c
end Ly

set_option maxHeartbeats 4000000
namespace Ly
/-! ### clean stretches counted -/
/-- how many begins of l that are not empty are clean -/
def cp (l : List Nat) : Nat := (List.range l.length).countP fun k => decide (clean (l.take (k + 1)))
def many : List Nat → Nat
  | [] => 0
  | c :: r => cp (c :: r) + many r
/-! sums -/
/-! ### by places -/
def cps (l : List Nat) : List Nat := (List.range (l.length + 1)).map fun i => cp (l.drop i)
/-! ### texts of one kind -/
/-! ### units -/
end Ly

set_option maxHeartbeats 4000000
namespace Ly
open PySem PySem.Spec PyProof.Rows L2 SX
/-! ### texts with their tokens: for y in [texts]: x = x.replace(y, z) -/
section
variable {X : Cx} {pins : List (Addr × Obj)} {σ : L2.St} {H : Hp} {s : Shared}
end
section
variable {X : Cx} {ik ip : Nat} {kx px z : Str} {y1 y2 y3 y4 : Str}
end
end Ly

set_option maxHeartbeats 4000000
namespace Ly
open PySem PySem.Spec PyProof.Rows L2 SX PySem.StrLaws
/-! ### pairs struck out -/
/-! the program's texts -/
end Ly

set_option maxHeartbeats 4000000
namespace Ly
open PySem PySem.Spec PyProof.Rows L2 SX
section
variable {X : Cx} {ik ip : Nat} {kx px z : Str} {y1 y2 y3 y4 : Str}
end
end Ly

set_option maxHeartbeats 4000000
namespace Ly
/-! ### from piece to piece -/
/-! ### sums -/
end Ly

set_option maxHeartbeats 4000000
namespace Ly
open PySem PySem.Spec PyProof.Rows L2 SX
/-! ### nests in the heap: each inner list is one of its own -/
inductive Nd where
  | let_ (c : Nat)
  | num (i : Int)
  | br (o : Nat) (ds : List Nd)
mutual
inductive TrI (H : Hp) : V → Nd → List Addr → Prop
  | let_ (c : Nat) : TrI H (Tx [c]) (.let_ c) []
  | num (i : Int) : TrI H (.int i) (.num i) []
  | br {t b : Addr} {o : Nat} {xs : List V} {ds : List Nd} {A : List Addr} : H t = some (.tup [Tx [o], .ref b]) → H b = some (.lst xs) → TrIs H xs ds A → TrI H (.ref t) (.br o ds) (b :: A)
inductive TrIs (H : Hp) : List V → List Nd → List Addr → Prop
  | nil : TrIs H [] [] []
  | cons {v : V} {vs : List V} {d : Nd} {ds : List Nd} {A B : List Addr} : TrI H v d A → TrIs H vs ds B → TrIs H (v :: vs) (d :: ds) (A ++ B)
end
/-- all but the lists in C stay -/
def ButS (C : List Addr) (H H' : Hp) : Prop := (∀ x ∈ C, ∃ ys, H x = some (.lst ys)) ∧ ∀ x o, H x = some o → x ∉ C → H' x = some o
theorem ButS.refl (H : Hp) : ButS [] H H := ⟨by simp, fun _ _ h _ => h⟩
theorem ButS.of_same {H H' : Hp} (s : Same H H') : ButS [] H H' := ⟨by simp, fun x o h _ => s x o h⟩
mutual
theorem TrI.frame {H H' : Hp} {C : List Addr} (s : ButS C H H') : ∀ {v : V} {d : Nd} {A : List Addr}, TrI H v d A → (∀ x ∈ A, x ∉ C) → TrI H' v d A
  | _, _, _, .let_ c, _ => .let_ c
  | _, _, _, .num i, _ => .num i
  | _, _, _, @TrI.br _ t b o xs ds A ht hb hs, h => .br (s.2 _ _ ht fun hc => by obtain ⟨ys, e⟩ := s.1 _ hc; rw [ht] at e; cases e) (s.2 _ _ hb (h b (List.mem_cons_self ..))) (TrIs.frame s hs fun x hx => h x (List.mem_cons_of_mem _ hx))
theorem TrIs.frame {H H' : Hp} {C : List Addr} (s : ButS C H H') : ∀ {vs : List V} {ds : List Nd} {A : List Addr}, TrIs H vs ds A → (∀ x ∈ A, x ∉ C) → TrIs H' vs ds A
  | _, _, _, .nil, _ => .nil
  | _, _, _, .cons hi hs, h => .cons (TrI.frame s hi fun x hx => h x (List.mem_append_left _ hx)) (TrIs.frame s hs fun x hx => h x (List.mem_append_right _ hx))
end
theorem TrIs.len {H : Hp} : ∀ {vs : List V} {ds : List Nd} {A : List Addr}, TrIs H vs ds A → vs.length = ds.length
  | _, _, _, .nil => rfl
  | _, _, _, .cons _ hs => by simp [TrIs.len hs]
theorem TrIs.app {H : Hp} : ∀ {vs ws : List V} {ds es : List Nd} {A B : List Addr}, TrIs H vs ds A → TrIs H ws es B → TrIs H (vs ++ ws) (ds ++ es) (A ++ B)
  | _, _, _, _, _, _, .nil, h => h
  | _, _, _, _, _, _, .cons hi hs, h => by
    rw [List.append_assoc]
    exact .cons hi (TrIs.app hs h)
theorem TrIs.snoc {H : Hp} {vs : List V} {v : V} {ds : List Nd} {d : Nd} {A B : List Addr} (h : TrIs H vs ds A) (h1 : TrI H v d B) : TrIs H (vs ++ [v]) (ds ++ [d]) (A ++ B) := by
  have := TrIs.app h (.cons h1 .nil)
  simpa using this
theorem TrIs.split {H : Hp} : ∀ {vs ws : List V} {ds : List Nd} {A : List Addr}, TrIs H (vs ++ ws) ds A → ∃ ds1 ds2 A1 A2, ds = ds1 ++ ds2 ∧ A = A1 ++ A2 ∧ TrIs H vs ds1 A1 ∧ TrIs H ws ds2 A2
  | [], ws, ds, A, h => ⟨[], ds, [], A, rfl, rfl, .nil, h⟩
  | v :: vs, ws, _, _, .cons hi hs => by
    obtain ⟨ds1, ds2, A1, A2, rfl, rfl, h1, h2⟩ := TrIs.split hs
    exact ⟨_ :: ds1, ds2, _ ++ A1, A2, rfl, by rw [List.append_assoc], .cons hi h1, h2⟩
/-! depth, size -/
mutual
def Nd.deep : Nd → Nat
  | .br _ ds => Nd.deeps ds + 1
  | _ => 0
def Nd.deeps : List Nd → Nat
  | [] => 0
  | d :: ds => max (Nd.deep d) (Nd.deeps ds)
end
/-! ### numbered -/
end Ly
namespace Ly
open PySem PySem.Spec PyProof.Rows L2 SX
theorem ButS.trans {C D : List Addr} {H H1 H2 : Hp} (x : ButS C H H1) (y : ButS D H1 H2) (hD : ∀ a ∈ D, ∃ ys, H a = some (.lst ys)) : ButS (C ++ D) H H2 := by
  refine ⟨fun a ha => ?_, fun a o h hn => ?_⟩
  · rcases List.mem_append.mp ha with ha | ha
    · exact x.1 a ha
    · exact hD a ha
  · rw [List.mem_append, not_or] at hn
    exact y.2 a o (x.2 a o h hn.1) hn.2
theorem ButS.but {b : Addr} {xs : List V} {H H1 : Hp} (h : H b = some (.lst xs)) (y : But b H H1) : ButS [b] H H1 := by
  refine ⟨fun a ha => ?_, fun a o h hn => y a o (fun e => hn (by rw [e]; simp)) h⟩
  rw [List.mem_singleton] at ha
  rw [ha]
  exact ⟨_, h⟩
theorem TrI.same {H H' : Hp} (s : Same H H') {v : V} {d : Nd} {A : List Addr} (h : TrI H v d A) : TrI H' v d A := TrI.frame (ButS.of_same s) h (by simp)
theorem TrIs.same {H H' : Hp} (s : Same H H') {v : List V} {d : List Nd} {A : List Addr} (h : TrIs H v d A) : TrIs H' v d A := TrIs.frame (ButS.of_same s) h (by simp)
end Ly

set_option maxHeartbeats 4000000
namespace Ly
open PySem PySem.Spec PyProof.Rows L2 SX
/-! ### a nest being made: the list b hangs in open frames -/
inductive Ctx (H : Hp) : Addr → List Addr → List (List Nd × Nat) → List Addr → Prop
  | nil (b : Addr) : Ctx H b [] [] []
  | cons {b b0 t : Addr} {bs : List Addr} {fs : List (List Nd × Nat)} {A A0 : List Addr} {xs0 : List V} {ds0 : List Nd} {o : Nat} : H b0 = some (.lst (xs0 ++ [.ref t])) → TrIs H xs0 ds0 A0 → H t = some (.tup [Tx [o], .ref b]) → Ctx H b0 bs fs A → Ctx H b (b0 :: bs) ((ds0, o) :: fs) (b0 :: (A0 ++ A))
theorem Ctx.frame {H H' : Hp} {C : List Addr} (s : ButS C H H') : ∀ {b : Addr} {bs : List Addr} {fs : List (List Nd × Nat)} {A : List Addr}, Ctx H b bs fs A → (∀ x ∈ A, x ∉ C) → Ctx H' b bs fs A
  | _, _, _, _, .nil b, _ => .nil b
  | _, _, _, _, .cons h1 h2 h3 h4, h => .cons (s.2 _ _ h1 (h _ (List.mem_cons_self ..))) (TrIs.frame s h2 fun x hx => h x (List.mem_cons_of_mem _ (List.mem_append_left _ hx))) (s.2 _ _ h3 fun hc => by obtain ⟨ys, e⟩ := s.1 _ hc; rw [h3] at e; cases e) (Ctx.frame s h4 fun x hx => h x (List.mem_cons_of_mem _ (List.mem_append_right _ hx)))
theorem Ctx.len {H : Hp} : ∀ {b : Addr} {bs : List Addr} {fs : List (List Nd × Nat)} {A : List Addr}, Ctx H b bs fs A → bs.length = fs.length
  | _, _, _, _, .nil b => rfl
  | _, _, _, _, .cons _ _ _ h4 => by simp [Ctx.len h4]
/-- the whole state: the open list, its frames, all lists unlike and new since H0 -/
structure Bld (N : Addr → Prop) (H : Hp) (b : Addr) (bs : List Addr) (fs : List (List Nd × Nat)) (cur : List Nd) : Prop where
  ex : ∃ xs A1 A, H b = some (.lst xs) ∧ TrIs H xs cur A1 ∧ Ctx H b bs fs A ∧ (b :: (A1 ++ A)).Nodup ∧ ∀ x ∈ b :: (A1 ++ A), N x
theorem Bld.start {N : Addr → Prop} {H : Hp} {b : Addr} (h : H b = some (.lst [])) (n : N b) : Bld N H b [] [] [] := ⟨[], [], [], h, .nil, .nil b, by simp, by simpa using n⟩
/-- nothing of it is touched -/
theorem Bld.same {N : Addr → Prop} {H H' : Hp} {b : Addr} {bs : List Addr} {fs : List (List Nd × Nat)} {cur : List Nd} (B : Bld N H b bs fs cur) (s : Same H H') : Bld N H' b bs fs cur := by
  obtain ⟨xs, A1, A, h1, h2, h3, h4, h5⟩ := B.ex
  exact ⟨xs, A1, A, s _ _ h1, TrIs.same s h2, Ctx.frame (ButS.of_same s) h3 (by simp), h4, h5⟩
theorem Bld.but {N : Addr → Prop} {H H' : Hp} {b p : Addr} {bs : List Addr} {fs : List (List Nd × Nat)} {cur : List Nd} {ys : List V} (B : Bld N H b bs fs cur) (s : But p H H') (hp : H p = some (.lst ys)) (hn : ¬ N p) : Bld N H' b bs fs cur := by
  obtain ⟨xs, A1, A, h1, h2, h3, h4, h5⟩ := B.ex
  have bs := ButS.but hp s
  have hno : ∀ x ∈ b :: (A1 ++ A), x ∉ [p] := fun x hx hc => by
    rw [List.mem_singleton] at hc
    rw [hc] at hx
    exact hn (h5 p hx)
  exact ⟨xs, A1, A, bs.2 _ _ h1 (hno b (List.mem_cons_self ..)), TrIs.frame bs h2 fun x hx => hno x (List.mem_cons_of_mem _ (List.mem_append_left _ hx)), Ctx.frame bs h3 fun x hx => hno x (List.mem_cons_of_mem _ (List.mem_append_right _ hx)), h4, h5⟩
theorem Bld.cur {N : Addr → Prop} {H : Hp} {b : Addr} {bs : List Addr} {fs : List (List Nd × Nat)} {cur : List Nd} (B : Bld N H b bs fs cur) : ∃ xs, H b = some (.lst xs) ∧ xs.length = cur.length ∧ N b ∧ bs.length = fs.length := by
  obtain ⟨xs, A1, A, h1, h2, h3, h4, h5⟩ := B.ex
  exact ⟨xs, h1, TrIs.len h2, h5 b (List.mem_cons_self ..), Ctx.len h3⟩
/-- a letter behind -/
theorem Bld.letter {N : Addr → Prop} {H H' : Hp} {b : Addr} {bs : List Addr} {fs : List (List Nd × Nat)} {cur : List Nd} {xs : List V} {c : Nat} (B : Bld N H b bs fs cur) (hb : H b = some (.lst xs)) (s : But b H H') (e : H' b = some (.lst (xs ++ [Tx [c]]))) : Bld N H' b bs fs (cur ++ [.let_ c]) := by
  obtain ⟨xs', A1, A, h1, h2, h3, h4, h5⟩ := B.ex
  rw [hb] at h1
  cases h1
  have bs := ButS.but hb s
  have hn := List.nodup_cons.mp h4
  have hno : ∀ x ∈ A1 ++ A, x ∉ [b] := fun x hx hc => by
    rw [List.mem_singleton] at hc
    rw [hc] at hx
    exact hn.1 hx
  have h2' := TrIs.snoc (TrIs.frame bs h2 fun x hx => hno x (List.mem_append_left _ hx)) (TrI.let_ (H := H') c)
  rw [List.append_nil] at h2'
  exact ⟨_, A1, A, e, h2', Ctx.frame bs h3 fun x hx => hno x (List.mem_append_right _ hx), h4, h5⟩
/-- a bracket closed -/
theorem Bld.close {N : Addr → Prop} {H : Hp} {b : Addr} {bs : List Addr} {fs : List (List Nd × Nat)} {cur ds0 : List Nd} {o : Nat} (B : Bld N H b bs ((ds0, o) :: fs) cur) : ∃ b0 bs0, bs = b0 :: bs0 ∧ Bld N H b0 bs0 fs (ds0 ++ [.br o cur]) := by
  obtain ⟨xs, A1, A, h1, h2, h3, h4, h5⟩ := B.ex
  cases h3 with
  | @cons _ b0 t bs0 _ A' A0 xs0 _ _ k1 k2 k3 k4 =>
    refine ⟨b0, bs0, rfl, ⟨xs0 ++ [.ref t], A0 ++ (b :: A1), A', k1, TrIs.snoc k2 (.br k3 h1 h2), k4, ?_, ?_⟩⟩
    · refine List.Perm.nodup (List.perm_iff_count.mpr fun a => ?_) h4
      simp only [List.count_cons, List.count_append]
      omega
    · intro x hx
      refine h5 x ?_
      simp only [List.mem_cons, List.mem_append] at hx ⊢
      rcases hx with rfl | ((hx | rfl | hx) | hx)
      · exact .inr (.inr (.inl rfl))
      · exact .inr (.inr (.inr (.inl hx)))
      · exact .inl rfl
      · exact .inr (.inl hx)
      · exact .inr (.inr (.inr (.inr hx)))
/-! ### what the text tells -/
def nstep (s : List (List Nd × Nat) × List Nd) (c : Nat) : List (List Nd × Nat) × List Nd :=
  if c ∈ CLO then (match s.1 with | (ds, o) :: fs => (fs, ds ++ [.br o s.2]) | [] => s) else if c ∈ OPN then ((s.2, c) :: s.1, []) else (s.1, s.2 ++ [.let_ c])
def nst (l : List Nat) : List (List Nd × Nat) × List Nd := l.foldl nstep ([], [])
theorem nst_snoc (l : List Nat) (c : Nat) : nst (l ++ [c]) = nstep (nst l) c := by
  unfold nst
  rw [List.foldl_append]
  rfl
/-- the frames are the pile -/
theorem fold_nst : ∀ (l st : List Nat) (fs : List (List Nd × Nat)) (cur : List Nd) (r : List Nat), st = fs.map (fun p => oth p.2) → l.foldl stp (some st) = some r → r = (l.foldl nstep (fs, cur)).1.map fun p => oth p.2
  | [], st, fs, cur, r, h, e => by
    cases e
    exact h
  | c :: l, st, fs, cur, r, h, e => by
    rw [List.foldl_cons] at e ⊢
    by_cases h1 : c ∈ OPN
    · have h2 : c ∉ CLO := opn_clo c h1
      rw [stp_opn h1] at e
      have en : nstep (fs, cur) c = ((cur, c) :: fs, []) := by unfold nstep; rw [if_neg h2, if_pos h1]
      rw [en]
      exact fold_nst l _ _ _ r (by rw [h]; rfl) e
    · by_cases h2 : c ∈ CLO
      · cases fs with
        | nil =>
          subst h
          have e0 : stp (some (List.map (fun p : List Nd × Nat => oth p.2) [])) c = none := by
            show stp (some []) c = none
            unfold stp
            simp only [h1, h2, if_true, if_false]
          rw [e0, fold_none] at e
          cases e
        | cons f fs =>
          obtain ⟨ds, o⟩ := f
          subst h
          by_cases hd : oth o = c
          · have e0 : stp (some (List.map (fun p : List Nd × Nat => oth p.2) ((ds, o) :: fs))) c = some (fs.map fun p => oth p.2) := by
              show stp (some (oth o :: fs.map fun p => oth p.2)) c = _
              rw [hd, stp_clo h2]
            rw [e0] at e
            have en : nstep ((ds, o) :: fs, cur) c = (fs, ds ++ [.br o cur]) := by unfold nstep; rw [if_pos h2]
            rw [en]
            exact fold_nst l _ _ _ r rfl e
          · have e0 : stp (some (List.map (fun p : List Nd × Nat => oth p.2) ((ds, o) :: fs))) c = none := by
              show stp (some (oth o :: fs.map fun p => oth p.2)) c = none
              unfold stp
              simp only [h1, h2, hd, if_true, if_false]
            rw [e0, fold_none] at e
            cases e
      · rw [stp_let h1 h2] at e
        have en : nstep (fs, cur) c = (fs, cur ++ [.let_ c]) := by unfold nstep; rw [if_neg h2, if_neg h1]
        rw [en]
        exact fold_nst l _ _ _ r h e
theorem nst_run {l st : List Nat} (h : run l = some st) : st = (nst l).1.map fun p => oth p.2 := fold_nst l [] [] [] st rfl h
/-- a closing bracket in a clean text closes one -/
theorem nst_clo {l pre post : List Nat} {c : Nat} (h : clean l) (e : l = pre ++ c :: post) (hc : c ∈ CLO) : ∃ ds o fs, (nst pre).1 = (ds, o) :: fs ∧ oth o = c := by
  have h1 : c ∉ OPN := fun h1 => opn_clo c h1 hc
  have h' : run (pre ++ c :: post) = some [] := by rw [← e]; exact h
  rw [run_app, List.foldl_cons] at h'
  cases hr : run pre with
  | none =>
    rw [hr] at h'
    have : stp none c = none := rfl
    rw [this, fold_none] at h'
    cases h'
  | some st =>
    have hst := nst_run hr
    rw [hr] at h'
    cases hf : (nst pre).1 with
    | nil =>
      rw [hf] at hst
      subst hst
      have e0 : stp (some (List.map (fun p : List Nd × Nat => oth p.2) [])) c = none := by
        show stp (some []) c = none
        unfold stp
        simp only [h1, hc, if_true, if_false]
      rw [e0, fold_none] at h'
      cases h'
    | cons f fs =>
      obtain ⟨ds, o⟩ := f
      rw [hf] at hst
      refine ⟨ds, o, fs, rfl, ?_⟩
      by_cases hd : oth o = c
      · exact hd
      · exfalso
        subst hst
        have e0 : stp (some (List.map (fun p : List Nd × Nat => oth p.2) ((ds, o) :: fs))) c = none := by
          show stp (some (oth o :: fs.map fun p => oth p.2)) c = none
          unfold stp
          simp only [h1, hc, hd, if_true, if_false]
        rw [e0, fold_none] at h'
        cases h'
end Ly
namespace Ly
/-- depths -/
def ndp (s : List (List Nd × Nat) × List Nd) (n : Nat) : Prop := Nd.deeps s.2 + s.1.length ≤ n ∧ ∀ j (f : List Nd × Nat), s.1[j]? = some f → Nd.deeps f.1 + (s.1.length - 1 - j) ≤ n
end Ly
namespace Ly
end Ly

set_option maxHeartbeats 4000000
namespace Ly
open PySem PySem.Spec PyProof.Rows L2 SX
/-! ### == and != of deep data -/
section
variable {X : Cx}
end
/-! nests as data -/
mutual
def ndD : Nd → PyData
  | .let_ c => .str (S [c])
  | .num i => .int i
  | .br o ds => .tuple [.str (S [o]), .list (ndDs ds)]
def ndDs : List Nd → List PyData
  | [] => []
  | d :: ds => ndD d :: ndDs ds
end
mutual
theorem TrI.dp {K : PySem.W.Frag} {H : Hp} : ∀ {v : V} {d : Nd} {A : List Addr}, TrI H v d A → Dp K H v (ndD d)
  | _, _, _, .let_ c => by rw [ndD]; exact .str _
  | _, _, _, .num i => by rw [ndD]; exact .int i
  | _, _, _, .br ht hb hs => by
    rw [ndD]
    exact .tup (st_of ht) (.cons (.str _) (.cons (.lst (sq_of hb) (TrIs.dp hs)) .nil))
theorem TrIs.dp {K : PySem.W.Frag} {H : Hp} : ∀ {vs : List V} {ds : List Nd} {A : List Addr}, TrIs H vs ds A → DpAll K H vs (ndDs ds)
  | _, _, _, .nil => by rw [ndDs]; exact .nil
  | _, _, _, .cons hi hs => by rw [ndDs]; exact .cons (TrI.dp hi) (TrIs.dp hs)
end
end Ly
namespace Ly
open PySem PySem.Spec PyProof.Rows L2 SX
end Ly
namespace Ly
open PySem PySem.Spec PyProof.Rows L2 SX
end Ly
namespace Ly
end Ly

set_option maxHeartbeats 4000000
namespace Ly
open PySem PySem.Spec PyProof.Rows L2 SX
/-! ### more steps -/
theorem kb_str_str : kitB "str" "str" = some true := by decide +kernel
theorem kb_str_int : kitB "str" "int" = some false := by decide +kernel
theorem kb_str_bool : kitB "str" "bool" = some false := by decide +kernel
theorem kb_str_list : kitB "str" "list" = some false := by decide +kernel
theorem kb_str_tuple : kitB "str" "tuple" = some false := by decide +kernel
theorem kb_int_str : kitB "int" "str" = some false := by decide +kernel
theorem kb_int_int : kitB "int" "int" = some true := by decide +kernel
theorem kb_int_bool : kitB "int" "bool" = some false := by decide +kernel
theorem kb_int_list : kitB "int" "list" = some false := by decide +kernel
theorem kb_int_tuple : kitB "int" "tuple" = some false := by decide +kernel
theorem kb_bool_str : kitB "bool" "str" = some false := by decide +kernel
theorem kb_bool_int : kitB "bool" "int" = some true := by decide +kernel
theorem kb_bool_bool : kitB "bool" "bool" = some true := by decide +kernel
theorem kb_bool_list : kitB "bool" "list" = some false := by decide +kernel
theorem kb_bool_tuple : kitB "bool" "tuple" = some false := by decide +kernel
theorem kb_list_str : kitB "list" "str" = some false := by decide +kernel
theorem kb_list_int : kitB "list" "int" = some false := by decide +kernel
theorem kb_list_bool : kitB "list" "bool" = some false := by decide +kernel
theorem kb_list_list : kitB "list" "list" = some true := by decide +kernel
theorem kb_list_tuple : kitB "list" "tuple" = some false := by decide +kernel
theorem kb_tuple_str : kitB "tuple" "str" = some false := by decide +kernel
theorem kb_tuple_int : kitB "tuple" "int" = some false := by decide +kernel
theorem kb_tuple_bool : kitB "tuple" "bool" = some false := by decide +kernel
theorem kb_tuple_list : kitB "tuple" "list" = some false := by decide +kernel
theorem kb_tuple_tuple : kitB "tuple" "tuple" = some true := by decide +kernel
theorem kb_NoneType_str : kitB "NoneType" "str" = some false := by decide +kernel
theorem kb_NoneType_int : kitB "NoneType" "int" = some false := by decide +kernel
theorem kb_NoneType_bool : kitB "NoneType" "bool" = some false := by decide +kernel
theorem kb_NoneType_list : kitB "NoneType" "list" = some false := by decide +kernel
theorem kb_NoneType_tuple : kitB "NoneType" "tuple" = some false := by decide +kernel
theorem kb_dict_str : kitB "dict" "str" = some false := by decide +kernel
theorem kb_dict_int : kitB "dict" "int" = some false := by decide +kernel
theorem kb_dict_bool : kitB "dict" "bool" = some false := by decide +kernel
theorem kb_dict_list : kitB "dict" "list" = some false := by decide +kernel
theorem kb_dict_tuple : kitB "dict" "tuple" = some false := by decide +kernel
section
variable {K : PySem.W.Frag} {σ : L2.St} {H : Hp} {Q : VK} {A B : Prop} {p a : Addr} {xs : List V} {v : V} {i : Int}
theorem g_T (q : A) : ∃ k, V.bl true = V.bl k ∧ if k = true then A else B := ⟨true, rfl, by rw [if_pos rfl]; exact q⟩
theorem g_F (q : B) : ∃ k, V.bl false = V.bl k ∧ if k = true then A else B := ⟨false, rfl, by rw [if_neg Bool.false_ne_true]; exact q⟩
theorem g_NT (q : B) : ∃ k, V.bl true = V.bl k ∧ if (!k) = true then A else B := ⟨true, rfl, q⟩
theorem g_NF (q : A) : ∃ k, V.bl false = V.bl k ∧ if (!k) = true then A else B := ⟨false, rfl, q⟩
theorem g_nT (q : A) : ∃ k, V.bl (!true) = V.bl k ∧ if k = true then B else A := ⟨false, rfl, q⟩
theorem g_nF (q : B) : ∃ k, V.bl (!false) = V.bl k ∧ if k = true then B else A := ⟨true, rfl, q⟩
theorem g_Td {c : Prop} [Decidable c] (h : c) (q : A) : ∃ k, V.bl (decide c) = V.bl k ∧ if k = true then A else B := by rw [decide_eq_true h]; exact g_T q
theorem g_Fd {c : Prop} [Decidable c] (h : ¬ c) (q : B) : ∃ k, V.bl (decide c) = V.bl k ∧ if k = true then A else B := by rw [decide_eq_false h]; exact g_F q
theorem g_NTd {c : Prop} [Decidable c] (h : c) (q : B) : ∃ k, V.bl (decide c) = V.bl k ∧ if (!k) = true then A else B := by rw [decide_eq_true h]; exact g_NT q
theorem g_NFd {c : Prop} [Decidable c] (h : ¬ c) (q : A) : ∃ k, V.bl (decide c) = V.bl k ∧ if (!k) = true then A else B := by rw [decide_eq_false h]; exact g_NF q
theorem g_nTd {c : Prop} [Decidable c] (h : c) (q : B) : ∃ k, V.bl (!decide c) = V.bl k ∧ if k = true then A else B := by rw [decide_eq_true h]; exact g_F q
theorem g_nFd {c : Prop} [Decidable c] (h : ¬ c) (q : A) : ∃ k, V.bl (!decide c) = V.bl k ∧ if k = true then A else B := by rw [decide_eq_false h]; exact g_T q
/-- a test that is told as a truth R of its answer -/
theorem g_RT {R : Bool → Hp → Prop} (q : R true H) : ∃ k, V.bl true = V.bl k ∧ R k H := ⟨_, rfl, q⟩
theorem g_RF {R : Bool → Hp → Prop} (q : R false H) : ∃ k, V.bl false = V.bl k ∧ R k H := ⟨_, rfl, q⟩
theorem g_RTd {c : Prop} [Decidable c] {R : Bool → Hp → Prop} (h : c) (q : R true H) : ∃ k, V.bl (decide c) = V.bl k ∧ R k H := ⟨_, rfl, by rw [decide_eq_true h]; exact q⟩
theorem g_RFd {c : Prop} [Decidable c] {R : Bool → Hp → Prop} (h : ¬ c) (q : R false H) : ∃ k, V.bl (decide c) = V.bl k ∧ R k H := ⟨_, rfl, by rw [decide_eq_false h]; exact q⟩
theorem g_eqS {x : V} (h : scal x x = true) (q : Q (.bl true) H) : rEq x x H Q := ⟨h, by rw [decide_eq_true rfl]; exact q⟩
theorem g_neS {x : V} (h : scal x x = true) (q : Q (.bl false) H) : rNe x x H Q := ⟨h, by rw [decide_eq_true rfl]; exact q⟩
theorem g_ixAU3 (h : H p = some (.tup xs)) (h1 : atI xs i = some v) (q : Q v H) : rIx K (.ref p) (.int i) H Q := .inr (.inl (g_ixU (st_of h) h1 q))
theorem g_ixAL3 (h : H p = some (.lst xs)) (h1 : atI xs i = some v) (q : Q v H) : rIx K (.ref p) (.int i) H Q := .inl (g_ixL (sq_of h) h1 q)
theorem g_ixU3 (h : H p = some (.tup xs)) (h1 : atI xs i = some v) (q : Q v H) : rIxT K (.ref p) (.int i) H Q := g_ixU (st_of h) h1 q
theorem g_lenL3 (h : H p = some (.lst xs)) (q : Q (.int xs.length) H) : rLenL K [.ref p] H Q := g_lenL (sq_of h) q
theorem g_lenU3 (h : H p = some (.tup xs)) (q : Q (.int xs.length) H) : rLenL K [.ref p] H Q := g_lenU (st_of h) q
theorem ty_non : TyX K H .non (.type "NoneType") := .base .non
theorem g_tyL3 (h : H p = some (.lst xs)) (q : A) : tyV K "list" (.ref p) H ∧ A := ⟨g_tyL (sq_of h), q⟩
end
end Ly

set_option maxHeartbeats 4000000
namespace Ly
open PySem PySem.Spec PyProof.Rows L2 SX
/-! ### outlines -/
theorem Bld.closes {N : Addr → Prop} {H : Hp} {l : List Nat} (hc : clean l) : ∀ (cl pre post : List Nat) (b : Addr) (bs : List Addr), l = pre ++ (cl ++ post) → (∀ d ∈ cl, d ∈ CLO) → Bld N H b bs (nst pre).1 (nst pre).2 →
    ∃ b' bs', (b :: bs).drop cl.length = b' :: bs' ∧ Bld N H b' bs' (nst (pre ++ cl)).1 (nst (pre ++ cl)).2
  | [], pre, post, b, bs, e, h, B => ⟨b, bs, rfl, by rw [List.append_nil]; exact B⟩
  | c :: cl, pre, post, b, bs, e, h, B => by
    have hk := h c (List.mem_cons_self ..)
    obtain ⟨ds, o, fs, hf, _⟩ := nst_clo (post := cl ++ post) hc e hk
    rw [hf] at B
    obtain ⟨b0, bs0, rfl, B0⟩ := B.close
    have en : nst (pre ++ [c]) = (fs, ds ++ [.br o (nst pre).2]) := by
      rw [nst_snoc]
      unfold nstep
      rw [if_pos hk, hf]
    obtain ⟨b', bs', h1, h2⟩ := Bld.closes hc cl (pre ++ [c]) post b0 bs0 (by rw [e]; simp) (fun d hd => h d (List.mem_cons_of_mem _ hd)) (by rw [en]; exact B0)
    refine ⟨b', bs', by simpa using h1, ?_⟩
    rw [show pre ++ c :: cl = pre ++ [c] ++ cl by simp]
    exact h2
/-! ### text.split(sign) -/
section
variable {X : Cx}
def rSplitT : V → List V → Hp → VK → Prop := fun x xs H Q => ∃ (a b : List Nat), x = Tx a ∧ xs = [Tx b] ∧ b ≠ [] ∧ b.all (· < 256) = true ∧ a.length ≤ 100000 ∧ ∀ p H1, H p = none → Same H H1 → H1 p = some (.lst ((TL.spl b 0 [] a).map Tx)) → Q (.ref p) H1
theorem mt_splitT : MtR X "str.split" rSplitT := fun pins s σ H x xs v us Q I rx rs h => by
  obtain ⟨a, b, h1, h2, h3, h4, h5, q⟩ := h
  refine mt_split pins s σ H x xs v us Q I rx rs ⟨S a, S b, h1, h2, ?_, ?_, fun p np => ?_⟩
  · rw [S_len]
    cases b with
    | nil => exact absurd rfl h3
    | cons c b => rfl
  · rw [S_len]
    exact Nat.le_trans (Nat.add_le_add_right h5 2) (by decide)
  · rw [split_S h3 h4]
    refine q p _ np (Same.new np) ?_
    rw [upd_same, List.map_map]
    rfl
theorem g_splitT {a b : List Nat} {H : Hp} {Q : VK} (h3 : b ≠ []) (h4 : b.all (· < 256) = true) (h5 : a.length ≤ 100000) (q : ∀ p H1, H p = none → Same H H1 → H1 p = some (.lst ((TL.spl b 0 [] a).map Tx)) → Q (.ref p) H1) : rSplitT (Tx a) [Tx b] H Q := ⟨a, b, rfl, rfl, h3, h4, h5, q⟩
end
end Ly

set_option maxHeartbeats 4000000
namespace Ly
open PySem PySem.Spec PyProof.Rows L2 SX
/-! ### sorted(text) -/
section
variable {prog : Program} {w : World} {A : Around} {E : Value → Shared → Prop} {s : Shared}
end
section
variable {X : Cx}
end
end Ly

set_option maxHeartbeats 4000000
namespace Ly
open PySem PySem.Spec PyProof.Rows L2 SX
/-! ### text[::-1] -/
section
variable {X : Cx}
def rRevT (x : V) (H : Hp) (Q : VK) : Prop := ∃ l : List Nat, x = Tx l ∧ l.length ≤ 100000 ∧ Q (Tx l.reverse) H
def tRevS (te : TE) : TE := fun σ H Q => te σ H fun x H1 => rRevT x H1 Q
def rReplT (y z : List Nat) (x : V) (H : Hp) (Q : VK) : Prop := ∃ l : List Nat, x = Tx l ∧ l.length ≤ 1000 ∧ z.length ≤ 10 ∧ Q (.str (Txt.replace (S l) (S y) (S z))) H
def tReplT (to : TE) (y z : List Nat) : TE := fun σ H Q => to σ H fun v H1 => rReplT y z v H1 Q
end
end Ly
namespace Ly
open PySem PySem.Spec PyProof.Rows L2 SX PySem.StrLaws
end Ly

set_option maxHeartbeats 4000000
namespace Ly
/-! ### least numbers of deeds: strikes and turns -/
/-- how many of two brackets are to be turned -/
def tns (c d : Nat) : Nat := if c ∈ CLO ∨ d ∈ OPN then (if c ∈ CLO then 1 else 0) + (if d ∈ OPN then 1 else 0) else if knd c = knd d then 0 else 1
inductive Mn (l : List Nat) : Nat → Nat → Nat → Prop
  | nil (i : Nat) : Mn l i i 0
  | let_ {i j n c : Nat} : l[i]? = some c → c ∉ BRK → Mn l (i + 1) j n → Mn l i j n
  | str {i j n c : Nat} : l[i]? = some c → c ∈ BRK → Mn l (i + 1) j n → Mn l i j (n + 1)
  | pair {i m j a b c d : Nat} : l[i]? = some c → c ∈ BRK → l[m]? = some d → d ∈ BRK → Mn l (i + 1) m a → Mn l (m + 1) j b → Mn l i j (tns c d + a + b)
theorem Mn.le {l : List Nat} {i j n : Nat} (h : Mn l i j n) : i ≤ j := by
  induction h with
  | nil i => exact Nat.le_refl _
  | let_ _ _ _ ih => omega
  | str _ _ _ ih => omega
  | pair _ _ _ _ _ _ ih1 ih2 => omega
theorem Mn.self {l : List Nat} {i n : Nat} (h : Mn l i i n) : n = 0 := by
  cases h with
  | nil => rfl
  | let_ _ _ h => have := h.le; omega
  | str _ _ h => have := h.le; omega
  | pair _ _ _ _ h1 h2 => have := h1.le; have := h2.le; omega
theorem Mn.app {l : List Nat} {i m j a b : Nat} (h : Mn l i m a) (h2 : Mn l m j b) : Mn l i j (a + b) := by
  induction h with
  | nil i => rw [Nat.zero_add]; exact h2
  | let_ e1 e2 _ ih => exact .let_ e1 e2 (ih h2)
  | @str i j n c e1 e2 _ ih =>
    rw [show n + 1 + b = n + b + 1 by omega]
    exact .str e1 e2 (ih h2)
  | @pair i m j a b' c d e1 e2 e3 e4 h3 _ _ ih =>
    rw [Nat.add_assoc]
    exact .pair e1 e2 e3 e4 h3 (ih h2)
theorem Mn.one_str {l : List Nat} {i c : Nat} (e : l[i]? = some c) (h : c ∈ BRK) : Mn l i (i + 1) 1 := .str e h (.nil _)
theorem Mn.last {l : List Nat} {i j n : Nat} (h : Mn l i j n) : i < j → ∃ c, l[j - 1]? = some c ∧ ((c ∉ BRK ∧ Mn l i (j - 1) n) ∨ (c ∈ BRK ∧ ((∃ n', n = n' + 1 ∧ Mn l i (j - 1) n') ∨ ∃ m d a b, i ≤ m ∧ m < j - 1 ∧ l[m]? = some d ∧ d ∈ BRK ∧ Mn l i m a ∧ Mn l (m + 1) (j - 1) b ∧ n = tns d c + a + b))) := by
  induction h with
  | nil i => intro h; omega
  | @let_ i j n c e1 e2 h ih =>
    intro hij
    by_cases hj : i + 1 = j
    · subst hj
      have := h.self
      subst this
      exact ⟨c, by simpa using e1, .inl ⟨e2, .nil _⟩⟩
    · obtain ⟨c', h1, h2⟩ := ih (by have := h.le; omega)
      refine ⟨c', h1, ?_⟩
      rcases h2 with ⟨h2, h3⟩ | ⟨h2, ⟨n', rfl, h3⟩ | ⟨m, d, a, b, g1, g2, g3, g4, g5, g6, rfl⟩⟩
      · exact .inl ⟨h2, .let_ e1 e2 h3⟩
      · exact .inr ⟨h2, .inl ⟨n', rfl, .let_ e1 e2 h3⟩⟩
      · exact .inr ⟨h2, .inr ⟨m, d, a, b, by omega, g2, g3, g4, .let_ e1 e2 g5, g6, rfl⟩⟩
  | @str i j n c e1 e2 h ih =>
    intro hij
    by_cases hj : i + 1 = j
    · subst hj
      have := h.self
      subst this
      exact ⟨c, by simpa using e1, .inr ⟨e2, .inl ⟨0, rfl, .nil _⟩⟩⟩
    · obtain ⟨c', h1, h2⟩ := ih (by have := h.le; omega)
      refine ⟨c', h1, ?_⟩
      rcases h2 with ⟨h2, h3⟩ | ⟨h2, ⟨n', rfl, h3⟩ | ⟨m, d, a, b, g1, g2, g3, g4, g5, g6, rfl⟩⟩
      · exact .inl ⟨h2, .str e1 e2 h3⟩
      · exact .inr ⟨h2, .inl ⟨n' + 1, rfl, .str e1 e2 h3⟩⟩
      · exact .inr ⟨h2, .inr ⟨m, d, a + 1, b, by omega, g2, g3, g4, .str e1 e2 g5, g6, by omega⟩⟩
  | @pair i m j a b c d e1 e2 e3 e4 h1 h2 ih1 ih2 =>
    intro hij
    by_cases hj : m + 1 = j
    · subst hj
      have := h2.self
      subst this
      have hm := h1.le
      exact ⟨d, by simpa using e3, .inr ⟨e4, .inr ⟨i, c, 0, a, Nat.le_refl _, by omega, e1, e2, .nil _, by simpa using h1, by omega⟩⟩⟩
    · have hm := h1.le
      obtain ⟨c', g1, g2⟩ := ih2 (by have := h2.le; omega)
      refine ⟨c', g1, ?_⟩
      rcases g2 with ⟨g2, g3⟩ | ⟨g2, ⟨n', rfl, g3⟩ | ⟨m', d', a', b', k1, k2, k3, k4, k5, k6, rfl⟩⟩
      · exact .inl ⟨g2, .pair e1 e2 e3 e4 h1 g3⟩
      · exact .inr ⟨g2, .inl ⟨tns c d + a + n', by omega, .pair e1 e2 e3 e4 h1 g3⟩⟩
      · exact .inr ⟨g2, .inr ⟨m', d', tns c d + a + a', b', by omega, k2, k3, k4, .pair e1 e2 e3 e4 h1 k5, k6, by omega⟩⟩
/-- the least that is so -/
def Lst (P : Nat → Prop) (n : Nat) : Prop := P n ∧ ∀ m, P m → n ≤ m
theorem Lst.ex {P : Nat → Prop} : ∀ n, P n → ∃ n, Lst P n := by
  intro n
  induction n using Nat.strongRecOn with
  | ind n ih =>
    intro h
    by_cases hm : ∃ m, m < n ∧ P m
    · obtain ⟨m, h1, h2⟩ := hm
      exact ih m h1 h2
    · exact ⟨n, h, fun m hp => Nat.le_of_not_lt fun hlt => hm ⟨m, hlt, hp⟩⟩
open Classical in
noncomputable def lstN (l : List Nat) (i j : Nat) : Nat := if h : ∃ n, Lst (Mn l i j) n then Classical.choose h else 0
theorem Mn.ex (l : List Nat) : ∀ (k i : Nat), i + k ≤ l.length → ∃ n, Mn l i (i + k) n
  | 0, i, _ => ⟨0, .nil _⟩
  | k + 1, i, h => by
    obtain ⟨n, hn⟩ := Mn.ex l k (i + 1) (by omega)
    rw [show i + 1 + k = i + (k + 1) by omega] at hn
    have e : l[i]? = some l[i] := List.getElem?_eq_getElem (by omega)
    by_cases hb : l[i] ∈ BRK
    · exact ⟨n + 1, .str e hb hn⟩
    · exact ⟨n, .let_ e hb hn⟩
theorem lstN_spec {l : List Nat} {i j : Nat} (h1 : i ≤ j) (h2 : j ≤ l.length) : Lst (Mn l i j) (lstN l i j) := by
  have hx : ∃ n, Lst (Mn l i j) n := by
    obtain ⟨n, hn⟩ := Mn.ex l (j - i) i (by omega)
    rw [show i + (j - i) = j by omega] at hn
    exact Lst.ex n hn
  unfold lstN
  rw [dif_pos hx]
  exact Classical.choose_spec hx
/-! by the first sign -/
/-! by the last sign -/
/-- the numbers that are looked at for a last bracket: the least one so far -/
def LwB (l : List Nat) (i j c k n : Nat) : Prop := Mn l i (j + 1) n ∧ n ≤ lstN l i j + 1 ∧ ∀ m d, i ≤ m → m < i + k → m < j → l[m]? = some d → d ∈ BRK → n ≤ lstN l i m + lstN l (m + 1) j + tns d c
theorem LwB.start {l : List Nat} {i j c : Nat} (hi : i ≤ j) (hj : j < l.length) (e : l[j]? = some c) (hb : c ∈ BRK) : LwB l i j c 0 (lstN l i j + 1) :=
  ⟨(lstN_spec hi (by omega)).1.app (.one_str e hb), Nat.le_refl _, fun m d h1 h2 => by omega⟩
theorem LwB.skip {l : List Nat} {i j c k n d : Nat} (h : LwB l i j c k n) (e : l[i + k]? = some d) (hd : d ∉ BRK) : LwB l i j c (k + 1) n := by
  refine ⟨h.1, h.2.1, fun m d' h1 h2 h3 h4 h5 => ?_⟩
  by_cases hm : m < i + k
  · exact h.2.2 m d' h1 hm h3 h4 h5
  · have : m = i + k := by omega
    subst this
    rw [e] at h4
    exact absurd (Option.some.inj h4 ▸ h5) hd
theorem LwB.step {l : List Nat} {i j c k n d : Nat} (h : LwB l i j c k n) (hj : j < l.length) (ec : l[j]? = some c) (hc : c ∈ BRK) (hk : i + k < j) (e : l[i + k]? = some d) (hd : d ∈ BRK) : LwB l i j c (k + 1) (min n (lstN l i (i + k) + lstN l (i + k + 1) j + tns d c)) := by
  have s1 := lstN_spec (l := l) (show i ≤ i + k by omega) (by omega)
  have s2 := lstN_spec (l := l) (show i + k + 1 ≤ j by omega) (by omega)
  refine ⟨?_, by have := h.2.1; omega, fun m d' h1 h2 h3 h4 h5 => ?_⟩
  · rcases Nat.le_total n (lstN l i (i + k) + lstN l (i + k + 1) j + tns d c) with hq | hq
    · rw [Nat.min_eq_left hq]
      exact h.1
    · rw [Nat.min_eq_right hq]
      have := s1.1.app (Mn.pair e hd ec hc s2.1 (.nil _))
      rw [show lstN l i (i + k) + lstN l (i + k + 1) j + tns d c = lstN l i (i + k) + (tns d c + lstN l (i + k + 1) j + 0) by omega]
      exact this
  · by_cases hm : m < i + k
    · have := h.2.2 m d' h1 hm h3 h4 h5
      omega
    · have : m = i + k := by omega
      subst this
      rw [e] at h4
      have := Option.some.inj h4
      subst this
      exact Nat.min_le_right _ _
/-! reckoned -/
end Ly

set_option maxHeartbeats 4000000
namespace Ly
open PySem PySem.Spec PyProof.Rows L2 SX
/-! ### dicts whose keys are pairs of whole numbers -/
section
variable {K : PySem.W.Frag} {σ : L2.St} {H H1 : Hp} {Q : VK} {R : Hp → Prop} {a b p : Addr} {i j : Int} {v : V} {n : Nat} {td ty tv : TE} {D : Ends} {xs : List V}
def rDGet (x y : V) (H : Hp) (Q : VK) : Prop := ∃ a v, x = .ref a ∧ DGet H a y (some v) ∧ Q v H
def rDPut (x y v : V) (H : Hp) (R : Hp → Prop) : Prop := ∃ a H4, x = .ref a ∧ DPut H a y v H4 ∧ R H4
def rDNewT (H : Hp) (Q : VK) : Prop := ∀ p, H p = none → Q (.ref p) (upd H p (.dT []))
theorem tDGet_eq : tDGet td ty σ H Q = td σ H fun x H1 => ty σ H1 fun y H2 => rDGet x y H2 Q := rfl
theorem sDPut_eq : sDPut td ty tv D σ H = tv σ H fun v H1 => td σ H1 fun x H2 => ty σ H2 fun y H3 => rDPut x y v H3 (D.nx σ) := rfl
theorem tDNewT_eq : tDNewT σ H Q = rDNewT H Q := rfl
/-- at a stands a dict of pairs, f tells what it holds, at most n entries -/
def DTab (H : Hp) (a : Addr) (f : Int → Int → Option V) (n : Nat) : Prop := ∃ kvs : List (List Key × V), H a = some (.dT kvs) ∧ kvs.length ≤ n ∧ ∀ i j, valV kvs [.inl i, .inl j] = f i j
theorem DTab.same {f : Int → Int → Option V} (h : DTab H a f n) (s : Same H H1) : DTab H1 a f n := by
  obtain ⟨kvs, h1, h2⟩ := h
  exact ⟨kvs, s _ _ h1, h2⟩
theorem DTab.but {f : Int → Int → Option V} (h : DTab H a f n) (s : But p H H1) (hn : a ≠ p) : DTab H1 a f n := by
  obtain ⟨kvs, h1, h2⟩ := h
  exact ⟨kvs, s _ _ hn h1, h2⟩
theorem DTab.ne {f : Int → Int → Option V} (h : DTab H a f n) (hb : H b = none) : a ≠ b := by
  obtain ⟨kvs, h1, h2⟩ := h
  exact ne_new hb h1
/-! ### places told as natural numbers -/
theorem g_ixTn {l : List Nat} {x : Int} {c : Nat} (k : Nat) (h : l.length ≤ 100000) (hk : x = (k : Int)) (h1 : l[k]? = some c) (q : Q (Tx [c]) H) : rIxT1 (Tx l) (.int x) H Q := by
  subst hk
  exact g_ixT h (atI_of h1) q
theorem g_setLn {x : Int} (k : Nat) (h : H p = some (.lst xs)) (hk : x = (k : Int)) (h1 : k < xs.length) (q : ∀ H1, But p H H1 → H1 p = some (.lst (xs.set k v)) → R H1) : rSetL (.ref p) (.int x) v H R := by
  subst hk
  exact g_setL h (ixN_nat h1) q
/-! ### min, max -/
end
section
variable {X : Cx}
def rMin2 : List V → Hp → VK → Prop := fun xs H Q => ∃ i j : Int, xs = [.int i, .int j] ∧ Q (.int (min i j)) H
def rMax2 : List V → Hp → VK → Prop := fun xs H Q => ∃ i j : Int, xs = [.int i, .int j] ∧ Q (.int (max i j)) H
theorem call_min2' (hc : X.calm = true) : CallR X (.builtin "min") rMin2 := fun pins s σ H xs us Q I r h => by
  obtain ⟨i, j, rfl, q⟩ := h
  refine call_min2 hc pins s σ H _ us Q I r ⟨i, j, rfl, ?_⟩
  have e : (if j < i then j else i) = min i j := by split <;> omega
  rw [e]
  exact q
theorem g_min2 {H : Hp} {Q : VK} {i j : Int} (q : Q (.int (min i j)) H) : rMin2 [.int i, .int j] H Q := ⟨i, j, rfl, q⟩
theorem g_max2 {H : Hp} {Q : VK} {i j : Int} (q : Q (.int (max i j)) H) : rMax2 [.int i, .int j] H Q := ⟨i, j, rfl, q⟩
end
/-! ### a list of lists, each its own -/
/-- at d the list of the lists rs; the k-th holds f k -/
structure Tab (H : Hp) (d : Addr) (rs : List Addr) (f : Nat → List V) : Prop where
  hd : H d = some (.lst (rs.map V.ref))
  r : ∀ k r, rs[k]? = some r → H r = some (.lst (f k))
  nd : rs.Nodup
  nin : d ∉ rs
theorem Tab.same {H H' : Hp} {d : Addr} {rs : List Addr} {f : Nat → List V} (T : Tab H d rs f) (s : Same H H') : Tab H' d rs f := ⟨s _ _ T.hd, fun k r h => s _ _ (T.r k r h), T.nd, T.nin⟩
theorem Tab.but {H H' : Hp} {d p : Addr} {rs : List Addr} {f : Nat → List V} (T : Tab H d rs f) (s : But p H H') (h1 : p ≠ d) (h2 : p ∉ rs) : Tab H' d rs f :=
  ⟨s _ _ (Ne.symm h1) T.hd, fun k r h => s _ _ (fun e => h2 (by rw [← e]; exact List.mem_of_getElem? h)) (T.r k r h), T.nd, T.nin⟩
theorem Tab.fresh {H : Hp} {d p : Addr} {rs : List Addr} {f : Nat → List V} (T : Tab H d rs f) (h : H p = none) : p ≠ d ∧ p ∉ rs := by
  refine ⟨fun e => ?_, fun e => ?_⟩
  · have := T.hd
    rw [← e, h] at this
    cases this
  · obtain ⟨k, hk⟩ := List.getElem?_of_mem e
    have := T.r k p hk
    rw [h] at this
    cases this
/-- one row set -/
theorem Tab.set {H H' : Hp} {d r : Addr} {rs : List Addr} {f : Nat → List V} {k : Nat} {xs : List V} (T : Tab H d rs f) (hk : rs[k]? = some r) (s : But r H H') (h : H' r = some (.lst xs)) : Tab H' d rs (fun i => if i = k then xs else f i) := by
  have hr : r ∈ rs := List.mem_of_getElem? hk
  refine ⟨s _ _ (fun e => T.nin (by rw [e]; exact hr)) T.hd, fun i q hi => ?_, T.nd, T.nin⟩
  by_cases e : i = k
  · subst e
    rw [hk] at hi
    have := Option.some.inj hi
    subst this
    rw [if_pos rfl]
    exact h
  · rw [if_neg e]
    refine s _ _ (fun e2 => e ?_) (T.r i q hi)
    subst e2
    obtain ⟨h1, e1⟩ := List.getElem?_eq_some_iff.mp hi
    obtain ⟨h2, e2⟩ := List.getElem?_eq_some_iff.mp hk
    exact (List.getElem_inj T.nd).mp (e1.trans e2.symm)
theorem Tab.row {H : Hp} {d : Addr} {rs : List Addr} {f : Nat → List V} (T : Tab H d rs f) {k : Nat} (hk : k < rs.length) : ∃ r, rs[k]? = some r ∧ (rs.map V.ref)[k]? = some (V.ref r) ∧ H r = some (.lst (f k)) := by
  refine ⟨rs[k], List.getElem?_eq_getElem hk, by simp [hk], T.r k _ (List.getElem?_eq_getElem hk)⟩
theorem Tab.snoc {H H' : Hp} {d r : Addr} {rs : List Addr} {f : Nat → List V} {xs : List V} (T : Tab H d rs f) (hr : H' r = some (.lst xs)) (hd : H' d = some (.lst ((rs ++ [r]).map V.ref))) (h1 : r ∉ rs) (h2 : d ≠ r) (hk : ∀ q ∈ rs, ∀ o, H q = some o → H' q = some o) : Tab H' d (rs ++ [r]) (fun i => if i = rs.length then xs else f i) := by
  refine ⟨hd, fun i q hi => ?_, ?_, ?_⟩
  · by_cases e : i < rs.length
    · rw [List.getElem?_append_left e] at hi
      rw [if_neg (by omega)]
      exact hk q (List.mem_of_getElem? hi) _ (T.r i q hi)
    · rw [List.getElem?_append_right (by omega)] at hi
      have e2 : i = rs.length := by
        have := (List.getElem?_eq_some_iff.mp hi).1
        simp at this
        omega
      subst e2
      rw [Nat.sub_self] at hi
      have := Option.some.inj hi
      subst this
      rw [if_pos rfl]
      exact hr
  · rw [List.nodup_append]
    refine ⟨T.nd, by simp, fun a ha b hb => ?_⟩
    rw [List.mem_singleton] at hb
    subst hb
    exact fun e => h1 (by rw [← e]; exact ha)
  · rw [List.mem_append, List.mem_singleton]
    rintro (h | h)
    · exact T.nin h
    · exact h2 h
end Ly

set_option maxHeartbeats 4000000
namespace Ly
open PySem PySem.Spec PyProof.Rows L2 SX
theorem g_ET {R : Bool → Prop} (q : R true) : ∃ k, V.bl true = V.bl k ∧ R k := ⟨_, rfl, q⟩
theorem g_EF {R : Bool → Prop} (q : R false) : ∃ k, V.bl false = V.bl k ∧ R k := ⟨_, rfl, q⟩
theorem g_EnT {R : Bool → Prop} (q : R false) : ∃ k, V.bl (!true) = V.bl k ∧ R k := ⟨_, rfl, q⟩
theorem g_EnF {R : Bool → Prop} (q : R true) : ∃ k, V.bl (!false) = V.bl k ∧ R k := ⟨_, rfl, q⟩
/-! ### list + list, where one may be the script -/
section
variable {X : Cx}
end
section
variable {K : PySem.W.Frag} {σ : L2.St} {H : Hp} {g : TG} {tb : TS} {D : Ends} {a b : Addr} {xs ys : List V}
end
end Ly

namespace Ly
/-! ### least numbers with how often they are met -/
/-- a number of deeds and in how many ways; none: in no way -/
abbrev MC := Option (Nat × Nat)
def mAdd : MC → MC → MC
  | none, y => y
  | some p, none => some p
  | some p, some q => if p.1 < q.1 then some p else if q.1 < p.1 then some q else some (p.1, p.2 + q.2)
def mMul : MC → MC → MC
  | some p, some q => some (p.1 + q.1, p.2 * q.2)
  | _, _ => none
def mOne : MC := some (0, 1)
/-! sums -/
def sm (f : Nat → MC) : Nat → MC
  | 0 => none
  | n + 1 => mAdd (sm f n) (f n)
/-! ### tilings: by the first item, by the last one -/
end Ly

set_option maxHeartbeats 4000000
namespace Ly
open PySem PySem.Spec PyProof.Rows L2 SX
/-! ### classes: their methods, their making -/
section
variable {P : Program} {w : World} {K : PySem.W.Frag} {mg : Str → Option Value} {base : Heap}
end
def rMetO (C : Addr) (m : Str) (x : V) (H : Hp) (A : Prop) : Prop := (∃ a dx fs, x = .ref a ∧ H a = some (.ins C dx fs) ∧ fs.lookup m = none) ∧ A
def tMet (C : Addr) (m : Str) (sp : Sp) (ta : TE) (t : TA) : TE := fun σ H Q => ta σ H fun x H1 => rMetO C m x H1 (t σ H1 fun vs H2 => sp (x :: vs) H2 Q C8.E0)
def rMak (C : Addr) (sp : Sp) (vs : List V) (H : Hp) (Q : VK) : Prop := ∀ x dx, H x = none → H dx = none → dx ≠ x → sp (.ref x :: vs) (upd (upd H dx (.own x)) x (.ins C dx [])) (fun v H2 => v = .non ∧ Q (.ref x) H2) C8.E0
def tMak (C : Addr) (sp : Sp) (t : TA) : TE := fun σ H Q => t σ H fun vs H1 => rMak C sp vs H1 Q
section
variable {X : Cx} {k j : Nat} {C : Addr} {x m : Str} {sp : Sp} {p pos apos : Pos} {e o : Expr} {es : List Expr} {ta : TE} {t : TA}
end
section
variable {K : PySem.W.Frag} {σ : L2.St} {H : Hp} {Q : VK} {A : Prop} {a dx C : Addr} {fs : List (Str × V)} {m f : Str} {v y : V} {ta tv : TE} {D : Ends} {R : Hp → Prop} {sp : Sp} {vs : List V}
def rFld (K : PySem.W.Frag) (f : Str) (x : V) (H : Hp) (Q : VK) : Prop := ∃ a C dx fs v, x = .ref a ∧ H a = some (.ins C dx fs) ∧ Cls K C ∧ NoAttr K C f ∧ fs.lookup f = some v ∧ Q v H
def rSFld (K : PySem.W.Frag) (f : Str) (y x : V) (H : Hp) (R : Hp → Prop) : Prop := ∃ a C dx fs, x = .ref a ∧ H a = some (.ins C dx fs) ∧ Cls K C ∧ NoAttr K C f ∧ fs.length < 1000 ∧ R (upd H a (.ins C dx (putF f y fs)))
theorem tFld_eq : tFld K ta f σ H Q = ta σ H fun x H1 => rFld K f x H1 Q := rfl
theorem sFld_eq : sFld K ta tv f D σ H = tv σ H fun y H1 => ta σ H1 fun x H2 => rSFld K f y x H2 (D.nx σ) := rfl
end
end Ly

namespace Ly
open PySem
/-! ### the head's facts with one truth more -/
abbrev AlE : Type := He.AlD × Bool
def obsEG (n : Nat) (fa : List He.Fa) (fn : List He.DefD) (ex : PySem.W.Frag → Bool) (g : Addr → Option Obj) : AlE := (He.obsDG n fa fn g, ex (He.frG g (He.asD g n)))
end Ly

set_option maxHeartbeats 4000000
namespace Ly
/-! ### least numbers with how many, by words -/
structure Wd where
  pt : Bool
  st : Bool
  tn : Bool
def few (c d : Nat) : Nat × Nat := if c ∈ OPN ∧ d ∈ CLO then (if knd c = knd d then (0, 1) else (1, 2)) else if c ∈ CLO ∧ d ∈ OPN then (2, 4) else (1, 1)
def w1 : MC := some (1, 1)
/-- a pair of the text's signs at i and m -/
def prM (l : List Nat) (W : Wd) (i m : Nat) : MC := match l[i]?, l[m]? with
  | some c, some d => if c ∈ BRK ∧ d ∈ BRK ∧ ((few c d).1 = 0 ∨ W.tn = true) then some (few c d) else none
  | _, _ => none
def opM (l : List Nat) (W : Wd) (i : Nat) : MC := match l[i]? with
  | some c => if c ∈ OPN ∧ W.pt = true then w1 else none
  | none => none
def clM (l : List Nat) (W : Wd) (m : Nat) : MC := match l[m]? with
  | some c => if c ∈ CLO ∧ W.pt = true then w1 else none
  | none => none
/-- the sign alone: a letter, or a struck bracket -/
def sgM (l : List Nat) (W : Wd) (i : Nat) : MC := match l[i]? with
  | some c => if c ∈ BRK then (if W.st = true then w1 else none) else mOne
  | none => none
def m3 (x y z : MC) : MC := mMul (mMul x y) z
/-- by the first sign -/
def stM (l : List Nat) (W : Wd) (F : Nat → Nat → MC) (i j : Nat) : MC :=
  mAdd (mMul (sgM l W i) (F (i + 1) j)) (mAdd (sm (fun t => m3 (prM l W i (i + 1 + t)) (F (i + 1) (i + 1 + t)) (F (i + 1 + t + 1) j)) (j - i - 1))
    (mAdd (sm (fun t => m3 (opM l W i) (F (i + 1) (i + 1 + t)) (F (i + 1 + t) j)) (j - i)) (sm (fun t => m3 (clM l W (i + t)) (F i (i + t)) (F (i + t + 1) j)) (j - i))))
def mcF (l : List Nat) (W : Wd) : Nat → Nat → Nat → MC
  | 0, _, _ => mOne
  | n + 1, i, j => if j ≤ i then mOne else stM l W (mcF l W n) i j
def mcN (l : List Nat) (W : Wd) (i j : Nat) : MC := mcF l W (j - i) i j
/-! by the last sign -/
/-! there is always one, where striking is a word -/
/-! sums of lists -/
end Ly

set_option maxHeartbeats 4000000
namespace Ly
open PySem PySem.Spec PyProof.Rows L2 SX
/-! ### how great the counts can be -/
/-! ### values -/
/-! ### lists of pairs of whole numbers -/
def Prs (H : Hp) (a : Addr) (xs : List (Nat × Nat)) : Prop := ∃ rs : List Addr, H a = some (.lst (rs.map V.ref)) ∧ rs.length = xs.length ∧ ∀ (k : Nat) (r : Addr) (x : Nat × Nat), rs[k]? = some r → xs[k]? = some x → H r = some (.tup [.int x.1, .int x.2])
theorem Prs.same {H H' : Hp} {a : Addr} {xs : List (Nat × Nat)} (h : Prs H a xs) (s : Same H H') : Prs H' a xs := by
  obtain ⟨rs, h1, h2, h3⟩ := h
  exact ⟨rs, s _ _ h1, h2, fun k r x q1 q2 => s _ _ (h3 k r x q1 q2)⟩
theorem Prs.lst {H : Hp} {a : Addr} {xs : List (Nat × Nat)} (h : Prs H a xs) : ∃ ys, H a = some (.lst ys) ∧ ys.length = xs.length := by
  obtain ⟨rs, h1, h2, h3⟩ := h
  exact ⟨_, h1, by rw [List.length_map]; exact h2⟩
theorem Prs.but {H H' : Hp} {a p : Addr} {xs : List (Nat × Nat)} {ys : List V} (h : Prs H a xs) (s : But p H H') (hp : H p = some (.lst ys)) (hn : a ≠ p) : Prs H' a xs := by
  obtain ⟨rs, h1, h2, h3⟩ := h
  refine ⟨rs, s _ _ hn h1, h2, fun k r x q1 q2 => s _ _ (fun e => ?_) (h3 k r x q1 q2)⟩
  have := h3 k r x q1 q2
  rw [e, hp] at this
  cases this
theorem Prs.snoc {H H' : Hp} {a t : Addr} {xs : List (Nat × Nat)} {x : Nat × Nat} (h : Prs H a xs) (ht : H t = some (.tup [.int x.1, .int x.2])) (s : But a H H') (h2 : ∀ rs : List Addr, H a = some (.lst (rs.map V.ref)) → H' a = some (.lst (rs.map V.ref ++ [.ref t]))) : Prs H' a (xs ++ [x]) := by
  obtain ⟨rs, h1, hl, h3⟩ := h
  have ne : ∀ r ys, H r = some (.tup ys) → r ≠ a := fun r ys e q => by rw [q, h1] at e; cases e
  refine ⟨rs ++ [t], by rw [h2 rs h1, List.map_append]; rfl, by simp [hl], fun k r y q1 q2 => ?_⟩
  by_cases e : k < rs.length
  · rw [List.getElem?_append_left e] at q1
    rw [List.getElem?_append_left (by omega)] at q2
    have := h3 k r y q1 q2
    exact s _ _ (ne _ _ this) this
  · have hk : k = rs.length := by
      have := (List.getElem?_eq_some_iff.mp q1).1
      simp at this
      omega
    rw [List.getElem?_append_right (by omega), hk, Nat.sub_self] at q1
    rw [List.getElem?_append_right (by omega), hk, hl, Nat.sub_self] at q2
    have e1 : t = r := Option.some.inj q1
    have e2 : x = y := Option.some.inj q2
    subst e1 e2
    exact s _ _ (ne _ _ ht) ht
/-! ### tuples that stay -/
theorem SqT.same {K : PySem.W.Frag} {H H' : Hp} {a : Addr} {xs : List V} (s : Same H H') (h : SqT K H a xs) : SqT K H' a xs := by
  rcases h with (h | ⟨o, h⟩) | h
  · exact .inl (.inl (s _ _ h))
  · exact .inl (.inr ⟨o, s _ _ h⟩)
  · exact .inr h
theorem SqT.but {K : PySem.W.Frag} {H H' : Hp} {a p : Addr} {xs : List V} {u : HO} (s : But p H H') (h : SqT K H a xs) (hp : H p = some u) (hu : (∀ ys, u ≠ .tup ys) ∧ ∀ o ys, u ≠ .frz o (.tup ys)) : SqT K H' a xs := by
  rcases h with (h | ⟨o, h⟩) | h
  · exact .inl (.inl (s _ _ (fun e => by rw [e, hp] at h; exact hu.1 _ (Option.some.inj h)) h))
  · exact .inl (.inr ⟨o, s _ _ (fun e => by rw [e, hp] at h; exact hu.2 _ _ (Option.some.inj h)) h⟩)
  · exact .inr h
/-- the words: a tuple of texts -/
def WdIs (K : PySem.W.Frag) (H : Hp) (v : V) (W : Wd) : Prop := ∃ a xs, v = .ref a ∧ SqT K H a xs ∧ xs.all flatV = true ∧ inV (Tx [112, 117, 116]) xs = W.pt ∧ inV (Tx [115, 116, 114, 105, 107, 101]) xs = W.st ∧ inV (Tx [116, 117, 114, 110]) xs = W.tn
theorem WdIs.same {K : PySem.W.Frag} {H H' : Hp} {v : V} {W : Wd} (h : WdIs K H v W) (s : Same H H') : WdIs K H' v W := by
  obtain ⟨a, xs, h1, h2, h3⟩ := h
  exact ⟨a, xs, h1, SqT.same s h2, h3⟩
theorem WdIs.but {K : PySem.W.Frag} {H H' : Hp} {v : V} {W : Wd} {p : Addr} {ys : List V} (h : WdIs K H v W) (s : But p H H') (hp : H p = some (.lst ys)) : WdIs K H' v W := by
  obtain ⟨a, xs, h1, h2, h3⟩ := h
  exact ⟨a, xs, h1, SqT.but s h2 hp ⟨(fun _ e => nomatch e), (fun _ _ e => nomatch e)⟩, h3⟩
/-! ### the object -/
end Ly

set_option maxHeartbeats 4000000
namespace Ly
/-! ### alike opening brackets: Catalan's numbers -/
section
variable {m c : Nat} (hc : c ∈ OPN)
include hc
end
end Ly

set_option maxHeartbeats 4000000
namespace Ly
open PySem PySem.Spec PyProof.Rows L2 SX
section
variable {X : Cx} {k j : Nat} {C : Addr} {x m : Str} {sp : Sp} {p pos : Pos}
end
end Ly

set_option maxHeartbeats 4000000
namespace Ly
/-! ### the least number with how many is the least number -/
def lo (x : MC) (n : Nat) : Prop := ∀ y, x = some y → n ≤ y.1
def hi (x : MC) (n : Nat) : Prop := ∃ y, x = some y ∧ y.1 ≤ n
theorem few_tns : ∀ c ∈ BRK, ∀ d ∈ BRK, (few c d).1 = tns c d := by decide
end Ly

set_option maxHeartbeats 4000000
namespace Ly
open PySem PySem.Spec PyProof.Rows L2 SX
/-! ### data in heaps -/
section
variable {K : PySem.W.Frag} {H : Hp} {Q : VK} {x y : V} {d e : PyData}
theorem g_neDp (h1 : Dp K H x d) (h2 : Dp K H y d) (hs : SeqAt.shaped d = true) (q : Q (.bl false) H) : rNeD K x y H Q := by
  refine ⟨d, d, h1, h2, hs, hs, ?_⟩
  rw [SeqAt.eqv_refl d (by unfold SeqAt.shaped at hs; rw [Bool.and_eq_true] at hs; exact hs.1)]
  exact q
theorem g_eqDp (h1 : Dp K H x d) (h2 : Dp K H y d) (hs : SeqAt.shaped d = true) (q : Q (.bl true) H) : rEqD K x y H Q := by
  refine ⟨d, d, h1, h2, hs, hs, ?_⟩
  rw [SeqAt.eqv_refl d (by unfold SeqAt.shaped at hs; rw [Bool.and_eq_true] at hs; exact hs.1)]
  exact q
end
end Ly

set_option maxHeartbeats 4000000
namespace Ly
open PySem PySem.Spec PyProof.Rows L2 SX
/-! ### deeds -/
inductive Dw where
  | put (c : Nat)
  | str
  | trn (c : Nat)
  deriving DecidableEq
abbrev Deed := Nat × Dw
def Dw.w : Dw → List Nat
  | .put _ => [112, 117, 116]
  | .str => [115, 116, 114, 105, 107, 101]
  | .trn _ => [116, 117, 114, 110]
def Dw.s : Dw → List Nat
  | .put c => [c]
  | .str => []
  | .trn c => [c]
def Dw.isPut : Dw → Bool
  | .put _ => true
  | _ => false
def ddV (d : Deed) : List V := [.int (d.1 : Nat), Tx d.2.w, Tx d.2.s]
def nxB (d e : Deed) : Bool := decide (d.1 < e.1) || (decide (d.1 = e.1) && d.2.isPut)
def chB : List Deed → Bool
  | d :: e :: r => nxB d e && chB (e :: r)
  | _ => true
def putc (p : Nat) (d : Deed) : List Nat := if d.1 = p then (match d.2 with | .put c => [c] | _ => []) else []
def puts (ds : List Deed) (p : Nat) : List Nat := (ds.map (putc p)).flatten
def othD : List Deed → Nat → Option Dw
  | [], _ => none
  | d :: r, p => match othD r p with
    | some w => some w
    | none => if d.1 = p ∧ d.2.isPut = false then some d.2 else none
def mid (o : Option Dw) (x : List Nat) : List Nat := match o with
  | none => x
  | some w => w.s
def piece (l : List Nat) (ds : List Deed) (p : Nat) : List Nat := puts ds p ++ mid (othD ds p) ((l.drop p).take 1)
def low (q : Nat) (ds : List Deed) : Prop := ∀ d ∈ ds, q ≤ d.1
def app (d : Deed) (s : List Nat) : List Nat := match d.2 with
  | .put c => s.take d.1 ++ [c] ++ s.drop d.1
  | .str => s.eraseIdx d.1
  | .trn c => s.set d.1 c
def behind (l : List Nat) (ds : List Deed) : List Nat := ds.foldr app l
/-! ### lists of deeds in heaps -/
def ddD (d : Deed) : PyData := .tuple [.int (d.1 : Nat), .str (S d.2.w), .str (S d.2.s)]
def ddsD (ds : List Deed) : PyData := .list (ds.map ddD)
structure Dds (H : Hp) (a : Addr) (rs : List Addr) (ds : List Deed) : Prop where
  hd : H a = some (.lst (rs.map V.ref))
  len : rs.length = ds.length
  it : ∀ (k : Nat) (r : Addr) (d : Deed), rs[k]? = some r → ds[k]? = some d → H r = some (.tup (ddV d))
theorem Dds.same {H H' : Hp} {a : Addr} {rs : List Addr} {ds : List Deed} (h : Dds H a rs ds) (s : Same H H') : Dds H' a rs ds := ⟨s _ _ h.hd, h.len, fun k r d h1 h2 => s _ _ (h.it k r d h1 h2)⟩
theorem Dds.but {H H' : Hp} {a p : Addr} {rs : List Addr} {ds : List Deed} {ys : List V} (h : Dds H a rs ds) (s : But p H H') (hp : H p = some (.lst ys)) (hn : a ≠ p) : Dds H' a rs ds := by
  refine ⟨s _ _ hn h.hd, h.len, fun k r d h1 h2 => ?_⟩
  have := h.it k r d h1 h2
  exact s _ _ (fun e => by rw [e, hp] at this; cases this) this
theorem Dds.dp {K : PySem.W.Frag} {H : Hp} {a : Addr} {rs : List Addr} {ds : List Deed} (h : Dds H a rs ds) : Dp K H (.ref a) (ddsD ds) := by
  refine .lst (sq_of h.hd) ?_
  have key : ∀ (rs : List Addr) (ds : List Deed), rs.length = ds.length → (∀ (k : Nat) (r : Addr) (d : Deed), rs[k]? = some r → ds[k]? = some d → H r = some (.tup (ddV d))) → DpAll K H (rs.map V.ref) (ds.map ddD) := by
    intro rs
    induction rs with
    | nil =>
      intro ds hl _
      cases ds with
      | nil => exact .nil
      | cons x xs => simp at hl
    | cons r rs ih =>
      intro ds hl h
      cases ds with
      | nil => simp at hl
      | cons d ds => exact .cons (.tup (st_of (h 0 r d rfl rfl)) (.cons (.int _) (.cons (.str _) (.cons (.str _) .nil)))) (ih ds (by simpa using hl) fun i q y h3 h4 => h (i + 1) q y h3 h4)
  exact key rs ds h.len h.it
def sgD (ds : List Deed) : Prop := ∀ d ∈ ds, ∀ c ∈ d.2.s, c < 1114112
theorem dw_lt (w : Dw) : ∀ c ∈ w.w, c < 1114112 := by
  cases w with
  | put c => show ∀ c ∈ [112, 117, 116], c < 1114112; decide
  | str => decide
  | trn c => show ∀ c ∈ [116, 117, 114, 110], c < 1114112; decide
theorem dds_shaped {ds : List Deed} (h : sgD ds) : SeqAt.shaped (ddsD ds) = true := by
  have h1 : ∀ ds : List Deed, sgD ds → PyData.canLayAll0 (ds.map ddD) = true ∧ PyData.depthAll (ds.map ddD) ≤ 1 := by
    intro ds
    induction ds with
    | nil => intro _; exact ⟨rfl, Nat.zero_le _⟩
    | cons d ds ih =>
      intro h
      obtain ⟨i1, i2⟩ := ih fun x hx => h x (List.mem_cons_of_mem _ hx)
      constructor
      · show (PyData.canLay0 (ddD d) && PyData.canLayAll0 (ds.map ddD)) = true
        have : PyData.canLay0 (ddD d) = true := by
          show (true && (PyData.canLay0 (txD d.2.w) && (PyData.canLay0 (txD d.2.s) && true))) = true
          rw [can_tx (dw_lt d.2), can_tx (h d (List.mem_cons_self ..))]
          rfl
        rw [this, i1]
        rfl
      · show max (PyData.depth (ddD d)) (PyData.depthAll (ds.map ddD)) ≤ 1
        have : PyData.depth (ddD d) = 1 := rfl
        omega
  obtain ⟨i1, i2⟩ := h1 ds h
  unfold SeqAt.shaped
  have e1 : PyData.canLay0 (ddsD ds) = true := i1
  have e2 : PyData.depth (ddsD ds) = PyData.depthAll (ds.map ddD) + 1 := rfl
  rw [e1, e2, Bool.true_and]
  exact decide_eq_true (by omega)
theorem Dds.row {H : Hp} {a : Addr} {rs : List Addr} {ds : List Deed} (h : Dds H a rs ds) {k : Nat} (hk : k < ds.length) : ∃ r d, rs[k]? = some r ∧ ds[k]? = some d ∧ (rs.map V.ref)[k]? = some (V.ref r) ∧ H r = some (.tup (ddV d)) := by
  have e1 : rs[k]? = some (rs[k]'(by rw [h.len]; exact hk)) := List.getElem?_eq_getElem (by rw [h.len]; exact hk)
  have e2 : ds[k]? = some ds[k] := List.getElem?_eq_getElem hk
  exact ⟨_, _, e1, e2, by rw [List.getElem?_map, e1]; rfl, h.it k _ _ e1 e2⟩
theorem Dds.snoc {H H' : Hp} {a t : Addr} {rs : List Addr} {ds : List Deed} {d : Deed} (h : Dds H a rs ds) (ht : H t = some (.tup (ddV d))) (s : But a H H') (e : H' a = some (.lst (rs.map V.ref ++ [.ref t]))) : Dds H' a (rs ++ [t]) (ds ++ [d]) := by
  have ne : ∀ r ys, H r = some (.tup ys) → r ≠ a := fun r ys e q => by rw [q, h.hd] at e; cases e
  refine ⟨by rw [e, List.map_append]; rfl, by simp [h.len], fun k r y q1 q2 => ?_⟩
  by_cases hk : k < rs.length
  · rw [List.getElem?_append_left hk] at q1
    rw [List.getElem?_append_left (by rw [← h.len]; exact hk)] at q2
    have := h.it k r y q1 q2
    exact s _ _ (ne _ _ this) this
  · have hk : k = rs.length := by
      have := (List.getElem?_eq_some_iff.mp q1).1
      simp at this
      omega
    rw [List.getElem?_append_right (by omega), hk, Nat.sub_self] at q1
    rw [List.getElem?_append_right (by rw [← h.len]; omega), hk, h.len, Nat.sub_self] at q2
    have e1 : t = r := Option.some.inj q1
    have e2 : d = y := Option.some.inj q2
    subst e1 e2
    exact s _ _ (ne _ _ ht) ht
/-! ### one sign of a text by a slice -/
theorem slice_any {l : List Nat} {i j : Nat} (h1 : i ≤ j) (hi : i ≤ l.length) : Txt.slice (S l) (some (i : Int)) (some (j : Int)) = S ((l.take j).drop i) := by
  by_cases hj : j ≤ l.length
  · exact slice_both h1 hj
  · have e2 : Txt.slice (S l) (some (i : Int)) (some (j : Int)) = Txt.slice (S l) (some (i : Int)) (some (l.length : Int)) := by
      unfold Txt.slice
      rw [S_len, idx_hi (by omega)]
    rw [e2, List.take_of_length_le (by omega), slice_both hi (Nat.le_refl _), List.take_length]
theorem g_slAny {H : Hp} {Q : VK} {l : List Nat} {i j : Nat} (h : l.length ≤ 100000) (h1 : i ≤ j) (hi : i ≤ l.length) (q : Q (Tx ((l.take j).drop i)) H) : rSlTx (Tx l) (some (i : Int)) (some (j : Int)) H Q := ⟨l, rfl, h, by rw [slice_any h1 hi]; exact q⟩
theorem g_slOne {H : Hp} {Q : VK} {l : List Nat} {i : Nat} {x y : Int} (hx : x = (i : Int)) (hy : y = ((i + 1 : Nat) : Int)) (h : l.length ≤ 100000) (hi : i ≤ l.length) (q : Q (Tx ((l.drop i).take 1)) H) : rSlTx (Tx l) (some x) (some y) H Q := by
  subst hx hy
  refine g_slAny h (by omega) hi ?_
  rw [List.drop_take, show i + 1 - i = 1 by omega]
  exact q
section
variable {K : PySem.W.Frag} {σ : L2.St} {H : Hp} {g : TG} {tb : TS} {D : Ends} {a b : Addr} {xs ys : List V}
/-- for x, y in zip(xs, ys) -/
theorem for_zipN (n : Nat) (Pv : Nat → L2.St → Hp → Prop) (hl : n = min xs.length ys.length) (h0 : Pv 0 σ H) (hq : ∀ i σ H, i ≤ n → Pv i σ H → SqL K H a xs ∧ SqL K H b ys)
    (hs : ∀ i x y σ H t H1, xs[i]? = some x → ys[i]? = some y → Pv i σ H → H t = none → Same H H1 → H1 t = some (.tup [x, y]) → g (.ref t) σ H1 fun σ2 H2 => tb { D with nx := Pv (i + 1), ct := Pv (i + 1), bk := D.nx } σ2 H2) (hd : ∀ σ H, Pv n σ H → D.nx σ H) : ForR (Itz K a b) g tb D σ H := by
  refine for_it (walk_zip (xs := xs) (ys := ys) (n := n) hl) (fun i σ H => Pv i σ H) h0 (fun i σ H hi p => hq i σ H hi p) (fun i v σ H H' hi p y => ?_) (fun σ H p => hd σ H p)
  obtain ⟨t, x1, x2, rfl, nt, rfl, e1, e2⟩ := y
  exact hs i x1 x2 σ H t _ e1 e2 p nt (Same.new nt) upd_same
end
theorem cutV_from {xs : List V} {i : Nat} : cutV xs (some (i : Int)) none = xs.drop i := by
  unfold cutV
  have e1 : HT.sIx xs.length 0 (some (i : Int)) = min i xs.length := by unfold HT.sIx; simp; omega
  have e2 : HT.sIx xs.length xs.length none = xs.length := by unfold HT.sIx; simp
  rw [e1, e2, List.take_of_length_le (by rw [List.length_drop]; exact Nat.le_refl _)]
  by_cases h : i ≤ xs.length
  · rw [Nat.min_eq_left h]
  · rw [List.drop_eq_nil_of_le (by omega), List.drop_eq_nil_of_le (by omega)]
theorem chB_iff : ∀ {ds : List Deed}, chB ds = true ↔ ∀ (k : Nat) (d e : Deed), ds[k]? = some d → ds[k + 1]? = some e → nxB d e = true
  | [] => ⟨fun _ k d e h => by simp at h, fun _ => rfl⟩
  | [d] => ⟨fun _ k d e _ h => by simp at h, fun _ => rfl⟩
  | d :: e :: r => by
    rw [chB, Bool.and_eq_true, chB_iff (ds := e :: r)]
    constructor
    · rintro ⟨h1, h2⟩ k x y hx hy
      cases k with
      | zero =>
        have a := Option.some.inj hx
        have b := Option.some.inj hy
        rw [← a, ← b]
        exact h1
      | succ k => exact h2 k x y hx hy
    · intro h
      exact ⟨h 0 d e rfl rfl, fun k x y hx hy => h (k + 1) x y hx hy⟩
theorem nxB_lt {d e : Deed} (h : d.1 < e.1) : nxB d e = true := by
  unfold nxB
  rw [decide_eq_true h]
  rfl
theorem nxB_put {d e : Deed} (h : d.1 ≤ e.1) (hp : d.2.isPut = true) : nxB d e = true := by
  unfold nxB
  rw [hp]
  by_cases h1 : d.1 < e.1
  · rw [decide_eq_true h1]; rfl
  · rw [decide_eq_true (show d.1 = e.1 by omega)]; simp
theorem brk_getD {k : Nat} (h : k < 8) : BRK[k]? = some (BRK.getD k 0) := by
  rw [List.getD_eq_getElem?_getD, List.getElem?_eq_getElem (show k < BRK.length from h)]
  rfl
end Ly

set_option maxHeartbeats 4000000
namespace Ly
/-! ### deeds as rows of steps -/
inductive Stp where
  | kp (c : Nat)
  | st (c : Nat)
  | tn (c d : Nat)
  | pt (d : Nat)
  deriving DecidableEq
def Stp.i : Stp → List Nat
  | .kp c => [c]
  | .st c => [c]
  | .tn c _ => [c]
  | .pt _ => []
def Stp.o : Stp → List Nat
  | .kp c => [c]
  | .st _ => []
  | .tn _ d => [d]
  | .pt d => [d]
def Stp.ok : Stp → Prop
  | .kp _ => True
  | .st c => c ∈ BRK
  | .tn c d => c ∈ BRK ∧ d ∈ BRK ∧ d ≠ c
  | .pt d => d ∈ BRK
def inS (α : List Stp) : List Nat := (α.map Stp.i).flatten
def outS (α : List Stp) : List Nat := (α.map Stp.o).flatten
def okS (α : List Stp) : Prop := ∀ s ∈ α, s.ok
theorem inS_cons (s : Stp) (α : List Stp) : inS (s :: α) = s.i ++ inS α := rfl
theorem outS_cons (s : Stp) (α : List Stp) : outS (s :: α) = s.o ++ outS α := rfl
/-! the row of steps of deeds -/
/-! ### deeds that lead back -/
/-! ### rows of old and new signs -/
abbrev Rw := Option Nat × List Nat
section
open PySem PySem.Spec PyProof.Rows L2 SX
variable {X : Cx} {tg : Expr}
end
end Ly

set_option maxHeartbeats 4000000
namespace Ly
open PySem PySem.Spec PyProof.Rows L2 SX
/-! ### exceptions that are caught and kept -/
section
variable {X : Cx} {pins : List (Addr × Obj)} {σ : L2.St} {H : Hp} {s : Shared}
end
section
variable {X : Cx} {x n : Str} {c : Value} {i : Nat} {body suite : List Stmt} {b₀ : Stmt} {np pos pos' : Pos} {tb : WX → TS} {ts : Addr → Value → Option Addr → TS} {Wout : WX}
end
/-! isinstance of a kept exception -/
section
variable {X : Cx}
end
/-! defs that raise -/
section
variable {P : Program} {w : World} {K : PySem.W.Frag} {mg : Str → Option Value} {base : Heap}
end
def tOwnX (sp : Sp) (W : WX) (t : TA) : TE := fun σ H Q => t σ H fun vs H1 => sp vs H1 Q (fun cls d H2 => W cls d σ H2)
def tMetX (C : Addr) (m : Str) (sp : Sp) (W : WX) (ta : TE) (t : TA) : TE := fun σ H Q => ta σ H fun x H1 => rMetO C m x H1 (t σ H1 fun vs H2 => sp (x :: vs) H2 Q (fun cls d H2 => W cls d σ H2))
section
variable {X : Cx} {k j : Nat} {C : Addr} {x m : Str} {sp : Sp} {p pos apos : Pos} {e o : Expr} {es : List Expr} {ta : TE} {t : TA} {W : WX}
end
/-! what is known of an error's class -/
structure ErrF (K : PySem.W.Frag) (C M : Addr) : Prop where
  x : PySem.W.excIn K C [.type "ValueError", .type "Exception", .type "BaseException", .type "object"] "ValueError.__new__" = true
  kp : PySem.W.keepIn K (.ref C) = true
  sb : PySem.W.subIn K (.ref C) (.type "BaseException") = some true
  ty : PySem.W.typeIn K (.ref C) = some (.type "type")
  ec : ExcC K C
  em : PySem.W.exmOne K (.ref C) (.ref M) = some true
def errB (K : PySem.W.Frag) (C M : Addr) : Bool := PySem.W.excIn K C [.type "ValueError", .type "Exception", .type "BaseException", .type "object"] "ValueError.__new__" && (PySem.W.keepIn K (.ref C) && (PySem.W.subIn K (.ref C) (.type "BaseException") == some true && (PySem.W.typeIn K (.ref C) == some (.type "type") &&
  (PySem.W.findIn K (.ref C) "__getattribute__" == some (some (.builtin "BaseException.__getattribute__")) && (PySem.W.findIn K (.ref C) "__getattr__" == some none && (PySem.W.hasDictIn K C && (PySem.W.findIn K (.ref C) "__class__" == some (some (.builtin "object.__class__")) &&
  (PySem.W.specialIn K (.builtin "object.__class__") "__get__" == some (some (.builtin "getset_descriptor.__get__")) && (PySem.W.takesIn K (.builtin "object.__class__") == some true && (PySem.W.mroIn K C (.type "object") == some true && PySem.W.exmOne K (.ref C) (.ref M) == some true))))))))))
theorem errB_ok {K : PySem.W.Frag} {C M : Addr} (h : errB K C M = true) : ErrF K C M := by
  unfold errB at h
  simp only [Bool.and_eq_true, beq_iff_eq] at h
  obtain ⟨h1, h2, h3, h4, h5, h6, h7, h8, h9, h10, h11, h12⟩ := h
  exact ⟨h1, h2, h3, h4, ⟨h5, h6, h3, h7, h8, h9, h10, h11⟩, h12⟩
theorem all_at {bs : List Bool} (h : bs.all id = true) {i : Nat} {b : Bool} (e : bs[i]? = some b) : b = true := List.all_eq_true.mp h b (List.mem_of_getElem? e)
/-! readings -/
section
variable {K : PySem.W.Frag} {H : Hp} {Q : VK} {a D : Addr}
end
end Ly

set_option maxHeartbeats 4000000
namespace Ly
open PySem PySem.Spec PyProof.Rows L2 SX
/-! ### promises that stand where nothing is being shown: repr -/
section
variable {P : Program} {w : World} {K : PySem.W.Frag} {mg : Str → Option Value} {base : Heap}
end
/-! ### the law's call -/
section
variable {P : Program} {w : World} {K : PySem.W.Frag} {mg mb : Str → Option Value} {k : Nat} {fa a : Addr} {fd : FuncData} {x : Str} {sp : Sp} {s₁ : Shared} {vs : List Value} {ns : List Int}
end
/-! ### repr of data -/
section
variable {X : Cx}
end
/-! lists of small numbers -/
end Ly

set_option maxHeartbeats 4000000
namespace Ly
open PySem PySem.Spec PyProof.Rows L2 SX
/-! ### paths, depths, the nests within a nest -/
/-! ways of the maker -/
section
variable {fs : List (List Nd × Nat)} {cur ds : List Nd} {c o : Nat}
end
/-! what a path leads to -/
def Rch : List Nd → List Nat → Nd → Prop
  | _, [], _ => False
  | ds, [k], d => ds[k]? = some d
  | ds, k :: j :: p, d => ∃ o es, ds[k]? = some (.br o es) ∧ Rch es (j :: p) d
theorem Rch.cons {ds es : List Nd} {k o : Nat} {p : List Nat} {d : Nd} (h : ds[k]? = some (.br o es)) (r : Rch es p d) : Rch ds (k :: p) d := by
  cases p with
  | nil => exact r.elim
  | cons j p => exact ⟨o, es, h, r⟩
/-! the text within -/
/-! an opening sign of a nest's text opens the nest that stands there in the row of nests within -/
end Ly

set_option maxHeartbeats 4000000
namespace Ly
open PySem PySem.Spec PyProof.Rows L2 SX
/-! ### len(set) of tuples of ints -/
/-! ### nests side by side -/
/-! paths: all different, each behind the one it goes on from -/
/-! outlines side by side, within -/
end Ly

set_option maxHeartbeats 4000000
namespace Ly
/-! ### all rows of steps with so many deeds, counted -/
def Stp.wd (W : Wd) : Stp → Prop
  | .kp _ => True
  | .st _ => W.st = true
  | .tn _ _ => W.tn = true
  | .pt _ => W.pt = true
def cstS : List Stp → Nat
  | [] => 0
  | .kp _ :: α => cstS α
  | .st _ :: α => cstS α + 1
  | .tn _ _ :: α => cstS α + 1
  | .pt _ :: α => cstS α + 1
/-- all rows of steps by words, from a pile of awaited ones, over a text, with so many deeds, in order -/
def rowsL (W : Wd) (st r : List Nat) (n : Nat) : List (List Stp) :=
  (match n with
   | 0 => []
   | n + 1 => if W.pt = true then BRK.flatMap fun c => (match stp (some st) c with | none => [] | some s => rowsL W s r n).map (Stp.pt c :: ·) else [])
  ++ (match r with
   | [] => if st = [] ∧ n = 0 then [[]] else []
   | x :: r => if x ∈ BRK then
        (match n with
         | 0 => []
         | n + 1 => (if W.st = true then (rowsL W st r n).map (Stp.st x :: ·) else []) ++ (if W.tn = true then (BRK.filter (· ≠ x)).flatMap fun c => (match stp (some st) c with | none => [] | some s => rowsL W s r n).map (Stp.tn x c :: ·) else []))
        ++ (match stp (some st) x with | none => [] | some s => rowsL W s r n).map (Stp.kp x :: ·)
      else (rowsL W st r n).map (Stp.kp x :: ·))
termination_by n + r.length
/-! series -/
abbrev Ser := Nat → Nat
def sh (f : Ser) : Ser := fun n => match n with | 0 => 0 | n + 1 => f n
def gat (b : Bool) (f : Ser) : Ser := fun n => if b = true then f n else 0
def bS (cs : List Nat) (f : Nat → Ser) : Ser := fun n => (cs.map fun c => f c n).sum
def An (W : Wd) (st r : List Nat) : Ser := fun n => (rowsL W st r n).length
/-! products -/
/-- closing what is awaited last, then the rest -/
def Cl (W : Wd) (k : Nat) (st v : List Nat) : Ser := fun n => sh (gat W.pt (An W st v)) n + match v with
  | [] => 0
  | x :: v => if x ∈ BRK then (if x = k then An W st v n else sh (gat W.tn (An W st v)) n) else 0
end Ly

set_option maxHeartbeats 4000000
namespace Ly
/-! ### the least number with how many, of a series -/
end Ly

set_option maxHeartbeats 4000000
namespace Ly
/-! ### rows of steps -/
structure Row (W : Wd) (st r : List Nat) (n : Nat) (α : List Stp) : Prop where
  ok : okS α
  wd : ∀ s ∈ α, s.wd W
  tx : inS α = r
  ct : cstS α = n
  fo : (outS α).foldl stp (some st) = some []
section
variable {W : Wd} {st s r : List Nat} {n c x : Nat} {β : List Stp}
theorem okS_cons {y : Stp} : okS (y :: β) ↔ y.ok ∧ okS β := by
  unfold okS
  simp
theorem wd_cons {y : Stp} : (∀ s ∈ y :: β, s.wd W) ↔ y.wd W ∧ ∀ s ∈ β, s.wd W := by simp
theorem Row.pt (hp : W.pt = true) (hc : c ∈ BRK) (hs : stp (some st) c = some s) (h : Row W s r n β) : Row W st r (n + 1) (.pt c :: β) :=
  ⟨okS_cons.mpr ⟨hc, h.ok⟩, wd_cons.mpr ⟨hp, h.wd⟩, h.tx, by show cstS β + 1 = n + 1; rw [h.ct], by show (outS β).foldl stp (stp (some st) c) = some []; rw [hs]; exact h.fo⟩
theorem Row.str (hp : W.st = true) (hx : x ∈ BRK) (h : Row W st r n β) : Row W st (x :: r) (n + 1) (.st x :: β) :=
  ⟨okS_cons.mpr ⟨hx, h.ok⟩, wd_cons.mpr ⟨hp, h.wd⟩, by show x :: inS β = x :: r; rw [h.tx], by show cstS β + 1 = n + 1; rw [h.ct], h.fo⟩
theorem Row.tn (hp : W.tn = true) (hx : x ∈ BRK) (hc : c ∈ BRK) (hn : c ≠ x) (hs : stp (some st) c = some s) (h : Row W s r n β) : Row W st (x :: r) (n + 1) (.tn x c :: β) :=
  ⟨okS_cons.mpr ⟨⟨hx, hc, hn⟩, h.ok⟩, wd_cons.mpr ⟨hp, h.wd⟩, by show x :: inS β = x :: r; rw [h.tx], by show cstS β + 1 = n + 1; rw [h.ct], by show (outS β).foldl stp (stp (some st) c) = some []; rw [hs]; exact h.fo⟩
theorem Row.kp (hs : stp (some st) x = some s) (h : Row W s r n β) : Row W st (x :: r) n (.kp x :: β) :=
  ⟨okS_cons.mpr ⟨trivial, h.ok⟩, wd_cons.mpr ⟨trivial, h.wd⟩, by show x :: inS β = x :: r; rw [h.tx], h.ct, by show (outS β).foldl stp (stp (some st) x) = some []; rw [hs]; exact h.fo⟩
theorem fold_some {o : Option (List Nat)} {l t : List Nat} (h : l.foldl stp o = some t) : ∃ s, o = some s := by
  cases o with
  | none => rw [fold_none] at h; cases h
  | some s => exact ⟨s, rfl⟩
theorem Row.ipt (h : Row W st r n (.pt c :: β)) : W.pt = true ∧ c ∈ BRK ∧ ∃ s m, stp (some st) c = some s ∧ n = m + 1 ∧ Row W s r m β := by
  obtain ⟨h1, h2, h3, h4, h5⟩ := h
  have h5' : (outS β).foldl stp (stp (some st) c) = some [] := h5
  obtain ⟨s, hs⟩ := fold_some h5'
  rw [hs] at h5'
  exact ⟨(wd_cons.mp h2).1, (okS_cons.mp h1).1, s, cstS β, hs, h4.symm, (okS_cons.mp h1).2, (wd_cons.mp h2).2, h3, rfl, h5'⟩
theorem Row.ist (h : Row W st r n (.st x :: β)) : W.st = true ∧ x ∈ BRK ∧ ∃ r' m, r = x :: r' ∧ n = m + 1 ∧ Row W st r' m β := by
  obtain ⟨h1, h2, h3, h4, h5⟩ := h
  exact ⟨(wd_cons.mp h2).1, (okS_cons.mp h1).1, inS β, cstS β, h3.symm, h4.symm, (okS_cons.mp h1).2, (wd_cons.mp h2).2, rfl, rfl, h5⟩
theorem Row.itn (h : Row W st r n (.tn x c :: β)) : W.tn = true ∧ x ∈ BRK ∧ c ∈ BRK ∧ c ≠ x ∧ ∃ s r' m, stp (some st) c = some s ∧ r = x :: r' ∧ n = m + 1 ∧ Row W s r' m β := by
  obtain ⟨h1, h2, h3, h4, h5⟩ := h
  have h5' : (outS β).foldl stp (stp (some st) c) = some [] := h5
  obtain ⟨s, hs⟩ := fold_some h5'
  rw [hs] at h5'
  obtain ⟨⟨a1, a2, a3⟩, a4⟩ := okS_cons.mp h1
  exact ⟨(wd_cons.mp h2).1, a1, a2, a3, s, inS β, cstS β, hs, h3.symm, h4.symm, a4, (wd_cons.mp h2).2, rfl, rfl, h5'⟩
theorem Row.ikp (h : Row W st r n (.kp x :: β)) : ∃ s r', stp (some st) x = some s ∧ r = x :: r' ∧ Row W s r' n β := by
  obtain ⟨h1, h2, h3, h4, h5⟩ := h
  have h5' : (outS β).foldl stp (stp (some st) x) = some [] := h5
  obtain ⟨s, hs⟩ := fold_some h5'
  rw [hs] at h5'
  exact ⟨s, inS β, hs, h3.symm, (okS_cons.mp h1).2, (wd_cons.mp h2).2, rfl, h4, h5'⟩
end
theorem mem_opt {W : Wd} {r : List Nat} {n : Nat} {o : Option (List Nat)} {f : List Stp → List Stp} {α : List Stp} : α ∈ (match o with | none => [] | some s => rowsL W s r n).map f ↔ ∃ s β, o = some s ∧ β ∈ rowsL W s r n ∧ f β = α := by
  cases o with
  | none => simp
  | some s => simp
theorem not_brk {x : Nat} (h : x ∉ BRK) (st : Option (List Nat)) : stp st x = st := stp_let (fun q => h (brk_or.mpr (.inl q))) (fun q => h (brk_or.mpr (.inr q)))
theorem rows_sound {W : Wd} : ∀ (N n : Nat) (r st : List Nat) (α : List Stp), n + r.length ≤ N → α ∈ rowsL W st r n → Row W st r n α := by
  intro N
  induction N with
  | zero =>
    intro n r st α h hm
    have h1 : n = 0 := by omega
    have h2 : r = [] := List.length_eq_zero_iff.mp (by omega)
    subst h1 h2
    rw [rowsL.eq_def] at hm
    dsimp only at hm
    rw [List.nil_append] at hm
    by_cases hs : st = [] ∧ 0 = 0
    · rw [if_pos hs] at hm
      rw [List.mem_singleton.mp hm, hs.1]
      exact ⟨(fun _ h => nomatch h), (fun _ h => nomatch h), rfl, rfl, rfl⟩
    · rw [if_neg hs] at hm; cases hm
  | succ N ih =>
    intro n r st α h hm
    rw [rowsL.eq_def] at hm
    rcases List.mem_append.mp hm with hm | hm
    · cases n with
      | zero => cases hm
      | succ n =>
        dsimp only at hm
        by_cases hp : W.pt = true
        · rw [if_pos hp] at hm
          obtain ⟨c, hc, hm⟩ := List.mem_flatMap.mp hm
          obtain ⟨s, β, hs, hb, rfl⟩ := mem_opt.mp hm
          exact Row.pt hp hc hs (ih n r s β (by omega) hb)
        · rw [if_neg hp] at hm; cases hm
    · cases r with
      | nil =>
        dsimp only at hm
        by_cases hs : st = [] ∧ n = 0
        · rw [if_pos hs] at hm
          rw [List.mem_singleton.mp hm, hs.1, hs.2]
          exact ⟨(fun _ h => nomatch h), (fun _ h => nomatch h), rfl, rfl, rfl⟩
        · rw [if_neg hs] at hm; cases hm
      | cons x r =>
        rw [List.length_cons] at h
        dsimp only at hm
        by_cases hx : x ∈ BRK
        · rw [if_pos hx] at hm
          rcases List.mem_append.mp hm with hm | hm
          · cases n with
            | zero => cases hm
            | succ n =>
              dsimp only at hm
              rcases List.mem_append.mp hm with hm | hm
              · by_cases hp : W.st = true
                · rw [if_pos hp] at hm
                  obtain ⟨β, hb, rfl⟩ := List.mem_map.mp hm
                  exact Row.str hp hx (ih n r st β (by omega) hb)
                · rw [if_neg hp] at hm; cases hm
              · by_cases hp : W.tn = true
                · rw [if_pos hp] at hm
                  obtain ⟨c, hc, hm⟩ := List.mem_flatMap.mp hm
                  obtain ⟨hc1, hc2⟩ := List.mem_filter.mp hc
                  obtain ⟨s, β, hs, hb, rfl⟩ := mem_opt.mp hm
                  exact Row.tn hp hx hc1 (by simpa using hc2) hs (ih n r s β (by omega) hb)
                · rw [if_neg hp] at hm; cases hm
          · obtain ⟨s, β, hs, hb, rfl⟩ := mem_opt.mp hm
            exact Row.kp hs (ih n r s β (by omega) hb)
        · rw [if_neg hx] at hm
          obtain ⟨β, hb, rfl⟩ := List.mem_map.mp hm
          exact Row.kp (not_brk hx _) (ih n r st β (by omega) hb)
theorem rows_all {W : Wd} : ∀ (α : List Stp) (st r : List Nat) (n : Nat), Row W st r n α → α ∈ rowsL W st r n
  | [], st, r, n, h => by
    have h1 : r = [] := h.tx.symm
    have h2 : n = 0 := h.ct.symm
    have h3 : st = [] := Option.some.inj h.fo
    subst h1 h2 h3
    rw [rowsL.eq_def]
    exact List.mem_append_right _ (by dsimp only; rw [if_pos ⟨rfl, rfl⟩]; exact List.mem_singleton.mpr rfl)
  | .pt c :: β, st, r, n, h => by
    obtain ⟨hp, hc, s, m, hs, rfl, hb⟩ := h.ipt
    rw [rowsL.eq_def]
    refine List.mem_append_left _ ?_
    dsimp only
    rw [if_pos hp]
    exact List.mem_flatMap.mpr ⟨c, hc, mem_opt.mpr ⟨s, β, hs, rows_all β s r m hb, rfl⟩⟩
  | .st x :: β, st, r, n, h => by
    obtain ⟨hp, hx, r', m, rfl, rfl, hb⟩ := h.ist
    rw [rowsL.eq_def]
    refine List.mem_append_right _ ?_
    dsimp only
    rw [if_pos hx]
    refine List.mem_append_left _ (List.mem_append_left _ ?_)
    rw [if_pos hp]
    exact List.mem_map.mpr ⟨β, rows_all β st r' m hb, rfl⟩
  | .tn x c :: β, st, r, n, h => by
    obtain ⟨hp, hx, hc, hn, s, r', m, hs, rfl, rfl, hb⟩ := h.itn
    rw [rowsL.eq_def]
    refine List.mem_append_right _ ?_
    dsimp only
    rw [if_pos hx]
    refine List.mem_append_left _ (List.mem_append_right _ ?_)
    rw [if_pos hp]
    exact List.mem_flatMap.mpr ⟨c, List.mem_filter.mpr ⟨hc, by simpa using hn⟩, mem_opt.mpr ⟨s, β, hs, rows_all β s r' m hb, rfl⟩⟩
  | .kp x :: β, st, r, n, h => by
    obtain ⟨s, r', hs, rfl, hb⟩ := h.ikp
    have hm := rows_all β s r' n hb
    rw [rowsL.eq_def]
    refine List.mem_append_right _ ?_
    dsimp only
    by_cases hx : x ∈ BRK
    · rw [if_pos hx]
      exact List.mem_append_right _ (mem_opt.mpr ⟨s, β, hs, hm, rfl⟩)
    · rw [if_neg hx]
      rw [not_brk hx] at hs
      cases hs
      exact List.mem_map.mpr ⟨β, hm, rfl⟩
theorem mem_rows {W : Wd} {st r : List Nat} {n : Nat} {α : List Stp} : α ∈ rowsL W st r n ↔ Row W st r n α := ⟨rows_sound _ n r st α (Nat.le_refl _), rows_all α st r n⟩
theorem An_pos {W : Wd} {st r : List Nat} {n : Nat} : An W st r n ≠ 0 ↔ ∃ α, Row W st r n α := by
  constructor
  · intro h
    have : rowsL W st r n ≠ [] := fun e => h (by show (rowsL W st r n).length = 0; rw [e]; rfl)
    obtain ⟨α, ha⟩ := List.exists_mem_of_ne_nil _ this
    exact ⟨α, mem_rows.mp ha⟩
  · rintro ⟨α, ha⟩ h
    have := List.length_pos_of_mem (mem_rows.mpr ha)
    have h' : (rowsL W st r n).length = 0 := h
    omega
/-! ### rows put together -/
theorem okS_app {α β : List Stp} (h1 : okS α) (h2 : okS β) : okS (α ++ β) := fun s hs => (List.mem_append.mp hs).elim (h1 s) (h2 s)
theorem inS_app (α β : List Stp) : inS (α ++ β) = inS α ++ inS β := by unfold inS; rw [List.map_append, List.flatten_append]
theorem outS_app (α β : List Stp) : outS (α ++ β) = outS α ++ outS β := by unfold outS; rw [List.map_append, List.flatten_append]
theorem cstS_app : ∀ (α β : List Stp), cstS (α ++ β) = cstS α + cstS β
  | [], β => (Nat.zero_add _).symm
  | .kp _ :: α, β => cstS_app α β
  | .st _ :: α, β => by show cstS (α ++ β) + 1 = cstS α + 1 + cstS β; rw [cstS_app α β]; omega
  | .tn _ _ :: α, β => by show cstS (α ++ β) + 1 = cstS α + 1 + cstS β; rw [cstS_app α β]; omega
  | .pt _ :: α, β => by show cstS (α ++ β) + 1 = cstS α + 1 + cstS β; rw [cstS_app α β]; omega
theorem Row.app {W : Wd} {u v : List Nat} {a b : Nat} {α β : List Stp} (h1 : Row W [] u a α) (h2 : Row W [] v b β) : Row W [] (u ++ v) (a + b) (α ++ β) :=
  ⟨okS_app h1.ok h2.ok, fun s hs => (List.mem_append.mp hs).elim (h1.wd s) (h2.wd s), by rw [inS_app, h1.tx, h2.tx], by rw [cstS_app, h1.ct, h2.ct], by rw [outS_app, List.foldl_append, h1.fo]; exact h2.fo⟩
theorem An_app {W : Wd} {u v : List Nat} {a b : Nat} (h1 : An W [] u a ≠ 0) (h2 : An W [] v b ≠ 0) : An W [] (u ++ v) (a + b) ≠ 0 := by
  obtain ⟨α, ha⟩ := An_pos.mp h1
  obtain ⟨β, hb⟩ := An_pos.mp h2
  exact An_pos.mpr ⟨_, ha.app hb⟩
/-- a sign made into another one, or kept -/
def asS (x c : Nat) : Stp := if c = x then .kp x else .tn x c
def asC (x c : Nat) : Nat := if c = x then 0 else 1
theorem Row.as {W : Wd} {st s r : List Nat} {n x c : Nat} {β : List Stp} (hp : c = x ∨ W.tn = true) (hx : x ∈ BRK) (hc : c ∈ BRK) (hs : stp (some st) c = some s) (h : Row W s r n β) : Row W st (x :: r) (asC x c + n) (asS x c :: β) := by
  unfold asS asC
  by_cases e : c = x
  · rw [if_pos e, if_pos e, Nat.zero_add]
    subst e
    exact Row.kp hs h
  · rw [if_neg e, if_neg e, Nat.add_comm]
    exact Row.tn (hp.resolve_left e) hx hc e hs h
/-- what stands on a pile that stays -/
theorem Row.fr {W : Wd} {u : List Nat} {a : Nat} {α : List Stp} (h : Row W [] u a α) {st r : List Nat} {n : Nat} {β : List Stp} (hb : Row W st r n β) : Row W st (u ++ r) (a + n) (α ++ β) :=
  ⟨okS_app h.ok hb.ok, fun s hs => (List.mem_append.mp hs).elim (h.wd s) (hb.wd s), by rw [inS_app, h.tx, hb.tx], by rw [cstS_app, h.ct, hb.ct], by
    rw [outS_app, List.foldl_append, fold_run (r := []) h.fo]
    exact hb.fo⟩
theorem Row.nil {W : Wd} : Row W [] [] 0 [] := ⟨(fun _ h => nomatch h), (fun _ h => nomatch h), rfl, rfl, rfl⟩
theorem few_way : ∀ x ∈ BRK, ∀ d ∈ BRK, ∃ o ∈ OPN, asC x o + asC d (oth o) = (few x d).1 := by decide
theorem An_pair {W : Wd} {x d : Nat} (hx : x ∈ BRK) (hd : d ∈ BRK) (hg : (few x d).1 = 0 ∨ W.tn = true) {u : List Nat} {a : Nat} (h : An W [] u a ≠ 0) : An W [] (x :: (u ++ [d])) (a + (few x d).1) ≠ 0 := by
  obtain ⟨α, ha⟩ := An_pos.mp h
  obtain ⟨o, ho, ec⟩ := few_way x hx d hd
  have hob := brk_or.mpr (.inl ho)
  have hcb := oth_brk o hob
  have p1 : o = x ∨ W.tn = true := by
    by_cases e : o = x
    · exact .inl e
    · refine .inr (hg.resolve_left ?_)
      have : asC x o = 1 := if_neg e
      omega
  have p2 : oth o = d ∨ W.tn = true := by
    by_cases e : oth o = d
    · exact .inl e
    · refine .inr (hg.resolve_left ?_)
      have : asC d (oth o) = 1 := if_neg e
      omega
  have h2 : Row W [oth o] [d] (asC d (oth o) + 0) [asS d (oth o)] := Row.as p2 hd hcb (stp_clo (oth_clo o ho)) Row.nil
  have h3 := Row.as p1 hx hob (stp_opn ho) (ha.fr h2)
  rw [show asC x o + (a + (asC d (oth o) + 0)) = a + (few x d).1 by omega] at h3
  exact An_pos.mpr ⟨_, h3⟩
end Ly

set_option maxHeartbeats 4000000
namespace Ly
/-! ### all that begins so: what is least of it -/
section
variable {W : Wd}
def g1 (W : Wd) (x : Nat) (v : List Nat) : Ser := fun n => (if x ∈ OPN then Cl W (oth x) [] v n else 0) + sh (gat W.tn (bS (OPN.filter (· ≠ x)) fun o => Cl W (oth o) [] v)) n
def g2 (W : Wd) (v : List Nat) : Ser := sh (gat W.pt (bS OPN fun o => Cl W (oth o) [] v))
/-! the least ones -/
/-! pairs -/
def n0 (x d : Nat) : Nat := if x ∈ OPN ∧ d = oth x then 1 else 0
def n1 (x d : Nat) : Nat := (if x ∈ OPN ∧ d ≠ oth x then 1 else 0) + (OPN.filter (· ≠ x)).countP (fun o => decide (d = oth o))
def n2 (x d : Nat) : Nat := (OPN.filter (· ≠ x)).length - (OPN.filter (· ≠ x)).countP (fun o => decide (d = oth o))
end
end Ly

set_option maxHeartbeats 4000000
namespace Ly
/-! ### the table's numbers are the least ones, with how many -/
end Ly

set_option maxHeartbeats 4000000
namespace Ly
/-! ### with some brackets open: the least number from each place on -/
def clC (W : Wd) (l : List Nat) (k : Nat) (F : Nat → MC) (m : Nat) : MC := mAdd (if W.pt = true then mMul w1 (F m) else none) (match l[m]? with
  | none => none
  | some x => if x = k then F (m + 1) else if x ∈ BRK ∧ W.tn = true then mMul w1 (F (m + 1)) else none)
def LV (W : Wd) (l : List Nat) : List Nat → Nat → MC
  | [], i => mcN l W i l.length
  | k :: st, i => sm (fun t => mMul (mcN l W i (i + t)) (clC W l k (LV W l st) (i + t))) (l.length - i + 1)
/-! ### what can be done at a place, in order -/
def Stp.c : Stp → Nat
  | .kp _ => 0
  | _ => 1
/-- the pile behind a step -/
def nxS (st : List Nat) (s : Stp) : Option (List Nat) := s.o.foldl stp (some st)
/-- how many go on by a step, with just so many deeds -/
def mb (W : Wd) (l : List Nat) (st : List Nat) (i n : Nat) (s : Stp) : Nat := match nxS st s with
  | none => 0
  | some st' => match LV W l st' (i + s.i.length) with
    | none => 0
    | some p => if p.1 + s.c = n then p.2 else 0
end Ly

set_option maxHeartbeats 4000000
namespace Ly
/-! ### how many at most, how great the least number at most -/
/-! ### the row with a number -/
end Ly

set_option maxHeartbeats 4000000
namespace Ly
open PySem PySem.Spec PyProof.Rows L2 SX
/-! ### things side by side -/
end Ly

set_option maxHeartbeats 4000000
namespace Ly
/-! ### so many deeds are enough: strikes and turned pairs, by lists -/
inductive Mx : List Nat → Nat → Prop
  | nil : Mx [] 0
  | let_ {x n : Nat} {r : List Nat} : x ∉ BRK → Mx r n → Mx (x :: r) n
  | str {x n : Nat} {r : List Nat} : x ∈ BRK → Mx r n → Mx (x :: r) (n + 1)
  | pair {x d a b : Nat} {u v : List Nat} : x ∈ BRK → d ∈ BRK → Mx u a → Mx v b → Mx (x :: (u ++ d :: v)) (tns x d + a + b)
theorem Mx.app {u v : List Nat} {a b : Nat} (h : Mx u a) (h2 : Mx v b) : Mx (u ++ v) (a + b) := by
  induction h with
  | nil => rw [Nat.zero_add]; exact h2
  | let_ e _ ih => exact .let_ e ih
  | @str x n r e _ ih =>
    rw [show n + 1 + b = n + b + 1 by omega]
    exact .str e ih
  | @pair x d a b' u v e1 e2 h3 _ _ ih =>
    rw [List.cons_append, List.append_assoc, List.cons_append, Nat.add_assoc]
    exact .pair e1 e2 h3 ih
theorem Mx.one {x : Nat} (h : x ∈ BRK) : Mx [x] 1 := .str h .nil
theorem app_split {α : Type} {u v a z : List α} {d o : α} (h : u ++ d :: v = a ++ o :: z) : (∃ c, u = a ++ o :: c ∧ z = c ++ d :: v) ∨ (u = a ∧ d = o ∧ v = z) ∨ (∃ c, a = u ++ d :: c ∧ v = c ++ o :: z) := by
  rcases List.append_eq_append_iff.mp h with ⟨as, h1, h2⟩ | ⟨bs, h1, h2⟩
  · cases as with
    | nil =>
      rw [List.append_nil] at h1
      cases h2
      exact .inr (.inl ⟨h1.symm, rfl, rfl⟩)
    | cons x as =>
      cases h2
      exact .inr (.inr ⟨as, h1, rfl⟩)
  · cases bs with
    | nil =>
      rw [List.append_nil] at h1
      cases h2
      exact .inr (.inl ⟨h1, rfl, rfl⟩)
    | cons x bs =>
      cases h2
      exact .inl ⟨bs, h1, rfl⟩
theorem Mx.last {w : List Nat} {n : Nat} (h : Mx w n) : ∀ {u : List Nat} {y : Nat}, w = u ++ [y] → y ∈ BRK → (∃ m, Mx u m ∧ m + 1 ≤ n) ∨ (∃ a1 Y a2 p q, u = a1 ++ Y :: a2 ∧ Y ∈ BRK ∧ Mx a1 p ∧ Mx a2 q ∧ tns Y y + p + q ≤ n) := by
  induction h with
  | nil => intro u y e; cases u <;> cases e
  | @let_ x n r hx hr ih =>
    intro u y e hy
    cases u with
    | nil => cases e; exact absurd hy hx
    | cons z u =>
      cases e
      rcases ih rfl hy with ⟨m, h1, h2⟩ | ⟨a1, Y, a2, p, q, rfl, h2, h3, h4, h5⟩
      · exact .inl ⟨m, .let_ hx h1, h2⟩
      · exact .inr ⟨x :: a1, Y, a2, p, q, rfl, h2, .let_ hx h3, h4, h5⟩
  | @str x n r hx hr ih =>
    intro u y e hy
    cases u with
    | nil => cases e; exact .inl ⟨0, .nil, by omega⟩
    | cons z u =>
      cases e
      rcases ih rfl hy with ⟨m, h1, h2⟩ | ⟨a1, Y, a2, p, q, rfl, h2, h3, h4, h5⟩
      · exact .inl ⟨m + 1, .str hx h1, by omega⟩
      · exact .inr ⟨x :: a1, Y, a2, p + 1, q, rfl, h2, .str hx h3, h4, by omega⟩
  | @pair x d a b s v hx hd hs hv ih1 ih2 =>
    intro u y e hy
    cases u with
    | nil =>
      exfalso
      have := congrArg List.length e
      simp at this
    | cons z u =>
      rw [List.cons_append] at e
      have ex : x = z := (List.cons.inj e).1
      subst ex
      rcases app_split (List.cons.inj e).2 with ⟨c, h1, h2⟩ | ⟨h1, h2, h3⟩ | ⟨c, h1, h2⟩
      · exfalso
        cases c <;> cases h2
      · subst h1 h2 h3
        have : b = 0 := by cases hv; rfl
        subst this
        exact .inr ⟨[], x, s, 0, a, rfl, hx, .nil, hs, by omega⟩
      · subst h1
        rcases ih2 h2 hy with ⟨m, g1, g2⟩ | ⟨a1, Y, a2, p, q, rfl, g2, g3, g4, g5⟩
        · exact .inl ⟨tns x d + a + m, .pair hx hd hs g1, by omega⟩
        · exact .inr ⟨x :: (s ++ d :: a1), Y, a2, tns x d + a + p, q, by simp, g2, .pair hx hd hs g3, g4, by omega⟩
/-- the first bracket struck or made a pair -/
theorem Mx.first {x n : Nat} {r : List Nat} (h : Mx (x :: r) n) (hx : x ∈ BRK) : (∃ m, Mx r m ∧ n = m + 1) ∨ (∃ u d v p q, r = u ++ d :: v ∧ d ∈ BRK ∧ Mx u p ∧ Mx v q ∧ n = tns x d + p + q) := by
  cases h with
  | let_ h _ => exact absurd hx h
  | str _ h => exact .inl ⟨_, h, rfl⟩
  | pair _ hd h1 h2 => exact .inr ⟨_, _, _, _, _, rfl, hd, h1, h2, rfl⟩
/-! ### the least number -/
theorem Mx.An {W : Wd} (hs : W.st = true) (ht : W.tn = true) {l : List Nat} {n : Nat} (h : Mx l n) : An W [] l n ≠ 0 := by
  induction h with
  | nil => exact An_pos.mpr ⟨_, Row.nil⟩
  | let_ hx _ ih =>
    obtain ⟨α, ha⟩ := An_pos.mp ih
    exact An_pos.mpr ⟨_, Row.kp (not_brk hx _) ha⟩
  | str hx _ ih =>
    obtain ⟨α, ha⟩ := An_pos.mp ih
    exact An_pos.mpr ⟨_, Row.str hs hx ha⟩
  | @pair x d a b u v hx hd _ _ ih1 ih2 =>
    have := An_app (An_pair hx hd (.inr ht) ih1) ih2
    rw [few_tns x hx d hd, show x :: (u ++ [d]) ++ v = x :: (u ++ d :: v) by simp, show a + tns x d + b = tns x d + a + b by omega] at this
    exact this
/-! a clean text put in -/
end Ly

set_option maxHeartbeats 4000000
namespace Ly
/-! ### rows cut, changed at one place -/
section
variable {W : Wd} {a b : List Nat} {n : Nat}
end
/-! ### laws of the least number -/
theorem clean_one {x : Nat} (h : x ∉ BRK) : clean [x] := by
  show [x].foldl stp (some []) = some []
  rw [List.foldl_cons, not_brk h]
  rfl
/-! clean texts -/
end Ly

set_option maxHeartbeats 4000000
namespace Ly
open PySem PySem.Spec PyProof.Rows L2 SX
/-! ### lists of deeds as values -/
def DdV (H : Hp) (v : V) (d : Deed) : Prop := ∃ r, v = .ref r ∧ H r = some (.tup (ddV d))
theorem DdV.same {H H' : Hp} {v : V} {d : Deed} (h : DdV H v d) (s : Same H H') : DdV H' v d := by
  obtain ⟨r, h1, h2⟩ := h
  exact ⟨r, h1, s _ _ h2⟩
theorem DdV.but {H H' : Hp} {v : V} {d : Deed} {p : Addr} (h : DdV H v d) (b : But p H H') (hp : ∀ ys, H p ≠ some (.tup ys)) : DdV H' v d := by
  obtain ⟨r, h1, h2⟩ := h
  exact ⟨r, h1, b _ _ (fun e => hp _ (by rw [← e]; exact h2)) h2⟩
/-! ### deeds and rows -/
/-! ### all lists of deeds, one by one -/
end Ly

set_option maxHeartbeats 4000000
namespace Ly
open PySem PySem.Spec PyProof.Rows L2 SX
/-! ### no row stands twice -/
/-! ### the deeds tell the row -/
/-! ### which choice deeds go on by -/
end Ly

set_option maxHeartbeats 4000000
namespace Ly
open PySem PySem.Spec PyProof.Rows L2 SX
/-! ### lists of deeds: which comes first -/
/-! the choices rise -/
/-! list(..), tuple(..) by names -/
def rListOf (K : PySem.W.Frag) : List V → Hp → VK → Prop := fun xs H Q => ∃ p ys, xs = [.ref p] ∧ (SqL K H p ys ∨ SqT K H p ys) ∧ ∀ l, H l = none → Q (.ref l) (upd H l (.lst ys))
def rTupleOf (K : PySem.W.Frag) : List V → Hp → VK → Prop := fun xs H Q => ∃ p ys, xs = [.ref p] ∧ ((SqL K H p ys ∧ ∀ l, H l = none → Q (.ref l) (upd H l (.tup ys))) ∨ (SqT K H p ys ∧ Q (.ref p) H))
theorem g_listOfL {K : PySem.W.Frag} {H : Hp} {Q : VK} {p : Addr} {ys : List V} (h : H p = some (.lst ys)) (q : ∀ l H1, H l = none → Same H H1 → H1 l = some (.lst ys) → Q (.ref l) H1) : rListOf K [.ref p] H Q := ⟨p, ys, rfl, .inl (sq_of h), fun l nl => q l _ nl (Same.new nl) upd_same⟩
theorem g_tupleOfL {K : PySem.W.Frag} {H : Hp} {Q : VK} {p : Addr} {ys : List V} (h : H p = some (.lst ys)) (q : ∀ l H1, H l = none → Same H H1 → H1 l = some (.tup ys) → Q (.ref l) H1) : rTupleOf K [.ref p] H Q := ⟨p, ys, rfl, .inl ⟨sq_of h, fun l nl => q l _ nl (Same.new nl) upd_same⟩⟩
/-! dicts of whole numbers, as sets -/
end Ly

set_option maxHeartbeats 4000000
namespace Ly
open PySem PySem.Spec PyProof.Rows L2 SX
section
variable {K : PySem.W.Frag} {σ : L2.St} {H : Hp} {g : TG} {tb : TS} {D : Ends} {a b : Addr} {xs ys : List V}
end
/-! ### the lists of deeds rise, one by one -/
end Ly

set_option maxHeartbeats 4000000
namespace Ly
open PySem PySem.Spec PyProof.Rows L2 SX
/-! ### how many rows: laws by words -/
def wLe (W W' : Wd) : Prop := (W.pt = true → W'.pt = true) ∧ (W.st = true → W'.st = true) ∧ (W.tn = true → W'.tn = true)
theorem wd_mono {W W' : Wd} (h : wLe W W') {s : Stp} (hs : s.wd W) : s.wd W' := by
  cases s with
  | kp c => trivial
  | st c => exact h.2.1 hs
  | tn c d => exact h.2.2 hs
  | pt d => exact h.1 hs
/-! the signs of a row renamed -/
def Stp.mp (f : Nat → Nat) : Stp → Stp
  | .kp c => .kp (f c)
  | .st c => .st (f c)
  | .tn c d => .tn (f c) (f d)
  | .pt d => .pt (f d)
/-! a row from behind -/
end Ly

set_option maxHeartbeats 4000000
namespace Ly
open PySem PySem.Spec PyProof.Rows L2 SX
/-! ### mended by few words -/
/-- without puts, by strikes -/
def nPut (W : Wd) : Wd := ⟨false, true, W.tn⟩
theorem wd_ap {W : Wd} {a b : List Stp} (h1 : ∀ s ∈ a, s.wd W) (h2 : ∀ s ∈ b, s.wd W) : ∀ s ∈ a ++ b, s.wd W := fun s hs => by
  rcases List.mem_append.mp hs with hs | hs
  · exact h1 s hs
  · exact h2 s hs
theorem wd_con {W : Wd} {y : Stp} {b : List Stp} (h1 : y.wd W) (h2 : ∀ s ∈ b, s.wd W) : ∀ s ∈ y :: b, s.wd W := fun s hs => by
  rcases List.mem_cons.mp hs with rfl | hs
  · exact h1
  · exact h2 s hs
def Stp.ct : Stp → Nat
  | .kp _ => 0
  | _ => 1
theorem cst_cons (s : Stp) (α : List Stp) : cstS (s :: α) = s.ct + cstS α := by
  cases s with
  | kp c => show cstS α = 0 + cstS α; omega
  | st c => show cstS α + 1 = 1 + cstS α; omega
  | tn c d => show cstS α + 1 = 1 + cstS α; omega
  | pt d => show cstS α + 1 = 1 + cstS α; omega
/-- a sign that is put out is struck, or gone -/
theorem gone {W : Wd} {y : Stp} {z : Nat} (hy : y.ok) (hw : y.wd W) (ho : y.o = [z]) (hz : z ∈ BRK) : ∃ γ : List Stp, okS γ ∧ (∀ s ∈ γ, s.wd (nPut W)) ∧ inS γ = y.i ∧ outS γ = [] ∧ ((∃ d, y = .pt d) → cstS γ = 0) ∧ cstS γ ≤ 1 := by
  cases y with
  | kp c =>
    have hc : c = z := by injection ho
    exact ⟨[.st c], okS_cons.mpr ⟨show c ∈ BRK by rw [hc]; exact hz, fun s hs => (by cases hs)⟩, wd_con rfl (fun s hs => (by cases hs)), rfl, rfl, fun ⟨d, h⟩ => (by cases h), Nat.le_refl _⟩
  | st c => cases ho
  | tn c d => exact ⟨[.st c], okS_cons.mpr ⟨hy.1, fun s hs => (by cases hs)⟩, wd_con rfl (fun s hs => (by cases hs)), rfl, rfl, fun ⟨d, h⟩ => (by cases h), Nat.le_refl _⟩
  | pt d => exact ⟨[], fun s hs => (by cases hs), fun s hs => (by cases hs), rfl, rfl, fun _ => rfl, Nat.zero_le _⟩
/-! puts for strikes -/
def Stp.nst : Stp → List Stp
  | .st c => if c ∈ OPN then [.kp c, .pt (oth c)] else [.pt (oth c), .kp c]
  | s => [s]
theorem nst_in (s : Stp) : inS s.nst = s.i := by
  cases s with
  | st c => show inS (if c ∈ OPN then [.kp c, .pt (oth c)] else [.pt (oth c), .kp c]) = [c]; split <;> rfl
  | kp c => rfl
  | tn c d => rfl
  | pt d => rfl
theorem nst_ct (s : Stp) : cstS s.nst = s.ct := by
  cases s with
  | st c => show cstS (if c ∈ OPN then [.kp c, .pt (oth c)] else [.pt (oth c), .kp c]) = 1; split <;> rfl
  | kp c => rfl
  | tn c d => rfl
  | pt d => rfl
theorem nst_ok {s : Stp} (h : s.ok) : okS s.nst := by
  cases s with
  | st c =>
    show okS (if c ∈ OPN then [.kp c, .pt (oth c)] else [.pt (oth c), .kp c])
    have hb : oth c ∈ BRK := oth_brk c h
    split
    · exact okS_cons.mpr ⟨trivial, okS_cons.mpr ⟨hb, fun s hs => (by cases hs)⟩⟩
    · exact okS_cons.mpr ⟨hb, okS_cons.mpr ⟨trivial, fun s hs => (by cases hs)⟩⟩
  | kp c => exact okS_cons.mpr ⟨h, fun s hs => (by cases hs)⟩
  | tn c d => exact okS_cons.mpr ⟨h, fun s hs => (by cases hs)⟩
  | pt d => exact okS_cons.mpr ⟨h, fun s hs => (by cases hs)⟩
theorem nst_wd {W : Wd} {s : Stp} (h : s.wd W) : ∀ t ∈ s.nst, t.wd ⟨true, false, W.tn⟩ := by
  cases s with
  | st c =>
    show ∀ t ∈ (if c ∈ OPN then [Stp.kp c, Stp.pt (oth c)] else [Stp.pt (oth c), Stp.kp c] : List Stp), Stp.wd ⟨true, false, W.tn⟩ t
    split
    · exact wd_con trivial (wd_con rfl fun s hs => (by cases hs))
    · exact wd_con rfl (wd_con trivial fun s hs => (by cases hs))
  | kp c => exact wd_con trivial fun s hs => (by cases hs)
  | tn c d => exact wd_con h fun s hs => (by cases hs)
  | pt d => exact wd_con rfl fun s hs => (by cases hs)
theorem nst_fo {s : Stp} (h : s.ok) (o : Option (List Nat)) : (outS s.nst).foldl stp o = s.o.foldl stp o := by
  cases s with
  | st c =>
    show (outS (if c ∈ OPN then [.kp c, .pt (oth c)] else [.pt (oth c), .kp c])).foldl stp o = o
    cases o with
    | none => split <;> rfl
    | some st =>
      split
      · rename_i h1
        show stp (stp (some st) c) (oth c) = some st
        rw [stp_opn h1, stp_clo (oth_clo c h1)]
      · rename_i h1
        have h2 : c ∈ CLO := (brk_or.mp (show c ∈ BRK from h)).resolve_left h1
        show stp (stp (some st) (oth c)) c = some st
        rw [stp_opn (oth_opn c h2), oth_oth c h, stp_clo h2]
  | kp c => rfl
  | tn c d => rfl
  | pt d => rfl
/-! struck and put for turned -/
/-! only turned -/
/-! ### the seven sets of words -/
end Ly

set_option maxHeartbeats 4000000
namespace Ly
open PySem PySem.Spec PyProof.Rows L2 SX
/-! ### calls without arguments; a method within a comprehension -/
section
variable {X : Cx} {k j : Nat} {x : Str} {sp : Sp} {p pos : Pos}
end
section
variable {X : Cx} {K : PySem.W.Frag} {T id : String} {name : Str} {o e : Expr} {es : List Expr} {to : TE} {t : TA} {apos cpos : Pos} {r : V → List V → Hp → VK → Prop}
end
end Ly

set_option maxHeartbeats 4000000
namespace Ly
open PySem PySem.Spec PyProof.Rows L2 SX
/-! ### least numbers by words -/
inductive Mw (W : Wd) : List Nat → Nat → Prop
  | nil : Mw W [] 0
  | let_ {x n : Nat} {r : List Nat} : x ∉ BRK → Mw W r n → Mw W (x :: r) n
  | str {x n : Nat} {r : List Nat} : x ∈ BRK → W.pt = true ∨ W.st = true → Mw W r n → Mw W (x :: r) (n + 1)
  | pair {x d a b : Nat} {u v : List Nat} : x ∈ BRK → d ∈ BRK → tns x d = 0 ∨ W.tn = true → Mw W u a → Mw W v b → Mw W (x :: (u ++ d :: v)) (tns x d + a + b)
theorem tns_oo : ∀ x ∈ OPN, ∀ d ∈ OPN, tns x d = 1 := by decide
theorem tns_oc : ∀ x ∈ OPN, ∀ d ∈ CLO, tns x d = if d = oth x then 0 else 1 := by decide
theorem tns_cc : ∀ x ∈ CLO, ∀ d ∈ CLO, tns x d = 1 := by decide
theorem tns_co : ∀ x ∈ CLO, ∀ d ∈ OPN, tns x d = 2 := by decide
theorem oth_ne : ∀ x ∈ CLO, ∀ d ∈ CLO, oth d ≠ x := by decide
theorem oth_ne2 : ∀ x ∈ OPN, ∀ d ∈ OPN, oth x ≠ d := by decide
/-- the two steps of a pair -/
theorem pair_steps {W : Wd} {x d : Nat} (hx : x ∈ BRK) (hd : d ∈ BRK) (ht : tns x d = 0 ∨ W.tn = true) : ∃ (o : Nat) (y z : Stp), o ∈ OPN ∧ y.ok ∧ z.ok ∧ y.wd W ∧ z.wd W ∧ y.i = [x] ∧ z.i = [d] ∧ y.o = [o] ∧ z.o = [oth o] ∧ y.ct + z.ct = tns x d := by
  rcases brk_or.mp hx with h1 | h1
  · rcases brk_or.mp hd with h2 | h2
    · have e := tns_oo x h1 d h2
      have t : W.tn = true := by rcases ht with h | h; · omega
                                 · exact h
      exact ⟨x, .kp x, .tn d (oth x), h1, trivial, ⟨hd, oth_brk x hx, oth_ne2 x h1 d h2⟩, trivial, t, rfl, rfl, rfl, rfl, e.symm⟩
    · have e := tns_oc x h1 d h2
      by_cases hdo : d = oth x
      · rw [if_pos hdo] at e
        exact ⟨x, .kp x, .kp d, h1, trivial, trivial, trivial, trivial, rfl, rfl, rfl, by rw [hdo]; rfl, e.symm⟩
      · rw [if_neg hdo] at e
        have t : W.tn = true := by rcases ht with h | h; · omega
                                   · exact h
        exact ⟨x, .kp x, .tn d (oth x), h1, trivial, ⟨hd, oth_brk x hx, fun h => hdo h.symm⟩, trivial, t, rfl, rfl, rfl, rfl, e.symm⟩
  · rcases brk_or.mp hd with h2 | h2
    · have e := tns_co x h1 d h2
      have t : W.tn = true := by rcases ht with h | h; · omega
                                 · exact h
      exact ⟨40, .tn x 40, .tn d 41, by decide, ⟨hx, by decide, fun h => opn_clo 40 (by decide) (h ▸ h1)⟩, ⟨hd, by decide, fun h => opn_clo d h2 (h ▸ (by decide : (41 : Nat) ∈ CLO))⟩, t, t, rfl, rfl, rfl, rfl, e.symm⟩
    · have e := tns_cc x h1 d h2
      have t : W.tn = true := by rcases ht with h | h; · omega
                                 · exact h
      exact ⟨oth d, .tn x (oth d), .kp d, oth_opn d h2, ⟨hx, oth_brk d hd, oth_ne x h1 d h2⟩, trivial, t, trivial, rfl, rfl, rfl, by rw [oth_oth d hd]; rfl, e.symm⟩
theorem Mw.row {W : Wd} {l : List Nat} {n : Nat} (h : Mw W l n) : ∃ α, Row W [] l n α := by
  induction h with
  | nil => exact ⟨[], fun s hs => (by cases hs), fun s hs => (by cases hs), rfl, rfl, rfl⟩
  | @let_ x n r hx _ ih =>
    obtain ⟨α, h⟩ := ih
    exact ⟨.kp x :: α, ⟨okS_cons.mpr ⟨trivial, h.ok⟩, wd_con trivial h.wd, by rw [inS_cons, h.tx]; rfl, h.ct, (clean_let (fun h1 => hx (brk_or.mpr (.inl h1))) (fun h1 => hx (brk_or.mpr (.inr h1)))).mpr h.fo⟩⟩
  | @str x n r hx hW _ ih =>
    obtain ⟨α, h⟩ := ih
    by_cases hs : W.st = true
    · exact ⟨.st x :: α, ⟨okS_cons.mpr ⟨hx, h.ok⟩, wd_con hs h.wd, by rw [inS_cons, h.tx]; rfl, by rw [cst_cons, h.ct]; show 1 + n = n + 1; omega, h.fo⟩⟩
    · have hp : W.pt = true := hW.resolve_right hs
      have hwd : ∀ t ∈ (Stp.st x).nst, t.wd W := fun t ht => wd_mono (W := ⟨true, false, false⟩) ⟨fun _ => hp, fun q => (by cases q), fun q => (by cases q)⟩ (nst_wd (W := ⟨true, true, false⟩) (s := .st x) rfl t ht)
      refine ⟨(Stp.st x).nst ++ α, ⟨okS_app (nst_ok (s := .st x) hx) h.ok, wd_ap hwd h.wd, by rw [inS_app, nst_in, h.tx]; rfl, by rw [cstS_app, nst_ct, h.ct]; show 1 + n = n + 1; omega, ?_⟩⟩
      rw [outS_app, List.foldl_append, nst_fo (s := .st x) hx]
      exact h.fo
  | @pair x d a b u v hx hd ht _ _ ih1 ih2 =>
    obtain ⟨α, h1⟩ := ih1
    obtain ⟨β, h2⟩ := ih2
    obtain ⟨o, y, z, k1, k2, k3, k4, k5, k6, k7, k8, k9, k10⟩ := pair_steps (W := W) hx hd ht
    refine ⟨y :: (α ++ z :: β), ⟨okS_cons.mpr ⟨k2, okS_app h1.ok (okS_cons.mpr ⟨k3, h2.ok⟩)⟩, wd_con k4 (wd_ap h1.wd (wd_con k5 h2.wd)), by rw [inS_cons, inS_app, inS_cons, h1.tx, h2.tx, k6, k7]; simp, by rw [cst_cons, cstS_app, cst_cons, h1.ct, h2.ct]; omega, ?_⟩⟩
    rw [outS_cons, outS_app, outS_cons, k8, k9]
    have hh := clean_app (clean_pair k1 h1.fo) h2.fo
    rw [show [o] ++ (outS α ++ ([oth o] ++ outS β)) = o :: (outS α ++ [oth o]) ++ outS β by simp]
    exact hh
theorem Mw.le {W : Wd} (hW : W.pt = true ∨ W.st = true) : ∀ l : List Nat, ∃ n, n ≤ l.length ∧ Mw W l n
  | [] => ⟨0, Nat.le_refl _, .nil⟩
  | x :: l => by
    obtain ⟨n, h1, h2⟩ := Mw.le hW l
    by_cases hx : x ∈ BRK
    · exact ⟨n + 1, by rw [List.length_cons]; omega, .str hx hW h2⟩
    · exact ⟨n, by rw [List.length_cons]; omega, .let_ hx h2⟩
end Ly

set_option maxHeartbeats 4000000
namespace Ly
open PySem PySem.Spec PyProof.Rows L2 SX
/-! ### dict(list of pairs) with tuples for keys -/
section
variable {X : Cx}
end
/-! ### dicts of texts -/
def rDNewK (H : Hp) (Q : VK) : Prop := ∀ p, H p = none → Q (.ref p) (upd H p (.dK []))
theorem tDNewK_eq {σ : L2.St} {H : Hp} {Q : VK} : tDNewK σ H Q = rDNewK H Q := rfl
def DKt (H : Hp) (a : Addr) (f : Key → Option V) (n : Nat) : Prop := ∃ kvs : List (Key × V), H a = some (.dK kvs) ∧ kvs.length ≤ n ∧ ∀ k, valV kvs k = f k
section
variable {H H1 : Hp} {a p : Addr} {Q : VK} {v : V} {k : Key} {n : Nat} {R : Hp → Prop}
theorem DKt.same {f : Key → Option V} (h : DKt H a f n) (s : Same H H1) : DKt H1 a f n := by
  obtain ⟨kvs, h1, h2, h3⟩ := h
  exact ⟨kvs, s _ _ h1, h2, h3⟩
theorem DKt.but {f : Key → Option V} (h : DKt H a f n) (s : But p H H1) (hn : a ≠ p) : DKt H1 a f n := by
  obtain ⟨kvs, h1, h2, h3⟩ := h
  exact ⟨kvs, s _ _ hn h1, h2, h3⟩
theorem DKt.ne {f : Key → Option V} (h : DKt H a f n) (hb : H p = none) : a ≠ p := by
  obtain ⟨kvs, h1, h2, h3⟩ := h
  rintro rfl
  rw [h1] at hb
  cases hb
theorem DKt.get {f : Key → Option V} (h : DKt H a f n) (k : Key) : DGet H a (kV k) (f k) := by
  obtain ⟨kvs, h1, h2, h3⟩ := h
  rw [← h3]
  exact DGet.k h1
end
/-! dict([((i, i), x) for i in range(n)]) -/
/-! ### the words, told -/
def wdV (W : Wd) : List V := (if W.pt then [Tx [112, 117, 116]] else []) ++ (if W.st then [Tx [115, 116, 114, 105, 107, 101]] else []) ++ (if W.tn then [Tx [116, 117, 114, 110]] else [])
def WdT (H : Hp) (v : V) (W : Wd) : Prop := ∃ a, v = .ref a ∧ H a = some (.tup (wdV W))
theorem WdT.same {H H' : Hp} {v : V} {W : Wd} (h : WdT H v W) (s : Same H H') : WdT H' v W := by
  obtain ⟨a, h1, h2⟩ := h
  exact ⟨a, h1, s _ _ h2⟩
theorem WdT.but {H H' : Hp} {v : V} {W : Wd} {p : Addr} {ys : List V} (h : WdT H v W) (s : But p H H') (hp : H p = some (.lst ys)) : WdT H' v W := by
  obtain ⟨a, h1, h2⟩ := h
  exact ⟨a, h1, s _ _ (fun e => by rw [e, hp] at h2; cases h2) h2⟩
theorem WdT.is {K : PySem.W.Frag} {H : Hp} {v : V} {W : Wd} (h : WdT H v W) : WdIs K H v W := by
  obtain ⟨a, h1, h2⟩ := h
  refine ⟨a, _, h1, st_of h2, ?_⟩
  obtain ⟨x, y, z⟩ := W
  cases x <;> cases y <;> cases z <;> exact ⟨by decide +kernel, by decide +kernel, by decide +kernel, by decide +kernel⟩
/-! ### the law's own table of least numbers by words -/
def Vl (W : Wd) (t : List Nat) (v : Int) : Prop := 0 ≤ v ∧ (∀ n : Nat, Mw W t n → v ≤ n) ∧ (v < 1000 → ∃ n : Nat, v = n ∧ Mw W t n)
theorem Mw.len {W : Wd} {l : List Nat} {n : Nat} (h : Mw W l n) : n ≤ l.length := by
  have t3 : ∀ x ∈ BRK, ∀ d ∈ BRK, tns x d ≤ 2 := by decide
  induction h with
  | nil => exact Nat.le_refl _
  | let_ _ _ ih => rw [List.length_cons]; omega
  | str _ _ _ ih => rw [List.length_cons]; omega
  | @pair x d a b u v hx hd ht _ _ i1 i2 =>
    have := t3 x hx d hd
    rw [List.length_cons, List.length_append, List.length_cons]
    omega
theorem Vl.nil {W : Wd} : Vl W [] 0 := ⟨Int.le_refl _, fun n _ => Int.natCast_nonneg n, fun _ => ⟨0, rfl, .nil⟩⟩
theorem Vl.let_ {W : Wd} {x : Nat} {r : List Nat} {v : Int} (hx : x ∉ BRK) (h : Vl W r v) : Vl W (x :: r) v := by
  obtain ⟨h0, h1, h2⟩ := h
  refine ⟨h0, fun n hn => ?_, fun hv => ?_⟩
  · cases hn with
    | let_ _ hr => exact h1 _ hr
    | str hb _ _ => exact absurd hb hx
    | pair hb _ _ _ _ => exact absurd hb hx
  · obtain ⟨n, e1, e2⟩ := h2 hv
    exact ⟨n, e1, .let_ hx e2⟩
/-- a list of numbers that first steps lead to, looked at below m -/
structure Vs (W : Wd) (x : Nat) (r : List Nat) (m : Nat) (ns : List Int) : Prop where
  ne : ns ≠ []
  sound : ∀ v ∈ ns, 0 ≤ v ∧ (v < 1000 → ∃ n : Nat, v = n ∧ Mw W (x :: r) n)
  str : W.pt = true ∨ W.st = true → ∀ n : Nat, Mw W r n → ∃ v ∈ ns, v ≤ n + 1
  pair : ∀ (d a b : Nat) (u w : List Nat), r = u ++ d :: w → u.length < m → d ∈ BRK → tns x d = 0 ∨ W.tn = true → Mw W u a → Mw W w b → ∃ v ∈ ns, v ≤ ((tns x d + a + b : Nat) : Int)
theorem Vs.skip {W : Wd} {x : Nat} {r : List Nat} {m : Nat} {ns : List Int} {d : Nat} (h : Vs W x r m ns) (hd : r[m]? = some d) (hn : ¬ (d ∈ BRK ∧ (tns x d = 0 ∨ W.tn = true))) : Vs W x r (m + 1) ns := by
  refine ⟨h.ne, h.sound, h.str, fun d' a b u w e hu hd' ht ha hb => ?_⟩
  by_cases hm : u.length < m
  · exact h.pair d' a b u w e hm hd' ht ha hb
  · have : u.length = m := by omega
    have e2 : r[m]? = some d' := by rw [e, ← this]; simp
    rw [hd] at e2
    injection e2 with e2
    subst e2
    exact absurd ⟨hd', ht⟩ hn
theorem Vs.step {W : Wd} {x : Nat} {r : List Nat} {m : Nat} {ns : List Int} {d : Nat} {v1 v2 : Int} (h : Vs W x r m ns) (hx : x ∈ BRK) (hd : r[m]? = some d) (hdb : d ∈ BRK) (ht : tns x d = 0 ∨ W.tn = true) (k1 : Vl W (r.take m) v1) (k2 : Vl W (r.drop (m + 1)) v2) : Vs W x r (m + 1) (ns ++ [(tns x d : Int) + v1 + v2]) := by
  have hlt : m < r.length := (List.getElem?_eq_some_iff.mp hd).1
  have er : r = r.take m ++ d :: r.drop (m + 1) := by
    have hg : r[m] = d := (List.getElem?_eq_some_iff.mp hd).2
    rw [← hg, List.getElem_cons_drop]
    exact (List.take_append_drop m r).symm
  obtain ⟨a0, a1, a2⟩ := k1
  obtain ⟨b0, b1, b2⟩ := k2
  refine ⟨by simp, fun y hy => ?_, fun hW n hn => ?_, fun d' a b u w e hu hd' ht' ha hb => ?_⟩
  · rcases List.mem_append.mp hy with hy | hy
    · exact h.sound y hy
    · simp at hy
      subst hy
      refine ⟨by omega, fun hl => ?_⟩
      obtain ⟨n1, e1, f1⟩ := a2 (by omega)
      obtain ⟨n2, e2, f2⟩ := b2 (by omega)
      refine ⟨tns x d + n1 + n2, by omega, ?_⟩
      rw [er]
      exact .pair hx hdb ht f1 f2
  · obtain ⟨y, y1, y2⟩ := h.str hW n hn
    exact ⟨y, List.mem_append_left _ y1, y2⟩
  · by_cases hm : u.length < m
    · obtain ⟨y, y1, y2⟩ := h.pair d' a b u w e hm hd' ht' ha hb
      exact ⟨y, List.mem_append_left _ y1, y2⟩
    · have hul : u.length = m := by omega
      have e2 : r[m]? = some d' := by rw [e, ← hul]; simp
      rw [hd] at e2
      injection e2 with e2
      subst e2
      have eu : u = r.take m := by rw [e, ← hul]; simp
      have ew : w = r.drop (m + 1) := by rw [e, ← hul]; simp
      refine ⟨_, List.mem_append_right _ (List.mem_singleton.mpr rfl), ?_⟩
      have := a1 a (eu ▸ ha)
      have := b1 b (ew ▸ hb)
      omega
end Ly

set_option maxHeartbeats 4000000
namespace Ly
open PySem PySem.Spec PyProof.Rows L2 SX
/-! ### rows of deeds, place by place, as the law counts them -/
/-! how many keys there can be -/
theorem nodup_len {α : Type} [DecidableEq α] : ∀ (l m : List α), l.Nodup → (∀ x ∈ l, x ∈ m) → l.length ≤ m.length
  | [], m, _, _ => Nat.zero_le _
  | x :: l, m, hn, hs => by
    obtain ⟨h1, h2⟩ := List.nodup_cons.mp hn
    have hx : x ∈ m := hs x (List.mem_cons_self ..)
    have ih := nodup_len l (m.erase x) h2 fun y hy => by
      have hne : y ≠ x := fun e => h1 (e ▸ hy)
      exact (List.mem_erase_of_ne hne).mpr (hs y (List.mem_cons_of_mem _ hy))
    rw [List.length_erase_of_mem hx] at ih
    have : 0 < m.length := List.length_pos_of_mem hx
    rw [List.length_cons]
    omega
def stks : Nat → List (List Nat)
  | 0 => [[]]
  | n + 1 => [] :: CLO.flatMap fun c => (stks n).map (c :: ·)
theorem stks_len : ∀ n, (stks n).length ≤ 5 ^ n
  | 0 => Nat.le_refl _
  | n + 1 => by
    have ih := stks_len n
    rw [stks, List.length_cons, List.length_flatMap]
    have e : CLO.map (fun c => ((stks n).map (c :: ·)).length) = CLO.map fun _ => (stks n).length := List.map_congr_left fun c _ => List.length_map _
    rw [e]
    show (stks n).length + ((stks n).length + ((stks n).length + ((stks n).length + 0))) + 1 ≤ 5 ^ (n + 1)
    have h1 : 1 ≤ 5 ^ n := Nat.one_le_pow _ _ (by decide)
    rw [Nat.pow_succ]
    omega
theorem stks_mem : ∀ (n : Nat) (s : List Nat), s.length ≤ n → (∀ c ∈ s, c ∈ CLO) → s ∈ stks n
  | 0, s, h, _ => by
    have : s = [] := List.length_eq_zero_iff.mp (by omega)
    rw [this, stks]
    exact List.mem_cons_self ..
  | n + 1, [], _, _ => List.mem_cons_self ..
  | n + 1, c :: s, h, hc => by
    rw [stks]
    refine List.mem_cons_of_mem _ (List.mem_flatMap.mpr ⟨c, hc c (List.mem_cons_self ..), List.mem_map.mpr ⟨s, stks_mem n s (by rw [List.length_cons] at h; omega) (fun x hx => hc x (List.mem_cons_of_mem _ hx)), rfl⟩⟩)
def kyOf (i : Nat) (st : List Nat) (n : Nat) : List Key := [.inl (i : Int), .inr (S st.reverse), .inl (n : Int)]
theorem kyOf_inj {i j n m : Nat} {s t : List Nat} (h : kyOf i s n = kyOf j t m) : i = j ∧ s = t ∧ n = m := by
  unfold kyOf at h
  injection h with h1 h2
  injection h2 with h2 h3
  injection h3 with h3 _
  have e1 := Sum.inl.inj h1
  have e2 := Sum.inr.inj h2
  have e3 := Sum.inl.inj h3
  have e4 : s.reverse = t.reverse := Tx_inj.mp (congrArg V.str e2)
  exact ⟨by omega, by rw [← List.reverse_reverse s, e4, List.reverse_reverse], by omega⟩
def allK : List (List Key) := (List.range 5).flatMap fun i => (stks 8).flatMap fun s => (List.range 5).map fun n => kyOf i s n
theorem flat_len {α β : Type} {f : α → List β} {b : Nat} : ∀ l : List α, (∀ x ∈ l, (f x).length ≤ b) → (l.flatMap f).length ≤ l.length * b
  | [], _ => by simp
  | x :: l, h => by
    have ih := flat_len l fun y hy => h y (List.mem_cons_of_mem _ hy)
    have hx := h x (List.mem_cons_self ..)
    rw [List.flatMap_cons, List.length_append, List.length_cons, Nat.succ_mul]
    omega
theorem allK_len : allK.length ≤ 9765625 := by
  unfold allK
  refine Nat.le_trans (flat_len (b := 5 ^ 8 * 5) _ fun i _ => Nat.le_trans (flat_len (b := 5) _ fun s _ => by rw [List.length_map, List.length_range]; exact Nat.le_refl _) (Nat.mul_le_mul_right _ (stks_len 8))) ?_
  rw [List.length_range]
  decide
theorem allK_mem {i n : Nat} {s : List Nat} (hi : i ≤ 4) (hn : n ≤ 4) (hs : s.length ≤ 8) (hc : ∀ c ∈ s, c ∈ CLO) : kyOf i s n ∈ allK :=
  List.mem_flatMap.mpr ⟨i, List.mem_range.mpr (by omega), List.mem_flatMap.mpr ⟨s, stks_mem 8 s hs hc, List.mem_map.mpr ⟨n, List.mem_range.mpr (by omega), rfl⟩⟩⟩
/-- what is known -/
structure Kn (H : Hp) (a : Addr) (W : Wd) (l : List Nat) (kvs : List (List Key × V)) : Prop where
  ob : H a = some (.dT kvs)
  nd : (kvs.map (·.1)).Nodup
  ok : ∀ p ∈ kvs, ∃ (i : Nat) (st : List Nat) (n : Nat), p.1 = kyOf i st n ∧ i ≤ 4 ∧ n ≤ 4 ∧ st.length ≤ 8 ∧ (∀ c ∈ st, c ∈ CLO) ∧ p.2 = .int (An W st (l.drop i) n)
theorem Kn.len {H : Hp} {a : Addr} {W : Wd} {l : List Nat} {kvs : List (List Key × V)} (h : Kn H a W l kvs) : kvs.length ≤ 9765625 := by
  have h1 := nodup_len _ allK h.nd fun x hx => by
    obtain ⟨p, hp, rfl⟩ := List.mem_map.mp hx
    obtain ⟨i, st, n, e, k1, k2, k3, k4, _⟩ := h.ok p hp
    rw [e]
    exact allK_mem k1 k2 k3 k4
  rw [List.length_map] at h1
  exact Nat.le_trans h1 allK_len
theorem valV_mem {κ : Type} [DecidableEq κ] {k : κ} {v : V} : ∀ {kvs : List (κ × V)}, valV kvs k = some v → (k, v) ∈ kvs
  | [], h => by cases h
  | p :: r, h => by
    by_cases e : p.1 = k
    · rw [valV_pos e] at h
      injection h with h
      rw [← e, ← h]
      exact List.mem_cons_self ..
    · rw [valV_neg e] at h
      exact List.mem_cons_of_mem _ (valV_mem h)
theorem Kn.get {H : Hp} {a : Addr} {W : Wd} {l : List Nat} {kvs : List (List Key × V)} (h : Kn H a W l kvs) {i n : Nat} {st : List Nat} {v : V} (hv : valV kvs (kyOf i st n) = some v) : v = .int (An W st (l.drop i) n) := by
  obtain ⟨i', st', n', e, _, _, _, _, e2⟩ := h.ok _ (valV_mem hv)
  obtain ⟨rfl, rfl, rfl⟩ := kyOf_inj e
  exact e2
theorem putK_fst {κ : Type} [DecidableEq κ] (kvs : List (κ × V)) (k : κ) (v : V) : (putK kvs k v).map (·.1) = if k ∈ kvs.map (·.1) then kvs.map (·.1) else kvs.map (·.1) ++ [k] := by
  unfold putK
  by_cases h : k ∈ kvs.map (·.1)
  · rw [if_pos h, if_pos (by
      obtain ⟨p, hp, e⟩ := List.mem_map.mp h
      exact List.any_eq_true.mpr ⟨p, hp, by simpa using e⟩), List.map_map]
    refine List.map_congr_left fun p _ => ?_
    show (if p.1 = k then (p.1, v) else p).1 = p.1
    split <;> rfl
  · rw [if_neg h, if_neg (fun q => h (by
      obtain ⟨p, hp, e⟩ := List.any_eq_true.mp q
      exact List.mem_map.mpr ⟨p, hp, by simpa using e⟩)), List.map_append]
    rfl
theorem putK_mem {κ : Type} [DecidableEq κ] {kvs : List (κ × V)} {k : κ} {v : V} {p : κ × V} (h : p ∈ putK kvs k v) : p ∈ kvs ∨ p = (k, v) := by
  unfold putK at h
  split at h
  · obtain ⟨q, hq, e⟩ := List.mem_map.mp h
    split at e
    · rename_i e'
      exact .inr (by rw [← e, e'])
    · exact .inl (e ▸ hq)
  · rcases List.mem_append.mp h with h | h
    · exact .inl h
    · exact .inr (List.mem_singleton.mp h)
theorem Kn.put {H H1 : Hp} {a : Addr} {W : Wd} {l : List Nat} {kvs : List (List Key × V)} {i n : Nat} {st : List Nat} (h : Kn H a W l kvs) (hi : i ≤ 4) (hn : n ≤ 4) (hs : st.length ≤ 8) (hc : ∀ c ∈ st, c ∈ CLO) (e : H1 a = some (.dT (putK kvs (kyOf i st n) (.int (An W st (l.drop i) n))))) : Kn H1 a W l (putK kvs (kyOf i st n) (.int (An W st (l.drop i) n))) := by
  refine ⟨e, ?_, fun p hp => ?_⟩
  · rw [putK_fst]
    by_cases hm : kyOf i st n ∈ kvs.map (·.1)
    · rw [if_pos hm]; exact h.nd
    · rw [if_neg hm, List.nodup_append]
      refine ⟨h.nd, by simp, fun x hx y hy => ?_⟩
      rw [List.mem_singleton.mp hy]
      exact fun q => hm (q ▸ hx)
  · rcases putK_mem hp with hp | rfl
    · exact h.ok p hp
    · exact ⟨i, st, n, rfl, hi, hn, hs, hc, rfl⟩
theorem Kn.same {H H1 : Hp} {a : Addr} {W : Wd} {l : List Nat} {kvs : List (List Key × V)} (h : Kn H a W l kvs) (s : Same H H1) : Kn H1 a W l kvs := ⟨s _ _ h.ob, h.nd, h.ok⟩
/-! the least number, tried one by one -/
end Ly

set_option maxHeartbeats 4000000
namespace Ly
open PySem PySem.Spec PyProof.Rows L2 SX
/-! ### counted by their ends, with a great number where there are none -/
def En (x : MC) (e : Int × Int) : Prop := match x with
  | none => 1000 ≤ e.1 ∧ e.2 = 0
  | some p => e = ((p.1 : Int), (p.2 : Int))
def Bt (x : MC) (e : Int × Int) : Prop := match x with
  | none => e = (1000, 0)
  | some p => e = ((p.1 : Int), (p.2 : Int))
theorem Bt.en {x : MC} {e : Int × Int} (h : Bt x e) : En x e := by
  cases x with
  | none => rw [show e = (1000, 0) from h]; exact ⟨Int.le_refl _, rfl⟩
  | some p => exact h
/-! the least of a list, and how often -/
end Ly

set_option maxHeartbeats 4000000
namespace Ly
open PySem PySem.Spec PyProof.Rows L2 SX
/-! ### set(xs) of a list of ints, and its numbers sorted -/
section
variable {P : Program} {w : World} {A : Around} {E : Value → Shared → Prop} {s : Shared}
end
section
variable {X : Cx}
end
end Ly

set_option maxHeartbeats 4000000
namespace Ly
open PySem PySem.Spec PyProof.Rows L2 SX
/-! ### s.partition(' ') -/
end Ly

set_option maxHeartbeats 4000000
namespace Ly
open PySem PySem.Spec PyProof.Rows L2
/-! ### data of any kind in heaps, empty dicts too -/
mutual
inductive Dx (H : Hp) : V → PyData → Prop
  | non : Dx H .non .none
  | bl (b : Bool) : Dx H (.bl b) (.bool b)
  | int (i : Int) : Dx H (.int i) (.int i)
  | str (x : Str) : Dx H (.str x) (.str x)
  | lst {a : Addr} {xs : List V} {ds : List PyData} : H a = some (.lst xs) → DxAll H xs ds → Dx H (.ref a) (.list ds)
  | tup {a : Addr} {xs : List V} {ds : List PyData} : H a = some (.tup xs) → DxAll H xs ds → Dx H (.ref a) (.tuple ds)
  | dic {a : Addr} : H a = some (.dK []) → Dx H (.ref a) (.dict [])
inductive DxAll (H : Hp) : List V → List PyData → Prop
  | nil : DxAll H [] []
  | cons {v : V} {vs : List V} {d : PyData} {ds : List PyData} : Dx H v d → DxAll H vs ds → DxAll H (v :: vs) (d :: ds)
end
theorem DxAll.length {H : Hp} : ∀ {vs : List V} {ds : List PyData}, DxAll H vs ds → vs.length = ds.length
  | _, _, .nil => rfl
  | _, _, .cons _ h => by rw [List.length_cons, List.length_cons, h.length]
theorem DxAll.get {H : Hp} : ∀ {vs : List V} {ds : List PyData} {i : Nat} {v : V} {d : PyData}, DxAll H vs ds → vs[i]? = some v → ds[i]? = some d → Dx H v d
  | _, _, _, _, _, .nil, h, _ => by simp at h
  | _, _, 0, _, _, .cons h _, h1, h2 => by
    have e1 := Option.some.inj h1
    have e2 := Option.some.inj h2
    rw [← e1, ← e2]
    exact h
  | _, _, i + 1, _, _, .cons _ hs, h1, h2 => hs.get (i := i) h1 h2
theorem DxAll.append {H : Hp} : ∀ {vs ws : List V} {ds es : List PyData}, DxAll H vs ds → DxAll H ws es → DxAll H (vs ++ ws) (ds ++ es)
  | _, _, _, _, .nil, h => h
  | _, _, _, _, .cons h hs, h' => .cons h (hs.append h')
theorem DxAll.of {H : Hp} : ∀ {vs : List V} {ds : List PyData}, vs.length = ds.length → (∀ (i : Nat) (v : V) (d : PyData), vs[i]? = some v → ds[i]? = some d → Dx H v d) → DxAll H vs ds
  | [], [], _, _ => .nil
  | [], _ :: _, h, _ => by simp at h
  | _ :: _, [], h, _ => by simp at h
  | v :: vs, d :: ds, h, g => .cons (g 0 v d rfl rfl) (DxAll.of (by simpa using h) fun i v d h1 h2 => g (i + 1) v d h1 h2)
mutual
theorem dx_same {H H' : Hp} (s : ∀ b o, H b = some o → H' b = some o) : ∀ {v : V} {d : PyData}, Dx H v d → Dx H' v d
  | _, _, .non => .non
  | _, _, .bl b => .bl b
  | _, _, .int i => .int i
  | _, _, .str l => .str l
  | _, _, .lst h hs => .lst (s _ _ h) (dxs_same s hs)
  | _, _, .tup h hs => .tup (s _ _ h) (dxs_same s hs)
  | _, _, .dic h => .dic (s _ _ h)
theorem dxs_same {H H' : Hp} (s : ∀ b o, H b = some o → H' b = some o) : ∀ {vs : List V} {ds : List PyData}, DxAll H vs ds → DxAll H' vs ds
  | _, _, .nil => .nil
  | _, _, .cons h hs => .cons (dx_same s h) (dxs_same s hs)
end
section
variable {X : Cx} {pins : List (Addr × Obj)} {σ : L2.St} {H : Hp} {s : Shared}
end
end Ly

set_option maxHeartbeats 4000000
namespace Ly
open PySem PySem.Spec PyProof.Rows L2 SX
/-! ### kinds of things -/
inductive Ty5 where
  | str
  | int
  | bool
  | list
  | tuple
def Ty5.nm : Ty5 → String
  | .str => "str"
  | .int => "int"
  | .bool => "bool"
  | .list => "list"
  | .tuple => "tuple"
section
variable {K : PySem.W.Frag} {H : Hp} {Q : VK} {v : V} {d : PyData}
end
/-! ### the size of things -/
def nbK : Nat → Nat
  | 3 => 200
  | 2 => 45
  | 1 => 4
  | _ => 0
mutual
def nc : Nat → PyData → Bool
  | _, .none => true
  | _, .bool _ => true
  | _, .int i => decide (i.natAbs < 10 ^ 100)
  | _, .str s => decide (s.length ≤ 20) && s.cps.toList.all fun c => decide (c < 1114112)
  | k + 1, .list ds => decide (ds.length ≤ nbK (k + 1)) && ncA k ds
  | k + 1, .tuple ds => decide (ds.length ≤ nbK (k + 1)) && ncA k ds
  | 0, .list ds => ds.isEmpty
  | 0, .tuple ds => ds.isEmpty
  | _, .dict ds => ds.isEmpty
def ncA : Nat → List PyData → Bool
  | _, [] => true
  | k, d :: ds => nc k d && ncA k ds
end
theorem ncA_app {k : Nat} : ∀ {ds es : List PyData}, ncA k (ds ++ es) = (ncA k ds && ncA k es)
  | [], es => by rw [List.nil_append, ncA, Bool.true_and]
  | d :: ds, es => by rw [List.cons_append, ncA, ncA, ncA_app, Bool.and_assoc]
theorem ncA_mem {k : Nat} {ds : List PyData} : ncA k ds = true ↔ ∀ d ∈ ds, nc k d = true := by
  induction ds with
  | nil => exact ⟨fun _ d h => (by cases h), fun _ => rfl⟩
  | cons d ds ih =>
    rw [ncA, Bool.and_eq_true, ih]
    constructor
    · rintro ⟨h1, h2⟩ e he
      rcases List.mem_cons.mp he with rfl | he
      · exact h1
      · exact h2 e he
    · exact fun h => ⟨h d (List.mem_cons_self ..), fun e he => h e (List.mem_cons_of_mem _ he)⟩
section
variable {X : Cx}
end
/-! ### deeds among things -/
theorem Dds.dx {H : Hp} {a : Addr} {rs : List Addr} {ds : List Deed} (h : Dds H a rs ds) : Dx H (.ref a) (ddsD ds) := by
  refine .lst h.hd (.of (by rw [List.length_map, List.length_map]; exact h.len) fun k v d h1 h2 => ?_)
  rw [List.getElem?_map] at h1 h2
  cases e1 : rs[k]? with
  | none => rw [e1] at h1; cases h1
  | some r =>
    cases e2 : ds[k]? with
    | none => rw [e2] at h2; cases h2
    | some e =>
      rw [e1] at h1
      rw [e2] at h2
      rw [← Option.some.inj h1, ← Option.some.inj h2]
      exact .tup (h.it k r e e1 e2) (.cons (.int _) (.cons (.str _) (.cons (.str _) .nil)))
end Ly

set_option maxHeartbeats 4000000
namespace Ly
open PySem PySem.Spec PyProof.Rows L2 SX
/-! ### readings that tell things -/
/-- the heap without ps -/
def del (ps : List Addr) (H : Hp) : Hp := fun x => if x ∈ ps then none else H x
/-- all of ps stand -/
def Std (ps : List Addr) (H : Hp) : Prop := ∀ p ∈ ps, ∃ o, H p = some o
section
variable {q a b : Addr} {p : List Addr} {o : HO} {H H' H1 : Hp} {v : V} {d : PyData} {vs : List V} {ds : List PyData}
theorem Std.nil : Std [] H := fun _ h => by cases h
theorem Std.cons (h : H a = some o) (hs : Std p H) : Std (a :: p) H := fun x hx => by
  rcases List.mem_cons.mp hx with rfl | hx
  · exact ⟨_, h⟩
  · exact hs x hx
theorem Std.sm (h : Std p H) (s : Same H H') : Std p H' := fun x hx => let ⟨o, e⟩ := h x hx; ⟨o, s _ _ e⟩
theorem Std.new (h : Std p H) (nb : H b = none) : b ∉ p := fun hb => by
  obtain ⟨o, e⟩ := h b hb
  rw [nb] at e
  cases e
theorem del_get (n : a ∉ p) (h : H a = some o) : del p H a = some o := by unfold del; rw [if_neg n]; exact h
theorem del_un (h : del p H a = some o) : H a = some o ∧ a ∉ p := by
  unfold del at h
  by_cases e : a ∈ p
  · rw [if_pos e] at h; cases h
  · rw [if_neg e] at h; exact ⟨h, e⟩
theorem del_but (hq : q ∈ p) (s : But q H H') : ∀ b o, del p H b = some o → del p H' b = some o := fun b o h => del_get (del_un h).2 (s b o (fun e => (del_un h).2 (e ▸ hq)) (del_un h).1)
theorem del_same (s : Same H H') : ∀ b o, del p H b = some o → del p H' b = some o := fun b o h => del_get (del_un h).2 (s b o (del_un h).1)
theorem del_tl : ∀ c o, del (b :: p) H c = some o → del p H c = some o := fun c o h => del_get (fun hc => (del_un h).2 (List.mem_cons_of_mem _ hc)) (del_un h).1
theorem Dx.tl (h : Dx (del (b :: p) H) v d) : Dx (del p H) v d := dx_same del_tl h
theorem DxAll.tl (h : DxAll (del (b :: p) H) vs ds) : DxAll (del p H) vs ds := dxs_same del_tl h
theorem Dx.sm (h : Dx (del p H) v d) (s : Same H H') : Dx (del p H') v d := dx_same (del_same s) h
theorem Dx.bt (h : Dx (del p H) v d) (s : But q H H') (hq : q ∈ p := by simp) : Dx (del p H') v d := dx_same (del_but hq s) h
theorem DxAll.sm (h : DxAll (del p H) vs ds) (s : Same H H') : DxAll (del p H') vs ds := dxs_same (del_same s) h
theorem DxAll.bt (h : DxAll (del p H) vs ds) (s : But q H H') (hq : q ∈ p := by simp) : DxAll (del p H') vs ds := dxs_same (del_but hq s) h
theorem dxa_take {n : Nat} : ∀ {vs : List V} {ds : List PyData}, DxAll H vs ds → DxAll H (vs.take n) (ds.take n) := by
  induction n with
  | zero => intro vs ds _; exact .nil
  | succ n ih =>
    intro vs ds h
    cases h with
    | nil => exact .nil
    | cons h hs => exact .cons h (ih hs)
theorem dxa_drop {n : Nat} : ∀ {vs : List V} {ds : List PyData}, DxAll H vs ds → DxAll H (vs.drop n) (ds.drop n) := by
  induction n with
  | zero => intro vs ds h; exact h
  | succ n ih =>
    intro vs ds h
    cases h with
    | nil => exact .nil
    | cons h hs => exact ih hs
theorem dxa_set {d : PyData} {v : V} (hv : Dx H v d) : ∀ {vs : List V} {ds : List PyData} {n : Nat}, DxAll H vs ds → DxAll H (vs.set n v) (ds.set n d)
  | _, _, _, .nil => .nil
  | _, _, 0, .cons h hs => .cons hv hs
  | _, _, n + 1, .cons h hs => .cons h (dxa_set hv hs)
theorem dxa_rev : ∀ {vs : List V} {ds : List PyData}, DxAll H vs ds → DxAll H vs.reverse ds.reverse
  | _, _, .nil => .nil
  | _, _, .cons h hs => by rw [List.reverse_cons, List.reverse_cons]; exact (dxa_rev hs).append (.cons h .nil)
theorem dxa_rep {n : Nat} (h : DxAll H vs ds) : DxAll H (List.replicate n vs).flatten (List.replicate n ds).flatten := by
  induction n with
  | zero => exact .nil
  | succ n ih => rw [List.replicate_succ, List.replicate_succ, List.flatten_cons, List.flatten_cons]; exact h.append ih
end
def cutL {α : Type} (xs : List α) (lo hi : Option Int) : List α := (xs.drop (HT.sIx xs.length 0 lo)).take (HT.sIx xs.length xs.length hi - HT.sIx xs.length 0 lo)
theorem dxa_cut {H : Hp} {vs : List V} {ds : List PyData} {lo hi : Option Int} (h : DxAll H vs ds) : DxAll H (cutV vs lo hi) (cutL ds lo hi) := by
  show DxAll H ((vs.drop (HT.sIx vs.length 0 lo)).take (HT.sIx vs.length vs.length hi - HT.sIx vs.length 0 lo)) _
  unfold cutL
  rw [h.length]
  exact dxa_take (dxa_drop h)
theorem cutL_from {α : Type} {xs : List α} {i : Nat} : cutL xs (some (i : Int)) none = xs.drop i := by
  unfold cutL
  have e1 : HT.sIx xs.length 0 (some (i : Int)) = min i xs.length := by unfold HT.sIx; simp; omega
  have e2 : HT.sIx xs.length xs.length none = xs.length := by unfold HT.sIx; simp
  rw [e1, e2, List.take_of_length_le (by rw [List.length_drop]; exact Nat.le_refl _)]
  by_cases h : i ≤ xs.length
  · rw [Nat.min_eq_left h]
  · rw [Nat.min_eq_right (by omega), List.drop_eq_nil_of_le (Nat.le_refl _), List.drop_eq_nil_of_le (by omega)]
theorem cutL_to {α : Type} {xs : List α} {i : Nat} : cutL xs none (some (i : Int)) = xs.take i := by
  unfold cutL
  have e1 : HT.sIx xs.length xs.length (some (i : Int)) = min i xs.length := by unfold HT.sIx; simp; omega
  have e2 : HT.sIx xs.length 0 none = 0 := by unfold HT.sIx; simp
  rw [e1, e2, List.drop_zero, Nat.sub_zero]
  by_cases h : i ≤ xs.length
  · rw [Nat.min_eq_left h]
  · rw [Nat.min_eq_right (by omega), List.take_of_length_le (Nat.le_refl _), List.take_of_length_le (by omega)]
def Rd (p : List Addr) (t : TE) (σ : L2.St) (H : Hp) (d : PyData) : Prop := ∀ (H1 : Hp) (Q : VK), Same H H1 → (∀ v H2, Same H1 H2 → Dx (del p H2) v d → Q v H2) → t σ H1 Q
def RdA (p : List Addr) (t : TA) (σ : L2.St) (H : Hp) (ds : List PyData) : Prop := ∀ (H1 : Hp) (Q : List V → Hp → Prop), Same H H1 → (∀ vs H2, Same H1 H2 → DxAll (del p H2) vs ds → Q vs H2) → t σ H1 Q
def RdO (p : List Addr) (t : TO) (σ : L2.St) (H : Hp) (o : Option Int) : Prop := ∀ (H1 : Hp) (Q : Option Int → Hp → Prop), Same H H1 → (∀ H2, Same H1 H2 → Q o H2) → t σ H1 Q
section
variable {p : List Addr} {a : Addr} {t ta tb : TE} {ts : TA} {tl th : TO} {σ : L2.St} {H : Hp} {d e : PyData} {ds es : List PyData} {n : Nat} {v : V} {K : PySem.W.Frag} {i j : Int} {lo hi : Option Int}
theorem Rd.go {Q : VK} (h : Rd p t σ H d) (q : ∀ v H2, Same H H2 → Dx (del p H2) v d → Q v H2) : t σ H Q := h H Q (Same.refl _) q
theorem RdA.go {Q : List V → Hp → Prop} (h : RdA p ts σ H ds) (q : ∀ vs H2, Same H H2 → DxAll (del p H2) vs ds → Q vs H2) : ts σ H Q := h H Q (Same.refl _) q
theorem rd_int : Rd p (tC (.int i)) σ H (.int i) := fun H1 Q s q => q _ _ (Same.refl _) (.int i)
theorem rd_str {x : Str} : Rd p (tC (.str x)) σ H (.str x) := fun H1 Q s q => q _ _ (Same.refl _) (.str x)
theorem rd_bl {b : Bool} : Rd p (tC (.bl b)) σ H (.bool b) := fun H1 Q s q => q _ _ (Same.refl _) (.bl b)
theorem rd_non : Rd p (tC .non) σ H .none := fun H1 Q s q => q _ _ (Same.refl _) .non
theorem rd_var (h : σ[n]? = some (some v)) (hd : Dx (del p H) v d) : Rd p (tVar n) σ H d := fun H1 Q s q => ⟨v, h, q _ _ (Same.refl _) (hd.sm s)⟩
theorem rda_nil : RdA p tNil σ H [] := fun H1 Q s q => q _ _ (Same.refl _) .nil
theorem rda_cons (h1 : Rd p ta σ H d) (h2 : RdA p ts σ H ds) : RdA p (tCons ta ts) σ H (d :: ds) := fun H1 Q s q =>
  h1 H1 _ s fun v H2 s2 hv => h2 H2 _ (s.trans s2) fun vs H3 s3 hvs => q _ _ (s2.trans s3) (.cons (hv.sm s3) hvs)
theorem rd_tup (hp : Std p H) (h : RdA p ts σ H ds) (hl : ds.length ≤ 100000) : Rd p (tTup ts) σ H (.tuple ds) := fun H1 Q s q =>
  h H1 _ s fun vs H2 s2 hvs => ⟨by rw [hvs.length]; exact Nat.le_trans hl (by decide), fun b nb => by
    exact q _ _ (s2.trans (Same.new nb)) (.tup (del_get (Std.new (Std.sm (Std.sm hp s) s2) nb) upd_same) (hvs.sm (Same.new nb)))⟩
theorem rd_lst (hp : Std p H) (h : RdA p ts σ H ds) (hl : ds.length ≤ 100000) : Rd p (tLst ts) σ H (.list ds) := fun H1 Q s q =>
  h H1 _ s fun vs H2 s2 hvs => ⟨by rw [hvs.length]; exact Nat.le_trans hl (by decide), fun b nb => by
    exact q _ _ (s2.trans (Same.new nb)) (.lst (del_get (Std.new (Std.sm (Std.sm hp s) s2) nb) upd_same) (hvs.sm (Same.new nb)))⟩
theorem rd_dic (hp : Std p H) : Rd p tDNewK σ H (.dict []) := fun H1 Q s q => fun b nb => by
  exact q _ _ (Same.new nb) (.dic (del_get (Std.new (Std.sm hp s) nb) upd_same))
theorem rd_cat (hp : Std p H) (h1 : Rd p ta σ H (.list ds)) (h2 : Rd p tb σ H (.list es)) (hl : ds.length + es.length ≤ 100000) : Rd p (tOp rCat ta tb) σ H (.list (ds ++ es)) := fun H1 Q s q =>
  h1 H1 _ s fun v H2 s2 hv => h2 H2 _ (s.trans s2) fun w H3 s3 hw => by
    have hv := hv.sm s3
    cases hv with
    | lst k1 k2 =>
      cases hw with
      | lst k3 k4 =>
        refine g_cat (del_un k1).1 (del_un k3).1 (by rw [k2.length, k4.length]; exact hl) fun b H4 nb s4 eb => ?_
        exact q _ _ (s2.trans (s3.trans s4)) (.lst (del_get (Std.new (Std.sm (Std.sm (Std.sm hp s) s2) s3) nb) eb) ((k2.append k4).sm s4))
theorem rd_rep {m : Nat} (hp : Std p H) (h1 : Rd p ta σ H (.list ds)) (h2 : Rd p tb σ H (.int (m : Int))) (hl : ds.length * m ≤ 100000 ∧ m ≤ 100000) : Rd p (tOp rRep ta tb) σ H (.list (List.replicate m ds).flatten) := fun H1 Q s q =>
  h1 H1 _ s fun v H2 s2 hv => h2 H2 _ (s.trans s2) fun w H3 s3 hw => by
    have hv := hv.sm s3
    cases hw with
    | int _ =>
      cases hv with
      | lst k1 k2 =>
        refine g_rep (del_un k1).1 (by rw [k2.length]; exact hl.1) hl.2 fun b H4 nb s4 eb => ?_
        exact q _ _ (s2.trans (s3.trans s4)) (.lst (del_get (Std.new (Std.sm (Std.sm (Std.sm hp s) s2) s3) nb) eb) ((dxa_rep k2).sm s4))
theorem rd_rev (hp : Std p H) (h1 : Rd p ta σ H (.list ds)) : Rd p (tRevL K ta) σ H (.list ds.reverse) := fun H1 Q s q =>
  h1 H1 _ s fun v H2 s2 hv => by
    cases hv with
    | lst k1 k2 =>
      refine g_revL (sq_of (del_un k1).1) fun b H4 nb s4 eb => ?_
      exact q _ _ (s2.trans s4) (.lst (del_get (Std.new (Std.sm (Std.sm hp s) s2) nb) eb) ((dxa_rev k2).sm s4))
theorem rdo_none : RdO p tNoPart σ H none := fun H1 Q s q => q _ (Same.refl _)
theorem rdo_some (h : Rd p ta σ H (.int i)) : RdO p (tPart ta) σ H (some i) := fun H1 Q s q => h H1 _ s fun v H2 s2 hv => by
  cases hv
  exact ⟨i, rfl, q _ s2⟩
theorem rd_cut (hp : Std p H) (h1 : Rd p ta σ H (.list ds)) (hlo : RdO p tl σ H lo) (hhi : RdO p th σ H hi) : Rd p (tSl (rSlL K) ta tl th) σ H (.list (cutL ds lo hi)) := fun H1 Q s q =>
  h1 H1 _ s fun v H2 s2 hv => hlo H2 _ (s.trans s2) fun H3 s3 => hhi H3 _ (s.trans (s2.trans s3)) fun H4 s4 => by
    have hv := hv.sm (s3.trans s4)
    cases hv with
    | lst k1 k2 =>
      refine g_slL (sq_of (del_un k1).1) fun b H5 nb s5 eb => ?_
      exact q _ _ (s2.trans (s3.trans (s4.trans s5))) (.lst (del_get (Std.new (Std.sm (Std.sm (Std.sm (Std.sm hp s) s2) s3) s4) nb) eb) ((dxa_cut k2).sm s5))
theorem rd_tupOf (hp : Std p H) (h1 : RdA p ts σ H [.list ds]) : Rd p (tCB (rTupleOf K) ts) σ H (.tuple ds) := fun H1 Q s q =>
  h1 H1 _ s fun vs H2 s2 hv => by
    cases hv with
    | cons hv h0 =>
      cases h0
      cases hv with
      | lst k1 k2 =>
        refine g_tupleOfL (del_un k1).1 fun b H5 nb s5 eb => ?_
        exact q _ _ (s2.trans s5) (.tup (del_get (Std.new (Std.sm (Std.sm hp s) s2) nb) eb) (k2.sm s5))
theorem rd_lstOf (hp : Std p H) (h1 : RdA p ts σ H [.list ds]) : Rd p (tCB (rListOf K) ts) σ H (.list ds) := fun H1 Q s q =>
  h1 H1 _ s fun vs H2 s2 hv => by
    cases hv with
    | cons hv h0 =>
      cases h0
      cases hv with
      | lst k1 k2 =>
        refine g_listOfL (del_un k1).1 fun b H5 nb s5 eb => ?_
        exact q _ _ (s2.trans s5) (.lst (del_get (Std.new (Std.sm (Std.sm hp s) s2) nb) eb) (k2.sm s5))
theorem rd_I0 {g : Int → Int → Int} (h1 : Rd p ta σ H (.int i)) (h2 : Rd p tb σ H (.int j)) : Rd p (tOp (rI0 fun i j => .int (g i j)) ta tb) σ H (.int (g i j)) := fun H1 Q s q =>
  h1 H1 _ s fun v H2 s2 hv => h2 H2 _ (s.trans s2) fun w H3 s3 hw => by
    cases hv
    cases hw
    exact g_I0 (q _ _ (s2.trans s3) (.int _))
theorem rd_I {C : Int → Int → Prop} {g : Int → Int → Int} (h1 : Rd p ta σ H (.int i)) (h2 : Rd p tb σ H (.int j)) (c : C i j) : Rd p (tOp (rI C fun i j => .int (g i j)) ta tb) σ H (.int (g i j)) := fun H1 Q s q =>
  h1 H1 _ s fun v H2 s2 hv => h2 H2 _ (s.trans s2) fun w H3 s3 hw => by
    cases hv
    cases hw
    exact g_I c (q _ _ (s2.trans s3) (.int _))
theorem rd_U {g : Int → Int} (h1 : Rd p ta σ H (.int i)) : Rd p (tUn (rU fun i => .int (g i)) ta) σ H (.int (g i)) := fun H1 Q s q =>
  h1 H1 _ s fun v H2 s2 hv => by
    cases hv
    exact g_U (q _ _ s2 (.int _))
theorem rd_eqI (h1 : Rd p ta σ H (.int i)) (h2 : Rd p tb σ H (.int j)) : Rd p (tOp rEq ta tb) σ H (.bool (decide (i = j))) := fun H1 Q s q =>
  h1 H1 _ s fun v H2 s2 hv => h2 H2 _ (s.trans s2) fun w H3 s3 hw => by
    cases hv
    cases hw
    refine g_eq rfl ?_
    rw [show decide (V.int i = V.int j) = decide (i = j) by rw [decide_eq_decide]; exact ⟨fun h => V.int.inj h, fun h => by rw [h]⟩]
    exact q _ _ (s2.trans s3) (.bl _)
theorem rd_ixT {l : List Nat} {c : Nat} (h1 : Rd p ta σ H (.str (S l))) (h2 : Rd p tb σ H (.int i)) (hl : l.length ≤ 100000) (hc : atI l i = some c) : Rd p (tOp rIxT1 ta tb) σ H (.str (S [c])) := fun H1 Q s q =>
  h1 H1 _ s fun v H2 s2 hv => h2 H2 _ (s.trans s2) fun w H3 s3 hw => by
    cases hv
    cases hw
    exact g_ixT hl hc (q _ _ (s2.trans s3) (.str _))
theorem rd_ixL (h1 : Rd p ta σ H (.list ds)) (h2 : Rd p tb σ H (.int i)) (hc : atI ds i = some d) : Rd p (tOp (rIxL K) ta tb) σ H d := fun H1 Q s q =>
  h1 H1 _ s fun v H2 s2 hv => h2 H2 _ (s.trans s2) fun w H3 s3 hw => by
    have hv := hv.sm s3
    cases hw
    cases hv with
    | @lst _ xs _ k1 k2 =>
      have hl := k2.length
      unfold atI at hc
      cases hk : ixN ds.length i with
      | none => rw [hk] at hc; cases hc
      | some k =>
        rw [hk] at hc
        have hc' : ds[k]? = some d := hc
        have hkl := (List.getElem?_eq_some_iff.mp hc').1
        obtain ⟨x, hx⟩ : ∃ x, xs[k]? = some x := ⟨_, List.getElem?_eq_getElem (by omega)⟩
        refine g_ixL (sq_of (del_un k1).1) (v := x) ?_ (q _ _ (s2.trans s3) (k2.get hx hc'))
        unfold atI
        rw [hl, hk]
        exact hx
end
section
variable {p : List Addr} {a : Addr} {t ta tb : TE} {ts : TA} {tl th : TO} {σ : L2.St} {H : Hp} {d e : PyData} {ds es : List PyData} {n : Nat} {v : V} {K : PySem.W.Frag} {i j : Int} {lo hi : Option Int}
/-- the first ones to a place, from the end where it is below 0 -/
def cutTo (ds : List PyData) (i : Int) : List PyData := ds.take (if 0 ≤ i then i.toNat else ds.length - (-i).toNat)
theorem cutTo_eq {ds : List PyData} {i : Int} : cutL ds none (some i) = cutTo ds i := by
  unfold cutTo
  by_cases h : 0 ≤ i
  · rw [if_pos h]
    obtain ⟨k, rfl⟩ := Int.eq_ofNat_of_zero_le h
    exact cutL_to
  · rw [if_neg h]
    unfold cutL
    have e2 : HT.sIx ds.length 0 none = 0 := by unfold HT.sIx; simp
    have e1 : HT.sIx ds.length ds.length (some i) = ds.length - (-i).toNat := by
      have hi : i < 0 := by omega
      unfold HT.sIx
      simp [hi]
      omega
    rw [e1, e2, List.drop_zero, Nat.sub_zero]
theorem rd_to (hp : Std p H) (h1 : Rd p ta σ H (.list ds)) (hhi : Rd p tb σ H (.int i)) : Rd p (tSl (rSlL K) ta tNoPart (tPart tb)) σ H (.list (cutTo ds i)) := by
  rw [← cutTo_eq]
  exact rd_cut hp h1 rdo_none (rdo_some hhi)
theorem rd_from (hp : Std p H) (h1 : Rd p ta σ H (.list ds)) (hlo : Rd p tb σ H (.int i)) (h0 : 0 ≤ i) : Rd p (tSl (rSlL K) ta (tPart tb) tNoPart) σ H (.list (ds.drop i.toNat)) := by
  obtain ⟨k, rfl⟩ := Int.eq_ofNat_of_zero_le h0
  rw [show ds.drop ((k : Int)).toNat = cutL ds (some (k : Int)) none from cutL_from.symm]
  exact rd_cut hp h1 (rdo_some hlo) rdo_none
theorem rd_rep2 (hp : Std p H) (h1 : Rd p ta σ H (.list ds)) (hl : ds.length ≤ 1000) : Rd p (tOp rRep ta (tC (.int 2))) σ H (.list (ds ++ ds)) := by
  have := rd_rep (m := 2) hp h1 (rd_int (i := ((2 : Nat) : Int))) ⟨by omega, by decide⟩
  simpa [List.replicate_succ] using this
theorem rd_lenL (h1 : RdA p ts σ H [.list ds]) : Rd p (tCB (rLenL K) ts) σ H (.int ds.length) := fun H1 Q s q =>
  h1 H1 _ s fun vs H2 s2 hv => by
    cases hv with
    | cons hv h0 =>
      cases h0
      cases hv with
      | lst k1 k2 =>
        refine g_lenL (sq_of (del_un k1).1) ?_
        rw [k2.length]
        exact q _ _ s2 (.int _)
theorem rd_lenT {l : List Nat} (h1 : RdA p ts σ H [.str (S l)]) (hl : l.length ≤ 100000) : Rd p (tCB rLenT ts) σ H (.int l.length) := fun H1 Q s q =>
  h1 H1 _ s fun vs H2 s2 hv => by
    cases hv with
    | cons hv h0 =>
      cases h0
      cases hv
      exact g_lenT hl (q _ _ s2 (.int _))
end
section
variable {r : R2} {ta tb : TE} {te : TE} {ts : TA} {σ : L2.St} {H : Hp} {Q : VK} {rr : List V → Hp → VK → Prop}
end
theorem slice_past {l : List Nat} {i : Nat} (h : l.length ≤ i) : Txt.slice (S l) (some (i : Int)) (some ((i : Int) + 1)) = S [] := by
  have e1 : Txt.slice (S l) (some (i : Int)) (some ((i : Int) + 1)) = Txt.slice (S l) (some (i : Int)) none := by
    unfold Txt.slice
    rw [S_len, idx_hi (by omega)]
    have : Builtin.Str.strSliceIndices (some (i : Int)) (some (l.length : Int)) 1 l.length = Builtin.Str.strSliceIndices (some (i : Int)) none 1 l.length := by
      have h1 : ¬ ((l.length : Int) < 0) := by omega
      have h2 : (1 : Int) > 0 := by decide
      have h3 : (0 : Int) ≤ (l.length : Int) := by omega
      simp only [Builtin.Str.strSliceIndices, h1, h2, if_false, if_true, Int.min_self, Int.max_eq_right h3]
    rw [this]
  rw [e1, slice_from (by omega), List.drop_eq_nil_of_le (by omega)]
theorem g_slOne2 {H : Hp} {Q : VK} {l : List Nat} {i : Nat} (h : l.length ≤ 100000) (q : Q (Tx ((l.drop i).take 1)) H) : rSlTx (Tx l) (some (i : Int)) (some ((i : Int) + 1)) H Q := by
  by_cases hi : i ≤ l.length
  · exact g_slOne rfl (by omega) h hi q
  · refine ⟨l, rfl, h, ?_⟩
    rw [List.drop_eq_nil_of_le (by omega)] at q
    rw [slice_past (by omega)]
    exact q
/-! a list that is found, step by step -/
def Fnd (p : List Addr) (f : Addr) (H : Hp) (ds : List PyData) : Prop := ∃ xs, H f = some (.lst xs) ∧ f ∉ p ∧ DxAll (del (f :: p) H) xs ds
section
variable {p : List Addr} {f q : Addr} {t ta tb te : TE} {ts : TA} {σ : L2.St} {H H' : Hp} {d e : PyData} {ds es : List PyData} {n : Nat} {v : V} {K : PySem.W.Frag} {Q : VK}
theorem Fnd.sm (F : Fnd p f H ds) (s : Same H H') : Fnd p f H' ds := by
  obtain ⟨xs, h1, h2, h3⟩ := F
  exact ⟨xs, s _ _ h1, h2, h3.sm s⟩
theorem Fnd.bt (F : Fnd p f H ds) (s : But q H H') (hq : q ∈ p) : Fnd p f H' ds := by
  obtain ⟨xs, h1, h2, h3⟩ := F
  exact ⟨xs, s _ _ (fun e => h2 (e ▸ hq)) h1, h2, h3.bt s (List.mem_cons_of_mem _ hq)⟩
theorem Fnd.dx (F : Fnd p f H ds) : Dx (del p H) (.ref f) (.list ds) := by
  obtain ⟨xs, h1, h2, h3⟩ := F
  exact .lst (del_get h2 h1) h3.tl
end
section
variable {K : PySem.W.Frag} {c : TT} {A B : TS} {D : Ends} {σ : L2.St} {H : Hp} {b : Bool}
theorem g_ifSH {G : Hp → Prop} (hA : TstH c σ H b G) (h1 : ∀ H1, G H1 → b = true → A D σ H1) (h2 : ∀ H1, G H1 → b = false → B D σ H1) : tIfS c A B D σ H := by
  refine hA _ fun H1 g => ?_
  cases b with
  | true => exact h1 H1 g rfl
  | false => exact h2 H1 g rfl
end
theorem atI_hd {α : Type} (x : α) (xs : List α) : atI (x :: xs) 0 = some x := by
  unfold atI ixN
  rw [if_pos (by decide), if_pos (by simp only [List.length_cons]; omega)]
  rfl
section
variable {p : List Addr} {f : Addr} {ts : TA} {σ : L2.St} {H H' : Hp} {d : PyData} {ds : List PyData} {n : Nat} {v : V} {K : PySem.W.Frag} {Q : VK} {R : Hp → Prop}
theorem Fnd.set (F : Fnd p f H ds) (hd : Dx (del (f :: p) H) v d) (hn : n < ds.length) (q : ∀ H', But f H H' → Fnd p f H' (ds.set n d) → R H') : rSetL (.ref f) (.int (n : Int)) v H R := by
  obtain ⟨xs, h1, h2, h3⟩ := F
  refine g_setLn n h1 rfl (by rw [h3.length]; exact hn) fun H3 b3 e3 => ?_
  exact q H3 b3 ⟨_, e3, h2, dxa_set (hd.bt b3 (List.mem_cons_self ..)) (h3.bt b3 (List.mem_cons_self ..))⟩
end
/-! sizes -/
section
variable {k : Nat} {ds es : List PyData} {d : PyData} {i : Int}
theorem nca_nil : ncA k [] = true := by rw [ncA]
theorem nca_cons (h : nc k d = true) (hs : ncA k ds = true) : ncA k (d :: ds) = true := by rw [ncA, h, hs]; rfl
theorem nca_app (h : ncA k ds = true) (hs : ncA k es = true) : ncA k (ds ++ es) = true := by rw [ncA_app, h, hs]; rfl
theorem nca_sub (h : ncA k ds = true) (hs : ∀ d ∈ es, d ∈ ds) : ncA k es = true := ncA_mem.mpr fun d hd => ncA_mem.mp h d (hs d hd)
theorem nca_take {n : Nat} (h : ncA k ds = true) : ncA k (ds.take n) = true := nca_sub h fun d hd => List.mem_of_mem_take hd
theorem nca_drop {n : Nat} (h : ncA k ds = true) : ncA k (ds.drop n) = true := nca_sub h fun d hd => List.mem_of_mem_drop hd
theorem nca_cutTo (h : ncA k ds = true) : ncA k (cutTo ds i) = true := nca_take h
theorem nca_rev (h : ncA k ds = true) : ncA k ds.reverse = true := nca_sub h fun d hd => List.mem_reverse.mp hd
theorem nc_non : nc k .none = true := by cases k <;> rfl
theorem nc_bl {b : Bool} : nc k (.bool b) = true := by cases k <;> rfl
theorem nc_int (h : i.natAbs ≤ 1000000) : nc k (.int i) = true := by
  have : decide (i.natAbs < 10 ^ 100) = true := decide_eq_true (Nat.lt_of_le_of_lt h (by decide))
  cases k <;> exact this
theorem nc_big (h : i.natAbs < 10 ^ 100) : nc k (.int i) = true := by
  have : decide (i.natAbs < 10 ^ 100) = true := decide_eq_true h
  cases k <;> exact this
theorem nc_strS {l : List Nat} (h1 : l.length ≤ 20) (h2 : ∀ c ∈ l, c < 1114112) : nc k (.str (S l)) = true := by
  have : (decide ((S l).length ≤ 20) && (S l).cps.toList.all fun c => decide (c < 1114112)) = true := by
    rw [S_len, decide_eq_true h1, Bool.true_and]
    exact List.all_eq_true.mpr fun c hc => decide_eq_true (h2 c hc)
  cases k <;> exact this
theorem nc_dic : nc k (.dict []) = true := by cases k <;> rfl
theorem nc_tup (hl : ds.length ≤ nbK (k + 1)) (h : ncA k ds = true) : nc (k + 1) (.tuple ds) = true := by
  simp only [nc]
  rw [decide_eq_true hl, h]
  rfl
theorem nc_lst (hl : ds.length ≤ nbK (k + 1)) (h : ncA k ds = true) : nc (k + 1) (.list ds) = true := by
  simp only [nc]
  rw [decide_eq_true hl, h]
  rfl
theorem nc_tup0 : nc k (.tuple []) = true := by cases k <;> rfl
theorem nc_lst0 : nc k (.list []) = true := by cases k <;> rfl
end
/-! a list of things, some of them known -/
end Ly

set_option maxHeartbeats 4000000
namespace Ly
open PySem PySem.Spec PyProof.Rows L2 SX
/-! ### calls of defs that show things -/
section
variable {X : Cx} {k j : Nat} {x : Str} {sp : Sp} {p pos : Pos} {e : Expr} {es : List Expr} {t : TA} {f : Addr} {fd : FuncData} {ps : List Str}
end
end Ly

set_option maxHeartbeats 4000000
namespace Ly
open PySem PySem.Spec PyProof.Rows L2 SX
/-! ### == of any list with the empty one; of a thing with itself or a copy -/
def rEqE (K : PySem.W.Frag) : R2 := fun x y H Q => ∃ a b xs, x = .ref a ∧ y = .ref b ∧ SqL K H a xs ∧ SqL K H b [] ∧ Q (.bl (decide (xs = []))) H
def rNeE (K : PySem.W.Frag) : R2 := fun x y H Q => ∃ a b xs, x = .ref a ∧ y = .ref b ∧ SqL K H a xs ∧ SqL K H b [] ∧ Q (.bl (!decide (xs = []))) H
section
variable {X : Cx} {f : Value → Value → Sem Value} {r1 r2 : R2}
theorem op_eqE (hu : X.A.units + 64 < cLine) : OpR X (compareOp .Eq) (rEqE X.K) := by
  intro pins s σ H x y v u Q I rx ry h
  obtain ⟨a, b, xs, rfl, rfl, ha, hb, q⟩ := h
  cases (show v = Value.ref a from rx)
  cases (show u = Value.ref b from ry)
  obtain ⟨us, v1, p1, _⟩ := I.list ha
  obtain ⟨ws, v2, p2, _⟩ := I.list hb
  cases v2
  cases xs with
  | nil =>
    cases v1
    exact SeqAt.RcAt.lists (e := fun _ => true) p1.isList p2.isList rfl (by omega) (fun j h1 => absurd h1 (Nat.not_lt_zero j)) _ _ _ _ ⟨.bl true, H, I, rfl, q⟩
  | cons x xs =>
    cases v1 with
    | cons e1 e2 => exact SeqAt.RcAt.lists_lengths p1.isList p2.isList (by simp) (by omega) _ _ _ _ ⟨.bl false, H, I, rfl, q⟩
theorem op_neE (hu : X.A.units + 64 < cLine) : OpR X (compareOp .NotEq) (rNeE X.K) := by
  intro pins s σ H x y v u Q I rx ry h
  obtain ⟨a, b, xs, rfl, rfl, ha, hb, q⟩ := h
  cases (show v = Value.ref a from rx)
  cases (show u = Value.ref b from ry)
  obtain ⟨us, v1, p1, _⟩ := I.list ha
  obtain ⟨ws, v2, p2, _⟩ := I.list hb
  cases v2
  cases xs with
  | nil =>
    cases v1
    exact SeqAt.RcNeAt.lists (e := fun _ => true) p1.isList p2.isList rfl (by omega) (fun j h1 => absurd h1 (Nat.not_lt_zero j)) _ _ _ _ ⟨.bl false, H, I, rfl, q⟩
  | cons x xs =>
    cases v1 with
    | cons e1 e2 => exact SeqAt.RcNeAt.lists_lengths p1.isList p2.isList (by simp) (by omega) _ _ _ _ ⟨.bl true, H, I, rfl, q⟩
end
section
variable {K : PySem.W.Frag} {H : Hp} {Q : VK} {a b : Addr} {xs : List V} {v : V} {d : PyData}
theorem g_eqE (h1 : SqL K H a xs) (h2 : H b = some (.lst [])) (q : Q (.bl (decide (xs = []))) H) : rEqE K (.ref a) (.ref b) H Q := ⟨a, b, xs, rfl, rfl, h1, sq_of h2, q⟩
theorem g_neE (h1 : SqL K H a xs) (h2 : H b = some (.lst [])) (q : Q (.bl (!decide (xs = []))) H) : rNeE K (.ref a) (.ref b) H Q := ⟨a, b, xs, rfl, rfl, h1, sq_of h2, q⟩
end
/-! sorted(list of ints), any length -/
end Ly

set_option maxHeartbeats 4000000
namespace Ly
open PySem PySem.Spec PyProof.Rows L2 SX
/-! ### brackets that stand alone, and mendings of them -/
inductive Lon : List Nat → List Nat → Prop
  | base {w : List Nat} : clean w → Lon w []
  | snoc {x ps : List Nat} {c : Nat} {w : List Nat} : Lon x ps → c ∈ BRK → clean w → Lon (x ++ c :: w) (ps ++ [x.length])
theorem Lon.app {x ps v : List Nat} (h : Lon x ps) (hv : clean v) : Lon (x ++ v) ps := by
  cases h with
  | base hw => exact .base (clean_app hw hv)
  | snoc h hc hw =>
    rw [List.append_assoc, List.cons_append]
    exact .snoc h hc (clean_app hw hv)
theorem Lon.letter {x ps : List Nat} {c : Nat} (h : Lon x ps) (hc : c ∉ BRK) : Lon (x ++ [c]) ps := h.app (clean_one hc)
/-! all alone ones struck -/
/-! each with a partner beside it -/
/-! all brackets struck -/
/-! the alone ones turned into pairs -/
end Ly

set_option maxHeartbeats 4000000
namespace Ly
open PySem PySem.Spec PyProof.Rows L2 SX
/-! ### a dict of texts by texts at the top of the module -/
/-- an entry, where key and value are texts: both and the hash -/
def entT (e : DictEntry) : Option (Str × Str × Int) := match e.key, e.val with
  | .str x _, .str y _ => some (x, y, e.hash)
  | _, _ => none
def dicT (K : PySem.W.Frag) (a : Addr) : Option (List (Option (Str × Str × Int))) := match K.lookup a with
  | some ⟨.type c, none, .dict es _, sl⟩ => bif decide (c = "dict") && (sl.isEmpty && !(a == sysModules)) then some (es.toList.map entT) else none
  | _ => none
def entsOf (P : Params) (kvs : List (Str × Str)) : List (Option (Str × Str × Int)) := kvs.map fun kv => some (kv.1, kv.2, PyData.keyHash P kv.1)
/-- at a stands a written dict: these texts by these texts -/
def MkD (w : World) (K : PySem.W.Frag) (a : Addr) (kvs : List (Str × Str)) : Prop := dicT K a = some (entsOf w.params kvs)
theorem entT_inv {e : DictEntry} {x y : Str} {h : Int} (q : entT e = some (x, y, h)) : (∃ t, e.key = .str x t) ∧ (∃ t, e.val = .str y t) ∧ e.hash = h := by
  unfold entT at q
  split at q
  · rename_i x' t y' t' e1 e2
    have q' := Option.some.inj q
    obtain ⟨q1, q2⟩ := Prod.mk.inj q'
    obtain ⟨q3, q4⟩ := Prod.mk.inj q2
    subst q1 q3 q4
    exact ⟨⟨_, e1⟩, ⟨_, e2⟩, rfl⟩
  · cases q
theorem MkD.es {w : World} {K : PySem.W.Frag} {a : Addr} {kvs : List (Str × Str)} (D : MkD w K a kvs) : ∃ es n, K.lookup a = some ⟨.type "dict", none, .dict es n, #[]⟩ ∧ es.toList.map entT = entsOf w.params kvs ∧ (a == sysModules) = false := by
  unfold MkD dicT at D
  split at D
  · rename_i c es n sl q
    cases z : (decide (c = "dict") && (sl.isEmpty && !(a == sysModules))) with
    | false => rw [z] at D; cases D
    | true =>
      rw [z] at D
      rw [Bool.and_eq_true, Bool.and_eq_true] at z
      obtain ⟨z1, z2, z3⟩ := z
      have e1 : c = "dict" := of_decide_eq_true z1
      have e2 : sl = #[] := Array.isEmpty_iff.mp z2
      subst e1 e2
      exact ⟨es, n, q, Option.some.inj D, by simpa using z3⟩
  · cases D
theorem lit_of {P : Params} : ∀ {l : List DictEntry} {kvs : List (Str × Str)}, l.map entT = entsOf P kvs → PySem.W.KeysLit P l
  | [], _, _ => trivial
  | e :: r, [], h => by cases h
  | e :: r, kv :: kvs, h => by
    have h1 : entT e :: r.map entT = some (kv.1, kv.2, PyData.keyHash P kv.1) :: entsOf P kvs := h
    injection h1 with h2 h3
    obtain ⟨⟨t, k1⟩, _, k3⟩ := entT_inv h2
    exact ⟨⟨kv.1, t, k1, k3⟩, lit_of h3⟩
/-- what stands by a key -/
def byK (kvs : List (Str × Str)) (x : Str) : Option Str := (kvs.find? fun kv => kv.1 == x).map Prod.snd
theorem find_ents {P : Params} {x : Str} : ∀ {l : List DictEntry} {kvs : List (Str × Str)}, l.map entT = entsOf P kvs → l.any (·.refKey) = false ∧
    match byK kvs x with
    | some y => ∃ e t, l.find? (·.key.isStr x) = some e ∧ e.val = .str y t
    | none => l.find? (·.key.isStr x) = none
  | [], kvs, h => by
    cases kvs with
    | nil => exact ⟨rfl, rfl⟩
    | cons kv kvs => cases h
  | e :: r, [], h => by cases h
  | e :: r, kv :: kvs, h => by
    have h1 : entT e :: r.map entT = some (kv.1, kv.2, PyData.keyHash P kv.1) :: entsOf P kvs := h
    injection h1 with h2 h3
    obtain ⟨⟨t, k1⟩, ⟨t', k2⟩, _⟩ := entT_inv h2
    obtain ⟨i1, i2⟩ := find_ents (x := x) h3
    refine ⟨by rw [List.any_cons, i1, Bool.or_false]; unfold DictEntry.refKey; rw [k1], ?_⟩
    have ek : e.key.isStr x = (kv.1 == x) := by rw [k1]; rfl
    unfold byK at i2 ⊢
    rw [List.find?_cons, List.find?_cons]
    simp only [ek]
    cases hb : (kv.1 == x) with
    | true => exact ⟨e, t', rfl, k2⟩
    | false => exact i2
theorem MkD.nsIn {w : World} {K : PySem.W.Frag} {a : Addr} {kvs : List (Str × Str)} (D : MkD w K a kvs) (x : Str) : ∃ r, PySem.W.nsIn K a x = some r ∧ match byK kvs x with
    | some y => ∃ t, r = some (.str y t)
    | none => r = none := by
  obtain ⟨es, n, h1, h2, h3⟩ := D.es
  obtain ⟨f1, f2⟩ := find_ents (x := x) h2
  unfold PySem.W.nsIn
  rw [h1]
  cases hb : byK kvs x with
  | none =>
    rw [hb] at f2
    dsimp only at f2 ⊢
    rw [f2]
    refine ⟨none, ?_, rfl⟩
    simp only [f1, Bool.false_eq_true, if_false]
  | some y =>
    rw [hb] at f2
    obtain ⟨e, t, k1, k2⟩ := f2
    dsimp only
    rw [k1]
    exact ⟨some e.val, rfl, t, by rw [k2]⟩
theorem MkD.kd {w : World} {K : PySem.W.Frag} {a : Addr} {kvs : List (Str × Str)} (D : MkD w K a kvs) : ∃ es n, KDict K w a es n := by
  obtain ⟨es, n, h1, h2, h3⟩ := D.es
  exact ⟨es, n, h1, lit_of h2, h3⟩
/-- d[k], where k is there -/
def rKd (d : Addr) (kvs : List (Str × Str)) : R2 := fun x y H Q => x = .ref d ∧ ∃ z v, y = .str z ∧ byK kvs z = some v ∧ Q (.str v) H
theorem ix_kd {X : Cx} {d : Addr} {kvs : List (Str × Str)} (D : MkD X.w X.K d kvs) : IxR X (rKd d kvs) := by
  intro value slice pins s σ H x y v u Q I rx ry h hs
  obtain ⟨rfl, z, r, rfl, e, q⟩ := h
  obtain ⟨es, n, hl, h2, h3⟩ := D.es
  obtain ⟨o, ho, hm⟩ := D.nsIn z
  rw [e] at hm
  obtain ⟨t, rfl⟩ := hm
  exact ix_kdict value slice pins s σ H (.ref d) (.str z) v u Q I rx ry ⟨d, z, .str r, rfl, rfl, ⟨es, n, _, hl, lit_of h2, ho, ⟨t, rfl⟩⟩, q⟩ hs
/-- k in d -/
def rInKd (neg : Bool) (d : Addr) (kvs : List (Str × Str)) : R2 := fun x y H Q => ∃ z, x = .str z ∧ y = .ref d ∧ Q (.bl (if neg then !(byK kvs z).isSome else (byK kvs z).isSome)) H
theorem MkD.some {w : World} {K : PySem.W.Frag} {a : Addr} {kvs : List (Str × Str)} (D : MkD w K a kvs) (x : Str) : ∃ r, PySem.W.nsIn K a x = some r ∧ r.isSome = (byK kvs x).isSome := by
  obtain ⟨r, h1, h2⟩ := D.nsIn x
  refine ⟨r, h1, ?_⟩
  cases hb : byK kvs x with
  | none => rw [hb] at h2; rw [show r = none from h2]; rfl
  | some y => rw [hb] at h2; obtain ⟨t, rfl⟩ := h2; rfl
theorem op_ninKd {X : Cx} {d : Addr} {kvs : List (Str × Str)} (D : MkD X.w X.K d kvs) : OpR X (compareOp .NotIn) (rInKd true d kvs) := by
  intro pins s σ H x y v u Q I rx ry h
  obtain ⟨z, rfl, rfl, q⟩ := h
  obtain ⟨es, n, kd⟩ := D.kd
  obtain ⟨r, h1, h2⟩ := D.some z
  exact op_notIn_kd kd pins s σ H _ _ v u Q I rx ry ⟨z, r, rfl, rfl, h1, by rw [h2]; exact q⟩
/-! the keys, one by one -/
def Itmk (kvs : List (Str × Str)) : It := ⟨fun i _ => i < kvs.length, fun i H x H' => H' = H ∧ ∃ kv, kvs[i]? = some kv ∧ x = .str kv.1, fun i _ => kvs.length ≤ i⟩
theorem walk_m {kvs : List (Str × Str)} : Walk (Itmk kvs) kvs.length (fun _ => True) (fun i H x H' => H' = H ∧ ∃ kv, kvs[i]? = some kv ∧ x = .str kv.1) := ⟨fun _ _ hi _ => hi, fun _ _ => Nat.le_refl _, fun _ _ _ _ _ _ y => y⟩
theorem ents_at {P : Params} {l : List DictEntry} {kvs : List (Str × Str)} {i : Nat} {kv : Str × Str} (h : l.map entT = entsOf P kvs) (hi : kvs[i]? = some kv) : ∃ e t, l[i]? = some e ∧ e.key = .str kv.1 t := by
  have h1 : (l.map entT)[i]? = (entsOf P kvs)[i]? := by rw [h]
  unfold entsOf at h1
  rw [List.getElem?_map, List.getElem?_map, hi] at h1
  cases hl : l[i]? with
  | none => rw [hl] at h1; cases h1
  | some e =>
    rw [hl] at h1
    obtain ⟨⟨t, k1⟩, _⟩ := entT_inv (Option.some.inj h1)
    exact ⟨e, t, rfl, k1⟩
theorem turn_m {P : Program} {w : World} {K : PySem.W.Frag} {tg : Expr} {d : Addr} {kvs : List (Str × Str)} (D : MkD w K d kvs) (it : Addr) {n : Nat} (hn : ∃ es, K.lookup d = some ⟨.type "dict", none, .dict es n, #[]⟩) : Turn P w K tg (Itmk kvs) [it] it (fun i h => h.IsKeyIter it d i kvs.length n) where
  mem := List.mem_singleton.mpr rfl
  obj := fun i h st b hb => by
    have e := List.mem_singleton.mp hb
    subst e
    obtain ⟨oi, h1, _, h3⟩ := st
    exact ⟨oi, h1, fun v z => by rw [h3] at z; cases z⟩
  keep := fun i h h' st k => st.at fun oi e => k it (List.mem_singleton.mpr rfl) oi e
  item := by
    intro X e1 e2 e3 hc i pins s σ H E I hf st hg
    subst e1 e2 e3
    obtain ⟨f0, f1, _, f3, f4, f5⟩ := hf it (List.mem_singleton.mpr rfl)
    obtain ⟨es, n', hl, he, hs⟩ := D.es
    obtain ⟨es', hl'⟩ := hn
    rw [hl] at hl'
    cases hl'
    obtain ⟨kv, hkv⟩ : ∃ kv, kvs[i]? = some kv := ⟨_, List.getElem?_eq_getElem hg⟩
    obtain ⟨en, t, hen, hkey⟩ := ents_at he hkv
    have hsz : es.size = kvs.length := by
      have := congrArg List.length he
      unfold entsOf at this
      rw [List.length_map, List.length_map] at this
      simpa using this
    refine next_key_item st (I.kIn _ _ hl) rfl hsz (en := en) (by rw [← Array.getElem?_toList]; exact hen) fun h' st' sb => ?_
    have J1 : Inv X pins σ H { s with heap := h' } := I.turned (t' := s.toks) (fun c oc hc e => (sb.2 c hc).trans e) f0 f1 f3 f4 f5
    obtain ⟨oi, k1, k2, k3⟩ := id st'
    exact ⟨en.key, rfl, go_of (s := { s with heap := h' }) k1 k2 k3 (by decide) ⟨.str kv.1, H, J1, ⟨t, hkey⟩, ⟨rfl, kv, hkv, rfl⟩, st', fun b hb => (hf b hb).1⟩⟩
  done := by
    intro X e1 e2 e3 hc i pins s σ H E I hf st hg
    subst e1 e2 e3
    obtain ⟨f0, f1, _, f3, f4, f5⟩ := hf it (List.mem_singleton.mpr rfl)
    obtain ⟨es, n', hl, he, hs⟩ := D.es
    obtain ⟨es', hl'⟩ := hn
    rw [hl] at hl'
    cases hl'
    have hsz : es.size = kvs.length := by
      have := congrArg List.length he
      unfold entsOf at this
      rw [List.length_map, List.length_map] at this
      simpa using this
    exact next_key_end (I.ok.hd hc) st (I.kIn _ _ hl) rfl hsz hg fun h' eb => ⟨rfl, I.turned (t' := s.toks) (fun c oc hc e => eb c oc hc e) f0 f1 f3 f4 f5⟩
  self := fun _ _ _ _ _ st h => wpAny_pyIter_keyiter st h
def iKd (d : Addr) (kvs : List (Str × Str)) (td : TE) : TI := fun σ H R => td σ H fun x H1 => x = .ref d ∧ R (Itmk kvs) H1
theorem pi_kd {X : Cx} {tg e : Expr} {td : TE} {d : Addr} {kvs : List (Str × Str)} (D : MkD X.w X.K d kvs) (he : PE X e td) : PI X tg e (iKd d kvs td) := by
  refine ⟨fun pins s σ H R I0 h => ?_⟩
  refine thn (he.run pins s σ H _ I0 h) fun u s1 ⟨x, H1, I1, rx, ex, q⟩ => ?_
  subst ex
  obtain rfl : u = Value.ref d := rx
  obtain ⟨es, n, hl, h2, hs⟩ := D.es
  have hsz : es.size = kvs.length := by
    have := congrArg List.length h2
    unfold entsOf at this
    rw [List.length_map, List.length_map] at this
    simpa using this
  refine iter_keys hs (I1.kIn _ _ hl) ⟨rfl, rfl, rfl⟩ rfl (pi_one (tk := s1.toks) I1 _ (turn_m D _ ⟨es, hl⟩) ⟨_, Heap.get?_push_size _ rfl, rfl, ?_⟩ q)
  rw [hsz] <;> rfl
/-! the head's facts with such dicts -/
structure KdD where
  at_ : PySem.W.Frag → Addr
  kvs : List (Str × Str)
abbrev AlM : Type := AlE × List (Option (List (Option (Str × Str × Int))))
def obsM (ds : List KdD) (K : PySem.W.Frag) : List (Option (List (Option (Str × Str × Int)))) := ds.map fun d => dicT K (d.at_ K)
def valM (ds : List KdD) (w : World) : List (Option (List (Option (Str × Str × Int)))) := ds.map fun d => some (entsOf w.params d.kvs)
def SaysM (ds : List KdD) (w : World) (K : PySem.W.Frag) : Prop := obsM ds K = valM ds w
theorem SaysM.at_ {ds : List KdD} {w : World} {K : PySem.W.Frag} (c : SaysM ds w K) (i : Nat) {d : KdD} (h : ds[i]? = some d := by rfl) : MkD w K (d.at_ K) d.kvs := by
  have e : (obsM ds K)[i]? = (valM ds w)[i]? := congrArg (fun l => l[i]?) c
  unfold obsM valM at e
  rw [List.getElem?_map, List.getElem?_map, h] at e
  exact Option.some.inj e
def obsMG (n : Nat) (fa : List He.Fa) (fn : List He.DefD) (ex : PySem.W.Frag → Bool) (ds : List KdD) (g : Addr → Option Obj) : AlM := (obsEG n fa fn ex g, obsM ds (He.frG g (He.asD g n)))
def hookM (n : Nat) (fa : List He.Fa) (fn : List He.DefD) (ex : PySem.W.Frag → Bool) (ds : List KdD) : PySem.W.Hook where
  α := AlM
  obs := fun s => obsMG n fa fn ex ds s.heap.get?
  val := fun w => ((He.valD fn, true), valM ds w)
  says := fun w h => ∃ K : PySem.W.Frag, K.In h ∧ He.SaysD fa fn K ∧ ex K = true ∧ SaysM ds w K
  of := fun _ _ e => ⟨_, He.frG_in, congrArg (fun z : AlM => z.1.1) e, congrArg (fun z : AlM => z.1.2) e, congrArg (fun z : AlM => z.2) e⟩
  keeps := fun _ _ _ ⟨K, hK, c, cx, cd⟩ k => ⟨K, PySem.W.Frag.In.keeps hK k, c, cx, cd⟩
theorem obsMG_eq {n : Nat} {fa : List He.Fa} {fn : List He.DefD} {ex : PySem.W.Frag → Bool} {ds : List KdD} {g : Addr → Option Obj} {s : Shared} (h : ∀ a, g a = s.heap.get? a) : obsMG n fa fn ex ds g = (hookM n fa fn ex ds).obs s := by
  rw [show g = s.heap.get? from funext h] <;> rfl
end Ly

set_option maxHeartbeats 4000000
namespace Ly
open PySem PySem.Spec PyProof.Rows L2 SX
/-! ### figures -/
def fgs (i : Int) : List Nat := (Str.ofString (toString i)).cps.toList
theorem fgs_eq (i : Int) : V.str (Str.ofString (toString i)) = Tx (fgs i) := by
  unfold fgs
  cases Str.ofString (toString i)
  rfl
theorem S_fgs (i : Int) : S (fgs i) = Str.ofString (toString i) := V.str.inj (fgs_eq i).symm
def figs (p : Nat) : List Nat := if p < 10 then [48 + p] else [48 + p / 10, 48 + p % 10]
theorem fgs_figs : ∀ p : Nat, p < 100 → fgs (p : Int) = figs p := by decide +kernel
theorem int_figs {p : Nat} (h : p < 100) : PySem.intText? (S (figs p)) = some (p : Int) := by
  rw [← fgs_figs p h, S_fgs]
  exact PySem.W.KIN.num_reads (by omega) (by omega)
theorem figs_dig : ∀ p : Nat, p < 100 → ∀ c ∈ figs p, 48 ≤ c ∧ c ≤ 57 := by decide +kernel
theorem figs_len : ∀ p : Nat, p < 100 → (figs p).length = if p < 10 then 1 else 2 := by decide +kernel
/-! ### s.rstrip(signs) -/
def rstr (b a : List Nat) : List Nat := (a.reverse.dropWhile fun c => decide (c ∈ b)).reverse
theorem s_eq2 {x y : Str} (h : x.cps.toList = y.cps.toList) : x = y := by
  cases x with
  | mk a => cases y with
    | mk b =>
      have : a = b := Array.toList_inj.mp h
      rw [this]
theorem rstr_take (b a : List Nat) : a.take (a.length - (a.reverse.takeWhile fun c => decide (c ∈ b)).length) = rstr b a := by
  unfold rstr
  have h1 := List.takeWhile_append_dropWhile (p := fun c => decide (c ∈ b)) (l := a.reverse)
  generalize (a.reverse.takeWhile fun c => decide (c ∈ b)) = x at h1 ⊢
  generalize (a.reverse.dropWhile fun c => decide (c ∈ b)) = y at h1 ⊢
  have h2 : a = y.reverse ++ x.reverse := by rw [← List.reverse_append, h1, List.reverse_reverse]
  subst h2
  rw [List.take_append_of_le_length (by simp), List.take_of_length_le (by simp)]
theorem rstrip_S (a b : List Nat) : Txt.rstripChars (S a) (S b) = S (rstr b a) := by
  have hg : (fun c => (S b).cps.contains c) = fun c => decide (c ∈ b) := by
    funext c
    show (b.toArray).contains c = _
    rw [List.contains_toArray, List.contains_eq_mem]
  have hhi : stripHi (fun c => decide (c ∈ b)) true (S a) 0 = a.length - (a.reverse.takeWhile fun c => decide (c ∈ b)).length := by
    unfold stripHi
    rw [if_pos rfl, S_len]
    rfl
  have hst : stripped (fun c => decide (c ∈ b)) false true (S a) = S (rstr b a) := by
    refine s_eq2 ?_
    unfold stripped
    rw [StrLaws.strSub_toList, show stripLo (fun c => decide (c ∈ b)) false (S a) = 0 from rfl, hhi]
    show (a.drop 0).take (_ - 0) = rstr b a
    rw [List.drop_zero, Nat.sub_zero, rstr_take]
  show Txt.stripBy (fun c => (S b).cps.contains c) false true (S a) = _
  rw [hg]
  unfold Txt.stripBy
  split
  · rename_i h
    rw [← hst]
    unfold stripSame at h
    rw [Bool.and_eq_true, beq_iff_eq, beq_iff_eq] at h
    have h2 : stripHi (fun c => decide (c ∈ b)) true (S a) 0 = (S a).length := h.2
    unfold stripped
    rw [show stripLo (fun c => decide (c ∈ b)) false (S a) = 0 from rfl, h2]
    refine s_eq2 ?_
    rw [StrLaws.strSub_toList, S_len]
    show a = (a.drop 0).take (a.length - 0)
    rw [List.drop_zero, Nat.sub_zero, List.take_length]
  · exact hst
def rRstrT : V → List V → Hp → VK → Prop := fun x xs H Q => ∃ a b : List Nat, x = Tx a ∧ xs = [Tx b] ∧ a.length ≤ 100000 ∧ Q (Tx (rstr b a)) H
theorem mt_rstrT {X : Cx} : MtR X "str.rstrip" rRstrT := fun pins s σ H x xs v us Q I rx rs h => by
  obtain ⟨a, b, h1, h2, h3, q⟩ := h
  refine mt_rstripChars pins s σ H x xs v us Q I rx rs ⟨S a, S b, h1, h2, ?_, ?_⟩
  · rw [S_len]
    exact Nat.le_trans h3 (by decide)
  · rw [rstrip_S]
    exact q
theorem g_rstrT {a b : List Nat} {H : Hp} {Q : VK} (h : a.length ≤ 100000) (q : Q (Tx (rstr b a)) H) : rRstrT (Tx a) [Tx b] H Q := ⟨a, b, rfl, rfl, h, q⟩
theorem rstr_app {b x y : List Nat} {c : Nat} (hy : ∀ d ∈ y, d ∈ b) (hx : x.getLast? = some c) (hc : c ∉ b) : rstr b (x ++ y) = x := by
  unfold rstr
  rw [List.reverse_append, List.dropWhile_append_of_pos (by
    intro d hd
    exact decide_eq_true (hy d (List.mem_reverse.mp hd)))]
  rcases List.eq_nil_or_concat x with rfl | ⟨z, d, rfl⟩
  · cases hx
  · rw [List.concat_eq_append] at *
    rw [List.getLast?_concat] at hx
    have hd : d = c := Option.some.inj hx
    subst hd
    rw [List.reverse_append, List.reverse_singleton, List.singleton_append, List.dropWhile_cons_of_neg (by simpa using hc), List.reverse_cons, List.reverse_reverse]
/-! ### a comprehension over a dict's keys -/
theorem lc_m {kvs : List (Str × Str)} {g : TG} {tt : TT} {te : TE} {vs : List Nat} {σ : L2.St} {H : Hp} {Q : VK} (h : ∀ d H1, H d = none → Same H H1 → H1 d = some (.lst []) → ∃ Pv : Nat → Hp → Prop, Pv 0 H1 ∧
      (∀ (i : Nat) kv H, kvs[i]? = some kv → Pv i H → g (.str kv.1) (wipe σ vs) H fun σ2 H2 => wipe σ2 vs = wipe σ vs ∧ tt σ2 H2 fun b H3 => if b = true then te σ2 H3 fun y H4 => LcPut d (Pv (i + 1)) y H4 else Pv (i + 1) H3) ∧ ∀ H, Pv kvs.length H → Q (.ref d) H) : LcR (Itmk kvs) g tt te vs σ H Q := by
  refine lc_w walk_m fun d H1 nd s e => ?_
  obtain ⟨Pv, h0, hs, hd⟩ := h d H1 nd s e
  refine ⟨Pv, h0, fun _ _ _ _ => trivial, fun i x H H' hi p y => ?_, hd⟩
  obtain ⟨rfl, kv, hk, rfl⟩ := y
  exact hs i kv _ hk p
/-! ### deeds written -/
def Dw.mk : Dw → Nat
  | .put _ => 43
  | .str => 45
  | .trn _ => 61
def wordL (d : Deed) : List Nat := figs d.1 ++ [d.2.mk] ++ d.2.s
def commaL : List Nat := [44, 32]
def noneL : List Nat := [110, 111, 110, 101]
def showL (ds : List Deed) : List Nat := if ds = [] then noneL else TL.joinL commaL (ds.map wordL)
theorem disp_m {trs : List (TE × TE)} {σ : L2.St} {H : Hp} {Q : VK} (h : ∀ p H1, H p = none → Same H H1 → H1 p = some (.dK []) → tPairs trs σ H1 fun ps H2 => H2 p = some (.dK []) ∧ ∃ kvs : List (Key × V), ps = kvs.map (fun kv => (kV kv.1, kv.2)) ∧ kvs.length ≤ 15 ∧ Q (.ref p) (upd H2 p (.dK (mergeK [] kvs)))) : tDisp trs σ H Q := fun p np => h p _ np (Same.new np) upd_same
theorem Dds.app {H H' : Hp} {a b c : Addr} {r1 r2 : List Addr} {d1 d2 : List Deed} (h1 : Dds H a r1 d1) (h2 : Dds H b r2 d2) (s : Same H H') (e : H' c = some (.lst (r1.map V.ref ++ r2.map V.ref))) : Dds H' c (r1 ++ r2) (d1 ++ d2) := by
  refine ⟨by rw [e, List.map_append], by rw [List.length_append, List.length_append, h1.len, h2.len], fun k r d hr hd => ?_⟩
  have hl := h1.len
  by_cases hk : k < r1.length
  · rw [List.getElem?_append_left hk] at hr
    rw [List.getElem?_append_left (by omega)] at hd
    exact s _ _ (h1.it k r d hr hd)
  · rw [List.getElem?_append_right (by omega)] at hr
    rw [List.getElem?_append_right (by omega), ← hl] at hd
    exact s _ _ (h2.it _ r d hr hd)
theorem Dds.one {H H' : Hp} {t a : Addr} {d : Deed} (h : H t = some (.tup (ddV d))) (s : Same H H') (e : H' a = some (.lst [.ref t])) : Dds H' a [t] [d] := by
  refine ⟨e, rfl, fun k r x hr hx => ?_⟩
  cases k with
  | zero => rw [← Option.some.inj hr, ← Option.some.inj hx]; exact s _ _ h
  | succ k => cases hr
theorem Dds.rep {H H' : Hp} {t a : Addr} {d : Deed} {n : Nat} (h : H t = some (.tup (ddV d))) (s : Same H H') (e : H' a = some (.lst (List.replicate n [V.ref t]).flatten)) : Dds H' a (List.replicate n t) (List.replicate n d) := by
  refine ⟨by rw [e, List.map_replicate, List.flatten_replicate_singleton], by rw [List.length_replicate, List.length_replicate], fun k r x hr hx => ?_⟩
  rw [List.eq_of_mem_replicate (List.mem_of_getElem? hr), List.eq_of_mem_replicate (List.mem_of_getElem? hx)]
  exact s _ _ h
end Ly

set_option maxHeartbeats 4000000
namespace K46
open PySem PySem.Spec PyProof.Rows L2 SX Ly
def topS (i : Nat) : Stmt := PySem.Challenge.pw_nestmend_k46_deeds_written.main.body.getD i (.Pass ⟨0, 0, 0, 0⟩)
abbrev s_shown_deed : Stmt := topS 9
abbrev N_shown_deed : List Str := ["deed", "place", "word", "sign", "marks", "mark"]
theorem st_shown_deed (v0 : V) : L2.start N_shown_deed [v0] = [some v0, none, none, none, none, none] := rfl
theorem sc_shown_deed : FnScope N_shown_deed ["deed"] (defScope s_shown_deed) := ⟨rfl, rfl, rfl, by decide +kernel, rfl, by decide +kernel, by decide +kernel⟩
abbrev s_show_deeds : Stmt := topS 10
abbrev N_show_deeds : List Str := ["deeds", "deed"]
theorem st_show_deeds (v0 : V) : L2.start N_show_deeds [v0] = [some v0, none] := rfl
theorem sc_show_deeds : FnScope N_show_deeds ["deeds"] (defScope s_show_deeds) := ⟨rfl, rfl, rfl, by decide +kernel, rfl, by decide +kernel, by decide +kernel⟩
abbrev s_deed_in : Stmt := topS 11
abbrev N_deed_in : List Str := ["word", "figures", "mark", "sign", "brackets", "deed", "one"]
theorem st_deed_in (v0 : V) : L2.start N_deed_in [v0] = [some v0, none, none, none, none, none, none] := rfl
theorem sc_deed_in : FnScope N_deed_in ["word"] (defScope s_deed_in) := ⟨rfl, rfl, rfl, by decide +kernel, rfl, by decide +kernel, by decide +kernel⟩
abbrev s_read_deeds : Stmt := topS 12
abbrev N_read_deeds : List Str := ["text", "found", "ahead", "deed", "word"]
theorem st_read_deeds (v0 : V) : L2.start N_read_deeds [v0] = [some v0, none, none, none, none] := rfl
theorem sc_read_deeds : FnScope N_read_deeds ["text"] (defScope s_read_deeds) := ⟨rfl, rfl, rfl, by decide +kernel, rfl, by decide +kernel, by decide +kernel⟩
abbrev s_law_stream : Stmt := topS 14
abbrev N_law_stream : List Str := ["cell", "low"]
theorem st_law_stream (v0 : V) : L2.start N_law_stream [v0] = [some v0, none] := rfl
theorem sc_law_stream : FnScope N_law_stream ["cell"] (defScope s_law_stream) := ⟨rfl, rfl, rfl, by decide +kernel, rfl, by decide +kernel, by decide +kernel⟩
abbrev s_law_take : Stmt := topS 15
abbrev N_law_take : List Str := ["row", "many", "got"]
theorem st_law_take (v0 v1 : V) : L2.start N_law_take [v0, v1] = [some v0, some v1, none] := rfl
theorem sc_law_take : FnScope N_law_take ["row", "many"] (defScope s_law_take) := ⟨rfl, rfl, rfl, by decide +kernel, rfl, by decide +kernel, by decide +kernel⟩
abbrev s_law_deeds : Stmt := topS 16
abbrev N_law_deeds : List Str := ["row", "found", "place", "k", "j", "kind"]
theorem st_law_deeds (v0 : V) : L2.start N_law_deeds [v0] = [some v0, none, none, none, none, none] := rfl
theorem sc_law_deeds : FnScope N_law_deeds ["row"] (defScope s_law_deeds) := ⟨rfl, rfl, rfl, by decide +kernel, rfl, by decide +kernel, by decide +kernel⟩
abbrev s_law_word : Stmt := topS 17
abbrev N_law_word : List Str := ["deed", "place", "word", "sign"]
theorem st_law_word (v0 : V) : L2.start N_law_word [v0] = [some v0, none, none, none] := rfl
theorem sc_law_word : FnScope N_law_word ["deed"] (defScope s_law_word) := ⟨rfl, rfl, rfl, by decide +kernel, rfl, by decide +kernel, by decide +kernel⟩
abbrev s_law_shown : Stmt := topS 18
abbrev N_law_shown : List Str := ["deeds", "deed"]
theorem st_law_shown (v0 : V) : L2.start N_law_shown [v0] = [some v0, none] := rfl
theorem sc_law_shown : FnScope N_law_shown ["deeds"] (defScope s_law_shown) := ⟨rfl, rfl, rfl, by decide +kernel, rfl, by decide +kernel, by decide +kernel⟩
abbrev s_law_right : Stmt := topS 19
abbrev N_law_right : List Str := ["deeds", "handed", "told", "found", "one"]
theorem st_law_right (v0 : V) : L2.start N_law_right [v0] = [some v0, none, none, none, none] := rfl
theorem sc_law_right : FnScope N_law_right ["deeds"] (defScope s_law_right) := ⟨rfl, rfl, rfl, by decide +kernel, rfl, by decide +kernel, by decide +kernel⟩
abbrev s_law : Stmt := topS 20
abbrev N_law : List Str := ["script", "cell", "every", "many", "k"]
theorem st_law (v0 : V) : L2.start N_law [v0] = [some v0, none, none, none, none] := rfl
theorem sc_law : FnScope N_law ["script"] (defScope s_law) := ⟨rfl, rfl, rfl, by decide +kernel, rfl, by decide +kernel, by decide +kernel⟩
abbrev kv_MARKS : List (Str × Str) := [(S [43], S [112, 117, 116]), (S [45], S [115, 116, 114, 105, 107, 101]), (S [61], S [116, 117, 114, 110])]
structure Facts (w : World) (K : PySem.W.Frag) (mg : Str → Option Value) : Prop where
  f_shown_deed : DefAt K mg "shown_deed" s_shown_deed ["deed"]
  f_show_deeds : DefAt K mg "show_deeds" s_show_deeds ["deeds"]
  f_deed_in : DefAt K mg "deed_in" s_deed_in ["word"]
  f_read_deeds : DefAt K mg "read_deeds" s_read_deeds ["text"]
  f_law_stream : DefAt K mg "_law_stream" s_law_stream ["cell"]
  f_law_take : DefAt K mg "_law_take" s_law_take ["row", "many"]
  f_law_deeds : DefAt K mg "_law_deeds" s_law_deeds ["row"]
  f_law_word : DefAt K mg "_law_word" s_law_word ["deed"]
  f_law_shown : DefAt K mg "_law_shown" s_law_shown ["deeds"]
  f_law_right : DefAt K mg "_law_right" s_law_right ["deeds"]
  c_OPENING : ∃ u, mg "OPENING" = some u ∧ RelV (Tx OPN) u
  c_CLOSING : ∃ u, mg "CLOSING" = some u ∧ RelV (Tx CLO) u
  c_FIGURES : ∃ u, mg "FIGURES" = some u ∧ RelV (Tx [48, 49, 50, 51, 52, 53, 54, 55, 56, 57]) u
  c_MOST : ∃ u, mg "MOST" = some u ∧ RelV (.int 40) u
  -- const MARKS
  c_MARKS : ∃ u, mg "MARKS" = some u ∧ RelV (V.ref (He.ga K "MARKS")) u
  d_MARKS : MkD w K (He.ga K "MARKS") kv_MARKS
  b_len : mg "len" = none
  b_int : mg "int" = none
  b_str : mg "str" = none
  b_range : mg "range" = none
  b_zip : mg "zip" = none
  b_isinstance : mg "isinstance" = none
  b_list : mg "list" = none
  b_tuple : mg "tuple" = none
  b_bool : mg "bool" = none
  b_min : mg "min" = none
  b_ValueError : mg "ValueError" = none
  g_MendError : mg "MendError" = some (.ref (He.ga K "MendError"))
  c_MendError : ∃ u, mg "MendError" = some u ∧ RelV (V.ref (He.ga K "MendError")) u
  g_NoWriting : mg "NoWriting" = some (.ref (He.ga K "NoWriting"))
  c_NoWriting : ∃ u, mg "NoWriting" = some u ∧ RelV (V.ref (He.ga K "NoWriting")) u
  z_NoWriting : ErrF K (He.ga K "NoWriting") (He.ga K "MendError")
  kv_NoWriting : PySem.W.kitOne K (.ref (He.ga K "NoWriting")) (.type "ValueError") = some true
  kk_NoWriting_NoWriting : PySem.W.kitOne K (.ref (He.ga K "NoWriting")) (.ref (He.ga K "NoWriting")) = some true
end K46

set_option maxHeartbeats 4000000
namespace K46
open PySem PySem.Spec PyProof.Rows L2 SX Ly
local macro_rules | `(tactic| wtm_at "unf") => `(tactic| (try simp only [tMetX, tOwnX, tChain, tSeq, tNext, tBreak, tCont, tDrop, tRet, tRetN, tIfS, tAsg, tAug, tC, tOp, tUn, tNil, tCons, tOwn, tCB, tTest, tB, tAnd, tOr, tNot, tAndV, tOrV, tNotV, tIf, gName, gSub, tBM, tBM0, tM0, tM1, tSl, tPart_eq, tNoPart, tLst_eq, tTup_eq, tRevL_eq, tReplT, tRevS, tDGet_eq, sDPut_eq, tDNewT_eq, tMet, tMak, tFld_eq, sFld_eq, C8.tCut, wipe, tYes, gTup, gCons, gNil, List.set_cons_zero, List.set_cons_succ, if_true, if_false, Bool.false_eq_true, Bool.not_true, Bool.not_false, true_and, reduceIte, cx_K, tFor_eq, tLc_eq, iStr, iList, iTup, iRng1, iRng2, iRng3, iEnum, iZip, tLstRg, tRg1, gLst, RZ.iZipA, iEnumS, iZipS, tDNewK_eq, tDGet2, tDIn, tDNotIn, iKd]))
local macro_rules | `(tactic| wtm_at "unfA") => `(tactic| (try simp only [tMetX, tOwnX, tChain, tSeq, tNext, tBreak, tCont, tDrop, tRet, tRetN, tIfS, tAsg, tAug, tC, tOp, tUn, tNil, tCons, tOwn, tCB, tTest, tB, tAnd, tOr, tNot, tIf, gName, gSub, tBM, tBM0, tM0, tM1, tSl, tPart_eq, tNoPart, tLst_eq, tTup_eq, tRevL_eq, tReplT, tRevS, tDGet_eq, sDPut_eq, tDNewT_eq, tMet, tMak, tFld_eq, sFld_eq, C8.tCut, wipe, tYes, gTup, gCons, gNil, List.set_cons_zero, List.set_cons_succ, if_true, if_false, Bool.false_eq_true, Bool.not_true, Bool.not_false, true_and, reduceIte, cx_K, tFor_eq, tLc_eq, iStr, iList, iTup, iRng1, iRng2, iRng3, iEnum, iZip, tLstRg, tRg1, gLst, RZ.iZipA, iEnumS, iZipS, tDNewK_eq, tDGet2, tDIn, tDNotIn, iKd]))
local macro_rules | `(tactic| wtm_at "ne") => `(tactic| first | assumption | (apply Ne.symm; assumption) | (apply ne_new; (· assumption); (· wtm_at "lk")) | (apply Ne.symm; apply ne_new; (· assumption); (· wtm_at "lk")))
local macro_rules | `(tactic| wtm_at "lk") => `(tactic| first | assumption | exact upd_same | (apply Same.get; (· assumption); (· wtm_at "lk")) | (apply But.get; (· assumption); (· wtm_at "ne"); (· wtm_at "lk")))
local macro_rules | `(tactic| wtm_at "sq") => `(tactic| first | assumption | (apply sq_of; wtm_at "lk") | (apply Same.seq; (· assumption); (· wtm_at "sq")) | (apply But.sq; (· assumption); (· wtm_at "ne"); (· wtm_at "sq")))
local macro_rules | `(tactic| wtm_at "fr") => `(tactic| first | assumption | (apply Same.fr; (· assumption); (· wtm_at "sm")) | (apply But.fr; (· assumption); (· wtm_at "sm"); (· wtm_at "ne")))
local macro_rules | `(tactic| wtm_at "sm") => `(tactic| first | exact Same.refl _ | exact But.refl | assumption | (apply Same.tr; (· assumption); (· wtm_at "sm")) | (apply Same.b0; (· assumption); (· wtm_at "sm"); (· wtm_at "fr")) | (apply But.sa; (· assumption); (· wtm_at "sm")) | (apply But.tr; (· assumption); (· wtm_at "sm")) | (apply But.b0; (· assumption); (· wtm_at "sm"); (· wtm_at "fr")) | (apply Same.toBut; wtm_at "sm"))
local macro_rules | `(tactic| wtm_at "sc") => `(tactic| first | exact Int.zero_lt_one | (show (0 : Int) < _; omega) | (show (0 : Int) < _; decide) | exact ⟨by omega, by omega⟩ | exact .inl ⟨by omega, by omega⟩ | exact .inr ⟨by omega, by omega⟩)
local macro_rules | `(tactic| wtm_at "go1") => `(tactic| first | ((with_reducible apply g_var); (· exact rfl)) | with_reducible apply g_I0 | ((with_reducible apply g_I); (· wtm_at "sc")) | with_reducible apply g_U | with_reducible apply g_ipI | ((with_reducible apply g_addT); (· first | omega | (simp; done) | (simp; omega))) | with_reducible apply g_inT | with_reducible apply g_ninT | ((with_reducible apply g_lenT); (· omega)) | with_reducible apply g_findT1 | with_reducible apply g_str | with_reducible apply g_part | with_reducible apply g_intB | ((with_reducible apply g_ixL); (· wtm_at "sq"); (· exact rfl)) | ((with_reducible apply g_setL); (· wtm_at "lk"); (· exact rfl)) | ((with_reducible apply g_eq); (· rfl)) | ((with_reducible apply g_ne); (· rfl)))
local macro_rules | `(tactic| wtm_at "go") => `(tactic| repeat wtm_at "go1")
local macro_rules | `(tactic| wtm_at "lp") => `(tactic| skip)
local macro_rules | `(tactic| wtm_at "om") => `(tactic| first | omega | (simp; done) | (simp; omega) | (simp at *; omega))
local macro_rules | `(tactic| wtm_at "ty") => `(tactic| first | exact ty_str | exact ty_int | exact ty_bl | exact ty_non | (apply ty_lst; wtm_at "lk") | (apply ty_tup; wtm_at "lk"))
local macro_rules | `(tactic| wtm_at "kb") => `(tactic| first | exact kb_str_str | exact kb_str_int | exact kb_str_bool | exact kb_str_list | exact kb_str_tuple | exact kb_int_str | exact kb_int_int | exact kb_int_bool | exact kb_int_list | exact kb_int_tuple | exact kb_bool_str | exact kb_bool_int | exact kb_bool_bool | exact kb_bool_list | exact kb_bool_tuple | exact kb_list_str | exact kb_list_int | exact kb_list_bool | exact kb_list_list | exact kb_list_tuple | exact kb_tuple_str | exact kb_tuple_int | exact kb_tuple_bool | exact kb_tuple_list | exact kb_tuple_tuple | exact kb_NoneType_str | exact kb_NoneType_int | exact kb_NoneType_bool | exact kb_NoneType_list | exact kb_NoneType_tuple | exact kb_dict_str | exact kb_dict_int | exact kb_dict_bool | exact kb_dict_list | exact kb_dict_tuple)
local macro_rules | `(tactic| wtm_at "gx1") => `(tactic| first | ((with_reducible apply g_eqS); (· exact rfl)) | ((with_reducible apply g_neS); (· exact rfl)) | wtm_at "go1" | with_reducible apply g_min2 | with_reducible apply g_max2 | with_reducible apply g_T | with_reducible apply g_F | with_reducible apply g_NT | with_reducible apply g_NF | with_reducible apply g_nT | with_reducible apply g_nF | with_reducible apply g_RT | with_reducible apply g_RF | ((with_reducible apply g_isi); (· wtm_at "ty"); (· wtm_at "kb")) | ((with_reducible apply g_ixAU3); (· wtm_at "lk"); (· exact rfl)) | ((with_reducible apply g_ixAL3); (· wtm_at "lk"); (· exact rfl)) | ((with_reducible apply g_ixU3); (· wtm_at "lk"); (· exact rfl)) | ((with_reducible apply g_lenL3); (· wtm_at "lk")) | ((with_reducible apply g_lenU3); (· wtm_at "lk")) | ((with_reducible apply g_tyL3); (· wtm_at "lk")) | ((with_reducible apply g_lenT); (· wtm_at "pv")) | wtm_at "tr" | with_reducible apply g_ET | with_reducible apply g_EF | with_reducible apply g_EnT | with_reducible apply g_EnF)
local macro_rules | `(tactic| wtm_at "pv") => `(tactic| first | exact rfl | assumption | omega | (simp; done) | (simp; omega))
local macro_rules | `(tactic| wtm_at "tr") => `(tactic| first | ((with_reducible apply g_Td); (· wtm_at "pv")) | ((with_reducible apply g_Fd); (· wtm_at "pv")) | ((with_reducible apply g_NTd); (· wtm_at "pv")) | ((with_reducible apply g_NFd); (· wtm_at "pv")) | ((with_reducible apply g_nTd); (· wtm_at "pv")) | ((with_reducible apply g_nFd); (· wtm_at "pv")) | ((with_reducible apply g_RTd); (· wtm_at "pv")) | ((with_reducible apply g_RFd); (· wtm_at "pv")))
local macro_rules | `(tactic| wtm_at "gx") => `(tactic| repeat wtm_at "gx1")
local macro_rules | `(tactic| wtm_at "unfS") => `(tactic| (try simp only [tSeq, tNext, tAsg, tFor_eq, C8.tCut, wipe, gName, tDrop, List.set_cons_zero, List.set_cons_succ, cx_K]))
local macro_rules | `(tactic| wtm_at "rd1") => `(tactic| first | exact rd_int | exact rd_str | exact rd_bl | exact rd_non | exact rda_nil | apply rda_cons | (with_reducible apply rd_tup; (· assumption)) | (with_reducible apply rd_lst; (· assumption)) | exact rd_dic (by assumption) | exact rd_var rfl (.int _) | exact rd_var rfl (.str _) | exact rd_var rfl (.bl _) | exact rd_var rfl (by assumption) | (with_reducible apply rd_cat; (· assumption)) | (with_reducible apply rd_rep2; (· assumption)) | (with_reducible apply rd_rev; (· assumption)) | (with_reducible apply rd_to; (· assumption)) | (with_reducible apply rd_from; (· assumption)) | (with_reducible apply rd_tupOf; (· assumption)) | (with_reducible apply rd_lstOf; (· assumption)) | with_reducible apply rd_lenL | with_reducible apply rd_lenT | with_reducible apply rd_I0 | with_reducible apply rd_I | with_reducible apply rd_U | with_reducible apply rd_eqI | with_reducible apply rd_ixL | with_reducible apply rd_ixT | exact atI_hd _ _ | exact ‹atI _ _ = some _›)
local macro_rules | `(tactic| wtm_at "rdl") => `(tactic| first | decide | omega | wtm_at "sc" | (simp only [List.length_append, List.length_cons, List.length_nil, List.length_map, List.length_take, List.length_drop, List.length_reverse, cutTo]; omega))
local macro_rules | `(tactic| wtm_at "rd") => `(tactic| ((repeat' wtm_at "rd1"); (all_goals wtm_at "rdl")))
local macro_rules | `(tactic| wtm_at "nc") => `(tactic| repeat' (first | assumption | exact nca_nil | exact nc_non | exact nc_bl | exact nc_dic | exact nc_tup0 | exact nc_lst0 | (refine nc_strS (by decide) (by decide)) | (refine nc_int (by omega)) | (refine nc_big (by decide +kernel)) | refine nca_app ?_ ?_ | refine nca_cons ?_ ?_ | refine nca_take ?_ | refine nca_drop ?_ | refine nca_cutTo ?_ | refine nca_rev ?_ | refine nc_tup (by decide) ?_ | refine nc_lst (by decide) ?_ | refine nc_lst (Nat.le_trans (show _ ≤ 45 by wtm_at "rdl") (by decide)) ?_ | refine nc_tup (Nat.le_trans (show _ ≤ 45 by wtm_at "rdl") (by decide)) ?_))

section
variable {P : Program} {w : World} {K : PySem.W.Frag} {mg : Str → Option Value} {base : Heap}
/-- a row: three ints -/
structure Rw where
  a : Int
  b : Int
  c : Int
  h0 : 0 ≤ b
  h1 : b < 536870909
def Rw.o (P : Rw) : HO := .lst [.int P.a, .int P.b, .int P.c]
/-! _law_stream -/
def sp_law_stream : Sp := fun vs H Q _ => ∃ c : Int, vs = [.int c] ∧ ∀ (p : Addr) (P1 : Rw) (H' : Hp), H p = none → Same H H' → H' p = some P1.o → Q (.ref p) H'
theorem ok_law_stream (T : Facts w K mg) : C8.Cal P w K mg base 1 "_law_stream" sp_law_stream [] := by
  refine calD T.f_law_stream sc_law_stream (fun vs H Q E h => ?_) (fun f cdv A outer s H vs Q E hr h => ?_)
  · obtain ⟨c, rfl, q⟩ := h; rfl
  · obtain ⟨c, rfl, q⟩ := h
    refine ⟨_, (pss_cons (ps_set (i := 1) sc_law_stream.nd rfl (Or.inl rfl) (pe_op op_mod (pv 0) pe_int))
       (pss_cons (ps_set (i := 1) sc_law_stream.nd rfl (Or.inl rfl) (pe_op op_mod (pe_op op_add (pe_op op_mul (pe_op op_mod (pe_op op_mul (pv 1) (pv 1)) pe_int) (pe_op op_add (pv 1) pe_int)) pe_int) pe_int))
       (pss_one (ps_ret (pe_lst (pa_cons (pv 0) (pa_cons (pv 1) (pa_cons (pe_callTy call_intB rfl T.b_int (by decide +kernel) (pa_cons (pe_cmpR op_ge (pv 0) (pe_op op_pow pe_int pe_int) (nomark _)) pa_nil)) pa_nil)))))))), ?_⟩
    rw [st_law_stream]
    wtm_at "unf"
    wtm_at "go"
    refine g_lst (by show 3 ≤ 100000; decide) fun p H1 np s1 e1 => ?_
    exact q p ⟨_, _, _, Int.emod_nonneg _ (by decide), Int.emod_lt_of_pos _ (by decide)⟩ H1 np s1 e1
/-! _law_take -/
def sp_law_take : Sp := fun vs H Q _ => ∃ (p : Addr) (P0 : Rw) (m : Int), vs = [.ref p, .int m] ∧ H p = some P0.o ∧ 0 < m ∧ m < 1000000 ∧ ∀ (r : Int) (P1 : Rw) (H' : Hp), 0 ≤ r → r < m → But p H H' → H' p = some P1.o → Q (.int r) H'
theorem ok_law_take (T : Facts w K mg) : C8.Cal P w K mg base 1 "_law_take" sp_law_take [] := by
  refine calD T.f_law_take sc_law_take (fun vs H Q E h => ?_) (fun f cdv A outer s H vs Q E hr h => ?_)
  · obtain ⟨p, P0, m, rfl, hp, h0, h1, q⟩ := h; rfl
  · obtain ⟨p, P0, m, rfl, hp, h0, h1, q⟩ := h
    refine ⟨_, (pss_cons (ps_if (pt_cmpR op_eq (pe_ix ix_list (pv 0) pe_int (fun _ _ => rfl)) pe_int (nomark _))
       (pss_cons (ps_set (i := 2) sc_law_take.nd rfl (Or.inl rfl) (pe_op op_mod (pe_ix ix_list (pv 0) pe_int (fun _ _ => rfl)) (pv 1)))
       (pss_cons (ps_asg (pe_op op_fdiv (pe_ix ix_list (pv 0) pe_int (fun _ _ => rfl)) (pv 1)) (pg_sub (pv 0) pe_int set_list))
       (pss_one (ps_ret (pv 2)))))
       pss_nil)
       (pss_cons (ps_asg (pe_op op_mod (pe_op op_mul (pe_op op_add (pe_ix ix_list (pv 0) pe_int (fun _ _ => rfl)) pe_int) (pe_op op_add (pe_ix ix_list (pv 0) pe_int (fun _ _ => rfl)) pe_int)) pe_int) (pg_sub (pv 0) pe_int set_list))
       (pss_one (ps_ret (pe_op op_mod (pe_op op_fdiv (pe_op op_add (pe_op op_mul (pe_ix ix_list (pv 0) pe_int (fun _ _ => rfl)) pe_int) pe_int) pe_int) (pv 1)))))), ?_⟩
    rw [st_law_take]
    have hp' : H p = some (.lst [.int P0.a, .int P0.b, .int P0.c]) := hp
    wtm_at "unf"
    wtm_at "go"
    refine g_testB (fun h => ?_) (fun h => ?_)
    · wtm_at "go"
      intro H2 b2 e2
      wtm_at "go"
      exact q (P0.a % m) ⟨P0.a / m, P0.b, P0.c, P0.h0, P0.h1⟩ H2 (Int.emod_nonneg _ (by omega)) (Int.emod_lt_of_pos _ h0) (by wtm_at "sm") e2
    · have i0 := P0.h0
      have i1 := P0.h1
      wtm_at "go"
      generalize hx : (P0.b + 7919) * (P0.b + 104729) % 536870909 = x
      have x0 : 0 ≤ x := by rw [← hx]; exact Int.emod_nonneg _ (by decide)
      have x1 : x < 536870909 := by rw [← hx]; exact Int.emod_lt_of_pos _ (by decide)
      intro H2 b2 e2
      wtm_at "go"
      exact q _ ⟨P0.a, x, P0.c, x0, x1⟩ H2 (Int.emod_nonneg _ (by omega)) (Int.emod_lt_of_pos _ h0) (by wtm_at "sm") e2
end
end K46

set_option maxHeartbeats 4000000
namespace K46
open PySem PySem.Spec PyProof.Rows L2 SX Ly
local macro_rules | `(tactic| wtm_at "unf") => `(tactic| (try simp only [tMetX, tOwnX, tChain, tSeq, tNext, tBreak, tCont, tDrop, tRet, tRetN, tIfS, tAsg, tAug, tC, tOp, tUn, tNil, tCons, tOwn, tCB, tTest, tB, tAnd, tOr, tNot, tAndV, tOrV, tNotV, tIf, gName, gSub, tBM, tBM0, tM0, tM1, tSl, tPart_eq, tNoPart, tLst_eq, tTup_eq, tRevL_eq, tReplT, tRevS, tDGet_eq, sDPut_eq, tDNewT_eq, tMet, tMak, tFld_eq, sFld_eq, C8.tCut, wipe, tYes, gTup, gCons, gNil, List.set_cons_zero, List.set_cons_succ, if_true, if_false, Bool.false_eq_true, Bool.not_true, Bool.not_false, true_and, reduceIte, cx_K, tFor_eq, tLc_eq, iStr, iList, iTup, iRng1, iRng2, iRng3, iEnum, iZip, tLstRg, tRg1, gLst, RZ.iZipA, iEnumS, iZipS, tDNewK_eq, tDGet2, tDIn, tDNotIn, iKd]))
local macro_rules | `(tactic| wtm_at "unfA") => `(tactic| (try simp only [tMetX, tOwnX, tChain, tSeq, tNext, tBreak, tCont, tDrop, tRet, tRetN, tIfS, tAsg, tAug, tC, tOp, tUn, tNil, tCons, tOwn, tCB, tTest, tB, tAnd, tOr, tNot, tIf, gName, gSub, tBM, tBM0, tM0, tM1, tSl, tPart_eq, tNoPart, tLst_eq, tTup_eq, tRevL_eq, tReplT, tRevS, tDGet_eq, sDPut_eq, tDNewT_eq, tMet, tMak, tFld_eq, sFld_eq, C8.tCut, wipe, tYes, gTup, gCons, gNil, List.set_cons_zero, List.set_cons_succ, if_true, if_false, Bool.false_eq_true, Bool.not_true, Bool.not_false, true_and, reduceIte, cx_K, tFor_eq, tLc_eq, iStr, iList, iTup, iRng1, iRng2, iRng3, iEnum, iZip, tLstRg, tRg1, gLst, RZ.iZipA, iEnumS, iZipS, tDNewK_eq, tDGet2, tDIn, tDNotIn, iKd]))
local macro_rules | `(tactic| wtm_at "ne") => `(tactic| first | assumption | (apply Ne.symm; assumption) | (apply ne_new; (· assumption); (· wtm_at "lk")) | (apply Ne.symm; apply ne_new; (· assumption); (· wtm_at "lk")))
local macro_rules | `(tactic| wtm_at "lk") => `(tactic| first | assumption | exact upd_same | (apply Same.get; (· assumption); (· wtm_at "lk")) | (apply But.get; (· assumption); (· wtm_at "ne"); (· wtm_at "lk")))
local macro_rules | `(tactic| wtm_at "sq") => `(tactic| first | assumption | (apply sq_of; wtm_at "lk") | (apply Same.seq; (· assumption); (· wtm_at "sq")) | (apply But.sq; (· assumption); (· wtm_at "ne"); (· wtm_at "sq")))
local macro_rules | `(tactic| wtm_at "fr") => `(tactic| first | assumption | (apply Same.fr; (· assumption); (· wtm_at "sm")) | (apply But.fr; (· assumption); (· wtm_at "sm"); (· wtm_at "ne")))
local macro_rules | `(tactic| wtm_at "sm") => `(tactic| first | exact Same.refl _ | exact But.refl | assumption | (apply Same.tr; (· assumption); (· wtm_at "sm")) | (apply Same.b0; (· assumption); (· wtm_at "sm"); (· wtm_at "fr")) | (apply But.sa; (· assumption); (· wtm_at "sm")) | (apply But.tr; (· assumption); (· wtm_at "sm")) | (apply But.b0; (· assumption); (· wtm_at "sm"); (· wtm_at "fr")) | (apply Same.toBut; wtm_at "sm"))
local macro_rules | `(tactic| wtm_at "sc") => `(tactic| first | exact Int.zero_lt_one | (show (0 : Int) < _; omega) | (show (0 : Int) < _; decide) | exact ⟨by omega, by omega⟩ | exact .inl ⟨by omega, by omega⟩ | exact .inr ⟨by omega, by omega⟩)
local macro_rules | `(tactic| wtm_at "go1") => `(tactic| first | ((with_reducible apply g_var); (· exact rfl)) | with_reducible apply g_I0 | ((with_reducible apply g_I); (· wtm_at "sc")) | with_reducible apply g_U | with_reducible apply g_ipI | ((with_reducible apply g_addT); (· first | omega | (simp; done) | (simp; omega))) | with_reducible apply g_inT | with_reducible apply g_ninT | ((with_reducible apply g_lenT); (· omega)) | with_reducible apply g_findT1 | with_reducible apply g_str | with_reducible apply g_part | with_reducible apply g_intB | ((with_reducible apply g_ixL); (· wtm_at "sq"); (· exact rfl)) | ((with_reducible apply g_setL); (· wtm_at "lk"); (· exact rfl)) | ((with_reducible apply g_eq); (· rfl)) | ((with_reducible apply g_ne); (· rfl)))
local macro_rules | `(tactic| wtm_at "go") => `(tactic| repeat wtm_at "go1")
local macro_rules | `(tactic| wtm_at "lp") => `(tactic| skip)
local macro_rules | `(tactic| wtm_at "om") => `(tactic| first | omega | (simp; done) | (simp; omega) | (simp at *; omega))
local macro_rules | `(tactic| wtm_at "ty") => `(tactic| first | exact ty_str | exact ty_int | exact ty_bl | exact ty_non | (apply ty_lst; wtm_at "lk") | (apply ty_tup; wtm_at "lk"))
local macro_rules | `(tactic| wtm_at "kb") => `(tactic| first | exact kb_str_str | exact kb_str_int | exact kb_str_bool | exact kb_str_list | exact kb_str_tuple | exact kb_int_str | exact kb_int_int | exact kb_int_bool | exact kb_int_list | exact kb_int_tuple | exact kb_bool_str | exact kb_bool_int | exact kb_bool_bool | exact kb_bool_list | exact kb_bool_tuple | exact kb_list_str | exact kb_list_int | exact kb_list_bool | exact kb_list_list | exact kb_list_tuple | exact kb_tuple_str | exact kb_tuple_int | exact kb_tuple_bool | exact kb_tuple_list | exact kb_tuple_tuple | exact kb_NoneType_str | exact kb_NoneType_int | exact kb_NoneType_bool | exact kb_NoneType_list | exact kb_NoneType_tuple | exact kb_dict_str | exact kb_dict_int | exact kb_dict_bool | exact kb_dict_list | exact kb_dict_tuple)
local macro_rules | `(tactic| wtm_at "gx1") => `(tactic| first | ((with_reducible apply g_eqS); (· exact rfl)) | ((with_reducible apply g_neS); (· exact rfl)) | wtm_at "go1" | with_reducible apply g_min2 | with_reducible apply g_max2 | with_reducible apply g_T | with_reducible apply g_F | with_reducible apply g_NT | with_reducible apply g_NF | with_reducible apply g_nT | with_reducible apply g_nF | with_reducible apply g_RT | with_reducible apply g_RF | ((with_reducible apply g_isi); (· wtm_at "ty"); (· wtm_at "kb")) | ((with_reducible apply g_ixAU3); (· wtm_at "lk"); (· exact rfl)) | ((with_reducible apply g_ixAL3); (· wtm_at "lk"); (· exact rfl)) | ((with_reducible apply g_ixU3); (· wtm_at "lk"); (· exact rfl)) | ((with_reducible apply g_lenL3); (· wtm_at "lk")) | ((with_reducible apply g_lenU3); (· wtm_at "lk")) | ((with_reducible apply g_tyL3); (· wtm_at "lk")) | ((with_reducible apply g_lenT); (· wtm_at "pv")) | wtm_at "tr" | with_reducible apply g_ET | with_reducible apply g_EF | with_reducible apply g_EnT | with_reducible apply g_EnF)
local macro_rules | `(tactic| wtm_at "pv") => `(tactic| first | exact rfl | assumption | omega | (simp; done) | (simp; omega))
local macro_rules | `(tactic| wtm_at "tr") => `(tactic| first | ((with_reducible apply g_Td); (· wtm_at "pv")) | ((with_reducible apply g_Fd); (· wtm_at "pv")) | ((with_reducible apply g_NTd); (· wtm_at "pv")) | ((with_reducible apply g_NFd); (· wtm_at "pv")) | ((with_reducible apply g_nTd); (· wtm_at "pv")) | ((with_reducible apply g_nFd); (· wtm_at "pv")) | ((with_reducible apply g_RTd); (· wtm_at "pv")) | ((with_reducible apply g_RFd); (· wtm_at "pv")))
local macro_rules | `(tactic| wtm_at "gx") => `(tactic| repeat wtm_at "gx1")
local macro_rules | `(tactic| wtm_at "unfS") => `(tactic| (try simp only [tSeq, tNext, tAsg, tFor_eq, C8.tCut, wipe, gName, tDrop, List.set_cons_zero, List.set_cons_succ, cx_K]))
local macro_rules | `(tactic| wtm_at "rd1") => `(tactic| first | exact rd_int | exact rd_str | exact rd_bl | exact rd_non | exact rda_nil | apply rda_cons | (with_reducible apply rd_tup; (· assumption)) | (with_reducible apply rd_lst; (· assumption)) | exact rd_dic (by assumption) | exact rd_var rfl (.int _) | exact rd_var rfl (.str _) | exact rd_var rfl (.bl _) | exact rd_var rfl (by assumption) | (with_reducible apply rd_cat; (· assumption)) | (with_reducible apply rd_rep2; (· assumption)) | (with_reducible apply rd_rev; (· assumption)) | (with_reducible apply rd_to; (· assumption)) | (with_reducible apply rd_from; (· assumption)) | (with_reducible apply rd_tupOf; (· assumption)) | (with_reducible apply rd_lstOf; (· assumption)) | with_reducible apply rd_lenL | with_reducible apply rd_lenT | with_reducible apply rd_I0 | with_reducible apply rd_I | with_reducible apply rd_U | with_reducible apply rd_eqI | with_reducible apply rd_ixL | with_reducible apply rd_ixT | exact atI_hd _ _ | exact ‹atI _ _ = some _›)
local macro_rules | `(tactic| wtm_at "rdl") => `(tactic| first | decide | omega | wtm_at "sc" | (simp only [List.length_append, List.length_cons, List.length_nil, List.length_map, List.length_take, List.length_drop, List.length_reverse, cutTo]; omega))
local macro_rules | `(tactic| wtm_at "rd") => `(tactic| ((repeat' wtm_at "rd1"); (all_goals wtm_at "rdl")))
local macro_rules | `(tactic| wtm_at "nc") => `(tactic| repeat' (first | assumption | exact nca_nil | exact nc_non | exact nc_bl | exact nc_dic | exact nc_tup0 | exact nc_lst0 | (refine nc_strS (by decide) (by decide)) | (refine nc_int (by omega)) | (refine nc_big (by decide +kernel)) | refine nca_app ?_ ?_ | refine nca_cons ?_ ?_ | refine nca_take ?_ | refine nca_drop ?_ | refine nca_cutTo ?_ | refine nca_rev ?_ | refine nc_tup (by decide) ?_ | refine nc_lst (by decide) ?_ | refine nc_lst (Nat.le_trans (show _ ≤ 45 by wtm_at "rdl") (by decide)) ?_ | refine nc_tup (Nat.le_trans (show _ ≤ 45 by wtm_at "rdl") (by decide)) ?_))

section
variable {P : Program} {w : World} {K : PySem.W.Frag} {mg : Str → Option Value} {base : Heap}
/-- a deed as written: a place to forty, to thirty-nine where a sign is struck or turned -/
def gdB (d : Deed) : Bool := match d.2 with
  | .put c => decide (d.1 ≤ 40) && decide (c ∈ BRK)
  | .str => decide (d.1 < 40)
  | .trn c => decide (d.1 < 40) && decide (c ∈ BRK)
def gdDs (ds : List Deed) : Bool := ds.all gdB && chB ds
theorem log_sm {p : Nat} (h : p < 100) : ((p : Int)).natAbs.log2 < 1920 := by
  have : ∀ p : Nat, p < 100 → p.log2 < 1920 := by decide +kernel
  exact this p h
theorem gd_le {d : Deed} (h : gdB d = true) : d.1 ≤ 40 := by
  obtain ⟨p, w⟩ := d
  cases w <;> simp [gdB] at h <;> omega
theorem figs_last : ∀ p : Nat, p < 100 → ((figs p).getLast?.any fun c => !decide (c ∈ [43, 45, 61] ++ OPN ++ CLO)) = true := by decide +kernel
theorem brk_mb : ∀ c ∈ BRK, c ∈ [43, 45, 61] ++ OPN ++ CLO := by decide
theorem rstr_word {d : Deed} (hp : d.1 < 100) (hs : ∀ c ∈ d.2.s, c ∈ BRK) : rstr (([43, 45, 61] ++ OPN) ++ CLO) (wordL d) = figs d.1 := by
  have h1 := figs_last d.1 hp
  cases hl : (figs d.1).getLast? with
  | none => rw [hl] at h1; cases h1
  | some c =>
    rw [hl] at h1
    have hc : c ∉ [43, 45, 61] ++ OPN ++ CLO := by
      intro h
      have h2 : (!decide (c ∈ [43, 45, 61] ++ OPN ++ CLO)) = true := h1
      rw [decide_eq_true h] at h2
      cases h2
    unfold wordL
    rw [List.append_assoc (figs d.1)]
    refine rstr_app (fun x hx => ?_) hl hc
    rcases List.mem_append.mp hx with hx | hx
    · rw [List.mem_singleton.mp hx]
      obtain ⟨p, w⟩ := d
      cases w with
      | put c => exact (by decide : (43 : Nat) ∈ [43, 45, 61] ++ OPN ++ CLO)
      | str => exact (by decide : (45 : Nat) ∈ [43, 45, 61] ++ OPN ++ CLO)
      | trn c => exact (by decide : (61 : Nat) ∈ [43, 45, 61] ++ OPN ++ CLO)
    · exact brk_mb x (hs x hx)
theorem gd_sgn {d : Deed} (h : gdB d = true) : ∀ c ∈ d.2.s, c ∈ BRK := by
  obtain ⟨p, w⟩ := d
  intro c hc
  cases w with
  | put x => simp [gdB] at h; rw [List.mem_singleton.mp hc]; exact h.2
  | str => cases hc
  | trn x => simp [gdB] at h; rw [List.mem_singleton.mp hc]; exact h.2
theorem flat_one : ∀ c ∈ BRK, flatV (Tx [c]) = true := by decide +kernel
theorem in_brks : ∀ c ∈ BRK, inV (Tx [c]) (sgV (OPN ++ CLO)) = true := by decide +kernel
theorem gd_lim {d : Deed} (h : gdB d = true) : ¬ ((40 : Int) - (if (!decide (Tx [d.2.mk] = Tx [43])) = true then 1 else 0) < (d.1 : Int)) := by
  have h45 : decide (Tx [45] = Tx [43]) = false := decide_eq_false fun q => by have := Tx_inj.mp q; simp at this
  have h61 : decide (Tx [61] = Tx [43]) = false := decide_eq_false fun q => by have := Tx_inj.mp q; simp at this
  have h43 : decide (Tx [43] = Tx [43]) = true := decide_eq_true rfl
  obtain ⟨p, w⟩ := d
  cases w with
  | put c => simp [gdB] at h; simp only [Dw.mk, h43]; rw [if_neg (by decide)]; omega
  | str =>
    simp [gdB] at h
    show ¬ ((40 : Int) - (if (!decide (Tx [45] = Tx [43])) = true then 1 else 0) < (p : Int))
    split
    · omega
    · rename_i hh; exact absurd (by rw [h45]; rfl) hh
  | trn c =>
    simp [gdB] at h
    show ¬ ((40 : Int) - (if (!decide (Tx [61] = Tx [43])) = true then 1 else 0) < (p : Int))
    split
    · omega
    · rename_i hh; exact absurd (by rw [h61]; rfl) hh
theorem joinL_len : ∀ l : List (List Nat), (TL.joinL commaL l).length ≤ (l.map (·.length)).sum + 2 * l.length
  | [] => Nat.zero_le _
  | [x] => by show x.length ≤ x.length + 0 + 2; omega
  | x :: y :: r => by
    have ih := joinL_len (y :: r)
    show (x ++ (commaL ++ TL.joinL commaL (y :: r))).length ≤ _
    rw [List.length_append, List.length_append]
    simp only [List.map_cons, List.sum_cons, List.length_cons] at ih ⊢
    have : commaL.length = 2 := rfl
    omega
theorem wordL_len {d : Deed} (h : d.1 < 100) : (wordL d).length ≤ 4 := by
  have h1 := figs_len d.1 h
  have h2 : d.2.s.length ≤ 1 := by cases d.2 <;> simp [Dw.s]
  unfold wordL
  rw [List.length_append, List.length_append, h1, List.length_singleton]
  split <;> omega
theorem words_sum {ds : List Deed} (h : ∀ d ∈ ds, d.1 < 100) : ((ds.map wordL).map (·.length)).sum ≤ 4 * ds.length := by
  induction ds with
  | nil => exact Nat.le_refl _
  | cons d ds ih =>
    have := wordL_len (h d (List.mem_cons_self ..))
    have := ih fun x hx => h x (List.mem_cons_of_mem _ hx)
    simp only [List.map_cons, List.sum_cons, List.length_cons]
    omega
theorem showL_len {ds : List Deed} (h : ∀ d ∈ ds, d.1 < 100) : (showL ds).length ≤ 6 * ds.length + 4 := by
  unfold showL
  split
  · exact Nat.le_add_left _ _
  · have h1 := words_sum h
    have h3 := joinL_len (ds.map wordL)
    rw [List.length_map] at h3
    omega
theorem word_comma {d : Deed} (hp : d.1 < 100) (hs : ∀ c ∈ d.2.s, c ∈ BRK) : (44 : Nat) ∉ wordL d := by
  unfold wordL
  intro h
  rcases List.mem_append.mp h with h | h
  · rcases List.mem_append.mp h with h | h
    · have := figs_dig d.1 hp _ h; omega
    · obtain ⟨p, w⟩ := d
      cases w with
      | put c => exact absurd (List.mem_singleton.mp h) (show ¬ (44 : Nat) = 43 by decide)
      | str => exact absurd (List.mem_singleton.mp h) (show ¬ (44 : Nat) = 45 by decide)
      | trn c => exact absurd (List.mem_singleton.mp h) (show ¬ (44 : Nat) = 61 by decide)
  · exact absurd (hs _ h) (by decide)
theorem showL_hd {ds : List Deed} (h0 : ds ≠ []) (hp : ∀ d ∈ ds, d.1 < 100) : ∃ c r, showL ds = c :: r ∧ 48 ≤ c ∧ c ≤ 57 := by
  match ds, h0 with
  | d :: r, _ =>
    have h1 := figs_len d.1 (hp d (List.mem_cons_self ..))
    have h2 := figs_dig d.1 (hp d (List.mem_cons_self ..))
    cases hf : figs d.1 with
    | nil => rw [hf] at h1; split at h1 <;> cases h1
    | cons c x =>
      have hw : wordL d = c :: (x ++ [d.2.mk] ++ d.2.s) := by unfold wordL; rw [hf]; rfl
      rw [hf] at h2
      have h3 := h2 c (List.mem_cons_self ..)
      cases r with
      | nil => exact ⟨c, _, by unfold showL; rw [if_neg (by simp)]; exact hw, h3⟩
      | cons e r => exact ⟨c, _, by unfold showL; rw [if_neg (by simp)]; show wordL d ++ _ = _; rw [hw]; rfl, h3⟩
theorem showL_ne {ds : List Deed} (h0 : ds ≠ []) (hp : ∀ d ∈ ds, d.1 < 100) : showL ds ≠ [110, 111, 110, 101] := by
  obtain ⟨c, r, h1, h2⟩ := showL_hd h0 hp
  rw [h1]
  intro e
  injection e with e1 e2
  omega
/-! shown_deed -/
def sp_shown_deed : Sp := fun vs H Q _ => ∃ (a : Addr) (d : Deed), vs = [.ref a] ∧ H a = some (.tup (ddV d)) ∧ d.1 < 100 ∧ ∀ H', Same H H' → Q (Tx (wordL d)) H'
theorem ok_shown_deed (T : Facts w K mg) : C8.Cal P w K mg base 1 "shown_deed" sp_shown_deed [] := by
  refine calD T.f_shown_deed sc_shown_deed (fun vs H Q E h => ?_) (fun f cdv A outer s H vs Q E hr h => ?_)
  · obtain ⟨a, d, rfl, ha, hp, q⟩ := h; rfl
  · obtain ⟨a, d, rfl, ha, hp, q⟩ := h
    refine ⟨_, (pss_cons (ps_asg (pv 0) (pg_tup rfl (pgs_cons (pg_name (i := 1) sc_shown_deed.nd rfl (Or.inl rfl)) (pgs_cons (pg_name (i := 2) sc_shown_deed.nd rfl (Or.inr rfl)) (pgs_cons (pg_name (i := 3) sc_shown_deed.nd rfl (Or.inl rfl)) pgs_nil)))))
       (pss_cons (ps_setLc (i := 4) (own := [("mark", 5)]) (by rfl) sc_shown_deed.nd rfl rfl (sw_true rfl rfl rfl (by decide +kernel)) (pi_kd T.d_MARKS (C8.pe_gc rfl T.c_MARKS)) (blkOk_by (own := [("mark", 5)]) (N := N_shown_deed) (sc := defScope s_shown_deed) (by decide +kernel)) (fun _ _ _ _ _ => (pg_name (i := 5) sc_shown_deed.nd rfl (Or.inl rfl))) (fun _ _ _ _ _ => (pts_one (pt_cmpR op_eq (pe_ix (ix_kd T.d_MARKS) (C8.pe_gc rfl T.c_MARKS) (pv 5) (fun _ _ => rfl)) (pv 2) (nomark _)))) (fun _ _ _ _ _ => (pv 5)))
       (pss_one (ps_ret (pe_op op_addT (pe_op op_addT (pe_callTy call_str_int rfl T.b_str (by decide +kernel) (pa_cons (pv 1) pa_nil)) (pe_ix ix_list (pv 4) pe_int (fun _ _ => rfl))) (pv 3)))))), ?_⟩
    rw [st_shown_deed]
    wtm_at "unf"
    wtm_at "gx"
    refine ⟨a, _, rfl, st_of ha, rfl, _, _, rfl, _, _, rfl, _, _, rfl, rfl, ?_⟩
    wtm_at "gx"
    refine lc_m fun m H1 nm s1 em => ⟨fun i G => G m = some (.lst ((kv_MARKS.take i).filter (fun kv => kv.2 == S d.2.w) |>.map fun kv => V.str kv.1)) ∧ Same H G, ⟨em, s1⟩, fun i kv G hi hv => ?_, fun G hv => ?_⟩
    · obtain ⟨e1, sG⟩ := hv
      wtm_at "unf"
      refine ⟨rfl, ?_⟩
      wtm_at "gx"
      have hk : byK kv_MARKS kv.1 = some kv.2 := by
        match i, hi with
        | 0, hi => rw [← Option.some.inj hi]; decide +kernel
        | 1, hi => rw [← Option.some.inj hi]; decide +kernel
        | 2, hi => rw [← Option.some.inj hi]; decide +kernel
        | i + 3, hi => cases hi
      refine ⟨rfl, kv.1, kv.2, rfl, hk, ?_⟩
      wtm_at "gx"
      have htk : kv_MARKS.take (i + 1) = kv_MARKS.take i ++ [kv] := (cut_at hi).1
      refine ⟨_, rfl, ?_⟩
      rw [htk, List.filter_append, List.map_append]
      by_cases hw : kv.2 = S d.2.w
      · rw [if_pos (decide_eq_true (by rw [hw])), List.filter_cons_of_pos (by rw [hw]; exact beq_self_eq_true _)]
        wtm_at "gx"
        refine lc_put e1 (by have := List.length_filter_le (fun kv : Str × Str => kv.2 == S d.2.w) (kv_MARKS.take i); rw [List.length_map]; have h3 : (kv_MARKS.take i).length ≤ 3 := by rw [List.length_take]; exact Nat.min_le_right _ _
                             omega) fun G2 b2 e2 => ⟨e2, Same.b0 b2 sG nm⟩
      · rw [if_neg (by rw [decide_eq_true_eq]; exact fun e => hw (V.str.inj e)), List.filter_cons_of_neg (by rw [beq_iff_eq]; exact hw), List.filter_nil, List.map_nil, List.append_nil]
        exact ⟨e1, sG⟩
    · obtain ⟨e1, sG⟩ := hv
      have e1 : G m = some (.lst [Tx [d.2.mk]]) := by
        rw [e1]
        obtain ⟨p, w⟩ := d
        cases w <;> rfl
      wtm_at "gx"
      refine ⟨_, rfl, log_sm hp, ?_⟩
      wtm_at "gx"
      rw [fgs_eq, fgs_figs _ hp]
      have hl := wordL_len hp
      unfold wordL at hl
      rw [List.length_append, List.length_append] at hl
      refine g_addT (by rw [List.length_singleton] at *; omega) ?_
      wtm_at "gx"
      exact q _ sG
/-! show_deeds -/
def sp_show_deeds : Sp := fun vs H Q _ => ∃ (a : Addr) (rs : List Addr) (ds : List Deed), vs = [.ref a] ∧ Dds H a rs ds ∧ (∀ d ∈ ds, d.1 < 100) ∧ ds.length ≤ 1000 ∧ ∀ H', Same H H' → Q (Tx (showL ds)) H'
theorem ok_show_deeds (T : Facts w K mg) : C8.Cal P w K mg base 2 "show_deeds" sp_show_deeds [] := by
  refine calD T.f_show_deeds sc_show_deeds (fun vs H Q E h => ?_) (fun f cdv A outer s H vs Q E hr h => ?_)
  · obtain ⟨a, rs, ds, rfl, hD, hp, hl, q⟩ := h; rfl
  · obtain ⟨a, rs, ds, rfl, hD, hp, hl, q⟩ := h
    refine ⟨_, (pss_cons (ps_if (pt_cmpR (op_eqE hr.units) (pv 0) (pe_lst pa_nil) (nomark _))
       (pss_one (ps_ret (pe_strS (l := [110, 111, 110, 101]) (by decide +kernel))))
       pss_nil)
       (pss_one (ps_ret (pe_m1 PySem.F.slot_str_join PySem.F.type_str_join mt_joinT (pe_strS (l := [44, 32]) (by decide +kernel)) (pe_lc (own := [("deed", 1)]) (by rfl) sc_show_deeds.nd (pi_list (pv 0)) (blkOk_by (own := [("deed", 1)]) (N := N_show_deeds) (sc := defScope s_show_deeds) (by decide +kernel)) (fun _ _ _ _ _ => (pg_name (i := 1) sc_show_deeds.nd rfl (Or.inl rfl))) (fun _ _ _ _ _ => pts_nil) (fun _ _ _ _ _ => (pe_own (ok_shown_deed T) hr (by omega) rfl (pa_cons (pv 1) pa_nil)))))))), ?_⟩
    rw [st_show_deeds]
    wtm_at "unf"
    wtm_at "gx"
    refine g_lst (by show 0 ≤ 100000; decide) fun l0 H1 nl0 s1 el0 => ?_
    have hD1 := hD.same s1
    refine g_eqE (sq_of hD1.hd) el0 ?_
    have hrl := hD.len
    refine ⟨_, rfl, ?_⟩
    by_cases h0 : ds = []
    · subst h0
      have : rs = [] := List.eq_nil_of_length_eq_zero hrl
      rw [if_pos (by rw [this]; rfl)]
      exact q _ s1
    · have h1 : ¬ rs.map V.ref = [] := fun e => h0 (List.eq_nil_of_length_eq_zero (by rw [← hrl, ← List.length_map V.ref, e]; rfl))
      rw [if_neg (by rw [decide_eq_false h1]; exact Bool.false_ne_true)]
      wtm_at "gx"
      refine ⟨_, rfl, ⟨_, sq_of hD1.hd⟩, lc_lst (rs.map V.ref) fun m H2 nm s2 em => ⟨fun pre G => G m = some (.lst (((ds.take pre.length).map wordL).map Tx)) ∧ Same H1 G, ⟨em, s2⟩, fun pre post G e hv => sq_of (hv.2 _ _ hD1.hd), fun pre x post G e hv => ?_, fun G hv => ?_⟩⟩
      · obtain ⟨e1, sG⟩ := hv
        have hx := mid_at e
        obtain ⟨k, hk⟩ : ∃ k, pre.length = k := ⟨_, rfl⟩
        rw [hk] at hx e1
        have hkl : k < ds.length := by have := (List.getElem?_eq_some_iff.mp hx).1; rw [List.length_map] at this; omega
        obtain ⟨r, d, k1, k2, k3, k4⟩ := (hD1.same sG).row hkl
        rw [k3] at hx
        have hx' := (Option.some.inj hx).symm
        subst hx'
        wtm_at "unf"
        refine ⟨rfl, ?_⟩
        wtm_at "gx"
        refine ⟨r, d, rfl, k4, hp d (List.mem_of_getElem? k2), fun G2 g2 => ?_⟩
        refine lc_put (g2 _ _ e1) (by simp; omega) fun G3 b3 e3 => ⟨?_, Same.b0 b3 (sG.trans g2) nm⟩
        rw [List.length_append, hk, show k + [V.ref r].length = k + 1 from rfl, (cut_at k2).1, List.map_append, List.map_append]
        exact e3
      · obtain ⟨e1, sG⟩ := hv
        rw [List.length_map, hrl, List.take_length] at e1
        have hs := words_sum hp
        refine g_joinT (sq_of e1) (by rw [List.length_map]; show _ + ds.length * 2 ≤ 100000; omega) ?_
        have := q G (s1.trans sG)
        unfold showL at this
        rw [if_neg h0] at this
        exact this
/-! deed_in -/
def sp_deed_in : Sp := fun vs H Q _ => ∃ (d : Deed), vs = [Tx (wordL d)] ∧ gdB d = true ∧ ∀ (t : Addr) (H' : Hp), H t = none → Same H H' → H' t = some (.tup (ddV d)) → Q (.ref t) H'
theorem ok_deed_in (T : Facts w K mg) : C8.Cal P w K mg base 2 "deed_in" sp_deed_in [] := by
  refine calD T.f_deed_in sc_deed_in (fun vs H Q E h => ?_) (fun f cdv A outer s H vs Q E hr h => ?_)
  · obtain ⟨d, rfl, hd, q⟩ := h; rfl
  · obtain ⟨d, rfl, hd, q⟩ := h
    refine ⟨_, (pss_cons (ps_set (i := 1) sc_deed_in.nd rfl (Or.inl rfl) (pe_bm PySem.F.plainAttrs_str PySem.F.slot_str_rstrip PySem.F.type_str_rstrip mt_rstrT (pv 0) (pa_cons (pe_op op_addT (pe_op op_addT (pe_strS (l := [43, 45, 61]) (by decide +kernel)) (C8.pe_gc rfl T.c_OPENING)) (C8.pe_gc rfl T.c_CLOSING)) pa_nil)))
       (pss_cons (ps_set (i := 2) sc_deed_in.nd rfl (Or.inl rfl) (pe_slice sl_tx (pv 0) (po_some (pe_callB call_lenT rfl T.b_len PySem.boot_len (pa_cons (pv 1) pa_nil))) (po_some (pe_op op_add (pe_callB call_lenT rfl T.b_len PySem.boot_len (pa_cons (pv 1) pa_nil)) pe_int))))
       (pss_cons (ps_set (i := 3) sc_deed_in.nd rfl (Or.inl rfl) (pe_slice sl_tx (pv 0) (po_some (pe_op op_add (pe_callB call_lenT rfl T.b_len PySem.boot_len (pa_cons (pv 1) pa_nil)) pe_int)) po_none))
       (pss_cons (ps_ifC (PW.pt (pw_or (pt_not (pt_chain op_le op_le pe_int (pe_callB call_lenT rfl T.b_len PySem.boot_len (pa_cons (pv 1) pa_nil)) pe_int)) (pw_or (pt_cmpR (op_neE hr.units) (pe_lc (own := [("one", 6)]) (by rfl) sc_deed_in.nd (pi_str (pv 1)) (blkOk_by (own := [("one", 6)]) (N := N_deed_in) (sc := defScope s_deed_in) (by decide +kernel)) (fun _ _ _ _ _ => (pg_name (i := 6) sc_deed_in.nd rfl (Or.inl rfl))) (fun _ _ _ _ _ => (pts_one (pt_cmpR op_notInT (pv 6) (C8.pe_gc rfl T.c_FIGURES) (by rfl)))) (fun _ _ _ _ _ => (pv 6))) (pe_lst pa_nil) (nomark _)) (pw_or1 (pt_cmpR (op_ninKd T.d_MARKS) (pv 2) (C8.pe_gc rfl T.c_MARKS) (by rfl))))))
       (pss_one ps_never)
       pss_nil)
       (pss_cons (ps_set (i := 4) sc_deed_in.nd rfl (Or.inl rfl) (pe_callTy (call_listT rfl) rfl T.b_list (by decide +kernel) (pa_cons (pe_op op_addT (C8.pe_gc rfl T.c_OPENING) (C8.pe_gc rfl T.c_CLOSING)) pa_nil)))
       (pss_cons (ps_ifC (PW.pt (pw_or (PW.pt (pw_and (pt_cmpR op_eq (pv 2) (pe_strS (l := [45]) (by decide +kernel)) (nomark _)) (pw_and1 (pt_cmpR op_ne (pv 3) (pe_strS (l := []) (by decide +kernel)) (nomark _))))) (pw_or1 (PW.pt (pw_and (pt_cmpR op_ne (pv 2) (pe_strS (l := [45]) (by decide +kernel)) (nomark _)) (pw_and1 (pt_cmpR op_notIn_seq (pv 3) (pv 4) (by rfl))))))))
       (pss_one ps_never)
       pss_nil)
       (pss_cons (ps_set (i := 5) sc_deed_in.nd rfl (Or.inl rfl) (pe_tup (pa_cons (pe_callTy call_int_str rfl T.b_int (by decide +kernel) (pa_cons (pv 1) pa_nil)) (pa_cons (pe_ix (ix_kd T.d_MARKS) (C8.pe_gc rfl T.c_MARKS) (pv 2) (fun _ _ => rfl)) (pa_cons (pv 3) pa_nil)))))
       (pss_cons (ps_ifC (PW.pt (pw_or (pt_cmpR op_gt (pe_ix ix_tup (pv 5) pe_int (fun _ _ => rfl)) (pe_op op_sub (C8.pe_gc rfl T.c_MOST) (pe_callTy call_intB rfl T.b_int (by decide +kernel) (pa_cons (pe_cmpR op_ne (pv 2) (pe_strS (l := [43]) (by decide +kernel)) (nomark _)) pa_nil))) (nomark _)) (pw_or1 (pt_cmpR op_ne (pe_own (ok_shown_deed T) hr (by omega) rfl (pa_cons (pv 5) pa_nil)) (pv 0) (nomark _)))))
       (pss_one ps_never)
       pss_nil)
       (pss_one (ps_ret (pv 5))))))))))), ?_⟩
    rw [st_deed_in]
    have hp : d.1 < 100 := by have := gd_le hd; omega
    have hwl := wordL_len hp
    have hfl : 1 ≤ (figs d.1).length ∧ (figs d.1).length ≤ 2 := by rw [figs_len d.1 hp]; split <;> omega
    have hgd := gd_sgn hd
    have hmk : byK kv_MARKS (S [d.2.mk]) = some (S d.2.w) := by
      obtain ⟨p, w⟩ := d
      cases w <;> rfl
    wtm_at "unf"
    wtm_at "gx"
    refine ⟨rfl, ?_⟩
    refine g_addT (by decide) (g_addT (by decide) ?_)
    refine g_rstrT (by omega) ?_
    rw [rstr_word hp hgd]
    wtm_at "gx"
    refine g_slOne2 (l := wordL d) (by omega) ?_
    rw [show ((wordL d).drop (figs d.1).length).take 1 = [d.2.mk] by unfold wordL; rw [List.append_assoc, List.drop_left]; rfl]
    wtm_at "gx"
    refine g_slFrom (l := wordL d) (by omega) (by omega) ?_
    rw [show (wordL d).drop ((((figs d.1).length : Nat) : Int) + 1).toNat = d.2.s by
      rw [show (((figs d.1).length : Int) + 1).toNat = (figs d.1 ++ [d.2.mk]).length by rw [List.length_append]; exact rfl]
      unfold wordL
      rw [List.drop_left]]
    wtm_at "unfS"
    refine g_ifH (b := false) (G := fun G1 => Same H G1) (fun Q' q' => ?_) (fun G1 g h => by cases h) (fun G1 g1 _ => ?_)
    · wtm_at "unf"
      wtm_at "gx"
      refine ⟨_, rfl, lc_txt (l := figs d.1) fun m H1 nm s1 em => ⟨fun pre G => G m = some (.lst []) ∧ Same H G, ⟨em, s1⟩, fun pre c post G e hv => ?_, fun G hv => ?_⟩⟩
      · obtain ⟨e1, sG⟩ := hv
        have hc := figs_dig d.1 hp c (by rw [e]; simp)
        wtm_at "unf"
        refine ⟨rfl, ?_⟩
        wtm_at "gx"
        exact ⟨e1, sG⟩
      · obtain ⟨e1, sG⟩ := hv
        refine g_lst (by show 0 ≤ 100000; decide) fun l0 G1 nl0 g1 el0 => ?_
        refine g_neE (sq_of (g1 _ _ e1)) el0 ?_
        refine ⟨false, rfl, ?_⟩
        rw [if_neg Bool.false_ne_true]
        wtm_at "gx"
        refine ⟨_, rfl, rfl, ?_⟩
        rw [hmk]
        exact ⟨false, rfl, q' _ (sG.trans g1)⟩
    wtm_at "unf"
    wtm_at "gx"
    refine g_addT (by decide) ?_
    refine g_listT (by decide) fun br G2 nbr g2 ebr => ?_
    wtm_at "unfS"
    refine g_ifH (b := false) (G := fun G3 => Same G2 G3) (fun Q' q' => ?_) (fun G3 g h => by cases h) (fun G3 g3 _ => ?_)
    · wtm_at "unf"
      wtm_at "gx"
      cases hw : d.2 with
      | str =>
        wtm_at "gx"
        exact q' _ (Same.refl _)
      | put c =>
        have hcb : c ∈ BRK := hgd c (by rw [hw]; exact List.mem_singleton.mpr rfl)
        rw [show (Dw.put c).mk = 43 from rfl, show (Dw.put c).s = [c] from rfl]
        wtm_at "gx"
        refine ⟨br, _, rfl, .inl (sq_of ebr), flat_one c hcb, by decide +kernel, ?_⟩
        rw [if_pos rfl, in_brks c hcb]
        exact ⟨false, rfl, q' _ (Same.refl _)⟩
      | trn c =>
        have hcb : c ∈ BRK := hgd c (by rw [hw]; exact List.mem_singleton.mpr rfl)
        rw [show (Dw.trn c).mk = 61 from rfl, show (Dw.trn c).s = [c] from rfl]
        wtm_at "gx"
        refine ⟨br, _, rfl, .inl (sq_of ebr), flat_one c hcb, by decide +kernel, ?_⟩
        rw [if_pos rfl, in_brks c hcb]
        exact ⟨false, rfl, q' _ (Same.refl _)⟩
    wtm_at "unf"
    wtm_at "gx"
    refine ⟨S (figs d.1), d.1, rfl, int_figs hp, by rw [S_len]; omega, ?_⟩
    wtm_at "gx"
    refine ⟨rfl, _, _, rfl, hmk, ?_⟩
    wtm_at "gx"
    refine g_tup (by show 3 ≤ 100000; decide) fun t G4 nt g4 et => ?_
    have s04 : Same H G4 := g1.trans (g2.trans (g3.trans g4))
    wtm_at "unfS"
    refine g_ifH (b := false) (G := fun G5 => Same G4 G5) (fun Q' q' => ?_) (fun G3 g h => by cases h) (fun G5 g5 _ => ?_)
    · wtm_at "unf"
      wtm_at "gx"
      refine ⟨false, by rw [decide_eq_false (gd_lim hd)], ?_⟩
      rw [if_neg Bool.false_ne_true]
      wtm_at "gx"
      refine ⟨t, d, rfl, et, hp, fun G5 g5 => ?_⟩
      wtm_at "gx"
      exact q' _ g5
    wtm_at "unf"
    wtm_at "gx"
    exact q t G5 ((g1.trans (g2.trans g3)).free nt) (s04.trans g5) (g5 _ _ et)
/-! read_deeds -/
def sp_read_deeds : Sp := fun vs H Q _ => ∃ (ds : List Deed), vs = [Tx (showL ds)] ∧ gdDs ds = true ∧ ds.length ≤ 80 ∧ ∀ (b : Addr) (rs : List Addr) (H' : Hp), H b = none → Same H H' → Dds H' b rs ds → Q (.ref b) H'
theorem ok_read_deeds (T : Facts w K mg) : C8.Cal P w K mg base 3 "read_deeds" sp_read_deeds [] := by
  refine calD T.f_read_deeds sc_read_deeds (fun vs H Q E h => ?_) (fun f cdv A outer s H vs Q E hr h => ?_)
  · obtain ⟨ds, rfl, hd, hl, q⟩ := h; rfl
  · obtain ⟨ds, rfl, hd, hl, q⟩ := h
    refine ⟨_, (pss_cons (ps_if (pt_cmpR op_eq (pv 0) (pe_strS (l := [110, 111, 110, 101]) (by decide +kernel)) (nomark _))
       (pss_one (ps_ret (pe_lst pa_nil)))
       pss_nil)
       (pss_cons (ps_setLc (i := 1) (own := [("word", 4)]) (by rfl) sc_read_deeds.nd rfl rfl (sw_true rfl rfl rfl (by decide +kernel)) (pi_list (pe_m1 PySem.F.slot_str_split PySem.F.type_str_split mt_splitT (pv 0) (pe_strS (l := [44, 32]) (by decide +kernel)))) (blkOk_by (own := [("word", 4)]) (N := N_read_deeds) (sc := defScope s_read_deeds) (by decide +kernel)) (fun _ _ _ _ _ => (pg_name (i := 4) sc_read_deeds.nd rfl (Or.inl rfl))) (fun _ _ _ _ _ => pts_nil) (fun _ _ _ _ _ => (pe_own (ok_deed_in T) hr (by omega) rfl (pa_cons (pv 4) pa_nil))))
       (pss_cons (ps_for PassesOwn.never rfl (pi_zip rfl T.b_zip (pa_cons (pv 1) (pa_cons (pe_slice sl_list (pv 1) (po_some pe_int) po_none) pa_nil))) (pg_tup rfl (pgs_cons (pg_name (i := 2) sc_read_deeds.nd rfl (Or.inl rfl)) (pgs_cons (pg_name (i := 3) sc_read_deeds.nd rfl (Or.inl rfl)) pgs_nil)))
       (pss_one (ps_ifC (PW.pt (pw_or (pt_cmpR op_gt (pe_ix ix_tup (pv 2) pe_int (fun _ _ => rfl)) (pe_ix ix_tup (pv 3) pe_int (fun _ _ => rfl)) (nomark _)) (pw_or1 (PW.pt (pw_and (pt_cmpR op_eq (pe_ix ix_tup (pv 2) pe_int (fun _ _ => rfl)) (pe_ix ix_tup (pv 3) pe_int (fun _ _ => rfl)) (nomark _)) (pw_and1 (pt_cmpR op_ne (pe_ix ix_tup (pv 2) pe_int (fun _ _ => rfl)) (pe_strS (l := [112, 117, 116]) (by decide +kernel)) (nomark _))))))))
       (pss_one ps_never)
       pss_nil)))
       (pss_one (ps_ret (pv 1)))))), ?_⟩
    rw [st_read_deeds]
    have hg : ∀ d ∈ ds, gdB d = true := fun d h => by unfold gdDs at hd; rw [Bool.and_eq_true] at hd; exact List.all_eq_true.mp hd.1 d h
    have hc : chB ds = true := by unfold gdDs at hd; rw [Bool.and_eq_true] at hd; exact hd.2
    have hp : ∀ d ∈ ds, d.1 < 100 := fun d h => by have := gd_le (hg d h); omega
    wtm_at "unf"
    wtm_at "gx"
    rcases List.eq_nil_or_concat ds with rfl | ⟨ds', d', e'⟩
    · refine ⟨true, by rw [decide_eq_true (show Tx (showL []) = Tx [110, 111, 110, 101] from rfl)], ?_⟩
      rw [if_pos rfl]
      refine g_lst (by show 0 ≤ 100000; decide) fun b H1 nb s1 eb => ?_
      exact q b [] H1 nb s1 ⟨eb, rfl, fun k r d h => by simp at h⟩
    have h0 : ds ≠ [] := by rw [e', List.concat_eq_append]; simp
    have hsh : showL ds = TL.joinL commaL (ds.map wordL) := by unfold showL; rw [if_neg h0]
    have hne : ¬ Tx (showL ds) = Tx [110, 111, 110, 101] := fun e => showL_ne h0 hp (Tx_inj.mp e)
    refine ⟨false, by rw [decide_eq_false hne], ?_⟩
    rw [if_neg Bool.false_ne_true]
    wtm_at "gx"
    have hsl : (showL ds).length ≤ 1000 := by have := showL_len hp; omega
    refine g_splitT (by decide) (by decide) (by omega) fun ws H1 nws s1 ews => ?_
    rw [hsh, show TL.spl [44, 32] 0 [] (TL.joinL commaL (ds.map wordL)) = ds.map wordL from TL.spl_join (by simp [h0]) (fun p hp' => by
      obtain ⟨d, hd', rfl⟩ := List.mem_map.mp hp'
      exact word_comma (hp d hd') (gd_sgn (hg d hd')))] at ews
    refine ⟨_, rfl, ⟨_, sq_of ews⟩, lc_lst ((ds.map wordL).map Tx) fun b H2 nb s2 eb => ⟨fun pre G => ∃ rs, Dds G b rs (ds.take pre.length) ∧ Same H1 G, ⟨[], ⟨eb, rfl, fun k r d h => by simp at h⟩, s2⟩, fun pre post G e hv => sq_of (hv.choose_spec.2 _ _ ews), fun pre x post G e hv => ?_, fun G hv => ?_⟩⟩
    · obtain ⟨rs, hD, sG⟩ := hv
      have hx := mid_at e
      obtain ⟨k, hk⟩ : ∃ k, pre.length = k := ⟨_, rfl⟩
      rw [hk] at hx hD
      have hkl : k < ds.length := by have := (List.getElem?_eq_some_iff.mp hx).1; rw [List.length_map, List.length_map] at this; exact this
      have hdk : ds[k]? = some ds[k] := List.getElem?_eq_getElem hkl
      rw [List.getElem?_map, List.getElem?_map, hdk] at hx
      have hx' := (Option.some.inj hx).symm
      subst hx'
      have hrl := hD.len
      wtm_at "unf"
      refine ⟨rfl, ?_⟩
      wtm_at "gx"
      refine ⟨ds[k], rfl, hg _ (List.getElem_mem hkl), fun t1 G2 nt1 g2 et1 => ?_⟩
      refine lc_put (g2 _ _ hD.hd) (by rw [List.length_map, hrl, List.length_take]; omega) fun G3 b3 e3 => ⟨rs ++ [t1], ?_, Same.b0 b3 (sG.trans g2) nb⟩
      rw [List.length_append, hk]
      rw [show k + [Tx (wordL ds[k])].length = k + 1 from rfl, (cut_at hdk).1]
      exact (hD.same g2).snoc (d := ds[k]) et1 b3 e3
    obtain ⟨rs, hD, sG⟩ := hv
    rw [List.length_map, List.length_map, List.take_length] at hD
    have hrl := hD.len
    wtm_at "unf"
    wtm_at "gx"
    refine g_slL (sq_of hD.hd) fun b2 H3 nb2 s3 eb2 => ?_
    rw [show cutV (rs.map V.ref) (some 1) none = (rs.map V.ref).drop 1 from cutV_from (i := 1)] at eb2
    have hD3 := hD.same s3
    refine ⟨_, _, _, _, rfl, sq_of hD3.hd, sq_of eb2, for_zipN (xs := rs.map V.ref) (ys := (rs.map V.ref).drop 1) ((rs.map V.ref).length - 1) (fun i σ H' => ∃ y2 y3 y4, σ = [some (Tx (showL ds)), some (V.ref b), y2, y3, y4] ∧ Same H3 H') (by rw [List.length_drop]; omega) ⟨_, _, _, rfl, Same.refl _⟩ (fun i σ H' hi hv => ?_) (fun i x y σ H' t H'' hx hy hv nt st et => ?_) (fun σ H' hv => ?_)⟩
    · obtain ⟨y2, y3, y4, rfl, sH⟩ := hv
      exact ⟨sq_of (sH _ _ hD3.hd), sq_of (sH _ _ eb2)⟩
    · obtain ⟨y2, y3, y4, rfl, sH⟩ := hv
      rw [List.getElem?_drop, Nat.add_comm] at hy
      have hi1 : i + 1 < ds.length := by have := (List.getElem?_eq_some_iff.mp hy).1; rw [List.length_map] at this; omega
      have hD4 := hD3.same (sH.trans st)
      obtain ⟨r1, d1, k1, k2, k3, k4⟩ := hD4.row (k := i) (by omega)
      obtain ⟨r2, d2, j1, j2, j3, j4⟩ := hD4.row hi1
      rw [k3] at hx
      rw [j3] at hy
      have hx' := (Option.some.inj hx).symm
      have hy' := (Option.some.inj hy).symm
      subst hx' hy'
      have hnx := chB_iff.mp hc i d1 d2 k2 j2
      wtm_at "unf"
      refine ⟨t, _, rfl, st_of et, rfl, _, _, rfl, _, _, rfl, rfl, ?_⟩
      wtm_at "unfS"
      refine g_ifC (b := false) (fun Q' q' => ?_) (fun h => by cases h) (fun _ => ?_)
      · unfold nxB at hnx
        rw [Bool.or_eq_true, Bool.and_eq_true, decide_eq_true_eq, decide_eq_true_eq] at hnx
        wtm_at "unf"
        wtm_at "gx"
        refine g_test (fun he => ?_) (fun he => q')
        have he' : d1.1 = d2.1 := by have := V.int.inj he; omega
        have hput : d1.2.isPut = true := by rcases hnx with h | h; omega; exact h.2
        wtm_at "gx"
        obtain ⟨p1, w1⟩ := d1
        cases w1 with
        | put c => exact ⟨false, by rw [decide_eq_true (show Tx (Dw.put c).w = Tx [112, 117, 116] from rfl)]; rfl, q'⟩
        | str => cases hput
        | trn c => cases hput
      · wtm_at "unf"
        exact ⟨_, _, _, rfl, sH.trans st⟩
    · obtain ⟨y2, y3, y4, rfl, sH⟩ := hv
      wtm_at "unf"
      wtm_at "gx"
      exact q b rs H' ((s1).free nb) (s1.trans (sG.trans (s3.trans sH))) (hD3.same sH)
end
end K46

set_option maxHeartbeats 4000000
namespace K46
open PySem PySem.Spec PyProof.Rows L2 SX Ly
local macro_rules | `(tactic| wtm_at "unf") => `(tactic| (try simp only [tMetX, tOwnX, tChain, tSeq, tNext, tBreak, tCont, tDrop, tRet, tRetN, tIfS, tAsg, tAug, tC, tOp, tUn, tNil, tCons, tOwn, tCB, tTest, tB, tAnd, tOr, tNot, tAndV, tOrV, tNotV, tIf, gName, gSub, tBM, tBM0, tM0, tM1, tSl, tPart_eq, tNoPart, tLst_eq, tTup_eq, tRevL_eq, tReplT, tRevS, tDGet_eq, sDPut_eq, tDNewT_eq, tMet, tMak, tFld_eq, sFld_eq, C8.tCut, wipe, tYes, gTup, gCons, gNil, List.set_cons_zero, List.set_cons_succ, if_true, if_false, Bool.false_eq_true, Bool.not_true, Bool.not_false, true_and, reduceIte, cx_K, tFor_eq, tLc_eq, iStr, iList, iTup, iRng1, iRng2, iRng3, iEnum, iZip, tLstRg, tRg1, gLst, RZ.iZipA, iEnumS, iZipS, tDNewK_eq, tDGet2, tDIn, tDNotIn, iKd]))
local macro_rules | `(tactic| wtm_at "unfA") => `(tactic| (try simp only [tMetX, tOwnX, tChain, tSeq, tNext, tBreak, tCont, tDrop, tRet, tRetN, tIfS, tAsg, tAug, tC, tOp, tUn, tNil, tCons, tOwn, tCB, tTest, tB, tAnd, tOr, tNot, tIf, gName, gSub, tBM, tBM0, tM0, tM1, tSl, tPart_eq, tNoPart, tLst_eq, tTup_eq, tRevL_eq, tReplT, tRevS, tDGet_eq, sDPut_eq, tDNewT_eq, tMet, tMak, tFld_eq, sFld_eq, C8.tCut, wipe, tYes, gTup, gCons, gNil, List.set_cons_zero, List.set_cons_succ, if_true, if_false, Bool.false_eq_true, Bool.not_true, Bool.not_false, true_and, reduceIte, cx_K, tFor_eq, tLc_eq, iStr, iList, iTup, iRng1, iRng2, iRng3, iEnum, iZip, tLstRg, tRg1, gLst, RZ.iZipA, iEnumS, iZipS, tDNewK_eq, tDGet2, tDIn, tDNotIn, iKd]))
local macro_rules | `(tactic| wtm_at "ne") => `(tactic| first | assumption | (apply Ne.symm; assumption) | (apply ne_new; (· assumption); (· wtm_at "lk")) | (apply Ne.symm; apply ne_new; (· assumption); (· wtm_at "lk")))
local macro_rules | `(tactic| wtm_at "lk") => `(tactic| first | assumption | exact upd_same | (apply Same.get; (· assumption); (· wtm_at "lk")) | (apply But.get; (· assumption); (· wtm_at "ne"); (· wtm_at "lk")))
local macro_rules | `(tactic| wtm_at "sq") => `(tactic| first | assumption | (apply sq_of; wtm_at "lk") | (apply Same.seq; (· assumption); (· wtm_at "sq")) | (apply But.sq; (· assumption); (· wtm_at "ne"); (· wtm_at "sq")))
local macro_rules | `(tactic| wtm_at "fr") => `(tactic| first | assumption | (apply Same.fr; (· assumption); (· wtm_at "sm")) | (apply But.fr; (· assumption); (· wtm_at "sm"); (· wtm_at "ne")))
local macro_rules | `(tactic| wtm_at "sm") => `(tactic| first | exact Same.refl _ | exact But.refl | assumption | (apply Same.tr; (· assumption); (· wtm_at "sm")) | (apply Same.b0; (· assumption); (· wtm_at "sm"); (· wtm_at "fr")) | (apply But.sa; (· assumption); (· wtm_at "sm")) | (apply But.tr; (· assumption); (· wtm_at "sm")) | (apply But.b0; (· assumption); (· wtm_at "sm"); (· wtm_at "fr")) | (apply Same.toBut; wtm_at "sm"))
local macro_rules | `(tactic| wtm_at "sc") => `(tactic| first | exact Int.zero_lt_one | (show (0 : Int) < _; omega) | (show (0 : Int) < _; decide) | exact ⟨by omega, by omega⟩ | exact .inl ⟨by omega, by omega⟩ | exact .inr ⟨by omega, by omega⟩)
local macro_rules | `(tactic| wtm_at "go1") => `(tactic| first | ((with_reducible apply g_var); (· exact rfl)) | with_reducible apply g_I0 | ((with_reducible apply g_I); (· wtm_at "sc")) | with_reducible apply g_U | with_reducible apply g_ipI | ((with_reducible apply g_addT); (· first | omega | (simp; done) | (simp; omega))) | with_reducible apply g_inT | with_reducible apply g_ninT | ((with_reducible apply g_lenT); (· omega)) | with_reducible apply g_findT1 | with_reducible apply g_str | with_reducible apply g_part | with_reducible apply g_intB | ((with_reducible apply g_ixL); (· wtm_at "sq"); (· exact rfl)) | ((with_reducible apply g_setL); (· wtm_at "lk"); (· exact rfl)) | ((with_reducible apply g_eq); (· rfl)) | ((with_reducible apply g_ne); (· rfl)))
local macro_rules | `(tactic| wtm_at "go") => `(tactic| repeat wtm_at "go1")
local macro_rules | `(tactic| wtm_at "lp") => `(tactic| skip)
local macro_rules | `(tactic| wtm_at "om") => `(tactic| first | omega | (simp; done) | (simp; omega) | (simp at *; omega))
local macro_rules | `(tactic| wtm_at "ty") => `(tactic| first | exact ty_str | exact ty_int | exact ty_bl | exact ty_non | (apply ty_lst; wtm_at "lk") | (apply ty_tup; wtm_at "lk"))
local macro_rules | `(tactic| wtm_at "kb") => `(tactic| first | exact kb_str_str | exact kb_str_int | exact kb_str_bool | exact kb_str_list | exact kb_str_tuple | exact kb_int_str | exact kb_int_int | exact kb_int_bool | exact kb_int_list | exact kb_int_tuple | exact kb_bool_str | exact kb_bool_int | exact kb_bool_bool | exact kb_bool_list | exact kb_bool_tuple | exact kb_list_str | exact kb_list_int | exact kb_list_bool | exact kb_list_list | exact kb_list_tuple | exact kb_tuple_str | exact kb_tuple_int | exact kb_tuple_bool | exact kb_tuple_list | exact kb_tuple_tuple | exact kb_NoneType_str | exact kb_NoneType_int | exact kb_NoneType_bool | exact kb_NoneType_list | exact kb_NoneType_tuple | exact kb_dict_str | exact kb_dict_int | exact kb_dict_bool | exact kb_dict_list | exact kb_dict_tuple)
local macro_rules | `(tactic| wtm_at "gx1") => `(tactic| first | ((with_reducible apply g_eqS); (· exact rfl)) | ((with_reducible apply g_neS); (· exact rfl)) | wtm_at "go1" | with_reducible apply g_min2 | with_reducible apply g_max2 | with_reducible apply g_T | with_reducible apply g_F | with_reducible apply g_NT | with_reducible apply g_NF | with_reducible apply g_nT | with_reducible apply g_nF | with_reducible apply g_RT | with_reducible apply g_RF | ((with_reducible apply g_isi); (· wtm_at "ty"); (· wtm_at "kb")) | ((with_reducible apply g_ixAU3); (· wtm_at "lk"); (· exact rfl)) | ((with_reducible apply g_ixAL3); (· wtm_at "lk"); (· exact rfl)) | ((with_reducible apply g_ixU3); (· wtm_at "lk"); (· exact rfl)) | ((with_reducible apply g_lenL3); (· wtm_at "lk")) | ((with_reducible apply g_lenU3); (· wtm_at "lk")) | ((with_reducible apply g_tyL3); (· wtm_at "lk")) | ((with_reducible apply g_lenT); (· wtm_at "pv")) | wtm_at "tr" | with_reducible apply g_ET | with_reducible apply g_EF | with_reducible apply g_EnT | with_reducible apply g_EnF)
local macro_rules | `(tactic| wtm_at "pv") => `(tactic| first | exact rfl | assumption | omega | (simp; done) | (simp; omega))
local macro_rules | `(tactic| wtm_at "tr") => `(tactic| first | ((with_reducible apply g_Td); (· wtm_at "pv")) | ((with_reducible apply g_Fd); (· wtm_at "pv")) | ((with_reducible apply g_NTd); (· wtm_at "pv")) | ((with_reducible apply g_NFd); (· wtm_at "pv")) | ((with_reducible apply g_nTd); (· wtm_at "pv")) | ((with_reducible apply g_nFd); (· wtm_at "pv")) | ((with_reducible apply g_RTd); (· wtm_at "pv")) | ((with_reducible apply g_RFd); (· wtm_at "pv")))
local macro_rules | `(tactic| wtm_at "gx") => `(tactic| repeat wtm_at "gx1")
local macro_rules | `(tactic| wtm_at "unfS") => `(tactic| (try simp only [tSeq, tNext, tAsg, tFor_eq, C8.tCut, wipe, gName, tDrop, List.set_cons_zero, List.set_cons_succ, cx_K]))
local macro_rules | `(tactic| wtm_at "rd1") => `(tactic| first | exact rd_int | exact rd_str | exact rd_bl | exact rd_non | exact rda_nil | apply rda_cons | (with_reducible apply rd_tup; (· assumption)) | (with_reducible apply rd_lst; (· assumption)) | exact rd_dic (by assumption) | exact rd_var rfl (.int _) | exact rd_var rfl (.str _) | exact rd_var rfl (.bl _) | exact rd_var rfl (by assumption) | (with_reducible apply rd_cat; (· assumption)) | (with_reducible apply rd_rep2; (· assumption)) | (with_reducible apply rd_rev; (· assumption)) | (with_reducible apply rd_to; (· assumption)) | (with_reducible apply rd_from; (· assumption)) | (with_reducible apply rd_tupOf; (· assumption)) | (with_reducible apply rd_lstOf; (· assumption)) | with_reducible apply rd_lenL | with_reducible apply rd_lenT | with_reducible apply rd_I0 | with_reducible apply rd_I | with_reducible apply rd_U | with_reducible apply rd_eqI | with_reducible apply rd_ixL | with_reducible apply rd_ixT | exact atI_hd _ _ | exact ‹atI _ _ = some _›)
local macro_rules | `(tactic| wtm_at "rdl") => `(tactic| first | decide | omega | wtm_at "sc" | (simp only [List.length_append, List.length_cons, List.length_nil, List.length_map, List.length_take, List.length_drop, List.length_reverse, cutTo]; omega))
local macro_rules | `(tactic| wtm_at "rd") => `(tactic| ((repeat' wtm_at "rd1"); (all_goals wtm_at "rdl")))
local macro_rules | `(tactic| wtm_at "nc") => `(tactic| repeat' (first | assumption | exact nca_nil | exact nc_non | exact nc_bl | exact nc_dic | exact nc_tup0 | exact nc_lst0 | (refine nc_strS (by decide) (by decide)) | (refine nc_int (by omega)) | (refine nc_big (by decide +kernel)) | refine nca_app ?_ ?_ | refine nca_cons ?_ ?_ | refine nca_take ?_ | refine nca_drop ?_ | refine nca_cutTo ?_ | refine nca_rev ?_ | refine nc_tup (by decide) ?_ | refine nc_lst (by decide) ?_ | refine nc_lst (Nat.le_trans (show _ ≤ 45 by wtm_at "rdl") (by decide)) ?_ | refine nc_tup (Nat.le_trans (show _ ≤ 45 by wtm_at "rdl") (by decide)) ?_))

section
variable {P : Program} {w : World} {K : PySem.W.Frag} {mg : Str → Option Value} {base : Heap}
/-- the deeds found so far, by a row that is drawn from -/
structure LwS (H G : Hp) (p f : Addr) (P : Rw) (rs : List Addr) (ds : List Deed) (pl : Nat) : Prop where
  hp : G p = some P.o
  hD : Dds G f rs ds
  hg : gdDs ds = true
  hl : pl ≤ 40
  hx : ∀ x ∈ ds, x.1 ≤ pl
  hb : But p H G
def PutAt (ds : List Deed) (pl : Nat) : Prop := ∀ x ∈ ds, x.1 = pl → x.2.isPut = true
theorem PutAt.snoc {ds : List Deed} {pl : Nat} {w : Dw} (h : PutAt ds pl) (hw : w.isPut = true) : PutAt (ds ++ [(pl, w)]) pl := fun x hx e => by
  rcases List.mem_append.mp hx with hx | hx
  · exact h x hx e
  · rw [List.mem_singleton.mp hx]; exact hw
theorem LwS.draw {H G G1 : Hp} {p f : Addr} {P P1 : Rw} {rs : List Addr} {ds : List Deed} {pl : Nat} (L : LwS H G p f P rs ds pl) (b : But p G G1) (e : G1 p = some P1.o) (hn : f ≠ p) : LwS H G1 p f P1 rs ds pl :=
  ⟨e, L.hD.but b L.hp hn, L.hg, L.hl, L.hx, But.tr b L.hb⟩
theorem LwS.same {H G G1 : Hp} {p f : Addr} {P : Rw} {rs : List Addr} {ds : List Deed} {pl : Nat} (L : LwS H G p f P rs ds pl) (s : Same G G1) : LwS H G1 p f P rs ds pl :=
  ⟨s _ _ L.hp, L.hD.same s, L.hg, L.hl, L.hx, But.sa s L.hb⟩
theorem gdDs_snoc {ds : List Deed} {d : Deed} (h : gdDs ds = true) (hd : gdB d = true) (hn : ∀ e ∈ ds, nxB e d = true) : gdDs (ds ++ [d]) = true := by
  unfold gdDs at h ⊢
  rw [Bool.and_eq_true] at h ⊢
  refine ⟨by rw [List.all_append, h.1]; simp [hd], chB_iff.mpr fun k x y hx hy => ?_⟩
  have hk : k + 1 < ds.length + 1 := by have := (List.getElem?_eq_some_iff.mp hy).1; simpa using this
  rw [List.getElem?_append_left (by omega)] at hx
  by_cases hk2 : k + 1 < ds.length
  · rw [List.getElem?_append_left hk2] at hy
    exact chB_iff.mp h.2 k x y hx hy
  · rw [List.getElem?_append_right (by omega), show k + 1 - ds.length = 0 by omega] at hy
    rw [← Option.some.inj hy]
    exact hn x (List.mem_of_getElem? hx)
theorem LwS.snoc {H G G1 : Hp} {p f t : Addr} {P : Rw} {rs : List Addr} {ds : List Deed} {pl : Nat} {w : Dw} (L : LwS H G p f P rs ds pl) (nf : H f = none) (hn : f ≠ p) (hd : gdB (pl, w) = true) (hpa : PutAt ds pl) (ht : G t = some (.tup [.int (pl : Nat), Tx w.w, Tx w.s])) (b : But f G G1) (e : G1 f = some (.lst (rs.map V.ref ++ [.ref t]))) : LwS H G1 p f P (rs ++ [t]) (ds ++ [(pl, w)]) pl := by
  refine ⟨b _ _ (Ne.symm hn) L.hp, L.hD.snoc (d := (pl, w)) ht b e, gdDs_snoc L.hg hd fun x hx => ?_, L.hl, fun x hx => ?_, But.b0 b L.hb nf⟩
  · have h1 := L.hx x hx
    rcases Nat.lt_or_ge x.1 pl with h2 | h2
    · exact nxB_lt h2
    · exact nxB_put h1 (hpa x hx (by omega))
  · rcases List.mem_append.mp hx with hx | hx
    · exact L.hx x hx
    · rw [List.mem_singleton.mp hx]; exact Nat.le_refl _
theorem gd_put {d : Deed} (h : gdB d = true) (h40 : d.1 = 40) : d.2.isPut = true := by
  obtain ⟨p, w⟩ := d
  cases w with
  | put c => rfl
  | str => simp [gdB] at h; omega
  | trn c => simp [gdB] at h; omega
theorem LwS.move {H G : Hp} {p f : Addr} {P : Rw} {rs : List Addr} {ds : List Deed} {pl pl2 : Nat} (L : LwS H G p f P rs ds pl) (h1 : pl2 ≤ 40) (h2 : pl < pl2 ∨ (pl = 40 ∧ pl2 = 40)) : LwS H G p f P rs ds pl2 ∧ PutAt ds pl2 := by
  refine ⟨⟨L.hp, L.hD, L.hg, h1, fun x hx => by have := L.hx x hx; omega, L.hb⟩, fun x hx e => ?_⟩
  have h3 := L.hx x hx
  have hg := L.hg
  unfold gdDs at hg
  rw [Bool.and_eq_true] at hg
  exact gd_put (List.all_eq_true.mp hg.1 x hx) (by omega)
theorem brk_lt3 : ∀ c ∈ BRK, c < 1114112 := by decide
theorem gd_sgD {ds : List Deed} (h : gdDs ds = true) : sgD ds := by
  unfold gdDs at h
  rw [Bool.and_eq_true] at h
  intro d hd c hc
  exact brk_lt3 c (gd_sgn (List.all_eq_true.mp h.1 d hd) c hc)
/-! _law_deeds -/
def sp_law_deeds : Sp := fun vs H Q _ => ∃ (p : Addr) (P0 : Rw), vs = [.ref p] ∧ H p = some P0.o ∧ ∀ (P1 : Rw) (b : Addr) (rs : List Addr) (ds : List Deed) (H' : Hp), H b = none → But p H H' → H' p = some P1.o → Dds H' b rs ds → gdDs ds = true → ds.length ≤ 40 → Q (.ref b) H'
theorem ok_law_deeds (T : Facts w K mg) : C8.Cal P w K mg base 2 "_law_deeds" sp_law_deeds [] := by
  refine calD T.f_law_deeds sc_law_deeds (fun vs H Q E h => ?_) (fun f cdv A outer s H vs Q E hr h => ?_)
  · obtain ⟨p, P0, rfl, hp, q⟩ := h; rfl
  · obtain ⟨p, P0, rfl, hp, q⟩ := h
    refine ⟨_, (pss_cons (ps_set (i := 1) sc_law_deeds.nd rfl (Or.inl rfl) (pe_lst pa_nil))
       (pss_cons (ps_set (i := 2) sc_law_deeds.nd rfl (Or.inl rfl) (pe_own (ok_law_take T) hr (by omega) rfl (pa_cons (pv 0) (pa_cons pe_int pa_nil))))
       (pss_cons (ps_for PassesOwn.never rfl (pi_range1 rfl T.b_range (pa_cons (pe_own (ok_law_take T) hr (by omega) rfl (pa_cons (pv 0) (pa_cons pe_int pa_nil))) pa_nil)) (pg_name (i := 3) sc_law_deeds.nd rfl (Or.inl rfl))
       (pss_cons (ps_for PassesOwn.never rfl (pi_range1 rfl T.b_range (pa_cons (pe_own (ok_law_take T) hr (by omega) rfl (pa_cons (pv 0) (pa_cons pe_int pa_nil))) pa_nil)) (pg_name (i := 4) sc_law_deeds.nd rfl (Or.inl rfl))
       (pss_one (ps_expr (pe_bm PySem.F.plainAttrs_list PySem.F.slot_list_append PySem.F.type_list_append mt_append (pv 1) (pa_cons (pe_tup (pa_cons (pv 2) (pa_cons (pe_strS (l := [112, 117, 116]) (by decide +kernel)) (pa_cons (pe_ix ix_txt (pe_strS (l := BRK) (by decide +kernel)) (pe_own (ok_law_take T) hr (by omega) rfl (pa_cons (pv 0) (pa_cons pe_int pa_nil))) (fun _ _ => rfl)) pa_nil)))) pa_nil)))))
       (pss_cons (ps_set (i := 5) sc_law_deeds.nd rfl (Or.inl rfl) (pe_own (ok_law_take T) hr (by omega) rfl (pa_cons (pv 0) (pa_cons pe_int pa_nil))))
       (C8.pss_cut (ps_ifC (PW.pt (pw_and (pt_cmpR op_eq (pv 5) pe_int (nomark _)) (pw_and1 (pt_cmpR op_lt (pv 2) pe_int (nomark _)))))
       (pss_one (ps_expr (pe_bm PySem.F.plainAttrs_list PySem.F.slot_list_append PySem.F.type_list_append mt_append (pv 1) (pa_cons (pe_tup (pa_cons (pv 2) (pa_cons (pe_strS (l := [115, 116, 114, 105, 107, 101]) (by decide +kernel)) (pa_cons (pe_strS (l := []) (by decide +kernel)) pa_nil)))) pa_nil))))
       pss_nil)
       (C8.pss_cut (ps_ifC (PW.pt (pw_and (pt_cmpR op_eq (pv 5) pe_int (nomark _)) (pw_and1 (pt_cmpR op_lt (pv 2) pe_int (nomark _)))))
       (pss_one (ps_expr (pe_bm PySem.F.plainAttrs_list PySem.F.slot_list_append PySem.F.type_list_append mt_append (pv 1) (pa_cons (pe_tup (pa_cons (pv 2) (pa_cons (pe_strS (l := [116, 117, 114, 110]) (by decide +kernel)) (pa_cons (pe_ix ix_txt (pe_strS (l := BRK) (by decide +kernel)) (pe_own (ok_law_take T) hr (by omega) rfl (pa_cons (pv 0) (pa_cons pe_int pa_nil))) (fun _ _ => rfl)) pa_nil)))) pa_nil))))
       pss_nil)
       (pss_one (ps_set (i := 2) sc_law_deeds.nd rfl (Or.inl rfl) (pe_callB (call_min2' rfl) rfl T.b_min (by decide +kernel) (pa_cons pe_int (pa_cons (pe_op op_add (pe_op op_add (pv 2) pe_int) (pe_ix ix_list (pe_lst (pa_cons (pe_own (ok_law_take T) hr (by omega) rfl (pa_cons (pv 0) (pa_cons pe_int pa_nil))) (pa_cons (pe_own (ok_law_take T) hr (by omega) rfl (pa_cons (pv 0) (pa_cons pe_int pa_nil))) pa_nil))) (pe_own (ok_law_take T) hr (by omega) rfl (pa_cons (pv 0) (pa_cons pe_int pa_nil))) (fun _ _ => rfl))) pa_nil))))))))))
       (pss_one (ps_ret (pv 1)))))), ?_⟩
    rw [st_law_deeds]
    wtm_at "unf"
    wtm_at "gx"
    refine g_lst (by show 0 ≤ 100000; decide) fun f H1 nf s1 ef => ?_
    have hfp : f ≠ p := Ne.symm (ne_new nf hp)
    wtm_at "gx"
    refine ⟨p, P0, 4, rfl, s1 _ _ hp, by decide, by decide, fun r P1 H2 r0 r1 b2 e2 => ?_⟩
    obtain ⟨pl0, rfl⟩ := Int.eq_ofNat_of_zero_le r0
    wtm_at "gx"
    refine ⟨p, P1, 8, rfl, e2, by decide, by decide, fun n P2 H3 n0 n1 b3 e3 => ?_⟩
    have ef3 : H3 f = some (.lst []) := b3 _ _ hfp (b2 _ _ hfp ef)
    refine ⟨_, rfl, by omega, by omega, for_rng (fun i σ G => ∃ (rs : List Addr) (ds : List Deed) (P : Rw) (pl : Nat) (y3 y4 y5 : Option V), σ = [some (V.ref p), some (V.ref f), some (V.int (pl : Nat)), y3, y4, y5] ∧ LwS H G p f P rs ds pl ∧ PutAt ds pl ∧ ds.length ≤ 3 * i) ⟨[], [], P2, pl0, _, _, _, rfl, ⟨e3, ⟨ef3, rfl, fun k r d h => by simp at h⟩, rfl, by omega, fun x h => by simp at h, But.tr b3 (But.tr b2 (Same.toBut s1))⟩, fun x h => by simp at h, by simp⟩ (fun i σ G hi hv => ?_) (fun σ G hv => ?_)⟩
    · obtain ⟨rs, ds, P, pl, y3, y4, y5, rfl, L, hpa, hlen⟩ := hv
      have hi7 : i < 8 := by omega
      wtm_at "unf"
      wtm_at "gx"
      refine ⟨p, P, 3, rfl, L.hp, by decide, by decide, fun m P3 H4 m0 m1 b4 e4 => ?_⟩
      have L4 := L.draw b4 e4 hfp
      refine ⟨_, rfl, by omega, by omega, for_rng (fun j σ G => ∃ (rs : List Addr) (ds : List Deed) (P : Rw) (y4 : Option V), σ = [some (V.ref p), some (V.ref f), some (V.int (pl : Nat)), some (V.int (0 + (i : Int))), y4, y5] ∧ LwS H G p f P rs ds pl ∧ PutAt ds pl ∧ ds.length ≤ 3 * i + j) ⟨rs, ds, P3, _, rfl, L4, hpa, by omega⟩ (fun j σ G hj hv => ?_) (fun σ G hv => ?_)⟩
      · obtain ⟨rs, ds, P, y4, rfl, L, hpa, hlen⟩ := hv
        have hj3 : j < 3 := by omega
        have efG := L.hD.hd
        wtm_at "unf"
        wtm_at "gx"
        refine ⟨p, P, 8, rfl, L.hp, by decide, by decide, fun z P4 H5 z0 z1 b5 e5 => ?_⟩
        obtain ⟨zz, rfl⟩ := Int.eq_ofNat_of_zero_le z0
        obtain ⟨c, hc1, hc2⟩ := brk_at (z := zz) (by omega)
        refine g_ixT (by decide) (atI_of hc1) ?_
        refine g_tup (by show 3 ≤ 100000; decide) fun t1 H6 nt1 s6 et1 => ?_
        have L6 := (L.draw b5 e5 hfp).same s6
        have hrl := L6.hD.len
        refine g_append1 L6.hD.hd (by rw [List.length_map, hrl]; omega) fun H7 b7 e7 => ?_
        exact ⟨rs ++ [t1], ds ++ [(pl, Dw.put c)], P4, _, rfl, L6.snoc (w := Dw.put c) nf hfp (by show (decide (pl ≤ 40) && decide (c ∈ BRK)) = true; rw [decide_eq_true L6.hl, decide_eq_true hc2]; rfl) hpa et1 b7 e7, hpa.snoc rfl, by simp; omega⟩
      · obtain ⟨rs, ds, P, y4, rfl, L, hpa, hlen⟩ := hv
        have hlen2 : ds.length ≤ 3 * i + 2 := by omega
        have efG := L.hD.hd
        wtm_at "unf"
        wtm_at "gx"
        refine ⟨p, P, 3, rfl, L.hp, by decide, by decide, fun kd P4 H5 k0 k1 b5 e5 => ?_⟩
        have L5 := L.draw b5 e5 hfp
        refine ⟨fun σ' G => ∃ (rs : List Addr) (ds : List Deed) (P : Rw), σ' = [some (V.ref p), some (V.ref f), some (V.int (pl : Nat)), some (V.int (0 + (i : Int))), y4, some (V.int kd)] ∧ LwS H G p f P rs ds pl ∧ (kd = 1 ∨ (PutAt ds pl ∧ ds.length ≤ 3 * i + 2)) ∧ ds.length ≤ 3 * i + 3, ?_, ?_⟩
        · refine g_ifC (b := decide (kd = 1 ∧ pl < 40)) (fun Q' q' => ?_) (fun h => ?_) (fun h => ?_)
          · wtm_at "unf"
            wtm_at "gx"
            refine g_test (fun h1 => ?_) (fun h1 => ?_)
            · have hk : kd = 1 := V.int.inj h1
              wtm_at "gx"
              refine ⟨_, rfl, ?_⟩
              rw [show decide (kd = 1 ∧ pl < 40) = decide ((pl : Int) < 40) by rw [decide_eq_decide]; omega] at q'
              exact q'
            · rw [decide_eq_false (fun h => h1 (congrArg V.int h.1))] at q'
              exact q'
          · obtain ⟨hk, hpl⟩ := of_decide_eq_true h
            have ef5 := L5.hD.hd
            wtm_at "unf"
            wtm_at "gx"
            refine g_tup (by show 3 ≤ 100000; decide) fun t1 H6 nt1 s6 et1 => ?_
            have L6 := L5.same s6
            have hrl := L6.hD.len
            refine g_append1 L6.hD.hd (by rw [List.length_map, hrl]; omega) fun H7 b7 e7 => ?_
            exact ⟨rs ++ [t1], ds ++ [(pl, Dw.str)], P4, L6.snoc (w := Dw.str) nf hfp (by show decide (pl < 40) = true; exact decide_eq_true hpl) hpa et1 b7 e7, .inl hk, by simp; omega⟩
          · wtm_at "unf"
            exact ⟨rs, ds, P4, L5, .inr ⟨hpa, hlen2⟩, by omega⟩
        · rintro σ' G ⟨rs, ds, P, rfl, L, hk1, hlen3⟩
          wtm_at "unf"
          refine ⟨fun σ' G => ∃ (rs : List Addr) (ds : List Deed) (P : Rw), σ' = [some (V.ref p), some (V.ref f), some (V.int (pl : Nat)), some (V.int (0 + (i : Int))), y4, some (V.int kd)] ∧ LwS H G p f P rs ds pl ∧ ds.length ≤ 3 * i + 3, ?_, ?_⟩
          · refine g_ifC (b := decide (kd = 2 ∧ pl < 40)) (fun Q' q' => ?_) (fun h => ?_) (fun h => ?_)
            · wtm_at "unf"
              wtm_at "gx"
              refine g_test (fun h1 => ?_) (fun h1 => ?_)
              · have hk : kd = 2 := V.int.inj h1
                wtm_at "gx"
                refine ⟨_, rfl, ?_⟩
                rw [show decide (kd = 2 ∧ pl < 40) = decide ((pl : Int) < 40) by rw [decide_eq_decide]; omega] at q'
                exact q'
              · rw [decide_eq_false (fun h => h1 (congrArg V.int h.1))] at q'
                exact q'
            · obtain ⟨hk, hpl⟩ := of_decide_eq_true h
              obtain ⟨hpa, hlen4⟩ : PutAt ds pl ∧ ds.length ≤ 3 * i + 2 := by rcases hk1 with h | h; omega; exact h
              have ef5 := L.hD.hd
              wtm_at "unf"
              wtm_at "gx"
              refine ⟨p, P, 8, rfl, L.hp, by decide, by decide, fun z P5 H6 z0 z1 b6 e6 => ?_⟩
              obtain ⟨zz, rfl⟩ := Int.eq_ofNat_of_zero_le z0
              obtain ⟨c, hc1, hc2⟩ := brk_at (z := zz) (by omega)
              refine g_ixT (by decide) (atI_of hc1) ?_
              refine g_tup (by show 3 ≤ 100000; decide) fun t1 H7 nt1 s7 et1 => ?_
              have L7 := (L.draw b6 e6 hfp).same s7
              have hrl := L7.hD.len
              refine g_append1 L7.hD.hd (by rw [List.length_map, hrl]; omega) fun H8 b8 e8 => ?_
              exact ⟨rs ++ [t1], ds ++ [(pl, Dw.trn c)], P5, L7.snoc (w := Dw.trn c) nf hfp (by show (decide (pl < 40) && decide (c ∈ BRK)) = true; rw [decide_eq_true hpl, decide_eq_true hc2]; rfl) hpa et1 b8 e8, by simp; omega⟩
            · wtm_at "unf"
              exact ⟨rs, ds, P, L, hlen3⟩
          · rintro σ' G ⟨rs, ds, P, rfl, L, hlen3⟩
            wtm_at "unf"
            wtm_at "gx"
            refine ⟨p, P, 4, rfl, L.hp, by decide, by decide, fun a P5 H6 a0 a1 b6 e6 => ?_⟩
            wtm_at "gx"
            refine ⟨p, P5, 40, rfl, e6, by decide, by decide, fun a2 P6 H7 c0 c1 b7 e7 => ?_⟩
            refine g_lst (by show 2 ≤ 100000; decide) fun la H8 nla s8 ela => ?_
            wtm_at "gx"
            have hla : la ≠ p := Ne.symm (ne_new nla e7)
            refine ⟨p, P6, 2, rfl, s8 _ _ e7, by decide, by decide, fun a3 P7 H9 d0 d1 b9 e9 => ?_⟩
            obtain ⟨x, hx1, hx2⟩ : ∃ x : Int, atI [V.int a, V.int a2] a3 = some (V.int x) ∧ 0 ≤ x := by
              rcases (show a3 = 0 ∨ a3 = 1 by omega) with rfl | rfl
              · exact ⟨a, rfl, a0⟩
              · exact ⟨a2, rfl, c0⟩
            refine g_ixL (sq_of (b9 _ _ hla ela)) hx1 ?_
            wtm_at "gx"
            have L9 := (((L.draw b6 e6 hfp).draw b7 e7 hfp).same s8).draw b9 e9 hfp
            obtain ⟨pl2, hpl2⟩ : ∃ pl2 : Nat, min (40 : Int) ((pl : Int) + 1 + x) = (pl2 : Nat) := ⟨(min (40 : Int) ((pl : Int) + 1 + x)).toNat, by omega⟩
            rw [hpl2]
            have hpl40 := L.hl
            obtain ⟨L10, hpa2⟩ := L9.move (pl2 := pl2) (by omega) (by omega)
            exact ⟨rs, ds, P7, pl2, _, _, _, rfl, L10, hpa2, by omega⟩
    · obtain ⟨rs, ds, P, pl, y3, y4, y5, rfl, L, hpa, hlen⟩ := hv
      wtm_at "unf"
      wtm_at "gx"
      exact q P f rs ds G nf L.hb L.hp L.hD L.hg (by omega)
/-! _law_word -/
def sp_law_word : Sp := fun vs H Q _ => ∃ (a : Addr) (d : Deed), vs = [.ref a] ∧ H a = some (.tup (ddV d)) ∧ d.1 < 100 ∧ ∀ H', Same H H' → Q (Tx (wordL d)) H'
theorem ok_law_word (T : Facts w K mg) : C8.Cal P w K mg base 1 "_law_word" sp_law_word [] := by
  refine calD T.f_law_word sc_law_word (fun vs H Q E h => ?_) (fun f cdv A outer s H vs Q E hr h => ?_)
  · obtain ⟨a, d, rfl, ha, hp, q⟩ := h; rfl
  · obtain ⟨a, d, rfl, ha, hp, q⟩ := h
    refine ⟨_, (pss_cons (ps_asg (pv 0) (pg_tup rfl (pgs_cons (pg_name (i := 1) sc_law_word.nd rfl (Or.inl rfl)) (pgs_cons (pg_name (i := 2) sc_law_word.nd rfl (Or.inl rfl)) (pgs_cons (pg_name (i := 3) sc_law_word.nd rfl (Or.inl rfl)) pgs_nil)))))
       (pss_one (ps_ret (pe_op op_addT (pe_op op_addT (pe_callTy call_str_int rfl T.b_str (by decide +kernel) (pa_cons (pv 1) pa_nil)) (pe_dget (hu_of hr) (pe_disp (pps_cons (pe_strS (l := [112, 117, 116]) (by decide +kernel)) (pe_strS (l := [43]) (by decide +kernel)) (pps_cons (pe_strS (l := [115, 116, 114, 105, 107, 101]) (by decide +kernel)) (pe_strS (l := [45]) (by decide +kernel)) (pps_cons (pe_strS (l := [116, 117, 114, 110]) (by decide +kernel)) (pe_strS (l := [61]) (by decide +kernel)) pps_nil))) rfl rfl (fun h => nomatch h) (by decide)) (pv 2) (fun _ _ => rfl))) (pv 3))))), ?_⟩
    rw [st_law_word]
    wtm_at "unf"
    wtm_at "gx"
    refine ⟨a, _, rfl, st_of ha, rfl, _, _, rfl, _, _, rfl, _, _, rfl, rfl, ?_⟩
    wtm_at "gx"
    refine ⟨_, rfl, log_sm hp, ?_⟩
    refine disp_m fun dp H1 ndp s1 edp => ?_
    simp only [tPairs]
    wtm_at "unf"
    wtm_at "gx"
    refine ⟨edp, [(.inr (S [112, 117, 116]), Tx [43]), (.inr (S [115, 116, 114, 105, 107, 101]), Tx [45]), (.inr (S [116, 117, 114, 110]), Tx [61])], rfl, by show 3 ≤ 15; decide, ?_⟩
    have b2 : But dp H1 (upd H1 dp (.dK (mergeK [] [(.inr (S [112, 117, 116]), Tx [43]), (.inr (S [115, 116, 114, 105, 107, 101]), Tx [45]), (.inr (S [116, 117, 114, 110]), Tx [61])]))) := But.set
    have e2 : (upd H1 dp (.dK (mergeK [] [(.inr (S [112, 117, 116]), Tx [43]), (.inr (S [115, 116, 114, 105, 107, 101]), Tx [45]), (.inr (S [116, 117, 114, 110]), Tx [61])]))) dp = some (.dK (mergeK [] [(.inr (S [112, 117, 116]), Tx [43]), (.inr (S [115, 116, 114, 105, 107, 101]), Tx [45]), (.inr (S [116, 117, 114, 110]), Tx [61])])) := upd_same
    generalize upd H1 dp (.dK (mergeK [] [(.inr (S [112, 117, 116]), Tx [43]), (.inr (S [115, 116, 114, 105, 107, 101]), Tx [45]), (.inr (S [116, 117, 114, 110]), Tx [61])])) = H2 at b2 e2 ⊢
    have hv : valV (mergeK [] [(.inr (S [112, 117, 116]), Tx [43]), (.inr (S [115, 116, 114, 105, 107, 101]), Tx [45]), (.inr (S [116, 117, 114, 110]), Tx [61])] : List (Key × V)) (.inr (S d.2.w)) = some (Tx [d.2.mk]) := by
      obtain ⟨p, w⟩ := d
      cases w <;> rfl
    have hg := DGet.k (k := .inr (S d.2.w)) e2
    rw [hv] at hg
    wtm_at "gx"
    refine ⟨dp, _, rfl, hg, ?_⟩
    rw [fgs_eq, fgs_figs _ hp]
    have hl := wordL_len hp
    unfold wordL at hl
    rw [List.length_append, List.length_append] at hl
    refine g_addT (by rw [List.length_singleton] at *; omega) ?_
    wtm_at "gx"
    exact q _ (Same.b0 b2 s1 ndp)
/-! _law_shown -/
def sp_law_shown : Sp := fun vs H Q _ => ∃ (a : Addr) (rs : List Addr) (ds : List Deed), vs = [.ref a] ∧ Dds H a rs ds ∧ (∀ d ∈ ds, d.1 < 100) ∧ ds.length ≤ 1000 ∧ ∀ H', Same H H' → Q (Tx (showL ds)) H'
theorem ok_law_shown (T : Facts w K mg) : C8.Cal P w K mg base 2 "_law_shown" sp_law_shown [] := by
  refine calD T.f_law_shown sc_law_shown (fun vs H Q E h => ?_) (fun f cdv A outer s H vs Q E hr h => ?_)
  · obtain ⟨a, rs, ds, rfl, hD, hp, hl, q⟩ := h; rfl
  · obtain ⟨a, rs, ds, rfl, hD, hp, hl, q⟩ := h
    refine ⟨_, (pss_cons (ps_if (pt_cmpR (op_eqE hr.units) (pv 0) (pe_lst pa_nil) (nomark _))
       (pss_one (ps_ret (pe_strS (l := [110, 111, 110, 101]) (by decide +kernel))))
       pss_nil)
       (pss_one (ps_ret (pe_m1 PySem.F.slot_str_join PySem.F.type_str_join mt_joinT (pe_strS (l := [44, 32]) (by decide +kernel)) (pe_lc (own := [("deed", 1)]) (by rfl) sc_law_shown.nd (pi_list (pv 0)) (blkOk_by (own := [("deed", 1)]) (N := N_law_shown) (sc := defScope s_law_shown) (by decide +kernel)) (fun _ _ _ _ _ => (pg_name (i := 1) sc_law_shown.nd rfl (Or.inl rfl))) (fun _ _ _ _ _ => pts_nil) (fun _ _ _ _ _ => (pe_own (ok_law_word T) hr (by omega) rfl (pa_cons (pv 1) pa_nil)))))))), ?_⟩
    rw [st_law_shown]
    wtm_at "unf"
    wtm_at "gx"
    refine g_lst (by show 0 ≤ 100000; decide) fun l0 H1 nl0 s1 el0 => ?_
    have hD1 := hD.same s1
    refine g_eqE (sq_of hD1.hd) el0 ?_
    have hrl := hD.len
    refine ⟨_, rfl, ?_⟩
    by_cases h0 : ds = []
    · subst h0
      have : rs = [] := List.eq_nil_of_length_eq_zero hrl
      rw [if_pos (by rw [this]; rfl)]
      exact q _ s1
    · have h1 : ¬ rs.map V.ref = [] := fun e => h0 (List.eq_nil_of_length_eq_zero (by rw [← hrl, ← List.length_map V.ref, e]; rfl))
      rw [if_neg (by rw [decide_eq_false h1]; exact Bool.false_ne_true)]
      wtm_at "gx"
      refine ⟨_, rfl, ⟨_, sq_of hD1.hd⟩, lc_lst (rs.map V.ref) fun m H2 nm s2 em => ⟨fun pre G => G m = some (.lst (((ds.take pre.length).map wordL).map Tx)) ∧ Same H1 G, ⟨em, s2⟩, fun pre post G e hv => sq_of (hv.2 _ _ hD1.hd), fun pre x post G e hv => ?_, fun G hv => ?_⟩⟩
      · obtain ⟨e1, sG⟩ := hv
        have hx := mid_at e
        obtain ⟨k, hk⟩ : ∃ k, pre.length = k := ⟨_, rfl⟩
        rw [hk] at hx e1
        have hkl : k < ds.length := by have := (List.getElem?_eq_some_iff.mp hx).1; rw [List.length_map] at this; omega
        obtain ⟨r, d, k1, k2, k3, k4⟩ := (hD1.same sG).row hkl
        rw [k3] at hx
        have hx' := (Option.some.inj hx).symm
        subst hx'
        wtm_at "unf"
        refine ⟨rfl, ?_⟩
        wtm_at "gx"
        refine ⟨r, d, rfl, k4, hp d (List.mem_of_getElem? k2), fun G2 g2 => ?_⟩
        refine lc_put (g2 _ _ e1) (by simp; omega) fun G3 b3 e3 => ⟨?_, Same.b0 b3 (sG.trans g2) nm⟩
        rw [List.length_append, hk, show k + [V.ref r].length = k + 1 from rfl, (cut_at k2).1, List.map_append, List.map_append]
        exact e3
      · obtain ⟨e1, sG⟩ := hv
        rw [List.length_map, hrl, List.take_length] at e1
        have hs := words_sum hp
        refine g_joinT (sq_of e1) (by rw [List.length_map]; show _ + ds.length * 2 ≤ 100000; omega) ?_
        have := q G (s1.trans sG)
        unfold showL at this
        rw [if_neg h0] at this
        exact this
/-! _law_right -/
def sp_law_right : Sp := fun vs H Q _ => ∃ (a : Addr) (rs : List Addr) (ds : List Deed), vs = [.ref a] ∧ Dds H a rs ds ∧ gdDs ds = true ∧ ds.length ≤ 80 ∧ ∀ H', Same H H' → Q (.bl true) H'
theorem ok_law_right (T : Facts w K mg) : C8.Cal P w K mg base 4 "_law_right" sp_law_right [] := by
  refine calD T.f_law_right sc_law_right (fun vs H Q E h => ?_) (fun f cdv A outer s H vs Q E hr h => ?_)
  · obtain ⟨a, rs, ds, rfl, hD, hg, hl, q⟩ := h; rfl
  · obtain ⟨a, rs, ds, rfl, hD, hg, hl, q⟩ := h
    refine ⟨_, (pss_cons (ps_set (i := 1) sc_law_right.nd rfl (Or.inl rfl) (pe_callTy call_list_of rfl T.b_list (by decide +kernel) (pa_cons (pv 0) pa_nil)))
       (pss_cons (ps_set (i := 2) sc_law_right.nd rfl (Or.inl rfl) (pe_own (ok_show_deeds T) hr (by omega) rfl (pa_cons (pv 1) pa_nil)))
       (pss_cons (ps_ifC (PW.pt (pw_or (pt_not (pt_val (pe_callB call_isi rfl T.b_isinstance (by decide +kernel) (pa_cons (pv 2) (pa_cons (pe_bltn (v := .ty "str") rfl T.b_str (by decide +kernel) rfl) pa_nil))))) (pw_or (pt_cmpR op_ne (pv 2) (pe_own (ok_law_shown T) hr (by omega) rfl (pa_cons (pv 0) pa_nil)) (nomark _)) (pw_or1 (pt_cmpR (op_neD hr.units) (pv 1) (pv 0) (nomark _))))))
       (pss_one (ps_ret pe_bl))
       pss_nil)
       (pss_cons (ps_set (i := 3) sc_law_right.nd rfl (Or.inl rfl) (pe_own (ok_read_deeds T) hr (by omega) rfl (pa_cons (pv 2) pa_nil)))
       (pss_cons (ps_ifC (PW.pt (pw_or (pt_not (pt_val (pe_callB call_isi rfl T.b_isinstance (by decide +kernel) (pa_cons (pv 3) (pa_cons (pe_bltn (v := .ty "list") rfl T.b_list (by decide +kernel) rfl) pa_nil))))) (pw_or (pt_cmpR (op_neD hr.units) (pv 3) (pv 0) (nomark _)) (pw_or1 (pt_cmpR (op_neE hr.units) (pe_lc (own := [("one", 4)]) (by rfl) sc_law_right.nd (pi_list (pv 3)) (blkOk_by (own := [("one", 4)]) (N := N_law_right) (sc := defScope s_law_right) (by decide +kernel)) (fun _ _ _ _ _ => (pg_name (i := 4) sc_law_right.nd rfl (Or.inl rfl))) (fun _ _ _ _ _ => (pts_one (pt_not (pt_val (pe_callB (r := rIsi K) call_isi rfl T.b_isinstance (by decide +kernel) (pa_cons (pv 4) (pa_cons (pe_bltn (v := .ty "tuple") rfl T.b_tuple (by decide +kernel) rfl) pa_nil))))))) (fun _ _ _ _ _ => (pv 4))) (pe_lst pa_nil) (nomark _))))))
       (pss_one (ps_ret pe_bl))
       pss_nil)
       (pss_cons (ps_if (pt_cmpR (op_neE hr.units) (pe_lc (own := [("one", 4)]) (by rfl) sc_law_right.nd (pi_list (pv 3)) (blkOk_by (own := [("one", 4)]) (N := N_law_right) (sc := defScope s_law_right) (by decide +kernel)) (fun _ _ _ _ _ => (pg_name (i := 4) sc_law_right.nd rfl (Or.inl rfl))) (fun _ _ _ _ _ => (pts_one (pt_val (pe_callB (r := rIsi K) call_isi rfl T.b_isinstance (by decide +kernel) (pa_cons (pe_ix (r := rIxT K) ix_tup (pv 4) pe_int (fun _ _ => rfl)) (pa_cons (pe_bltn (v := .ty "bool") rfl T.b_bool (by decide +kernel) rfl) pa_nil)))))) (fun _ _ _ _ _ => (pv 4))) (pe_lst pa_nil) (nomark _))
       (pss_one (ps_ret pe_bl))
       pss_nil)
       (pss_cons (ps_expr (pe_bm PySem.F.plainAttrs_list PySem.F.slot_list_append PySem.F.type_list_append mt_append (pv 3) (pa_cons (pe_tup (pa_cons pe_int (pa_cons (pe_strS (l := [112, 117, 116]) (by decide +kernel)) (pa_cons (pe_strS (l := [40]) (by decide +kernel)) pa_nil)))) pa_nil)))
       (pss_one (ps_ret (pe_cmpR (op_eqD hr.units) (pe_own (ok_read_deeds T) hr (by omega) rfl (pa_cons (pv 2) pa_nil)) (pv 0) (nomark _))))))))))), ?_⟩
    rw [st_law_right]
    have hp : ∀ d ∈ ds, d.1 < 100 := fun d h => by unfold gdDs at hg; rw [Bool.and_eq_true] at hg; have := gd_le (List.all_eq_true.mp hg.1 d h); omega
    have hsg : SeqAt.shaped (ddsD ds) = true := dds_shaped (gd_sgD hg)
    wtm_at "unf"
    wtm_at "gx"
    refine ⟨a, _, rfl, .inl (sq_of hD.hd), fun cp ncp => ?_⟩
    have s1 : Same H (upd H cp (.lst (rs.map V.ref))) := Same.new ncp
    have e1 : (upd H cp (.lst (rs.map V.ref))) cp = some (.lst (rs.map V.ref)) := upd_same
    generalize upd H cp (.lst (rs.map V.ref)) = H1 at s1 e1 ⊢
    have hC : Dds H1 cp rs ds := ⟨e1, hD.len, fun k r d q1 q2 => s1 _ _ (hD.it k r d q1 q2)⟩
    wtm_at "gx"
    refine ⟨cp, rs, ds, rfl, hC, hp, by omega, fun H2 s2 => ?_⟩
    have hD2 := (hD.same s1).same s2
    have hC2 := hC.same s2
    wtm_at "unfS"
    refine g_ifH (b := false) (G := fun G3 => Same H2 G3) (fun Q' q' => ?_) (fun G3 g h => by cases h) (fun H3 s3 _ => ?_)
    · wtm_at "unf"
      wtm_at "gx"
      refine ⟨a, rs, ds, rfl, hD2, hp, by omega, fun G3 g3 => ?_⟩
      wtm_at "gx"
      refine g_neDp (hC2.same g3).dp (hD2.same g3).dp hsg ?_
      exact ⟨false, rfl, q' _ g3⟩
    have hD3 := hD2.same s3
    wtm_at "unf"
    wtm_at "gx"
    refine ⟨ds, rfl, hg, hl, fun b rs2 H4 nb s4 hB => ?_⟩
    have hD4 := hD3.same s4
    wtm_at "unfS"
    refine g_ifH (b := false) (G := fun G3 => Same H4 G3) (fun Q' q' => ?_) (fun G3 g h => by cases h) (fun H5 s5 _ => ?_)
    · have ebb := hB.hd
      wtm_at "unf"
      wtm_at "gx"
      refine g_neDp hB.dp hD4.dp hsg ?_
      refine ⟨false, rfl, ?_⟩
      rw [if_neg Bool.false_ne_true]
      wtm_at "gx"
      refine ⟨_, rfl, ⟨_, sq_of ebb⟩, lc_lst (rs2.map V.ref) fun m G1 nm g1 em => ⟨fun pre G => G m = some (.lst []) ∧ Same H4 G, ⟨em, g1⟩, fun pre post G e hv => sq_of (hv.2 _ _ ebb), fun pre x post G e hv => ?_, fun G hv => ?_⟩⟩
      · obtain ⟨e1, sG⟩ := hv
        have hx := mid_at e
        have hkl : pre.length < ds.length := by have := (List.getElem?_eq_some_iff.mp hx).1; rw [List.length_map, hB.len] at this; exact this
        obtain ⟨r, d, k1, k2, k3, k4⟩ := (hB.same sG).row hkl
        rw [k3] at hx
        have hx' := (Option.some.inj hx).symm
        subst hx'
        wtm_at "unf"
        refine ⟨rfl, ?_⟩
        wtm_at "gx"
        exact ⟨e1, sG⟩
      · obtain ⟨e1, sG⟩ := hv
        refine g_lst (by show 0 ≤ 100000; decide) fun l0 G1 nl0 g1 el0 => ?_
        refine g_neE (sq_of (g1 _ _ e1)) el0 ?_
        exact ⟨false, rfl, q' _ (sG.trans g1)⟩
    have hB5 := hB.same s5
    wtm_at "unfS"
    refine g_ifSH (b := false) (G := fun G3 => Same H5 G3) (fun Q' q' => ?_) (fun G3 g h => by cases h) (fun H6 s6 _ => ?_)
    · have ebb := hB5.hd
      wtm_at "unf"
      wtm_at "gx"
      refine ⟨_, rfl, ⟨_, sq_of ebb⟩, lc_lst (rs2.map V.ref) fun m G1 nm g1 em => ⟨fun pre G => G m = some (.lst []) ∧ Same H5 G, ⟨em, g1⟩, fun pre post G e hv => sq_of (hv.2 _ _ ebb), fun pre x post G e hv => ?_, fun G hv => ?_⟩⟩
      · obtain ⟨e1, sG⟩ := hv
        have hx := mid_at e
        have hkl : pre.length < ds.length := by have := (List.getElem?_eq_some_iff.mp hx).1; rw [List.length_map, hB.len] at this; exact this
        obtain ⟨r, d, k1, k2, k3, k4⟩ := (hB5.same sG).row hkl
        rw [k3] at hx
        have hx' := (Option.some.inj hx).symm
        subst hx'
        wtm_at "unf"
        refine ⟨rfl, ?_⟩
        wtm_at "gx"
        exact ⟨e1, sG⟩
      · obtain ⟨e1, sG⟩ := hv
        refine g_lst (by show 0 ≤ 100000; decide) fun l0 G1 nl0 g1 el0 => ?_
        refine g_neE (sq_of (g1 _ _ e1)) el0 ?_
        exact ⟨false, rfl, q' _ (sG.trans g1)⟩
    have hB6 := hB5.same s6
    have ebb := hB6.hd
    wtm_at "unf"
    wtm_at "gx"
    refine g_tup (by show 3 ≤ 100000; decide) fun t1 H7 nt1 s7 et1 => ?_
    have hB7 := hB6.same s7
    refine g_append1 hB7.hd (by rw [List.length_map, hB.len]; omega) fun H8 b8 e8 => ?_
    wtm_at "gx"
    have s38 : Same H3 H8 := Same.b0 b8 (s4.trans (s5.trans (s6.trans s7))) nb
    refine ⟨ds, rfl, hg, hl, fun b2 rs3 H9 nb2 s9 hB9 => ?_⟩
    wtm_at "gx"
    refine g_eqDp hB9.dp ((hD3.same s38).same s9).dp hsg ?_
    exact q _ (s1.trans (s2.trans (s3.trans (s38.trans s9))))
def fE (k : Nat) : Deed := (k, Dw.trn (BRK.getD (k % 8) 0))
def fM (k : Nat) : Deed := (17, Dw.put (BRK.getD (k % 3) 0))
def fS (k : Nat) : Deed := (k, Dw.str)
/-! law -/
def spLaw (K : PySem.W.Frag) : Sp := fun vs H Q _ => ∃ (a : Addr) (ns : List Int), vs = [.ref a] ∧ SqL K H a (ns.map V.int) ∧ ns.length ≤ 63 ∧ ∀ H', Q (.bl true) H'
theorem ok_law {f : Addr} {fd : FuncData} (T : Facts w K mg) (F : FunD K "law" "law" (defArgs s_law) (defBody s_law) (defScope s_law) [] [] f fd) : FnOk P w K mg base C8.CX0 5 f fd ["script"] (spLaw K) := by
  refine fnD F sc_law (fun vs H Q E h => ?_) (fun cdv A outer s H vs Q E hr h => ?_)
  · obtain ⟨a, ns, rfl, hS, hlen, q⟩ := h; rfl
  · obtain ⟨a, ns, rfl, hS, hlen, q⟩ := h
    refine ⟨_, (pss_cons (ps_for PassesOwn.never rfl (pi_list (pe_op op_cat (pe_lst (pa_cons pe_int pa_nil)) (pe_slice sl_list (pv 0) po_none (po_some pe_int)))) (pg_name (i := 1) sc_law.nd rfl (Or.inl rfl))
       (pss_one (ps_if (pt_not (pt_val (pe_own (ok_law_right T) hr (by omega) rfl (pa_cons (pe_own (ok_law_deeds T) hr (by omega) rfl (pa_cons (pe_own (ok_law_stream T) hr (by omega) rfl (pa_cons (pv 1) pa_nil)) pa_nil)) pa_nil))))
       (pss_one (ps_ret pe_bl))
       pss_nil)))
       (pss_cons (ps_set (i := 2) sc_law.nd rfl (Or.inl rfl) (pe_op op_cat (pe_lc (own := [("k", 4)]) (by rfl) sc_law.nd (pi_range1 rfl T.b_range (pa_cons pe_int pa_nil)) (blkOk_by (own := [("k", 4)]) (N := N_law) (sc := defScope s_law) (by decide +kernel)) (fun _ _ _ _ _ => (pg_name (i := 4) sc_law.nd rfl (Or.inl rfl))) (fun _ _ _ _ _ => pts_nil) (fun _ _ _ _ _ => (pe_tup (pa_cons (pv 4) (pa_cons (pe_strS (l := [116, 117, 114, 110]) (by decide +kernel)) (pa_cons (pe_ix ix_txt (pe_strS (l := BRK) (by decide +kernel)) (pe_op op_mod (pv 4) pe_int) (fun _ _ => rfl)) pa_nil)))))) (pe_lst (pa_cons (pe_tup (pa_cons pe_int (pa_cons (pe_strS (l := [112, 117, 116]) (by decide +kernel)) (pa_cons (pe_strS (l := [125]) (by decide +kernel)) pa_nil)))) (pa_cons (pe_tup (pa_cons pe_int (pa_cons (pe_strS (l := [112, 117, 116]) (by decide +kernel)) (pa_cons (pe_strS (l := [40]) (by decide +kernel)) pa_nil)))) pa_nil)))))
       (pss_cons (ps_set (i := 3) sc_law.nd rfl (Or.inl rfl) (pe_op op_cat (pe_lc (own := [("k", 4)]) (by rfl) sc_law.nd (pi_range1 rfl T.b_range (pa_cons pe_int pa_nil)) (blkOk_by (own := [("k", 4)]) (N := N_law) (sc := defScope s_law) (by decide +kernel)) (fun _ _ _ _ _ => (pg_name (i := 4) sc_law.nd rfl (Or.inl rfl))) (fun _ _ _ _ _ => pts_nil) (fun _ _ _ _ _ => (pe_tup (pa_cons pe_int (pa_cons (pe_strS (l := [112, 117, 116]) (by decide +kernel)) (pa_cons (pe_ix ix_txt (pe_strS (l := BRK) (by decide +kernel)) (pe_op op_mod (pv 4) pe_int) (fun _ _ => rfl)) pa_nil)))))) (pe_lst (pa_cons (pe_tup (pa_cons pe_int (pa_cons (pe_strS (l := [116, 117, 114, 110]) (by decide +kernel)) (pa_cons (pe_strS (l := [60]) (by decide +kernel)) pa_nil)))) pa_nil))))
       (pss_cons (ps_ifC (PW.pt (pw_or (pt_not (pt_val (pe_own (ok_law_right T) hr (by omega) rfl (pa_cons (pv 3) pa_nil)))) (pw_or1 (pt_not (pt_val (pe_own (ok_law_right T) hr (by omega) rfl (pa_cons (pe_op op_rep (pe_lst (pa_cons (pe_tup (pa_cons pe_int (pa_cons (pe_strS (l := [112, 117, 116]) (by decide +kernel)) (pa_cons (pe_strS (l := [93]) (by decide +kernel)) pa_nil)))) pa_nil)) pe_int) pa_nil)))))))
       (pss_one (ps_ret pe_bl))
       pss_nil)
       (pss_one (ps_ret (pe_and (pe_own (ok_law_right T) hr (by omega) rfl (pa_cons (pe_lst pa_nil) pa_nil)) (pe_and (pe_own (ok_law_right T) hr (by omega) rfl (pa_cons (pv 2) pa_nil)) (pe_one (pe_own (ok_law_right T) hr (by omega) rfl (pa_cons (pe_lc (own := [("k", 4)]) (by rfl) sc_law.nd (pi_range1 rfl T.b_range (pa_cons pe_int pa_nil)) (blkOk_by (own := [("k", 4)]) (N := N_law) (sc := defScope s_law) (by decide +kernel)) (fun _ _ _ _ _ => (pg_name (i := 4) sc_law.nd rfl (Or.inl rfl))) (fun _ _ _ _ _ => pts_nil) (fun _ _ _ _ _ => (pe_tup (pa_cons (pv 4) (pa_cons (pe_strS (l := [115, 116, 114, 105, 107, 101]) (by decide +kernel)) (pa_cons (pe_strS (l := []) (by decide +kernel)) pa_nil)))))) pa_nil))))))))))), ?_⟩
    rw [st_law]
    have hrng : ∀ (i : Nat), List.range (i + 1) = List.range i ++ [i] := fun i => List.range_succ
    wtm_at "unf"
    wtm_at "gx"
    refine g_lst (by show 1 ≤ 100000; decide) fun c1 H1 n1 s1 e1 => ?_
    wtm_at "gx"
    refine g_slL (Same.seq s1 hS) fun c2 H2 n2 s2 e2 => ?_
    obtain ⟨ms, ems, hms⟩ := cut_ints ns none (some 40)
    rw [ems] at e2
    refine g_cat (s2 _ _ e1) e2 (by simp; omega) fun c3 H3 n3 s3 e3 => ?_
    obtain ⟨zs, ezs⟩ : ∃ zs : List Int, [V.int 0] ++ ms.map V.int = zs.map V.int := ⟨0 :: ms, rfl⟩
    rw [ezs] at e3
    refine ⟨_, rfl, ⟨_, sq_of e3⟩, for_lst (zs.map V.int) (fun pre σ H' => ∃ y1 y2 y3 y4, σ = [some (V.ref a), y1, y2, y3, y4] ∧ Same H3 H') ⟨_, _, _, _, rfl, Same.refl _⟩ (fun pre post σ H' e hv => ?_) (fun pre x post σ H' e hv => ?_) (fun σ H' hv => ?_)⟩
    · obtain ⟨y1, y2, y3, y4, rfl, sH⟩ := hv
      exact sq_of (sH _ _ e3)
    · obtain ⟨y1, y2, y3, y4, rfl, sH⟩ := hv
      obtain ⟨z, rfl⟩ : ∃ z, x = V.int z := by
        have hm : x ∈ zs.map V.int := by rw [e]; simp
        obtain ⟨z, _, hz⟩ := List.mem_map.mp hm
        exact ⟨z, hz.symm⟩
      wtm_at "unf"
      wtm_at "gx"
      refine ⟨z, rfl, fun p P1 G1 np g1 f1 => ?_⟩
      refine ⟨p, P1, rfl, f1, fun P2 b rs ds G2 nb b2 f2 hD hg hl => ?_⟩
      refine ⟨b, rs, ds, rfl, hD, hg, by omega, fun G3 g3 => ?_⟩
      wtm_at "gx"
      exact ⟨_, _, _, _, rfl, sH.trans ((Same.b0 b2 g1 np).trans g3)⟩
    · obtain ⟨y1, y2, y3, y4, rfl, sH⟩ := hv
      wtm_at "unf"
      wtm_at "gx"
      refine ⟨_, rfl, by decide, by decide, lc_rng fun d1 G1 nd1 g1 ed1 => ⟨fun i G => (∃ rs, Dds G d1 rs ((List.range i).map fE)) ∧ Same H' G, ⟨⟨[], ed1, rfl, fun k r d h => by simp at h⟩, g1⟩, fun i G hi hv => ?_, fun G hv => ?_⟩⟩
      · obtain ⟨⟨rs, hD⟩, sG⟩ := hv
        have hi' : i < 40 := hi
        wtm_at "unf"
        refine ⟨rfl, ?_⟩
        wtm_at "gx"
        refine g_ixTn (i % 8) (by decide) (by omega) (brk_getD (Nat.mod_lt _ (by decide))) ?_
        refine g_tup (by show 3 ≤ 100000; decide) fun t1 G2 nt1 g2 et1 => ?_
        have hD2 := hD.same g2
        rw [show (0 : Int) + (i : Int) = (i : Int) by omega] at et1
        refine lc_put hD2.hd (by rw [List.length_map, hD.len, List.length_map, List.length_range]; omega) fun G3 b3 e3 => ⟨⟨rs ++ [t1], ?_⟩, Same.b0 b3 (sG.trans g2) nd1⟩
        rw [hrng, List.map_append]
        exact hD2.snoc (d := fE i) et1 b3 e3
      obtain ⟨⟨rs1, hD1⟩, sG1⟩ := hv
      have hD1 : Dds G d1 rs1 ((List.range 40).map fE) := hD1
      refine g_tup (by show 3 ≤ 100000; decide) fun t1 G2 nt1 g2 et1 => ?_
      refine g_tup (by show 3 ≤ 100000; decide) fun t2 G3 nt2 g3 et2 => ?_
      refine g_lst (by show 2 ≤ 100000; decide) fun l1 G4 nl1 g4 el1 => ?_
      have g24 : Same G G4 := g2.trans (g3.trans g4)
      have hT : Dds G4 l1 [t1, t2] [((40, Dw.put 125) : Deed), (40, Dw.put 40)] := ⟨el1, rfl, fun k r d h1 h2 => by
        match k, h1, h2 with
        | 0, h1, h2 => rw [← Option.some.inj h1, ← Option.some.inj h2]; exact g4 _ _ (g3 _ _ et1)
        | 1, h1, h2 => rw [← Option.some.inj h1, ← Option.some.inj h2]; exact g4 _ _ et2
        | k + 2, h1, h2 => cases h1⟩
      have hrl1 := hD1.len
      refine g_cat (g24 _ _ hD1.hd) el1 (by rw [List.length_map, hrl1, List.length_map, List.length_range]; show 40 + 2 ≤ 100000; decide) fun ev G5 nev g5 eev => ?_
      have hEv : Dds G5 ev (rs1 ++ [t1, t2]) ((List.range 40).map fE ++ [((40, Dw.put 125) : Deed), (40, Dw.put 40)]) := (hD1.same g24).app hT g5 eev
      refine ⟨_, rfl, by decide, by decide, lc_rng fun d2 G6 nd2 g6 ed2 => ⟨fun i G => (∃ rs, Dds G d2 rs ((List.range i).map fM)) ∧ Same G5 G, ⟨⟨[], ed2, rfl, fun k r d h => by simp at h⟩, g6⟩, fun i G hi hv => ?_, fun G hv => ?_⟩⟩
      · obtain ⟨⟨rs, hD⟩, sG⟩ := hv
        have hi' : i < 79 := hi
        wtm_at "unf"
        refine ⟨rfl, ?_⟩
        wtm_at "gx"
        refine g_ixTn (i % 3) (by decide) (by omega) (brk_getD (by omega)) ?_
        refine g_tup (by show 3 ≤ 100000; decide) fun t1 G2 nt1 g2 et1 => ?_
        have hD2 := hD.same g2
        refine lc_put hD2.hd (by rw [List.length_map, hD.len, List.length_map, List.length_range]; omega) fun G3 b3 e3 => ⟨⟨rs ++ [t1], ?_⟩, Same.b0 b3 (sG.trans g2) nd2⟩
        rw [hrng, List.map_append]
        exact hD2.snoc (d := fM i) et1 b3 e3
      rename_i G' _
      clear hD1 hT
      obtain ⟨⟨rs2, hD2⟩, sG2⟩ := hv
      have hD2 : Dds G d2 rs2 ((List.range 79).map fM) := hD2
      refine g_tup (by show 3 ≤ 100000; decide) fun t3 G7 nt3 g7 et3 => ?_
      refine g_lst (by show 1 ≤ 100000; decide) fun l2 G8 nl2 g8 el2 => ?_
      have hT : Dds G8 l2 [t3] [((17, Dw.trn 60) : Deed)] := Dds.one (d := ((17, Dw.trn 60) : Deed)) et3 g8 el2
      have hrl2 := hD2.len
      have hD28 := (hD2.same g7).same g8
      refine g_cat hD28.hd el2 (by rw [List.length_map, hrl2, List.length_map, List.length_range]; show 79 + 1 ≤ 100000; decide) fun mn G9 nmn g9 emn => ?_
      have hMn : Dds G9 mn (rs2 ++ [t3]) ((List.range 79).map fM ++ [((17, Dw.trn 60) : Deed)]) := hD28.app hT g9 emn
      have hEv9 := (hEv.same sG2).same (g7.trans (g8.trans g9))
      wtm_at "unfS"
      refine g_ifH (b := false) (G := fun G3 => Same G9 G3) (fun Q' q' => ?_) (fun G3 g h => by cases h) (fun H5 s5 _ => ?_)
      · wtm_at "unf"
        wtm_at "gx"
        refine ⟨mn, _, _, rfl, hMn, by decide +kernel, by decide +kernel, fun G10 g10 => ?_⟩
        wtm_at "gx"
        refine g_tup (by show 3 ≤ 100000; decide) fun t4 G11 nt4 g11 et4 => ?_
        refine g_lst (by show 1 ≤ 100000; decide) fun l3 G12 nl3 g12 el3 => ?_
        refine g_rep (n := 80) el3 (by show 1 * 80 ≤ 100000; decide) (by decide) fun l4 G13 nl4 g13 el4 => ?_
        refine ⟨l4, _, _, rfl, Dds.rep (d := ((40, Dw.put 93) : Deed)) (g12 _ _ et4) g13 el4, by decide +kernel, by decide +kernel, fun G14 g14 => ?_⟩
        wtm_at "gx"
        exact q' _ (g10.trans (g11.trans (g12.trans (g13.trans g14))))
      have hEv5 := hEv9.same s5
      wtm_at "unf"
      wtm_at "gx"
      refine g_lst (by show 0 ≤ 100000; decide) fun l5 G10 nl5 g10 el5 => ?_
      refine ⟨l5, [], [], rfl, ⟨el5, rfl, fun k r d h => by simp at h⟩, rfl, by decide, fun G11 g11 => ?_⟩
      wtm_at "gx"
      refine ⟨ev, _, _, rfl, (hEv5.same g10).same g11, by decide +kernel, by decide +kernel, fun G12 g12 => ?_⟩
      wtm_at "gx"
      refine ⟨_, rfl, by decide, by decide, lc_rng fun d3 G13 nd3 g13 ed3 => ⟨fun i G => (∃ rs, Dds G d3 rs ((List.range i).map fS)) ∧ Same G12 G, ⟨⟨[], ed3, rfl, fun k r d h => by simp at h⟩, g13⟩, fun i G hi hv => ?_, fun G hv => ?_⟩⟩
      · obtain ⟨⟨rs, hD⟩, sG⟩ := hv
        have hi' : i < 40 := hi
        wtm_at "unf"
        refine ⟨rfl, ?_⟩
        wtm_at "gx"
        refine g_tup (by show 3 ≤ 100000; decide) fun t1 G2 nt1 g2 et1 => ?_
        have hD2 := hD.same g2
        rw [show (0 : Int) + (i : Int) = (i : Int) by omega] at et1
        refine lc_put hD2.hd (by rw [List.length_map, hD.len, List.length_map, List.length_range]; omega) fun G3 b3 e3 => ⟨⟨rs ++ [t1], ?_⟩, Same.b0 b3 (sG.trans g2) nd3⟩
        rw [hrng, List.map_append]
        exact hD2.snoc (d := fS i) et1 b3 e3
      · obtain ⟨⟨rs3, hD3⟩, sG3⟩ := hv
        exact ⟨d3, rs3, _, rfl, hD3, by decide +kernel, by decide +kernel, fun G14 g14 => q _⟩
end
end K46

set_option maxHeartbeats 0
namespace K46
open PySem PySem.Spec PyProof.Rows L2 SX Ly
/-! ### the head -/
def d_shown_deed : He.DefD := ⟨("shown_deed", none), "shown_deed", "shown_deed", defArgs s_shown_deed, defBody s_shown_deed, defScope s_shown_deed, [], []⟩
def d_show_deeds : He.DefD := ⟨("show_deeds", none), "show_deeds", "show_deeds", defArgs s_show_deeds, defBody s_show_deeds, defScope s_show_deeds, [], []⟩
def d_deed_in : He.DefD := ⟨("deed_in", none), "deed_in", "deed_in", defArgs s_deed_in, defBody s_deed_in, defScope s_deed_in, [], []⟩
def d_read_deeds : He.DefD := ⟨("read_deeds", none), "read_deeds", "read_deeds", defArgs s_read_deeds, defBody s_read_deeds, defScope s_read_deeds, [], []⟩
def d_law_stream : He.DefD := ⟨("_law_stream", none), "_law_stream", "_law_stream", defArgs s_law_stream, defBody s_law_stream, defScope s_law_stream, [], []⟩
def d_law_take : He.DefD := ⟨("_law_take", none), "_law_take", "_law_take", defArgs s_law_take, defBody s_law_take, defScope s_law_take, [], []⟩
def d_law_deeds : He.DefD := ⟨("_law_deeds", none), "_law_deeds", "_law_deeds", defArgs s_law_deeds, defBody s_law_deeds, defScope s_law_deeds, [], []⟩
def d_law_word : He.DefD := ⟨("_law_word", none), "_law_word", "_law_word", defArgs s_law_word, defBody s_law_word, defScope s_law_word, [], []⟩
def d_law_shown : He.DefD := ⟨("_law_shown", none), "_law_shown", "_law_shown", defArgs s_law_shown, defBody s_law_shown, defScope s_law_shown, [], []⟩
def d_law_right : He.DefD := ⟨("_law_right", none), "_law_right", "_law_right", defArgs s_law_right, defBody s_law_right, defScope s_law_right, [], []⟩
def d_law : He.DefD := ⟨("law", none), "law", "law", defArgs s_law, defBody s_law, defScope s_law, [], []⟩
def fn : List He.DefD := [d_shown_deed, d_show_deeds, d_deed_in, d_read_deeds, d_law_stream, d_law_take, d_law_deeds, d_law_word, d_law_shown, d_law_right, d_law]
def exL (K : PySem.W.Frag) : List Bool := (errB K (He.ga K "NoWriting") (He.ga K "MendError")) :: (PySem.W.kitOne K (.ref (He.ga K "NoWriting")) (.type "ValueError") == some true) :: (PySem.W.kitOne K (.ref (He.ga K "NoWriting")) (.ref (He.ga K "NoWriting")) == some true) :: []
def ex (K : PySem.W.Frag) : Bool := (exL K).all id
def fa : List He.Fa := [.glo "shown_deed", .glo "show_deeds", .glo "deed_in", .glo "read_deeds", .glo "_law_stream", .glo "_law_take", .glo "_law_deeds", .glo "_law_word", .glo "_law_shown", .glo "_law_right", .glo "law", .str "OPENING" (S OPN), .str "CLOSING" (S CLO), .str "FIGURES" (S [48, 49, 50, 51, 52, 53, 54, 55, 56, 57]), .int "MOST" 40, .free "len", .free "int", .free "str", .free "range", .free "zip", .free "isinstance", .free "list", .free "tuple", .free "bool", .free "min", .free "ValueError", .glo "MARKS", .glo "MendError", .glo "NoWriting"]
abbrev R : PySem.W.OpenRow := PySem.W.OpenLaw.row PySem.Challenge.rw_nestmend_k46_deeds_written
def dl : List KdD := [⟨fun K => He.ga K "MARKS", kv_MARKS⟩]
abbrev hk : PySem.W.Hook := hookM 4 fa fn ex dl
def ob (s : PySem.W.SharedT) : AlM := obsMG 4 fa fn ex dl (HandSHeadRun.getT s)
theorem ob_eq (s : PySem.W.SharedT) : ob s = hk.obs s.abs := obsMG_eq (HandSHeadRun.getT_eq s)
def loose : List Str := ["MendError", "NoWriting", "OPENING", "CLOSING", "FIGURES", "MOST", "MARKS", "shown_deed", "show_deeds", "deed_in", "read_deeds", "_law_stream", "_law_take", "_law_deeds", "_law_word", "_law_shown", "_law_right"]
def wB (b : Bool) (w : World) : World := { w with params := { w.params with followText := fun row => bif row == "special-get-raises" then b else w.params.followText row } }
theorem wB_eq (w : World) : wB (w.params.followText "special-get-raises") w = w := by
  have e : (fun row => bif row == "special-get-raises" then w.params.followText "special-get-raises" else w.params.followText row) = w.params.followText := by
    funext row
    cases h : (row == "special-get-raises") with
    | true => rw [eq_of_beq h]; rfl
    | false => rfl
  show { w with params := { w.params with followText := fun row => bif row == "special-get-raises" then w.params.followText "special-get-raises" else w.params.followText row } } = w
  rw [e]
theorem run_true (w : World) : HandSHeadRun.RunEq R (PySem.W.view R.prog [20]) hk ob 6000 loose (wB true w) := by
  intro os
  kernel_rfl
theorem run_false (w : World) : HandSHeadRun.RunEq R (PySem.W.view R.prog [20]) hk ob 6000 loose (wB false w) := by
  intro os
  kernel_rfl
theorem run (w : World) : HandSHeadRun.RunEq R (PySem.W.view R.prog [20]) hk ob 6000 loose w := by
  have h : ∀ b, HandSHeadRun.RunEq R (PySem.W.view R.prog [20]) hk ob 6000 loose (wB b w) := fun b => match b with | true => run_true w | false => run_false w
  have h1 := h (w.params.followText "special-get-raises")
  rw [wB_eq w] at h1
  exact h1
theorem facts {K : PySem.W.Frag} {h : Heap} {mg : Str → Option Value} (X : K.In h) (G : h.Ns mainGlobals mg) (c : He.SaysD fa fn K) (cx : ex K = true) {w : World} (cd : SaysM dl w K) : Facts w K mg where
  f_shown_deed := by
    obtain ⟨fd, F⟩ := c.def_ 0 (d := d_shown_deed) rfl
    exact ⟨_, fd, F, He.glo_ok X G (c.fact 0 (f := .glo "shown_deed") rfl), FunD.bindsN F fun _ _ _ _ _ _ us hl => match us, hl with | [_], _ => rfl⟩
  f_show_deeds := by
    obtain ⟨fd, F⟩ := c.def_ 1 (d := d_show_deeds) rfl
    exact ⟨_, fd, F, He.glo_ok X G (c.fact 1 (f := .glo "show_deeds") rfl), FunD.bindsN F fun _ _ _ _ _ _ us hl => match us, hl with | [_], _ => rfl⟩
  f_deed_in := by
    obtain ⟨fd, F⟩ := c.def_ 2 (d := d_deed_in) rfl
    exact ⟨_, fd, F, He.glo_ok X G (c.fact 2 (f := .glo "deed_in") rfl), FunD.bindsN F fun _ _ _ _ _ _ us hl => match us, hl with | [_], _ => rfl⟩
  f_read_deeds := by
    obtain ⟨fd, F⟩ := c.def_ 3 (d := d_read_deeds) rfl
    exact ⟨_, fd, F, He.glo_ok X G (c.fact 3 (f := .glo "read_deeds") rfl), FunD.bindsN F fun _ _ _ _ _ _ us hl => match us, hl with | [_], _ => rfl⟩
  f_law_stream := by
    obtain ⟨fd, F⟩ := c.def_ 4 (d := d_law_stream) rfl
    exact ⟨_, fd, F, He.glo_ok X G (c.fact 4 (f := .glo "_law_stream") rfl), FunD.bindsN F fun _ _ _ _ _ _ us hl => match us, hl with | [_], _ => rfl⟩
  f_law_take := by
    obtain ⟨fd, F⟩ := c.def_ 5 (d := d_law_take) rfl
    exact ⟨_, fd, F, He.glo_ok X G (c.fact 5 (f := .glo "_law_take") rfl), FunD.bindsN F fun _ _ _ _ _ _ us hl => match us, hl with | [_, _], _ => rfl⟩
  f_law_deeds := by
    obtain ⟨fd, F⟩ := c.def_ 6 (d := d_law_deeds) rfl
    exact ⟨_, fd, F, He.glo_ok X G (c.fact 6 (f := .glo "_law_deeds") rfl), FunD.bindsN F fun _ _ _ _ _ _ us hl => match us, hl with | [_], _ => rfl⟩
  f_law_word := by
    obtain ⟨fd, F⟩ := c.def_ 7 (d := d_law_word) rfl
    exact ⟨_, fd, F, He.glo_ok X G (c.fact 7 (f := .glo "_law_word") rfl), FunD.bindsN F fun _ _ _ _ _ _ us hl => match us, hl with | [_], _ => rfl⟩
  f_law_shown := by
    obtain ⟨fd, F⟩ := c.def_ 8 (d := d_law_shown) rfl
    exact ⟨_, fd, F, He.glo_ok X G (c.fact 8 (f := .glo "_law_shown") rfl), FunD.bindsN F fun _ _ _ _ _ _ us hl => match us, hl with | [_], _ => rfl⟩
  f_law_right := by
    obtain ⟨fd, F⟩ := c.def_ 9 (d := d_law_right) rfl
    exact ⟨_, fd, F, He.glo_ok X G (c.fact 9 (f := .glo "_law_right") rfl), FunD.bindsN F fun _ _ _ _ _ _ us hl => match us, hl with | [_], _ => rfl⟩
  c_OPENING := by
    obtain ⟨t, e⟩ := He.str_ok X G (c.fact 11 (f := .str "OPENING" (S OPN)) rfl)
    exact ⟨_, e, ⟨t, rfl⟩⟩
  c_CLOSING := by
    obtain ⟨t, e⟩ := He.str_ok X G (c.fact 12 (f := .str "CLOSING" (S CLO)) rfl)
    exact ⟨_, e, ⟨t, rfl⟩⟩
  c_FIGURES := by
    obtain ⟨t, e⟩ := He.str_ok X G (c.fact 13 (f := .str "FIGURES" (S [48, 49, 50, 51, 52, 53, 54, 55, 56, 57])) rfl)
    exact ⟨_, e, ⟨t, rfl⟩⟩
  c_MOST := by
    obtain ⟨t, e⟩ := He.int_ok X G (c.fact 14 (f := .int "MOST" 40) rfl)
    exact ⟨_, e, ⟨t, rfl⟩⟩
  b_len := He.free_ok X G (c.fact 15 (f := .free "len") rfl)
  b_int := He.free_ok X G (c.fact 16 (f := .free "int") rfl)
  b_str := He.free_ok X G (c.fact 17 (f := .free "str") rfl)
  b_range := He.free_ok X G (c.fact 18 (f := .free "range") rfl)
  b_zip := He.free_ok X G (c.fact 19 (f := .free "zip") rfl)
  b_isinstance := He.free_ok X G (c.fact 20 (f := .free "isinstance") rfl)
  b_list := He.free_ok X G (c.fact 21 (f := .free "list") rfl)
  b_tuple := He.free_ok X G (c.fact 22 (f := .free "tuple") rfl)
  b_bool := He.free_ok X G (c.fact 23 (f := .free "bool") rfl)
  b_min := He.free_ok X G (c.fact 24 (f := .free "min") rfl)
  b_ValueError := He.free_ok X G (c.fact 25 (f := .free "ValueError") rfl)
  c_MARKS := ⟨_, He.glo_ok X G (c.fact 26 (f := .glo "MARKS") rfl), rfl⟩
  d_MARKS := cd.at_ 0
  g_MendError := He.glo_ok X G (c.fact 27 (f := .glo "MendError") rfl)
  c_MendError := ⟨_, He.glo_ok X G (c.fact 27 (f := .glo "MendError") rfl), rfl⟩
  g_NoWriting := He.glo_ok X G (c.fact 28 (f := .glo "NoWriting") rfl)
  c_NoWriting := ⟨_, He.glo_ok X G (c.fact 28 (f := .glo "NoWriting") rfl), rfl⟩
  z_NoWriting := errB_ok (all_at cx (i := 0) rfl)
  kv_NoWriting := beq_iff_eq.mp (all_at cx (i := 1) rfl)
  kk_NoWriting_NoWriting := beq_iff_eq.mp (all_at cx (i := 2) rfl)
theorem law_at {K : PySem.W.Frag} {h : Heap} {mg : Str → Option Value} {f : Addr} (X : K.In h) (G : h.Ns mainGlobals mg) (hfa : mg ("law" : Str) = some (.ref f)) (c : He.SaysD fa fn K) :
    ∃ fd : FuncData, (∀ (s : Shared) (v : Value), BindsTo s fd ⟨[v], []⟩ [("script", v)]) ∧ FunD K "law" "law" (defArgs s_law) (defBody s_law) (defScope s_law) [] [] f fd := by
  obtain ⟨fd, F⟩ := c.def_ 10 (d := d_law) rfl
  have e := hfa.symm.trans (He.glo_ok X G (c.fact 10 (f := .glo "law") rfl))
  cases e
  have b := FunD.bindsA (ps := ["script"]) F fun _ _ _ _ _ _ us hl => match us, hl with | [_], _ => rfl
  exact ⟨fd, fun s v => b s [v] rfl, F⟩

end K46
open PySem PySem.W PySem.Calls PyProof.Rows
theorem PySem.Challenge.cw_nestmend_k46_deeds_written_holds : PySem.Challenge.rw_nestmend_k46_deeds_written.Holds := by
  w_on; o_law
  refine HandSHeadRun.head_any (r := OpenLaw.row PySem.Challenge.rw_nestmend_k46_deeds_written) (q := view (OpenLaw.row PySem.Challenge.rw_nestmend_k46_deeds_written).prog [20]) (H := K46.hk) (ob := K46.ob) (M := 6000) (loose := K46.loose) (d := HandSHeadRun.topDef (OpenLaw.row PySem.Challenge.rw_nestmend_k46_deeds_written).prog 20) (kwd := []) K46.ob_eq
    (by kernel_rfl) (fun s => by kernel_rfl) K46.run (by kernel_rfl) (by kernel_rfl) (by kernel_rfl) (by rfl) (by first | assumption | decide +kernel) (by decide +kernel) ⟨rfl, rfl, rfl, rfl, rfl, by decide +kernel⟩ ?hw ?hc
  case hw => w_witness2
  case hc =>
    refine L2.walk_ofE (l := PySem.Challenge.rw_nestmend_k46_deeds_written) (n := 63) (k := 5) (x := "script") (CX := C8.CX0) rfl (by decide) (by kernel_rfl) ⟨rfl, by decide, by decide⟩ ?F (fun _ _ _ _ z => z)
    intro w mg fa h Y G hmg0
    obtain ⟨K, KX, c, cx, cd⟩ := Y
    have hmg : mg ("law" : PySem.Str) = some (.ref fa) := by
      have e : (HandSHeadRun.topDef (OpenLaw.row PySem.Challenge.rw_nestmend_k46_deeds_written).prog 20).name = ("law" : PySem.Str) := by kernel_rfl
      rw [← e]
      exact hmg0
    obtain ⟨fd, hb, F⟩ := K46.law_at KX G hmg c
    exact ⟨K, fd, K46.spLaw K, KX, hb, fun H a ns hl _ hS => ⟨a, ns, rfl, hS, hl, fun _ => rfl⟩, fun base _ _ => K46.ok_law (K46.facts KX G c cx cd) F⟩
