import PyProof.Rows.All
import HandS.HeadHook2
import HandS.Words
import HandS.WordsExc
import HandS.Codes
import Wide.All
import OpenK.AllK
import Wide.FinOn
import HandS.ForMost
import HandS.Style
import HandS.Walk
import HandS.IsInst
import HandS.Wide
import HandS.Defaults
import HandS.Flow
import HandS.Replace
import KE.GoesMore
import KE.GoesZip
import KE.GoesEnum
import PyProof.ListStr
import PyProof.StrBlock2
import HandS.Conv
import HandS.ReplaceList
import HandS.SortInts
import PyProof.Rows.SortShellAny
import PyProof.Rows.StrRev
import HandS.ReplaceLit
import PyProof.Rows.SeqMore
import HandS.HeadHook1
import HandS.More
import HandS.ExcOwn
import HandS.ExcIs
import HandS.TryOnly
import HandS.HeadEnd
import HandS.TupSets
import HandS.Deep
import KE.LtData
import HandS.Zip
import KE.KDictPairs
import HandS.SetFor
import HandS.Strs
import PyProof.Rows.StrFirst
import HandS.Dict
import HandS.List
import PyProof.ReprRoads
import PyProof.StrLawsRepr
import PyProof.ReprLen
import HandS.DeepEq
import HandS.StrMore
import KE.KIntText
import KE.IntTextLaws
import KE.SortData
import KE.KDictSum
import HandS.TryMany
import HandS.TupAny
import HandS.TupMul
import PyProof.FactsAll.dict_1
import PyProof.FactsAll.subtypes_3
import PyProof.FactsAll.subtypes_4
import PySem.Challenge.RW_nestmend_k08_no_nests
import HandS.Head0
import HandS.Head1
import HandS.Head2
set_option Elab.async false
set_option linter.all false
set_option maxRecDepth 100000
/-! Hd: what a head's run is told by; stands ahead of all else (own work) -/
namespace Ly
open PySem PySem.Spec PyProof.Rows L2 SX
abbrev AlE : Type := He.AlD × Bool
def entT (e : DictEntry) : Option (Str × Str × Int) := match e.key, e.val with
  | .str x _, .str y _ => some (x, y, e.hash)
  | _, _ => none
def dicT (K : PySem.W.Frag) (a : Addr) : Option (List (Option (Str × Str × Int))) := match K.lookup a with
  | some ⟨.type c, none, .dict es _, sl⟩ => bif decide (c = "dict") && (sl.isEmpty && !(a == sysModules)) then some (es.toList.map entT) else none
  | _ => none
def entsOf (P : Params) (kvs : List (Str × Str)) : List (Option (Str × Str × Int)) := kvs.map fun kv => some (kv.1, kv.2, PyData.keyHash P kv.1)
structure KdD where
  at_ : PySem.W.Frag → Addr
  kvs : List (Str × Str)
def obsM (ds : List KdD) (K : PySem.W.Frag) : List (Option (List (Option (Str × Str × Int)))) := ds.map fun d => dicT K (d.at_ K)
def valM (ds : List KdD) (w : World) : List (Option (List (Option (Str × Str × Int)))) := ds.map fun d => some (entsOf w.params d.kvs)
def SaysM (ds : List KdD) (w : World) (K : PySem.W.Frag) : Prop := obsM ds K = valM ds w
def errB (K : PySem.W.Frag) (C M : Addr) : Bool := PySem.W.excIn K C [.type "ValueError", .type "Exception", .type "BaseException", .type "object"] "ValueError.__new__" && (PySem.W.keepIn K (.ref C) && (PySem.W.subIn K (.ref C) (.type "BaseException") == some true && (PySem.W.typeIn K (.ref C) == some (.type "type") &&
  (PySem.W.findIn K (.ref C) "__getattribute__" == some (some (.builtin "BaseException.__getattribute__")) && (PySem.W.findIn K (.ref C) "__getattr__" == some none && (PySem.W.hasDictIn K C && (PySem.W.findIn K (.ref C) "__class__" == some (some (.builtin "object.__class__")) &&
  (PySem.W.specialIn K (.builtin "object.__class__") "__get__" == some (some (.builtin "getset_descriptor.__get__")) && (PySem.W.takesIn K (.builtin "object.__class__") == some true && (PySem.W.mroIn K C (.type "object") == some true && PySem.W.exmOne K (.ref C) (.ref M) == some true))))))))))
/-! a head's hook whose part of the heap is told by its addresses -/
end Ly

set_option maxHeartbeats 4000000
namespace Ly
open PySem PySem.Spec PyProof.Rows L2 SX

/-- a text by its codes -/
abbrev Tx (l : List Nat) : V := V.str (S l)
theorem Tx_inj {a b : List Nat} : Tx a = Tx b ↔ a = b := ⟨fun h => S_inj (V.str.inj h), fun h => by rw [h]⟩
def OPN : List Nat := [40, 60, 91, 123]
def CLO : List Nat := [41, 62, 93, 125]
def BRK : List Nat := [40, 41, 60, 62, 91, 93, 123, 125]
def LET : List Nat := [97, 98, 99, 100, 101, 102, 103, 104, 105, 106, 107, 108, 109, 110, 111, 112, 113, 114, 115, 116, 117, 118, 119, 120, 121, 122]

/-! ### rules -/
section
variable {X : Cx} {k j : Nat} {x : Str} {sp : Sp} {p pos : Pos} {e : Expr} {es : List Expr} {t : TA} {ta tb : TE}
def tOwn (sp : Sp) (t : TA) : TE := fun σ H Q => t σ H fun vs H1 => sp vs H1 Q C8.E0
theorem pe_own (c : C8.Cal X.prog X.w X.K X.mg X.base k x sp []) (hr : Room j X.A) (hk : k ≤ j) (hg : Gl X x) (ha : PA X (e :: es) t)
    (hdb : (x == ("__debug__" : Str)) = false := by decide) (he : starEach (e :: es) X.env = (false, eval e X.env) :: starEach es X.env := by rfl) (hpl : (backTo pos (starEach es X.env)).any (·.1) = false := by rfl) :
    PE X (.Call (.Name x p) (e :: es) [] pos) (tOwn sp t) := by
  have h := C8.pe_c (p := p) c hr hk hg ha hdb he hpl
  have e : tCall sp [] C8.E0 t = tOwn sp t := by
    funext σ H Q
    show (t σ H fun vs H1 => sp (vs ++ []) H1 Q C8.E0) = _
    simp only [List.append_nil]
    rfl
  rw [← e]
  exact h
theorem pe_strS {z : Str} {jj : Nat} {l : List Nat} (h : z = S l) : PE X (.Constant (.str z) jj pos) (tC (Tx l)) := by
  subst h
  exact pe_str
/-- operators by names -/
def rAddT : R2 := fun x y H Q => ∃ a b : List Nat, x = Tx a ∧ y = Tx b ∧ a.length + b.length ≤ 100000 ∧ Q (Tx (a ++ b)) H
theorem op_addT : OpR X (binaryOp .Add) rAddT := fun pins s σ H x y v u Q I rx ry h => by
  obtain ⟨a, b, rfl, rfl, hl, q⟩ := h
  refine op_add_str pins s σ H _ _ v u Q I rx ry ⟨_, _, rfl, rfl, ?_, ?_⟩
  · rw [S_len, S_len]
    exact Nat.le_trans hl (by decide)
  · rw [S_cat]
    exact q
theorem iop_addT : PIp X .Add rAddT := fun pins s σ H x y v u Q I rx ry h => by
  obtain ⟨a, b, rfl, rfl, hl, q⟩ := h
  refine iop_add_str pins s σ H _ _ v u Q I rx ry ⟨_, _, rfl, rfl, ?_, ?_⟩
  · rw [S_len, S_len]
    exact Nat.le_trans hl (by decide)
  · rw [S_cat]
    exact q
def rInT (neg : Bool) : R2 := fun x y H Q => ∃ (c : Nat) (l : List Nat), x = Tx [c] ∧ y = Tx l ∧ Q (.bl (if neg then !decide (c ∈ l) else decide (c ∈ l))) H
theorem op_inT : OpR X (compareOp .In) (rInT false) := fun pins s σ H x y v u Q I rx ry h => by
  obtain ⟨c, l, rfl, rfl, q⟩ := h
  exact op_in_sign pins s σ H _ _ v u Q I rx ry ⟨c, S l, rfl, rfl, q⟩
def rIxT1 : R2 := fun x y H Q => ∃ (l : List Nat) (i : Int) (c : Nat), x = Tx l ∧ y = .int i ∧ l.length ≤ 100000 ∧ atI l i = some c ∧ Q (Tx [c]) H
theorem ix_txt : IxR X rIxT1 := fun value slice pins s σ H x y v u Q I rx ry h hs => by
  obtain ⟨l, i, c, rfl, rfl, hl, h1, q⟩ := h
  refine ix_str value slice pins s σ H _ _ v u Q I rx ry ⟨S l, i, c, rfl, rfl, ?_, h1, q⟩ hs
  rw [S_len]
  exact Nat.le_trans hl (by decide)
def rLenT : List V → Hp → VK → Prop := fun xs H Q => ∃ l : List Nat, xs = [Tx l] ∧ l.length ≤ 100000 ∧ Q (.int l.length) H
theorem call_lenT : CallR X (.builtin "len") rLenT := fun pins s σ H xs us Q I r h => by
  obtain ⟨l, rfl, hl, q⟩ := h
  refine call_len_str pins s σ H _ us Q I r ⟨S l, rfl, ?_, ?_⟩
  · rw [S_len]
    exact Nat.le_trans hl (by decide)
  · rw [S_len]
    exact q
def rIntB : List V → Hp → VK → Prop := fun xs H Q => ∃ b : Bool, xs = [.bl b] ∧ Q (.int (if b then 1 else 0)) H
theorem call_intB : CallR X (.type "int") rIntB := fun pins s σ H xs us Q I r h => by
  obtain ⟨b, rfl, q⟩ := h
  exact call_int1 pins s σ H _ us Q I r (.inr ⟨b, rfl, q⟩)
def rLenL (K : PySem.W.Frag) : List V → Hp → VK → Prop := fun xs H Q => ∃ p ys, xs = [.ref p] ∧ (SqL K H p ys ∨ SqT K H p ys) ∧ Q (.int ys.length) H
theorem call_lenL : CallR X (.builtin "len") (rLenL X.K) := call_len_seq
def rFindT : V → List V → Hp → VK → Prop := fun x xs H Q => ∃ a b : List Nat, x = Tx a ∧ xs = [Tx b] ∧ Q (.int (Txt.find (S a) (S b))) H
def rIdxT : V → List V → Hp → VK → Prop := fun x xs H Q => ∃ (a b : List Nat) (i : Nat), x = Tx a ∧ xs = [Tx b] ∧ Txt.find (S a) (S b) = (i : Int) ∧ Q (.int i) H
theorem mt_idxT : MtR X "str.index" rIdxT := fun pins s σ H x xs v us Q I rx rs h => by
  obtain ⟨a, b, i, h1, h2, h3, q⟩ := h
  unfold Txt.find at h3
  cases ho : Builtin.Str.occurrences (S a) (S b) 0 (S a).length 1 with
  | nil =>
    rw [ho] at h3
    exact absurd h3 (by show ¬ ((-1 : Int) = (i : Int)); omega)
  | cons j r =>
    rw [ho] at h3
    have e : (j : Int) = (i : Int) := h3
    have e2 : j = i := by omega
    subst e2
    exact mt_sindex pins s σ H x xs v us Q I rx rs ⟨S a, S b, j, r, h1, h2, ho, q⟩
def rSlTx : V → Option Int → Option Int → Hp → VK → Prop := fun x lo hi H Q => ∃ l : List Nat, x = Tx l ∧ l.length ≤ 100000 ∧ Q (.str (Txt.slice (S l) lo hi)) H
theorem sl_tx : SlR X rSlTx := by
  intro pins s σ H x v vl vu lo hi sl Q I rx hs pl pu h
  obtain ⟨l, hx, hz, q⟩ := h
  refine C8.sl_txt pins s σ H x v vl vu lo hi sl Q I rx hs pl pu ⟨S l, hx, ?_, q⟩
  rw [S_len]
  exact Nat.le_trans hz (by decide)
end

/-! ### heaps -/
def But (p : Addr) (H H' : Hp) : Prop := ∀ b o, b ≠ p → H b = some o → H' b = some o
section
variable {H H' H1 H2 : Hp} {a b p : Addr} {o u : HO}
theorem Same.new (h : H p = none) : Same H (upd H p u) := fun b x e => by
  rw [upd_ne (ne_of_none e h)]
  exact e
theorem But.refl : But p H H := fun _ _ _ h => h
theorem But.set : But p H (upd H p u) := fun b x n e => by
  rw [upd_ne n]
  exact e
theorem But.trans (x : But p H H1) (y : But p H1 H2) : But p H H2 := fun b o n h => y b o n (x b o n h)
theorem But.same (x : But p H H1) (y : Same H1 H2) : But p H H2 := fun b o n h => y b o (x b o n h)
theorem Same.but (x : Same H H1) (y : But p H1 H2) : But p H H2 := fun b o n h => y b o n (x b o h)
theorem Same.toBut (x : Same H H1) : But p H H1 := fun b o _ h => x b o h
/-- p is new since H -/
theorem Same.but0 (x : Same H H1) (y : But p H1 H2) (n : H p = none) : Same H H2 := fun b o h => y b o (ne_of_none h n) (x b o h)
theorem But.free (x : But p H H1) (n : a ≠ p) (h : H1 a = none) : H a = none := by
  cases q : H a with
  | none => rfl
  | some o =>
    rw [x a o n q] at h
    cases h
theorem But.but0 {q : Addr} (x : But p H H1) (y : But q H1 H2) (n : H q = none) : But p H H2 := fun b o m h => y b o (ne_of_none h n) (x b o m h)
theorem Same.get (s : Same H H1) (h : H a = some o) : H1 a = some o := s a o h
theorem But.get (s : But p H H1) (n : a ≠ p) (h : H a = some o) : H1 a = some o := s a o n h
theorem ne_new (n : H b = none) (h : H a = some o) : a ≠ b := ne_of_none h n
theorem Same.fr (n : H1 a = none) (x : Same H H1) : H a = none := x.free n
theorem But.fr (n : H1 a = none) (x : But p H H1) (m : a ≠ p) : H a = none := x.free m n
theorem Same.tr (y : Same H1 H2) (x : Same H H1) : Same H H2 := x.trans y
theorem Same.b0 (y : But p H1 H2) (x : Same H H1) (n : H p = none) : Same H H2 := Same.but0 x y n
theorem But.sa (y : Same H1 H2) (x : But p H H1) : But p H H2 := But.same x y
theorem But.tr (y : But p H1 H2) (x : But p H H1) : But p H H2 := x.trans y
theorem But.b0 {q : Addr} (y : But q H1 H2) (x : But p H H1) (n : H q = none) : But p H H2 := But.but0 x y n
theorem sq_of {K : PySem.W.Frag} {xs : List V} (h : H a = some (.lst xs)) : SqL K H a xs := .inl (.inl h)
theorem st_of {K : PySem.W.Frag} {xs : List V} (h : H a = some (.tup xs)) : SqT K H a xs := .inl (.inl h)
theorem But.sq {K : PySem.W.Frag} {xs : List V} (x : But p H H1) (n : a ≠ p) (h : SqL K H a xs) : SqL K H1 a xs := by
  rcases h with (h | ⟨o, h⟩) | h
  · exact .inl (.inl (x _ _ n h))
  · exact .inl (.inr ⟨o, x _ _ n h⟩)
  · exact .inr h
end

/-! ### readings, step by step -/
theorem cx_K {CX : CXT} {P : Program} {w : World} {K : PySem.W.Frag} {mg : Str → Option Value} {base : Heap} {N : List Str} {q : Str} {sc : Scope} {f : Addr} {cd : Value} {A : Around} {outer : List Env} {s : Shared} {H : Hp} {E : XK} : (cxOf CX P w K mg base N q sc f cd A outer s H E).K = K := rfl
section
variable {K : PySem.W.Frag} {σ : L2.St} {H : Hp} {Q : VK} {R : Hp → Prop} {i j : Int} {n : Nat} {v : V} {a p : Addr} {l m : List Nat} {xs ys : List V}
theorem g_var (h : σ[n]? = some (some v)) (q : Q v H) : tVar n σ H Q := ⟨v, h, q⟩
theorem g_I0 {g : Int → Int → V} (q : Q (g i j) H) : rI0 g (.int i) (.int j) H Q := ⟨i, j, rfl, rfl, q⟩
theorem g_I {C : Int → Int → Prop} {g : Int → Int → V} (c : C i j) (q : Q (g i j) H) : rI C g (.int i) (.int j) H Q := ⟨i, j, rfl, rfl, c, q⟩
theorem g_U {g : Int → V} (q : Q (g i) H) : rU g (.int i) H Q := ⟨i, rfl, q⟩
theorem g_ipI {g : Int → Int → Int} (q : Q (.int (g i j)) H) : ipI g (.int i) (.int j) H Q := ⟨i, j, rfl, rfl, q⟩
theorem g_addT (h : l.length + m.length ≤ 100000) (q : Q (Tx (l ++ m)) H) : rAddT (Tx l) (Tx m) H Q := ⟨l, m, rfl, rfl, h, q⟩
theorem g_inT {c : Nat} (q : Q (.bl (decide (c ∈ l))) H) : rInT false (Tx [c]) (Tx l) H Q := ⟨c, l, rfl, rfl, q⟩
theorem g_ninT {c : Nat} (q : Q (.bl (!decide (c ∈ l))) H) : rInT true (Tx [c]) (Tx l) H Q := ⟨c, l, rfl, rfl, q⟩
theorem g_ixT {c : Nat} (h : l.length ≤ 100000) (h1 : atI l i = some c) (q : Q (Tx [c]) H) : rIxT1 (Tx l) (.int i) H Q := ⟨l, i, c, rfl, rfl, h, h1, q⟩
theorem g_ixL (h : SqL K H p xs) (h1 : atI xs i = some v) (q : Q v H) : rIxL K (.ref p) (.int i) H Q := ⟨p, xs, i, v, rfl, rfl, h, h1, q⟩
theorem g_ixU (h : SqT K H p xs) (h1 : atI xs i = some v) (q : Q v H) : rIxT K (.ref p) (.int i) H Q := ⟨p, xs, i, v, rfl, rfl, h, h1, q⟩
theorem g_lenT (h : l.length ≤ 100000) (q : Q (.int l.length) H) : rLenT [Tx l] H Q := ⟨l, rfl, h, q⟩
theorem g_lenL (h : SqL K H p xs) (q : Q (.int xs.length) H) : rLenL K [.ref p] H Q := ⟨p, xs, rfl, .inl h, q⟩
theorem g_lenU (h : SqT K H p xs) (q : Q (.int xs.length) H) : rLenL K [.ref p] H Q := ⟨p, xs, rfl, .inr h, q⟩
theorem g_findT1 (q : Q (.int (Txt.find (S l) (S m))) H) : rFindT (Tx l) [Tx m] H Q := ⟨l, m, rfl, rfl, q⟩
theorem g_idxT1 {k : Nat} (h : Txt.find (S l) (S m) = (k : Int)) (q : Q (.int k) H) : rIdxT (Tx l) [Tx m] H Q := ⟨l, m, k, rfl, rfl, h, q⟩
theorem g_str {A : Prop} (q : A) : (∃ z, Tx l = .str z) ∧ A := ⟨⟨_, rfl⟩, q⟩
theorem g_intB {b : Bool} (q : Q (.int (if b then 1 else 0)) H) : rIntB [.bl b] H Q := ⟨b, rfl, q⟩
theorem g_eq {x y : V} (h : scal x y = true) (q : Q (.bl (decide (x = y))) H) : rEq x y H Q := ⟨h, q⟩
theorem g_ne {x y : V} (h : scal x y = true) (q : Q (.bl (!decide (x = y))) H) : rNe x y H Q := ⟨h, q⟩
theorem g_tyL (h : SqL K H p xs) : tyV K "list" (.ref p) H := .inl ⟨rfl, _, h⟩
/-! new objects, changed ones -/
def rLstN (xs : List V) (H : Hp) (Q : VK) : Prop := xs.length ≤ sizeLine ∧ ∀ p, H p = none → Q (.ref p) (upd H p (.lst xs))
def rTupN (xs : List V) (H : Hp) (Q : VK) : Prop := xs.length ≤ sizeLine ∧ ∀ p, H p = none → Q (.ref p) (upd H p (.tup xs))
def rRevN (K : PySem.W.Frag) (x : V) (H : Hp) (Q : VK) : Prop := ∃ a xs, x = .ref a ∧ SqL K H a xs ∧ ∀ p, H p = none → Q (.ref p) (upd H p (.lst xs.reverse))
theorem tLst_eq {t : TA} : tLst t σ H Q = t σ H fun xs H1 => rLstN xs H1 Q := rfl
theorem tTup_eq {t : TA} : tTup t σ H Q = t σ H fun xs H1 => rTupN xs H1 Q := rfl
theorem tRevL_eq {t : TE} : tRevL K t σ H Q = t σ H fun x H1 => rRevN K x H1 Q := rfl
def rPart (x : V) (H : Hp) (Q : Option Int → Hp → Prop) : Prop := ∃ i, x = .int i ∧ Q (some i) H
theorem tPart_eq {t : TE} {Q : Option Int → Hp → Prop} : tPart t σ H Q = t σ H fun x H1 => rPart x H1 Q := rfl
theorem g_part {Q : Option Int → Hp → Prop} (q : Q (some i) H) : rPart (.int i) H Q := ⟨i, rfl, q⟩
theorem g_lst (h : xs.length ≤ 100000) (q : ∀ p H1, H p = none → Same H H1 → H1 p = some (.lst xs) → Q (.ref p) H1) : rLstN xs H Q :=
  ⟨Nat.le_trans h (by decide), fun p np => q p _ np (Same.new np) upd_same⟩
theorem g_tup (h : xs.length ≤ 100000) (q : ∀ p H1, H p = none → Same H H1 → H1 p = some (.tup xs) → Q (.ref p) H1) : rTupN xs H Q :=
  ⟨Nat.le_trans h (by decide), fun p np => q p _ np (Same.new np) upd_same⟩
theorem g_new {o : HO} (q : ∀ p H1, H p = none → Same H H1 → H1 p = some o → Q (.ref p) H1) : ∀ p, H p = none → Q (.ref p) (upd H p o) := fun p np => q p _ np (Same.new np) upd_same
theorem g_setL (h : H p = some (.lst xs)) (h1 : ixN xs.length i = some n) (q : ∀ H1, But p H H1 → H1 p = some (.lst (xs.set n v)) → R H1) : rSetL (.ref p) (.int i) v H R := ⟨p, xs, i, n, rfl, rfl, h, h1, q _ But.set upd_same⟩
theorem g_append1 (h : H p = some (.lst xs)) (hl : xs.length < 100000) (q : ∀ H1, But p H H1 → H1 p = some (.lst (xs ++ [v])) → Q .non H1) : rAppend (.ref p) [v] H Q :=
  ⟨p, xs, v, rfl, rfl, h, Nat.lt_of_lt_of_le hl (by decide), q _ But.set upd_same⟩
theorem g_pop (h : H p = some (.lst (xs ++ [v]))) (q : ∀ H1, But p H H1 → H1 p = some (.lst xs) → Q v H1) : tyV K "list" (.ref p) H ∧ rPop (.ref p) [] H Q := by
  refine ⟨g_tyL (sq_of h), p, xs ++ [v], v, rfl, rfl, h, ?_, ?_⟩
  · simp
  · rw [List.dropLast_concat]
    exact q _ But.set upd_same
theorem g_slL {lo hi : Option Int} (h : SqL K H p xs) (q : ∀ p H1, H p = none → Same H H1 → H1 p = some (.lst (cutV xs lo hi)) → Q (.ref p) H1) : rSlL K (.ref p) lo hi H Q := ⟨p, xs, rfl, h, g_new q⟩
theorem g_revL (h : SqL K H p xs) (q : ∀ p H1, H p = none → Same H H1 → H1 p = some (.lst xs.reverse) → Q (.ref p) H1) : rRevN K (.ref p) H Q := ⟨p, xs, rfl, h, g_new q⟩
theorem g_cat (h : H a = some (.lst xs)) (h2 : H p = some (.lst ys)) (hl : xs.length + ys.length ≤ 100000) (q : ∀ p H1, H p = none → Same H H1 → H1 p = some (.lst (xs ++ ys)) → Q (.ref p) H1) : rCat (.ref a) (.ref p) H Q := ⟨a, p, xs, ys, rfl, rfl, h, h2, Nat.le_trans hl (by decide), g_new q⟩
theorem g_slTo (h : l.length ≤ 100000) (hi : 0 ≤ i) (q : Q (Tx (l.take i.toNat)) H) : rSlTx (Tx l) none (some i) H Q := ⟨l, rfl, h, by rw [slice_to hi]; exact q⟩
theorem g_slFrom (h : l.length ≤ 100000) (hi : 0 ≤ i) (q : Q (Tx (l.drop i.toNat)) H) : rSlTx (Tx l) (some i) none H Q := ⟨l, rfl, h, by rw [slice_from hi]; exact q⟩
/-! tests -/
theorem g_test {c : Prop} [Decidable c] {A B : Prop} (h1 : c → A) (h2 : ¬ c → B) : ∃ k, V.bl (decide c) = V.bl k ∧ if k = true then A else B := by
  refine ⟨_, rfl, ?_⟩
  by_cases h : c
  · rw [decide_eq_true h, if_pos rfl]
    exact h1 h
  · rw [decide_eq_false h, if_neg Bool.false_ne_true]
    exact h2 h
theorem g_testN {c : Prop} [Decidable c] {A B : Prop} (h1 : ¬ c → A) (h2 : c → B) : ∃ k, V.bl (!decide c) = V.bl k ∧ if k = true then A else B := by
  refine ⟨_, rfl, ?_⟩
  by_cases h : c
  · rw [decide_eq_true h]
    exact h2 h
  · rw [decide_eq_false h]
    exact h1 h
theorem g_testB {b : Bool} {A B : Prop} (h1 : b = true → A) (h2 : b = false → B) : ∃ k, V.bl b = V.bl k ∧ if k = true then A else B := by
  refine ⟨_, rfl, ?_⟩
  cases b with
  | true => exact h1 rfl
  | false => exact h2 rfl
end

/-! ### loops -/
def ForR (J : It) (g : TG) (tb : TS) (D : Ends) (σ : L2.St) (H : Hp) : Prop := ∃ W : Nat → Nat → L2.St → Hp → Prop, (∃ m, W 0 m σ H) ∧ ∀ i m σ H, W i m σ H →
  (J.stop i H ∧ D.nx σ H) ∨ (J.go i H ∧ ∃ N : L2.St → Hp → Prop, (∀ σ' H', N σ' H' → ∃ m', m' < m ∧ W (i + 1) m' σ' H') ∧ ∀ x H', J.yld i H x H' → g x σ H' fun σ2 H2 => tb { D with nx := N, ct := N, bk := D.nx } σ2 H2)
theorem tFor_eq {wi : TI} {g : TG} {tb : TS} {D : Ends} {σ : L2.St} {H : Hp} : tFor wi g tb D σ H = wi σ H fun J H1 => ForR J g tb D σ H1 := rfl
def LcR (J : It) (g : TG) (tt : TT) (te : TE) (vs : List Nat) (σ : L2.St) (H1 : Hp) (Q : VK) : Prop := ∀ D, H1 D = none → ∃ W : Nat → Nat → Hp → Prop, (∃ m, W 0 m (upd H1 D (.lst []))) ∧ ∀ i m H, W i m H →
  (J.stop i H ∧ Q (.ref D) H) ∨ (J.go i H ∧ ∃ Nx : Hp → Prop, (∀ H', Nx H' → ∃ m', m' < m ∧ W (i + 1) m' H') ∧ ∀ x H', J.yld i H x H' → g x (wipe σ vs) H' fun σ2 H2 => wipe σ2 vs = wipe σ vs ∧ tt σ2 H2 fun b H3 =>
    if b = true then te σ2 H3 fun y H4 => ∃ acc, H4 D = some (.lst acc) ∧ acc.length < sizeLine ∧ Nx (upd H4 D (.lst (acc ++ [y]))) else Nx H3)
theorem tLc_eq {wi : TI} {g : TG} {tt : TT} {te : TE} {vs : List Nat} {σ : L2.St} {H : Hp} {Q : VK} : tLc wi g tt te vs σ H Q = wi σ H fun J H1 => LcR J g tt te vs σ H1 Q := rfl
section
variable {K : PySem.W.Frag} {σ : L2.St} {H : Hp} {g : TG} {tb : TS} {D : Ends} {l : List Nat} {xs : List V} {a : Addr} {tt : TT} {te : TE} {vs : List Nat} {Q : VK} {n : Nat} {lo : Int}
/-- for c in text, by what is gone through -/
theorem for_txt (Pv : List Nat → L2.St → Hp → Prop) (h0 : Pv [] σ H)
    (hs : ∀ pre c post σ H, l = pre ++ c :: post → Pv pre σ H → g (Tx [c]) σ H fun σ2 H2 => tb { D with nx := Pv (pre ++ [c]), ct := Pv (pre ++ [c]), bk := D.nx } σ2 H2) (hd : ∀ σ H, Pv l σ H → D.nx σ H) : ForR (Its (S l)) g tb D σ H := by
  refine ⟨fun i m σ H => m = l.length - i ∧ i ≤ l.length ∧ Pv (l.take i) σ H, ⟨l.length, by simp, Nat.zero_le _, by simpa using h0⟩, ?_⟩
  rintro i m σ H ⟨rfl, hi, p⟩
  have sz : (S l).cps.size = l.length := by simp
  by_cases hlt : i < l.length
  · have e : l.take (i + 1) = l.take i ++ [l[i]] := by rw [List.take_succ_eq_append_getElem hlt]
    have e2 : l = l.take i ++ l[i] :: l.drop (i + 1) := by rw [← List.drop_eq_getElem_cons hlt, List.take_append_drop]
    refine .inr ⟨by show i < (S l).cps.size; rw [sz]; exact hlt, Pv (l.take (i + 1)), fun σ' H' p' => ⟨l.length - (i + 1), by omega, rfl, hlt, p'⟩, fun x H' y => ?_⟩
    obtain ⟨e1, c, hc, rfl⟩ := y
    subst e1
    have ec : c = l[i] := by
      have : (S l).cps[i]? = some l[i] := by simp [hlt]
      rw [this] at hc
      exact (Option.some.inj hc).symm
    subst ec
    rw [e]
    exact hs (l.take i) l[i] (l.drop (i + 1)) σ _ e2 p
  · have e : i = l.length := by omega
    subst e
    rw [List.take_length] at p
    exact .inl ⟨by show (S l).cps.size ≤ l.length; rw [sz]; exact Nat.le_refl _, hd σ H p⟩
theorem cut_at {α : Type} {xs : List α} {i : Nat} {x : α} (hx : xs[i]? = some x) : xs.take (i + 1) = xs.take i ++ [x] ∧ xs = xs.take i ++ x :: xs.drop (i + 1) := by
  obtain ⟨hlt, ex⟩ := List.getElem?_eq_some_iff.mp hx
  subst ex
  exact ⟨by rw [List.take_succ_eq_append_getElem hlt], by rw [← List.drop_eq_getElem_cons hlt, List.take_append_drop]⟩
/-- for x in list, by what is gone through; the list stays -/
theorem for_lst (xs : List V) (Pv : List V → L2.St → Hp → Prop) (h0 : Pv [] σ H) (hl : ∀ pre post σ H, xs = pre ++ post → Pv pre σ H → SqL K H a xs)
    (hs : ∀ pre x post σ H, xs = pre ++ x :: post → Pv pre σ H → g x σ H fun σ2 H2 => tb { D with nx := Pv (pre ++ [x]), ct := Pv (pre ++ [x]), bk := D.nx } σ2 H2) (hd : ∀ σ H, Pv xs σ H → D.nx σ H) : ForR (Itl K a) g tb D σ H := by
  refine for_list (xs := xs) (fun i σ H => Pv (xs.take i) σ H) (by simpa using h0) (fun i σ H _ p => hl _ (xs.drop i) σ H (List.take_append_drop i xs).symm p) (fun i x σ H hx p => ?_) (fun σ H p => hd σ H (by simpa using p))
  obtain ⟨e, e2⟩ := cut_at hx
  have z := hs (xs.take i) x (xs.drop (i + 1)) σ H e2 p
  rw [← e] at z
  exact z
/-- for i, x in enumerate(list), by what is gone through -/
theorem for_enum (xs : List V) (Pv : List V → L2.St → Hp → Prop) (h0 : Pv [] σ H) (hl : ∀ pre post σ H, xs = pre ++ post → Pv pre σ H → SqL K H a xs)
    (hs : ∀ pre x post σ H t H1, xs = pre ++ x :: post → Pv pre σ H → H t = none → Same H H1 → H1 t = some (.tup [.int pre.length, x]) → g (.ref t) σ H1 fun σ2 H2 => tb { D with nx := Pv (pre ++ [x]), ct := Pv (pre ++ [x]), bk := D.nx } σ2 H2) (hd : ∀ σ H, Pv xs σ H → D.nx σ H) : ForR (Ite K a) g tb D σ H := by
  refine for_it (walk_enum (xs := xs)) (fun i σ H => Pv (xs.take i) σ H) (by simpa using h0) (fun i σ H _ p => hl _ (xs.drop i) σ H (List.take_append_drop i xs).symm p) (fun i v σ H H' hi p y => ?_) (fun σ H p => hd σ H (by simpa using p))
  obtain ⟨t, x1, x2, rfl, nt, rfl, e1, e2⟩ := y
  cases e1
  obtain ⟨e, e3⟩ := cut_at e2
  have z := hs (xs.take i) x2 (xs.drop (i + 1)) σ H t _ e3 p nt (Same.new nt) (by
    rw [upd_same, List.length_take, Nat.min_eq_left (Nat.le_of_lt hi)])
  rw [← e] at z
  exact z
/-- for i in range -/
theorem for_rng (Pv : Nat → L2.St → Hp → Prop) (h0 : Pv 0 σ H)
    (hs : ∀ i σ H, i < n → Pv i σ H → g (.int (lo + i)) σ H fun σ2 H2 => tb { D with nx := Pv (i + 1), ct := Pv (i + 1), bk := D.nx } σ2 H2) (hd : ∀ σ H, Pv n σ H → D.nx σ H) : ForR (Itr lo n) g tb D σ H := for_range Pv h0 hs hd
/-- what a comprehension's turn is to reach: y put behind the new list at d -/
def LcPut (d : Addr) (R : Hp → Prop) (y : V) (H : Hp) : Prop := ∃ acc, H d = some (.lst acc) ∧ acc.length < sizeLine ∧ R (upd H d (.lst (acc ++ [y])))
theorem lc_put {d : Addr} {R : Hp → Prop} {y : V} {acc : List V} (h : H d = some (.lst acc)) (hl : acc.length < 100000) (q : ∀ H5, But d H H5 → H5 d = some (.lst (acc ++ [y])) → R H5) : LcPut d R y H := ⟨acc, h, Nat.lt_of_lt_of_le hl (by decide), q _ But.set upd_same⟩
theorem lc_w {J : It} {G : Hp → Prop} {Y : Nat → Hp → V → Hp → Prop} (w : Walk J n G Y)
    (h : ∀ d H1, H d = none → Same H H1 → H1 d = some (.lst []) → ∃ Pv : Nat → Hp → Prop, Pv 0 H1 ∧ (∀ i H, i ≤ n → Pv i H → G H) ∧
      (∀ i x H H', i < n → Pv i H → Y i H x H' → g x (wipe σ vs) H' fun σ2 H2 => wipe σ2 vs = wipe σ vs ∧ tt σ2 H2 fun b H3 => if b = true then te σ2 H3 fun y H4 => LcPut d (Pv (i + 1)) y H4 else Pv (i + 1) H3) ∧ ∀ H, Pv n H → Q (.ref d) H) : LcR J g tt te vs σ H Q := by
  intro d nd
  obtain ⟨Pv, h0, hG, hs, hd⟩ := h d _ nd (Same.new nd) upd_same
  exact lc_it w Pv h0 hG hs hd
theorem lc_rng (h : ∀ d H1, H d = none → Same H H1 → H1 d = some (.lst []) → ∃ Pv : Nat → Hp → Prop, Pv 0 H1 ∧
      (∀ (i : Nat) H, i < n → Pv i H → g (.int (lo + i)) (wipe σ vs) H fun σ2 H2 => wipe σ2 vs = wipe σ vs ∧ tt σ2 H2 fun b H3 => if b = true then te σ2 H3 fun y H4 => LcPut d (Pv (i + 1)) y H4 else Pv (i + 1) H3) ∧ ∀ H, Pv n H → Q (.ref d) H) : LcR (Itr lo n) g tt te vs σ H Q := by
  refine lc_w walk_range fun d H1 nd s e => ?_
  obtain ⟨Pv, h0, hs, hd⟩ := h d H1 nd s e
  refine ⟨Pv, h0, fun _ _ _ _ => trivial, fun i x H H' hi p y => ?_, hd⟩
  obtain ⟨rfl, rfl⟩ := y
  exact hs i _ hi p
theorem lc_txt (h : ∀ d H1, H d = none → Same H H1 → H1 d = some (.lst []) → ∃ Pv : List Nat → Hp → Prop, Pv [] H1 ∧
      (∀ pre c post H, l = pre ++ c :: post → Pv pre H → g (Tx [c]) (wipe σ vs) H fun σ2 H2 => wipe σ2 vs = wipe σ vs ∧ tt σ2 H2 fun b H3 => if b = true then te σ2 H3 fun y H4 => LcPut d (Pv (pre ++ [c])) y H4 else Pv (pre ++ [c]) H3) ∧ ∀ H, Pv l H → Q (.ref d) H) : LcR (Its (S l)) g tt te vs σ H Q := by
  refine lc_w walk_str fun d H1 nd s e => ?_
  obtain ⟨Pv, h0, hs, hd⟩ := h d H1 nd s e
  have sz : (S l).cps.size = l.length := by simp
  refine ⟨fun i => Pv (l.take i), by simpa using h0, fun _ _ _ _ => trivial, fun i x H H' hi p y => ?_, fun H p => hd H (by rw [sz, List.take_length] at p; exact p)⟩
  obtain ⟨rfl, c, hc, rfl⟩ := y
  have hc2 : l[i]? = some c := by simpa using hc
  obtain ⟨e1, e2⟩ := cut_at hc2
  have z := hs (l.take i) c (l.drop (i + 1)) _ e2 p
  rw [← e1] at z
  exact z
end

/-! ### a def of the text -/
def DefAt (K : PySem.W.Frag) (mg : Str → Option Value) (x : Str) (st : Stmt) (ps : List Str) : Prop := ∃ (f : Addr) (fd : FuncData), FunD K x x (defArgs st) (defBody st) (defScope st) [] [] f fd ∧ mg x = some (.ref f) ∧ Binds K fd ps []
section
variable {P : Program} {w : World} {K : PySem.W.Frag} {mg : Str → Option Value} {base : Heap}
theorem fnD {x : Str} {st : Stmt} {f : Addr} {fd : FuncData} {N ps : List Str} {k : Nat} {sp : Sp} (F : FunD K x x (defArgs st) (defBody st) (defScope st) [] [] f fd) (S : FnScope N ps (defScope st)) (len : ∀ vs H Q E, sp vs H Q E → vs.length = ps.length)
    (hbody : ∀ (cdv : Value) (A : Around) (outer : List Env) (s : Shared) (H : Hp) (vs : List V) (Q : VK) (E : XK), Room k (A.deeper (envOfC x (defScope st) s.heap.objs.size f cdv)) → sp vs H Q E →
      ∃ t, PSs (cxOf C8.CX0 P w K mg base N x (defScope st) f cdv A outer s H E).nox (defBody st) t ∧ t { nx := fun _ H' => Q .non H', rt := Q } (start N vs) H) : FnOk P w K mg base C8.CX0 (k + 1) f fd ps sp := by
  refine F.ok S len fun cdv A outer s H vs Q E hr hsp => ?_
  obtain ⟨t, h, q⟩ := hbody cdv A outer s H vs Q E hr hsp
  exact ⟨t, h.nox, q⟩
theorem calD {x : Str} {st : Stmt} {N ps : List Str} {k : Nat} {sp : Sp} (D : DefAt K mg x st ps) (S : FnScope N ps (defScope st)) (len : ∀ vs H Q E, sp vs H Q E → vs.length = ps.length)
    (hbody : ∀ (f : Addr) (cdv : Value) (A : Around) (outer : List Env) (s : Shared) (H : Hp) (vs : List V) (Q : VK) (E : XK), Room k (A.deeper (envOfC x (defScope st) s.heap.objs.size f cdv)) → sp vs H Q E →
      ∃ t, PSs (cxOf C8.CX0 P w K mg base N x (defScope st) f cdv A outer s H E).nox (defBody st) t ∧ t { nx := fun _ H' => Q .non H', rt := Q } (start N vs) H) : C8.Cal P w K mg base (k + 1) x sp [] := by
  obtain ⟨f, fd, F, hm, b⟩ := D
  exact ⟨f, fd, ps, [], fnD F S len (hbody f), hm, F.kp, b, .nil⟩
end
end Ly

set_option maxHeartbeats 4000000
namespace Ly
open PySem SX
/-! ### signs -/
def isSg (c : Nat) : Prop := c ∈ LET ∨ c ∈ BRK
/-- the number of a bracket's kind -/
def knd (c : Nat) : Nat := if c ∈ OPN then OPN.idxOf c else CLO.idxOf c
/-- the other bracket of a bracket's kind -/
def oth (c : Nat) : Nat := if c ∈ OPN then CLO.getD (OPN.idxOf c) 0 else OPN.getD (CLO.idxOf c) 0
theorem find_opn : ∀ c ∈ OPN, Txt.find (S OPN) (S [c]) = (knd c : Int) := by decide +kernel
theorem find_clo : ∀ c ∈ CLO, Txt.find (S CLO) (S [c]) = (knd c : Int) := by decide +kernel
theorem brk_or {c : Nat} : c ∈ BRK ↔ c ∈ OPN ∨ c ∈ CLO := by
  unfold BRK OPN CLO
  simp
  omega
theorem at_clo : ∀ c ∈ OPN, CLO[knd c]? = some (oth c) := by decide
theorem at_opn : ∀ c ∈ CLO, OPN[knd c]? = some (oth c) := by decide
theorem oth_clo : ∀ c ∈ OPN, oth c ∈ CLO := by decide
theorem oth_opn : ∀ c ∈ CLO, oth c ∈ OPN := by decide
theorem oth_brk : ∀ c ∈ BRK, oth c ∈ BRK := by decide
theorem oth_oth : ∀ c ∈ BRK, oth (oth c) = c := by decide
theorem opn_clo : ∀ c ∈ OPN, c ∉ CLO := by decide
theorem atI_of {α : Type} {l : List α} {k : Nat} {c : α} (h : l[k]? = some c) : L2.atI l (k : Int) = some c := L2.atI_nat h

/-! ### clean texts, by a pile of awaited closing brackets -/
def stp (s : Option (List Nat)) (c : Nat) : Option (List Nat) := match s with
  | none => none
  | some st => if c ∈ OPN then some (oth c :: st) else if c ∈ CLO then (match st with
    | d :: r => if d = c then some r else none
    | [] => none) else some st
def run (l : List Nat) : Option (List Nat) := l.foldl stp (some [])
def clean (l : List Nat) : Prop := run l = some []
instance (l : List Nat) : Decidable (clean l) := inferInstanceAs (Decidable (run l = some []))
theorem run_app (a b : List Nat) : run (a ++ b) = b.foldl stp (run a) := by
  unfold run
  rw [List.foldl_append]
theorem run_snoc (a : List Nat) (c : Nat) : run (a ++ [c]) = stp (run a) c := by
  rw [run_app]
  rfl
theorem stp_let {s : Option (List Nat)} {c : Nat} (h1 : c ∉ OPN) (h2 : c ∉ CLO) : stp s c = s := by
  cases s with
  | none => rfl
  | some st => unfold stp; simp only [h1, h2, if_false]
theorem stp_opn {st : List Nat} {c : Nat} (h1 : c ∈ OPN) : stp (some st) c = some (oth c :: st) := by
  unfold stp
  simp only [h1, if_true]
theorem stp_clo {st : List Nat} {c : Nat} (h2 : c ∈ CLO) : stp (some (c :: st)) c = some st := by
  have h1 : c ∉ OPN := fun h => opn_clo c h h2
  unfold stp
  simp only [h1, h2, if_true, if_false]
theorem let_opn : ∀ c ∈ LET, c ∉ OPN := by decide
theorem let_clo : ∀ c ∈ LET, c ∉ CLO := by decide
theorem sg_lt {c : Nat} (h : isSg c) : c < 1114112 := by
  have a : ∀ c ∈ LET, c < 1114112 := by decide
  have b : ∀ c ∈ BRK, c < 1114112 := by decide
  exact h.elim (a c) (b c)
/-- what is waited for, closed -/
theorem fold_clo : ∀ st : List Nat, (∀ c ∈ st, c ∈ CLO) → st.foldl stp (some st) = some []
  | [], _ => rfl
  | c :: st, h => by
    rw [List.foldl_cons, stp_clo (h c (List.mem_cons_self ..))]
    exact fold_clo st fun d hd => h d (List.mem_cons_of_mem _ hd)
theorem opn_at {z : Nat} (h : z < 4) : ∃ c, OPN[z]? = some c ∧ CLO[z]? = some (oth c) ∧ c ∈ OPN ∧ oth c ∈ CLO := by
  have e : z = 0 ∨ z = 1 ∨ z = 2 ∨ z = 3 := by omega
  rcases e with rfl | rfl | rfl | rfl
  · exact ⟨40, rfl, rfl, by decide, by decide⟩
  · exact ⟨60, rfl, rfl, by decide, by decide⟩
  · exact ⟨91, rfl, rfl, by decide, by decide⟩
  · exact ⟨123, rfl, rfl, by decide, by decide⟩
theorem ixN_nat {n j : Nat} (h : j < n) : L2.ixN n (j : Int) = some j := by
  unfold L2.ixN
  rw [if_pos (by omega), if_pos (by omega), Int.toNat_natCast]
end Ly

set_option maxHeartbeats 4000000
namespace Ly
open PySem PySem.Spec PyProof.Rows L2 SX

/-! ### list(text) -/
def sgV (l : List Nat) : List V := l.map fun c => Tx [c]
section
variable {X : Cx}
def rListT : List V → Hp → VK → Prop := fun xs H Q => ∃ l : List Nat, xs = [Tx l] ∧ l.length ≤ 100000 ∧ ∀ p, H p = none → Q (.ref p) (upd H p (.lst (sgV l)))
theorem vals_signs {l : List Nat} {acc : Array Value} (h : ItemsOf (SignAt (S l)) acc (S l).cps.size) : Vals (sgV l) acc.toList := by
  have hsz : acc.size = l.length := by rw [h.1]; simp
  have key : ∀ (l2 : List Nat) (us : List Value), us.length = l2.length → (∀ j, j < l2.length → ∃ c u, l2[j]? = some c ∧ us[j]? = some (.str ⟨#[c]⟩ u)) → Vals (sgV l2) us := by
    intro l2
    induction l2 with
    | nil =>
      intro us hl _
      cases us with
      | nil => exact .nil
      | cons a b => simp at hl
    | cons c l2 ih =>
      intro us hl hj
      cases us with
      | nil => simp at hl
      | cons a b =>
        obtain ⟨c', u, e1, e2⟩ := hj 0 (by simp)
        simp at e1 e2
        subst e1 e2
        refine .cons ⟨u, rfl⟩ (ih b (by simpa using hl) fun j hlt => ?_)
        obtain ⟨c2, u2, e3, e4⟩ := hj (j + 1) (by simp; omega)
        exact ⟨c2, u2, by simpa using e3, by simpa using e4⟩
  refine key l acc.toList (by simpa using hsz) fun j hj => ?_
  have hj2 : j < acc.size := by omega
  obtain ⟨c, u, e1, e2⟩ := h.2 j acc[j] (by simp [hj2])
  refine ⟨c, u, by simpa using e1, ?_⟩
  rw [← e2]
  simp [hj2]
theorem call_listT (hc : X.calm = true) : CallR X (.type "list") rListT := by
  intro pins s σ H xs us Q I r h
  obtain ⟨l, rfl, hl, q⟩ := h
  obtain ⟨u, rfl, t, rfl⟩ := vals1 r
  have hs : (S l).cps.size ≤ sizeLine := by
    have e : (S l).cps.size = l.length := by simp
    rw [e]
    exact Nat.le_trans hl (by decide)
  refine call_list_str (I.ok.hd hc) (S l) t (fun h' tk acc c' kp e it => ?_) hs
  refine ⟨.ref s.heap.objs.size, _, I.laid (t' := tk) kp (Nat.le_refl _) (show ObjOk X.prog X.w _ h' _ (.lst (sgV l)) from ⟨?_, acc.toList, c', vals_signs it, by simpa using e⟩), rfl, q _ (I.hok.fresh (Nat.le_refl _))⟩
  unfold sgV
  rw [List.length_map]
  exact Nat.le_trans hl (by decide)

/-! ### joins of texts -/
def rJoinT (K : PySem.W.Frag) : V → List V → Hp → VK → Prop := fun x xs H Q => ∃ (a : List Nat) (p : Addr) (ps : List (List Nat)), x = Tx a ∧ xs = [.ref p] ∧ SqL K H p (ps.map Tx) ∧ (ps.map (·.length)).sum + ps.length * a.length ≤ 100000 ∧ Q (Tx (TL.joinL a ps)) H
theorem mt_joinT : MtR X "str.join" (rJoinT X.K) := fun pins s σ H x xs v us Q I rx rs h => by
  obtain ⟨a, p, ps, h1, h2, h3, h4, q⟩ := h
  refine mt_join pins s σ H x xs v us Q I rx rs ⟨S a, p, ps.map S, h1, h2, .inl ?_, ?_, ?_⟩
  · rw [List.map_map]
    exact h3
  · rw [lens, List.length_map, S_len]
    exact Nat.le_trans h4 (by decide)
  · rw [join_S]
    exact q

/-! ### text * n -/
end

/-! ### enumerate(text) -/
def IteS (x : Str) : It := ⟨fun i _ => i < x.cps.size, fun i H v H' => ∃ T c, v = .ref T ∧ H T = none ∧ H' = upd H T (.tup [.int (i : Nat), .str ⟨#[c]⟩]) ∧ x.cps[i]? = some c, fun i _ => i = x.cps.size⟩
theorem turn_enumS {P : Program} {w : World} {K : PySem.W.Frag} {elts : List Expr} {kk : Nat} {tpos : Pos} (x : Str) (t : Tok) (e it : Addr) :
    Turn P w K (.Tuple elts kk tpos) (IteS x) [e, it] e (fun i h => (∃ old, IsEnum h e it ((i : Nat) : Int) old) ∧ h.IsStrIter it (strIterType x) x t i ∧ e ≠ it) where
  mem := by simp
  obj := fun i h st b hb => by
    obtain ⟨⟨old, he⟩, ⟨o, ho, hc, hd⟩, _⟩ := st
    have e' : b = e ∨ b = it := by simpa using hb
    rcases e' with z | z
    · rw [z]; exact ⟨_, he, fun v q => nomatch q⟩
    · rw [z]; exact ⟨o, ho, fun v q => by rw [hd] at q; cases q⟩
  keep := fun i h h' st k => let ⟨⟨old, he⟩, ⟨o, ho, r⟩, hne⟩ := st; ⟨⟨old, k e (by simp) _ he⟩, ⟨o, k it (by simp) o ho, r⟩, hne⟩
  item := by
    intro X hP hw hK hc i pins s σ H E I hf st hg
    subst hP hw hK
    obtain ⟨⟨old, he⟩, hit, hne⟩ := st
    have hel : e < s.heap.objs.size := Heap.lt_size he
    have hil : it < s.heap.objs.size := by obtain ⟨_, q, _⟩ := hit; exact Heap.lt_size q
    refine wpAny_pyNext_enum_itemD (Draws.text (A := X.A.in1) (I.ok.hd hc) it x t) he hit hg hne (by simpa using hne) fun u h' tk hP ho hit' hT hsz hk => ?_
    obtain ⟨c, tu, hcx, rfl⟩ := hP
    refine ⟨_, rfl, wpAny_letOwnedTupleGo_enum (s := { s with heap := h', toks := tk + 1 }) ho fun h'' he' sb => ?_⟩
    have hT2 : h''.get? s.heap.objs.size = some { cls := .type "tuple", data := .seq #[.int i tk, .str ⟨#[c]⟩ tu] } := (sb.2 _ (Nat.ne_of_gt hel)).trans hT
    have new : ObjOk X.prog X.w (upd H s.heap.objs.size (.tup [.int (i : Nat), .str ⟨#[c]⟩])) h'' s.heap.objs.size (.tup [.int (i : Nat), .str ⟨#[c]⟩]) :=
      ⟨by show 2 ≤ sizeLine; decide, [.int i tk, .str ⟨#[c]⟩ tu], .cons ⟨_, rfl⟩ (.cons ⟨_, rfl⟩ .nil), ⟨_, hT2, rfl, _, rfl⟩⟩
    have I1 : Inv X pins σ (upd H s.heap.objs.size (.tup [.int (i : Nat), .str ⟨#[c]⟩])) { s with heap := h'', toks := tk + 1 } :=
      I.turnedNew (ch := [e, it]) (fun b ob hb q => (sb.2 b (fun z => hb (by simp [z]))).trans (hk b ob (fun z => hb (by simp [z])) (fun z => hb (by simp [z])) q)) hf (Nat.le_refl _) new
    refine ⟨.ref s.heap.objs.size, _, I1, rfl, ⟨_, c, rfl, I.hok.fresh (Nat.le_refl _), rfl, hcx⟩, ⟨⟨.str ⟨#[c]⟩ tu, ?_⟩, ?_, hne⟩, fun b hb => ?_⟩
    · have e1 : ((i + 1 : Nat) : Int) = (i : Int) + 1 := by omega
      rw [e1]; exact he'
    · obtain ⟨o, ho', r⟩ := hit'
      exact ⟨o, (sb.2 it (Ne.symm hne)).trans ho', r⟩
    · have hb' : b < s.heap.objs.size := by
        have e' : b = e ∨ b = it := by simpa using hb
        rcases e' with z | z
        · rw [z]; exact hel
        · rw [z]; exact hil
      rw [upd_ne (Nat.ne_of_lt hb')]
      exact (hf b hb).1
  done := by
    intro X hP hw hK hc i pins s σ H E I hf st hg
    subst hP hw hK
    obtain ⟨⟨old, he⟩, hit, hne⟩ := st
    obtain ⟨f0, f1, f2, f3, f4, f5⟩ := hf it (by simp)
    have hg2 : i = x.cps.size := hg
    subst hg2
    exact wpAny_pyNext_enum_endD (Draws.text (A := X.A.in1) (I.ok.hd hc) it x t) he hit fun h' eb => ⟨rfl, I.turned (t' := s.toks) (fun b o hb q => eb b o hb q) f0 f1 f3 f4 f5⟩
  self := fun A i s Q E st h => let ⟨⟨_, he⟩, _⟩ := st; wpAny_pyIter_enum he h
def iEnumS (ta : TA) : TI := fun σ H R => ta σ H fun vs H1 => ∃ l : List Nat, vs = [Tx l] ∧ R (IteS (S l)) H1
theorem pi_enumS {X : Cx} {e : Expr} {ta : TA} {p pos tpos : Pos} {elts : List Expr} {kk : Nat} (hg : Gl X "enumerate") (hm : X.mg "enumerate" = none) (ha : PA X [e] ta) (hs : starEach [e] X.env = [(false, eval e X.env)] := by rfl) :
    PI X (.Tuple elts kk tpos) (.Call (.Name "enumerate" p) [e] [] pos) (iEnumS ta) := by
  refine ⟨fun pins s σ H R I h => ?_⟩
  refine Call_ (ld_blt I hg hm boot_enumerate (PyProof.Rows.callWith_type1 (thn (ha.run pos pins s σ H _ I h) fun us s1 ⟨vs, H1, I1, r1, q1⟩ => ?_) hs rfl))
  obtain ⟨l, ex, q⟩ := q1
  subst ex
  obtain ⟨u, rfl, t, rfl⟩ := vals1 r1
  refine call_enumerate_str fun h' he hit hsz hk => wpAny_pyIter_enum he ?_
  have I2 : Inv X pins σ H1 { s1 with heap := h' } := I1.kept (t' := s1.toks) hk
  refine ⟨s1.heap.objs.size + 1, [s1.heap.objs.size + 1, s1.heap.objs.size], _, _, H1, rfl, I2, turn_enumS (S l) t (s1.heap.objs.size + 1) s1.heap.objs.size, ⟨⟨.none, he⟩, hit, Nat.succ_ne_self _⟩, fun b hb => ?_, q⟩
  have e' : b = s1.heap.objs.size + 1 ∨ b = s1.heap.objs.size := by simpa using hb
  have hle : s1.heap.objs.size ≤ b := by
    rcases e' with z | z
    · rw [z]; exact Nat.le_add_right _ _
    · rw [z]; exact Nat.le_refl _
  exact I1.fpOk hle (I1.hok.fresh hle)
theorem walk_enumS {l : List Nat} : Walk (IteS (S l)) l.length (fun _ => True) (fun i H v H' => ∃ T c, v = .ref T ∧ H T = none ∧ H' = upd H T (.tup [.int (i : Nat), Tx [c]]) ∧ l[i]? = some c) :=
  ⟨fun _ _ hi _ => by show _ < (S l).cps.size; simpa using hi, fun _ _ => by show _ = (S l).cps.size; simp, fun i _ _ _ _ _ y => by
    obtain ⟨T, c, h1, h2, h3, h4⟩ := y
    exact ⟨T, c, h1, h2, h3, by simpa using h4⟩⟩
section
variable {K : PySem.W.Frag} {σ : L2.St} {H : Hp} {g : TG} {tb : TS} {D : Ends} {l : List Nat} {xs : List V} {a : Addr}
/-- for i, c in enumerate(text), by what is gone through -/
theorem for_enumS (Pv : List Nat → L2.St → Hp → Prop) (h0 : Pv [] σ H)
    (hs : ∀ pre c post σ H t H1, l = pre ++ c :: post → Pv pre σ H → H t = none → Same H H1 → H1 t = some (.tup [.int pre.length, Tx [c]]) → g (.ref t) σ H1 fun σ2 H2 => tb { D with nx := Pv (pre ++ [c]), ct := Pv (pre ++ [c]), bk := D.nx } σ2 H2) (hd : ∀ σ H, Pv l σ H → D.nx σ H) : ForR (IteS (S l)) g tb D σ H := by
  refine for_it (walk_enumS (l := l)) (fun i σ H => Pv (l.take i) σ H) (by simpa using h0) (fun _ _ _ _ _ => trivial) (fun i v σ H H' hi p y => ?_) (fun σ H p => hd σ H (by simpa using p))
  obtain ⟨t, c, rfl, nt, rfl, e2⟩ := y
  obtain ⟨e, e3⟩ := cut_at e2
  have z := hs (l.take i) c (l.drop (i + 1)) σ H t _ e3 p nt (Same.new nt) (by
    rw [upd_same, List.length_take, Nat.min_eq_left (Nat.le_of_lt hi)])
  rw [← e] at z
  exact z
/-! readings -/
variable {Q : VK} {p : Addr} {m : List Nat} {n : Nat}
theorem g_listT (h : l.length ≤ 100000) (q : ∀ p H1, H p = none → Same H H1 → H1 p = some (.lst (sgV l)) → Q (.ref p) H1) : rListT [Tx l] H Q := ⟨l, rfl, h, g_new q⟩
theorem g_joinT {ps : List (List Nat)} (h : SqL K H p (ps.map Tx)) (hl : (ps.map (·.length)).sum + ps.length * m.length ≤ 100000) (q : Q (Tx (TL.joinL m ps)) H) : rJoinT K (Tx m) [.ref p] H Q := ⟨m, p, ps, rfl, rfl, h, hl, q⟩
theorem joinL_nil : ∀ ps : List (List Nat), TL.joinL [] ps = ps.flatten
  | [] => rfl
  | [p] => by simp [TL.joinL]
  | p :: q :: r => by
    show p ++ ([] ++ TL.joinL [] (q :: r)) = _
    rw [joinL_nil (q :: r)]
    simp
/-- ''.join of signs -/
theorem g_join0 (h : SqL K H p (sgV l)) (hl : l.length ≤ 100000) (q : Q (Tx l) H) : rJoinT K (Tx []) [.ref p] H Q := by
  refine g_joinT (ps := l.map fun c => [c]) ?_ ?_ ?_
  · rw [List.map_map]
    exact h
  · rw [List.map_map]
    have : ((fun x : List Nat => x.length) ∘ fun c : Nat => [c]) = fun _ => 1 := rfl
    rw [this]
    have e : ∀ l : List Nat, (l.map fun _ => 1).sum = l.length := by
      intro l
      induction l with
      | nil => rfl
      | cons c l ih => simp [ih]; omega
    rw [e]
    simpa using hl
  · rw [joinL_nil]
    have : ∀ l : List Nat, (l.map fun c => [c]).flatten = l := by
      intro l
      induction l with
      | nil => rfl
      | cons c l ih => simp [ih]
    rw [this]
    exact q
end

/-! ### an if whose test is told once -/
def tIfC (c : TT) (t u : TS) : TS := tIfS c t u
theorem ps_ifC {X : Cx} {pos : Pos} {c : Expr} {a b : List Stmt} {tc : TT} {t u : TS} (hc : PT X c tc) (ha : PSs X a t) (hb : PSs X b u) : PS X (.If c a b pos) (tIfC tc t u) := ps_if hc ha hb
/-- the test c comes out as b and leaves the heap -/
def Tst (c : TT) (σ : L2.St) (H : Hp) (b : Bool) : Prop := ∀ Q : Bool → Hp → Prop, Q b H → c σ H Q
theorem g_ifC {c : TT} {t u : TS} {D : Ends} {σ : L2.St} {H : Hp} {b : Bool} (hA : Tst c σ H b) (h1 : b = true → t D σ H) (h2 : b = false → u D σ H) : tIfC c t u D σ H := by
  refine hA _ ?_
  cases b with
  | true => exact h1 rfl
  | false => exact h2 rfl
/-- the test changes the heap as G says -/
def TstH (c : TT) (σ : L2.St) (H : Hp) (b : Bool) (G : Hp → Prop) : Prop := ∀ Q : Bool → Hp → Prop, (∀ H1, G H1 → Q b H1) → c σ H Q
theorem g_ifH {c : TT} {t u : TS} {D : Ends} {σ : L2.St} {H : Hp} {b : Bool} {G : Hp → Prop} (hA : TstH c σ H b G) (h1 : ∀ H1, G H1 → b = true → t D σ H1) (h2 : ∀ H1, G H1 → b = false → u D σ H1) : tIfC c t u D σ H := by
  refine hA _ fun H1 g => ?_
  cases b with
  | true => exact h1 H1 g rfl
  | false => exact h2 H1 g rfl
/-! ### while -/
section
variable {c : TT} {tb : TS} {D : Ends} {σ : L2.St} {H : Hp}
def WhB (tb : TS) (D : Ends) (W : Nat → L2.St → Hp → Prop) (m : Nat) (σ : L2.St) (H : Hp) : Prop := ∃ N : L2.St → Hp → Prop, (∀ σ' H', N σ' H' → ∃ m', m' < m ∧ W m' σ' H') ∧ tb { D with nx := N, ct := N, bk := D.nx } σ H
theorem g_while (W : Nat → L2.St → Hp → Prop) (m : Nat) (h0 : W m σ H) (hs : ∀ m σ H, W m σ H → c σ H fun b H1 => if b = true then WhB tb D W m σ H1 else D.nx σ H1) : tWhile c tb D σ H := ⟨W, ⟨m, h0⟩, hs⟩
theorem g_whb {W : Nat → L2.St → Hp → Prop} {m : Nat} (q : tb { D with nx := fun σ' H' => ∃ m', m' < m ∧ W m' σ' H', ct := fun σ' H' => ∃ m', m' < m ∧ W m' σ' H', bk := D.nx } σ H) : WhB tb D W m σ H := ⟨_, fun _ _ h => h, q⟩
end
/-! ### data: == and != -/
def txD (l : List Nat) : PyData := .str (S l)
section
variable {K : PySem.W.Frag} {H : Hp} {Q : VK} {p a : Addr} {X : Cx}
theorem dp_txs : ∀ ps : List (List Nat), DpAll K H (ps.map Tx) (ps.map txD)
  | [] => .nil
  | l :: ps => .cons (.str _) (dp_txs ps)
theorem can_tx {l : List Nat} (h : ∀ c ∈ l, c < 1114112) : PyData.canLay0 (txD l) = true := by
  show PyData.strOk (S l) = true
  unfold PyData.strOk
  rw [← Array.all_toList]
  exact List.all_eq_true.mpr fun c hc => decide_eq_true (h c hc)
theorem can_txs : ∀ ps : List (List Nat), (∀ l ∈ ps, ∀ c ∈ l, c < 1114112) → PyData.canLayAll0 (ps.map txD) = true
  | [], _ => rfl
  | l :: ps, h => by
    show (PyData.canLay0 (txD l) && PyData.canLayAll0 (ps.map txD)) = true
    rw [can_tx (h l (List.mem_cons_self ..)), can_txs ps fun m hm => h m (List.mem_cons_of_mem _ hm)]
    rfl
theorem depth_txs : ∀ ps : List (List Nat), PyData.depthAll (ps.map txD) = 0
  | [] => rfl
  | l :: ps => by
    show max 0 (PyData.depthAll (ps.map txD)) = 0
    rw [depth_txs ps]
    rfl
theorem shaped_txs {ps : List (List Nat)} (h : ∀ l ∈ ps, ∀ c ∈ l, c < 1114112) : SeqAt.shaped (.list (ps.map txD)) = true := by
  unfold SeqAt.shaped
  rw [show PyData.canLay0 (.list (ps.map txD)) = PyData.canLayAll0 (ps.map txD) from rfl, can_txs ps h, show PyData.depth (.list (ps.map txD)) = PyData.depthAll (ps.map txD) + 1 from rfl, depth_txs]
  rfl
theorem g_neNilT {ps : List (List Nat)} (h : SqL K H p (ps.map Tx)) (hc : ∀ l ∈ ps, ∀ c ∈ l, c < 1114112) (h2 : SqL K H a []) (q : Q (.bl (!decide (ps = []))) H) : rNeD K (.ref p) (.ref a) H Q := by
  refine ⟨.list (ps.map txD), .list [], .lst h (dp_txs ps), .lst h2 .nil, shaped_txs hc, rfl, ?_⟩
  have e : PyData.eqv (.list (ps.map txD)) (.list []) = decide (ps = []) := by
    cases ps with
    | nil => rfl
    | cons l ps => rfl
  rw [e]
  exact q
theorem sgV_eq (l : List Nat) : sgV l = (l.map fun c => [c]).map Tx := by
  unfold sgV
  rw [List.map_map]
  rfl
/-- a list of signs against [] -/
theorem g_neNilS {l : List Nat} (h : SqL K H p (sgV l)) (hc : ∀ c ∈ l, c < 1114112) (h2 : SqL K H a []) (q : Q (.bl (!decide (l = []))) H) : rNeD K (.ref p) (.ref a) H Q := by
  rw [sgV_eq] at h
  refine g_neNilT h (fun m hm c hcm => ?_) h2 ?_
  · obtain ⟨d, hd, rfl⟩ := List.mem_map.mp hm
    rw [List.mem_singleton] at hcm
    subst hcm
    exact hc _ hd
  · have e : ((l.map fun c => [c]) = []) ↔ l = [] := by simp
    rw [decide_eq_decide.mpr e]
    exact q
end
theorem sgV_snoc (l : List Nat) (c : Nat) : sgV (l ++ [c]) = sgV l ++ [Tx [c]] := by
  unfold sgV
  rw [List.map_append]
  rfl
theorem sgV_rev (l : List Nat) : (sgV l).reverse = sgV l.reverse := by
  unfold sgV
  rw [List.map_reverse]
theorem sgV_len (l : List Nat) : (sgV l).length = l.length := by
  unfold sgV
  rw [List.length_map]

section
variable {K : PySem.W.Frag} {H : Hp} {Q : VK} {p a : Addr} {xs : List V} {v : V} {i : Nat}
theorem g_isi {x : V} {t u : String} {b : Bool} (ty : TyX K H x (.type t)) (h : kitB t u = some b) (q : Q (.bl b) H) : rIsi K [x, .ty u] H Q := ⟨x, .ty u, .type t, .type u, b, rfl, .ty u, ty, kit_ty h, q⟩
theorem ty_str {x : Str} : TyX K H (.str x) (.type "str") := .base (.str x)
theorem ty_int {n : Int} : TyX K H (.int n) (.type "int") := .base (.int n)
theorem ty_bl {b : Bool} : TyX K H (.bl b) (.type "bool") := .base (.bl b)
theorem ty_lst (h : H p = some (.lst xs)) : TyX K H (.ref p) (.type "list") := .base (.lst h)
theorem ty_tup (h : H p = some (.tup xs)) : TyX K H (.ref p) (.type "tuple") := .base (.tup h)
theorem cut_ints (ns : List Int) (lo hi : Option Int) : ∃ ms : List Int, cutV (ns.map V.int) lo hi = ms.map V.int ∧ ms.length ≤ ns.length := by
  unfold cutV
  refine ⟨(ns.drop (HT.sIx (ns.map V.int).length 0 lo)).take (HT.sIx (ns.map V.int).length (ns.map V.int).length hi - HT.sIx (ns.map V.int).length 0 lo), ?_, ?_⟩
  · rw [List.map_take, List.map_drop]
  · rw [List.length_take, List.length_drop]
    omega
theorem mid_at {α : Type} {xs pre post : List α} {x : α} (e : xs = pre ++ x :: post) : xs[pre.length]? = some x := by
  rw [e]
  simp
end
end Ly

set_option maxHeartbeats 4000000
namespace Ly
open PySem PySem.Spec PyProof.Rows L2 SX
/-! ### zip(text, list) -/
def ItzS (K : PySem.W.Frag) (x : Str) (b : Addr) : It :=
  ⟨fun i H => ∃ (ys : List V) (y : V), i < x.cps.size ∧ SqL K H b ys ∧ ys[i]? = some y,
    fun i H v H' => ∃ T c y, v = .ref T ∧ H T = none ∧ H' = upd H T (.tup [.str ⟨#[c]⟩, y]) ∧ x.cps[i]? = some c ∧ ∀ ys, SqL K H b ys → ys[i]? = some y,
    fun i H => ∃ ys : List V, SqL K H b ys ∧ (i = x.cps.size ∨ i = ys.length) ∧ i ≤ x.cps.size ∧ i ≤ ys.length⟩
theorem turn_zipS {P : Program} {w : World} {K : PySem.W.Frag} {elts : List Expr} {kk : Nat} {tpos : Pos} {x : Str} {t : Tok} {b z TI TO i1 i2 : Addr} (D : ZipSep2 z TI TO i1 i2 [i1] [i2, b]) (hb : b ≠ i2) :
    Turn P w K (.Tuple elts kk tpos) (ItzS K x b) [z, TI, TO, i1, i2] z (fun i h => IsZip h z TI TO .none ∧ IsTupOf2 h TI (.ref i1) (.ref i2) ∧ (∃ x y, IsTupOf2 h TO x y) ∧ h.IsStrIter i1 (strIterType x) x t i ∧ h.IsListIter i2 b i) where
  mem := by simp
  obj := fun i h st c hc => by
    obtain ⟨hz, hTI, ⟨x, y, hTO⟩, ⟨o1, e1, _, d1⟩, ⟨o2, e2, _, d2⟩⟩ := st
    have e' : c = z ∨ c = TI ∨ c = TO ∨ c = i1 ∨ c = i2 := by simpa using hc
    rcases e' with q | q | q | q | q
    · rw [q]; exact ⟨_, hz, fun v q => nomatch q⟩
    · rw [q]; exact ⟨_, hTI, fun v q => nomatch q⟩
    · rw [q]; exact ⟨_, hTO, fun v q => nomatch q⟩
    · rw [q]; exact ⟨o1, e1, fun v q => by rw [d1] at q; cases q⟩
    · rw [q]; exact ⟨o2, e2, fun v q => by rw [d2] at q; cases q⟩
  keep := fun i h h' st k => by
    obtain ⟨hz, hTI, ⟨x, y, hTO⟩, ⟨o1, e1, r1⟩, h2⟩ := st
    exact ⟨k z (by simp) _ hz, k TI (by simp) _ hTI, ⟨x, y, k TO (by simp) _ hTO⟩, ⟨o1, k i1 (by simp) o1 e1, r1⟩, h2.at fun o q => k i2 (by simp) o q⟩
  item := by
    intro X hP hw hK hc i pins s σ H E I hf st hg
    subst hP hw hK
    obtain ⟨hz, hTI, ⟨x0, y0, hTO⟩, h1, h2⟩ := st
    obtain ⟨ys, y, hlt, hqy, hy⟩ := hg
    obtain ⟨its2, rv2, p2, _⟩ := I.list hqy
    obtain ⟨u2, hu2, ru2⟩ := rv2.get hy
    have hzl : z < s.heap.objs.size := Heap.lt_size hz
    have hi2 : i < its2.toArray.size := by
      obtain ⟨h, _⟩ := List.getElem?_eq_some_iff.mp hu2
      simpa using h
    refine wpAny_pyNext_zipD2_item D (Draws.text (A := X.A.in1) (I.ok.hd hc) i1 x t) (Draws.list (A := X.A.in1) (I.ok.hd hc) i2 b hb its2.toArray) hz hTI hTO h1 ⟨h2, p2.isList⟩ hlt hi2 fun x1 x2 h' tk hP1 hP2 z' TO' h1' h2' hT hsz hk => ?_
    obtain ⟨c, tu, hcx, rfl⟩ := hP1
    have ex2 : x2 = u2 := by
      have e : its2.toArray[i]? = some u2 := by simpa using hu2
      rw [e] at hP2
      exact (Option.some.inj hP2).symm
    subst ex2
    refine ⟨_, rfl, wpAny_letOwnedTupleGo_zip (s := { s with heap := h', toks := tk }) z' fun h'' z'' sb => ?_⟩
    have hT2 : h''.get? s.heap.objs.size = some { cls := .type "tuple", data := .seq #[.str ⟨#[c]⟩ tu, x2] } := (sb.2 _ (Nat.ne_of_gt hzl)).trans hT
    have new : ObjOk X.prog X.w (upd H s.heap.objs.size (.tup [.str ⟨#[c]⟩, y])) h'' s.heap.objs.size (.tup [.str ⟨#[c]⟩, y]) :=
      ⟨by show 2 ≤ sizeLine; decide, [.str ⟨#[c]⟩ tu, x2], .cons ⟨_, rfl⟩ (.cons ru2 .nil), ⟨_, hT2, rfl, _, rfl⟩⟩
    have I1 : Inv X pins σ (upd H s.heap.objs.size (.tup [.str ⟨#[c]⟩, y])) { s with heap := h'', toks := tk } :=
      I.turnedNew (ch := [z, TI, TO, i1, i2]) (fun c o hb q => (sb.2 c (fun q' => hb (by simp [q']))).trans (hk c o (fun q' => hb (by simp [q'])) (fun q' => hb (by simp [q'])) (fun q' => hb (by simp [q'])) (fun q' => hb (by simp [q'])) q)) hf (Nat.le_refl _) new
    refine ⟨.ref s.heap.objs.size, _, I1, rfl, ⟨_, c, y, rfl, I.hok.fresh (Nat.le_refl _), rfl, hcx, fun l hl => by rw [I.list_inj hl hqy]; exact hy⟩, ⟨z'', ?_, ⟨.str ⟨#[c]⟩ tu, x2, ?_⟩, ?_, ?_⟩, fun c hcm => ?_⟩
    · exact (sb.2 _ D.TIz).trans (hk _ _ D.TIz D.TITO D.TIi1 D.TIi2 hTI)
    · exact (sb.2 _ D.TOz).trans TO'
    · obtain ⟨o, ho', r⟩ := h1'
      exact ⟨o, (sb.2 _ (Ne.symm D.zi1)).trans ho', r⟩
    · exact h2'.1.at fun o q => (sb.2 _ (Ne.symm D.zi2)).trans q
    · have hlt : c < s.heap.objs.size := by
        have e' : c = z ∨ c = TI ∨ c = TO ∨ c = i1 ∨ c = i2 := by simpa using hcm
        rcases e' with q | q | q | q | q
        · rw [q]; exact hzl
        · rw [q]; exact Heap.lt_size hTI
        · rw [q]; exact Heap.lt_size hTO
        · rw [q]; obtain ⟨_, e1, _⟩ := h1; exact Heap.lt_size e1
        · rw [q]; obtain ⟨_, e2, _⟩ := h2; exact Heap.lt_size e2
      rw [upd_ne (Nat.ne_of_lt hlt)]
      exact (hf c hcm).1
  done := by
    intro X hP hw hK hc i pins s σ H E I hf st hg
    subst hP hw hK
    obtain ⟨hz, hTI, ⟨x0, y0, hTO⟩, h1, h2⟩ := st
    obtain ⟨ys, hqy, hend, l1, l2⟩ := hg
    obtain ⟨its2, rv2, p2, _⟩ := I.list hqy
    have ll := rv2.length
    exact wpAny_pyNext_zipD2_end D (Draws.text (A := X.A.in1) (I.ok.hd hc) i1 x t) (Draws.list (A := X.A.in1) (I.ok.hd hc) i2 b hb its2.toArray) hz hTI hTO h1 ⟨h2, p2.isList⟩ l1 (by simp; omega) (by simp; omega)
      fun h' tk hk => ⟨rfl, I.turnedL (t' := tk) (ch := [z, TI, TO, i1, i2]) (fun c o hb q =>
        hk c o (fun q' => hb (by simp [q'])) (fun q' => hb (by simp [q'])) (fun q' => hb (by simp [q'])) (fun q' => hb (by simp [q'])) q) hf⟩
  self := fun A i s Q E st h => wpAny_pyIter_zip st.1 h
def iZipS (K : PySem.W.Frag) (ta : TA) : TI := fun σ H R => ta σ H fun vs H1 => ∃ (l : List Nat) (b : Addr) (ys : List V), vs = [Tx l, .ref b] ∧ SqL K H1 b ys ∧ R (ItzS K (S l) b) H1
theorem pi_zipS {X : Cx} {e e2 : Expr} {ta : TA} {p pos tpos : Pos} {elts : List Expr} {kk : Nat} (hg : Gl X "zip") (hm : X.mg "zip" = none) (ha : PA X [e, e2] ta)
    (hs : starEach [e, e2] X.env = (false, eval e X.env) :: starEach [e2] X.env := by rfl) (hpl : (backTo pos (starEach [e2] X.env)).any (·.1) = false := by rfl) :
    PI X (.Tuple elts kk tpos) (.Call (.Name "zip" p) [e, e2] [] pos) (iZipS X.K ta) := by
  refine ⟨fun pins s σ H R I h => ?_⟩
  refine Call_ (ld_blt I hg hm PyProof.Rows.boot_zip (PyProof.Rows.callWith_type1 (thn (ha.run pos pins s σ H _ I h) fun us s1 ⟨vs, H1, I1, r1, q1⟩ => ?_) hs hpl))
  obtain ⟨l, b, ys, ex, hqy, q⟩ := q1
  subst ex
  obtain ⟨u1, u2, rfl, ⟨t, rfl⟩, r2⟩ := vals2 r1
  cases r2
  obtain ⟨its2, rv2, p2, _⟩ := I1.list hqy
  have lb : b < s1.heap.objs.size := p2.lt
  refine zip_begins2 (begins_text (S l) t) (begins_list b its2.toArray) trivial p2.isList fun h' hz hTI hTO h1 h2 hsz hk => wpAny_pyIter_zip hz ?_
  have I2 : Inv X pins σ H1 { s1 with heap := h' } := I1.kept (t' := s1.toks) hk
  refine ⟨s1.heap.objs.size + 4, [s1.heap.objs.size + 4, s1.heap.objs.size + 2, s1.heap.objs.size + 3, s1.heap.objs.size, s1.heap.objs.size + 1], _, _, H1, rfl, I2,
    turn_zipS (x := S l) (t := t) (b := b) (zip_sep2 (N := s1.heap.objs.size) (fp1 := []) (fp2 := [b]) (by simp) (by simpa using lb)) (Nat.ne_of_lt (Nat.lt_succ_of_lt lb)), ⟨hz, hTI, ⟨_, _, hTO⟩, ⟨_, h1, rfl, rfl⟩, ⟨_, h2, rfl, rfl⟩⟩, fun c hcm => ?_, q⟩
  have e' : c = s1.heap.objs.size + 4 ∨ c = s1.heap.objs.size + 2 ∨ c = s1.heap.objs.size + 3 ∨ c = s1.heap.objs.size ∨ c = s1.heap.objs.size + 1 := by simpa using hcm
  have hle : s1.heap.objs.size ≤ c := by
    rcases e' with z | z | z | z | z
    · rw [z]; exact Nat.le_add_right _ _
    · rw [z]; exact Nat.le_add_right _ _
    · rw [z]; exact Nat.le_add_right _ _
    · rw [z]; exact Nat.le_refl _
    · rw [z]; exact Nat.le_add_right _ _
  exact I1.fpOk hle (I1.hok.fresh hle)
theorem walk_zipS {K : PySem.W.Frag} {l : List Nat} {b : Addr} {ys : List V} (hl : l.length = ys.length) : Walk (ItzS K (S l) b) l.length (fun H => SqL K H b ys) (fun i H v H' => ∃ T c y, v = .ref T ∧ H T = none ∧ H' = upd H T (.tup [Tx [c], y]) ∧ l[i]? = some c ∧ ys[i]? = some y) := by
  have sz : (S l).cps.size = l.length := by simp
  refine ⟨fun i H hi g => ⟨ys, ys[i]'(by omega), by rw [sz]; exact hi, g, by simp [show i < ys.length by omega]⟩, fun H g => ⟨ys, g, .inl sz.symm, by rw [sz]; exact Nat.le_refl _, by omega⟩, fun i H v H' hi g y => ?_⟩
  obtain ⟨T, c, y, h1, h2, h3, h4, h5⟩ := y
  exact ⟨T, c, y, h1, h2, h3, by simpa using h4, h5 ys g⟩

/-! ### flat data -/
def Flat (v : V) : Prop := ∃ d : PyData, (∀ K H, Dp K H v d) ∧ d.canLay0 = true ∧ d.depth = 0
theorem flat_int (i : Int) : Flat (.int i) := ⟨.int i, fun _ _ => .int i, rfl, rfl⟩
theorem flat_all {xs : List V} (h : ∀ v ∈ xs, Flat v) : ∃ ds : List PyData, ds.length = xs.length ∧ (∀ K H, DpAll K H xs ds) ∧ PyData.canLayAll0 ds = true ∧ PyData.depthAll ds = 0 := by
  induction xs with
  | nil => exact ⟨[], rfl, fun _ _ => .nil, rfl, rfl⟩
  | cons v xs ih =>
    obtain ⟨d, h1, h2, h3⟩ := h v (List.mem_cons_self ..)
    obtain ⟨ds, hl, h4, h5, h6⟩ := ih fun x hx => h x (List.mem_cons_of_mem _ hx)
    refine ⟨d :: ds, by simp [hl], fun K H => .cons (h1 K H) (h4 K H), ?_, ?_⟩
    · show (d.canLay0 && PyData.canLayAll0 ds) = true
      rw [h2, h5]
      rfl
    · show max d.depth (PyData.depthAll ds) = 0
      rw [h3, h6]
      rfl
section
variable {K : PySem.W.Frag} {H : Hp} {Q : VK} {p a : Addr} {xs : List V}
theorem nil_eqv {ds : List PyData} : PyData.eqv (.list ds) (.list []) = ds.isEmpty := by cases ds <;> rfl
theorem g_neNil (h : SqL K H p xs) (hf : ∀ v ∈ xs, Flat v) (h2 : SqL K H a []) (q : Q (.bl (!xs.isEmpty)) H) : rNeD K (.ref p) (.ref a) H Q := by
  obtain ⟨ds, hl, h4, h5, h6⟩ := flat_all hf
  refine ⟨.list ds, .list [], .lst h (h4 K H), .lst h2 .nil, ?_, rfl, ?_⟩
  · unfold SeqAt.shaped
    rw [show PyData.canLay0 (.list ds) = PyData.canLayAll0 ds from rfl, h5, show PyData.depth (.list ds) = PyData.depthAll ds + 1 from rfl, h6]
    rfl
  · have e : ds.isEmpty = xs.isEmpty := by
      cases ds <;> cases xs <;> simp at hl ⊢
    rw [nil_eqv, e]
    exact q
theorem g_eqNil (h : SqL K H p xs) (hf : ∀ v ∈ xs, Flat v) (h2 : SqL K H a []) (q : Q (.bl xs.isEmpty) H) : rEqD K (.ref p) (.ref a) H Q := by
  obtain ⟨ds, hl, h4, h5, h6⟩ := flat_all hf
  refine ⟨.list ds, .list [], .lst h (h4 K H), .lst h2 .nil, ?_, rfl, ?_⟩
  · unfold SeqAt.shaped
    rw [show PyData.canLay0 (.list ds) = PyData.canLayAll0 ds from rfl, h5, show PyData.depth (.list ds) = PyData.depthAll ds + 1 from rfl, h6]
    rfl
  · have e : ds.isEmpty = xs.isEmpty := by
      cases ds <;> cases xs <;> simp at hl ⊢
    rw [nil_eqv, e]
    exact q
theorem g_rep {n : Nat} (h : H p = some (.lst xs)) (hl : xs.length * n ≤ 100000) (hn : n ≤ 100000) (q : ∀ p H1, H p = none → Same H H1 → H1 p = some (.lst (List.replicate n xs).flatten) → Q (.ref p) H1) : rRep (.ref p) (.int (n : Int)) H Q := by
  refine ⟨p, n, xs, rfl, rfl, h, by omega, by omega, Nat.le_trans (by rw [Int.toNat_natCast]; exact hl) (by decide), ?_⟩
  rw [Int.toNat_natCast]
  exact g_new q
end

/-! ### downward ranges -/
section
variable {σ : L2.St} {H : Hp} {g : TG} {tb : TS} {D : Ends} {n : Nat}
end
/-! ### a promise that nobody asks -/
theorem cal_false {P : Program} {w : World} {K : PySem.W.Frag} {mg : Str → Option Value} {base : Heap} {x : Str} {st : Stmt} {N ps : List Str} {k : Nat} {sp : Sp} (D : DefAt K mg x st ps) (S : FnScope N ps (defScope st)) (hf : ∀ vs H Q E, ¬ sp vs H Q E) : C8.Cal P w K mg base (k + 1) x sp [] :=
  calD D S (fun vs H Q E h => (hf vs H Q E h).elim) (fun _ _ _ _ _ H vs Q E _ h => (hf vs H Q E h).elim)
end Ly

set_option maxHeartbeats 4000000
namespace Ly
/-! ### stretches, partners -/
/-- the signs from a on and below b -/
def seg (l : List Nat) (a b : Nat) : List Nat := (l.take b).drop a
theorem seg_snoc {l : List Nat} {a n : Nat} (h : a ≤ n) (hn : n < l.length) : seg l a (n + 1) = seg l a n ++ [l[n]] := by
  unfold seg
  rw [List.take_succ_eq_append_getElem hn, List.drop_append_of_le_length (by rw [List.length_take]; omega)]
theorem seg_self {l : List Nat} {a : Nat} : seg l a a = [] := by
  unfold seg
  exact List.drop_eq_nil_of_le (by rw [List.length_take]; omega)
theorem seg_app {l : List Nat} {a b c : Nat} (h1 : a ≤ b) (h2 : b ≤ c) (h3 : b ≤ l.length) : seg l a c = seg l a b ++ seg l b c := by
  unfold seg
  have e : (l.take c).drop a = ((l.take c).take b ++ (l.take c).drop b).drop a := by rw [List.take_append_drop]
  rw [e, List.take_take, Nat.min_eq_left h2, List.drop_append_of_le_length (by rw [List.length_take]; omega)]
theorem seg_len {l : List Nat} {a b : Nat} (h : b ≤ l.length) : (seg l a b).length = b - a := by
  unfold seg
  rw [List.length_drop, List.length_take]
  omega
theorem seg_all {l : List Nat} : seg l 0 l.length = l := by
  unfold seg
  rw [List.take_length, List.drop_zero]
/-- i an opening bracket, j its partner -/
def ptn (l : List Nat) (i j : Nat) : Prop := i < j ∧ ∃ c, l[i]? = some c ∧ c ∈ OPN ∧ l[j]? = some (oth c) ∧ clean (seg l (i + 1) j)
/-! the pile from any begin -/
theorem fold_none : ∀ l : List Nat, l.foldl stp none = none
  | [] => rfl
  | c :: l => by
    rw [List.foldl_cons]
    exact fold_none l
/-- what lies deeper in the pile stays -/
theorem fold_deep : ∀ (l : List Nat) (st r : List Nat) (t : List Nat), l.foldl stp (some st) = some r → l.foldl stp (some (st ++ t)) = some (r ++ t)
  | [], st, r, t, h => by
    cases h
    rfl
  | c :: l, st, r, t, h => by
    rw [List.foldl_cons] at h ⊢
    by_cases h1 : c ∈ OPN
    · rw [stp_opn h1] at h ⊢
      exact fold_deep l (oth c :: st) r t h
    · by_cases h2 : c ∈ CLO
      · cases st with
        | nil =>
          have e : stp (some []) c = none := by unfold stp; simp only [h1, h2, if_true, if_false]
          rw [e, fold_none] at h
          cases h
        | cons d st =>
          by_cases hd : d = c
          · subst hd
            rw [stp_clo h2] at h
            rw [List.cons_append, stp_clo h2]
            exact fold_deep l st r t h
          · have e : stp (some (d :: st)) c = none := by unfold stp; simp only [h1, h2, hd, if_true, if_false]
            rw [e, fold_none] at h
            cases h
      · rw [stp_let h1 h2] at h ⊢
        exact fold_deep l st r t h
theorem run_clean_app {a b : List Nat} (h : clean a) : run (a ++ b) = run b := by
  rw [run_app, h]
  rfl
theorem fold_run {l : List Nat} {st r : List Nat} (h : run l = some r) : l.foldl stp (some st) = some (r ++ st) := by
  have := fold_deep l [] r st h
  simpa using this
/-- a clean text leaves each pile -/
theorem fold_clean {l : List Nat} (h : clean l) (st : Option (List Nat)) : l.foldl stp st = st := by
  cases st with
  | none => exact fold_none l
  | some st => simpa using fold_run (st := st) h
theorem clean_app {a b : List Nat} (h1 : clean a) (h2 : clean b) : clean (a ++ b) := by
  unfold clean
  rw [run_clean_app h1]
  exact h2
theorem clean_nil : clean [] := rfl
theorem clean_pair {c : Nat} {a : List Nat} (hc : c ∈ OPN) (h : clean a) : clean (c :: (a ++ [oth c])) := by
  show (c :: (a ++ [oth c])).foldl stp (some []) = some []
  rw [List.foldl_cons, stp_opn hc, List.foldl_append, fold_clean h]
  exact stp_clo (oth_clo c hc)
/-! ### the program's way -/
def pstep (l : List Nat) (s : List (Option Nat) × List Nat) (i c : Nat) : List (Option Nat) × List Nat :=
  if c ∈ OPN then (s.1, i :: s.2) else if c ∈ CLO then (match s.2 with
    | j :: w => if l[j]? = some (oth c) then ((s.1.set i (some j)).set j (some i), w) else (s.1, [])
    | [] => (s.1, [])) else s
def pst (l pre : List Nat) : List (Option Nat) × List Nat := pre.zipIdx.foldl (fun s ci => pstep l s ci.2 ci.1) (List.replicate l.length none, [])
theorem pst_snoc (l pre : List Nat) (c : Nat) : pst l (pre ++ [c]) = pstep l (pst l pre) pre.length c := by
  unfold pst
  rw [List.zipIdx_append, List.foldl_append]
  simp
def mates (l : List Nat) : List (Option Nat) := (pst l l).1
/-- what holds of both lists when the signs below n are gone over -/
structure PInv (l : List Nat) (n : Nat) (f : List (Option Nat)) (ws : List Nat) : Prop where
  len : f.length = l.length
  fnd : ∀ i j, f[i]? = some (some j) ↔ (ptn l i j ∧ j < n) ∨ (ptn l j i ∧ i < n)
  opn : ∀ j ∈ ws, j < n ∧ ∃ c, l[j]? = some c ∧ c ∈ OPN
  pile : ∀ k j, ws[k]? = some j → run (seg l (j + 1) n) = some ((ws.take k).map fun j => oth (l.getD j 0))
  all : ∀ i c, i < n → l[i]? = some c → c ∈ OPN → (run (seg l (i + 1) n)).isSome = true → i ∈ ws
  good : ∀ st, run (l.take n) = some st → ws.map (fun j => oth (l.getD j 0)) = st ∧ ∀ i c, i < n → l[i]? = some c → c ∈ BRK → f[i]? = some none → i ∈ ws
  bad : run (l.take n) = none → ∃ i c, i < n ∧ l[i]? = some c ∧ c ∈ CLO ∧ ∀ j, ¬ ptn l j i
theorem getD_of {l : List Nat} {j c : Nat} (h : l[j]? = some c) : l.getD j 0 = c := by
  rw [List.getD_eq_getElem?_getD, h]
  rfl
theorem ptn_lt {l : List Nat} {i j : Nat} (h : ptn l i j) : j < l.length := by
  obtain ⟨_, c, _, _, h2, _⟩ := h
  exact (List.getElem?_eq_some_iff.mp h2).1
theorem seg_run_snoc {l : List Nat} {a n c : Nat} (h : a ≤ n) (hc : l[n]? = some c) : run (seg l a (n + 1)) = stp (run (seg l a n)) c := by
  obtain ⟨hn, e⟩ := List.getElem?_eq_some_iff.mp hc
  rw [seg_snoc h hn, e, run_snoc]
theorem take_run_snoc {l : List Nat} {n c : Nat} (hc : l[n]? = some c) : run (l.take (n + 1)) = stp (run (l.take n)) c := by
  obtain ⟨hn, e⟩ := List.getElem?_eq_some_iff.mp hc
  rw [List.take_succ_eq_append_getElem hn, e, run_snoc]
/-- one closing bracket closes at most the last that waits -/
theorem PInv.top {l : List Nat} {n c : Nat} {f : List (Option Nat)} {ws : List Nat} (I : PInv l n f ws) (hc : l[n]? = some c) (h2 : c ∈ CLO) {i : Nat} (h : ptn l i n) : ∃ w, ws = i :: w ∧ l[i]? = some (oth c) := by
  obtain ⟨hlt, d, hd, hdo, hnd, hcl⟩ := h
  rw [hnd] at hc
  have ed : oth d = c := Option.some.inj hc
  have hi : i ∈ ws := I.all i d hlt hd hdo (by rw [hcl]; rfl)
  obtain ⟨k, hk⟩ := List.mem_iff_getElem?.mp hi
  have hp := I.pile k i hk
  rw [hcl] at hp
  have hk0 : ws.take k = [] := by
    have := Option.some.inj hp
    exact List.map_eq_nil_iff.mp this.symm
  have hk00 : k = 0 := by
    rcases Nat.eq_zero_or_pos k with h | h
    · exact h
    · exfalso
      have hlen : k < ws.length := (List.getElem?_eq_some_iff.mp hk).1
      have := congrArg List.length hk0
      rw [List.length_take, List.length_nil] at this
      omega
  subst hk00
  cases ws with
  | nil => cases hk
  | cons a w =>
    have : a = i := Option.some.inj hk
    subst this
    refine ⟨w, rfl, ?_⟩
    rw [hd, ← ed, oth_oth d (brk_or.mpr (.inl hdo))]
theorem pinv_step {l : List Nat} {n c : Nat} {f : List (Option Nat)} {ws : List Nat} (I : PInv l n f ws) (hc : l[n]? = some c) : PInv l (n + 1) (pstep l (f, ws) n c).1 (pstep l (f, ws) n c).2 := by
  have hn : n < l.length := (List.getElem?_eq_some_iff.mp hc).1
  by_cases h1 : c ∈ OPN
  · -- an opening bracket waits
    have e : pstep l (f, ws) n c = (f, n :: ws) := by unfold pstep; simp only [h1, if_true]
    rw [e]
    have hnc : c ∉ CLO := opn_clo c h1
    refine ⟨I.len, fun i j => ?_, fun j hj => ?_, fun k j hk => ?_, fun i d hi hd hdo hs => ?_, fun st hst => ?_, fun hb => ?_⟩
    · rw [I.fnd i j]
      have key : ∀ i, ¬ ptn l i n := by
        rintro i ⟨_, d, _, hdo, hnd, _⟩
        rw [hnd] at hc
        have : oth d = c := Option.some.inj hc
        exact hnc (this ▸ oth_clo d hdo)
      constructor
      · rintro (⟨p, h⟩ | ⟨p, h⟩)
        · exact .inl ⟨p, by omega⟩
        · exact .inr ⟨p, by omega⟩
      · rintro (⟨p, h⟩ | ⟨p, h⟩)
        · refine .inl ⟨p, ?_⟩
          rcases Nat.lt_or_ge j n with h' | h'
          · exact h'
          · have : j = n := by omega
            subst this
            exact absurd p (key i)
        · refine .inr ⟨p, ?_⟩
          rcases Nat.lt_or_ge i n with h' | h'
          · exact h'
          · have : i = n := by omega
            subst this
            exact absurd p (key j)
    · rcases List.mem_cons.mp hj with rfl | hj
      · exact ⟨by omega, c, hc, h1⟩
      · obtain ⟨a, b⟩ := I.opn j hj
        exact ⟨by omega, b⟩
    · cases k with
      | zero =>
        have : n = j := Option.some.inj hk
        subst this
        rw [seg_self]
        rfl
      | succ k =>
        have hk' : ws[k]? = some j := hk
        have hj := (I.opn j (List.mem_of_getElem? hk')).1
        rw [seg_run_snoc (by omega) hc, I.pile k j hk', stp_opn h1]
        show some (oth c :: _) = some (oth (l.getD n 0) :: _)
        rw [getD_of hc]
    · rcases Nat.lt_or_ge i n with h' | h'
      · refine List.mem_cons_of_mem _ (I.all i d h' hd hdo ?_)
        rw [seg_run_snoc (by omega) hc] at hs
        cases hr : run (seg l (i + 1) n) with
        | none => rw [hr] at hs; cases hs
        | some st => rfl
      · have : i = n := by omega
        subst this
        exact List.mem_cons_self ..
    · rw [take_run_snoc hc] at hst
      cases hr : run (l.take n) with
      | none => rw [hr] at hst; cases hst
      | some st0 =>
        rw [hr, stp_opn h1] at hst
        cases hst
        obtain ⟨a, b⟩ := I.good st0 hr
        refine ⟨?_, fun i d hi hd hdb hfi => ?_⟩
        · show oth (l.getD n 0) :: _ = oth c :: st0
          rw [a, getD_of hc]
        · rcases Nat.lt_or_ge i n with h' | h'
          · exact List.mem_cons_of_mem _ (b i d h' hd hdb hfi)
          · have : i = n := by omega
            subst this
            exact List.mem_cons_self ..
    · rw [take_run_snoc hc] at hb
      cases hr : run (l.take n) with
      | none =>
        obtain ⟨i, d, a, b⟩ := I.bad hr
        exact ⟨i, d, by omega, b⟩
      | some st0 =>
        rw [hr, stp_opn h1] at hb
        cases hb
  · by_cases h2 : c ∈ CLO
    · by_cases hm : ∃ j w, ws = j :: w ∧ l[j]? = some (oth c)
      · -- the last that waits is closed
        obtain ⟨j, w, rfl, hj⟩ := hm
        have e : pstep l (f, j :: w) n c = ((f.set n (some j)).set j (some n), w) := by unfold pstep; simp only [h1, h2, hj, if_true, if_false]
        rw [e]
        have hjn : j < n := (I.opn j (List.mem_cons_self ..)).1
        have hp0 := I.pile 0 j rfl
        have hclj : clean (seg l (j + 1) n) := hp0
        have hcc : oth (oth c) = c := oth_oth c (brk_or.mpr (.inr h2))
        have hpt : ptn l j n := ⟨hjn, oth c, hj, oth_opn c h2, by rw [hcc]; exact hc, hclj⟩
        have uniq : ∀ i, ptn l i n → i = j := fun i hi => by
          obtain ⟨w', ew, _⟩ := I.top hc h2 hi
          cases ew
          rfl
        have uniq2 : ∀ k, ptn l j k → k < n + 1 → k = n := fun k hk hkn => by
          rcases Nat.lt_or_ge k n with h' | h'
          · exfalso
            obtain ⟨hjk, d, hd, hdo, hkd, hcl⟩ := hk
            have hk2 : run (seg l (j + 1) (k + 1)) = none := by
              rw [seg_run_snoc (by omega) hkd, hcl]
              have a1 : oth d ∉ OPN := fun h => opn_clo _ h (oth_clo d hdo)
              unfold stp
              simp only [a1, oth_clo d hdo, if_true, if_false]
            have : run (seg l (j + 1) n) = none := by
              rw [seg_app (b := k + 1) (by omega) (by omega) (by omega), run_app, hk2, fold_none]
            rw [hclj] at this
            cases this
          · omega
        refine ⟨by simp [I.len], fun i k => ?_, fun i hi => ?_, fun k i hk => ?_, fun i d hi hd hdo hs => ?_, fun st hst => ?_, fun hb => ?_⟩
        · have hjl : j < f.length := by rw [I.len]; omega
          have hnl : n < f.length := by rw [I.len]; exact hn
          by_cases hij : i = j
          · subst hij
            rw [List.getElem?_set_self (by simp [hjl])]
            constructor
            · intro h
              cases h
              exact .inl ⟨hpt, by omega⟩
            · rintro (⟨p, h⟩ | ⟨p, h⟩)
              · rw [uniq2 k p h]
              · exfalso
                obtain ⟨_, d, _, hdo, hid, _⟩ := p
                rw [hj] at hid
                have : oth c = oth d := Option.some.inj hid
                exact opn_clo _ (oth_opn c h2) (this ▸ oth_clo d hdo)
          · rw [List.getElem?_set_ne (Ne.symm hij)]
            by_cases hin : i = n
            · subst hin
              rw [List.getElem?_set_self hnl]
              constructor
              · intro h
                cases h
                exact .inr ⟨hpt, by omega⟩
              · rintro (⟨p, h⟩ | ⟨p, h⟩)
                · have := p.1
                  omega
                · rw [uniq k p]
            · rw [List.getElem?_set_ne (Ne.symm hin), I.fnd i k]
              constructor
              · rintro (⟨p, h⟩ | ⟨p, h⟩)
                · exact .inl ⟨p, by omega⟩
                · exact .inr ⟨p, by omega⟩
              · rintro (⟨p, h⟩ | ⟨p, h⟩)
                · refine .inl ⟨p, ?_⟩
                  rcases Nat.lt_or_ge k n with h' | h'
                  · exact h'
                  · have : k = n := by omega
                    subst this
                    exact absurd (uniq i p) hij
                · exact .inr ⟨p, by omega⟩
        · obtain ⟨a, b⟩ := I.opn i (List.mem_cons_of_mem _ hi)
          exact ⟨by omega, b⟩
        · have hk' : (j :: w)[k + 1]? = some i := hk
          have hin := (I.opn i (List.mem_of_getElem? hk')).1
          have hpk := I.pile (k + 1) i hk'
          rw [seg_run_snoc (by omega) hc, hpk]
          show stp (some (oth (l.getD j 0) :: _)) c = _
          rw [getD_of hj, hcc, stp_clo h2]
        · have hin : i < n := by
            rcases Nat.lt_or_ge i n with h' | h'
            · exact h'
            · have : i = n := by omega
              subst this
              rw [hc] at hd
              cases hd
              exact absurd hdo h1
          rw [seg_run_snoc (by omega) hc] at hs
          have hmem : i ∈ j :: w := I.all i d hin hd hdo (by
            cases hr : run (seg l (i + 1) n) with
            | none => rw [hr] at hs; cases hs
            | some st => rfl)
          rcases List.mem_cons.mp hmem with rfl | h'
          · exfalso
            rw [hclj] at hs
            have : stp (some []) c = none := by unfold stp; simp only [h1, h2, if_true, if_false]
            rw [this] at hs
            cases hs
          · exact h'
        · rw [take_run_snoc hc] at hst
          cases hr : run (l.take n) with
          | none => rw [hr] at hst; cases hst
          | some st0 =>
            obtain ⟨a, b⟩ := I.good st0 hr
            have a' : oth (l.getD j 0) :: w.map (fun j => oth (l.getD j 0)) = st0 := a
            rw [getD_of hj, hcc] at a'
            rw [hr, ← a', stp_clo h2] at hst
            have hst' := Option.some.inj hst
            refine ⟨hst', fun i d hi hd hdb hfi => ?_⟩
            have hjl : j < f.length := by rw [I.len]; omega
            have hnl : n < f.length := by rw [I.len]; exact hn
            by_cases hij : i = j
            · subst hij
              rw [List.getElem?_set_self (by simp [hjl])] at hfi
              cases hfi
            · rw [List.getElem?_set_ne (Ne.symm hij)] at hfi
              by_cases hin : i = n
              · subst hin
                rw [List.getElem?_set_self hnl] at hfi
                cases hfi
              · rw [List.getElem?_set_ne (Ne.symm hin)] at hfi
                rcases List.mem_cons.mp (b i d (by omega) hd hdb hfi) with rfl | h'
                · exact absurd rfl hij
                · exact h'
        · rw [take_run_snoc hc] at hb
          cases hr : run (l.take n) with
          | none =>
            obtain ⟨i, d, a, b⟩ := I.bad hr
            exact ⟨i, d, by omega, b⟩
          | some st0 =>
            obtain ⟨a, b⟩ := I.good st0 hr
            have a' : oth (l.getD j 0) :: w.map (fun j => oth (l.getD j 0)) = st0 := a
            rw [getD_of hj, hcc] at a'
            rw [hr, ← a', stp_clo h2] at hb
            cases hb
      · -- nothing is closed: all is forgotten
        have e : pstep l (f, ws) n c = (f, []) := by
          unfold pstep
          simp only [h1, h2, if_true, if_false]
          cases ws with
          | nil => rfl
          | cons j w =>
            have : ¬ l[j]? = some (oth c) := fun h => hm ⟨j, w, rfl, h⟩
            simp only [this, if_false]
        rw [e]
        have none_n : ∀ i, ¬ ptn l i n := fun i hi => by
          obtain ⟨w, ew, hl⟩ := I.top hc h2 hi
          exact hm ⟨i, w, ew, hl⟩
        refine ⟨I.len, fun i j => ?_, fun j hj => (by cases hj), fun k j hk => (by cases hk), fun i d hi hd hdo hs => ?_, fun st hst => ?_, fun hb => ⟨n, c, by omega, hc, h2, none_n⟩⟩
        · rw [I.fnd i j]
          constructor
          · rintro (⟨p, h⟩ | ⟨p, h⟩)
            · exact .inl ⟨p, by omega⟩
            · exact .inr ⟨p, by omega⟩
          · rintro (⟨p, h⟩ | ⟨p, h⟩)
            · refine .inl ⟨p, ?_⟩
              rcases Nat.lt_or_ge j n with h' | h'
              · exact h'
              · have : j = n := by omega
                subst this
                exact absurd p (none_n i)
            · refine .inr ⟨p, ?_⟩
              rcases Nat.lt_or_ge i n with h' | h'
              · exact h'
              · have : i = n := by omega
                subst this
                exact absurd p (none_n j)
        · exfalso
          have hin : i < n := by
            rcases Nat.lt_or_ge i n with h' | h'
            · exact h'
            · have : i = n := by omega
              subst this
              rw [hc] at hd
              cases hd
              exact absurd hdo h1
          rw [seg_run_snoc (by omega) hc] at hs
          cases hr : run (seg l (i + 1) n) with
          | none => rw [hr] at hs; cases hs
          | some st =>
            have hmem : i ∈ ws := I.all i d hin hd hdo (by rw [hr]; rfl)
            obtain ⟨k, hk⟩ := List.mem_iff_getElem?.mp hmem
            have hp := I.pile k i hk
            rw [hr] at hs
            rw [hr] at hp
            have hp' := Option.some.inj hp
            subst hp'
            cases k with
            | zero =>
              have : stp (some []) c = none := by unfold stp; simp only [h1, h2, if_true, if_false]
              rw [List.take_zero, List.map_nil, this] at hs
              cases hs
            | succ k =>
              cases ws with
              | nil => cases hk
              | cons j w =>
                obtain ⟨hjn, cj, hcj, hcjo⟩ := I.opn j (List.mem_cons_self ..)
                rw [List.take_succ_cons, List.map_cons, getD_of hcj] at hs
                have hne : oth cj ≠ c := fun h => hm ⟨j, w, rfl, by rw [hcj, ← h, oth_oth cj (brk_or.mpr (.inl hcjo))]⟩
                have : stp (some (oth cj :: (w.take k).map fun j => oth (l.getD j 0))) c = none := by unfold stp; simp only [h1, h2, hne, if_true, if_false]
                rw [this] at hs
                cases hs
        · exfalso
          rw [take_run_snoc hc] at hst
          cases hr : run (l.take n) with
          | none => rw [hr] at hst; cases hst
          | some st0 =>
            obtain ⟨a, b⟩ := I.good st0 hr
            subst a
            rw [hr] at hst
            cases ws with
            | nil =>
              have : stp (some []) c = none := by unfold stp; simp only [h1, h2, if_true, if_false]
              rw [List.map_nil, this] at hst
              cases hst
            | cons j w =>
              obtain ⟨hjn, cj, hcj, hcjo⟩ := I.opn j (List.mem_cons_self ..)
              rw [List.map_cons, getD_of hcj] at hst
              have hne : oth cj ≠ c := fun h => hm ⟨j, w, rfl, by rw [hcj, ← h, oth_oth cj (brk_or.mpr (.inl hcjo))]⟩
              have : stp (some (oth cj :: w.map fun j => oth (l.getD j 0))) c = none := by unfold stp; simp only [h1, h2, hne, if_true, if_false]
              rw [this] at hst
              cases hst
    · -- a letter
      have e : pstep l (f, ws) n c = (f, ws) := by unfold pstep; simp only [h1, h2, if_false]
      rw [e]
      have none_n : ∀ i, ¬ ptn l i n := by
        rintro i ⟨_, d, _, hdo, hnd, _⟩
        rw [hnd] at hc
        have : oth d = c := Option.some.inj hc
        exact h2 (this ▸ oth_clo d hdo)
      refine ⟨I.len, fun i j => ?_, fun j hj => ?_, fun k j hk => ?_, fun i d hi hd hdo hs => ?_, fun st hst => ?_, fun hb => ?_⟩
      · rw [I.fnd i j]
        constructor
        · rintro (⟨p, h⟩ | ⟨p, h⟩)
          · exact .inl ⟨p, by omega⟩
          · exact .inr ⟨p, by omega⟩
        · rintro (⟨p, h⟩ | ⟨p, h⟩)
          · refine .inl ⟨p, ?_⟩
            rcases Nat.lt_or_ge j n with h' | h'
            · exact h'
            · have : j = n := by omega
              subst this
              exact absurd p (none_n i)
          · refine .inr ⟨p, ?_⟩
            rcases Nat.lt_or_ge i n with h' | h'
            · exact h'
            · have : i = n := by omega
              subst this
              exact absurd p (none_n j)
      · obtain ⟨a, b⟩ := I.opn j hj
        exact ⟨by omega, b⟩
      · have hj := (I.opn j (List.mem_of_getElem? hk)).1
        rw [seg_run_snoc (by omega) hc, I.pile k j hk, stp_let h1 h2]
      · have hin : i < n := by
          rcases Nat.lt_or_ge i n with h' | h'
          · exact h'
          · have : i = n := by omega
            subst this
            rw [hc] at hd
            cases hd
            exact absurd hdo h1
        rw [seg_run_snoc (by omega) hc, stp_let h1 h2] at hs
        exact I.all i d hin hd hdo hs
      · rw [take_run_snoc hc, stp_let h1 h2] at hst
        obtain ⟨a, b⟩ := I.good st hst
        refine ⟨a, fun i d hi hd hdb hfi => ?_⟩
        rcases Nat.lt_or_ge i n with h' | h'
        · exact b i d h' hd hdb hfi
        · have : i = n := by omega
          subst this
          rw [hc] at hd
          cases hd
          exact absurd (brk_or.mp hdb) (by simp [h1, h2])
      · rw [take_run_snoc hc, stp_let h1 h2] at hb
        obtain ⟨i, d, a, b⟩ := I.bad hb
        exact ⟨i, d, by omega, b⟩
theorem pinv_start (l : List Nat) : PInv l 0 (List.replicate l.length none) [] := by
  refine ⟨by simp, fun i j => ⟨fun h => ?_, fun h => ?_⟩, fun j hj => (by cases hj), fun k j hk => (by cases hk), fun i d hi => absurd hi (Nat.not_lt_zero _), fun st hst => ?_, fun hb => ?_⟩
  · rw [List.getElem?_replicate] at h
    split at h <;> cases h
  · rcases h with ⟨_, h⟩ | ⟨_, h⟩ <;> exact absurd h (Nat.not_lt_zero _)
  · rw [List.take_zero] at hst
    cases hst
    exact ⟨rfl, fun i d hi => absurd hi (Nat.not_lt_zero _)⟩
  · rw [List.take_zero] at hb
    cases hb
theorem pinv_all (l : List Nat) : ∀ n, n ≤ l.length → PInv l n (pst l (l.take n)).1 (pst l (l.take n)).2
  | 0, _ => by
    rw [List.take_zero]
    exact pinv_start l
  | n + 1, h => by
    have hn : n < l.length := h
    have ih := pinv_all l n (Nat.le_of_lt hn)
    rw [List.take_succ_eq_append_getElem hn, pst_snoc, List.length_take, Nat.min_eq_left (Nat.le_of_lt hn)]
    exact pinv_step ih (List.getElem?_eq_getElem hn)
theorem pinv_end (l : List Nat) : PInv l l.length (mates l) (pst l l).2 := by
  have h := pinv_all l l.length (Nat.le_refl _)
  rw [List.take_length] at h
  exact h
/-- POINT 5: the told partners -/
theorem mates_ptn (l : List Nat) (i j : Nat) : (mates l)[i]? = some (some j) ↔ ptn l i j ∨ ptn l j i := by
  rw [(pinv_end l).fnd i j]
  constructor
  · rintro (⟨p, _⟩ | ⟨p, _⟩)
    · exact .inl p
    · exact .inr p
  · rintro (p | p)
    · exact .inl ⟨p, ptn_lt p⟩
    · exact .inr ⟨p, ptn_lt p⟩
theorem mates_len (l : List Nat) : (mates l).length = l.length := (pinv_end l).len
/-- clean just where each bracket has a partner -/
theorem clean_mates (l : List Nat) : clean l ↔ ∀ (i c : Nat), l[i]? = some c → c ∈ BRK → (mates l)[i]? ≠ some none := by
  have I := pinv_end l
  constructor
  · intro h i c hi hc hn
    have hr : run (l.take l.length) = some [] := by rw [List.take_length]; exact h
    obtain ⟨a, b⟩ := I.good [] hr
    have hw : (pst l l).2 = [] := List.map_eq_nil_iff.mp a
    have := b i c (List.getElem?_eq_some_iff.mp hi).1 hi hc hn
    rw [hw] at this
    cases this
  · intro h
    cases hr : run (l.take l.length) with
    | none =>
      exfalso
      obtain ⟨i, c, hi, hc, hcc, hp⟩ := I.bad hr
      have hi' : i < (mates l).length := by rw [mates_len]; exact hi
      have hm : (mates l)[i]? = some (mates l)[i] := List.getElem?_eq_getElem hi'
      refine h i c hc (brk_or.mpr (.inr hcc)) ?_
      cases hv : (mates l)[i] with
      | none => rw [hm, hv]
      | some j =>
        exfalso
        rw [hv] at hm
        rcases (mates_ptn l i j).mp hm with p | p
        · obtain ⟨_, d, hd, hdo, _⟩ := p
          rw [hc] at hd
          cases hd
          exact opn_clo _ hdo hcc
        · exact hp j p
    | some st =>
      obtain ⟨a, _⟩ := I.good st hr
      rw [List.take_length] at hr
      cases hw : (pst l l).2 with
      | nil =>
        rw [hw] at a
        show run l = some []
        rw [hr, ← a]
        rfl
      | cons j w =>
        exfalso
        have hj : j ∈ (pst l l).2 := by rw [hw]; exact List.mem_cons_self ..
        obtain ⟨hjl, c, hc, hco⟩ := I.opn j hj
        have hj' : j < (mates l).length := by rw [mates_len]; exact hjl
        have hm : (mates l)[j]? = some (mates l)[j] := List.getElem?_eq_getElem hj'
        refine h j c hc (brk_or.mpr (.inl hco)) ?_
        cases hv : (mates l)[j] with
        | none => rw [hm, hv]
        | some k =>
          exfalso
          rw [hv] at hm
          rcases (mates_ptn l j k).mp hm with p | p
          · obtain ⟨m, hmm⟩ := List.mem_iff_getElem?.mp hj
            have hp := I.pile m j hmm
            have hkl := ptn_lt p
            obtain ⟨hjk, d, hd, hdo, hkd, hcl⟩ := p
            have hk2 : run (seg l (j + 1) (k + 1)) = none := by
              rw [seg_run_snoc (by omega) hkd, hcl]
              have a1 : oth d ∉ OPN := fun h => opn_clo _ h (oth_clo d hdo)
              unfold stp
              simp only [a1, oth_clo d hdo, if_true, if_false]
            rw [seg_app (b := k + 1) (by omega) (by omega) (by omega), run_app, hk2, fold_none] at hp
            cases hp
          · obtain ⟨_, d, hd, hdo, hkd, _⟩ := p
            rw [hc] at hkd
            have : c = oth d := Option.some.inj hkd
            exact opn_clo _ hco (this ▸ oth_clo d hdo)
end Ly

set_option maxHeartbeats 4000000
namespace Ly
/-- the first place at which the pile is as it was below d -/
theorem fold_split : ∀ (n : Nat) (r d st t), r.length ≤ n → d ∈ CLO → r.foldl stp (some (d :: st)) = some t → t.length ≤ st.length → ∃ a b, r = a ++ d :: b ∧ clean a ∧ b.foldl stp (some st) = some t
  | n, [], d, st, t, _, _, h, hl => by
    cases h
    simp at hl
    omega
  | 0, e :: r, d, st, t, hn, _, _, _ => by simp at hn
  | n + 1, e :: r, d, st, t, hn, hd, h, hl => by
    have hn' : r.length ≤ n := by simpa using hn
    rw [List.foldl_cons] at h
    by_cases h1 : e ∈ OPN
    · rw [stp_opn h1] at h
      obtain ⟨a1, b1, e1, c1, f1⟩ := fold_split n r (oth e) (d :: st) t hn' (oth_clo e h1) h (by simp; omega)
      have hb1 : b1.length ≤ n := by
        rw [e1] at hn'
        simp at hn'
        omega
      obtain ⟨a2, b2, e2, c2, f2⟩ := fold_split n b1 d st t hb1 hd f1 hl
      refine ⟨e :: (a1 ++ [oth e]) ++ a2, b2, by rw [e1, e2]; simp, clean_app (clean_pair h1 c1) c2, f2⟩
    · by_cases h2 : e ∈ CLO
      · by_cases hde : d = e
        · subst hde
          rw [stp_clo h2] at h
          exact ⟨[], r, rfl, clean_nil, h⟩
        · exfalso
          have : stp (some (d :: st)) e = none := by unfold stp; simp only [h1, h2, hde, if_true, if_false]
          rw [this, fold_none] at h
          cases h
      · rw [stp_let h1 h2] at h
        obtain ⟨a, b, e1, c1, f1⟩ := fold_split n r d st t hn' hd h hl
        refine ⟨e :: a, b, by rw [e1]; rfl, ?_, f1⟩
        show (e :: a).foldl stp (some []) = some []
        rw [List.foldl_cons, stp_let h1 h2]
        exact c1
/-- a clean text that begins with an opening bracket -/
theorem clean_opn {c : Nat} {r : List Nat} (hc : c ∈ OPN) (h : clean (c :: r)) : ∃ a b, r = a ++ oth c :: b ∧ clean a ∧ clean b := by
  have h' : (c :: r).foldl stp (some []) = some [] := h
  rw [List.foldl_cons, stp_opn hc] at h'
  obtain ⟨a, b, e, c1, f1⟩ := fold_split r.length r (oth c) [] [] (Nat.le_refl _) (oth_clo c hc) h' (Nat.le_refl _)
  exact ⟨a, b, e, c1, f1⟩
theorem clean_let {c : Nat} {r : List Nat} (h1 : c ∉ OPN) (h2 : c ∉ CLO) : clean (c :: r) ↔ clean r := by
  show (c :: r).foldl stp (some []) = some [] ↔ _
  rw [List.foldl_cons, stp_let h1 h2]
  rfl
theorem clean_clo {c : Nat} {r : List Nat} (h2 : c ∈ CLO) : ¬ clean (c :: r) := by
  intro h
  have h' : (c :: r).foldl stp (some []) = some [] := h
  have h1 : c ∉ OPN := fun h => opn_clo c h h2
  have : stp (some []) c = none := by unfold stp; simp only [h1, h2, if_true, if_false]
  rw [List.foldl_cons, this, fold_none] at h'
  cases h'
/-! ### by places -/
theorem seg_cons {l : List Nat} {a b c : Nat} (h : l[a]? = some c) (hb : a < b) (hl : b ≤ l.length) : seg l a b = c :: seg l (a + 1) b := by
  obtain ⟨ha, e⟩ := List.getElem?_eq_some_iff.mp h
  rw [seg_app (b := a + 1) (by omega) (by omega) (by omega), seg_snoc (Nat.le_refl a) ha, seg_self, e]
  rfl
end Ly

set_option maxHeartbeats 4000000
namespace Ly
/-! ### partners found from behind -/
def over (l : List Nat) (m : List (Option Nat)) (s : Nat) : Bool := match l[s]? with
  | none => false
  | some c => if c ∈ CLO then false else if c ∈ OPN then (match m[s]? with | some (some _) => true | _ => false) else true
end Ly

set_option maxHeartbeats 4000000
namespace Ly
/-! ### clean texts put together -/
theorem fold_only : ∀ (l : List Nat) (st : Option (List Nat)), (l.filter fun c => decide (c ∈ BRK)).foldl stp st = l.foldl stp st
  | [], st => rfl
  | c :: l, st => by
    by_cases h : c ∈ BRK
    · rw [List.filter_cons_of_pos (by simpa using h), List.foldl_cons, List.foldl_cons, fold_only l]
    · rw [List.filter_cons_of_neg (by simpa using h), List.foldl_cons, fold_only l, stp_let (fun h' => h (brk_or.mpr (.inl h'))) (fun h' => h (brk_or.mpr (.inr h')))]
theorem clean_only (l : List Nat) : clean (l.filter fun c => decide (c ∈ BRK)) ↔ clean l := by
  unfold clean run
  rw [fold_only]
def cntO (l : List Nat) : Nat := l.countP fun c => decide (c ∈ OPN)
def cntC (l : List Nat) : Nat := l.countP fun c => decide (c ∈ CLO)
theorem fold_cnt : ∀ (l st r : List Nat), l.foldl stp (some st) = some r → cntC l + r.length = cntO l + st.length
  | [], st, r, h => by
    cases h
    simp [cntC, cntO]
  | c :: l, st, r, h => by
    rw [List.foldl_cons] at h
    have eC : cntC (c :: l) = cntC l + if c ∈ CLO then 1 else 0 := by
      unfold cntC
      rw [List.countP_cons]
      simp
    have eO : cntO (c :: l) = cntO l + if c ∈ OPN then 1 else 0 := by
      unfold cntO
      rw [List.countP_cons]
      simp
    by_cases h1 : c ∈ OPN
    · have h2 : c ∉ CLO := opn_clo c h1
      rw [stp_opn h1] at h
      have := fold_cnt l _ r h
      rw [eC, eO, if_pos h1, if_neg h2]
      simp at this
      omega
    · by_cases h2 : c ∈ CLO
      · cases st with
        | nil =>
          have e : stp (some []) c = none := by unfold stp; simp only [h1, h2, if_true, if_false]
          rw [e, fold_none] at h
          cases h
        | cons d st =>
          by_cases hd : d = c
          · subst hd
            rw [stp_clo h2] at h
            have := fold_cnt l _ r h
            rw [eC, eO, if_neg h1, if_pos h2]
            simp
            omega
          · have e : stp (some (d :: st)) c = none := by unfold stp; simp only [h1, h2, hd, if_true, if_false]
            rw [e, fold_none] at h
            cases h
      · rw [stp_let h1 h2] at h
        have := fold_cnt l _ r h
        rw [eC, eO, if_neg h1, if_neg h2]
        omega
theorem clean_cnt {l : List Nat} (h : clean l) : cntC l = cntO l := by
  have := fold_cnt l [] [] h
  simpa using this
end Ly

set_option maxHeartbeats 4000000
namespace Ly
open PySem PySem.Spec PyProof.Rows L2 SX
/-! ### text[i:j] -/
section
variable {K : PySem.W.Frag} {H : Hp} {Q : VK} {p a : Addr} {xs : List V}
end
end Ly

set_option maxHeartbeats 4000000
namespace Ly
/-! ### kinds renamed -/
/-! ### turned about -/
/-- the sign turned -/
def tn (c : Nat) : Nat := if c ∈ BRK then oth c else c
end Ly

set_option maxHeartbeats 4000000
namespace Ly
/-! ### clean stretches counted -/
/-- how many begins of l that are not empty are clean -/
def cp (l : List Nat) : Nat := (List.range l.length).countP fun k => decide (clean (l.take (k + 1)))
def many : List Nat → Nat
  | [] => 0
  | c :: r => cp (c :: r) + many r
/-! sums -/
/-! ### by places -/
def cps (l : List Nat) : List Nat := (List.range (l.length + 1)).map fun i => cp (l.drop i)
/-! ### texts of one kind -/
/-! ### units -/
end Ly

set_option maxHeartbeats 4000000
namespace Ly
open PySem PySem.Spec PyProof.Rows L2 SX PySem.StrLaws
/-! ### pairs struck out -/
def rm (o : Nat) (l : List Nat) : List Nat := replL [o, oth o] [] l
theorem rm_nil (o : Nat) : rm o [] = [] := replL_nil
theorem rm_hit (o : Nat) (r : List Nat) : rm o (o :: oth o :: r) = rm o r := by
  unfold rm
  rw [replL_hit (by simp) rfl]
  rfl
theorem rm_miss {o c : Nat} {r : List Nat} (h : ¬ (c = o ∧ ∃ t, r = oth o :: t)) : rm o (c :: r) = c :: rm o r := by
  unfold rm
  refine replL_miss fun e => h ?_
  cases r with
  | nil => cases e
  | cons d t =>
    have e1 : c :: [d] = o :: [oth o] := e
    exact ⟨(List.cons.inj e1).1, t, by rw [(List.cons.inj (List.cons.inj e1).2).1]⟩
theorem rm_cases (o : Nat) : ∀ l : List Nat, l = [] ∨ (∃ r, l = o :: oth o :: r) ∨ ∃ c r, l = c :: r ∧ ¬ (c = o ∧ ∃ t, r = oth o :: t)
  | [] => .inl rfl
  | c :: r => by
    by_cases h : c = o ∧ ∃ t, r = oth o :: t
    · obtain ⟨rfl, t, rfl⟩ := h
      exact .inr (.inl ⟨t, rfl⟩)
    · exact .inr (.inr ⟨c, r, rfl, h⟩)
theorem rm_fold {o : Nat} (ho : o ∈ OPN) : ∀ (n : Nat) (l : List Nat) (st : Option (List Nat)), l.length ≤ n → (rm o l).foldl stp st = l.foldl stp st
  | n, l, st, hn => by
    rcases rm_cases o l with rfl | ⟨r, rfl⟩ | ⟨c, r, rfl, h⟩
    · rw [rm_nil]
    · cases n with
      | zero => simp at hn
      | succ n =>
        rw [rm_hit, rm_fold ho n r st (by simp at hn; omega), List.foldl_cons, List.foldl_cons]
        congr 1
        cases st with
        | none => rfl
        | some st => rw [stp_opn ho, stp_clo (oth_clo o ho)]
    · cases n with
      | zero => simp at hn
      | succ n => rw [rm_miss h, List.foldl_cons, List.foldl_cons, rm_fold ho n r _ (by simpa using hn)]
theorem rm_clean {o : Nat} (ho : o ∈ OPN) (l : List Nat) : clean (rm o l) ↔ clean l := by
  unfold clean run
  rw [rm_fold ho _ l _ (Nat.le_refl _)]
theorem rm_le (o : Nat) : ∀ (n : Nat) (l : List Nat), l.length ≤ n → (rm o l).length ≤ l.length ∧ ((rm o l).length = l.length → rm o l = l) ∧ ∀ c ∈ rm o l, c ∈ l
  | n, l, hn => by
    rcases rm_cases o l with rfl | ⟨r, rfl⟩ | ⟨c, r, rfl, h⟩
    · rw [rm_nil]
      exact ⟨Nat.le_refl _, fun _ => rfl, fun _ h => h⟩
    · cases n with
      | zero => simp at hn
      | succ n =>
        obtain ⟨h1, h2, h3⟩ := rm_le o n r (by simp at hn; omega)
        rw [rm_hit]
        refine ⟨by simp; omega, fun e => ?_, fun c hc => List.mem_cons_of_mem _ (List.mem_cons_of_mem _ (h3 c hc))⟩
        simp at e
        omega
    · cases n with
      | zero => simp at hn
      | succ n =>
        obtain ⟨h1, h2, h3⟩ := rm_le o n r (by simpa using hn)
        rw [rm_miss h]
        refine ⟨by simp; omega, fun e => ?_, fun d hd => ?_⟩
        · rw [h2 (by simpa using e)]
        · rcases List.mem_cons.mp hd with rfl | hd
          · exact List.mem_cons_self ..
          · exact List.mem_cons_of_mem _ (h3 d hd)
theorem rm_lt (o : Nat) : ∀ (u v : List Nat), (rm o (u ++ o :: oth o :: v)).length < (u ++ o :: oth o :: v).length
  | [], v => by
    have := (rm_le o v.length v (Nat.le_refl _)).1
    show (rm o (o :: oth o :: v)).length < (o :: oth o :: v).length
    rw [rm_hit]
    simp
    omega
  | c :: u, v => by
    have ih := rm_lt o u v
    rcases rm_cases o (c :: u ++ o :: oth o :: v) with h | ⟨r, h⟩ | ⟨d, r, h, hn⟩
    · cases h
    · rw [h, rm_hit]
      have := (rm_le o r.length r (Nat.le_refl _)).1
      simp
      omega
    · have e := List.cons.inj h
      rw [h, rm_miss hn, ← e.2]
      simp at ih ⊢
      omega
def allB (l : List Nat) : Prop := ∀ c ∈ l, c ∈ BRK
/-- a clean text of brackets that is not empty has a pair side by side -/
theorem clean_side : ∀ (n : Nat) (l : List Nat), l.length ≤ n → clean l → allB l → l ≠ [] → ∃ u o v, o ∈ OPN ∧ l = u ++ o :: oth o :: v
  | n, [], _, _, _, h => absurd rfl h
  | 0, c :: l, hn, _, _, _ => by simp at hn
  | n + 1, c :: r, hn, h, hb, _ => by
    have hcb := hb c (List.mem_cons_self ..)
    rcases brk_or.mp hcb with h1 | h2
    · obtain ⟨a, b, e, ca, cb⟩ := clean_opn h1 h
      subst e
      cases a with
      | nil => exact ⟨[], c, b, h1, rfl⟩
      | cons d a =>
        obtain ⟨u, o, v, ho, e⟩ := clean_side n (d :: a) (by simp at hn ⊢; omega) ca (fun x hx => hb x (List.mem_cons_of_mem _ (List.mem_append_left _ hx))) (by simp)
        refine ⟨c :: u, o, v ++ oth c :: b, ho, ?_⟩
        rw [e]
        simp
    · exact absurd h (clean_clo h2)
/-- all four kinds, one behind the other -/
def rm4 (l : List Nat) : List Nat := rm 123 (rm 91 (rm 60 (rm 40 l)))
theorem rm4_le (l : List Nat) : (rm4 l).length ≤ l.length ∧ ((rm4 l).length = l.length → ∀ o ∈ OPN, rm o l = l) ∧ ∀ c ∈ rm4 l, c ∈ l := by
  obtain ⟨a1, a2, a3⟩ := rm_le 40 _ l (Nat.le_refl _)
  obtain ⟨b1, b2, b3⟩ := rm_le 60 _ (rm 40 l) (Nat.le_refl _)
  obtain ⟨c1, c2, c3⟩ := rm_le 91 _ (rm 60 (rm 40 l)) (Nat.le_refl _)
  obtain ⟨d1, d2, d3⟩ := rm_le 123 _ (rm 91 (rm 60 (rm 40 l))) (Nat.le_refl _)
  refine ⟨by unfold rm4; omega, fun e => ?_, fun c hc => a3 c (b3 c (c3 c (d3 c hc)))⟩
  have e' : (rm 123 (rm 91 (rm 60 (rm 40 l)))).length = l.length := e
  have x1 := a2 (by omega)
  rw [x1] at b1 b2 c1 c2 d1 d2 e'
  have x2 := b2 (by omega)
  rw [x2] at c1 c2 d1 d2 e'
  have x3 := c2 (by omega)
  rw [x3] at d1 d2 e'
  have x4 := d2 (by omega)
  intro o ho
  have : o = 40 ∨ o = 60 ∨ o = 91 ∨ o = 123 := by simpa [OPN] using ho
  rcases this with rfl | rfl | rfl | rfl
  · exact x1
  · exact x2
  · exact x3
  · exact x4
theorem rm4_clean (l : List Nat) : clean (rm4 l) ↔ clean l := by
  unfold rm4
  rw [rm_clean (by decide), rm_clean (by decide), rm_clean (by decide), rm_clean (by decide)]
/-- nothing more to strike: clean just where nothing is left -/
theorem rm4_end {l : List Nat} (hb : allB l) (h : (rm4 l).length = l.length) : clean l ↔ l = [] := by
  constructor
  · intro hc
    by_cases e : l = []
    · exact e
    · exfalso
      obtain ⟨u, o, v, ho, e2⟩ := clean_side _ l (Nat.le_refl _) hc hb e
      have x := (rm4_le l).2.1 h o ho
      have y := rm_lt o u v
      rw [← e2, x] at y
      omega
  · rintro rfl
    exact clean_nil
/-! the program's texts -/
theorem replace_rm {o : Nat} {l : List Nat} : Txt.replace (S l) (S [o, oth o]) (S []) = S (rm o l) := by
  have e := replace_list (x := S l) (y := S [o, oth o]) (z := S []) (by rw [S_len]; exact Nat.le_succ_of_le (Nat.le_refl 1))
  refine TL.ext_tl ?_
  exact e
end Ly

set_option maxHeartbeats 4000000
namespace Ly
open PySem PySem.Spec PyProof.Rows L2 SX
/-! ### nests in the heap: each inner list is one of its own -/
inductive Nd where
  | let_ (c : Nat)
  | num (i : Int)
  | br (o : Nat) (ds : List Nd)
mutual
inductive TrI (H : Hp) : V → Nd → List Addr → Prop
  | let_ (c : Nat) : TrI H (Tx [c]) (.let_ c) []
  | num (i : Int) : TrI H (.int i) (.num i) []
  | br {t b : Addr} {o : Nat} {xs : List V} {ds : List Nd} {A : List Addr} : H t = some (.tup [Tx [o], .ref b]) → H b = some (.lst xs) → TrIs H xs ds A → TrI H (.ref t) (.br o ds) (b :: A)
inductive TrIs (H : Hp) : List V → List Nd → List Addr → Prop
  | nil : TrIs H [] [] []
  | cons {v : V} {vs : List V} {d : Nd} {ds : List Nd} {A B : List Addr} : TrI H v d A → TrIs H vs ds B → TrIs H (v :: vs) (d :: ds) (A ++ B)
end
/-- all but the lists in C stay -/
def ButS (C : List Addr) (H H' : Hp) : Prop := (∀ x ∈ C, ∃ ys, H x = some (.lst ys)) ∧ ∀ x o, H x = some o → x ∉ C → H' x = some o
theorem ButS.refl (H : Hp) : ButS [] H H := ⟨by simp, fun _ _ h _ => h⟩
theorem ButS.of_same {H H' : Hp} (s : Same H H') : ButS [] H H' := ⟨by simp, fun x o h _ => s x o h⟩
mutual
theorem TrI.frame {H H' : Hp} {C : List Addr} (s : ButS C H H') : ∀ {v : V} {d : Nd} {A : List Addr}, TrI H v d A → (∀ x ∈ A, x ∉ C) → TrI H' v d A
  | _, _, _, .let_ c, _ => .let_ c
  | _, _, _, .num i, _ => .num i
  | _, _, _, @TrI.br _ t b o xs ds A ht hb hs, h => .br (s.2 _ _ ht fun hc => by obtain ⟨ys, e⟩ := s.1 _ hc; rw [ht] at e; cases e) (s.2 _ _ hb (h b (List.mem_cons_self ..))) (TrIs.frame s hs fun x hx => h x (List.mem_cons_of_mem _ hx))
theorem TrIs.frame {H H' : Hp} {C : List Addr} (s : ButS C H H') : ∀ {vs : List V} {ds : List Nd} {A : List Addr}, TrIs H vs ds A → (∀ x ∈ A, x ∉ C) → TrIs H' vs ds A
  | _, _, _, .nil, _ => .nil
  | _, _, _, .cons hi hs, h => .cons (TrI.frame s hi fun x hx => h x (List.mem_append_left _ hx)) (TrIs.frame s hs fun x hx => h x (List.mem_append_right _ hx))
end
mutual
theorem TrI.lsts {H : Hp} : ∀ {v : V} {d : Nd} {A : List Addr}, TrI H v d A → ∀ x ∈ A, ∃ ys, H x = some (.lst ys)
  | _, _, _, .let_ c, x, hx => by simp at hx
  | _, _, _, .num i, x, hx => by simp at hx
  | _, _, _, .br ht hb hs, x, hx => by
    rcases List.mem_cons.mp hx with rfl | hx
    · exact ⟨_, hb⟩
    · exact TrIs.lsts hs x hx
theorem TrIs.lsts {H : Hp} : ∀ {vs : List V} {ds : List Nd} {A : List Addr}, TrIs H vs ds A → ∀ x ∈ A, ∃ ys, H x = some (.lst ys)
  | _, _, _, .nil, x, hx => by simp at hx
  | _, _, _, .cons hi hs, x, hx => by
    rcases List.mem_append.mp hx with hx | hx
    · exact TrI.lsts hi x hx
    · exact TrIs.lsts hs x hx
end
theorem TrIs.len {H : Hp} : ∀ {vs : List V} {ds : List Nd} {A : List Addr}, TrIs H vs ds A → vs.length = ds.length
  | _, _, _, .nil => rfl
  | _, _, _, .cons _ hs => by simp [TrIs.len hs]
theorem TrIs.app {H : Hp} : ∀ {vs ws : List V} {ds es : List Nd} {A B : List Addr}, TrIs H vs ds A → TrIs H ws es B → TrIs H (vs ++ ws) (ds ++ es) (A ++ B)
  | _, _, _, _, _, _, .nil, h => h
  | _, _, _, _, _, _, .cons hi hs, h => by
    rw [List.append_assoc]
    exact .cons hi (TrIs.app hs h)
theorem TrIs.snoc {H : Hp} {vs : List V} {v : V} {ds : List Nd} {d : Nd} {A B : List Addr} (h : TrIs H vs ds A) (h1 : TrI H v d B) : TrIs H (vs ++ [v]) (ds ++ [d]) (A ++ B) := by
  have := TrIs.app h (.cons h1 .nil)
  simpa using this
theorem TrIs.split {H : Hp} : ∀ {vs ws : List V} {ds : List Nd} {A : List Addr}, TrIs H (vs ++ ws) ds A → ∃ ds1 ds2 A1 A2, ds = ds1 ++ ds2 ∧ A = A1 ++ A2 ∧ TrIs H vs ds1 A1 ∧ TrIs H ws ds2 A2
  | [], ws, ds, A, h => ⟨[], ds, [], A, rfl, rfl, .nil, h⟩
  | v :: vs, ws, _, _, .cons hi hs => by
    obtain ⟨ds1, ds2, A1, A2, rfl, rfl, h1, h2⟩ := TrIs.split hs
    exact ⟨_ :: ds1, ds2, _ ++ A1, A2, rfl, by rw [List.append_assoc], .cons hi h1, h2⟩
/-! depth, size -/
mutual
def Nd.deep : Nd → Nat
  | .br _ ds => Nd.deeps ds + 1
  | _ => 0
def Nd.deeps : List Nd → Nat
  | [] => 0
  | d :: ds => max (Nd.deep d) (Nd.deeps ds)
end
/-! ### numbered -/
theorem deeps_app : ∀ (ds es : List Nd), Nd.deeps (ds ++ es) = max (Nd.deeps ds) (Nd.deeps es)
  | [], es => by simp [Nd.deeps]
  | d :: ds, es => by
    rw [List.cons_append, Nd.deeps, deeps_app ds es, Nd.deeps]
    omega
end Ly
namespace Ly
open PySem PySem.Spec PyProof.Rows L2 SX
mutual
def Nd.wide : Nd → Nat
  | .br _ ds => Nd.wides ds
  | _ => 0
def Nd.wides : List Nd → Nat
  | [] => 0
  | d :: ds => max (Nd.wide d) (max (ds.length + 1) (Nd.wides ds))
end
theorem len_wides : ∀ ds : List Nd, ds.length ≤ Nd.wides ds
  | [] => Nat.le_refl _
  | d :: ds => by
    rw [Nd.wides, List.length_cons]
    omega
theorem mem_wides : ∀ {ds : List Nd} {d : Nd}, d ∈ ds → Nd.wide d ≤ Nd.wides ds
  | e :: ds, d, h => by
    rw [Nd.wides]
    rcases List.mem_cons.mp h with rfl | h
    · omega
    · have := mem_wides h
      omega
theorem mem_deeps : ∀ {ds : List Nd} {d : Nd}, d ∈ ds → Nd.deep d ≤ Nd.deeps ds
  | e :: ds, d, h => by
    rw [Nd.deeps]
    rcases List.mem_cons.mp h with rfl | h
    · omega
    · have := mem_deeps h
      omega
theorem ButS.trans {C D : List Addr} {H H1 H2 : Hp} (x : ButS C H H1) (y : ButS D H1 H2) (hD : ∀ a ∈ D, ∃ ys, H a = some (.lst ys)) : ButS (C ++ D) H H2 := by
  refine ⟨fun a ha => ?_, fun a o h hn => ?_⟩
  · rcases List.mem_append.mp ha with ha | ha
    · exact x.1 a ha
    · exact hD a ha
  · rw [List.mem_append, not_or] at hn
    exact y.2 a o (x.2 a o h hn.1) hn.2
theorem ButS.but {b : Addr} {xs : List V} {H H1 : Hp} (h : H b = some (.lst xs)) (y : But b H H1) : ButS [b] H H1 := by
  refine ⟨fun a ha => ?_, fun a o h hn => y a o (fun e => hn (by rw [e]; simp)) h⟩
  rw [List.mem_singleton] at ha
  rw [ha]
  exact ⟨_, h⟩
theorem TrI.same {H H' : Hp} (s : Same H H') {v : V} {d : Nd} {A : List Addr} (h : TrI H v d A) : TrI H' v d A := TrI.frame (ButS.of_same s) h (by simp)
theorem TrIs.same {H H' : Hp} (s : Same H H') {v : List V} {d : List Nd} {A : List Addr} (h : TrIs H v d A) : TrIs H' v d A := TrIs.frame (ButS.of_same s) h (by simp)
end Ly

set_option maxHeartbeats 4000000
namespace Ly
open PySem PySem.Spec PyProof.Rows L2 SX
/-! ### a nest being made: the list b hangs in open frames -/
inductive Ctx (H : Hp) : Addr → List Addr → List (List Nd × Nat) → List Addr → Prop
  | nil (b : Addr) : Ctx H b [] [] []
  | cons {b b0 t : Addr} {bs : List Addr} {fs : List (List Nd × Nat)} {A A0 : List Addr} {xs0 : List V} {ds0 : List Nd} {o : Nat} : H b0 = some (.lst (xs0 ++ [.ref t])) → TrIs H xs0 ds0 A0 → H t = some (.tup [Tx [o], .ref b]) → Ctx H b0 bs fs A → Ctx H b (b0 :: bs) ((ds0, o) :: fs) (b0 :: (A0 ++ A))
theorem Ctx.frame {H H' : Hp} {C : List Addr} (s : ButS C H H') : ∀ {b : Addr} {bs : List Addr} {fs : List (List Nd × Nat)} {A : List Addr}, Ctx H b bs fs A → (∀ x ∈ A, x ∉ C) → Ctx H' b bs fs A
  | _, _, _, _, .nil b, _ => .nil b
  | _, _, _, _, .cons h1 h2 h3 h4, h => .cons (s.2 _ _ h1 (h _ (List.mem_cons_self ..))) (TrIs.frame s h2 fun x hx => h x (List.mem_cons_of_mem _ (List.mem_append_left _ hx))) (s.2 _ _ h3 fun hc => by obtain ⟨ys, e⟩ := s.1 _ hc; rw [h3] at e; cases e) (Ctx.frame s h4 fun x hx => h x (List.mem_cons_of_mem _ (List.mem_append_right _ hx)))
theorem Ctx.lsts {H : Hp} : ∀ {b : Addr} {bs : List Addr} {fs : List (List Nd × Nat)} {A : List Addr}, Ctx H b bs fs A → ∀ x ∈ A, ∃ ys, H x = some (.lst ys)
  | _, _, _, _, .nil b, x, hx => by simp at hx
  | _, _, _, _, .cons h1 h2 h3 h4, x, hx => by
    rcases List.mem_cons.mp hx with rfl | hx
    · exact ⟨_, h1⟩
    · rcases List.mem_append.mp hx with hx | hx
      · exact TrIs.lsts h2 x hx
      · exact Ctx.lsts h4 x hx
theorem Ctx.len {H : Hp} : ∀ {b : Addr} {bs : List Addr} {fs : List (List Nd × Nat)} {A : List Addr}, Ctx H b bs fs A → bs.length = fs.length
  | _, _, _, _, .nil b => rfl
  | _, _, _, _, .cons _ _ _ h4 => by simp [Ctx.len h4]
/-- the whole state: the open list, its frames, all lists unlike and new since H0 -/
structure Bld (N : Addr → Prop) (H : Hp) (b : Addr) (bs : List Addr) (fs : List (List Nd × Nat)) (cur : List Nd) : Prop where
  ex : ∃ xs A1 A, H b = some (.lst xs) ∧ TrIs H xs cur A1 ∧ Ctx H b bs fs A ∧ (b :: (A1 ++ A)).Nodup ∧ ∀ x ∈ b :: (A1 ++ A), N x
theorem Bld.start {N : Addr → Prop} {H : Hp} {b : Addr} (h : H b = some (.lst [])) (n : N b) : Bld N H b [] [] [] := ⟨[], [], [], h, .nil, .nil b, by simp, by simpa using n⟩
/-- nothing of it is touched -/
theorem Bld.same {N : Addr → Prop} {H H' : Hp} {b : Addr} {bs : List Addr} {fs : List (List Nd × Nat)} {cur : List Nd} (B : Bld N H b bs fs cur) (s : Same H H') : Bld N H' b bs fs cur := by
  obtain ⟨xs, A1, A, h1, h2, h3, h4, h5⟩ := B.ex
  exact ⟨xs, A1, A, s _ _ h1, TrIs.same s h2, Ctx.frame (ButS.of_same s) h3 (by simp), h4, h5⟩
theorem Bld.but {N : Addr → Prop} {H H' : Hp} {b p : Addr} {bs : List Addr} {fs : List (List Nd × Nat)} {cur : List Nd} {ys : List V} (B : Bld N H b bs fs cur) (s : But p H H') (hp : H p = some (.lst ys)) (hn : ¬ N p) : Bld N H' b bs fs cur := by
  obtain ⟨xs, A1, A, h1, h2, h3, h4, h5⟩ := B.ex
  have bs := ButS.but hp s
  have hno : ∀ x ∈ b :: (A1 ++ A), x ∉ [p] := fun x hx hc => by
    rw [List.mem_singleton] at hc
    rw [hc] at hx
    exact hn (h5 p hx)
  exact ⟨xs, A1, A, bs.2 _ _ h1 (hno b (List.mem_cons_self ..)), TrIs.frame bs h2 fun x hx => hno x (List.mem_cons_of_mem _ (List.mem_append_left _ hx)), Ctx.frame bs h3 fun x hx => hno x (List.mem_cons_of_mem _ (List.mem_append_right _ hx)), h4, h5⟩
theorem Bld.cur {N : Addr → Prop} {H : Hp} {b : Addr} {bs : List Addr} {fs : List (List Nd × Nat)} {cur : List Nd} (B : Bld N H b bs fs cur) : ∃ xs, H b = some (.lst xs) ∧ xs.length = cur.length ∧ N b ∧ bs.length = fs.length := by
  obtain ⟨xs, A1, A, h1, h2, h3, h4, h5⟩ := B.ex
  exact ⟨xs, h1, TrIs.len h2, h5 b (List.mem_cons_self ..), Ctx.len h3⟩
/-- a letter behind -/
theorem Bld.letter {N : Addr → Prop} {H H' : Hp} {b : Addr} {bs : List Addr} {fs : List (List Nd × Nat)} {cur : List Nd} {xs : List V} {c : Nat} (B : Bld N H b bs fs cur) (hb : H b = some (.lst xs)) (s : But b H H') (e : H' b = some (.lst (xs ++ [Tx [c]]))) : Bld N H' b bs fs (cur ++ [.let_ c]) := by
  obtain ⟨xs', A1, A, h1, h2, h3, h4, h5⟩ := B.ex
  rw [hb] at h1
  cases h1
  have bs := ButS.but hb s
  have hn := List.nodup_cons.mp h4
  have hno : ∀ x ∈ A1 ++ A, x ∉ [b] := fun x hx hc => by
    rw [List.mem_singleton] at hc
    rw [hc] at hx
    exact hn.1 hx
  have h2' := TrIs.snoc (TrIs.frame bs h2 fun x hx => hno x (List.mem_append_left _ hx)) (TrI.let_ (H := H') c)
  rw [List.append_nil] at h2'
  exact ⟨_, A1, A, e, h2', Ctx.frame bs h3 fun x hx => hno x (List.mem_append_right _ hx), h4, h5⟩
/-- a bracket opened: i the new list, t the tuple -/
theorem Bld.open_ {N : Addr → Prop} {Hp0 H H' : Hp} {b i t : Addr} {bs : List Addr} {fs : List (List Nd × Nat)} {cur : List Nd} {xs : List V} {o : Nat} (B0 : Bld N Hp0 b bs fs cur) (s0 : Same Hp0 H) (hb : H b = some (.lst xs)) (s : But b H H') (hi : H i = some (.lst [])) (ht : H t = some (.tup [Tx [o], .ref i])) (ni : Hp0 i = none) (hN : N i)
    (e : H' b = some (.lst (xs ++ [.ref t]))) : Bld N H' i (b :: bs) ((cur, o) :: fs) [] := by
  obtain ⟨xs', A1, A, h1, h2, h3, h4, h5⟩ := B0.ex
  have hi' : i ∉ b :: (A1 ++ A) := by
    intro hx
    have : ∃ ys, Hp0 i = some (.lst ys) := by
      rcases List.mem_cons.mp hx with rfl | hx
      · exact ⟨_, h1⟩
      · rcases List.mem_append.mp hx with hx | hx
        · exact TrIs.lsts h2 _ hx
        · exact Ctx.lsts h3 _ hx
    obtain ⟨ys, ey⟩ := this
    rw [ni] at ey
    cases ey
  have h1 := s0 _ _ h1
  have h2 := TrIs.same s0 h2
  have h3 := Ctx.frame (ButS.of_same s0) h3 (by simp)
  rw [hb] at h1
  cases h1
  have bS := ButS.but hb s
  have hn := List.nodup_cons.mp h4
  have hib : i ≠ b := fun e => hi' (by rw [e]; exact List.mem_cons_self ..)
  have htb : t ≠ b := fun e => by rw [e, hb] at ht; cases ht
  have hno : ∀ x ∈ A1 ++ A, x ∉ [b] := fun x hx hc => by
    rw [List.mem_singleton] at hc
    rw [hc] at hx
    exact hn.1 hx
  refine ⟨[], [], b :: (A1 ++ A), s _ _ hib hi, .nil, .cons e (TrIs.frame bS h2 fun x hx => hno x (List.mem_append_left _ hx)) (s _ _ htb ht) (Ctx.frame bS h3 fun x hx => hno x (List.mem_append_right _ hx)), ?_, ?_⟩
  · exact List.nodup_cons.mpr ⟨hi', h4⟩
  · intro x hx
    rcases List.mem_cons.mp hx with rfl | hx
    · exact hN
    · exact h5 x hx
/-- a bracket closed -/
theorem Bld.close {N : Addr → Prop} {H : Hp} {b : Addr} {bs : List Addr} {fs : List (List Nd × Nat)} {cur ds0 : List Nd} {o : Nat} (B : Bld N H b bs ((ds0, o) :: fs) cur) : ∃ b0 bs0, bs = b0 :: bs0 ∧ Bld N H b0 bs0 fs (ds0 ++ [.br o cur]) := by
  obtain ⟨xs, A1, A, h1, h2, h3, h4, h5⟩ := B.ex
  cases h3 with
  | @cons _ b0 t bs0 _ A' A0 xs0 _ _ k1 k2 k3 k4 =>
    refine ⟨b0, bs0, rfl, ⟨xs0 ++ [.ref t], A0 ++ (b :: A1), A', k1, TrIs.snoc k2 (.br k3 h1 h2), k4, ?_, ?_⟩⟩
    · refine List.Perm.nodup (List.perm_iff_count.mpr fun a => ?_) h4
      simp only [List.count_cons, List.count_append]
      omega
    · intro x hx
      refine h5 x ?_
      simp only [List.mem_cons, List.mem_append] at hx ⊢
      rcases hx with rfl | ((hx | rfl | hx) | hx)
      · exact .inr (.inr (.inl rfl))
      · exact .inr (.inr (.inr (.inl hx)))
      · exact .inl rfl
      · exact .inr (.inl hx)
      · exact .inr (.inr (.inr (.inr hx)))
/-! ### what the text tells -/
def nstep (s : List (List Nd × Nat) × List Nd) (c : Nat) : List (List Nd × Nat) × List Nd :=
  if c ∈ CLO then (match s.1 with | (ds, o) :: fs => (fs, ds ++ [.br o s.2]) | [] => s) else if c ∈ OPN then ((s.2, c) :: s.1, []) else (s.1, s.2 ++ [.let_ c])
def nst (l : List Nat) : List (List Nd × Nat) × List Nd := l.foldl nstep ([], [])
def nestD (l : List Nat) : List Nd := (nst l).2
theorem nst_snoc (l : List Nat) (c : Nat) : nst (l ++ [c]) = nstep (nst l) c := by
  unfold nst
  rw [List.foldl_append]
  rfl
/-- the frames are the pile -/
theorem fold_nst : ∀ (l st : List Nat) (fs : List (List Nd × Nat)) (cur : List Nd) (r : List Nat), st = fs.map (fun p => oth p.2) → l.foldl stp (some st) = some r → r = (l.foldl nstep (fs, cur)).1.map fun p => oth p.2
  | [], st, fs, cur, r, h, e => by
    cases e
    exact h
  | c :: l, st, fs, cur, r, h, e => by
    rw [List.foldl_cons] at e ⊢
    by_cases h1 : c ∈ OPN
    · have h2 : c ∉ CLO := opn_clo c h1
      rw [stp_opn h1] at e
      have en : nstep (fs, cur) c = ((cur, c) :: fs, []) := by unfold nstep; rw [if_neg h2, if_pos h1]
      rw [en]
      exact fold_nst l _ _ _ r (by rw [h]; rfl) e
    · by_cases h2 : c ∈ CLO
      · cases fs with
        | nil =>
          subst h
          have e0 : stp (some (List.map (fun p : List Nd × Nat => oth p.2) [])) c = none := by
            show stp (some []) c = none
            unfold stp
            simp only [h1, h2, if_true, if_false]
          rw [e0, fold_none] at e
          cases e
        | cons f fs =>
          obtain ⟨ds, o⟩ := f
          subst h
          by_cases hd : oth o = c
          · have e0 : stp (some (List.map (fun p : List Nd × Nat => oth p.2) ((ds, o) :: fs))) c = some (fs.map fun p => oth p.2) := by
              show stp (some (oth o :: fs.map fun p => oth p.2)) c = _
              rw [hd, stp_clo h2]
            rw [e0] at e
            have en : nstep ((ds, o) :: fs, cur) c = (fs, ds ++ [.br o cur]) := by unfold nstep; rw [if_pos h2]
            rw [en]
            exact fold_nst l _ _ _ r rfl e
          · have e0 : stp (some (List.map (fun p : List Nd × Nat => oth p.2) ((ds, o) :: fs))) c = none := by
              show stp (some (oth o :: fs.map fun p => oth p.2)) c = none
              unfold stp
              simp only [h1, h2, hd, if_true, if_false]
            rw [e0, fold_none] at e
            cases e
      · rw [stp_let h1 h2] at e
        have en : nstep (fs, cur) c = (fs, cur ++ [.let_ c]) := by unfold nstep; rw [if_neg h2, if_neg h1]
        rw [en]
        exact fold_nst l _ _ _ r h e
theorem nst_run {l st : List Nat} (h : run l = some st) : st = (nst l).1.map fun p => oth p.2 := fold_nst l [] [] [] st rfl h
theorem nst_clean {l : List Nat} (h : clean l) : (nst l).1 = [] := by
  have := nst_run h
  exact List.map_eq_nil_iff.mp this.symm
/-- a closing bracket in a clean text closes one -/
theorem nst_clo {l pre post : List Nat} {c : Nat} (h : clean l) (e : l = pre ++ c :: post) (hc : c ∈ CLO) : ∃ ds o fs, (nst pre).1 = (ds, o) :: fs ∧ oth o = c := by
  have h1 : c ∉ OPN := fun h1 => opn_clo c h1 hc
  have h' : run (pre ++ c :: post) = some [] := by rw [← e]; exact h
  rw [run_app, List.foldl_cons] at h'
  cases hr : run pre with
  | none =>
    rw [hr] at h'
    have : stp none c = none := rfl
    rw [this, fold_none] at h'
    cases h'
  | some st =>
    have hst := nst_run hr
    rw [hr] at h'
    cases hf : (nst pre).1 with
    | nil =>
      rw [hf] at hst
      subst hst
      have e0 : stp (some (List.map (fun p : List Nd × Nat => oth p.2) [])) c = none := by
        show stp (some []) c = none
        unfold stp
        simp only [h1, hc, if_true, if_false]
      rw [e0, fold_none] at h'
      cases h'
    | cons f fs =>
      obtain ⟨ds, o⟩ := f
      rw [hf] at hst
      refine ⟨ds, o, fs, rfl, ?_⟩
      by_cases hd : oth o = c
      · exact hd
      · exfalso
        subst hst
        have e0 : stp (some (List.map (fun p : List Nd × Nat => oth p.2) ((ds, o) :: fs))) c = none := by
          show stp (some (oth o :: fs.map fun p => oth p.2)) c = none
          unfold stp
          simp only [h1, hc, hd, if_true, if_false]
        rw [e0, fold_none] at h'
        cases h'
end Ly
namespace Ly
theorem wides_snoc (ds : List Nd) (d : Nd) : Nd.wides (ds ++ [d]) ≤ max (Nd.wides ds) (max (ds.length + 1) (Nd.wide d)) := by
  induction ds with
  | nil =>
    have e0 : Nd.wides [] = 0 := by rw [Nd.wides]
    have e1 : Nd.wides [d] = max d.wide (max (0 + 1) 0) := by rw [Nd.wides, e0]; rfl
    rw [List.nil_append, e0, e1]
    simp only [List.length_nil]
    omega
  | cons e ds ih =>
    rw [List.cons_append, Nd.wides, Nd.wides, List.length_append]
    simp only [List.length_cons, List.length_nil]
    omega
/-- sizes -/
def nbd (s : List (List Nd × Nat) × List Nd) (n : Nat) : Prop := s.2.length ≤ n ∧ s.1.length ≤ n ∧ Nd.wides s.2 ≤ n ∧ ∀ f ∈ s.1, f.1.length ≤ n ∧ Nd.wides f.1 ≤ n
theorem nbd_step {s : List (List Nd × Nat) × List Nd} {n c : Nat} (h : nbd s n) : nbd (nstep s c) (n + 1) := by
  obtain ⟨fs, cur⟩ := s
  obtain ⟨h1, h2, h3, h4⟩ := h
  have h1' : cur.length ≤ n := h1
  have h2' : fs.length ≤ n := h2
  have h3' : Nd.wides cur ≤ n := h3
  unfold nstep
  by_cases hc : c ∈ CLO
  · rw [if_pos hc]
    cases fs with
    | nil => exact ⟨by show cur.length ≤ _; omega, by simp, by show Nd.wides cur ≤ _; omega, by simp⟩
    | cons f fs =>
      obtain ⟨ds, o⟩ := f
      have hf := h4 (ds, o) (List.mem_cons_self ..)
      have hf1 : ds.length ≤ n := hf.1
      have hf2 : Nd.wides ds ≤ n := hf.2
      have hw := wides_snoc ds (.br o cur)
      rw [Nd.wide] at hw
      simp at h2'
      refine ⟨by simp; omega, by show fs.length ≤ _; omega, by show Nd.wides (ds ++ [.br o cur]) ≤ _; omega, fun g hg => ?_⟩
      have := h4 g (List.mem_cons_of_mem _ hg)
      omega
  · rw [if_neg hc]
    by_cases ho : c ∈ OPN
    · rw [if_pos ho]
      refine ⟨by simp, by simp; omega, by show Nd.wides [] ≤ _; rw [Nd.wides]; omega, fun g hg => ?_⟩
      rcases List.mem_cons.mp hg with rfl | hg
      · exact ⟨by show cur.length ≤ _; omega, by show Nd.wides cur ≤ _; omega⟩
      · have := h4 g hg
        omega
    · rw [if_neg ho]
      have hw := wides_snoc cur (.let_ c)
      have e0 : (Nd.let_ c).wide = 0 := by simp [Nd.wide]
      rw [e0] at hw
      refine ⟨by simp; omega, by show fs.length ≤ _; omega, by show Nd.wides (cur ++ [.let_ c]) ≤ _; omega, fun g hg => ?_⟩
      have := h4 g hg
      omega
theorem nbd_fold : ∀ (l : List Nat) (s : List (List Nd × Nat) × List Nd) (n : Nat), nbd s n → nbd (l.foldl nstep s) (n + l.length)
  | [], s, n, h => h
  | c :: l, s, n, h => by
    rw [List.foldl_cons, List.length_cons, show n + (l.length + 1) = (n + 1) + l.length by omega]
    exact nbd_fold l _ _ (nbd_step h)
theorem nst_bd (l : List Nat) : nbd (nst l) l.length := by
  have := nbd_fold l ([], []) 0 ⟨by simp, by simp, by rw [Nd.wides]; omega, by simp⟩
  rw [Nat.zero_add] at this
  exact this
/-- depths -/
def ndp (s : List (List Nd × Nat) × List Nd) (n : Nat) : Prop := Nd.deeps s.2 + s.1.length ≤ n ∧ ∀ j (f : List Nd × Nat), s.1[j]? = some f → Nd.deeps f.1 + (s.1.length - 1 - j) ≤ n
theorem deeps_snoc (ds : List Nd) (d : Nd) : Nd.deeps (ds ++ [d]) = max (Nd.deeps ds) (Nd.deep d) := by
  rw [deeps_app, Nd.deeps, Nd.deeps]
  omega
theorem ndp_step {s : List (List Nd × Nat) × List Nd} {n c : Nat} (h : ndp s n) : ndp (nstep s c) (n + if c ∈ OPN then 1 else 0) := by
  obtain ⟨fs, cur⟩ := s
  obtain ⟨h1, h4⟩ := h
  have h1' : Nd.deeps cur + fs.length ≤ n := h1
  unfold nstep
  by_cases hc : c ∈ CLO
  · rw [if_pos hc]
    cases fs with
    | nil => exact ⟨by show Nd.deeps cur + 0 ≤ _; simp at h1'; omega, fun j f hf => by cases hf⟩
    | cons f fs =>
      obtain ⟨ds, o⟩ := f
      have hf : Nd.deeps ds + (fs.length + 1 - 1 - 0) ≤ n := h4 0 (ds, o) rfl
      simp at h1'
      refine ⟨?_, fun j g hg => ?_⟩
      · show Nd.deeps (ds ++ [.br o cur]) + fs.length ≤ _
        rw [deeps_snoc, Nd.deep]
        omega
      · have hg' : Nd.deeps g.1 + (fs.length + 1 - 1 - (j + 1)) ≤ n := h4 (j + 1) g hg
        show Nd.deeps g.1 + (fs.length - 1 - j) ≤ _
        omega
  · rw [if_neg hc]
    by_cases ho : c ∈ OPN
    · rw [if_pos ho, if_pos ho]
      refine ⟨?_, fun j g hg => ?_⟩
      · show Nd.deeps [] + (fs.length + 1) ≤ _
        rw [Nd.deeps]
        omega
      · cases j with
        | zero =>
          have : g = (cur, c) := (Option.some.inj hg).symm
          subst this
          show Nd.deeps cur + (fs.length + 1 - 1 - 0) ≤ _
          omega
        | succ j =>
          have hg' : Nd.deeps g.1 + (fs.length - 1 - j) ≤ n := h4 j g hg
          show Nd.deeps g.1 + (fs.length + 1 - 1 - (j + 1)) ≤ _
          omega
    · rw [if_neg ho, if_neg ho]
      refine ⟨?_, fun j g hg => h4 j g hg⟩
      show Nd.deeps (cur ++ [.let_ c]) + fs.length ≤ _
      have e0 : (Nd.let_ c).deep = 0 := by simp [Nd.deep]
      rw [deeps_snoc, e0]
      omega
theorem ndp_fold : ∀ (l : List Nat) (s : List (List Nd × Nat) × List Nd) (n : Nat), ndp s n → ndp (l.foldl nstep s) (n + cntO l)
  | [], s, n, h => h
  | c :: l, s, n, h => by
    have e : cntO (c :: l) = (if c ∈ OPN then 1 else 0) + cntO l := by
      unfold cntO
      rw [List.countP_cons]
      simp
      omega
    rw [List.foldl_cons, e, ← Nat.add_assoc]
    exact ndp_fold l _ _ (ndp_step h)
/-- a clean text's nest is at most half as deep as it is long -/
theorem nest_deep {l : List Nat} (h : clean l) : 2 * Nd.deeps (nestD l) ≤ l.length := by
  have h1 := (ndp_fold l ([], []) 0 ⟨by show Nd.deeps [] + 0 ≤ 0; rw [Nd.deeps]; omega, fun j f hf => by cases hf⟩).1
  have h2 : Nd.deeps (nestD l) ≤ cntO l := by
    have : Nd.deeps (nst l).2 + (nst l).1.length ≤ 0 + cntO l := h1
    show Nd.deeps (nst l).2 ≤ _
    omega
  have h3 := clean_cnt h
  have h4 : cntO l + cntC l ≤ l.length := by
    have : ∀ l : List Nat, cntO l + cntC l ≤ l.length := by
      intro l
      induction l with
      | nil => simp [cntO, cntC]
      | cons c l ih =>
        have eO : cntO (c :: l) = cntO l + if c ∈ OPN then 1 else 0 := by unfold cntO; rw [List.countP_cons]; simp
        have eC : cntC (c :: l) = cntC l + if c ∈ CLO then 1 else 0 := by unfold cntC; rw [List.countP_cons]; simp
        rw [eO, eC, List.length_cons]
        by_cases h1 : c ∈ OPN
        · rw [if_pos h1, if_neg (opn_clo c h1)]
          omega
        · rw [if_neg h1]
          split <;> omega
    exact this l
  omega
end Ly
namespace Ly
mutual
/-- the text of a nest -/
def txI : Nd → List Nat
  | .let_ c => [c]
  | .num _ => []
  | .br o ds => o :: (txN ds ++ [oth o])
def txN : List Nd → List Nat
  | [] => []
  | d :: ds => txI d ++ txN ds
end
theorem txN_app : ∀ ds es : List Nd, txN (ds ++ es) = txN ds ++ txN es
  | [], es => by rw [List.nil_append, txN, List.nil_append]
  | d :: ds, es => by rw [List.cons_append, txN, txN_app ds es, txN, List.append_assoc]
theorem txN_one (d : Nd) : txN [d] = txI d := by rw [txN, txN, List.append_nil]
/-- the text of a nest being made -/
def txF : List (List Nd × Nat) → List Nat
  | [] => []
  | (ds, o) :: fs => txF fs ++ txN ds ++ [o]
def txS (s : List (List Nd × Nat) × List Nd) : List Nat := txF s.1 ++ txN s.2
theorem fold_tx : ∀ (l st : List Nat) (fs : List (List Nd × Nat)) (cur : List Nd) (r : List Nat), st = fs.map (fun p => oth p.2) → l.foldl stp (some st) = some r → txS (l.foldl nstep (fs, cur)) = txS (fs, cur) ++ l
  | [], st, fs, cur, r, h, e => by rw [List.append_nil]; rfl
  | c :: l, st, fs, cur, r, h, e => by
    rw [List.foldl_cons] at e ⊢
    by_cases h1 : c ∈ OPN
    · have h2 : c ∉ CLO := opn_clo c h1
      rw [stp_opn h1] at e
      have en : nstep (fs, cur) c = ((cur, c) :: fs, []) := by unfold nstep; rw [if_neg h2, if_pos h1]
      rw [en, fold_tx l _ _ _ r (by rw [h]; rfl) e]
      show txF fs ++ txN cur ++ [c] ++ txN [] ++ l = txF fs ++ txN cur ++ c :: l
      rw [txN]
      simp
    · by_cases h2 : c ∈ CLO
      · cases fs with
        | nil =>
          subst h
          have e0 : stp (some (List.map (fun p : List Nd × Nat => oth p.2) [])) c = none := by
            show stp (some []) c = none
            unfold stp
            simp only [h1, h2, if_true, if_false]
          rw [e0, fold_none] at e
          cases e
        | cons f fs =>
          obtain ⟨ds, o⟩ := f
          subst h
          by_cases hd : oth o = c
          · have e0 : stp (some (List.map (fun p : List Nd × Nat => oth p.2) ((ds, o) :: fs))) c = some (fs.map fun p => oth p.2) := by
              show stp (some (oth o :: fs.map fun p => oth p.2)) c = _
              rw [hd, stp_clo h2]
            rw [e0] at e
            have en : nstep ((ds, o) :: fs, cur) c = (fs, ds ++ [.br o cur]) := by unfold nstep; rw [if_pos h2]
            rw [en, fold_tx l _ _ _ r rfl e]
            show txF fs ++ txN (ds ++ [.br o cur]) ++ l = txF fs ++ txN ds ++ [o] ++ txN cur ++ c :: l
            rw [txN_app, txN_one, txI, hd]
            simp
          · have e0 : stp (some (List.map (fun p : List Nd × Nat => oth p.2) ((ds, o) :: fs))) c = none := by
              show stp (some (oth o :: fs.map fun p => oth p.2)) c = none
              unfold stp
              simp only [h1, h2, hd, if_true, if_false]
            rw [e0, fold_none] at e
            cases e
      · rw [stp_let h1 h2] at e
        have en : nstep (fs, cur) c = (fs, cur ++ [.let_ c]) := by unfold nstep; rw [if_neg h2, if_neg h1]
        rw [en, fold_tx l _ _ _ r h e]
        show txF fs ++ txN (cur ++ [.let_ c]) ++ l = txF fs ++ txN cur ++ c :: l
        rw [txN_app, txN_one, txI]
        simp
theorem tx_nest {l : List Nat} (h : clean l) : txN (nestD l) = l := by
  have e := fold_tx l [] [] [] [] rfl h
  have e1 : txS (nst l) = txS ([], []) ++ l := e
  have e2 : txS (nst l) = txN (nestD l) := by
    unfold txS nestD
    rw [nst_clean h]
    rfl
  have e3 : txS ([], []) = [] := by
    show txF [] ++ txN [] = []
    rw [txN]
    rfl
  rw [← e2, e1, e3]
  rfl
end Ly

set_option maxHeartbeats 4000000
namespace Ly
open PySem PySem.Spec PyProof.Rows L2 SX
/-! ### == and != of deep data -/
theorem Room.wide {k : Nat} {A : Around} (r : Room k A) : A.units + 190 < cLine := by have := r.un; omega
def rNeW (K : PySem.W.Frag) : R2 := fun x y H Q => ∃ d e, Dp K H x d ∧ Dp K H y e ∧ PyData.canLay0 d = true ∧ PyData.canLay0 e = true ∧ d.depth ≤ 190 ∧ Q (.bl (!PyData.eqv d e)) H
section
variable {X : Cx}
theorem op_neW (hu : X.A.units + 190 < cLine) : OpR X (compareOp .NotEq) (rNeW X.K) := by
  intro pins s σ H x y v u Q I rx ry h
  obtain ⟨d, e, hd, he, sd, se, hdp, q⟩ := h
  obtain ⟨as, r1⟩ := Dp.reads I d x v hd rx
  obtain ⟨bs, r2⟩ := Dp.reads I e y u he ry
  exact SeqAt.compareNe_reads r1 r2 sd se (by have := Nat.min_le_left d.depth e.depth; omega) ⟨.bl _, H, I, rfl, q⟩
end
/-! nests as data -/
mutual
def ndD : Nd → PyData
  | .let_ c => .str (S [c])
  | .num i => .int i
  | .br o ds => .tuple [.str (S [o]), .list (ndDs ds)]
def ndDs : List Nd → List PyData
  | [] => []
  | d :: ds => ndD d :: ndDs ds
end
mutual
theorem TrI.dp {K : PySem.W.Frag} {H : Hp} : ∀ {v : V} {d : Nd} {A : List Addr}, TrI H v d A → Dp K H v (ndD d)
  | _, _, _, .let_ c => by rw [ndD]; exact .str _
  | _, _, _, .num i => by rw [ndD]; exact .int i
  | _, _, _, .br ht hb hs => by
    rw [ndD]
    exact .tup (st_of ht) (.cons (.str _) (.cons (.lst (sq_of hb) (TrIs.dp hs)) .nil))
theorem TrIs.dp {K : PySem.W.Frag} {H : Hp} : ∀ {vs : List V} {ds : List Nd} {A : List Addr}, TrIs H vs ds A → DpAll K H vs (ndDs ds)
  | _, _, _, .nil => by rw [ndDs]; exact .nil
  | _, _, _, .cons hi hs => by rw [ndDs]; exact .cons (TrI.dp hi) (TrIs.dp hs)
end
end Ly
namespace Ly
open PySem PySem.Spec PyProof.Rows L2 SX
mutual
/-- brackets are brackets, letters letters, no numbers -/
def ndOk1 : Nd → Prop
  | .br o ds => o ∈ OPN ∧ ndOk ds
  | .let_ c => c ∈ LET
  | .num _ => False
def ndOk : List Nd → Prop
  | [] => True
  | d :: ds => ndOk1 d ∧ ndOk ds
end
theorem ndOk_app : ∀ ds es : List Nd, ndOk ds → ndOk es → ndOk (ds ++ es)
  | [], es, _, h => h
  | d :: ds, es, h1, h2 => by
    rw [ndOk] at h1
    rw [List.cons_append, ndOk]
    exact ⟨h1.1, ndOk_app ds es h1.2 h2⟩
theorem ndOk_one {d : Nd} (h : ndOk1 d) : ndOk [d] := by
  rw [ndOk, ndOk]
  exact ⟨h, trivial⟩
theorem ndOk_step {s : List (List Nd × Nat) × List Nd} {c : Nat} (hc : isSg c) (h : ndOk s.2 ∧ ∀ f ∈ s.1, ndOk f.1 ∧ f.2 ∈ OPN) : ndOk (nstep s c).2 ∧ ∀ f ∈ (nstep s c).1, ndOk f.1 ∧ f.2 ∈ OPN := by
  obtain ⟨fs, cur⟩ := s
  obtain ⟨h1, h2⟩ := h
  unfold nstep
  by_cases hk : c ∈ CLO
  · rw [if_pos hk]
    cases fs with
    | nil => exact ⟨h1, by simp⟩
    | cons f fs =>
      obtain ⟨ds, o⟩ := f
      have hf := h2 (ds, o) (List.mem_cons_self ..)
      refine ⟨ndOk_app _ _ hf.1 (ndOk_one ?_), fun g hg => h2 g (List.mem_cons_of_mem _ hg)⟩
      rw [ndOk1]
      exact ⟨hf.2, h1⟩
  · rw [if_neg hk]
    by_cases ho : c ∈ OPN
    · rw [if_pos ho]
      refine ⟨by show ndOk []; rw [ndOk]; trivial, fun g hg => ?_⟩
      rcases List.mem_cons.mp hg with rfl | hg
      · exact ⟨h1, ho⟩
      · exact h2 g hg
    · rw [if_neg ho]
      refine ⟨ndOk_app _ _ h1 (ndOk_one ?_), h2⟩
      rw [ndOk1]
      rcases hc with hc | hc
      · exact hc
      · rcases brk_or.mp hc with h | h
        · exact absurd h ho
        · exact absurd h hk
theorem ndOk_fold : ∀ (l : List Nat) (s : List (List Nd × Nat) × List Nd), (∀ c ∈ l, isSg c) → (ndOk s.2 ∧ ∀ f ∈ s.1, ndOk f.1 ∧ f.2 ∈ OPN) → ndOk (l.foldl nstep s).2 ∧ ∀ f ∈ (l.foldl nstep s).1, ndOk f.1 ∧ f.2 ∈ OPN
  | [], s, _, h => h
  | c :: l, s, hs, h => ndOk_fold l _ (fun x hx => hs x (List.mem_cons_of_mem _ hx)) (ndOk_step (hs c (List.mem_cons_self ..)) h)
theorem nest_ok {l : List Nat} (hs : ∀ c ∈ l, isSg c) : ndOk (nestD l) := (ndOk_fold l ([], []) hs ⟨by show ndOk []; rw [ndOk]; trivial, by simp⟩).1
mutual
theorem nd_depth1 : ∀ d : Nd, (ndD d).depth ≤ 2 * d.deep
  | .let_ c => by
    rw [ndD]
    exact Nat.zero_le _
  | .num i => by
    rw [ndD]
    exact Nat.zero_le _
  | .br o ds => by
    rw [ndD, Nd.deep]
    have := nd_depth ds
    show max 0 (max (PyData.depthAll (ndDs ds) + 1) 0) + 1 ≤ _
    omega
theorem nd_depth : ∀ ds : List Nd, PyData.depthAll (ndDs ds) ≤ 2 * Nd.deeps ds
  | [] => by
    rw [ndDs]
    exact Nat.zero_le _
  | d :: ds => by
    rw [ndDs, Nd.deeps]
    have h1 := nd_depth1 d
    have h2 := nd_depth ds
    show max (ndD d).depth (PyData.depthAll (ndDs ds)) ≤ _
    omega
end
end Ly
namespace Ly
open PySem PySem.Spec PyProof.Rows L2 SX
theorem str_can {c : Nat} (h : c < 1114112) : PyData.canLay0 (.str (S [c])) = true := can_tx (l := [c]) (fun x hx => by rw [List.mem_singleton] at hx; rw [hx]; exact h)
mutual
theorem nd_can1 : ∀ d : Nd, ndOk1 d → PyData.canLay0 (ndD d) = true
  | .let_ c, h => by
    rw [ndOk1] at h
    rw [ndD]
    exact str_can (sg_lt (.inl h))
  | .num i, h => by
    rw [ndD]
    rfl
  | .br o ds, h => by
    rw [ndOk1] at h
    rw [ndD]
    have h1 := nd_can ds h.2
    have h2 := str_can (sg_lt (.inr (brk_or.mpr (.inl h.1))))
    show (PyData.canLay0 (.str (S [o])) && (PyData.canLayAll0 (ndDs ds) && true)) = true
    rw [h1, h2]
    rfl
theorem nd_can : ∀ ds : List Nd, ndOk ds → PyData.canLayAll0 (ndDs ds) = true
  | [], _ => by
    rw [ndDs]
    rfl
  | d :: ds, h => by
    rw [ndOk] at h
    rw [ndDs]
    show (PyData.canLay0 (ndD d) && PyData.canLayAll0 (ndDs ds)) = true
    rw [nd_can1 d h.1, nd_can ds h.2]
    rfl
end
theorem g_neNest {K : PySem.W.Frag} {H : Hp} {Q : VK} {a b : Addr} {xs ys : List V} {ds : List Nd} {A B : List Addr} (ha : H a = some (.lst xs)) (ta : TrIs H xs ds A) (hb : H b = some (.lst ys)) (tb : TrIs H ys ds B) (hk : ndOk ds) (hd : Nd.deeps ds ≤ 90) (q : Q (.bl false) H) : rNeW K (.ref a) (.ref b) H Q := by
  have h1 := nd_can ds hk
  have h2 := nd_depth ds
  refine ⟨.list (ndDs ds), .list (ndDs ds), .lst (sq_of ha) (TrIs.dp ta), .lst (sq_of hb) (TrIs.dp tb), h1, h1, ?_, ?_⟩
  · show PyData.depthAll (ndDs ds) + 1 ≤ 190
    omega
  · rw [SeqAt.eqv_refl (.list (ndDs ds)) h1]
    exact q
end Ly
namespace Ly
mutual
/-- how many lists that are not empty stand one within another -/
def hgI : Nd → Nat
  | .br _ ds => hgt ds
  | .let_ _ => 0
  | .num _ => 0
def hgt : List Nd → Nat
  | [] => 0
  | d :: ds => max (hgI d + 1) (hgt ds)
end
theorem hgt_snoc : ∀ (ds : List Nd) (d : Nd), hgt (ds ++ [d]) = max (hgt ds) (hgI d + 1)
  | [], d => by
    have e0 : hgt [] = 0 := by rw [hgt]
    have e1 : hgt [d] = max (hgI d + 1) 0 := by rw [hgt, e0]
    rw [List.nil_append, e1, e0]
    omega
  | e :: ds, d => by
    rw [List.cons_append, hgt, hgt_snoc ds d, hgt]
    omega
def nhg (s : List (List Nd × Nat) × List Nd) (n : Nat) : Prop := s.1.length ≤ n ∧ 2 * hgt s.2 + s.1.length ≤ n + 1 ∧ ∀ j (f : List Nd × Nat), s.1[j]? = some f → 2 * hgt f.1 + (s.1.length - 1 - j) ≤ n + 1
theorem nhg_step {s : List (List Nd × Nat) × List Nd} {n c : Nat} (h : nhg s n) : nhg (nstep s c) (n + 1) := by
  obtain ⟨fs, cur⟩ := s
  obtain ⟨h0, h1, h4⟩ := h
  have h0' : fs.length ≤ n := h0
  have h1' : 2 * hgt cur + fs.length ≤ n + 1 := h1
  have e0 : hgt [] = 0 := by rw [hgt]
  unfold nstep
  by_cases hc : c ∈ CLO
  · rw [if_pos hc]
    cases fs with
    | nil => exact ⟨by simp, by show 2 * hgt cur + 0 ≤ _; simp at h1'; omega, fun j f hf => by cases hf⟩
    | cons f fs =>
      obtain ⟨ds, o⟩ := f
      have hf : 2 * hgt ds + (fs.length + 1 - 1 - 0) ≤ n + 1 := h4 0 (ds, o) rfl
      simp at h1' h0'
      refine ⟨by show fs.length ≤ _; omega, ?_, fun j g hg => ?_⟩
      · show 2 * hgt (ds ++ [.br o cur]) + fs.length ≤ _
        rw [hgt_snoc, hgI]
        omega
      · have hg' : 2 * hgt g.1 + (fs.length + 1 - 1 - (j + 1)) ≤ n + 1 := h4 (j + 1) g hg
        show 2 * hgt g.1 + (fs.length - 1 - j) ≤ _
        omega
  · rw [if_neg hc]
    by_cases ho : c ∈ OPN
    · rw [if_pos ho]
      refine ⟨by show fs.length + 1 ≤ _; omega, ?_, fun j g hg => ?_⟩
      · show 2 * hgt [] + (fs.length + 1) ≤ _
        rw [e0]
        omega
      · cases j with
        | zero =>
          have : g = (cur, c) := (Option.some.inj hg).symm
          subst this
          show 2 * hgt cur + (fs.length + 1 - 1 - 0) ≤ _
          omega
        | succ j =>
          have hg' : 2 * hgt g.1 + (fs.length - 1 - j) ≤ n + 1 := h4 j g hg
          show 2 * hgt g.1 + (fs.length + 1 - 1 - (j + 1)) ≤ _
          omega
    · rw [if_neg ho]
      refine ⟨by show fs.length ≤ _; omega, ?_, fun j g hg => ?_⟩
      · show 2 * hgt (cur ++ [.let_ c]) + fs.length ≤ _
        rw [hgt_snoc, hgI]
        omega
      · have := h4 j g hg
        show 2 * hgt g.1 + (fs.length - 1 - j) ≤ _
        have h' : 2 * hgt g.1 + (fs.length - 1 - j) ≤ n + 1 := this
        omega
theorem nhg_fold : ∀ (l : List Nat) (s : List (List Nd × Nat) × List Nd) (n : Nat), nhg s n → nhg (l.foldl nstep s) (n + l.length)
  | [], s, n, h => h
  | c :: l, s, n, h => by
    rw [List.foldl_cons, List.length_cons, show n + (l.length + 1) = (n + 1) + l.length by omega]
    exact nhg_fold l _ _ (nhg_step h)
theorem nest_hgt (l : List Nat) : 2 * hgt (nestD l) ≤ l.length + 1 := by
  have e0 : hgt [] = 0 := by rw [hgt]
  have h := (nhg_fold l ([], []) 0 ⟨by simp, by show 2 * hgt [] + 0 ≤ 1; rw [e0]; omega, fun j f hf => by cases hf⟩).2.1
  have h' : 2 * hgt (nst l).2 + (nst l).1.length ≤ 0 + l.length + 1 := h
  show 2 * hgt (nst l).2 ≤ _
  omega
end Ly

set_option maxHeartbeats 4000000
namespace Ly
open PySem PySem.Spec PyProof.Rows L2 SX
/-! ### more steps -/
theorem kb_str_str : kitB "str" "str" = some true := by decide +kernel
theorem kb_str_int : kitB "str" "int" = some false := by decide +kernel
theorem kb_str_bool : kitB "str" "bool" = some false := by decide +kernel
theorem kb_str_list : kitB "str" "list" = some false := by decide +kernel
theorem kb_str_tuple : kitB "str" "tuple" = some false := by decide +kernel
theorem kb_int_str : kitB "int" "str" = some false := by decide +kernel
theorem kb_int_int : kitB "int" "int" = some true := by decide +kernel
theorem kb_int_bool : kitB "int" "bool" = some false := by decide +kernel
theorem kb_int_list : kitB "int" "list" = some false := by decide +kernel
theorem kb_int_tuple : kitB "int" "tuple" = some false := by decide +kernel
theorem kb_bool_str : kitB "bool" "str" = some false := by decide +kernel
theorem kb_bool_int : kitB "bool" "int" = some true := by decide +kernel
theorem kb_bool_bool : kitB "bool" "bool" = some true := by decide +kernel
theorem kb_bool_list : kitB "bool" "list" = some false := by decide +kernel
theorem kb_bool_tuple : kitB "bool" "tuple" = some false := by decide +kernel
theorem kb_list_str : kitB "list" "str" = some false := by decide +kernel
theorem kb_list_int : kitB "list" "int" = some false := by decide +kernel
theorem kb_list_bool : kitB "list" "bool" = some false := by decide +kernel
theorem kb_list_list : kitB "list" "list" = some true := by decide +kernel
theorem kb_list_tuple : kitB "list" "tuple" = some false := by decide +kernel
theorem kb_tuple_str : kitB "tuple" "str" = some false := by decide +kernel
theorem kb_tuple_int : kitB "tuple" "int" = some false := by decide +kernel
theorem kb_tuple_bool : kitB "tuple" "bool" = some false := by decide +kernel
theorem kb_tuple_list : kitB "tuple" "list" = some false := by decide +kernel
theorem kb_tuple_tuple : kitB "tuple" "tuple" = some true := by decide +kernel
theorem kb_NoneType_str : kitB "NoneType" "str" = some false := by decide +kernel
theorem kb_NoneType_int : kitB "NoneType" "int" = some false := by decide +kernel
theorem kb_NoneType_bool : kitB "NoneType" "bool" = some false := by decide +kernel
theorem kb_NoneType_list : kitB "NoneType" "list" = some false := by decide +kernel
theorem kb_NoneType_tuple : kitB "NoneType" "tuple" = some false := by decide +kernel
theorem kb_dict_str : kitB "dict" "str" = some false := by decide +kernel
theorem kb_dict_int : kitB "dict" "int" = some false := by decide +kernel
theorem kb_dict_bool : kitB "dict" "bool" = some false := by decide +kernel
theorem kb_dict_list : kitB "dict" "list" = some false := by decide +kernel
theorem kb_dict_tuple : kitB "dict" "tuple" = some false := by decide +kernel
section
variable {K : PySem.W.Frag} {σ : L2.St} {H : Hp} {Q : VK} {A B : Prop} {p a : Addr} {xs : List V} {v : V} {i : Int}
theorem g_T (q : A) : ∃ k, V.bl true = V.bl k ∧ if k = true then A else B := ⟨true, rfl, by rw [if_pos rfl]; exact q⟩
theorem g_F (q : B) : ∃ k, V.bl false = V.bl k ∧ if k = true then A else B := ⟨false, rfl, by rw [if_neg Bool.false_ne_true]; exact q⟩
theorem g_NT (q : B) : ∃ k, V.bl true = V.bl k ∧ if (!k) = true then A else B := ⟨true, rfl, q⟩
theorem g_NF (q : A) : ∃ k, V.bl false = V.bl k ∧ if (!k) = true then A else B := ⟨false, rfl, q⟩
theorem g_nT (q : A) : ∃ k, V.bl (!true) = V.bl k ∧ if k = true then B else A := ⟨false, rfl, q⟩
theorem g_nF (q : B) : ∃ k, V.bl (!false) = V.bl k ∧ if k = true then B else A := ⟨true, rfl, q⟩
theorem g_Td {c : Prop} [Decidable c] (h : c) (q : A) : ∃ k, V.bl (decide c) = V.bl k ∧ if k = true then A else B := by rw [decide_eq_true h]; exact g_T q
theorem g_Fd {c : Prop} [Decidable c] (h : ¬ c) (q : B) : ∃ k, V.bl (decide c) = V.bl k ∧ if k = true then A else B := by rw [decide_eq_false h]; exact g_F q
theorem g_NTd {c : Prop} [Decidable c] (h : c) (q : B) : ∃ k, V.bl (decide c) = V.bl k ∧ if (!k) = true then A else B := by rw [decide_eq_true h]; exact g_NT q
theorem g_NFd {c : Prop} [Decidable c] (h : ¬ c) (q : A) : ∃ k, V.bl (decide c) = V.bl k ∧ if (!k) = true then A else B := by rw [decide_eq_false h]; exact g_NF q
theorem g_nTd {c : Prop} [Decidable c] (h : c) (q : B) : ∃ k, V.bl (!decide c) = V.bl k ∧ if k = true then A else B := by rw [decide_eq_true h]; exact g_F q
theorem g_nFd {c : Prop} [Decidable c] (h : ¬ c) (q : A) : ∃ k, V.bl (!decide c) = V.bl k ∧ if k = true then A else B := by rw [decide_eq_false h]; exact g_T q
/-- a test that is told as a truth R of its answer -/
theorem g_RT {R : Bool → Hp → Prop} (q : R true H) : ∃ k, V.bl true = V.bl k ∧ R k H := ⟨_, rfl, q⟩
theorem g_RF {R : Bool → Hp → Prop} (q : R false H) : ∃ k, V.bl false = V.bl k ∧ R k H := ⟨_, rfl, q⟩
theorem g_RTd {c : Prop} [Decidable c] {R : Bool → Hp → Prop} (h : c) (q : R true H) : ∃ k, V.bl (decide c) = V.bl k ∧ R k H := ⟨_, rfl, by rw [decide_eq_true h]; exact q⟩
theorem g_RFd {c : Prop} [Decidable c] {R : Bool → Hp → Prop} (h : ¬ c) (q : R false H) : ∃ k, V.bl (decide c) = V.bl k ∧ R k H := ⟨_, rfl, by rw [decide_eq_false h]; exact q⟩
theorem g_eqS {x : V} (h : scal x x = true) (q : Q (.bl true) H) : rEq x x H Q := ⟨h, by rw [decide_eq_true rfl]; exact q⟩
theorem g_neS {x : V} (h : scal x x = true) (q : Q (.bl false) H) : rNe x x H Q := ⟨h, by rw [decide_eq_true rfl]; exact q⟩
theorem g_ixAU3 (h : H p = some (.tup xs)) (h1 : atI xs i = some v) (q : Q v H) : rIx K (.ref p) (.int i) H Q := .inr (.inl (g_ixU (st_of h) h1 q))
theorem g_ixAL3 (h : H p = some (.lst xs)) (h1 : atI xs i = some v) (q : Q v H) : rIx K (.ref p) (.int i) H Q := .inl (g_ixL (sq_of h) h1 q)
theorem g_ixU3 (h : H p = some (.tup xs)) (h1 : atI xs i = some v) (q : Q v H) : rIxT K (.ref p) (.int i) H Q := g_ixU (st_of h) h1 q
theorem g_lenL3 (h : H p = some (.lst xs)) (q : Q (.int xs.length) H) : rLenL K [.ref p] H Q := g_lenL (sq_of h) q
theorem g_lenU3 (h : H p = some (.tup xs)) (q : Q (.int xs.length) H) : rLenL K [.ref p] H Q := g_lenU (st_of h) q
theorem ty_non : TyX K H .non (.type "NoneType") := .base .non
theorem g_tyL3 (h : H p = some (.lst xs)) (q : A) : tyV K "list" (.ref p) H ∧ A := ⟨g_tyL (sq_of h), q⟩
end
end Ly

set_option maxHeartbeats 4000000
namespace Ly
open PySem PySem.Spec PyProof.Rows L2 SX
/-! ### outlines -/
theorem Bld.closes {N : Addr → Prop} {H : Hp} {l : List Nat} (hc : clean l) : ∀ (cl pre post : List Nat) (b : Addr) (bs : List Addr), l = pre ++ (cl ++ post) → (∀ d ∈ cl, d ∈ CLO) → Bld N H b bs (nst pre).1 (nst pre).2 →
    ∃ b' bs', (b :: bs).drop cl.length = b' :: bs' ∧ Bld N H b' bs' (nst (pre ++ cl)).1 (nst (pre ++ cl)).2
  | [], pre, post, b, bs, e, h, B => ⟨b, bs, rfl, by rw [List.append_nil]; exact B⟩
  | c :: cl, pre, post, b, bs, e, h, B => by
    have hk := h c (List.mem_cons_self ..)
    obtain ⟨ds, o, fs, hf, _⟩ := nst_clo (post := cl ++ post) hc e hk
    rw [hf] at B
    obtain ⟨b0, bs0, rfl, B0⟩ := B.close
    have en : nst (pre ++ [c]) = (fs, ds ++ [.br o (nst pre).2]) := by
      rw [nst_snoc]
      unfold nstep
      rw [if_pos hk, hf]
    obtain ⟨b', bs', h1, h2⟩ := Bld.closes hc cl (pre ++ [c]) post b0 bs0 (by rw [e]; simp) (fun d hd => h d (List.mem_cons_of_mem _ hd)) (by rw [en]; exact B0)
    refine ⟨b', bs', by simpa using h1, ?_⟩
    rw [show pre ++ c :: cl = pre ++ [c] ++ cl by simp]
    exact h2
/-! ### text.split(sign) -/
section
variable {X : Cx}
end
theorem cut_to {xs : List V} {n : Nat} : cutV xs none (some (n : Int)) = xs.take n := by
  unfold cutV
  rw [HT.sIx_none, HT.sIx_nat, List.drop_zero, Nat.sub_zero]
  rcases Nat.le_total n xs.length with h | h
  · rw [Nat.min_eq_left h]
  · rw [Nat.min_eq_right h, List.take_length, List.take_of_length_le h]
theorem cut_from {xs : List V} {n : Nat} : cutV xs (some (n : Int)) none = xs.drop n := by
  unfold cutV
  rw [HT.sIx_none, HT.sIx_nat]
  rcases Nat.le_total n xs.length with h | h
  · rw [Nat.min_eq_left h]
    exact List.take_of_length_le (by rw [List.length_drop]; omega)
  · rw [Nat.min_eq_right h, List.drop_length, List.drop_of_length_le h]
    simp
end Ly

set_option maxHeartbeats 4000000
namespace Ly
open PySem PySem.Spec PyProof.Rows L2 SX
/-! ### sorted(text) -/
section
variable {prog : Program} {w : World} {A : Around} {E : Value → Shared → Prop} {s : Shared}
end
section
variable {X : Cx}
end
end Ly

set_option maxHeartbeats 4000000
namespace Ly
open PySem PySem.Spec PyProof.Rows L2 SX
/-! ### text[::-1] -/
section
variable {X : Cx}
def rRevT (x : V) (H : Hp) (Q : VK) : Prop := ∃ l : List Nat, x = Tx l ∧ l.length ≤ 100000 ∧ Q (Tx l.reverse) H
def tRevS (te : TE) : TE := fun σ H Q => te σ H fun x H1 => rRevT x H1 Q
def rReplT (y z : List Nat) (x : V) (H : Hp) (Q : VK) : Prop := ∃ l : List Nat, x = Tx l ∧ l.length ≤ 1000 ∧ z.length ≤ 10 ∧ Q (.str (Txt.replace (S l) (S y) (S z))) H
def tReplT (to : TE) (y z : List Nat) : TE := fun σ H Q => to σ H fun v H1 => rReplT y z v H1 Q
end
end Ly
namespace Ly
open PySem PySem.Spec PyProof.Rows L2 SX PySem.StrLaws
end Ly

set_option maxHeartbeats 4000000
namespace Ly
/-! ### least numbers of deeds: strikes and turns -/
/-- how many of two brackets are to be turned -/
def tns (c d : Nat) : Nat := if c ∈ CLO ∨ d ∈ OPN then (if c ∈ CLO then 1 else 0) + (if d ∈ OPN then 1 else 0) else if knd c = knd d then 0 else 1
inductive Mn (l : List Nat) : Nat → Nat → Nat → Prop
  | nil (i : Nat) : Mn l i i 0
  | let_ {i j n c : Nat} : l[i]? = some c → c ∉ BRK → Mn l (i + 1) j n → Mn l i j n
  | str {i j n c : Nat} : l[i]? = some c → c ∈ BRK → Mn l (i + 1) j n → Mn l i j (n + 1)
  | pair {i m j a b c d : Nat} : l[i]? = some c → c ∈ BRK → l[m]? = some d → d ∈ BRK → Mn l (i + 1) m a → Mn l (m + 1) j b → Mn l i j (tns c d + a + b)
theorem Mn.le {l : List Nat} {i j n : Nat} (h : Mn l i j n) : i ≤ j := by
  induction h with
  | nil i => exact Nat.le_refl _
  | let_ _ _ _ ih => omega
  | str _ _ _ ih => omega
  | pair _ _ _ _ _ _ ih1 ih2 => omega
theorem Mn.self {l : List Nat} {i n : Nat} (h : Mn l i i n) : n = 0 := by
  cases h with
  | nil => rfl
  | let_ _ _ h => have := h.le; omega
  | str _ _ h => have := h.le; omega
  | pair _ _ _ _ h1 h2 => have := h1.le; have := h2.le; omega
theorem Mn.app {l : List Nat} {i m j a b : Nat} (h : Mn l i m a) (h2 : Mn l m j b) : Mn l i j (a + b) := by
  induction h with
  | nil i => rw [Nat.zero_add]; exact h2
  | let_ e1 e2 _ ih => exact .let_ e1 e2 (ih h2)
  | @str i j n c e1 e2 _ ih =>
    rw [show n + 1 + b = n + b + 1 by omega]
    exact .str e1 e2 (ih h2)
  | @pair i m j a b' c d e1 e2 e3 e4 h3 _ _ ih =>
    rw [Nat.add_assoc]
    exact .pair e1 e2 e3 e4 h3 (ih h2)
theorem Mn.one_str {l : List Nat} {i c : Nat} (e : l[i]? = some c) (h : c ∈ BRK) : Mn l i (i + 1) 1 := .str e h (.nil _)
theorem Mn.last {l : List Nat} {i j n : Nat} (h : Mn l i j n) : i < j → ∃ c, l[j - 1]? = some c ∧ ((c ∉ BRK ∧ Mn l i (j - 1) n) ∨ (c ∈ BRK ∧ ((∃ n', n = n' + 1 ∧ Mn l i (j - 1) n') ∨ ∃ m d a b, i ≤ m ∧ m < j - 1 ∧ l[m]? = some d ∧ d ∈ BRK ∧ Mn l i m a ∧ Mn l (m + 1) (j - 1) b ∧ n = tns d c + a + b))) := by
  induction h with
  | nil i => intro h; omega
  | @let_ i j n c e1 e2 h ih =>
    intro hij
    by_cases hj : i + 1 = j
    · subst hj
      have := h.self
      subst this
      exact ⟨c, by simpa using e1, .inl ⟨e2, .nil _⟩⟩
    · obtain ⟨c', h1, h2⟩ := ih (by have := h.le; omega)
      refine ⟨c', h1, ?_⟩
      rcases h2 with ⟨h2, h3⟩ | ⟨h2, ⟨n', rfl, h3⟩ | ⟨m, d, a, b, g1, g2, g3, g4, g5, g6, rfl⟩⟩
      · exact .inl ⟨h2, .let_ e1 e2 h3⟩
      · exact .inr ⟨h2, .inl ⟨n', rfl, .let_ e1 e2 h3⟩⟩
      · exact .inr ⟨h2, .inr ⟨m, d, a, b, by omega, g2, g3, g4, .let_ e1 e2 g5, g6, rfl⟩⟩
  | @str i j n c e1 e2 h ih =>
    intro hij
    by_cases hj : i + 1 = j
    · subst hj
      have := h.self
      subst this
      exact ⟨c, by simpa using e1, .inr ⟨e2, .inl ⟨0, rfl, .nil _⟩⟩⟩
    · obtain ⟨c', h1, h2⟩ := ih (by have := h.le; omega)
      refine ⟨c', h1, ?_⟩
      rcases h2 with ⟨h2, h3⟩ | ⟨h2, ⟨n', rfl, h3⟩ | ⟨m, d, a, b, g1, g2, g3, g4, g5, g6, rfl⟩⟩
      · exact .inl ⟨h2, .str e1 e2 h3⟩
      · exact .inr ⟨h2, .inl ⟨n' + 1, rfl, .str e1 e2 h3⟩⟩
      · exact .inr ⟨h2, .inr ⟨m, d, a + 1, b, by omega, g2, g3, g4, .str e1 e2 g5, g6, by omega⟩⟩
  | @pair i m j a b c d e1 e2 e3 e4 h1 h2 ih1 ih2 =>
    intro hij
    by_cases hj : m + 1 = j
    · subst hj
      have := h2.self
      subst this
      have hm := h1.le
      exact ⟨d, by simpa using e3, .inr ⟨e4, .inr ⟨i, c, 0, a, Nat.le_refl _, by omega, e1, e2, .nil _, by simpa using h1, by omega⟩⟩⟩
    · have hm := h1.le
      obtain ⟨c', g1, g2⟩ := ih2 (by have := h2.le; omega)
      refine ⟨c', g1, ?_⟩
      rcases g2 with ⟨g2, g3⟩ | ⟨g2, ⟨n', rfl, g3⟩ | ⟨m', d', a', b', k1, k2, k3, k4, k5, k6, rfl⟩⟩
      · exact .inl ⟨g2, .pair e1 e2 e3 e4 h1 g3⟩
      · exact .inr ⟨g2, .inl ⟨tns c d + a + n', by omega, .pair e1 e2 e3 e4 h1 g3⟩⟩
      · exact .inr ⟨g2, .inr ⟨m', d', tns c d + a + a', b', by omega, k2, k3, k4, .pair e1 e2 e3 e4 h1 k5, k6, by omega⟩⟩
/-- the least that is so -/
def Lst (P : Nat → Prop) (n : Nat) : Prop := P n ∧ ∀ m, P m → n ≤ m
theorem Lst.ex {P : Nat → Prop} : ∀ n, P n → ∃ n, Lst P n := by
  intro n
  induction n using Nat.strongRecOn with
  | ind n ih =>
    intro h
    by_cases hm : ∃ m, m < n ∧ P m
    · obtain ⟨m, h1, h2⟩ := hm
      exact ih m h1 h2
    · exact ⟨n, h, fun m hp => Nat.le_of_not_lt fun hlt => hm ⟨m, hlt, hp⟩⟩
theorem Lst.uniq {P : Nat → Prop} {n m : Nat} (h1 : Lst P n) (h2 : Lst P m) : n = m := Nat.le_antisymm (h1.2 m h2.1) (h2.2 n h1.1)
open Classical in
noncomputable def lstN (l : List Nat) (i j : Nat) : Nat := if h : ∃ n, Lst (Mn l i j) n then Classical.choose h else 0
theorem Mn.ex (l : List Nat) : ∀ (k i : Nat), i + k ≤ l.length → ∃ n, Mn l i (i + k) n
  | 0, i, _ => ⟨0, .nil _⟩
  | k + 1, i, h => by
    obtain ⟨n, hn⟩ := Mn.ex l k (i + 1) (by omega)
    rw [show i + 1 + k = i + (k + 1) by omega] at hn
    have e : l[i]? = some l[i] := List.getElem?_eq_getElem (by omega)
    by_cases hb : l[i] ∈ BRK
    · exact ⟨n + 1, .str e hb hn⟩
    · exact ⟨n, .let_ e hb hn⟩
theorem lstN_spec {l : List Nat} {i j : Nat} (h1 : i ≤ j) (h2 : j ≤ l.length) : Lst (Mn l i j) (lstN l i j) := by
  have hx : ∃ n, Lst (Mn l i j) n := by
    obtain ⟨n, hn⟩ := Mn.ex l (j - i) i (by omega)
    rw [show i + (j - i) = j by omega] at hn
    exact Lst.ex n hn
  unfold lstN
  rw [dif_pos hx]
  exact Classical.choose_spec hx
theorem lstN_of {l : List Nat} {i j n : Nat} (h1 : i ≤ j) (h2 : j ≤ l.length) (h : Lst (Mn l i j) n) : lstN l i j = n := (lstN_spec h1 h2).uniq h
/-! by the first sign -/
/-! by the last sign -/
/-- the numbers that are looked at for a last bracket: the least one so far -/
def LwB (l : List Nat) (i j c k n : Nat) : Prop := Mn l i (j + 1) n ∧ n ≤ lstN l i j + 1 ∧ ∀ m d, i ≤ m → m < i + k → m < j → l[m]? = some d → d ∈ BRK → n ≤ lstN l i m + lstN l (m + 1) j + tns d c
theorem LwB.start {l : List Nat} {i j c : Nat} (hi : i ≤ j) (hj : j < l.length) (e : l[j]? = some c) (hb : c ∈ BRK) : LwB l i j c 0 (lstN l i j + 1) :=
  ⟨(lstN_spec hi (by omega)).1.app (.one_str e hb), Nat.le_refl _, fun m d h1 h2 => by omega⟩
theorem LwB.skip {l : List Nat} {i j c k n d : Nat} (h : LwB l i j c k n) (e : l[i + k]? = some d) (hd : d ∉ BRK) : LwB l i j c (k + 1) n := by
  refine ⟨h.1, h.2.1, fun m d' h1 h2 h3 h4 h5 => ?_⟩
  by_cases hm : m < i + k
  · exact h.2.2 m d' h1 hm h3 h4 h5
  · have : m = i + k := by omega
    subst this
    rw [e] at h4
    exact absurd (Option.some.inj h4 ▸ h5) hd
theorem LwB.step {l : List Nat} {i j c k n d : Nat} (h : LwB l i j c k n) (hj : j < l.length) (ec : l[j]? = some c) (hc : c ∈ BRK) (hk : i + k < j) (e : l[i + k]? = some d) (hd : d ∈ BRK) : LwB l i j c (k + 1) (min n (lstN l i (i + k) + lstN l (i + k + 1) j + tns d c)) := by
  have s1 := lstN_spec (l := l) (show i ≤ i + k by omega) (by omega)
  have s2 := lstN_spec (l := l) (show i + k + 1 ≤ j by omega) (by omega)
  refine ⟨?_, by have := h.2.1; omega, fun m d' h1 h2 h3 h4 h5 => ?_⟩
  · rcases Nat.le_total n (lstN l i (i + k) + lstN l (i + k + 1) j + tns d c) with hq | hq
    · rw [Nat.min_eq_left hq]
      exact h.1
    · rw [Nat.min_eq_right hq]
      have := s1.1.app (Mn.pair e hd ec hc s2.1 (.nil _))
      rw [show lstN l i (i + k) + lstN l (i + k + 1) j + tns d c = lstN l i (i + k) + (tns d c + lstN l (i + k + 1) j + 0) by omega]
      exact this
  · by_cases hm : m < i + k
    · have := h.2.2 m d' h1 hm h3 h4 h5
      omega
    · have : m = i + k := by omega
      subst this
      rw [e] at h4
      have := Option.some.inj h4
      subst this
      exact Nat.min_le_right _ _
theorem LwB.fin {l : List Nat} {i j c n : Nat} (hi : i ≤ j) (hj : j < l.length) (ec : l[j]? = some c) (hc : c ∈ BRK) (h : LwB l i j c (j - i) n) : lstN l i (j + 1) = n := by
  refine lstN_of (by omega) (by omega) ⟨h.1, fun x hx => ?_⟩
  obtain ⟨c', h1, h2⟩ := hx.last (by omega)
  rw [Nat.add_sub_cancel] at h1 h2
  rw [ec] at h1
  have := Option.some.inj h1
  subst this
  rcases h2 with ⟨h2, _⟩ | ⟨_, ⟨n', rfl, h3⟩ | ⟨m, d, a, b, g1, g2, g3, g4, g5, g6, rfl⟩⟩
  · exact absurd hc h2
  · have := (lstN_spec (l := l) hi (by omega)).2 _ h3
    have := h.2.1
    omega
  · have k1 := (lstN_spec (l := l) g1 (by omega)).2 _ g5
    have k2 := (lstN_spec (l := l) (show m + 1 ≤ j by omega) (by omega)).2 _ g6
    have := h.2.2 m d g1 (by omega) g2 g3 g4
    omega
/-! reckoned -/
end Ly

set_option maxHeartbeats 4000000
namespace Ly
open PySem PySem.Spec PyProof.Rows L2 SX
/-! ### dicts whose keys are pairs of whole numbers -/
section
variable {K : PySem.W.Frag} {σ : L2.St} {H H1 : Hp} {Q : VK} {R : Hp → Prop} {a b p : Addr} {i j : Int} {v : V} {n : Nat} {td ty tv : TE} {D : Ends} {xs : List V}
def rDGet (x y : V) (H : Hp) (Q : VK) : Prop := ∃ a v, x = .ref a ∧ DGet H a y (some v) ∧ Q v H
def rDPut (x y v : V) (H : Hp) (R : Hp → Prop) : Prop := ∃ a H4, x = .ref a ∧ DPut H a y v H4 ∧ R H4
def rDNewT (H : Hp) (Q : VK) : Prop := ∀ p, H p = none → Q (.ref p) (upd H p (.dT []))
theorem tDGet_eq : tDGet td ty σ H Q = td σ H fun x H1 => ty σ H1 fun y H2 => rDGet x y H2 Q := rfl
theorem sDPut_eq : sDPut td ty tv D σ H = tv σ H fun v H1 => td σ H1 fun x H2 => ty σ H2 fun y H3 => rDPut x y v H3 (D.nx σ) := rfl
theorem tDNewT_eq : tDNewT σ H Q = rDNewT H Q := rfl
/-- at a stands a dict of pairs, f tells what it holds, at most n entries -/
def DTab (H : Hp) (a : Addr) (f : Int → Int → Option V) (n : Nat) : Prop := ∃ kvs : List (List Key × V), H a = some (.dT kvs) ∧ kvs.length ≤ n ∧ ∀ i j, valV kvs [.inl i, .inl j] = f i j
theorem DTab.same {f : Int → Int → Option V} (h : DTab H a f n) (s : Same H H1) : DTab H1 a f n := by
  obtain ⟨kvs, h1, h2⟩ := h
  exact ⟨kvs, s _ _ h1, h2⟩
theorem DTab.but {f : Int → Int → Option V} (h : DTab H a f n) (s : But p H H1) (hn : a ≠ p) : DTab H1 a f n := by
  obtain ⟨kvs, h1, h2⟩ := h
  exact ⟨kvs, s _ _ hn h1, h2⟩
theorem DTab.ne {f : Int → Int → Option V} (h : DTab H a f n) (hb : H b = none) : a ≠ b := by
  obtain ⟨kvs, h1, h2⟩ := h
  exact ne_new hb h1
/-! ### places told as natural numbers -/
theorem g_ixLn {x : Int} (k : Nat) (h : SqL K H p xs) (hk : x = (k : Int)) (h1 : xs[k]? = some v) (q : Q v H) : rIxL K (.ref p) (.int x) H Q := by
  subst hk
  exact g_ixL h (atI_of h1) q
theorem g_ixTn {l : List Nat} {x : Int} {c : Nat} (k : Nat) (h : l.length ≤ 100000) (hk : x = (k : Int)) (h1 : l[k]? = some c) (q : Q (Tx [c]) H) : rIxT1 (Tx l) (.int x) H Q := by
  subst hk
  exact g_ixT h (atI_of h1) q
theorem g_setLn {x : Int} (k : Nat) (h : H p = some (.lst xs)) (hk : x = (k : Int)) (h1 : k < xs.length) (q : ∀ H1, But p H H1 → H1 p = some (.lst (xs.set k v)) → R H1) : rSetL (.ref p) (.int x) v H R := by
  subst hk
  exact g_setL h (ixN_nat h1) q
/-! ### min, max -/
end
section
variable {X : Cx}
def rMin2 : List V → Hp → VK → Prop := fun xs H Q => ∃ i j : Int, xs = [.int i, .int j] ∧ Q (.int (min i j)) H
def rMax2 : List V → Hp → VK → Prop := fun xs H Q => ∃ i j : Int, xs = [.int i, .int j] ∧ Q (.int (max i j)) H
theorem call_min2' (hc : X.calm = true) : CallR X (.builtin "min") rMin2 := fun pins s σ H xs us Q I r h => by
  obtain ⟨i, j, rfl, q⟩ := h
  refine call_min2 hc pins s σ H _ us Q I r ⟨i, j, rfl, ?_⟩
  have e : (if j < i then j else i) = min i j := by split <;> omega
  rw [e]
  exact q
theorem g_min2 {H : Hp} {Q : VK} {i j : Int} (q : Q (.int (min i j)) H) : rMin2 [.int i, .int j] H Q := ⟨i, j, rfl, q⟩
theorem g_max2 {H : Hp} {Q : VK} {i j : Int} (q : Q (.int (max i j)) H) : rMax2 [.int i, .int j] H Q := ⟨i, j, rfl, q⟩
end
/-! ### a list of lists, each its own -/
/-- at d the list of the lists rs; the k-th holds f k -/
structure Tab (H : Hp) (d : Addr) (rs : List Addr) (f : Nat → List V) : Prop where
  hd : H d = some (.lst (rs.map V.ref))
  r : ∀ k r, rs[k]? = some r → H r = some (.lst (f k))
  nd : rs.Nodup
  nin : d ∉ rs
theorem Tab.same {H H' : Hp} {d : Addr} {rs : List Addr} {f : Nat → List V} (T : Tab H d rs f) (s : Same H H') : Tab H' d rs f := ⟨s _ _ T.hd, fun k r h => s _ _ (T.r k r h), T.nd, T.nin⟩
theorem Tab.but {H H' : Hp} {d p : Addr} {rs : List Addr} {f : Nat → List V} (T : Tab H d rs f) (s : But p H H') (h1 : p ≠ d) (h2 : p ∉ rs) : Tab H' d rs f :=
  ⟨s _ _ (Ne.symm h1) T.hd, fun k r h => s _ _ (fun e => h2 (by rw [← e]; exact List.mem_of_getElem? h)) (T.r k r h), T.nd, T.nin⟩
theorem Tab.fresh {H : Hp} {d p : Addr} {rs : List Addr} {f : Nat → List V} (T : Tab H d rs f) (h : H p = none) : p ≠ d ∧ p ∉ rs := by
  refine ⟨fun e => ?_, fun e => ?_⟩
  · have := T.hd
    rw [← e, h] at this
    cases this
  · obtain ⟨k, hk⟩ := List.getElem?_of_mem e
    have := T.r k p hk
    rw [h] at this
    cases this
/-- one row set -/
theorem Tab.set {H H' : Hp} {d r : Addr} {rs : List Addr} {f : Nat → List V} {k : Nat} {xs : List V} (T : Tab H d rs f) (hk : rs[k]? = some r) (s : But r H H') (h : H' r = some (.lst xs)) : Tab H' d rs (fun i => if i = k then xs else f i) := by
  have hr : r ∈ rs := List.mem_of_getElem? hk
  refine ⟨s _ _ (fun e => T.nin (by rw [e]; exact hr)) T.hd, fun i q hi => ?_, T.nd, T.nin⟩
  by_cases e : i = k
  · subst e
    rw [hk] at hi
    have := Option.some.inj hi
    subst this
    rw [if_pos rfl]
    exact h
  · rw [if_neg e]
    refine s _ _ (fun e2 => e ?_) (T.r i q hi)
    subst e2
    obtain ⟨h1, e1⟩ := List.getElem?_eq_some_iff.mp hi
    obtain ⟨h2, e2⟩ := List.getElem?_eq_some_iff.mp hk
    exact (List.getElem_inj T.nd).mp (e1.trans e2.symm)
theorem Tab.congr {H : Hp} {d : Addr} {rs : List Addr} {f g : Nat → List V} (T : Tab H d rs f) (h : ∀ k, k < rs.length → f k = g k) : Tab H d rs g :=
  ⟨T.hd, fun k r hk => by rw [← h k (List.getElem?_eq_some_iff.mp hk).1]; exact T.r k r hk, T.nd, T.nin⟩
theorem Tab.row {H : Hp} {d : Addr} {rs : List Addr} {f : Nat → List V} (T : Tab H d rs f) {k : Nat} (hk : k < rs.length) : ∃ r, rs[k]? = some r ∧ (rs.map V.ref)[k]? = some (V.ref r) ∧ H r = some (.lst (f k)) := by
  refine ⟨rs[k], List.getElem?_eq_getElem hk, by simp [hk], T.r k _ (List.getElem?_eq_getElem hk)⟩
theorem Tab.snoc {H H' : Hp} {d r : Addr} {rs : List Addr} {f : Nat → List V} {xs : List V} (T : Tab H d rs f) (hr : H' r = some (.lst xs)) (hd : H' d = some (.lst ((rs ++ [r]).map V.ref))) (h1 : r ∉ rs) (h2 : d ≠ r) (hk : ∀ q ∈ rs, ∀ o, H q = some o → H' q = some o) : Tab H' d (rs ++ [r]) (fun i => if i = rs.length then xs else f i) := by
  refine ⟨hd, fun i q hi => ?_, ?_, ?_⟩
  · by_cases e : i < rs.length
    · rw [List.getElem?_append_left e] at hi
      rw [if_neg (by omega)]
      exact hk q (List.mem_of_getElem? hi) _ (T.r i q hi)
    · rw [List.getElem?_append_right (by omega)] at hi
      have e2 : i = rs.length := by
        have := (List.getElem?_eq_some_iff.mp hi).1
        simp at this
        omega
      subst e2
      rw [Nat.sub_self] at hi
      have := Option.some.inj hi
      subst this
      rw [if_pos rfl]
      exact hr
  · rw [List.nodup_append]
    refine ⟨T.nd, by simp, fun a ha b hb => ?_⟩
    rw [List.mem_singleton] at hb
    subst hb
    exact fun e => h1 (by rw [← e]; exact ha)
  · rw [List.mem_append, List.mem_singleton]
    rintro (h | h)
    · exact T.nin h
    · exact h2 h
end Ly

set_option maxHeartbeats 4000000
namespace Ly
open PySem PySem.Spec PyProof.Rows L2 SX
theorem g_ET {R : Bool → Prop} (q : R true) : ∃ k, V.bl true = V.bl k ∧ R k := ⟨_, rfl, q⟩
theorem g_EF {R : Bool → Prop} (q : R false) : ∃ k, V.bl false = V.bl k ∧ R k := ⟨_, rfl, q⟩
theorem g_EnT {R : Bool → Prop} (q : R false) : ∃ k, V.bl (!true) = V.bl k ∧ R k := ⟨_, rfl, q⟩
theorem g_EnF {R : Bool → Prop} (q : R true) : ∃ k, V.bl (!false) = V.bl k ∧ R k := ⟨_, rfl, q⟩
/-! ### list + list, where one may be the script -/
section
variable {X : Cx}
end
section
variable {K : PySem.W.Frag} {σ : L2.St} {H : Hp} {g : TG} {tb : TS} {D : Ends} {a b : Addr} {xs ys : List V}
end
end Ly

namespace Ly
/-! ### least numbers with how often they are met -/
/-- a number of deeds and in how many ways; none: in no way -/
abbrev MC := Option (Nat × Nat)
def mAdd : MC → MC → MC
  | none, y => y
  | some p, none => some p
  | some p, some q => if p.1 < q.1 then some p else if q.1 < p.1 then some q else some (p.1, p.2 + q.2)
def mMul : MC → MC → MC
  | some p, some q => some (p.1 + q.1, p.2 * q.2)
  | _, _ => none
def mOne : MC := some (0, 1)
theorem mAdd_none (x : MC) : mAdd x none = x := by cases x <;> rfl
theorem none_mAdd (x : MC) : mAdd none x = x := rfl
theorem mAdd_assoc (x y z : MC) : mAdd (mAdd x y) z = mAdd x (mAdd y z) := by
  cases x with
  | none => rfl
  | some p =>
    cases y with
    | none => rfl
    | some q =>
      cases z with
      | none => rw [mAdd_none, mAdd_none]
      | some r =>
        obtain ⟨a, m⟩ := p
        obtain ⟨b, n⟩ := q
        obtain ⟨c, k⟩ := r
        unfold mAdd
        dsimp only
        by_cases h1 : a < b <;> by_cases h2 : b < a <;> by_cases h3 : b < c <;> by_cases h4 : c < b <;> by_cases h5 : a < c <;> by_cases h6 : c < a <;>
          first | (exfalso; omega) | (simp only [h1, h2, h3, h4, h5, h6, if_true, if_false]; try (first | rfl | (rw [Nat.add_assoc]) | (congr 1 <;> omega)))
theorem mMul_comm (x y : MC) : mMul x y = mMul y x := by
  cases x with
  | none => cases y <;> rfl
  | some p =>
    cases y with
    | none => rfl
    | some q =>
      unfold mMul
      dsimp only
      rw [Nat.add_comm, Nat.mul_comm]
theorem mMul_none (x : MC) : mMul x none = none := by cases x <;> rfl
theorem mMul_assoc (x y z : MC) : mMul (mMul x y) z = mMul x (mMul y z) := by
  cases x with
  | none => rfl
  | some p =>
    cases y with
    | none => rfl
    | some q =>
      cases z with
      | none => rfl
      | some r =>
        unfold mMul
        dsimp only
        rw [Nat.add_assoc, Nat.mul_assoc]
theorem mOne_mul (x : MC) : mMul mOne x = x := by
  cases x with
  | none => rfl
  | some p =>
    unfold mMul mOne
    dsimp only
    rw [Nat.zero_add, Nat.one_mul]
/-! sums -/
def sm (f : Nat → MC) : Nat → MC
  | 0 => none
  | n + 1 => mAdd (sm f n) (f n)
theorem sm_congr {f g : Nat → MC} : ∀ {n : Nat}, (∀ k, k < n → f k = g k) → sm f n = sm g n
  | 0, _ => rfl
  | n + 1, h => by
    rw [sm, sm, sm_congr (fun k hk => h k (by omega)), h n (by omega)]
theorem sm_head (f : Nat → MC) : ∀ n : Nat, sm f (n + 1) = mAdd (f 0) (sm (fun k => f (k + 1)) n)
  | 0 => by rw [sm, sm, sm, none_mAdd, mAdd_none]
  | n + 1 => by rw [sm, sm_head f n, sm, mAdd_assoc]
theorem sm_none : ∀ n : Nat, sm (fun _ => none) n = none
  | 0 => rfl
  | n + 1 => by rw [sm, sm_none n]; rfl
/-! ### tilings: by the first item, by the last one -/
end Ly

set_option maxHeartbeats 4000000
namespace Ly
open PySem PySem.Spec PyProof.Rows L2 SX
/-! ### classes: their methods, their making -/
section
variable {P : Program} {w : World} {K : PySem.W.Frag} {mg : Str → Option Value} {base : Heap}
end
def rMetO (C : Addr) (m : Str) (x : V) (H : Hp) (A : Prop) : Prop := (∃ a dx fs, x = .ref a ∧ H a = some (.ins C dx fs) ∧ fs.lookup m = none) ∧ A
def tMet (C : Addr) (m : Str) (sp : Sp) (ta : TE) (t : TA) : TE := fun σ H Q => ta σ H fun x H1 => rMetO C m x H1 (t σ H1 fun vs H2 => sp (x :: vs) H2 Q C8.E0)
def rMak (C : Addr) (sp : Sp) (vs : List V) (H : Hp) (Q : VK) : Prop := ∀ x dx, H x = none → H dx = none → dx ≠ x → sp (.ref x :: vs) (upd (upd H dx (.own x)) x (.ins C dx [])) (fun v H2 => v = .non ∧ Q (.ref x) H2) C8.E0
def tMak (C : Addr) (sp : Sp) (t : TA) : TE := fun σ H Q => t σ H fun vs H1 => rMak C sp vs H1 Q
section
variable {X : Cx} {k j : Nat} {C : Addr} {x m : Str} {sp : Sp} {p pos apos : Pos} {e o : Expr} {es : List Expr} {ta : TE} {t : TA}
end
section
variable {K : PySem.W.Frag} {σ : L2.St} {H : Hp} {Q : VK} {A : Prop} {a dx C : Addr} {fs : List (Str × V)} {m f : Str} {v y : V} {ta tv : TE} {D : Ends} {R : Hp → Prop} {sp : Sp} {vs : List V}
def rFld (K : PySem.W.Frag) (f : Str) (x : V) (H : Hp) (Q : VK) : Prop := ∃ a C dx fs v, x = .ref a ∧ H a = some (.ins C dx fs) ∧ Cls K C ∧ NoAttr K C f ∧ fs.lookup f = some v ∧ Q v H
def rSFld (K : PySem.W.Frag) (f : Str) (y x : V) (H : Hp) (R : Hp → Prop) : Prop := ∃ a C dx fs, x = .ref a ∧ H a = some (.ins C dx fs) ∧ Cls K C ∧ NoAttr K C f ∧ fs.length < 1000 ∧ R (upd H a (.ins C dx (putF f y fs)))
theorem tFld_eq : tFld K ta f σ H Q = ta σ H fun x H1 => rFld K f x H1 Q := rfl
theorem sFld_eq : sFld K ta tv f D σ H = tv σ H fun y H1 => ta σ H1 fun x H2 => rSFld K f y x H2 (D.nx σ) := rfl
end
end Ly

namespace Ly
open PySem
/-! ### the head's facts with one truth more -/
def obsEG (n : Nat) (fa : List He.Fa) (fn : List He.DefD) (ex : PySem.W.Frag → Bool) (g : Addr → Option Obj) : AlE := (He.obsDG n fa fn g, ex (He.frG g (He.asD g n)))
def hookE (n : Nat) (fa : List He.Fa) (fn : List He.DefD) (ex : PySem.W.Frag → Bool) : PySem.W.Hook where
  α := AlE
  obs := fun s => obsEG n fa fn ex s.heap.get?
  val := fun _ => (He.valD fn, true)
  says := fun _ h => ∃ K : PySem.W.Frag, K.In h ∧ He.SaysD fa fn K ∧ ex K = true
  of := fun _ _ e => ⟨_, He.frG_in, congrArg Prod.fst e, congrArg Prod.snd e⟩
  keeps := fun _ _ _ ⟨K, hK, c, cx⟩ k => ⟨K, PySem.W.Frag.In.keeps hK k, c, cx⟩
theorem obsEG_eq {n : Nat} {fa : List He.Fa} {fn : List He.DefD} {ex : PySem.W.Frag → Bool} {g : Addr → Option Obj} {s : Shared} (h : ∀ a, g a = s.heap.get? a) : obsEG n fa fn ex g = (hookE n fa fn ex).obs s := by
  have e : g = s.heap.get? := funext h
  rw [e] <;> rfl
end Ly

set_option maxHeartbeats 4000000
namespace Ly
/-! ### least numbers with how many, by words -/
structure Wd where
  pt : Bool
  st : Bool
  tn : Bool
def few (c d : Nat) : Nat × Nat := if c ∈ OPN ∧ d ∈ CLO then (if knd c = knd d then (0, 1) else (1, 2)) else if c ∈ CLO ∧ d ∈ OPN then (2, 4) else (1, 1)
def w1 : MC := some (1, 1)
/-- a pair of the text's signs at i and m -/
def prM (l : List Nat) (W : Wd) (i m : Nat) : MC := match l[i]?, l[m]? with
  | some c, some d => if c ∈ BRK ∧ d ∈ BRK ∧ ((few c d).1 = 0 ∨ W.tn = true) then some (few c d) else none
  | _, _ => none
def opM (l : List Nat) (W : Wd) (i : Nat) : MC := match l[i]? with
  | some c => if c ∈ OPN ∧ W.pt = true then w1 else none
  | none => none
def clM (l : List Nat) (W : Wd) (m : Nat) : MC := match l[m]? with
  | some c => if c ∈ CLO ∧ W.pt = true then w1 else none
  | none => none
/-- the sign alone: a letter, or a struck bracket -/
def sgM (l : List Nat) (W : Wd) (i : Nat) : MC := match l[i]? with
  | some c => if c ∈ BRK then (if W.st = true then w1 else none) else mOne
  | none => none
def m3 (x y z : MC) : MC := mMul (mMul x y) z
/-- by the first sign -/
def stM (l : List Nat) (W : Wd) (F : Nat → Nat → MC) (i j : Nat) : MC :=
  mAdd (mMul (sgM l W i) (F (i + 1) j)) (mAdd (sm (fun t => m3 (prM l W i (i + 1 + t)) (F (i + 1) (i + 1 + t)) (F (i + 1 + t + 1) j)) (j - i - 1))
    (mAdd (sm (fun t => m3 (opM l W i) (F (i + 1) (i + 1 + t)) (F (i + 1 + t) j)) (j - i)) (sm (fun t => m3 (clM l W (i + t)) (F i (i + t)) (F (i + t + 1) j)) (j - i))))
theorem stM_congr {l l' : List Nat} {W : Wd} {F F' : Nat → Nat → MC} {i j : Nat} (hi : i < j) (hl : ∀ k, k < j → l[k]? = l'[k]?) (h : ∀ a b, a ≤ b → b ≤ j → b - a < j - i → i ≤ a → F a b = F' a b) : stM l W F i j = stM l' W F' i j := by
  unfold stM
  have e1 : sgM l W i = sgM l' W i := by unfold sgM; rw [hl i hi]
  have e2 : ∀ m, m < j → prM l W i m = prM l' W i m := fun m hm => by unfold prM; rw [hl i hi, hl m hm]
  have e3 : opM l W i = opM l' W i := by unfold opM; rw [hl i hi]
  have e4 : ∀ m, m < j → clM l W m = clM l' W m := fun m hm => by unfold clM; rw [hl m hm]
  rw [e1, h (i + 1) j (by omega) (by omega) (by omega) (by omega), e3]
  congr 1
  congr 1
  · refine sm_congr fun t ht => ?_
    rw [e2 _ (by omega), h (i + 1) (i + 1 + t) (by omega) (by omega) (by omega) (by omega), h (i + 1 + t + 1) j (by omega) (by omega) (by omega) (by omega)]
  · congr 1
    · refine sm_congr fun t ht => ?_
      rw [h (i + 1) (i + 1 + t) (by omega) (by omega) (by omega) (by omega), h (i + 1 + t) j (by omega) (by omega) (by omega) (by omega)]
    · refine sm_congr fun t ht => ?_
      rw [e4 _ (by omega), h i (i + t) (by omega) (by omega) (by omega) (by omega), h (i + t + 1) j (by omega) (by omega) (by omega) (by omega)]
def mcF (l : List Nat) (W : Wd) : Nat → Nat → Nat → MC
  | 0, _, _ => mOne
  | n + 1, i, j => if j ≤ i then mOne else stM l W (mcF l W n) i j
theorem mcF_eq (l l' : List Nat) (W : Wd) : ∀ (n m i j : Nat), j - i ≤ n → j - i ≤ m → (∀ k, k < j → l[k]? = l'[k]?) → mcF l W n i j = mcF l' W m i j
  | 0, 0, i, j, _, _, _ => rfl
  | 0, m + 1, i, j, h1, h2, _ => by rw [mcF, mcF, if_pos (by omega)]
  | n + 1, 0, i, j, h1, h2, _ => by rw [mcF, mcF, if_pos (by omega)]
  | n + 1, m + 1, i, j, h1, h2, hl => by
    rw [mcF, mcF]
    by_cases h : j ≤ i
    · rw [if_pos h, if_pos h]
    · rw [if_neg h, if_neg h]
      exact stM_congr (by omega) hl fun a b g1 g2 g3 g4 => mcF_eq l l' W n m a b (by omega) (by omega) fun k hk => hl k (by omega)
def mcN (l : List Nat) (W : Wd) (i j : Nat) : MC := mcF l W (j - i) i j
theorem mcN_self (l : List Nat) (W : Wd) (i : Nat) : mcN l W i i = mOne := by unfold mcN; rw [Nat.sub_self]; rfl
theorem mcN_step {l : List Nat} {W : Wd} {i j : Nat} (h : i < j) : mcN l W i j = stM l W (mcN l W) i j := by
  have e : mcN l W i j = mcF l W (j - i - 1 + 1) i j := mcF_eq l l W _ _ i j (Nat.le_refl _) (by omega) fun _ _ => rfl
  rw [e, mcF, if_neg (by omega)]
  exact stM_congr h (fun _ _ => rfl) fun a b g1 g2 g3 g4 => mcF_eq l l W _ _ a b (by omega) (Nat.le_refl _) fun _ _ => rfl
/-! by the last sign -/
/-! there is always one, where striking is a word -/
/-! sums of lists -/
end Ly

set_option maxHeartbeats 4000000
namespace Ly
open PySem PySem.Spec PyProof.Rows L2 SX
/-! ### how great the counts can be -/
def cnt : MC → Nat
  | none => 0
  | some p => p.2
/-! ### values -/
/-! ### lists of pairs of whole numbers -/
def Prs (H : Hp) (a : Addr) (xs : List (Nat × Nat)) : Prop := ∃ rs : List Addr, H a = some (.lst (rs.map V.ref)) ∧ rs.length = xs.length ∧ ∀ (k : Nat) (r : Addr) (x : Nat × Nat), rs[k]? = some r → xs[k]? = some x → H r = some (.tup [.int x.1, .int x.2])
theorem Prs.same {H H' : Hp} {a : Addr} {xs : List (Nat × Nat)} (h : Prs H a xs) (s : Same H H') : Prs H' a xs := by
  obtain ⟨rs, h1, h2, h3⟩ := h
  exact ⟨rs, s _ _ h1, h2, fun k r x q1 q2 => s _ _ (h3 k r x q1 q2)⟩
theorem Prs.lst {H : Hp} {a : Addr} {xs : List (Nat × Nat)} (h : Prs H a xs) : ∃ ys, H a = some (.lst ys) ∧ ys.length = xs.length := by
  obtain ⟨rs, h1, h2, h3⟩ := h
  exact ⟨_, h1, by rw [List.length_map]; exact h2⟩
theorem Prs.but {H H' : Hp} {a p : Addr} {xs : List (Nat × Nat)} {ys : List V} (h : Prs H a xs) (s : But p H H') (hp : H p = some (.lst ys)) (hn : a ≠ p) : Prs H' a xs := by
  obtain ⟨rs, h1, h2, h3⟩ := h
  refine ⟨rs, s _ _ hn h1, h2, fun k r x q1 q2 => s _ _ (fun e => ?_) (h3 k r x q1 q2)⟩
  have := h3 k r x q1 q2
  rw [e, hp] at this
  cases this
theorem Prs.snoc {H H' : Hp} {a t : Addr} {xs : List (Nat × Nat)} {x : Nat × Nat} (h : Prs H a xs) (ht : H t = some (.tup [.int x.1, .int x.2])) (s : But a H H') (h2 : ∀ rs : List Addr, H a = some (.lst (rs.map V.ref)) → H' a = some (.lst (rs.map V.ref ++ [.ref t]))) : Prs H' a (xs ++ [x]) := by
  obtain ⟨rs, h1, hl, h3⟩ := h
  have ne : ∀ r ys, H r = some (.tup ys) → r ≠ a := fun r ys e q => by rw [q, h1] at e; cases e
  refine ⟨rs ++ [t], by rw [h2 rs h1, List.map_append]; rfl, by simp [hl], fun k r y q1 q2 => ?_⟩
  by_cases e : k < rs.length
  · rw [List.getElem?_append_left e] at q1
    rw [List.getElem?_append_left (by omega)] at q2
    have := h3 k r y q1 q2
    exact s _ _ (ne _ _ this) this
  · have hk : k = rs.length := by
      have := (List.getElem?_eq_some_iff.mp q1).1
      simp at this
      omega
    rw [List.getElem?_append_right (by omega), hk, Nat.sub_self] at q1
    rw [List.getElem?_append_right (by omega), hk, hl, Nat.sub_self] at q2
    have e1 : t = r := Option.some.inj q1
    have e2 : x = y := Option.some.inj q2
    subst e1 e2
    exact s _ _ (ne _ _ ht) ht
/-! ### tuples that stay -/
theorem SqT.same {K : PySem.W.Frag} {H H' : Hp} {a : Addr} {xs : List V} (s : Same H H') (h : SqT K H a xs) : SqT K H' a xs := by
  rcases h with (h | ⟨o, h⟩) | h
  · exact .inl (.inl (s _ _ h))
  · exact .inl (.inr ⟨o, s _ _ h⟩)
  · exact .inr h
theorem SqT.but {K : PySem.W.Frag} {H H' : Hp} {a p : Addr} {xs : List V} {u : HO} (s : But p H H') (h : SqT K H a xs) (hp : H p = some u) (hu : (∀ ys, u ≠ .tup ys) ∧ ∀ o ys, u ≠ .frz o (.tup ys)) : SqT K H' a xs := by
  rcases h with (h | ⟨o, h⟩) | h
  · exact .inl (.inl (s _ _ (fun e => by rw [e, hp] at h; exact hu.1 _ (Option.some.inj h)) h))
  · exact .inl (.inr ⟨o, s _ _ (fun e => by rw [e, hp] at h; exact hu.2 _ _ (Option.some.inj h)) h⟩)
  · exact .inr h
/-- the words: a tuple of texts -/
def WdIs (K : PySem.W.Frag) (H : Hp) (v : V) (W : Wd) : Prop := ∃ a xs, v = .ref a ∧ SqT K H a xs ∧ xs.all flatV = true ∧ inV (Tx [112, 117, 116]) xs = W.pt ∧ inV (Tx [115, 116, 114, 105, 107, 101]) xs = W.st ∧ inV (Tx [116, 117, 114, 110]) xs = W.tn
theorem WdIs.same {K : PySem.W.Frag} {H H' : Hp} {v : V} {W : Wd} (h : WdIs K H v W) (s : Same H H') : WdIs K H' v W := by
  obtain ⟨a, xs, h1, h2, h3⟩ := h
  exact ⟨a, xs, h1, SqT.same s h2, h3⟩
theorem WdIs.but {K : PySem.W.Frag} {H H' : Hp} {v : V} {W : Wd} {p : Addr} {ys : List V} (h : WdIs K H v W) (s : But p H H') (hp : H p = some (.lst ys)) : WdIs K H' v W := by
  obtain ⟨a, xs, h1, h2, h3⟩ := h
  exact ⟨a, xs, h1, SqT.but s h2 hp ⟨(fun _ e => nomatch e), (fun _ _ e => nomatch e)⟩, h3⟩
/-! ### the object -/
end Ly

set_option maxHeartbeats 4000000
namespace Ly
/-! ### alike opening brackets: Catalan's numbers -/
section
variable {m c : Nat} (hc : c ∈ OPN)
include hc
end
end Ly

set_option maxHeartbeats 4000000
namespace Ly
open PySem PySem.Spec PyProof.Rows L2 SX
section
variable {X : Cx} {k j : Nat} {C : Addr} {x m : Str} {sp : Sp} {p pos : Pos}
end
end Ly

set_option maxHeartbeats 4000000
namespace Ly
/-! ### the least number with how many is the least number -/
def lo (x : MC) (n : Nat) : Prop := ∀ y, x = some y → n ≤ y.1
def hi (x : MC) (n : Nat) : Prop := ∃ y, x = some y ∧ y.1 ≤ n
theorem few_tns : ∀ c ∈ BRK, ∀ d ∈ BRK, (few c d).1 = tns c d := by decide
end Ly

set_option maxHeartbeats 4000000
namespace Ly
open PySem PySem.Spec PyProof.Rows L2 SX
/-! ### data in heaps -/
section
variable {K : PySem.W.Frag} {H : Hp} {Q : VK} {x y : V} {d e : PyData}
end
end Ly

set_option maxHeartbeats 4000000
namespace Ly
open PySem PySem.Spec PyProof.Rows L2 SX
/-! ### deeds -/
inductive Dw where
  | put (c : Nat)
  | str
  | trn (c : Nat)
  deriving DecidableEq
abbrev Deed := Nat × Dw
def Dw.w : Dw → List Nat
  | .put _ => [112, 117, 116]
  | .str => [115, 116, 114, 105, 107, 101]
  | .trn _ => [116, 117, 114, 110]
def Dw.s : Dw → List Nat
  | .put c => [c]
  | .str => []
  | .trn c => [c]
def Dw.isPut : Dw → Bool
  | .put _ => true
  | _ => false
def ddV (d : Deed) : List V := [.int (d.1 : Nat), Tx d.2.w, Tx d.2.s]
def putc (p : Nat) (d : Deed) : List Nat := if d.1 = p then (match d.2 with | .put c => [c] | _ => []) else []
def puts (ds : List Deed) (p : Nat) : List Nat := (ds.map (putc p)).flatten
def othD : List Deed → Nat → Option Dw
  | [], _ => none
  | d :: r, p => match othD r p with
    | some w => some w
    | none => if d.1 = p ∧ d.2.isPut = false then some d.2 else none
def mid (o : Option Dw) (x : List Nat) : List Nat := match o with
  | none => x
  | some w => w.s
def piece (l : List Nat) (ds : List Deed) (p : Nat) : List Nat := puts ds p ++ mid (othD ds p) ((l.drop p).take 1)
def app (d : Deed) (s : List Nat) : List Nat := match d.2 with
  | .put c => s.take d.1 ++ [c] ++ s.drop d.1
  | .str => s.eraseIdx d.1
  | .trn c => s.set d.1 c
def behind (l : List Nat) (ds : List Deed) : List Nat := ds.foldr app l
/-! ### lists of deeds in heaps -/
def ddD (d : Deed) : PyData := .tuple [.int (d.1 : Nat), .str (S d.2.w), .str (S d.2.s)]
def ddsD (ds : List Deed) : PyData := .list (ds.map ddD)
structure Dds (H : Hp) (a : Addr) (rs : List Addr) (ds : List Deed) : Prop where
  hd : H a = some (.lst (rs.map V.ref))
  len : rs.length = ds.length
  it : ∀ (k : Nat) (r : Addr) (d : Deed), rs[k]? = some r → ds[k]? = some d → H r = some (.tup (ddV d))
theorem Dds.same {H H' : Hp} {a : Addr} {rs : List Addr} {ds : List Deed} (h : Dds H a rs ds) (s : Same H H') : Dds H' a rs ds := ⟨s _ _ h.hd, h.len, fun k r d h1 h2 => s _ _ (h.it k r d h1 h2)⟩
theorem Dds.but {H H' : Hp} {a p : Addr} {rs : List Addr} {ds : List Deed} {ys : List V} (h : Dds H a rs ds) (s : But p H H') (hp : H p = some (.lst ys)) (hn : a ≠ p) : Dds H' a rs ds := by
  refine ⟨s _ _ hn h.hd, h.len, fun k r d h1 h2 => ?_⟩
  have := h.it k r d h1 h2
  exact s _ _ (fun e => by rw [e, hp] at this; cases this) this
theorem Dds.dp {K : PySem.W.Frag} {H : Hp} {a : Addr} {rs : List Addr} {ds : List Deed} (h : Dds H a rs ds) : Dp K H (.ref a) (ddsD ds) := by
  refine .lst (sq_of h.hd) ?_
  have key : ∀ (rs : List Addr) (ds : List Deed), rs.length = ds.length → (∀ (k : Nat) (r : Addr) (d : Deed), rs[k]? = some r → ds[k]? = some d → H r = some (.tup (ddV d))) → DpAll K H (rs.map V.ref) (ds.map ddD) := by
    intro rs
    induction rs with
    | nil =>
      intro ds hl _
      cases ds with
      | nil => exact .nil
      | cons x xs => simp at hl
    | cons r rs ih =>
      intro ds hl h
      cases ds with
      | nil => simp at hl
      | cons d ds => exact .cons (.tup (st_of (h 0 r d rfl rfl)) (.cons (.int _) (.cons (.str _) (.cons (.str _) .nil)))) (ih ds (by simpa using hl) fun i q y h3 h4 => h (i + 1) q y h3 h4)
  exact key rs ds h.len h.it
theorem Dds.row {H : Hp} {a : Addr} {rs : List Addr} {ds : List Deed} (h : Dds H a rs ds) {k : Nat} (hk : k < ds.length) : ∃ r d, rs[k]? = some r ∧ ds[k]? = some d ∧ (rs.map V.ref)[k]? = some (V.ref r) ∧ H r = some (.tup (ddV d)) := by
  have e1 : rs[k]? = some (rs[k]'(by rw [h.len]; exact hk)) := List.getElem?_eq_getElem (by rw [h.len]; exact hk)
  have e2 : ds[k]? = some ds[k] := List.getElem?_eq_getElem hk
  exact ⟨_, _, e1, e2, by rw [List.getElem?_map, e1]; rfl, h.it k _ _ e1 e2⟩
theorem Dds.snoc {H H' : Hp} {a t : Addr} {rs : List Addr} {ds : List Deed} {d : Deed} (h : Dds H a rs ds) (ht : H t = some (.tup (ddV d))) (s : But a H H') (e : H' a = some (.lst (rs.map V.ref ++ [.ref t]))) : Dds H' a (rs ++ [t]) (ds ++ [d]) := by
  have ne : ∀ r ys, H r = some (.tup ys) → r ≠ a := fun r ys e q => by rw [q, h.hd] at e; cases e
  refine ⟨by rw [e, List.map_append]; rfl, by simp [h.len], fun k r y q1 q2 => ?_⟩
  by_cases hk : k < rs.length
  · rw [List.getElem?_append_left hk] at q1
    rw [List.getElem?_append_left (by rw [← h.len]; exact hk)] at q2
    have := h.it k r y q1 q2
    exact s _ _ (ne _ _ this) this
  · have hk : k = rs.length := by
      have := (List.getElem?_eq_some_iff.mp q1).1
      simp at this
      omega
    rw [List.getElem?_append_right (by omega), hk, Nat.sub_self] at q1
    rw [List.getElem?_append_right (by rw [← h.len]; omega), hk, h.len, Nat.sub_self] at q2
    have e1 : t = r := Option.some.inj q1
    have e2 : d = y := Option.some.inj q2
    subst e1 e2
    exact s _ _ (ne _ _ ht) ht
/-! ### one sign of a text by a slice -/
section
variable {K : PySem.W.Frag} {σ : L2.St} {H : Hp} {g : TG} {tb : TS} {D : Ends} {a b : Addr} {xs ys : List V}
end
end Ly

set_option maxHeartbeats 4000000
namespace Ly
/-! ### deeds as rows of steps -/
inductive Stp where
  | kp (c : Nat)
  | st (c : Nat)
  | tn (c d : Nat)
  | pt (d : Nat)
  deriving DecidableEq
def Stp.i : Stp → List Nat
  | .kp c => [c]
  | .st c => [c]
  | .tn c _ => [c]
  | .pt _ => []
def Stp.o : Stp → List Nat
  | .kp c => [c]
  | .st _ => []
  | .tn _ d => [d]
  | .pt d => [d]
def Stp.ok : Stp → Prop
  | .kp _ => True
  | .st c => c ∈ BRK
  | .tn c d => c ∈ BRK ∧ d ∈ BRK ∧ d ≠ c
  | .pt d => d ∈ BRK
def inS (α : List Stp) : List Nat := (α.map Stp.i).flatten
def outS (α : List Stp) : List Nat := (α.map Stp.o).flatten
def okS (α : List Stp) : Prop := ∀ s ∈ α, s.ok
def ddS : Nat → List Stp → List Deed
  | _, [] => []
  | p, .kp _ :: α => ddS (p + 1) α
  | p, .st _ :: α => (p, .str) :: ddS (p + 1) α
  | p, .tn _ d :: α => (p, .trn d) :: ddS (p + 1) α
  | p, .pt d :: α => (p, .put d) :: ddS p α
theorem inS_cons (s : Stp) (α : List Stp) : inS (s :: α) = s.i ++ inS α := rfl
theorem outS_cons (s : Stp) (α : List Stp) : outS (s :: α) = s.o ++ outS α := rfl
/-! the row of steps of deeds -/
/-! ### deeds that lead back -/
/-! ### rows of old and new signs -/
section
open PySem PySem.Spec PyProof.Rows L2 SX
variable {X : Cx} {tg : Expr}
end
end Ly

set_option maxHeartbeats 4000000
namespace Ly
open PySem PySem.Spec PyProof.Rows L2 SX
/-! ### exceptions that are caught and kept -/
/-- an exception of the class at D that was caught, kept at a -/
def ExK (D a : Addr) : HO := .ext fun h => ∃ (oe : Obj) (vs : Array Value), h.get? a = some oe ∧ Zc (.ref D) none oe ∧ oe.data = .fields vs
theorem exK_ok {P : Program} {w : World} {H : Hp} {h : Heap} {D a : Addr} {oe : Obj} {vs : Array Value} (e : h.get? a = some oe) (z : Zc (.ref D) none oe) (d : oe.data = .fields vs) : ObjOk P w H h a (ExK D a) :=
  ⟨⟨oe, vs, e, z, d⟩, ⟨oe, e⟩, fun _ _ ⟨o, v, q, r⟩ k => ⟨o, v, k o q, r⟩⟩
section
variable {X : Cx} {pins : List (Addr × Obj)} {σ : L2.St} {H : Hp} {s : Shared}
theorem inv_track {a : Addr} {φ : Heap → Prop} (I : Inv X pins σ H s) (na : H a = none) (n0 : X.s_0.heap.get? a = none) (nL : a ≠ X.env.locals) (nC : ∀ x c, X.env.cells.lookup x = some c → c ≠ a) (np : ∀ p ∈ X.pn ++ pins, p.1 ≠ a)
    (new : ObjOk X.prog X.w (upd H a (.ext φ)) s.heap a (.ext φ)) : Inv X pins σ (upd H a (.ext φ)) s := by
  have ne0 : ∀ b o, X.s_0.heap.get? b = some o → b ≠ a := fun b o e z => by rw [z, n0] at e; cases e
  refine ⟨I.ok, I.os, I.bare, ⟨I.base.keep, I.base.slot, fun b o e n hb => ?_, I.base.there, fun b xs e => ?_, fun b o u e => ?_, fun b ps e => ?_⟩, I.loc, I.cell, ?_, fun x c e => ?_, fun p hp => ?_, fun b u e => ?_, I.len⟩
  · rw [upd_ne (ne0 b o e)]
    exact I.base.free b o e n hb
  · have q := I.base.tups b xs e
    rw [upd_ne (ne_of_none q na)]
    exact q
  · have q := I.base.frzs b o u e
    rw [upd_ne (ne_of_none q na)]
    exact q
  · obtain ⟨m, q⟩ := I.base.tbls b ps e
    refine ⟨m, ?_⟩
    rw [upd_ne (ne_of_none q na)]
    exact q
  · rw [upd_ne (Ne.symm nL)]
    exact I.free
  · rw [upd_ne (nC x c e)]
    exact I.freeC x c e
  · obtain ⟨h1, h2, h3⟩ := I.pin p hp
    refine ⟨h1, ?_, h3⟩
    rw [upd_ne (np p hp)]
    exact h2
  · by_cases hb : b = a
    · subst hb
      rw [upd_same] at e
      cases e
      exact new
    · rw [upd_ne hb] at e
      exact (I.hok b u e).stay (fun c v _ q => q) (fun c q => by rw [upd_ne (ne_of_none q na)]; exact q) fun c xs q => by rw [upd_ne (ne_of_none q na)]; exact q
end
/-- what the clause 'except x as n' wishes of an exception of the body that is kept behind the suite: slot i is n's -/
def wKp (K : PySem.W.Frag) (c : Value) (i : Nat) (ts : Addr → Value → Option Addr → TS) (Wout : WX) (D : Ends) : WX := fun cls d σ H =>
  ∃ b, PySem.W.exmOne K cls c = some b ∧ (b = true → ∃ C : Addr, cls = .ref C ∧ d = none ∧ ∀ a, H a = none → ts a cls d { nx := fun σ' H' => ∀ H2, H' a = none → Same H' H2 → H2 a = some (ExK C a) → D.nx (σ'.set i none) H2, rt := D.rt, bk := fun σ' H' => D.bk (σ'.set i none) H', ct := fun σ' H' => D.ct (σ'.set i none) H' } (σ.set i (some (.ref a))) H) ∧
    (b = false → Wout cls d σ H)
section
variable {X : Cx} {x n : Str} {c : Value} {i : Nat} {body suite : List Stmt} {b₀ : Stmt} {np pos pos' : Pos} {tb : WX → TS} {ts : Addr → Value → Option Addr → TS} {Wout : WX}
theorem ps_try_keep (hs : X.stack = X.env :: X.outer) (hf : X.env.frame = some X.env.locals) (hx : X.ex = []) (hN : X.N.Nodup) (hi : X.N[i]? = some n) (hln : X.env.kindOf n = some .local) (hc : Names X x c) (tk : Takes X Wout)
    (hb : ∀ (W : WX) (pn : List (Addr × Obj)) (xe : Value → Shared → Prop), Takes (X.tr pn xe) W → PassesOwn (model X.prog X.w) X.A X.env xe → PSs (X.tr pn xe) body (tb W))
    (hsu : ∀ (a : Addr) (oe : Obj) (cls : Value) (d : Option Addr) (pn : List (Addr × Obj)), Zc cls d oe → (∃ vs, oe.data = .fields vs) → PSs (X.suite a ((a, oe) :: pn)) (b₀ :: suite) (ts a cls d)) :
    PS X (.Try body [.ExceptHandler (some (.Name x np)) (some n) (b₀ :: suite) pos'] [] [] pos) (fun D σ H => tb (wKp X.K c i ts Wout D) D σ H) := by
  refine ⟨fun pins s σ H D I h => ?_⟩
  have ok := I.ok
  have hfr : X.A.frames = some (X.env :: X.outer) := by rw [ok.frames, hs]
  have hloc : Loc X.env.scope n := .inl hln
  refine wpAny_Try_except ?_
  refine wpAny_mono ((hb (wKp X.K c i ts Wout D) (X.pn ++ pins) (fun e s₁ => wpAny (model X.prog X.w) X.A (noteFrame e X.env) (fun _ s₂ => wpAny (model X.prog X.w) X.A (setFlight e none) (fun _ s₃ =>
    wpAny (model X.prog X.w) X.A (handleBy e X.env [.ExceptHandler (some (.Name x np)) (some n) (b₀ :: suite) pos']) (SP X pins D) X.xe s₃) X.xe s₂) X.xe s₁) (fun u s' xx => ?_) PassesOwn.looking).run [] s σ H D (I.toTry _) h) (fun f s1 hsp => ?_) (fun e s1 he => he)
  · obtain ⟨a, B, sI, pins', σ', H', cls, d, rfl, J', nb, up, sky, na, os, ag, b, hb1, hyes, hno⟩ := xx
    have J : Inv X pins σ' H' sI := J'.ofTry ok
    have sky' : Sky B (X.env :: X.outer) a (Zc cls d) X.env.locals s'.heap := by rw [← hs]; exact sky
    show wpAny (model X.prog X.w) X.A (noteFrame (.ref a) X.env) _ _ _
    refine Sky.land Zc.steady hfr hf sky' fun h3 fl3 up3 => ?_
    have J3 : Inv X pins σ' H' { s' with heap := h3 } := J.landed nb fl3.1 (up.trans up3) os ag
    obtain ⟨oe3, vs3, he3, hz3, hd3⟩ := fl3.there
    have notFr : ∀ {h : Heap} {o : Obj} {vs : Array Value}, h.FunFrames B (X.env :: X.outer) → h.get? a = some o → o.data = .fields vs → a ∉ frs (X.env :: X.outer) := fun {h o vs} ff e dd hm => by
      obtain ⟨_, o', e', hnf⟩ := ff.mem hm
      rw [e] at e'; cases e'
      exact hnf _ dd
    have nfr := notFr fl3.2.2.1 he3 hd3
    have nL : a ≠ X.env.locals := fun z => nfr (List.mem_filterMap.mpr ⟨X.env, List.mem_cons_self, by rw [hf, z]⟩)
    have nF : a ∉ X.fs := fun hm => by
      obtain ⟨e, he, q⟩ := List.mem_filterMap.mp hm
      exact nfr (List.mem_filterMap.mpr ⟨e, List.mem_cons_of_mem _ he, q⟩)
    have nI : sI.heap.get? a = none := by
      cases e : sI.heap.get? a with
      | none => rfl
      | some o =>
        have := nb a o e (by rw [hs]; exact nfr)
        rw [fl3.2.1] at this
        cases this
    have n0 : X.s_0.heap.get? a = none := by
      cases e : X.s_0.heap.get? a with
      | none => rfl
      | some o =>
        obtain ⟨o', e'⟩ := J.base.there a o e (by rw [hx]; exact fun z => nomatch z)
        rw [nI] at e'
        cases e'
    have nC : ∀ x c, X.env.cells.lookup x = some c → c ≠ a := fun x c e z => by
      obtain ⟨v, o, ho, _⟩ := J.cell x c e
      rw [z, nI] at ho
      cases ho
    have nP : ∀ p ∈ X.pn ++ pins, p.1 ≠ a := fun p hp z => by
      have := (J.pin p hp).1
      rw [z, nI] at this
      cases this
    have S3 := J3.suite he3 hd3 na nL nF
    refine wpAny_handleBy_cons (codeAny_handlers_test ?_) (by intro q; cases q)
    have LT : PySem.W.Looks (model X.prog X.w) h3 (typeOf (.ref a)) cls := fun A Q E s k q => wpAny_typeOf_ref (k _ _ he3) (by rw [hz3.1]; exact q)
    have LM := PySem.W.exm_one (M := model X.prog X.w) (J3.kIn) LT hb1
    have test : ∀ {Q : Value → Shared → Prop} {E : Value → Shared → Prop}, Q c { s' with heap := h3 } → wpAny (model X.prog X.w) (X.A.mark (some (.ref a))) (eval (.Name x np) X.env) Q E { s' with heap := h3 } := fun {Q E} q => by
      obtain ⟨hg, hdbg, hm | ⟨hm, hv, hnn⟩⟩ := hc
      · exact ld_glob (X := X.suite a ((a, oe3) :: (X.pn ++ pins))) S3 hg hm q hdbg
      · exact ld_blt (X := X.suite a ((a, oe3) :: (X.pn ++ pins))) S3 hg hm hv q hnn hdbg
    refine test (LM.here ?_)
    cases b with
    | true =>
      obtain ⟨C, rfl, rfl, hyes⟩ := hyes rfl
      refine codeAny_handlers_suite_as ?_
      refine HandSPX.lands_againZ fl3 fun h4 fl4 up4 => ?_
      have J4 : Inv X pins σ' H' { s' with heap := h4 } := J.landed nb fl4.1 ((up.trans up3).trans up4) os ag
      obtain ⟨oe4, vs4, he4, hz4, hd4⟩ := fl4.there
      have S4 := J4.suite he4 hd4 na nL nF
      refine store_ok (X := X.suite a ((a, oe4) :: (X.pn ++ pins))) (v := .ref a) S4 hN hi hloc rfl (fun s5 S5 => ?_) (.inr hln)
      refine wpAny_mono ((hsu a oe4 (.ref C) none (X.pn ++ pins) hz4 ⟨_, hd4⟩).run [] s5 _ H' _ S5 (hyes a na)) (fun f s6 hsp => ?_) (fun _ _ z => False.elim z)
      have end_ : ∀ {σ6 : L2.St} {H6 : Hp} {Q : Shared → Prop}, Inv (X.suite a ((a, oe4) :: (X.pn ++ pins))) [] σ6 H6 s6 → (∀ s7, Inv X pins (σ6.set i none) H6 s7 → Q s7) →
          wpAny (model X.prog X.w) X.A (do bindName X.env n .none; unbindBehindTheSuite X.env n pos') (fun _ s7 => Q s7) X.xe s6 := fun {σ6 H6 Q} S6 hq => gone_ok (S6.unsuite ok) hN hi hln hq
      cases f with
      | next =>
        obtain ⟨σ6, H6, S6, q6⟩ := hsp
        have K6 : Inv X ((a, oe4) :: pins) σ6 H6 s6 := ⟨ok, S6.os, S6.bare, S6.base, S6.loc, S6.cell, S6.free, S6.freeC, fun p hp => by
          refine S6.pin p (List.mem_append_left _ ?_)
          show p ∈ (a, oe4) :: (X.pn ++ pins)
          rcases List.mem_append.mp hp with hp | hp
          · exact List.mem_cons_of_mem _ (List.mem_append_left _ hp)
          · rcases List.mem_cons.mp hp with hp | hp
            · rw [hp]; exact List.mem_cons_self ..
            · exact List.mem_cons_of_mem _ (List.mem_append_right _ hp), S6.hok, S6.len⟩
        refine gone_ok K6 hN hi hln fun s7 J7 => ?_
        obtain ⟨p1, p2, _⟩ := J7.pin (a, oe4) (List.mem_append_right _ (List.mem_cons_self ..))
        have J7' : Inv X pins (σ6.set i none) H6 s7 := ⟨J7.ok, J7.os, J7.bare, J7.base, J7.loc, J7.cell, J7.free, J7.freeC, fun p hp => J7.pin p (by
          rcases List.mem_append.mp hp with hp | hp
          · exact List.mem_append_left _ hp
          · exact List.mem_append_right _ (List.mem_cons_of_mem _ hp)), J7.hok, J7.len⟩
        exact ⟨_, _, inv_track J7' p2 n0 nL nC nP (exK_ok p1 hz4 hd4), q6 _ p2 (Same.new p2) upd_same⟩
      | brk =>
        obtain ⟨σ6, H6, S6, q6⟩ := hsp
        exact end_ S6 fun s7 J7 => ⟨_, _, J7, q6⟩
      | cont =>
        obtain ⟨σ6, H6, S6, q6⟩ := hsp
        exact end_ S6 fun s7 J7 => ⟨_, _, J7, q6⟩
      | ret u =>
        obtain ⟨v6, σ6, H6, S6, r6, q6⟩ := hsp
        exact end_ S6 fun s7 J7 => ⟨_, _, _, J7, r6, q6⟩
    | false =>
      show wpAny _ X.A (handleBy (.ref a) X.env []) _ _ _
      refine wpAny_handleBy_nil ?_
      obtain ⟨k1, k2, k3, oe, vs, T, oT, ts', he, hz, hd, h1, hr⟩ := id fl3
      unfold PySem.passOn
      refine wpAny_bind (wpAny_field he hd h1 ?_)
      rw [if_neg (show ¬ ((Value.ref T == Value.none) = true) from by simp)]
      have fin : wpAny (model X.prog X.w) X.A (setFlight (.ref a) X.env.frame) (fun _ s4 => wpAny (model X.prog X.w) X.A (throw (.ref a) : Sem Flow) (SP X pins D) X.xe s4) X.xe { s' with heap := h3 } := by
        rw [hf]
        refine HandSPX.setFlight_upZ fl3 fun h4 hh4 up4 => wpAny_throw (tk _ _ ?_)
        exact ⟨a, B, sI, pins, σ', H', cls, d, rfl, J, nb, (up.trans up3).trans up4, .inr (.inr (by rw [hs]; exact hh4)), na, os, ag, hno rfl⟩
      first
        | exact wpAny_bind (wpAny_pure (wpAny_bind fin))
        | exact wpAny_bind fin
  · cases f with
    | next =>
      obtain ⟨σ', H', J', q⟩ := hsp
      exact wpAny_execs_nil ⟨σ', H', J'.ofTry ok, q⟩
    | brk =>
      obtain ⟨σ', H', J', q⟩ := hsp
      exact ⟨σ', H', J'.ofTry ok, q⟩
    | cont =>
      obtain ⟨σ', H', J', q⟩ := hsp
      exact ⟨σ', H', J'.ofTry ok, q⟩
    | ret u =>
      obtain ⟨v, σ', H', J', r, q⟩ := hsp
      exact ⟨v, σ', H', J'.ofTry ok, r, q⟩
end
/-! isinstance of a kept exception -/
def rIsK (K : PySem.W.Frag) : List V → Hp → VK → Prop := fun xs H Q => ∃ (a D : Addr) (c : V) (u : Value) (b : Bool), xs = [.ref a, c] ∧ ClsV c u ∧ H a = some (ExK D a) ∧ ExcC K D ∧ PySem.W.kitOne K (.ref D) u = some b ∧ Q (.bl b) H
def rIsKT (K : PySem.W.Frag) : List V → Hp → VK → Prop := fun xs H Q => ∃ (a D tp : Addr) (cs : List V) (us : List Value) (b : Bool), xs = [.ref a, .ref tp] ∧ H tp = some (.tup cs) ∧ Paired ClsV cs us ∧ H a = some (ExK D a) ∧ ExcC K D ∧ PySem.W.kitAny K (.ref D) us = some b ∧ Q (.bl b) H
section
variable {X : Cx}
theorem inst_of {pins : List (Addr × Obj)} {σ : L2.St} {H : Hp} {s : Shared} {a D : Addr} (I : Inv X pins σ H s) (h : H a = some (ExK D a)) : ∃ oe, PySem.W.InstAt s.heap a oe D none := by
  obtain ⟨⟨oe, vs, h1, h2, h3⟩, _⟩ := (show ObjOk X.prog X.w H s.heap a (ExK D a) from I.hok a _ h)
  refine ⟨oe, ?_⟩
  obtain ⟨oc, od, oda, osl⟩ := oe
  obtain ⟨z1, z2⟩ := h2
  dsimp only at z1 z2 h3
  subst z1 z2 h3
  exact ⟨h1, rfl, rfl, trivial⟩
theorem call_isK : CallR X (.builtin "isinstance") (rIsK X.K) := by
  intro pins s σ H xs us Q I r h
  obtain ⟨a, D, c, u, b, rfl, k, ha, C, e, q⟩ := h
  obtain ⟨u1, u2, rfl, r1, r2⟩ := vals2 r
  have e2 := k.eq r2
  subst e2
  cases (show u1 = Value.ref a from r1)
  obtain ⟨oe, J⟩ := inst_of I ha
  exact PySem.W.kia_one (PySem.W.handS_kitx_exc C.hg C.hk C.hs C.hd C.ha C.hn C.ht C.hm) I.kIn J e (fun z => nomatch z) fun tk => ⟨.bl b, H, I.tok tk, rfl, q⟩
theorem call_isKT : CallR X (.builtin "isinstance") (rIsKT X.K) := by
  intro pins s σ H xs us Q I r h
  obtain ⟨a, D, tp, cs, ws, b, rfl, hT, k, ha, C, e, q⟩ := h
  obtain ⟨u1, u2, rfl, r1, r2⟩ := vals2 r
  cases (show u1 = Value.ref a from r1)
  cases (show u2 = Value.ref tp from r2)
  obtain ⟨oe, J⟩ := inst_of I ha
  obtain ⟨_, its, rv, o, h1, h2, n, h3⟩ := (show ObjOk X.prog X.w H s.heap tp (.tup cs) from I.hok tp _ hT)
  have e3 := ClsV.all k rv
  subst e3
  obtain ⟨oc, od, dt, sl⟩ := o
  simp only at h2 h3
  subst h2 h3
  exact PySem.W.kia_tup (PySem.W.handS_kitx_exc C.hg C.hk C.hs C.hd C.ha C.hn C.ht C.hm) I.kIn J h1 e (fun z => nomatch z) fun tk => ⟨.bl b, H, I.tok tk, rfl, q⟩
end
/-! defs that raise -/
structure CalX (P : Program) (w : World) (K : PySem.W.Frag) (mg : Str → Option Value) (base : Heap) (k : Nat) (x : Str) (sp : Sp) : Prop where
  ex : ∃ (f : Addr) (fd : FuncData) (ps : List Str), FnOk P w K mg base (L2.CX P w) k f fd ps sp ∧ mg x = some (.ref f) ∧ PySem.W.keepIn K (.ref f) = true ∧ Binds K fd ps []
section
variable {P : Program} {w : World} {K : PySem.W.Frag} {mg : Str → Option Value} {base : Heap}
theorem calDX {x : Str} {st : Stmt} {N ps : List Str} {k : Nat} {sp : Sp} (D : DefAt K mg x st ps) (S : FnScope N ps (defScope st)) (len : ∀ vs H Q E, sp vs H Q E → vs.length = ps.length)
    (hbody : ∀ (f : Addr) (cdv : Value) (A : Around) (outer : List Env) (s : Shared) (H : Hp) (vs : List V) (Q : VK) (E : XK), Room k (A.deeper (envOfC x (defScope st) s.heap.objs.size f cdv)) → sp vs H Q E →
      ∃ t, PSs (cxOf (L2.CX P w) P w K mg base N x (defScope st) f cdv A outer s H E) (defBody st) t ∧ t { nx := fun _ H' => Q .non H', rt := Q } (start N vs) H) : CalX P w K mg base (k + 1) x sp := by
  obtain ⟨f, fd, F, hm, b⟩ := D
  exact ⟨f, fd, ps, F.ok S len (hbody f), hm, F.kp, b⟩
end
def tOwnX (sp : Sp) (W : WX) (t : TA) : TE := fun σ H Q => t σ H fun vs H1 => sp vs H1 Q (fun cls d H2 => W cls d σ H2)
def tMetX (C : Addr) (m : Str) (sp : Sp) (W : WX) (ta : TE) (t : TA) : TE := fun σ H Q => ta σ H fun x H1 => rMetO C m x H1 (t σ H1 fun vs H2 => sp (x :: vs) H2 Q (fun cls d H2 => W cls d σ H2))
section
variable {X : Cx} {k j : Nat} {C : Addr} {x m : Str} {sp : Sp} {p pos apos : Pos} {e o : Expr} {es : List Expr} {ta : TE} {t : TA} {W : WX}
theorem pe_ownX (c : CalX X.prog X.w X.K X.mg X.base k x sp) (hr : Room j X.A) (hk : k ≤ j) (hg : Gl X x) (tk : Takes X W) (ha : PA X (e :: es) t)
    (hdb : (x == ("__debug__" : Str)) = false := by decide) (he : starEach (e :: es) X.env = (false, eval e X.env) :: starEach es X.env := by rfl) (hpl : (backTo pos (starEach es X.env)).any (·.1) = false := by rfl) :
    PE X (.Call (.Name x p) (e :: es) [] pos) (tOwnX sp W t) := by
  obtain ⟨f, fd, ps, F, hm, hkp, b⟩ := c.ex
  exact pe_callS (E := WE W) F (hr.mono hk) hg hm hkp b (fun σ => passAt tk σ) ha hdb he hpl
end
/-! what is known of an error's class -/
structure ErrF (K : PySem.W.Frag) (C M : Addr) : Prop where
  x : PySem.W.excIn K C [.type "ValueError", .type "Exception", .type "BaseException", .type "object"] "ValueError.__new__" = true
  kp : PySem.W.keepIn K (.ref C) = true
  sb : PySem.W.subIn K (.ref C) (.type "BaseException") = some true
  ty : PySem.W.typeIn K (.ref C) = some (.type "type")
  ec : ExcC K C
  em : PySem.W.exmOne K (.ref C) (.ref M) = some true
theorem errB_ok {K : PySem.W.Frag} {C M : Addr} (h : errB K C M = true) : ErrF K C M := by
  unfold errB at h
  simp only [Bool.and_eq_true, beq_iff_eq] at h
  obtain ⟨h1, h2, h3, h4, h5, h6, h7, h8, h9, h10, h11, h12⟩ := h
  exact ⟨h1, h2, h3, h4, ⟨h5, h6, h3, h7, h8, h9, h10, h11⟩, h12⟩
theorem all_at {bs : List Bool} (h : bs.all id = true) {i : Nat} {b : Bool} (e : bs[i]? = some b) : b = true := List.all_eq_true.mp h b (List.mem_of_getElem? e)
/-! readings -/
section
variable {K : PySem.W.Frag} {H : Hp} {Q : VK} {a D : Addr}
theorem g_isK {c : V} {u : Value} {b : Bool} (k : ClsV c u) (h : H a = some (ExK D a)) (C : ExcC K D) (e : PySem.W.kitOne K (.ref D) u = some b) (q : Q (.bl b) H) : rIsK K [.ref a, c] H Q := ⟨a, D, c, u, b, rfl, k, h, C, e, q⟩
theorem g_isKT {tp : Addr} {cs : List V} {us : List Value} {b : Bool} (ht : H tp = some (.tup cs)) (k : Paired ClsV cs us) (h : H a = some (ExK D a)) (C : ExcC K D) (e : PySem.W.kitAny K (.ref D) us = some b) (q : Q (.bl b) H) : rIsKT K [.ref a, .ref tp] H Q := ⟨a, D, tp, cs, us, b, rfl, ht, k, h, C, e, q⟩
end
end Ly

set_option maxHeartbeats 0
namespace K08
open PySem PySem.Spec PyProof.Rows L2 SX Ly
def topS (i : Nat) : Stmt := PySem.Challenge.pw_nestmend_k08_no_nests.main.body.getD i (.Pass ⟨0, 0, 0, 0⟩)
abbrev s_is_one_of : Stmt := topS 13
abbrev N_is_one_of : List Str := ["thing", "signs"]
theorem st_is_one_of (v0 v1 : V) : L2.start N_is_one_of [v0, v1] = [some v0, some v1] := rfl
theorem sc_is_one_of : FnScope N_is_one_of ["thing", "signs"] (defScope s_is_one_of) := ⟨rfl, rfl, rfl, by decide +kernel, rfl, by decide +kernel, by decide +kernel⟩
abbrev s_kind_of : Stmt := topS 14
abbrev N_kind_of : List Str := ["bracket"]
theorem st_kind_of (v0 : V) : L2.start N_kind_of [v0] = [some v0] := rfl
theorem sc_kind_of : FnScope N_kind_of ["bracket"] (defScope s_kind_of) := ⟨rfl, rfl, rfl, by decide +kernel, rfl, by decide +kernel, by decide +kernel⟩
abbrev s_other_side : Stmt := topS 15
abbrev N_other_side : List Str := ["bracket"]
theorem st_other_side (v0 : V) : L2.start N_other_side [v0] = [some v0] := rfl
theorem sc_other_side : FnScope N_other_side ["bracket"] (defScope s_other_side) := ⟨rfl, rfl, rfl, by decide +kernel, rfl, by decide +kernel, by decide +kernel⟩
abbrev s_partners : Stmt := topS 16
abbrev N_partners : List Str := ["text", "found", "waiting", "place", "sign"]
theorem st_partners (v0 : V) : L2.start N_partners [v0] = [some v0, none, none, none, none] := rfl
theorem sc_partners : FnScope N_partners ["text"] (defScope s_partners) := ⟨rfl, rfl, rfl, by decide +kernel, rfl, by decide +kernel, by decide +kernel⟩
abbrev s_is_clean : Stmt := topS 17
abbrev N_is_clean : List Str := ["text", "sign", "partner"]
theorem st_is_clean (v0 : V) : L2.start N_is_clean [v0] = [some v0, none, none] := rfl
theorem sc_is_clean : FnScope N_is_clean ["text"] (defScope s_is_clean) := ⟨rfl, rfl, rfl, by decide +kernel, rfl, by decide +kernel, by decide +kernel⟩
abbrev s_is_nest_from : Stmt := topS 20
abbrev N_is_nest_from : List Str := ["thing", "deep", "item"]
theorem st_is_nest_from (v0 v1 : V) : L2.start N_is_nest_from [v0, v1] = [some v0, some v1, none] := rfl
theorem sc_is_nest_from : FnScope N_is_nest_from ["thing", "deep"] (defScope s_is_nest_from) := ⟨rfl, rfl, rfl, by decide +kernel, rfl, by decide +kernel, by decide +kernel⟩
abbrev s_is_nest : Stmt := topS 21
abbrev N_is_nest : List Str := ["thing"]
theorem st_is_nest (v0 : V) : L2.start N_is_nest [v0] = [some v0] := rfl
theorem sc_is_nest : FnScope N_is_nest ["thing"] (defScope s_is_nest) := ⟨rfl, rfl, rfl, by decide +kernel, rfl, by decide +kernel, by decide +kernel⟩
abbrev s_nest_of : Stmt := topS 22
abbrev N_nest_of : List Str := ["text", "around", "sign", "inner"]
theorem st_nest_of (v0 : V) : L2.start N_nest_of [v0] = [some v0, none, none, none] := rfl
theorem sc_nest_of : FnScope N_nest_of ["text"] (defScope s_nest_of) := ⟨rfl, rfl, rfl, by decide +kernel, rfl, by decide +kernel, by decide +kernel⟩
abbrev s_joined : Stmt := topS 23
abbrev N_joined : List Str := ["nest", "found", "item"]
theorem st_joined (v0 : V) : L2.start N_joined [v0] = [some v0, none, none] := rfl
theorem sc_joined : FnScope N_joined ["nest"] (defScope s_joined) := ⟨rfl, rfl, rfl, by decide +kernel, rfl, by decide +kernel, by decide +kernel⟩
abbrev s_text_of : Stmt := topS 24
abbrev N_text_of : List Str := ["nest"]
theorem st_text_of (v0 : V) : L2.start N_text_of [v0] = [some v0] := rfl
theorem sc_text_of : FnScope N_text_of ["nest"] (defScope s_text_of) := ⟨rfl, rfl, rfl, by decide +kernel, rfl, by decide +kernel, by decide +kernel⟩
abbrev s_copied : Stmt := topS 25
abbrev N_copied : List Str := ["nest", "found", "item"]
theorem st_copied (v0 : V) : L2.start N_copied [v0] = [some v0, none, none] := rfl
theorem sc_copied : FnScope N_copied ["nest"] (defScope s_copied) := ⟨rfl, rfl, rfl, by decide +kernel, rfl, by decide +kernel, by decide +kernel⟩
abbrev s_at_path : Stmt := topS 26
abbrev N_at_path : List Str := ["nest", "path", "item", "place"]
theorem st_at_path (v0 v1 : V) : L2.start N_at_path [v0, v1] = [some v0, some v1, none, none] := rfl
theorem sc_at_path : FnScope N_at_path ["nest", "path"] (defScope s_at_path) := ⟨rfl, rfl, rfl, by decide +kernel, rfl, by decide +kernel, by decide +kernel⟩
abbrev s_law_mixed : Stmt := topS 28
abbrev N_law_mixed : List Str := ["cell", "k", "number"]
theorem st_law_mixed (v0 v1 : V) : L2.start N_law_mixed [v0, v1] = [some v0, some v1, none] := rfl
theorem sc_law_mixed : FnScope N_law_mixed ["cell", "k"] (defScope s_law_mixed) := ⟨rfl, rfl, rfl, by decide +kernel, rfl, by decide +kernel, by decide +kernel⟩
abbrev s_law_pot : Stmt := topS 29
abbrev N_law_pot : List Str := ["cell"]
theorem st_law_pot (v0 : V) : L2.start N_law_pot [v0] = [some v0] := rfl
theorem sc_law_pot : FnScope N_law_pot ["cell"] (defScope s_law_pot) := ⟨rfl, rfl, rfl, by decide +kernel, rfl, by decide +kernel, by decide +kernel⟩
abbrev s_law_take : Stmt := topS 30
abbrev N_law_take : List Str := ["pot", "many", "told"]
theorem st_law_take (v0 v1 : V) : L2.start N_law_take [v0, v1] = [some v0, some v1, none] := rfl
theorem sc_law_take : FnScope N_law_take ["pot", "many"] (defScope s_law_take) := ⟨rfl, rfl, rfl, by decide +kernel, rfl, by decide +kernel, by decide +kernel⟩
abbrev s_law_sign : Stmt := topS 31
abbrev N_law_sign : List Str := ["pot", "way"]
theorem st_law_sign (v0 : V) : L2.start N_law_sign [v0] = [some v0, none] := rfl
theorem sc_law_sign : FnScope N_law_sign ["pot"] (defScope s_law_sign) := ⟨rfl, rfl, rfl, by decide +kernel, rfl, by decide +kernel, by decide +kernel⟩
abbrev s_law_clean : Stmt := topS 32
abbrev N_law_clean : List Str := ["pot", "most", "text", "waiting", "shape", "left", "way", "k"]
theorem st_law_clean (v0 v1 : V) : L2.start N_law_clean [v0, v1] = [some v0, some v1, none, none, none, none, none, none] := rfl
theorem sc_law_clean : FnScope N_law_clean ["pot", "most"] (defScope s_law_clean) := ⟨rfl, rfl, rfl, by decide +kernel, rfl, by decide +kernel, by decide +kernel⟩
abbrev s_law_bent : Stmt := topS 33
abbrev N_law_bent : List Str := ["pot", "text", "at", "way", "to", "signs"]
theorem st_law_bent (v0 v1 : V) : L2.start N_law_bent [v0, v1] = [some v0, some v1, none, none, none, none] := rfl
theorem sc_law_bent : FnScope N_law_bent ["pot", "text"] (defScope s_law_bent) := ⟨rfl, rfl, rfl, by decide +kernel, rfl, by decide +kernel, by decide +kernel⟩
abbrev s_law_long : Stmt := topS 34
abbrev N_law_long : List Str := ["pot", "k"]
theorem st_law_long (v0 v1 : V) : L2.start N_law_long [v0, v1] = [some v0, some v1] := rfl
theorem sc_law_long : FnScope N_law_long ["pot", "k"] (defScope s_law_long) := ⟨rfl, rfl, rfl, by decide +kernel, rfl, by decide +kernel, by decide +kernel⟩
abbrev s_law_text : Stmt := topS 35
abbrev N_law_text : List Str := ["pot", "most", "way", "text", "k"]
theorem st_law_text (v0 v1 : V) : L2.start N_law_text [v0, v1] = [some v0, some v1, none, none, none] := rfl
theorem sc_law_text : FnScope N_law_text ["pot", "most"] (defScope s_law_text) := ⟨rfl, rfl, rfl, by decide +kernel, rfl, by decide +kernel, by decide +kernel⟩
abbrev s_law_is_clean : Stmt := topS 36
abbrev N_law_is_clean : List Str := ["text", "rest", "ahead", "pair", "sign"]
theorem st_law_is_clean (v0 : V) : L2.start N_law_is_clean [v0] = [some v0, none, none, none, none] := rfl
theorem sc_law_is_clean : FnScope N_law_is_clean ["text"] (defScope s_law_is_clean) := ⟨rfl, rfl, rfl, by decide +kernel, rfl, by decide +kernel, by decide +kernel⟩
abbrev s_law_nest : Stmt := topS 37
abbrev N_law_nest : List Str := ["text", "around", "sign", "item", "inner"]
theorem st_law_nest (v0 : V) : L2.start N_law_nest [v0] = [some v0, none, none, none, none] := rfl
theorem sc_law_nest : FnScope N_law_nest ["text"] (defScope s_law_nest) := ⟨rfl, rfl, rfl, by decide +kernel, rfl, by decide +kernel, by decide +kernel⟩
abbrev s_law_which : Stmt := topS 38
abbrev N_law_which : List Str := ["caught"]
theorem st_law_which (v0 : V) : L2.start N_law_which [v0] = [some v0] := rfl
theorem sc_law_which : FnScope N_law_which ["caught"] (defScope s_law_which) := ⟨rfl, rfl, rfl, by decide +kernel, rfl, by decide +kernel, by decide +kernel⟩
abbrev s_law_refused : Stmt := topS 39
abbrev N_law_refused : List Str := ["way", "thing", "path", "kept", "caught", "e"]
theorem st_law_refused (v0 v1 v2 : V) : L2.start N_law_refused [v0, v1, v2] = [some v0, some v1, some v2, none, none, none] := rfl
theorem sc_law_refused : FnScope N_law_refused ["way", "thing", "path"] (defScope s_law_refused) := ⟨rfl, rfl, rfl, by decide +kernel, rfl, by decide +kernel, by decide +kernel⟩
abbrev s_law_odd : Stmt := topS 40
abbrev N_law_odd : List Str := ["pot", "some", "signs", "sign"]
theorem st_law_odd (v0 : V) : L2.start N_law_odd [v0] = [some v0, none, none, none] := rfl
theorem sc_law_odd : FnScope N_law_odd ["pot"] (defScope s_law_odd) := ⟨rfl, rfl, rfl, by decide +kernel, rfl, by decide +kernel, by decide +kernel⟩
abbrev s_law_spoilt : Stmt := topS 41
abbrev N_law_spoilt : List Str := ["pot", "nest", "at", "pairs", "k"]
theorem st_law_spoilt (v0 v1 : V) : L2.start N_law_spoilt [v0, v1] = [some v0, some v1, none, none, none] := rfl
theorem sc_law_spoilt : FnScope N_law_spoilt ["pot", "nest"] (defScope s_law_spoilt) := ⟨rfl, rfl, rfl, by decide +kernel, rfl, by decide +kernel, by decide +kernel⟩
abbrev s_law_chain : Stmt := topS 42
abbrev N_law_chain : List Str := ["deep", "inner", "k"]
theorem st_law_chain (v0 v1 : V) : L2.start N_law_chain [v0, v1] = [some v0, some v1, none] := rfl
theorem sc_law_chain : FnScope N_law_chain ["deep", "inner"] (defScope s_law_chain) := ⟨rfl, rfl, rfl, by decide +kernel, rfl, by decide +kernel, by decide +kernel⟩
abbrev s_law_bad_paths : Stmt := topS 43
abbrev N_law_bad_paths : List Str := ["pot", "nest", "many", "found", "k", "j"]
theorem st_law_bad_paths (v0 v1 : V) : L2.start N_law_bad_paths [v0, v1] = [some v0, some v1, none, none, none, none] := rfl
theorem sc_law_bad_paths : FnScope N_law_bad_paths ["pot", "nest"] (defScope s_law_bad_paths) := ⟨rfl, rfl, rfl, by decide +kernel, rfl, by decide +kernel, by decide +kernel⟩
abbrev s_law_deep_paths : Stmt := topS 44
abbrev N_law_deep_paths : List Str := ["pot", "nest", "path", "sizes", "found", "pairs", "at", "size", "one", "bad", "k"]
theorem st_law_deep_paths (v0 v1 : V) : L2.start N_law_deep_paths [v0, v1] = [some v0, some v1, none, none, none, none, none, none, none, none, none] := rfl
theorem sc_law_deep_paths : FnScope N_law_deep_paths ["pot", "nest"] (defScope s_law_deep_paths) := ⟨rfl, rfl, rfl, by decide +kernel, rfl, by decide +kernel, by decide +kernel⟩
abbrev s_law : Stmt := topS 45
abbrev N_law : List Str := ["script", "k", "cell", "pot", "text", "nest", "thing", "path"]
theorem st_law (v0 : V) : L2.start N_law [v0] = [some v0, none, none, none, none, none, none, none] := rfl
theorem sc_law : FnScope N_law ["script"] (defScope s_law) := ⟨rfl, rfl, rfl, by decide +kernel, rfl, by decide +kernel, by decide +kernel⟩

namespace Top
/-! ### the head -/
def d_is_one_of : He.DefD := ⟨("is_one_of", none), "is_one_of", "is_one_of", defArgs s_is_one_of, defBody s_is_one_of, defScope s_is_one_of, [], []⟩
def d_kind_of : He.DefD := ⟨("kind_of", none), "kind_of", "kind_of", defArgs s_kind_of, defBody s_kind_of, defScope s_kind_of, [], []⟩
def d_other_side : He.DefD := ⟨("other_side", none), "other_side", "other_side", defArgs s_other_side, defBody s_other_side, defScope s_other_side, [], []⟩
def d_partners : He.DefD := ⟨("partners", none), "partners", "partners", defArgs s_partners, defBody s_partners, defScope s_partners, [], []⟩
def d_is_clean : He.DefD := ⟨("is_clean", none), "is_clean", "is_clean", defArgs s_is_clean, defBody s_is_clean, defScope s_is_clean, [], []⟩
def d_is_nest_from : He.DefD := ⟨("is_nest_from", none), "is_nest_from", "is_nest_from", defArgs s_is_nest_from, defBody s_is_nest_from, defScope s_is_nest_from, [], []⟩
def d_is_nest : He.DefD := ⟨("is_nest", none), "is_nest", "is_nest", defArgs s_is_nest, defBody s_is_nest, defScope s_is_nest, [], []⟩
def d_nest_of : He.DefD := ⟨("nest_of", none), "nest_of", "nest_of", defArgs s_nest_of, defBody s_nest_of, defScope s_nest_of, [], []⟩
def d_joined : He.DefD := ⟨("joined", none), "joined", "joined", defArgs s_joined, defBody s_joined, defScope s_joined, [], []⟩
def d_text_of : He.DefD := ⟨("text_of", none), "text_of", "text_of", defArgs s_text_of, defBody s_text_of, defScope s_text_of, [], []⟩
def d_copied : He.DefD := ⟨("copied", none), "copied", "copied", defArgs s_copied, defBody s_copied, defScope s_copied, [], []⟩
def d_at_path : He.DefD := ⟨("at_path", none), "at_path", "at_path", defArgs s_at_path, defBody s_at_path, defScope s_at_path, [], []⟩
def d_law_mixed : He.DefD := ⟨("_law_mixed", none), "_law_mixed", "_law_mixed", defArgs s_law_mixed, defBody s_law_mixed, defScope s_law_mixed, [], []⟩
def d_law_pot : He.DefD := ⟨("_law_pot", none), "_law_pot", "_law_pot", defArgs s_law_pot, defBody s_law_pot, defScope s_law_pot, [], []⟩
def d_law_take : He.DefD := ⟨("_law_take", none), "_law_take", "_law_take", defArgs s_law_take, defBody s_law_take, defScope s_law_take, [], []⟩
def d_law_sign : He.DefD := ⟨("_law_sign", none), "_law_sign", "_law_sign", defArgs s_law_sign, defBody s_law_sign, defScope s_law_sign, [], []⟩
def d_law_clean : He.DefD := ⟨("_law_clean", none), "_law_clean", "_law_clean", defArgs s_law_clean, defBody s_law_clean, defScope s_law_clean, [], []⟩
def d_law_bent : He.DefD := ⟨("_law_bent", none), "_law_bent", "_law_bent", defArgs s_law_bent, defBody s_law_bent, defScope s_law_bent, [], []⟩
def d_law_long : He.DefD := ⟨("_law_long", none), "_law_long", "_law_long", defArgs s_law_long, defBody s_law_long, defScope s_law_long, [], []⟩
def d_law_text : He.DefD := ⟨("_law_text", none), "_law_text", "_law_text", defArgs s_law_text, defBody s_law_text, defScope s_law_text, [], []⟩
def d_law_is_clean : He.DefD := ⟨("_law_is_clean", none), "_law_is_clean", "_law_is_clean", defArgs s_law_is_clean, defBody s_law_is_clean, defScope s_law_is_clean, [], []⟩
def d_law_nest : He.DefD := ⟨("_law_nest", none), "_law_nest", "_law_nest", defArgs s_law_nest, defBody s_law_nest, defScope s_law_nest, [], []⟩
def d_law_which : He.DefD := ⟨("_law_which", none), "_law_which", "_law_which", defArgs s_law_which, defBody s_law_which, defScope s_law_which, [], []⟩
def d_law_refused : He.DefD := ⟨("_law_refused", none), "_law_refused", "_law_refused", defArgs s_law_refused, defBody s_law_refused, defScope s_law_refused, [], []⟩
def d_law_odd : He.DefD := ⟨("_law_odd", none), "_law_odd", "_law_odd", defArgs s_law_odd, defBody s_law_odd, defScope s_law_odd, [], []⟩
def d_law_spoilt : He.DefD := ⟨("_law_spoilt", none), "_law_spoilt", "_law_spoilt", defArgs s_law_spoilt, defBody s_law_spoilt, defScope s_law_spoilt, [], []⟩
def d_law_chain : He.DefD := ⟨("_law_chain", none), "_law_chain", "_law_chain", defArgs s_law_chain, defBody s_law_chain, defScope s_law_chain, [], []⟩
def d_law_bad_paths : He.DefD := ⟨("_law_bad_paths", none), "_law_bad_paths", "_law_bad_paths", defArgs s_law_bad_paths, defBody s_law_bad_paths, defScope s_law_bad_paths, [], []⟩
def d_law_deep_paths : He.DefD := ⟨("_law_deep_paths", none), "_law_deep_paths", "_law_deep_paths", defArgs s_law_deep_paths, defBody s_law_deep_paths, defScope s_law_deep_paths, [], []⟩
def d_law : He.DefD := ⟨("law", none), "law", "law", defArgs s_law, defBody s_law, defScope s_law, [], []⟩
def fn : List He.DefD := [d_is_one_of, d_kind_of, d_other_side, d_partners, d_is_clean, d_is_nest_from, d_is_nest, d_nest_of, d_joined, d_text_of, d_copied, d_at_path, d_law_mixed, d_law_pot, d_law_take, d_law_sign, d_law_clean, d_law_bent, d_law_long, d_law_text, d_law_is_clean, d_law_nest, d_law_which, d_law_refused, d_law_odd, d_law_spoilt, d_law_chain, d_law_bad_paths, d_law_deep_paths, d_law]
def exL (K : PySem.W.Frag) : List Bool := (errB K (He.ga K "NoNest") (He.ga K "MendError")) :: (PySem.W.kitOne K (.ref (He.ga K "NoNest")) (.type "ValueError") == some true) :: (PySem.W.kitOne K (.ref (He.ga K "NoNest")) (.ref (He.ga K "NoNest")) == some true) :: (PySem.W.kitOne K (.ref (He.ga K "NoNest")) (.ref (He.ga K "NoDeeds")) == some false) :: (PySem.W.kitOne K (.ref (He.ga K "NoNest")) (.ref (He.ga K "NoNumber")) == some false) :: (PySem.W.kitOne K (.ref (He.ga K "NoNest")) (.ref (He.ga K "NoSign")) == some false) :: (PySem.W.kitOne K (.ref (He.ga K "NoNest")) (.ref (He.ga K "NoWriting")) == some false) :: (PySem.W.kitOne K (.ref (He.ga K "NoNest")) (.ref (He.ga K "NoRow")) == some false) :: (errB K (He.ga K "NoDeeds") (He.ga K "MendError")) :: (PySem.W.kitOne K (.ref (He.ga K "NoDeeds")) (.type "ValueError") == some true) :: (PySem.W.kitOne K (.ref (He.ga K "NoDeeds")) (.ref (He.ga K "NoNest")) == some false) :: (PySem.W.kitOne K (.ref (He.ga K "NoDeeds")) (.ref (He.ga K "NoDeeds")) == some true) :: (PySem.W.kitOne K (.ref (He.ga K "NoDeeds")) (.ref (He.ga K "NoNumber")) == some false) :: (PySem.W.kitOne K (.ref (He.ga K "NoDeeds")) (.ref (He.ga K "NoSign")) == some false) :: (PySem.W.kitOne K (.ref (He.ga K "NoDeeds")) (.ref (He.ga K "NoWriting")) == some false) :: (PySem.W.kitOne K (.ref (He.ga K "NoDeeds")) (.ref (He.ga K "NoRow")) == some false) :: (errB K (He.ga K "NoNumber") (He.ga K "MendError")) :: (PySem.W.kitOne K (.ref (He.ga K "NoNumber")) (.type "ValueError") == some true) :: (PySem.W.kitOne K (.ref (He.ga K "NoNumber")) (.ref (He.ga K "NoNest")) == some false) :: (PySem.W.kitOne K (.ref (He.ga K "NoNumber")) (.ref (He.ga K "NoDeeds")) == some false) :: (PySem.W.kitOne K (.ref (He.ga K "NoNumber")) (.ref (He.ga K "NoNumber")) == some true) :: (PySem.W.kitOne K (.ref (He.ga K "NoNumber")) (.ref (He.ga K "NoSign")) == some false) :: (PySem.W.kitOne K (.ref (He.ga K "NoNumber")) (.ref (He.ga K "NoWriting")) == some false) :: (PySem.W.kitOne K (.ref (He.ga K "NoNumber")) (.ref (He.ga K "NoRow")) == some false) :: (errB K (He.ga K "NoSign") (He.ga K "MendError")) :: (PySem.W.kitOne K (.ref (He.ga K "NoSign")) (.type "ValueError") == some true) :: (PySem.W.kitOne K (.ref (He.ga K "NoSign")) (.ref (He.ga K "NoNest")) == some false) :: (PySem.W.kitOne K (.ref (He.ga K "NoSign")) (.ref (He.ga K "NoDeeds")) == some false) :: (PySem.W.kitOne K (.ref (He.ga K "NoSign")) (.ref (He.ga K "NoNumber")) == some false) :: (PySem.W.kitOne K (.ref (He.ga K "NoSign")) (.ref (He.ga K "NoSign")) == some true) :: (PySem.W.kitOne K (.ref (He.ga K "NoSign")) (.ref (He.ga K "NoWriting")) == some false) :: (PySem.W.kitOne K (.ref (He.ga K "NoSign")) (.ref (He.ga K "NoRow")) == some false) :: (errB K (He.ga K "NoWriting") (He.ga K "MendError")) :: (PySem.W.kitOne K (.ref (He.ga K "NoWriting")) (.type "ValueError") == some true) :: (PySem.W.kitOne K (.ref (He.ga K "NoWriting")) (.ref (He.ga K "NoNest")) == some false) :: (PySem.W.kitOne K (.ref (He.ga K "NoWriting")) (.ref (He.ga K "NoDeeds")) == some false) :: (PySem.W.kitOne K (.ref (He.ga K "NoWriting")) (.ref (He.ga K "NoNumber")) == some false) :: (PySem.W.kitOne K (.ref (He.ga K "NoWriting")) (.ref (He.ga K "NoSign")) == some false) :: (PySem.W.kitOne K (.ref (He.ga K "NoWriting")) (.ref (He.ga K "NoWriting")) == some true) :: (PySem.W.kitOne K (.ref (He.ga K "NoWriting")) (.ref (He.ga K "NoRow")) == some false) :: (errB K (He.ga K "NoRow") (He.ga K "MendError")) :: (PySem.W.kitOne K (.ref (He.ga K "NoRow")) (.type "ValueError") == some true) :: (PySem.W.kitOne K (.ref (He.ga K "NoRow")) (.ref (He.ga K "NoNest")) == some false) :: (PySem.W.kitOne K (.ref (He.ga K "NoRow")) (.ref (He.ga K "NoDeeds")) == some false) :: (PySem.W.kitOne K (.ref (He.ga K "NoRow")) (.ref (He.ga K "NoNumber")) == some false) :: (PySem.W.kitOne K (.ref (He.ga K "NoRow")) (.ref (He.ga K "NoSign")) == some false) :: (PySem.W.kitOne K (.ref (He.ga K "NoRow")) (.ref (He.ga K "NoWriting")) == some false) :: (PySem.W.kitOne K (.ref (He.ga K "NoRow")) (.ref (He.ga K "NoRow")) == some true) :: []
def ex (K : PySem.W.Frag) : Bool := (exL K).all id
def fa : List He.Fa := [.glo "is_one_of", .glo "kind_of", .glo "other_side", .glo "partners", .glo "is_clean", .glo "is_nest_from", .glo "is_nest", .glo "nest_of", .glo "joined", .glo "text_of", .glo "copied", .glo "at_path", .glo "_law_mixed", .glo "_law_pot", .glo "_law_take", .glo "_law_sign", .glo "_law_clean", .glo "_law_bent", .glo "_law_long", .glo "_law_text", .glo "_law_is_clean", .glo "_law_nest", .glo "_law_which", .glo "_law_refused", .glo "_law_odd", .glo "_law_spoilt", .glo "_law_chain", .glo "_law_bad_paths", .glo "_law_deep_paths", .glo "law", .str "LETTERS" (S [97, 98, 99, 100, 101, 102, 103, 104, 105, 106, 107, 108, 109, 110, 111, 112, 113, 114, 115, 116, 117, 118, 119, 120, 121, 122]), .str "OPENING" (S [40, 60, 91, 123]), .str "CLOSING" (S [41, 62, 93, 125]), .str "BRACKETS" (S [40, 41, 60, 62, 91, 93, 123, 125]), .int "DEEPEST" 60, .free "len", .free "int", .free "str", .free "range", .free "enumerate", .free "zip", .free "isinstance", .free "list", .free "tuple", .free "bool", .free "min", .free "repr", .free "ValueError", .glo "MendError", .glo "NoNest", .glo "NoDeeds", .glo "NoNumber", .glo "NoSign", .glo "NoWriting", .glo "NoRow"]
abbrev R : PySem.W.OpenRow := PySem.W.OpenLaw.row PySem.Challenge.rw_nestmend_k08_no_nests
abbrev hk : PySem.W.Hook := hookE 4 fa fn ex
def ob (s : PySem.W.SharedT) : AlE := obsEG 4 fa fn ex (HandSHeadRun.getT s)
theorem ob_eq (s : PySem.W.SharedT) : ob s = hk.obs s.abs := obsEG_eq (HandSHeadRun.getT_eq s)
def loose : List Str := ("MendError" : Str) :: ("NoNest" : Str) :: ("NoDeeds" : Str) :: ("NoNumber" : Str) :: ("NoSign" : Str) :: ("NoWriting" : Str) :: ("NoRow" : Str) :: ("LETTERS" : Str) :: ("OPENING" : Str) :: ("CLOSING" : Str) :: ("BRACKETS" : Str) :: ("is_one_of" : Str) :: ("kind_of" : Str) :: ("other_side" : Str) :: ("partners" : Str) :: ("is_clean" : Str) :: ("DEEPEST" : Str) :: ("is_nest_from" : Str) :: ("is_nest" : Str) :: ("nest_of" : Str) :: ("joined" : Str) :: ("text_of" : Str) :: ("copied" : Str) :: ("at_path" : Str) :: ("_law_mixed" : Str) :: ("_law_pot" : Str) :: ("_law_take" : Str) :: ("_law_sign" : Str) :: ("_law_clean" : Str) :: ("_law_bent" : Str) :: ("_law_long" : Str) :: ("_law_text" : Str) :: ("_law_is_clean" : Str) :: ("_law_nest" : Str) :: ("_law_which" : Str) :: ("_law_refused" : Str) :: ("_law_odd" : Str) :: ("_law_spoilt" : Str) :: ("_law_chain" : Str) :: ("_law_bad_paths" : Str) :: ("_law_deep_paths" : Str) :: []
theorem run (w : World) : HandSHeadRun.RunEq R (PySem.W.view R.prog [45]) hk ob 6000 loose w := by
  intro os
  kernel_rfl

end Top
end K08

set_option maxHeartbeats 4000000
namespace Ly
open PySem PySem.Spec PyProof.Rows L2 SX
/-! ### texts with their tokens: for y in [texts]: x = x.replace(y, z) -/
/-- what a local name holds, as it is -/
def Raw (X : Cx) (s : Shared) (x : Str) (u : Value) : Prop := ∃ m, s.heap.Ns X.env.locals m ∧ m x = some u
section
variable {X : Cx} {pins : List (Addr × Obj)} {σ : L2.St} {H : Hp} {s : Shared}
/-- a local name is stored: its value is known, a token is out -/
theorem store_raw {M : Model} {A : Around} {E : Value → Shared → Prop} {i : Nat} {x : Str} {v : V} {u : Value} {Q : Unit → Shared → Prop} (I : Inv X pins σ H s) (hN : X.N.Nodup) (hi : X.N[i]? = some x) (hk : X.env.scope.names.lookup x = some .local) (r : RelV v u)
    (h : ∀ s', Inv X pins (σ.set i (some v)) H s' → Raw X s' x u → s'.toks = s.toks + 1 → (∃ a, Heap.SameBut a s.heap s'.heap ∧ a = X.env.locals) → Q () s') : wpAny M A (storeName X.env x u) Q E s := by
  obtain ⟨m, hn, hl⟩ := id I.loc
  have hcls : (X.env.scope.kind == .class || (X.env.scope.kind == .module && X.env.locals != X.env.globals)) = false := by rw [I.ok.kind]; rfl
  have hiσ : i < σ.length := by rw [I.len]; exact (List.getElem?_eq_some_iff.mp hi).1
  have cne := I.cne
  refine wpAny_storeName_local hk hn (fun h' hn' hs => ?_) hcls
  obtain ⟨oL, _, _, hoL, _⟩ := id hn
  have old : ∀ b o, X.s_0.heap.get? b = some o → h'.get? b = s.heap.get? b := fun b o e => hs.2 b (Nat.ne_of_lt (Nat.lt_of_lt_of_le (Heap.lt_size e) I.ok.above))
  refine h _ ⟨I.ok, I.os, I.bare, ⟨fun b o e n hb hx => (old b o e).trans (I.base.keep b o e n hb hx), fun b o e n hb hx => ?_, I.base.free, fun b o e hx => ?_, I.base.tups, I.base.frzs, I.base.tbls⟩, ⟨_, hn', fun j y v' e1 e2 e3 => ?_⟩, fun y c e => ?_, I.free, I.freeC, fun p hp => ?_, fun b ob e => ?_, by simpa using I.len⟩ ⟨_, hn', by simp⟩ rfl ⟨_, hs, rfl⟩
  · obtain ⟨sl, e1⟩ := I.base.slot b o e n hb hx
    exact ⟨sl, (old b o e).trans e1⟩
  · obtain ⟨o', e1⟩ := I.base.there b o e hx
    exact ⟨o', (old b o e).trans e1⟩
  · by_cases hj : j = i
    · subst hj
      rw [hi] at e1; cases e1
      rw [List.getElem?_set_self hiσ] at e2
      cases e2
      exact ⟨u, r, .inl ⟨hk, by simp⟩⟩
    · rw [List.getElem?_set_ne (Ne.symm hj)] at e2
      obtain ⟨u', r', q⟩ := hl j y v' e1 e2 e3
      refine ⟨u', r', ?_⟩
      rcases q with ⟨k, e⟩ | ⟨k, c, e, z⟩
      · have : y ≠ x := fun e => hj (nodup_ix hN e1 (e ▸ hi))
        exact .inl ⟨k, by simp [this, e]⟩
      · exact .inr ⟨k, c, e, z.sameBut hs (cne y c e)⟩
  · obtain ⟨w', z⟩ := I.cell y c e
    exact ⟨w', z.sameBut hs (cne y c e)⟩
  · obtain ⟨e, n, ne, nf, d⟩ := I.pin p hp
    exact ⟨(hs.2 p.1 ne).trans e, n, ne, nf, d⟩
  · refine (I.hok b ob e).stay (fun c w' hc q => (hs.2 c ?_).trans q) (fun _ q => q) fun _ _ q => q
    rintro rfl
    rcases hc with rfl | hc
    · rw [I.free] at e; cases e
    · rw [I.free] at hc; cases hc
/-- behind a store a token is out -/
theorem pss_asgT {i : Nat} {x : Str} {e : Expr} {te : TE} {rest : List Stmt} {u : TS} {pos' pos : Pos} (hN : X.N.Nodup) (hi : X.N[i]? = some x) (hk : X.env.scope.names.lookup x = some .local) (he : PE X e te) (h2 : PSsT X rest u)
    (hs : swapsWith e (some (.Name x pos')) pos.line X.env = pure false := by rfl) : PSs X (.Assign [.Name x pos'] e pos :: rest) (tSeq (tAsg te (gName i)) u) := by
  refine ⟨fun pins s σ H D I h => ?_⟩
  refine wpAny_execs_cons (wpAny_Assign_Name (thn (he.run pins s σ H _ I h) fun v s1 ⟨y, H1, I1, r1, q1⟩ => ?_) hs)
  exact store_raw I1 hN hi hk r1 fun s2 I2 _ ht _ => h2 pins s2 _ H1 D (by omega) I2 q1
theorem raw_load {x : Str} {u : Value} {pos : Pos} {Q E : Value → Shared → Prop} (hk : X.env.scope.names.lookup x = some .local) (I : Inv X pins σ H s) (h : Raw X s x u) (fin : Q u s)
    (hd : (x == ("__debug__" : Str)) = false) : wpAny (model X.prog X.w) X.A (eval (.Name x pos) X.env) Q E s := by
  obtain ⟨m, hn, hm⟩ := h
  exact wpAny_Name (wpAny_loadName_local I.ok.kind hk hn hm fin) hd
end
section
variable {X : Cx} {ik ip : Nat} {kx px z : Str} {y1 y2 y3 y4 : Str}
def yAt (y1 y2 y3 y4 : Str) (i : Nat) : Str := match i with | 0 => y1 | 1 => y2 | 2 => y3 | _ => y4
/-- the reading: F i is the state ahead of turn i, xs i the text there -/
def tRepl (ik ip : Nat) (y1 y2 y3 y4 z : Str) : TS := fun D σ H => ∃ (F : Nat → L2.St) (xs : Nat → Str), F 0 = σ ∧ (∀ i, i < 4 → (F i)[ik]? = some (some (.str (xs i))) ∧ (xs i).length + ((xs i).length + 1) * z.length ≤ 16777216 ∧ F (i + 1) = ((F i).set ip (some (.str (yAt y1 y2 y3 y4 i)))).set ik (some (.str (Txt.replace (xs i) (yAt y1 y2 y3 y4 i) z)))) ∧
  ∀ a o, H a = none → D.nx (F 4) (upd H a (.frz o (.lst [.str y1, .str y2, .str y3, .str y4])))
theorem pst_repl {j1 j2 j3 j4 jz : Nat} {p0 c1 c2 c3 c4 pl pa p1 apos p2 cz pos pos2 pos3 : Pos} (hp : PassesOwn (model X.prog X.w) X.A X.env X.xe) (hc : X.calm = true) (hN : X.N.Nodup) (hNk : X.N[ik]? = some kx) (hvk : X.env.scope.names.lookup kx = some .local)
    (hNp : X.N[ip]? = some px) (hvp : X.env.scope.names.lookup px = some .local) (hne : ik ≠ ip) (hy : ∀ i, (yAt y1 y2 y3 y4 i == z) = false)
    (hdk : (kx == ("__debug__" : Str)) = false) (hck : (kx == ("__classdict__" : Str)) = false) (hdp : (px == ("__debug__" : Str)) = false)
    (hs : ∀ x, foldedSetIterable (.List [.Constant (.str y1) j1 c1, .Constant (.str y2) j2 c2, .Constant (.str y3) j3 c3, .Constant (.str y4) j4 c4] pl) X.env x = pure x := by intro _; rfl)
    (hst : starEach [.Name px p2, .Constant (.str z) jz cz] X.env = [(false, eval (.Name px p2) X.env), (false, eval (.Constant (.str z) jz cz) X.env)] := by rfl)
    (hbase : attributeBase (.Name kx p1) "replace" X.env (eval (.Name kx p1) X.env) = eval (.Name kx p1) X.env := by rfl) (hline : (apos.endLine == pos.line) = true := by rfl)
    (hsw : swapsWith (.Call (.Attribute (.Name kx p1) "replace" apos) [.Name px p2, .Constant (.str z) jz cz] [] pos) (some (.Name kx pa)) pos2.line X.env = pure false := by rfl) :
    PST X (.For (.Name px p0) (.List [.Constant (.str y1) j1 c1, .Constant (.str y2) j2 c2, .Constant (.str y3) j3 c3, .Constant (.str y4) j4 c4] pl)
      [.Assign [.Name kx pa] (.Call (.Attribute (.Name kx p1) "replace" apos) [.Name px p2, .Constant (.str z) jz cz] [] pos) pos2] [] pos3) (tRepl ik ip y1 y2 y3 y4 z) := by
  intro pins s σ H D h0 I h
  obtain ⟨F, xs, F0, hF, fin⟩ := h
  refine wpAny_For ?_ hs
  refine wpAny_List_spliced ?_
  show wpAny _ _ (spliced ((false, eval (.Constant (.str y1) j1 c1) X.env) :: backTo pl (starEach [.Constant (.str y2) j2 c2, .Constant (.str y3) j3 c3, .Constant (.str y4) j4 c4] X.env))) _ _ s
  refine Calls.spliced_cons (Calls.Constant_str ?_)
  show wpAny _ _ (spliced ((false, eval (.Constant (.str y2) j2 c2) X.env) :: backTo pl (starEach [.Constant (.str y3) j3 c3, .Constant (.str y4) j4 c4] X.env))) _ _ _
  refine Calls.spliced_cons (Calls.Constant_str ?_)
  show wpAny _ _ (spliced ((false, eval (.Constant (.str y3) j3 c3) X.env) :: backTo pl (starEach [.Constant (.str y4) j4 c4] X.env))) _ _ _
  refine Calls.spliced_cons (Calls.Constant_str ?_)
  show wpAny _ _ (spliced ((false, eval (.Constant (.str y4) j4 c4) X.env) :: backTo pl (starEach [] X.env))) _ _ _
  refine Calls.spliced_cons (Calls.Constant_str (Calls.spliced_nil ?_))
  have h4 : (4 : Nat) ≤ sizeLine := by decide
  refine ⟨h4, ?_⟩
  have nfr : H s.heap.objs.size = none := I.hok.fresh (Nat.le_refl _)
  have I1 : Inv X pins σ (upd H s.heap.objs.size (.frz { cls := .type "list", data := .seq #[.str y1 s.toks, .str y2 (s.toks + 1), .str y3 (s.toks + 1 + 1), .str y4 (s.toks + 1 + 1 + 1)] 0 } (.lst [.str y1, .str y2, .str y3, .str y4]))) { s with heap := s.heap.push { cls := .type "list", data := .seq #[.str y1 s.toks, .str y2 (s.toks + 1), .str y3 (s.toks + 1 + 1), .str y4 (s.toks + 1 + 1 + 1)] 0 }, toks := s.toks + 1 + 1 + 1 + 1 } :=
    I.laid (t' := s.toks + 1 + 1 + 1 + 1) (fun b u e => Heap.get?_push_of_some _ e) (Nat.le_refl _) ⟨Heap.get?_push_size _ rfl, h4, [.str y1 s.toks, .str y2 (s.toks + 1), .str y3 (s.toks + 1 + 1), .str y4 (s.toks + 1 + 1 + 1)], 0, .cons ⟨_, rfl⟩ (.cons ⟨_, rfl⟩ (.cons ⟨_, rfl⟩ (.cons ⟨_, rfl⟩ .nil))), Heap.get?_push_size _ rfl⟩
  obtain ⟨T0, hT0⟩ : ∃ T0, T0 = s.toks := ⟨_, rfl⟩
  rw [← hT0] at I1 h0 ⊢
  obtain ⟨o, ho⟩ : ∃ o : Obj, o = { cls := .type "list", data := .seq #[.str y1 T0, .str y2 (T0 + 1), .str y3 (T0 + 1 + 1), .str y4 (T0 + 1 + 1 + 1)] 0 } := ⟨_, rfl⟩
  rw [← ho] at I1
  obtain ⟨a, ha⟩ : ∃ a, a = s.heap.objs.size := ⟨_, rfl⟩
  rw [← ha] at nfr I1
  have isL : ∀ {pins' : List (Addr × Obj)} {σ' : L2.St} {s' : Shared}, Inv X pins' σ' (upd H a (.frz o (.lst [.str y1, .str y2, .str y3, .str y4]))) s' → s'.heap.IsList a #[.str y1 T0, .str y2 (T0 + 1), .str y3 (T0 + 1 + 1), .str y4 (T0 + 1 + 1 + 1)] := by
    intro pins' σ' s' I'
    obtain ⟨h5, _⟩ := I'.hok a _ upd_same
    exact ⟨o, h5, by rw [ho], 0, by rw [ho]⟩
  have sq : SqL X.K (upd H a (.frz o (.lst [.str y1, .str y2, .str y3, .str y4]))) a [.str y1, .str y2, .str y3, .str y4] := .inl (.inr ⟨o, upd_same⟩)
  have itAt : ∀ i, i < 4 → ∃ t, (#[Value.str y1 T0, Value.str y2 (T0 + 1), Value.str y3 (T0 + 1 + 1), Value.str y4 (T0 + 1 + 1 + 1)] : Array Value)[i]? = some (.str (yAt y1 y2 y3 y4 i) t) ∧ 1 ≤ t ∧ t < T0 + 4 := by
    intro i hi
    have hc : i = 0 ∨ i = 1 ∨ i = 2 ∨ i = 3 := by omega
    rcases hc with rfl | rfl | rfl | rfl
    · exact ⟨T0, rfl, by omega, by omega⟩
    · exact ⟨T0 + 1, rfl, by omega, by omega⟩
    · exact ⟨T0 + 1 + 1, rfl, by omega, by omega⟩
    · exact ⟨T0 + 1 + 1 + 1, rfl, by omega, by omega⟩
  have vAt : ∀ i, i < 4 → ([.str y1, .str y2, .str y3, .str y4] : List V)[i]? = some (.str (yAt y1 y2 y3 y4 i)) := by
    intro i hi
    have hc : i = 0 ∨ i = 1 ∨ i = 2 ∨ i = 3 := by omega
    rcases hc with rfl | rfl | rfl | rfl <;> rfl
  generalize hH1 : upd H a (.frz o (.lst [.str y1, .str y2, .str y3, .str y4])) = H1 at I1 isL sq
  rw [← ha, ← ho]
  generalize hs1 : ({ s with heap := s.heap.push o, toks := T0 + 1 + 1 + 1 + 1 } : Shared) = s1 at I1
  have ht1 : T0 + 4 ≤ s1.toks := by rw [← hs1]; exact Nat.le_refl _
  refine thn (show wpAny _ _ (pyIter (.ref a)) (fun itv s2 => ∃ it, itv = .ref it ∧ Inv X pins σ H1 s2 ∧ s2.heap.IsListIter it a 0 ∧ (∀ b ∈ [it], FpOk X pins H1 b) ∧ T0 + 4 ≤ s2.toks) _ s1 from ?_) fun itv s2 h2 => ?_
  · refine wpAny_pyIter_list (isL I1) ?_
    refine ⟨s1.heap.objs.size, rfl, I1.kept (t' := s1.toks) fun b o e => Heap.get?_push_of_some _ e, ⟨_, Heap.get?_push_size _ rfl, rfl, rfl⟩, fun b hb => ?_, ht1⟩
    have e : b = s1.heap.objs.size := by simpa using hb
    subst e
    exact I1.fpOk (Nat.le_refl _) (I1.hok.fresh (Nat.le_refl _))
  obtain ⟨it, rfl, I2, st2, f2, ht2⟩ := h2
  have T := turn_list (P := X.prog) (w := X.w) (K := X.K) (tg := .Name px p0) a it
  have stat : ∀ {H' : Hp}, (∀ b ∈ [it], H' b = none) → ∀ b ∈ [it], FpOk X pins H' b := fun hn b hb => ⟨hn b hb, (f2 b hb).2⟩
  have fr2 : ∀ b ∈ [it], H1 b = none := fun b hb => (f2 b hb).1
  refine codeAny_forLoop_any (fun n s' => ∃ i, i + n = 4 ∧ Inv X pins (F i) H1 s' ∧ s'.heap.IsListIter it a i ∧ T0 + 4 ≤ s'.toks) ?_ 4 ⟨0, rfl, by rw [F0]; exact I2, st2, ht2⟩
  rintro n s3 ⟨i, hin, I3, st3, ht3⟩
  by_cases hi : i < 4
  · obtain ⟨t, hu, t1, t2⟩ := itAt i hi
    obtain ⟨hx, hb, hFi⟩ := hF i hi
    obtain ⟨f0, f1, f2', f3, f4, f5⟩ := stat fr2 it (by simp)
    refine wpAny_passesOwn hp (wpAny_pyNext_list_item st3 (isL I3) hu fun h' st' sb => ?_)
    have I4 : Inv X pins (F i) H1 { s3 with heap := h' } := I3.turned (t' := s3.toks) (fun b o hb e => (sb.2 b hb).trans e) f0 f1 f3 f4 f5
    obtain ⟨oi, e, c, d⟩ := id st'
    refine wpAny_passesOwn hp (go_of (s := { s3 with heap := h' }) e c d (by decide) ?_)
    have I4' := I4.pinned (stat fr2) (T.obj _ _ st')
    refine wpAny_passesOwn hp (wpAny_assign_Name (store_raw (v := V.str (yAt y1 y2 y3 y4 i)) I4' hN hNp hvp ⟨t, rfl⟩ fun s6 I6 raw6 ht6 _ => ?_))
    have ht6' : T0 + 4 ≤ s6.toks := by rw [ht6]; exact Nat.le_trans ht3 (Nat.le_add_right _ _)
    refine wpAny_passesOwn hp (thn (show wpAny (model X.prog X.w) X.A (execs [.Assign [.Name kx pa] (.Call (.Attribute (.Name kx p1) "replace" apos) [.Name px p2, .Constant (.str z) jz cz] [] pos) pos2] X.env) (fun f s7 => f = .next ∧ Inv X (pins ++ pinsAt [it] h') (F (i + 1)) H1 s7 ∧ T0 + 4 ≤ s7.toks) X.xe s6 from ?_) fun f s7 q7 => ?_)
    · refine wpAny_execs_cons (wpAny_Assign_Name (PySem.Call_method2 hbase hst hline ?_) hsw)
      have hx6 : ((F i).set ip (some (V.str (yAt y1 y2 y3 y4 i))))[ik]? = some (some (.str (xs i))) := by
        rw [List.getElem?_set_ne (Ne.symm hne)]
        exact hx
      refine raw_name hNk (.inl hvk) I6 hx6 (fun v r => ?_) hdk hck
      obtain ⟨tx, ev⟩ := r
      subst ev
      refine ⟨"str", _, PySem.F.plainAttrs_str, PySem.F.slot_str_replace, PySem.F.type_str_replace, typeIs_str _ _ _, (fun _ e => nomatch e), Calls.callWith_builtin rfl (Calls.evalArgs_plain (Calls.spliced_cons ?_))⟩
      refine raw_load hvp I6 raw6 ?_ hdp
      refine Calls.spliced_cons (Calls.Constant_str (Calls.spliced_nil ?_))
      refine wpAny_mono (PySem.wpAny_toks_of (n := T0 + 4) (Nat.le_trans ht6' (Nat.le_add_right _ 1)) (PySem.SC.replace (Q := fun v s8 => ∃ t', v = Value.str (Txt.replace (xs i) (yAt y1 y2 y3 y4 i) z) t' ∧ Inv X (pins ++ pinsAt [it] h') ((F i).set ip (some (V.str (yAt y1 y2 y3 y4 i)))) H1 s8) (by show t ≠ 0; omega) (by show s6.toks ≠ 0; omega) (by show t ≠ s6.toks; omega) (hy i) hb fun t' k => ⟨t', rfl, I6.tok k⟩)) (fun v s8 q8 => ?_) fun _ _ q => q.2
      obtain ⟨ht8, t', rfl, I8⟩ := q8
      refine store_raw (v := V.str (Txt.replace (xs i) (yAt y1 y2 y3 y4 i) z)) I8 hN hNk hvk ⟨t', rfl⟩ fun s9 I9 _ ht9 _ => ?_
      refine wpAny_execs_nil ⟨rfl, by rw [hFi]; exact I9, by omega⟩
    · obtain ⟨rfl, I7, ht7⟩ := q7
      refine ⟨n - 1, by omega, i + 1, by omega, I7.unpinned, T.keep _ _ _ st' fun b hb o e => (I7.pin (b, o) (List.mem_append_right _ (List.mem_append_right _ (mem_pinsAt hb e)))).1, ht7⟩
  · have hi4 : i = 4 := by omega
    subst hi4
    refine wpAny_passesOwn hp (thn (T.done X rfl rfl rfl hc 4 pins s3 (F 4) H1 X.xe I3 (stat fr2) st3 ⟨_, sq, Nat.le_refl _⟩) fun r s4 ⟨hr, I4⟩ => ?_)
    subst hr
    exact wpAny_execs_nil ⟨F 4, H1, I4, by rw [← hH1]; exact fin a o nfr⟩
end
end Ly

set_option maxHeartbeats 4000000
namespace Ly
open PySem PySem.Spec PyProof.Rows L2 SX
/-- pairs struck out of the text at ik, all four kinds -/
def tRm (ik ip : Nat) : TS := fun D σ H => ∃ l : List Nat, σ[ik]? = some (some (Tx l)) ∧ l.length ≤ 1000 ∧ ∀ H', Same H H' → D.nx ((σ.set ip (some (Tx [123, 125]))).set ik (some (Tx (rm4 l)))) H'
theorem set_again {α : Type} {A : List α} {p k : Nat} {a b c d : α} (h : k ≠ p) : (((A.set p a).set k b).set p c).set k d = (A.set p c).set k d := by
  rw [List.set_comm b c h, List.set_set, List.set_set]
def rmF (σ : L2.St) (ik ip : Nat) (l : List Nat) : Nat → L2.St
  | 0 => σ
  | 1 => (σ.set ip (some (Tx [40, 41]))).set ik (some (Tx (rm 40 l)))
  | 2 => (σ.set ip (some (Tx [60, 62]))).set ik (some (Tx (rm 60 (rm 40 l))))
  | 3 => (σ.set ip (some (Tx [91, 93]))).set ik (some (Tx (rm 91 (rm 60 (rm 40 l)))))
  | _ => (σ.set ip (some (Tx [123, 125]))).set ik (some (Tx (rm4 l)))
def rmX (l : List Nat) : Nat → List Nat
  | 0 => l
  | 1 => rm 40 l
  | 2 => rm 60 (rm 40 l)
  | _ => rm 91 (rm 60 (rm 40 l))
theorem rep_one {l : List Nat} {o c : Nat} (h : oth o = c) : Txt.replace (S l) (S [o, c]) (S []) = S (rm o l) := by
  rw [← h]
  exact replace_rm
theorem tRm_repl {ik ip : Nat} (hne : ik ≠ ip) {D : Ends} {σ : L2.St} {H : Hp} (h : tRm ik ip D σ H) : tRepl ik ip (S [40, 41]) (S [60, 62]) (S [91, 93]) (S [123, 125]) (S []) D σ H := by
  obtain ⟨l, hk, hl, q⟩ := h
  have a1 := (rm_le 40 _ l (Nat.le_refl _)).1
  have a2 := (rm_le 60 _ (rm 40 l) (Nat.le_refl _)).1
  have a3 := (rm_le 91 _ (rm 60 (rm 40 l)) (Nat.le_refl _)).1
  have hik : ik < σ.length := (List.getElem?_eq_some_iff.mp hk).1
  have bound : ∀ x : List Nat, x.length ≤ 1000 → (S x).length + ((S x).length + 1) * (S []).length ≤ 16777216 := by
    intro x hx
    rw [S_len, S_len]
    simp
    omega
  have at_ : ∀ (A : L2.St) (v : Option V), A.length = σ.length → (A.set ik v)[ik]? = some v := fun A v hA => List.getElem?_set_self (by omega)
  refine ⟨rmF σ ik ip l, fun i => S (rmX l i), rfl, fun i hi => ?_, fun a o na => q _ (Same.new na)⟩
  have hc : i = 0 ∨ i = 1 ∨ i = 2 ∨ i = 3 := by omega
  rcases hc with rfl | rfl | rfl | rfl
  · refine ⟨hk, bound _ hl, ?_⟩
    show (σ.set ip (some (Tx [40, 41]))).set ik (some (Tx (rm 40 l))) = _
    rw [show Tx (rm 40 l) = V.str (Txt.replace (S l) (S [40, 41]) (S [])) by rw [rep_one (by decide)]]
    rfl
  · refine ⟨at_ _ _ (by simp), bound _ (by show (rm 40 l).length ≤ 1000; omega), ?_⟩
    show (σ.set ip (some (Tx [60, 62]))).set ik (some (Tx (rm 60 (rm 40 l)))) = (((σ.set ip (some (Tx [40, 41]))).set ik (some (Tx (rm 40 l)))).set ip (some (Tx [60, 62]))).set ik (some (V.str (Txt.replace (S (rm 40 l)) (S [60, 62]) (S []))))
    rw [rep_one (by decide), set_again hne]
  · refine ⟨at_ _ _ (by simp), bound _ (by show (rm 60 (rm 40 l)).length ≤ 1000; omega), ?_⟩
    show (σ.set ip (some (Tx [91, 93]))).set ik (some (Tx (rm 91 (rm 60 (rm 40 l))))) = (((σ.set ip (some (Tx [60, 62]))).set ik (some (Tx (rm 60 (rm 40 l))))).set ip (some (Tx [91, 93]))).set ik (some (V.str (Txt.replace (S (rm 60 (rm 40 l))) (S [91, 93]) (S []))))
    rw [rep_one (by decide), set_again hne]
  · refine ⟨at_ _ _ (by simp), bound _ (by show (rm 91 (rm 60 (rm 40 l))).length ≤ 1000; omega), ?_⟩
    show (σ.set ip (some (Tx [123, 125]))).set ik (some (Tx (rm4 l))) = (((σ.set ip (some (Tx [91, 93]))).set ik (some (Tx (rm 91 (rm 60 (rm 40 l)))))).set ip (some (Tx [123, 125]))).set ik (some (V.str (Txt.replace (S (rm 91 (rm 60 (rm 40 l)))) (S [123, 125]) (S []))))
    rw [rep_one (by decide), set_again hne]
    rfl
section
variable {X : Cx} {ik ip : Nat} {kx px z : Str} {y1 y2 y3 y4 : Str}
theorem pst_rm {j1 j2 j3 j4 jz : Nat} {p0 c1 c2 c3 c4 pl pa p1 apos p2 cz pos pos2 pos3 : Pos} (hp : PassesOwn (model X.prog X.w) X.A X.env X.xe) (hc : X.calm = true) (hN : X.N.Nodup) (hNk : X.N[ik]? = some kx) (hvk : X.env.scope.names.lookup kx = some .local)
    (hNp : X.N[ip]? = some px) (hvp : X.env.scope.names.lookup px = some .local) (hne : ik ≠ ip) (e1 : y1 = S [40, 41]) (e2 : y2 = S [60, 62]) (e3 : y3 = S [91, 93]) (e4 : y4 = S [123, 125]) (ez : z = S [])
    (hdk : (kx == ("__debug__" : Str)) = false) (hck : (kx == ("__classdict__" : Str)) = false) (hdp : (px == ("__debug__" : Str)) = false)
    (hs : ∀ x, foldedSetIterable (.List [.Constant (.str y1) j1 c1, .Constant (.str y2) j2 c2, .Constant (.str y3) j3 c3, .Constant (.str y4) j4 c4] pl) X.env x = pure x := by intro _; rfl)
    (hst : starEach [.Name px p2, .Constant (.str z) jz cz] X.env = [(false, eval (.Name px p2) X.env), (false, eval (.Constant (.str z) jz cz) X.env)] := by rfl)
    (hbase : attributeBase (.Name kx p1) "replace" X.env (eval (.Name kx p1) X.env) = eval (.Name kx p1) X.env := by rfl) (hline : (apos.endLine == pos.line) = true := by rfl)
    (hsw : swapsWith (.Call (.Attribute (.Name kx p1) "replace" apos) [.Name px p2, .Constant (.str z) jz cz] [] pos) (some (.Name kx pa)) pos2.line X.env = pure false := by rfl) :
    PST X (.For (.Name px p0) (.List [.Constant (.str y1) j1 c1, .Constant (.str y2) j2 c2, .Constant (.str y3) j3 c3, .Constant (.str y4) j4 c4] pl)
      [.Assign [.Name kx pa] (.Call (.Attribute (.Name kx p1) "replace" apos) [.Name px p2, .Constant (.str z) jz cz] [] pos) pos2] [] pos3) (tRm ik ip) := by
  have hy : ∀ i, (yAt y1 y2 y3 y4 i == z) = false := by
    subst e1 e2 e3 e4 ez
    intro i
    unfold yAt
    split <;> decide +kernel
  intro pins s σ H D h0 I h
  refine pst_repl (y1 := y1) (y2 := y2) (y3 := y3) (y4 := y4) (z := z) hp hc hN hNk hvk hNp hvp hne hy hdk hck hdp hs hst hbase hline hsw pins s σ H D h0 I ?_
  subst e1 e2 e3 e4 ez
  exact tRm_repl hne h
end
end Ly

set_option maxHeartbeats 4000000
namespace Ly
/-! ### from piece to piece -/
/-! ### sums -/
end Ly

set_option maxHeartbeats 4000000
namespace Ly
open PySem PySem.Spec PyProof.Rows L2 SX
/-! ### promises that stand where nothing is being shown: repr -/
structure FnG (P : Program) (w : World) (K : PySem.W.Frag) (mg : Str → Option Value) (base : Heap) (CX : CXT) (k : Nat) (f : Addr) (fd : FuncData) (ps : List Str) (sp : Sp) : Prop where
  len : ∀ vs H Q E, sp vs H Q E → vs.length = ps.length
  run : ∀ (A : Around) (outer : List Env) (s : Shared) (H : Hp) (args : Args) (us : List Value) (vs : List V) (Q : VK) (E : XK), Room k A → A.guards = some [] → Env0 P w K mg base A outer s H → BindsTo s fd args (ps.zip us) → Vals vs us → sp vs H Q E →
    codeAny (model P w) A (.call (.ref f) args) (CR CX outer P w H s Q E) s
section
variable {P : Program} {w : World} {K : PySem.W.Frag} {mg : Str → Option Value} {base : Heap}
theorem fnG_of {CX : CXT} {x q : Str} {st : Stmt} {f : Addr} {fd : FuncData} {N ps : List Str} {k : Nat} {sp : Sp} (F : FunD K x q (defArgs st) (defBody st) (defScope st) [] [] f fd) (S : FnScope N ps (defScope st)) (len : ∀ vs H Q E, sp vs H Q E → vs.length = ps.length)
    (hbody : ∀ (cdv : Value) (A : Around) (outer : List Env) (s : Shared) (H : Hp) (vs : List V) (Q : VK) (E : XK), Room k (A.deeper (envOfC q (defScope st) s.heap.objs.size f cdv)) → A.guards = some [] → sp vs H Q E →
      ∃ t, PSs (cxOf CX P w K mg base N q (defScope st) f cdv A outer s H E) (defBody st) t ∧ t { nx := fun _ H' => Q .non H', rt := Q } (start N vs) H) : FnG P w K mg base CX (k + 1) f fd ps sp := by
  obtain ⟨oc, od, dV, kV, doc, pm, an, cdv, ct, osl, rfl, lk, hcd, _, _⟩ := F.ex
  refine ⟨len, fun A outer s H args us vs Q E hr hg e0 hb r hsp => ?_⟩
  have stay : ∀ b o, base.get? b = some o → s.heap.get? b = some o := fun b o e => (e0.bs b o e).1
  have inK : K.In s.heap := e0.mod.kin.keeps stay
  have nl : s.heap.NoLimit := e0.mod.nolimit.keeps stay
  obtain ⟨t, ht, hq⟩ := hbody cdv A outer s H vs Q E (hr.deeper _) hg hsp
  refine codeAny_call_function hr.depth (inK _ _ lk) rfl S.co S.gen rfl (PySem.W.codeRec_of inK hcd) (hb _ _ _ _ (wpAny_newFunctionEnv_cells S.kind (fun y hy => (S.par y.1 (List.of_mem_zip hy).1).imp_right fun z => ⟨z, PySem.W.cellsFrom_some _ _ _ (.inl z)⟩) fun env he s1 new => ?_))
  subst he
  refine ⟨nl.keeps new.toInCall.keep, codeAny_func (wpAny_mono (ht.run [] s1 (start N vs) H _ (inv_start S hr.hd e0 (len _ _ _ _ hsp) r new) hq) (fun fl s' hs => ?_) fun e s' hs => hs)⟩
  match fl, hs with
  | .ret u, ⟨v, _, H', J, rv, z⟩ => exact ⟨v, H', J.os, J.bare, J.base, J.hok, rv, z⟩
  | .next, ⟨_, H', J, z⟩ => exact ⟨V.non, H', J.os, J.bare, J.base, J.hok, rfl, z⟩
  | .brk, ⟨_, _, _, z⟩ => exact False.elim z
  | .cont, ⟨_, _, _, z⟩ => exact False.elim z
theorem fnDG {x : Str} {st : Stmt} {f : Addr} {fd : FuncData} {N ps : List Str} {k : Nat} {sp : Sp} (F : FunD K x x (defArgs st) (defBody st) (defScope st) [] [] f fd) (S : FnScope N ps (defScope st)) (len : ∀ vs H Q E, sp vs H Q E → vs.length = ps.length)
    (hbody : ∀ (cdv : Value) (A : Around) (outer : List Env) (s : Shared) (H : Hp) (vs : List V) (Q : VK) (E : XK), Room k (A.deeper (envOfC x (defScope st) s.heap.objs.size f cdv)) → A.guards = some [] → sp vs H Q E →
      ∃ t, PSs (cxOf C8.CX0 P w K mg base N x (defScope st) f cdv A outer s H E).nox (defBody st) t ∧ t { nx := fun _ H' => Q .non H', rt := Q } (start N vs) H) : FnG P w K mg base C8.CX0 (k + 1) f fd ps sp := by
  refine fnG_of F S len fun cdv A outer s H vs Q E hr hg hsp => ?_
  obtain ⟨t, h, q⟩ := hbody cdv A outer s H vs Q E hr hg hsp
  exact ⟨t, h.nox, q⟩
/-- a def that may be called where nothing is being shown -/
structure CalG (P : Program) (w : World) (K : PySem.W.Frag) (mg : Str → Option Value) (base : Heap) (k : Nat) (x : Str) (sp : Sp) : Prop where
  ex : ∃ (f : Addr) (fd : FuncData) (ps : List Str), FnG P w K mg base C8.CX0 k f fd ps sp ∧ mg x = some (.ref f) ∧ PySem.W.keepIn K (.ref f) = true ∧ Binds K fd ps []
theorem calDG {x : Str} {st : Stmt} {N ps : List Str} {k : Nat} {sp : Sp} (D : DefAt K mg x st ps) (S : FnScope N ps (defScope st)) (len : ∀ vs H Q E, sp vs H Q E → vs.length = ps.length)
    (hbody : ∀ (f : Addr) (cdv : Value) (A : Around) (outer : List Env) (s : Shared) (H : Hp) (vs : List V) (Q : VK) (E : XK), Room k (A.deeper (envOfC x (defScope st) s.heap.objs.size f cdv)) → A.guards = some [] → sp vs H Q E →
      ∃ t, PSs (cxOf C8.CX0 P w K mg base N x (defScope st) f cdv A outer s H E).nox (defBody st) t ∧ t { nx := fun _ H' => Q .non H', rt := Q } (start N vs) H) : CalG P w K mg base (k + 1) x sp := by
  obtain ⟨f, fd, F, hm, b⟩ := D
  exact ⟨f, fd, ps, fnDG F S len (hbody f), hm, F.kp, b⟩
end
/-! ### the law's call -/
section
variable {P : Program} {w : World} {K : PySem.W.Frag} {mg mb : Str → Option Value} {k : Nat} {fa a : Addr} {fd : FuncData} {x : Str} {sp : Sp} {s₁ : Shared} {vs : List Value} {ns : List Int}
theorem callG {H : Hp} (KX : K.In s₁.heap) (hns : s₁.heap.Ns mainGlobals mg) (hb : s₁.heap.Ns builtinsNs mb) (hbb : ∀ x : Str, x ≠ "__name__" → mb x = bootBuiltins x) (hlim : s₁.heap.NoLimit) (hg : s₁.gens = #[]) (hr : Room k callerA)
    (F : ∀ base : Heap, K.In base → base.Ns mainGlobals mg → FnG P w K mg base C8.CX0 k fa fd [x] sp) (hbind : ∀ (s : Shared) (u : Value), BindsTo s fd ⟨[u], []⟩ [(x, u)])
    (hO : Only H) (hok : HOk P w H s₁.heap) (noD : ∀ (b : Addr) (o : Obj) (es : Array DictEntry) (ep : Nat), s₁.heap.get? b = some o → o.data = .dict es ep → H b = none) (noK : ∀ b o, K.lookup b = some o → H b = none)
    (hsp : sp [.ref a] H (fun v _ => v = .bl true) fun _ _ _ => False) :
    codeAny (model P w) callerA (.call (.ref fa) ⟨[.ref a], []⟩) (fun r s' => r = .ok (.ret (.bool true)) ∧ OldK s₁.heap s'.heap ∧ s'.os = s₁.os ∧ AllBare s'.gens) s₁ := by
  have ns2 : ∀ {b : Addr} {m : Str → Option Value}, s₁.heap.Ns b m → (hidT s₁.heap H).Ns b m := fun ⟨o, es, ep, e, d, r⟩ => ⟨o, es, ep, hidT_get e (noD _ _ _ _ e d), d, r⟩
  have inK : K.In (hidT s₁.heap H) := fun b o e => hidT_get (KX b o e) (noK b o e)
  have env : Env0 P w K mg (hidT s₁.heap H) callerA [] s₁ H := ⟨rfl, ⟨inK, ns2 hns, ⟨mb, ns2 hb, hbb⟩, hlim.imp fun mc z => ⟨ns2 z.1, z.2⟩⟩, fun b o e => of_hidT e, Nat.le_of_eq (hidT_size _ _), trivial, (fun b hb => nomatch hb), hok, .of_eq hg⟩
  refine codeAny_mono ((F _ inK (ns2 hns)).run callerA [] s₁ H ⟨[.ref a], []⟩ [.ref a] [.ref a] _ _ hr rfl env (hbind s₁ (.ref a)) (.cons rfl .nil) hsp) fun r s' h => ?_
  match r, h with
  | .error e, h => exact h.elim
  | .ok .next, h => exact h.elim
  | .ok .brk, h => exact h.elim
  | .ok .cont, h => exact h.elim
  | .ok (.ret u), ⟨v, H', os, bare, un, hok', r', q⟩ =>
    obtain rfl : v = .bl true := q
    obtain rfl : u = Value.bool true := r'
    refine ⟨rfl, OldK.of_keep fun b o e => ?_, os, bare⟩
    rcases hO b with z | ⟨ob, xs, z⟩
    · exact un.keep b o e z (fun hb => nomatch hb) (by simp)
    · have e1 := (hok b _ z).1
      rw [e] at e1
      cases e1
      exact (hok' b _ (un.frzs b _ _ z)).1
theorem law_callG (KX : K.In s₁.heap) (hns : s₁.heap.Ns mainGlobals mg) (hb : s₁.heap.Ns builtinsNs mb) (hbb : ∀ x : Str, x ≠ "__name__" → mb x = bootBuiltins x) (hlim : s₁.heap.NoLimit) (hg : s₁.gens = #[])
    (ha : s₁.heap.get? a = some { cls := .type "list", data := .seq vs.toArray }) (hi : IntsAre vs ns) (hl : ns.length ≤ sizeLine) (hr : Room k callerA)
    (F : ∀ base : Heap, K.In base → base.Ns mainGlobals mg → FnG P w K mg base C8.CX0 k fa fd [x] sp) (hbind : ∀ (s : Shared) (u : Value), BindsTo s fd ⟨[u], []⟩ [(x, u)])
    (hsp : ∀ H : Hp, Only H → SqL K H a (ns.map V.int) → sp [.ref a] H (fun v _ => v = .bl true) fun _ _ _ => False) :
    codeAny (model P w) callerA (.call (.ref fa) ⟨[.ref a], []⟩) (fun r s' => r = .ok (.ret (.bool true)) ∧ OldK s₁.heap s'.heap ∧ s'.os = s₁.os ∧ AllBare s'.gens) s₁ := by
  have go : ∀ {H : Hp}, Only H → HOk P w H s₁.heap → (∀ b, H b ≠ none → b = a) → (∀ b o, K.lookup b = some o → H b = none) → SqL K H a (ns.map V.int) → codeAny (model P w) callerA (.call (.ref fa) ⟨[.ref a], []⟩) (fun r s' => r = .ok (.ret (.bool true)) ∧ OldK s₁.heap s'.heap ∧ s'.os = s₁.os ∧ AllBare s'.gens) s₁ := by
    intro H hO hok hA noK sq
    refine callG KX hns hb hbb hlim hg hr F hbind hO hok (fun b o es ep e d => Classical.byContradiction fun z => ?_) noK (hsp H hO sq)
    cases hA b z
    rw [ha] at e
    cases e
    cases d
  cases hk : K.lookup a with
  | some o =>
    have e := KX a o hk
    rw [ha] at e
    cases e
    exact go (H := fun _ => none) (fun _ => .inl rfl) (fun b u z => nomatch z) (fun b z => absurd rfl z) (fun _ _ _ => rfl) (.inr ⟨_, vs.toArray, _, hk, rfl, rfl, rfl, by rw [List.size_toArray, hi.length]; exact hl, by simpa using vals_ints hi⟩)
  | none =>
    let o : Obj := { cls := .type "list", data := .seq vs.toArray }
    let H : Hp := fun b => if b = a then some (.frz o (.lst (ns.map V.int))) else none
    have at_ : H a = some (.frz o (.lst (ns.map V.int))) := if_pos rfl
    have off : ∀ {b}, b ≠ a → H b = none := fun h => if_neg h
    refine go (H := H) (fun b => (Classical.em (b = a)).elim (fun e => .inr ⟨_, _, e ▸ at_⟩) fun e => .inl (off e)) (fun b u z => ?_) (fun b z => Classical.byContradiction fun e => z (off e)) (fun b u z => off fun e => ?_) (.inl (.inr ⟨o, at_⟩))
    · rcases Classical.em (b = a) with e | e
      · subst e
        rw [at_] at z
        cases z
        exact ⟨ha, by rw [List.length_map]; exact hl, vs, _, vals_ints hi, ha⟩
      · rw [off e] at z
        cases z
    · subst e
      rw [hk] at z
      cases z
end
theorem walkG {l : PySem.W.OpenLaw} {n k : Nat} {q : Program} {loose : List Str} {XP : (Str → Option Value) → Heap → Prop} {YP : World → Heap → Prop} {d : DefRec} {x : Str}
    (hn : l.most = some n) (hn2 : n ≤ sizeLine) (hdf : d.params.defaults = []) (hr : Room k callerA)
    (F : ∀ (w : World) (mg : Str → Option Value) (fa : Addr) (h : Heap), YP w h → h.Ns mainGlobals mg → mg d.name = some (.ref fa) →
      ∃ (K : PySem.W.Frag) (fd : FuncData) (sp : Sp), K.In h ∧ (∀ (s : Shared) (u : Value), BindsTo s fd ⟨[u], []⟩ [(x, u)]) ∧
        (∀ (H : Hp) (a : Addr) (ns : List Int), ns.length ≤ n → Only H → SqL K H a (ns.map V.int) → sp [.ref a] H (fun v _ => v = .bl true) fun _ _ _ => False) ∧
        ∀ base : Heap, K.In base → base.Ns mainGlobals mg → FnG l.prog w K mg base C8.CX0 k fa fd [x] sp) :
    PySem.W.WalkO q loose XP YP l.row.toRowW d [] (fun f vs => PySem.call f vs) := by
  refine Att.attach_call hn hdf fun w s₀ s₁ mg mb fa o pm cd doc a vs ns G Y ho hd hcd hmg hobj hints hlen hg => ?_
  obtain ⟨K, fd, sp, KX, hb, hsp, hF⟩ := F w mg fa _ Y G.T.g hmg
  exact law_callG KX G.T.g G.T.b G.T.builtins G.T.nolimit hg hobj hints (Nat.le_trans hlen hn2) hr hF hb fun H hO hS => hsp H a ns hlen hO hS
/-! ### repr of data -/
section
variable {X : Cx}
end
/-! lists of small numbers -/
end Ly

set_option maxHeartbeats 4000000
namespace Ly
open PySem PySem.Spec PyProof.Rows L2 SX
/-! ### paths, depths, the nests within a nest -/
/-! ways of the maker -/
section
variable {fs : List (List Nd × Nat)} {cur ds : List Nd} {c o : Nat}
end
/-! what a path leads to -/
def Rch : List Nd → List Nat → Nd → Prop
  | _, [], _ => False
  | ds, [k], d => ds[k]? = some d
  | ds, k :: j :: p, d => ∃ o es, ds[k]? = some (.br o es) ∧ Rch es (j :: p) d
theorem Rch.cons {ds es : List Nd} {k o : Nat} {p : List Nat} {d : Nd} (h : ds[k]? = some (.br o es)) (r : Rch es p d) : Rch ds (k :: p) d := by
  cases p with
  | nil => exact r.elim
  | cons j p => exact ⟨o, es, h, r⟩
/-! the text within -/
/-! an opening sign of a nest's text opens the nest that stands there in the row of nests within -/
end Ly

set_option maxHeartbeats 4000000
namespace Ly
open PySem PySem.Spec PyProof.Rows L2 SX
/-! ### len(set) of tuples of ints -/
/-! ### nests side by side -/
/-! paths: all different, each behind the one it goes on from -/
/-! outlines side by side, within -/
end Ly

set_option maxHeartbeats 4000000
namespace Ly
/-! ### all rows of steps with so many deeds, counted -/
def Stp.wd (W : Wd) : Stp → Prop
  | .kp _ => True
  | .st _ => W.st = true
  | .tn _ _ => W.tn = true
  | .pt _ => W.pt = true
def cstS : List Stp → Nat
  | [] => 0
  | .kp _ :: α => cstS α
  | .st _ :: α => cstS α + 1
  | .tn _ _ :: α => cstS α + 1
  | .pt _ :: α => cstS α + 1
/-- all rows of steps by words, from a pile of awaited ones, over a text, with so many deeds, in order -/
def rowsL (W : Wd) (st r : List Nat) (n : Nat) : List (List Stp) :=
  (match n with
   | 0 => []
   | n + 1 => if W.pt = true then BRK.flatMap fun c => (match stp (some st) c with | none => [] | some s => rowsL W s r n).map (Stp.pt c :: ·) else [])
  ++ (match r with
   | [] => if st = [] ∧ n = 0 then [[]] else []
   | x :: r => if x ∈ BRK then
        (match n with
         | 0 => []
         | n + 1 => (if W.st = true then (rowsL W st r n).map (Stp.st x :: ·) else []) ++ (if W.tn = true then (BRK.filter (· ≠ x)).flatMap fun c => (match stp (some st) c with | none => [] | some s => rowsL W s r n).map (Stp.tn x c :: ·) else []))
        ++ (match stp (some st) x with | none => [] | some s => rowsL W s r n).map (Stp.kp x :: ·)
      else (rowsL W st r n).map (Stp.kp x :: ·))
termination_by n + r.length
/-! series -/
abbrev Ser := Nat → Nat
def sh (f : Ser) : Ser := fun n => match n with | 0 => 0 | n + 1 => f n
def gat (b : Bool) (f : Ser) : Ser := fun n => if b = true then f n else 0
def oA (f : List Nat → Ser) (o : Option (List Nat)) : Ser := fun n => match o with | none => 0 | some s => f s n
def bS (cs : List Nat) (f : Nat → Ser) : Ser := fun n => (cs.map fun c => f c n).sum
def An (W : Wd) (st r : List Nat) : Ser := fun n => (rowsL W st r n).length
def pA (W : Wd) (st r : List Nat) : Ser := sh (gat W.pt (bS BRK fun c => oA (fun s => An W s r) (stp (some st) c)))
theorem len_oA {W : Wd} {r : List Nat} {n : Nat} (o : Option (List Nat)) (f : List Stp → List Stp) : ((match o with | none => [] | some s => rowsL W s r n).map f).length = oA (fun s => An W s r) o n := by
  cases o with
  | none => rfl
  | some s => rw [List.length_map]; rfl
theorem len_bS {W : Wd} {r st : List Nat} {n : Nat} (cs : List Nat) (f : Nat → List Stp → List Stp) : (cs.flatMap fun c => (match stp (some st) c with | none => [] | some s => rowsL W s r n).map (f c)).length = bS cs (fun c => oA (fun s => An W s r) (stp (some st) c)) n := by
  rw [List.length_flatMap]
  unfold bS
  congr 1
  exact List.map_congr_left fun c _ => len_oA _ _
theorem pA_len {W : Wd} {r st : List Nat} {n : Nat} : (match n with
   | 0 => []
   | n + 1 => if W.pt = true then BRK.flatMap fun c => (match stp (some st) c with | none => [] | some s => rowsL W s r n).map (Stp.pt c :: ·) else []).length = pA W st r n := by
  cases n with
  | zero => rfl
  | succ n =>
    unfold pA sh gat
    dsimp only
    by_cases h : W.pt = true
    · rw [if_pos h, if_pos h, len_bS]
    · rw [if_neg h, if_neg h]; rfl
theorem An_nil (W : Wd) (st : List Nat) (n : Nat) : An W st [] n = pA W st [] n + if st = [] ∧ n = 0 then 1 else 0 := by
  show (rowsL W st [] n).length = _
  rw [rowsL.eq_def, List.length_append, pA_len]
  dsimp only
  by_cases h : st = [] ∧ n = 0
  · rw [if_pos h, if_pos h]; rfl
  · rw [if_neg h, if_neg h]; rfl
theorem An_let {W : Wd} {x : Nat} (hx : x ∉ BRK) (st r : List Nat) (n : Nat) : An W st (x :: r) n = pA W st (x :: r) n + An W st r n := by
  show (rowsL W st (x :: r) n).length = _
  rw [rowsL.eq_def, List.length_append, pA_len]
  dsimp only
  rw [if_neg hx, List.length_map]
  rfl
def tA (W : Wd) (st : List Nat) (x : Nat) (r : List Nat) : Ser := sh fun n => gat W.st (An W st r) n + gat W.tn (bS (BRK.filter (· ≠ x)) fun c => oA (fun s => An W s r) (stp (some st) c)) n
theorem An_brk {W : Wd} {x : Nat} (hx : x ∈ BRK) (st r : List Nat) (n : Nat) : An W st (x :: r) n = pA W st (x :: r) n + (tA W st x r n + oA (fun s => An W s r) (stp (some st) x) n) := by
  show (rowsL W st (x :: r) n).length = _
  rw [rowsL.eq_def, List.length_append, pA_len]
  dsimp only
  rw [if_pos hx, List.length_append, len_oA]
  congr 2
  cases n with
  | zero => rfl
  | succ n =>
    dsimp only [tA, sh]
    rw [List.length_append]
    congr 1
    · unfold gat
      by_cases h : W.st = true
      · rw [if_pos h, if_pos h, List.length_map]; rfl
      · rw [if_neg h, if_neg h]; rfl
    · unfold gat
      by_cases h : W.tn = true
      · rw [if_pos h, if_pos h, len_bS]
      · rw [if_neg h, if_neg h]; rfl
/-! products -/
def cv : Ser → Ser → Ser
  | f, g, 0 => f 0 * g 0
  | f, g, n + 1 => f 0 * g (n + 1) + cv (fun a => f (a + 1)) g n
theorem cv_add (f f' g : Ser) : ∀ n, cv (fun a => f a + f' a) g n = cv f g n + cv f' g n := by
  intro n
  induction n generalizing f f' with
  | zero => exact Nat.add_mul _ _ _
  | succ n ih => rw [cv, cv, cv, ih, Nat.add_mul]; omega
theorem cv_addR (f g g' : Ser) : ∀ n, cv f (fun a => g a + g' a) n = cv f g n + cv f g' n := by
  intro n
  induction n generalizing f with
  | zero => exact Nat.mul_add _ _ _
  | succ n ih => rw [cv, cv, cv, ih, Nat.mul_add]; omega
theorem cv_zero (g : Ser) : ∀ n, cv (fun _ => 0) g n = 0 := by
  intro n
  induction n with
  | zero => exact Nat.zero_mul _
  | succ n ih => rw [cv, ih, Nat.zero_mul]
theorem cv_zeroR (f : Ser) : ∀ n, cv f (fun _ => 0) n = 0 := by
  intro n
  induction n generalizing f with
  | zero => exact Nat.mul_zero _
  | succ n ih => rw [cv, ih, Nat.mul_zero]
theorem cv_sh (f g : Ser) (n : Nat) : cv (sh f) g n = sh (cv f g) n := by
  cases n with
  | zero => exact Nat.zero_mul _
  | succ n => show sh f 0 * g (n + 1) + cv (fun a => f a) g n = cv f g n; rw [show sh f 0 = 0 from rfl, Nat.zero_mul, Nat.zero_add]
theorem cv_one (g : Ser) (n : Nat) : cv (fun a => if a = 0 then 1 else 0) g n = g n := by
  cases n with
  | zero => exact Nat.one_mul _
  | succ n =>
    show 1 * g (n + 1) + cv (fun a => if a + 1 = 0 then 1 else 0) g n = g (n + 1)
    rw [show (fun a : Nat => if a + 1 = 0 then 1 else 0) = fun _ => 0 from funext fun a => if_neg (by omega), cv_zero]
    omega
theorem cv_shR (f g : Ser) : ∀ n, cv f (sh g) n = sh (cv f g) n := by
  intro n
  induction n generalizing f with
  | zero => exact Nat.mul_zero _
  | succ n ih =>
    rw [cv, ih]
    cases n with
    | zero => show f 0 * g 0 + 0 = f 0 * g 0; omega
    | succ n => rfl
theorem cv_pos {f g : Ser} : ∀ {n : Nat}, cv f g n ≠ 0 ↔ ∃ a b, a + b = n ∧ f a ≠ 0 ∧ g b ≠ 0 := by
  intro n
  induction n generalizing f with
  | zero =>
    constructor
    · intro h
      exact ⟨0, 0, rfl, fun e => h (by show f 0 * g 0 = 0; rw [e, Nat.zero_mul]), fun e => h (by show f 0 * g 0 = 0; rw [e, Nat.mul_zero])⟩
    · rintro ⟨a, b, e, h1, h2⟩
      have ea : a = 0 := by omega
      have eb : b = 0 := by omega
      subst ea eb
      exact Nat.mul_ne_zero h1 h2
  | succ n ih =>
    rw [cv]
    constructor
    · intro h
      by_cases h0 : f 0 * g (n + 1) = 0
      · have h1 : cv (fun a => f (a + 1)) g n ≠ 0 := by omega
        obtain ⟨a, b, e, ha, hb⟩ := ih.mp h1
        exact ⟨a + 1, b, by omega, ha, hb⟩
      · exact ⟨0, n + 1, by omega, fun e => h0 (by rw [e, Nat.zero_mul]), fun e => h0 (by rw [e, Nat.mul_zero])⟩
    · rintro ⟨a, b, e, ha, hb⟩
      cases a with
      | zero =>
        have eb : b = n + 1 := by omega
        subst eb
        have := Nat.mul_ne_zero ha hb
        omega
      | succ a =>
        have := (ih (f := fun a => f (a + 1))).mpr ⟨a, b, by omega, ha, hb⟩
        omega
/-- over all ways to part a text in two -/
def SP (f g : List Nat → Ser) : List Nat → Ser
  | [] => cv (f []) (g [])
  | x :: r => fun n => cv (f []) (g (x :: r)) n + SP (fun u => f (x :: u)) g r n
theorem SP_congr {f f' g g' : List Nat → Ser} : ∀ {r : List Nat}, (∀ u v, u ++ v = r → f u = f' u) → (∀ u v, u ++ v = r → g v = g' v) → SP f g r = SP f' g' r
  | [], h1, h2 => by rw [SP, SP, h1 [] [] rfl, h2 [] [] rfl]
  | x :: r, h1, h2 => by
    funext n
    rw [SP, SP, h1 [] (x :: r) rfl, h2 [] (x :: r) rfl, SP_congr (f := fun u => f (x :: u)) (f' := fun u => f' (x :: u)) (fun u v e => h1 (x :: u) v (by rw [List.cons_append, e])) (fun u v e => h2 (x :: u) v (by rw [List.cons_append, e]))]
theorem SP_add (f f' g : List Nat → Ser) : ∀ (r : List Nat) (n : Nat), SP (fun u a => f u a + f' u a) g r n = SP f g r n + SP f' g r n
  | [], n => cv_add _ _ _ n
  | x :: r, n => by
    show cv (fun a => f [] a + f' [] a) _ n + SP (fun u a => f (x :: u) a + f' (x :: u) a) g r n = _
    rw [cv_add, SP_add (fun u => f (x :: u)) (fun u => f' (x :: u)) g r n, SP, SP]
    dsimp only
    omega
theorem SP_addR (f g g' : List Nat → Ser) : ∀ (r : List Nat) (n : Nat), SP f (fun v a => g v a + g' v a) r n = SP f g r n + SP f g' r n := by
  intro r
  induction r generalizing f with
  | nil => intro n; exact cv_addR _ _ _ n
  | cons x r ih =>
    intro n
    show cv _ (fun a => g (x :: r) a + g' (x :: r) a) n + SP (fun u => f (x :: u)) (fun v a => g v a + g' v a) r n = _
    rw [cv_addR, ih, SP, SP]
    dsimp only
    omega
theorem SP_zero (g : List Nat → Ser) : ∀ (r : List Nat) (n : Nat), SP (fun _ _ => 0) g r n = 0
  | [], n => cv_zero _ n
  | x :: r, n => by
    show cv (fun _ => 0) _ n + SP (fun _ _ => 0) g r n = 0
    rw [cv_zero, SP_zero g r n]
theorem SP_sh (f g : List Nat → Ser) : ∀ (r : List Nat) (n : Nat), SP (fun u => sh (f u)) g r n = sh (SP f g r) n := by
  intro r
  induction r generalizing f with
  | nil => intro n; exact cv_sh _ _ n
  | cons x r ih =>
    intro n
    show cv (sh (f [])) _ n + SP (fun u => sh (f (x :: u))) g r n = _
    rw [cv_sh, ih (fun u => f (x :: u))]
    cases n <;> rfl
theorem SP_gat (b : Bool) (f g : List Nat → Ser) (r : List Nat) (n : Nat) : SP (fun u => gat b (f u)) g r n = gat b (SP f g r) n := by
  cases b with
  | true => rfl
  | false => exact SP_zero g r n
theorem SP_bS (cs : List Nat) (f : Nat → List Nat → Ser) (g : List Nat → Ser) (r : List Nat) (n : Nat) : SP (fun u => bS cs fun c => f c u) g r n = bS cs (fun c => SP (f c) g r) n := by
  induction cs with
  | nil => exact SP_zero g r n
  | cons c cs ih =>
    have e : (fun u => bS (c :: cs) fun c => f c u) = fun u a => f c u a + bS cs (fun c => f c u) a := rfl
    rw [e, SP_add, ih]
    rfl
theorem SP_oA (f : List Nat → List Nat → Ser) (o : Option (List Nat)) (g : List Nat → Ser) (r : List Nat) (n : Nat) : SP (fun u => oA (fun s => f s u) o) g r n = oA (fun s => SP (f s) g r) o n := by
  cases o with
  | none => exact SP_zero g r n
  | some s => rfl
/-- closing what is awaited last, then the rest -/
def Cl (W : Wd) (k : Nat) (st v : List Nat) : Ser := fun n => sh (gat W.pt (An W st v)) n + match v with
  | [] => 0
  | x :: v => if x ∈ BRK then (if x = k then An W st v n else sh (gat W.tn (An W st v)) n) else 0
theorem stp_under {k : Nat} (hk : k ∈ CLO) (s st : List Nat) (c : Nat) : stp (some (s ++ k :: st)) c = match stp (some s) c with
    | some s' => some (s' ++ k :: st)
    | none => if s = [] ∧ c = k then some st else none := by
  unfold stp
  dsimp only
  by_cases h1 : c ∈ OPN
  · rw [if_pos h1, if_pos h1]; rfl
  · rw [if_neg h1, if_neg h1]
    by_cases h2 : c ∈ CLO
    · rw [if_pos h2, if_pos h2]
      cases s with
      | nil =>
        show (if k = c then some st else none) = if [] = [] ∧ c = k then some st else none
        by_cases e : k = c
        · rw [if_pos e, if_pos ⟨rfl, e.symm⟩]
        · rw [if_neg e, if_neg (fun h => e h.2.symm)]
      | cons d s =>
        show (if d = c then some (s ++ k :: st) else none) = _
        by_cases e : d = c
        · rw [if_pos e]; dsimp only; rw [if_pos e]
        · rw [if_neg e]; dsimp only; rw [if_neg e]; dsimp only; rw [if_neg (fun h => by cases h.1)]
    · rw [if_neg h2, if_neg h2]

/-- all but what is put first -/
def rA (W : Wd) (st : List Nat) : List Nat → Ser
  | [] => fun n => if st = [] ∧ n = 0 then 1 else 0
  | x :: r => fun n => if x ∈ BRK then tA W st x r n + oA (fun s => An W s r) (stp (some st) x) n else An W st r n
theorem An_eq (W : Wd) (st r : List Nat) (n : Nat) : An W st r n = pA W st r n + rA W st r n := by
  cases r with
  | nil => exact An_nil W st n
  | cons x r =>
    show _ = _ + (if x ∈ BRK then tA W st x r n + oA (fun s => An W s r) (stp (some st) x) n else An W st r n)
    by_cases h : x ∈ BRK
    · rw [if_pos h]; exact An_brk h st r n
    · rw [if_neg h]; exact An_let h st r n
theorem SP_pA (W : Wd) (s : List Nat) (g : List Nat → Ser) (r : List Nat) (n : Nat) : SP (pA W s) g r n = sh (gat W.pt (bS BRK fun c => oA (fun s' => SP (An W s') g r) (stp (some s) c))) n := by
  unfold pA
  rw [SP_sh]
  cases n with
  | zero => rfl
  | succ n =>
    show SP (fun u => gat W.pt _) g r n = gat W.pt _ n
    rw [SP_gat]
    unfold gat
    by_cases h : W.pt = true
    · rw [if_pos h, if_pos h, SP_bS BRK (fun c u => oA (fun s' => An W s' u) (stp (some s) c))]
      unfold bS
      congr 1
      exact List.map_congr_left fun c _ => SP_oA (fun s' u => An W s' u) _ g r n
    · rw [if_neg h, if_neg h]
theorem oA_under {W : Wd} {k : Nat} (hk : k ∈ CLO) {s st r : List Nat} {n c : Nat} {g : List Nat → Ser} (ih : ∀ s', An W (s' ++ k :: st) r n = SP (An W s') g r n) :
    oA (fun s => An W s r) (stp (some (s ++ k :: st)) c) n = oA (fun s' => SP (An W s') g r) (stp (some s) c) n + if s = [] ∧ c = k then An W st r n else 0 := by
  rw [stp_under hk]
  by_cases h : s = [] ∧ c = k
  · obtain ⟨rfl, rfl⟩ := h
    have e : stp (some []) c = none := by
      unfold stp
      dsimp only
      rw [if_neg (fun h => opn_clo c h hk), if_pos hk]
    rw [e]
    dsimp only
    rw [if_pos ⟨rfl, rfl⟩, if_pos ⟨rfl, rfl⟩]
    show An W st r n = 0 + An W st r n
    omega
  · rw [if_neg h, if_neg h]
    cases stp (some s) c with
    | none => rfl
    | some s' => exact ih s'
theorem bS_under {W : Wd} {k : Nat} (hk : k ∈ CLO) {s st r : List Nat} {n : Nat} {g : List Nat → Ser} (ih : ∀ s', An W (s' ++ k :: st) r n = SP (An W s') g r n) : ∀ cs : List Nat,
    bS cs (fun c => oA (fun s => An W s r) (stp (some (s ++ k :: st)) c)) n = bS cs (fun c => oA (fun s' => SP (An W s') g r) (stp (some s) c)) n + if s = [] then cs.count k * An W st r n else 0
  | [] => by unfold bS; simp
  | c :: cs => by
    have i := bS_under hk ih (s := s) cs
    have e1 : ∀ f : Nat → Ser, bS (c :: cs) f n = f c n + bS cs f n := fun f => rfl
    rw [e1, e1, i, oA_under hk ih, List.count_cons]
    by_cases h : s = []
    · rw [if_pos h, if_pos h]
      by_cases e : c = k
      · rw [if_pos ⟨h, e⟩, if_pos (by simp [e]), Nat.add_mul]; omega
      · rw [if_neg (fun q => e q.2), if_neg (by simp [e]), show List.count k cs + 0 = List.count k cs from rfl]; omega
    · rw [if_neg h, if_neg h, if_neg (fun q => h q.1)]; omega
theorem cnt_brk : ∀ k ∈ CLO, BRK.count k = 1 := by decide
theorem cnt_brkF : ∀ k ∈ CLO, ∀ x ∈ BRK, (BRK.filter (· ≠ x)).count k = if x = k then 0 else 1 := by decide
theorem first_ret {W : Wd} {k : Nat} (hk : k ∈ CLO) (st : List Nat) : ∀ (N n : Nat) (r s : List Nat), n + r.length ≤ N → An W (s ++ k :: st) r n = SP (An W s) (Cl W k st) r n := by
  intro N
  induction N with
  | zero =>
    intro n r s h
    have h1 : n = 0 := by omega
    have h2 : r = [] := List.length_eq_zero_iff.mp (by omega)
    subst h1 h2
    rw [An_nil]
    show 0 + (if s ++ k :: st = [] ∧ 0 = 0 then 1 else 0) = An W s [] 0 * (0 + 0)
    rw [if_neg (by simp)]; rfl
  | succ N ihN =>
    intro n r s h
    have eS : SP (An W s) (Cl W k st) r n = SP (pA W s) (Cl W k st) r n + SP (rA W s) (Cl W k st) r n := by
      rw [← SP_add]
      exact congrFun (SP_congr (fun u v e => funext fun a => An_eq W s u a) (fun u v e => rfl)) n
    have eP : pA W (s ++ k :: st) r n = SP (pA W s) (Cl W k st) r n + if s = [] then sh (gat W.pt (An W st r)) n else 0 := by
      rw [SP_pA]
      unfold pA
      cases n with
      | zero => show (0 : Nat) = 0 + _; split <;> rfl
      | succ n =>
        show gat W.pt _ n = gat W.pt _ n + if s = [] then gat W.pt (An W st r) n else 0
        unfold gat
        by_cases hp : W.pt = true
        · rw [if_pos hp, if_pos hp, if_pos hp, bS_under hk (g := Cl W k st) (fun s' => ihN n r s' (by omega)), cnt_brk k hk, Nat.one_mul]
        · rw [if_neg hp, if_neg hp, if_neg hp]; split <;> rfl
    have eB : ∀ r', cv (rA W s []) (Cl W k st r') n = if s = [] then Cl W k st r' n else 0 := fun r' => by
      by_cases hs : s = []
      · rw [if_pos hs]
        have : rA W s [] = fun a => if a = 0 then 1 else 0 := by
          funext a
          show (if s = [] ∧ a = 0 then 1 else 0) = _
          by_cases ha : a = 0
          · rw [if_pos ⟨hs, ha⟩, if_pos ha]
          · rw [if_neg (fun q => ha q.2), if_neg ha]
        rw [this, cv_one]
      · rw [if_neg hs]
        have : rA W s [] = fun _ => 0 := by
          funext a
          exact if_neg (fun q => hs q.1)
        rw [this, cv_zero]
    rw [eS, An_eq, eP]
    cases r with
    | nil =>
      have e0 : rA W (s ++ k :: st) [] n = 0 := if_neg (fun q => by simp at q)
      rw [e0]
      show _ = _ + cv (rA W s []) (Cl W k st []) n
      rw [eB]
      by_cases hs : s = []
      · rw [if_pos hs, if_pos hs]
        show _ = _ + (sh (gat W.pt (An W st [])) n + 0)
        omega
      · rw [if_neg hs, if_neg hs]
    | cons x r =>
      have eR : SP (rA W s) (Cl W k st) (x :: r) n = (if s = [] then Cl W k st (x :: r) n else 0) + SP (fun u => rA W s (x :: u)) (Cl W k st) r n := by
        show cv (rA W s []) (Cl W k st (x :: r)) n + _ = _
        rw [eB]
      rw [eR]
      have hl : n + r.length ≤ N := by rw [List.length_cons] at h; omega
      by_cases hx : x ∈ BRK
      · have e1 : rA W (s ++ k :: st) (x :: r) n = tA W (s ++ k :: st) x r n + oA (fun s => An W s r) (stp (some (s ++ k :: st)) x) n := if_pos hx
        have e2 : SP (fun u => rA W s (x :: u)) (Cl W k st) r n = SP (tA W s x) (Cl W k st) r n + oA (fun s' => SP (An W s') (Cl W k st) r) (stp (some s) x) n := by
          rw [← SP_oA (fun s' u => An W s' u), ← SP_add]
          exact congrFun (SP_congr (fun u v e => funext fun a => if_pos hx) (fun u v e => rfl)) n
        have e3 : tA W (s ++ k :: st) x r n = SP (tA W s x) (Cl W k st) r n + if s = [] ∧ x ≠ k then sh (gat W.tn (An W st r)) n else 0 := by
          unfold tA
          rw [SP_sh]
          cases n with
          | zero => show (0 : Nat) = 0 + _; split <;> rfl
          | succ n =>
            show gat W.st _ n + gat W.tn _ n = SP _ _ r n + if s = [] ∧ x ≠ k then gat W.tn (An W st r) n else 0
            rw [SP_add, SP_gat, SP_gat]
            have hi : ∀ s', An W (s' ++ k :: st) r n = SP (An W s') (Cl W k st) r n := fun s' => ihN n r s' (by omega)
            have a1 : gat W.st (An W (s ++ k :: st) r) n = gat W.st (SP (An W s) (Cl W k st) r) n := by unfold gat; rw [hi s]
            rw [a1]
            have a2 : gat W.tn (bS (BRK.filter (· ≠ x)) fun c => oA (fun s => An W s r) (stp (some (s ++ k :: st)) c)) n = gat W.tn (SP (fun u => bS (BRK.filter (· ≠ x)) fun c => oA (fun s => An W s u) (stp (some s) c)) (Cl W k st) r) n + if s = [] ∧ x ≠ k then gat W.tn (An W st r) n else 0 := by
              unfold gat
              by_cases ht : W.tn = true
              · rw [if_pos ht, if_pos ht, if_pos ht, bS_under hk hi, SP_bS _ (fun c u => oA (fun s => An W s u) (stp (some s) c)), cnt_brkF k hk x hx]
                congr 1
                · unfold bS
                  congr 1
                  exact List.map_congr_left fun c _ => (SP_oA (fun s' u => An W s' u) _ _ r n).symm
                · by_cases hs : s = []
                  · rw [if_pos hs]
                    by_cases hxk : x = k
                    · rw [if_pos hxk, if_neg (fun q => q.2 hxk), Nat.zero_mul]
                    · rw [if_neg hxk, if_pos ⟨hs, hxk⟩, Nat.one_mul]
                  · rw [if_neg hs, if_neg (fun q => hs q.1)]
              · rw [if_neg ht, if_neg ht, if_neg ht]; split <;> rfl
            rw [a2]
            omega
        rw [e1, e2, e3, oA_under hk (g := Cl W k st) (fun s' => ihN n r s' hl)]
        by_cases hs : s = []
        · rw [if_pos hs, if_pos hs]
          have e4 : Cl W k st (x :: r) n = sh (gat W.pt (An W st (x :: r))) n + if x = k then An W st r n else sh (gat W.tn (An W st r)) n := by
            unfold Cl
            dsimp only
            rw [if_pos hx]
          rw [e4]
          by_cases hxk : x = k
          · rw [if_neg (fun q => q.2 hxk), if_pos ⟨hs, hxk⟩, if_pos hxk]; omega
          · rw [if_pos ⟨hs, hxk⟩, if_neg (fun q => hxk q.2), if_neg hxk]; omega
        · rw [if_neg hs, if_neg hs, if_neg (fun q => hs q.1), if_neg (fun q => hs q.1)]; omega
      · have e1 : rA W (s ++ k :: st) (x :: r) n = An W (s ++ k :: st) r n := if_neg hx
        have e2 : SP (fun u => rA W s (x :: u)) (Cl W k st) r n = SP (An W s) (Cl W k st) r n := by
          exact congrFun (SP_congr (fun u v e => funext fun a => if_neg hx) (fun u v e => rfl)) n
        have e4 : Cl W k st (x :: r) n = sh (gat W.pt (An W st (x :: r))) n := by
          unfold Cl
          dsimp only
          rw [if_neg hx]
          rfl
        rw [e1, e2, e4, ihN n r s hl]
        by_cases hs : s = []
        · rw [if_pos hs]; omega
        · rw [if_neg hs]; omega
end Ly

set_option maxHeartbeats 4000000
namespace Ly
/-! ### the least number with how many, of a series -/
def Ld (f : Ser) (x : MC) : Prop := match x with
  | none => ∀ n, f n = 0
  | some p => f p.1 = p.2 ∧ p.2 ≠ 0 ∧ ∀ a, a < p.1 → f a = 0
theorem Ld.uniq {f : Ser} {x y : MC} (h1 : Ld f x) (h2 : Ld f y) : x = y := by
  cases x with
  | none =>
    cases y with
    | none => rfl
    | some q => exact absurd ((h1 q.1).symm.trans h2.1).symm h2.2.1
  | some p =>
    cases y with
    | none => exact absurd ((h2 p.1).symm.trans h1.1).symm h1.2.1
    | some q =>
      obtain ⟨a, m⟩ := p
      obtain ⟨b, k⟩ := q
      obtain ⟨u1, u2, u3⟩ := h1
      obtain ⟨v1, v2, v3⟩ := h2
      dsimp only at *
      have e : a = b := by
        rcases Nat.lt_trichotomy a b with h | h | h
        · exact absurd (u1.symm.trans (v3 a h)) u2
        · exact h
        · exact absurd (v1.symm.trans (u3 b h)) v2
      subst e
      rw [← u1, ← v1]
theorem Ld.congr {f g : Ser} {x : MC} (h : Ld f x) (e : ∀ n, f n = g n) : Ld g x := by
  have : f = g := funext e
  rw [← this]
  exact h
theorem Ld_zero : Ld (fun _ => 0) none := fun _ => rfl
theorem Ld_add {f g : Ser} {x y : MC} (h1 : Ld f x) (h2 : Ld g y) : Ld (fun n => f n + g n) (mAdd x y) := by
  cases x with
  | none => exact h2.congr fun n => by rw [h1 n, Nat.zero_add]
  | some p =>
    cases y with
    | none => exact Ld.congr (x := some p) h1 fun n => by rw [h2 n, Nat.add_zero]
    | some q =>
      obtain ⟨a, m⟩ := p
      obtain ⟨b, k⟩ := q
      obtain ⟨u1, u2, u3⟩ := h1
      obtain ⟨v1, v2, v3⟩ := h2
      dsimp only at *
      unfold mAdd
      dsimp only
      by_cases h : a < b
      · rw [if_pos h]
        exact ⟨by show f a + g a = m; rw [u1, v3 a h]; rfl, u2, fun c hc => by show f c + g c = 0; rw [u3 c hc, v3 c (Nat.lt_trans hc h)]⟩
      · rw [if_neg h]
        by_cases h' : b < a
        · rw [if_pos h']
          exact ⟨by show f b + g b = k; rw [v1, u3 b h', Nat.zero_add], v2, fun c hc => by show f c + g c = 0; rw [v3 c hc, u3 c (Nat.lt_trans hc h')]⟩
        · rw [if_neg h']
          have e : a = b := by omega
          subst e
          exact ⟨by show f a + g a = m + k; rw [u1, v1], by show m + k ≠ 0; omega, fun c hc => by show f c + g c = 0; rw [u3 c hc, v3 c hc]⟩
theorem cv_none {f g : Ser} (h : ∀ n, f n = 0) (n : Nat) : cv f g n = 0 := by
  rw [show f = fun _ => 0 from funext h, cv_zero]
theorem cv_noneR {f g : Ser} (h : ∀ n, g n = 0) (n : Nat) : cv f g n = 0 := by
  rw [show g = fun _ => 0 from funext h, cv_zeroR]
theorem cv_lead {g : Ser} {b k : Nat} (v1 : g b = k) (v3 : ∀ c, c < b → g c = 0) : ∀ (a m : Nat) (f : Ser), f a = m → (∀ c, c < a → f c = 0) → cv f g (a + b) = m * k
  | 0, m, f, u1, _ => by
    rw [Nat.zero_add]
    cases b with
    | zero => show f 0 * g 0 = m * k; rw [u1, v1]
    | succ b =>
      show f 0 * g (b + 1) + cv (fun a => f (a + 1)) g b = m * k
      have : cv (fun a => f (a + 1)) g b = 0 := Classical.byContradiction fun h => by
        obtain ⟨x, y, e, _, hy⟩ := cv_pos.mp h
        exact hy (v3 y (by omega))
      rw [this, u1, v1, Nat.add_zero]
  | a + 1, m, f, u1, u3 => by
    rw [show a + 1 + b = (a + b) + 1 by omega]
    show f 0 * g (a + b + 1) + cv (fun a => f (a + 1)) g (a + b) = m * k
    rw [u3 0 (by omega), Nat.zero_mul, Nat.zero_add]
    exact cv_lead v1 v3 a m (fun a => f (a + 1)) u1 fun c hc => u3 (c + 1) (by omega)
theorem Ld_cv {f g : Ser} {x y : MC} (h1 : Ld f x) (h2 : Ld g y) : Ld (cv f g) (mMul x y) := by
  cases x with
  | none => exact fun n => cv_none h1 n
  | some p =>
    cases y with
    | none => exact fun n => cv_noneR h2 n
    | some q =>
      obtain ⟨a, m⟩ := p
      obtain ⟨b, k⟩ := q
      obtain ⟨u1, u2, u3⟩ := h1
      obtain ⟨v1, v2, v3⟩ := h2
      dsimp only at *
      refine ⟨cv_lead v1 v3 a m f u1 u3, Nat.mul_ne_zero u2 v2, fun c hc => Classical.byContradiction fun h => ?_⟩
      obtain ⟨x, y, e, hx, hy⟩ := cv_pos.mp h
      by_cases hxa : x < a
      · exact hx (u3 x hxa)
      · exact hy (v3 y (by show y < b; have : c < a + b := hc; omega))
def mS (p : Nat × Nat) : Ser := fun n => if n = p.1 then p.2 else 0
theorem Ld_mS {p : Nat × Nat} (h : p.2 ≠ 0) : Ld (mS p) (some p) := ⟨if_pos rfl, h, fun a ha => if_neg (by omega)⟩
theorem cv_mS (f : Ser) (k : Nat) : ∀ (e n : Nat), cv (mS (e, k)) f n = if e ≤ n then k * f (n - e) else 0
  | 0, n => by
    rw [if_pos (Nat.zero_le _)]
    cases n with
    | zero => rfl
    | succ n =>
      show k * f (n + 1) + cv (fun a => if a + 1 = 0 then k else 0) f n = _
      rw [show (fun a : Nat => if a + 1 = 0 then k else 0) = fun _ => 0 from funext fun a => if_neg (by omega), cv_zero]
      rfl
  | e + 1, 0 => by
    rw [if_neg (by omega)]
    show (if 0 = e + 1 then k else 0) * f 0 = 0
    rw [if_neg (by omega), Nat.zero_mul]
  | e + 1, n + 1 => by
    show (if 0 = e + 1 then k else 0) * f (n + 1) + cv (fun a => if a + 1 = e + 1 then k else 0) f n = _
    rw [if_neg (by omega), Nat.zero_mul, Nat.zero_add]
    have : (fun a => if a + 1 = e + 1 then k else 0) = mS (e, k) := funext fun a => by
      show (if a + 1 = e + 1 then k else 0) = if a = e then k else 0
      by_cases h : a = e
      · rw [if_pos h, if_pos (by omega)]
      · rw [if_neg h, if_neg (by omega)]
    rw [this, cv_mS f k e n, show n + 1 - (e + 1) = n - e by omega]
    by_cases h : e ≤ n
    · rw [if_pos h, if_pos (by omega)]
    · rw [if_neg h, if_neg (by omega)]
theorem sh_mS (f : Ser) (n : Nat) : sh f n = cv (mS (1, 1)) f n := by
  rw [cv_mS]
  cases n with
  | zero => rfl
  | succ n => rw [if_pos (by omega), Nat.one_mul]; rfl
theorem Ld_sh {f : Ser} {x : MC} (h : Ld f x) : Ld (sh f) (mMul w1 x) := (Ld_cv (Ld_mS (p := (1, 1)) (by decide)) h).congr fun n => (sh_mS f n).symm
theorem Ld_gat {b : Bool} {f : Ser} {x : MC} (h : Ld f x) : Ld (gat b f) (if b = true then x else none) := by
  cases b with
  | true => exact h
  | false => exact Ld_zero
/-- what is more never comes ahead -/
theorem Ld_junk {f g : Ser} {x : MC} (h : Ld g x) (hle : ∀ n, g n ≤ f n) (hj : ∀ n, g n < f n → ∃ m, m < n ∧ f m ≠ 0) : Ld f x := by
  have key : ∀ n, (∀ m, m < n → g m = 0) → ∀ m, m < n → f m = 0 := by
    intro n hg m
    induction m using Nat.strongRecOn with
    | ind m ih =>
      intro hm
      refine Classical.byContradiction fun h0 => ?_
      obtain ⟨k, hk, hf⟩ := hj m (by rw [hg m hm]; omega)
      exact hf (ih k hk (by omega))
  cases x with
  | none => exact fun n => key (n + 1) (fun m _ => h m) n (by omega)
  | some p =>
    obtain ⟨h1, h2, h3⟩ := h
    have hz := key p.1 h3
    refine ⟨?_, h2, hz⟩
    refine Classical.byContradiction fun hne => ?_
    obtain ⟨k, hk, hf⟩ := hj p.1 (by have := hle p.1; omega)
    exact hf (hz k hk)
theorem cv_le {f g g' : Ser} : ∀ {n : Nat}, (∀ b, g b ≤ g' b) → cv f g n ≤ cv f g' n := by
  intro n h
  induction n generalizing f with
  | zero => exact Nat.mul_le_mul_left _ (h 0)
  | succ n ih => exact Nat.add_le_add (Nat.mul_le_mul_left _ (h _)) ih
theorem cv_lt {f g g' : Ser} : ∀ {n : Nat}, (∀ b, g b ≤ g' b) → cv f g n < cv f g' n → ∃ a b, a + b = n ∧ f a ≠ 0 ∧ g b < g' b := by
  intro n h
  induction n generalizing f with
  | zero =>
    intro hl
    refine ⟨0, 0, rfl, fun e => ?_, Classical.byContradiction fun e => ?_⟩
    · rw [cv, cv, e, Nat.zero_mul, Nat.zero_mul] at hl; omega
    · have : g' 0 ≤ g 0 := by omega
      rw [cv, cv] at hl
      exact absurd (Nat.mul_le_mul_left (f 0) this) (by omega)
  | succ n ih =>
    intro hl
    rw [cv, cv] at hl
    by_cases h1 : cv (fun a => f (a + 1)) g n < cv (fun a => f (a + 1)) g' n
    · obtain ⟨a, b, e, ha, hb⟩ := ih h1
      exact ⟨a + 1, b, by omega, ha, hb⟩
    · have h2 : f 0 * g (n + 1) < f 0 * g' (n + 1) := by omega
      refine ⟨0, n + 1, by omega, fun e => ?_, Classical.byContradiction fun e => ?_⟩
      · rw [e, Nat.zero_mul, Nat.zero_mul] at h2; omega
      · have : g' (n + 1) ≤ g (n + 1) := by omega
        exact absurd (Nat.mul_le_mul_left (f 0) this) (by omega)
theorem SP_le {g g' : List Nat → Ser} (h : ∀ v b, g v b ≤ g' v b) : ∀ {r : List Nat} {f : List Nat → Ser} {n : Nat}, SP f g r n ≤ SP f g' r n
  | [], f, n => cv_le (h [])
  | x :: r, f, n => Nat.add_le_add (cv_le (h (x :: r))) (SP_le h)
theorem SP_lt {g g' : List Nat → Ser} (h : ∀ v b, g v b ≤ g' v b) : ∀ {r : List Nat} {f : List Nat → Ser} {n : Nat}, SP f g r n < SP f g' r n → ∃ u v a b, u ++ v = r ∧ a + b = n ∧ f u a ≠ 0 ∧ g v b < g' v b
  | [], f, n, hl => by
    obtain ⟨a, b, e, ha, hb⟩ := cv_lt (h []) hl
    exact ⟨[], [], a, b, rfl, e, ha, hb⟩
  | x :: r, f, n, hl => by
    by_cases h1 : SP (fun u => f (x :: u)) g r n < SP (fun u => f (x :: u)) g' r n
    · obtain ⟨u, v, a, b, e, e2, ha, hb⟩ := SP_lt h h1
      exact ⟨x :: u, v, a, b, by rw [List.cons_append, e], e2, ha, hb⟩
    · have h2 : cv (f []) (g (x :: r)) n < cv (f []) (g' (x :: r)) n := by
        have : cv (f []) (g (x :: r)) n + SP (fun u => f (x :: u)) g r n < cv (f []) (g' (x :: r)) n + SP (fun u => f (x :: u)) g' r n := hl
        omega
      obtain ⟨a, b, e, ha, hb⟩ := cv_lt (h (x :: r)) h2
      exact ⟨[], x :: r, a, b, rfl, e, ha, hb⟩
theorem SP_shR (f g : List Nat → Ser) : ∀ (r : List Nat) (n : Nat), SP f (fun v => sh (g v)) r n = sh (SP f g r) n := by
  intro r
  induction r generalizing f with
  | nil => intro n; exact cv_shR _ _ n
  | cons x r ih =>
    intro n
    show cv _ (sh (g (x :: r))) n + SP (fun u => f (x :: u)) (fun v => sh (g v)) r n = _
    rw [cv_shR, ih]
    cases n <;> rfl
theorem SP_zeroR (f : List Nat → Ser) : ∀ (r : List Nat) (n : Nat), SP f (fun _ _ => 0) r n = 0 := by
  intro r
  induction r generalizing f with
  | nil => intro n; exact cv_zeroR _ n
  | cons x r ih =>
    intro n
    show cv _ (fun _ => 0) n + SP (fun u => f (x :: u)) (fun _ _ => 0) r n = 0
    rw [cv_zeroR, ih]
theorem SP_gatR (b : Bool) (f g : List Nat → Ser) (r : List Nat) (n : Nat) : SP f (fun v => gat b (g v)) r n = gat b (SP f g r) n := by
  cases b with
  | true => rfl
  | false => exact SP_zeroR f r n
theorem SP_bSR (cs : List Nat) (f : List Nat → Ser) (g : Nat → List Nat → Ser) (r : List Nat) (n : Nat) : SP f (fun v => bS cs fun c => g c v) r n = bS cs (fun c => SP f (g c) r) n := by
  induction cs with
  | nil => exact SP_zeroR f r n
  | cons c cs ih =>
    have e : (fun v => bS (c :: cs) fun c => g c v) = fun v a => g c v a + bS cs (fun c => g c v) a := rfl
    rw [e, SP_addR, ih]
    rfl
end Ly

set_option maxHeartbeats 4000000
namespace Ly
/-! ### rows of steps -/
structure Row (W : Wd) (st r : List Nat) (n : Nat) (α : List Stp) : Prop where
  ok : okS α
  wd : ∀ s ∈ α, s.wd W
  tx : inS α = r
  ct : cstS α = n
  fo : (outS α).foldl stp (some st) = some []
section
variable {W : Wd} {st s r : List Nat} {n c x : Nat} {β : List Stp}
theorem okS_cons {y : Stp} : okS (y :: β) ↔ y.ok ∧ okS β := by
  unfold okS
  simp
theorem wd_cons {y : Stp} : (∀ s ∈ y :: β, s.wd W) ↔ y.wd W ∧ ∀ s ∈ β, s.wd W := by simp
theorem Row.pt (hp : W.pt = true) (hc : c ∈ BRK) (hs : stp (some st) c = some s) (h : Row W s r n β) : Row W st r (n + 1) (.pt c :: β) :=
  ⟨okS_cons.mpr ⟨hc, h.ok⟩, wd_cons.mpr ⟨hp, h.wd⟩, h.tx, by show cstS β + 1 = n + 1; rw [h.ct], by show (outS β).foldl stp (stp (some st) c) = some []; rw [hs]; exact h.fo⟩
theorem Row.str (hp : W.st = true) (hx : x ∈ BRK) (h : Row W st r n β) : Row W st (x :: r) (n + 1) (.st x :: β) :=
  ⟨okS_cons.mpr ⟨hx, h.ok⟩, wd_cons.mpr ⟨hp, h.wd⟩, by show x :: inS β = x :: r; rw [h.tx], by show cstS β + 1 = n + 1; rw [h.ct], h.fo⟩
theorem Row.tn (hp : W.tn = true) (hx : x ∈ BRK) (hc : c ∈ BRK) (hn : c ≠ x) (hs : stp (some st) c = some s) (h : Row W s r n β) : Row W st (x :: r) (n + 1) (.tn x c :: β) :=
  ⟨okS_cons.mpr ⟨⟨hx, hc, hn⟩, h.ok⟩, wd_cons.mpr ⟨hp, h.wd⟩, by show x :: inS β = x :: r; rw [h.tx], by show cstS β + 1 = n + 1; rw [h.ct], by show (outS β).foldl stp (stp (some st) c) = some []; rw [hs]; exact h.fo⟩
theorem Row.kp (hs : stp (some st) x = some s) (h : Row W s r n β) : Row W st (x :: r) n (.kp x :: β) :=
  ⟨okS_cons.mpr ⟨trivial, h.ok⟩, wd_cons.mpr ⟨trivial, h.wd⟩, by show x :: inS β = x :: r; rw [h.tx], h.ct, by show (outS β).foldl stp (stp (some st) x) = some []; rw [hs]; exact h.fo⟩
theorem fold_some {o : Option (List Nat)} {l t : List Nat} (h : l.foldl stp o = some t) : ∃ s, o = some s := by
  cases o with
  | none => rw [fold_none] at h; cases h
  | some s => exact ⟨s, rfl⟩
theorem Row.ipt (h : Row W st r n (.pt c :: β)) : W.pt = true ∧ c ∈ BRK ∧ ∃ s m, stp (some st) c = some s ∧ n = m + 1 ∧ Row W s r m β := by
  obtain ⟨h1, h2, h3, h4, h5⟩ := h
  have h5' : (outS β).foldl stp (stp (some st) c) = some [] := h5
  obtain ⟨s, hs⟩ := fold_some h5'
  rw [hs] at h5'
  exact ⟨(wd_cons.mp h2).1, (okS_cons.mp h1).1, s, cstS β, hs, h4.symm, (okS_cons.mp h1).2, (wd_cons.mp h2).2, h3, rfl, h5'⟩
theorem Row.ist (h : Row W st r n (.st x :: β)) : W.st = true ∧ x ∈ BRK ∧ ∃ r' m, r = x :: r' ∧ n = m + 1 ∧ Row W st r' m β := by
  obtain ⟨h1, h2, h3, h4, h5⟩ := h
  exact ⟨(wd_cons.mp h2).1, (okS_cons.mp h1).1, inS β, cstS β, h3.symm, h4.symm, (okS_cons.mp h1).2, (wd_cons.mp h2).2, rfl, rfl, h5⟩
theorem Row.itn (h : Row W st r n (.tn x c :: β)) : W.tn = true ∧ x ∈ BRK ∧ c ∈ BRK ∧ c ≠ x ∧ ∃ s r' m, stp (some st) c = some s ∧ r = x :: r' ∧ n = m + 1 ∧ Row W s r' m β := by
  obtain ⟨h1, h2, h3, h4, h5⟩ := h
  have h5' : (outS β).foldl stp (stp (some st) c) = some [] := h5
  obtain ⟨s, hs⟩ := fold_some h5'
  rw [hs] at h5'
  obtain ⟨⟨a1, a2, a3⟩, a4⟩ := okS_cons.mp h1
  exact ⟨(wd_cons.mp h2).1, a1, a2, a3, s, inS β, cstS β, hs, h3.symm, h4.symm, a4, (wd_cons.mp h2).2, rfl, rfl, h5'⟩
theorem Row.ikp (h : Row W st r n (.kp x :: β)) : ∃ s r', stp (some st) x = some s ∧ r = x :: r' ∧ Row W s r' n β := by
  obtain ⟨h1, h2, h3, h4, h5⟩ := h
  have h5' : (outS β).foldl stp (stp (some st) x) = some [] := h5
  obtain ⟨s, hs⟩ := fold_some h5'
  rw [hs] at h5'
  exact ⟨s, inS β, hs, h3.symm, (okS_cons.mp h1).2, (wd_cons.mp h2).2, rfl, h4, h5'⟩
end
theorem mem_opt {W : Wd} {r : List Nat} {n : Nat} {o : Option (List Nat)} {f : List Stp → List Stp} {α : List Stp} : α ∈ (match o with | none => [] | some s => rowsL W s r n).map f ↔ ∃ s β, o = some s ∧ β ∈ rowsL W s r n ∧ f β = α := by
  cases o with
  | none => simp
  | some s => simp
theorem not_brk {x : Nat} (h : x ∉ BRK) (st : Option (List Nat)) : stp st x = st := stp_let (fun q => h (brk_or.mpr (.inl q))) (fun q => h (brk_or.mpr (.inr q)))
theorem rows_sound {W : Wd} : ∀ (N n : Nat) (r st : List Nat) (α : List Stp), n + r.length ≤ N → α ∈ rowsL W st r n → Row W st r n α := by
  intro N
  induction N with
  | zero =>
    intro n r st α h hm
    have h1 : n = 0 := by omega
    have h2 : r = [] := List.length_eq_zero_iff.mp (by omega)
    subst h1 h2
    rw [rowsL.eq_def] at hm
    dsimp only at hm
    rw [List.nil_append] at hm
    by_cases hs : st = [] ∧ 0 = 0
    · rw [if_pos hs] at hm
      rw [List.mem_singleton.mp hm, hs.1]
      exact ⟨(fun _ h => nomatch h), (fun _ h => nomatch h), rfl, rfl, rfl⟩
    · rw [if_neg hs] at hm; cases hm
  | succ N ih =>
    intro n r st α h hm
    rw [rowsL.eq_def] at hm
    rcases List.mem_append.mp hm with hm | hm
    · cases n with
      | zero => cases hm
      | succ n =>
        dsimp only at hm
        by_cases hp : W.pt = true
        · rw [if_pos hp] at hm
          obtain ⟨c, hc, hm⟩ := List.mem_flatMap.mp hm
          obtain ⟨s, β, hs, hb, rfl⟩ := mem_opt.mp hm
          exact Row.pt hp hc hs (ih n r s β (by omega) hb)
        · rw [if_neg hp] at hm; cases hm
    · cases r with
      | nil =>
        dsimp only at hm
        by_cases hs : st = [] ∧ n = 0
        · rw [if_pos hs] at hm
          rw [List.mem_singleton.mp hm, hs.1, hs.2]
          exact ⟨(fun _ h => nomatch h), (fun _ h => nomatch h), rfl, rfl, rfl⟩
        · rw [if_neg hs] at hm; cases hm
      | cons x r =>
        rw [List.length_cons] at h
        dsimp only at hm
        by_cases hx : x ∈ BRK
        · rw [if_pos hx] at hm
          rcases List.mem_append.mp hm with hm | hm
          · cases n with
            | zero => cases hm
            | succ n =>
              dsimp only at hm
              rcases List.mem_append.mp hm with hm | hm
              · by_cases hp : W.st = true
                · rw [if_pos hp] at hm
                  obtain ⟨β, hb, rfl⟩ := List.mem_map.mp hm
                  exact Row.str hp hx (ih n r st β (by omega) hb)
                · rw [if_neg hp] at hm; cases hm
              · by_cases hp : W.tn = true
                · rw [if_pos hp] at hm
                  obtain ⟨c, hc, hm⟩ := List.mem_flatMap.mp hm
                  obtain ⟨hc1, hc2⟩ := List.mem_filter.mp hc
                  obtain ⟨s, β, hs, hb, rfl⟩ := mem_opt.mp hm
                  exact Row.tn hp hx hc1 (by simpa using hc2) hs (ih n r s β (by omega) hb)
                · rw [if_neg hp] at hm; cases hm
          · obtain ⟨s, β, hs, hb, rfl⟩ := mem_opt.mp hm
            exact Row.kp hs (ih n r s β (by omega) hb)
        · rw [if_neg hx] at hm
          obtain ⟨β, hb, rfl⟩ := List.mem_map.mp hm
          exact Row.kp (not_brk hx _) (ih n r st β (by omega) hb)
theorem rows_all {W : Wd} : ∀ (α : List Stp) (st r : List Nat) (n : Nat), Row W st r n α → α ∈ rowsL W st r n
  | [], st, r, n, h => by
    have h1 : r = [] := h.tx.symm
    have h2 : n = 0 := h.ct.symm
    have h3 : st = [] := Option.some.inj h.fo
    subst h1 h2 h3
    rw [rowsL.eq_def]
    exact List.mem_append_right _ (by dsimp only; rw [if_pos ⟨rfl, rfl⟩]; exact List.mem_singleton.mpr rfl)
  | .pt c :: β, st, r, n, h => by
    obtain ⟨hp, hc, s, m, hs, rfl, hb⟩ := h.ipt
    rw [rowsL.eq_def]
    refine List.mem_append_left _ ?_
    dsimp only
    rw [if_pos hp]
    exact List.mem_flatMap.mpr ⟨c, hc, mem_opt.mpr ⟨s, β, hs, rows_all β s r m hb, rfl⟩⟩
  | .st x :: β, st, r, n, h => by
    obtain ⟨hp, hx, r', m, rfl, rfl, hb⟩ := h.ist
    rw [rowsL.eq_def]
    refine List.mem_append_right _ ?_
    dsimp only
    rw [if_pos hx]
    refine List.mem_append_left _ (List.mem_append_left _ ?_)
    rw [if_pos hp]
    exact List.mem_map.mpr ⟨β, rows_all β st r' m hb, rfl⟩
  | .tn x c :: β, st, r, n, h => by
    obtain ⟨hp, hx, hc, hn, s, r', m, hs, rfl, rfl, hb⟩ := h.itn
    rw [rowsL.eq_def]
    refine List.mem_append_right _ ?_
    dsimp only
    rw [if_pos hx]
    refine List.mem_append_left _ (List.mem_append_right _ ?_)
    rw [if_pos hp]
    exact List.mem_flatMap.mpr ⟨c, List.mem_filter.mpr ⟨hc, by simpa using hn⟩, mem_opt.mpr ⟨s, β, hs, rows_all β s r' m hb, rfl⟩⟩
  | .kp x :: β, st, r, n, h => by
    obtain ⟨s, r', hs, rfl, hb⟩ := h.ikp
    have hm := rows_all β s r' n hb
    rw [rowsL.eq_def]
    refine List.mem_append_right _ ?_
    dsimp only
    by_cases hx : x ∈ BRK
    · rw [if_pos hx]
      exact List.mem_append_right _ (mem_opt.mpr ⟨s, β, hs, hm, rfl⟩)
    · rw [if_neg hx]
      rw [not_brk hx] at hs
      cases hs
      exact List.mem_map.mpr ⟨β, hm, rfl⟩
theorem mem_rows {W : Wd} {st r : List Nat} {n : Nat} {α : List Stp} : α ∈ rowsL W st r n ↔ Row W st r n α := ⟨rows_sound _ n r st α (Nat.le_refl _), rows_all α st r n⟩
theorem An_pos {W : Wd} {st r : List Nat} {n : Nat} : An W st r n ≠ 0 ↔ ∃ α, Row W st r n α := by
  constructor
  · intro h
    have : rowsL W st r n ≠ [] := fun e => h (by show (rowsL W st r n).length = 0; rw [e]; rfl)
    obtain ⟨α, ha⟩ := List.exists_mem_of_ne_nil _ this
    exact ⟨α, mem_rows.mp ha⟩
  · rintro ⟨α, ha⟩ h
    have := List.length_pos_of_mem (mem_rows.mpr ha)
    have h' : (rowsL W st r n).length = 0 := h
    omega
/-! ### rows put together -/
theorem okS_app {α β : List Stp} (h1 : okS α) (h2 : okS β) : okS (α ++ β) := fun s hs => (List.mem_append.mp hs).elim (h1 s) (h2 s)
theorem inS_app (α β : List Stp) : inS (α ++ β) = inS α ++ inS β := by unfold inS; rw [List.map_append, List.flatten_append]
theorem outS_app (α β : List Stp) : outS (α ++ β) = outS α ++ outS β := by unfold outS; rw [List.map_append, List.flatten_append]
theorem cstS_app : ∀ (α β : List Stp), cstS (α ++ β) = cstS α + cstS β
  | [], β => (Nat.zero_add _).symm
  | .kp _ :: α, β => cstS_app α β
  | .st _ :: α, β => by show cstS (α ++ β) + 1 = cstS α + 1 + cstS β; rw [cstS_app α β]; omega
  | .tn _ _ :: α, β => by show cstS (α ++ β) + 1 = cstS α + 1 + cstS β; rw [cstS_app α β]; omega
  | .pt _ :: α, β => by show cstS (α ++ β) + 1 = cstS α + 1 + cstS β; rw [cstS_app α β]; omega
theorem Row.app {W : Wd} {u v : List Nat} {a b : Nat} {α β : List Stp} (h1 : Row W [] u a α) (h2 : Row W [] v b β) : Row W [] (u ++ v) (a + b) (α ++ β) :=
  ⟨okS_app h1.ok h2.ok, fun s hs => (List.mem_append.mp hs).elim (h1.wd s) (h2.wd s), by rw [inS_app, h1.tx, h2.tx], by rw [cstS_app, h1.ct, h2.ct], by rw [outS_app, List.foldl_append, h1.fo]; exact h2.fo⟩
theorem An_app {W : Wd} {u v : List Nat} {a b : Nat} (h1 : An W [] u a ≠ 0) (h2 : An W [] v b ≠ 0) : An W [] (u ++ v) (a + b) ≠ 0 := by
  obtain ⟨α, ha⟩ := An_pos.mp h1
  obtain ⟨β, hb⟩ := An_pos.mp h2
  exact An_pos.mpr ⟨_, ha.app hb⟩
theorem An_one {W : Wd} {x : Nat} (hp : W.pt = true) (hx : x ∈ BRK) : An W [] [x] 1 ≠ 0 := by
  refine An_pos.mpr ?_
  by_cases ho : x ∈ OPN
  · exact ⟨[.kp x, .pt (oth x)], Row.kp (stp_opn ho) (Row.pt hp (oth_brk x hx) (stp_clo (oth_clo x ho)) ⟨(fun _ h => nomatch h), (fun _ h => nomatch h), rfl, rfl, rfl⟩)⟩
  · have hc : x ∈ CLO := (brk_or.mp hx).resolve_left ho
    have e : stp (some []) (oth x) = some [x] := by rw [stp_opn (oth_opn x hc), oth_oth x hx]
    exact ⟨[.pt (oth x), .kp x], Row.pt hp (oth_brk x hx) e (Row.kp (stp_clo hc) ⟨(fun _ h => nomatch h), (fun _ h => nomatch h), rfl, rfl, rfl⟩)⟩
/-- a sign made into another one, or kept -/
def asS (x c : Nat) : Stp := if c = x then .kp x else .tn x c
def asC (x c : Nat) : Nat := if c = x then 0 else 1
theorem Row.as {W : Wd} {st s r : List Nat} {n x c : Nat} {β : List Stp} (hp : c = x ∨ W.tn = true) (hx : x ∈ BRK) (hc : c ∈ BRK) (hs : stp (some st) c = some s) (h : Row W s r n β) : Row W st (x :: r) (asC x c + n) (asS x c :: β) := by
  unfold asS asC
  by_cases e : c = x
  · rw [if_pos e, if_pos e, Nat.zero_add]
    subst e
    exact Row.kp hs h
  · rw [if_neg e, if_neg e, Nat.add_comm]
    exact Row.tn (hp.resolve_left e) hx hc e hs h
/-- what stands on a pile that stays -/
theorem Row.fr {W : Wd} {u : List Nat} {a : Nat} {α : List Stp} (h : Row W [] u a α) {st r : List Nat} {n : Nat} {β : List Stp} (hb : Row W st r n β) : Row W st (u ++ r) (a + n) (α ++ β) :=
  ⟨okS_app h.ok hb.ok, fun s hs => (List.mem_append.mp hs).elim (h.wd s) (hb.wd s), by rw [inS_app, h.tx, hb.tx], by rw [cstS_app, h.ct, hb.ct], by
    rw [outS_app, List.foldl_append, fold_run (r := []) h.fo]
    exact hb.fo⟩
theorem Row.nil {W : Wd} : Row W [] [] 0 [] := ⟨(fun _ h => nomatch h), (fun _ h => nomatch h), rfl, rfl, rfl⟩
theorem few_way : ∀ x ∈ BRK, ∀ d ∈ BRK, ∃ o ∈ OPN, asC x o + asC d (oth o) = (few x d).1 := by decide
theorem An_pair {W : Wd} {x d : Nat} (hx : x ∈ BRK) (hd : d ∈ BRK) (hg : (few x d).1 = 0 ∨ W.tn = true) {u : List Nat} {a : Nat} (h : An W [] u a ≠ 0) : An W [] (x :: (u ++ [d])) (a + (few x d).1) ≠ 0 := by
  obtain ⟨α, ha⟩ := An_pos.mp h
  obtain ⟨o, ho, ec⟩ := few_way x hx d hd
  have hob := brk_or.mpr (.inl ho)
  have hcb := oth_brk o hob
  have p1 : o = x ∨ W.tn = true := by
    by_cases e : o = x
    · exact .inl e
    · refine .inr (hg.resolve_left ?_)
      have : asC x o = 1 := if_neg e
      omega
  have p2 : oth o = d ∨ W.tn = true := by
    by_cases e : oth o = d
    · exact .inl e
    · refine .inr (hg.resolve_left ?_)
      have : asC d (oth o) = 1 := if_neg e
      omega
  have h2 : Row W [oth o] [d] (asC d (oth o) + 0) [asS d (oth o)] := Row.as p2 hd hcb (stp_clo (oth_clo o ho)) Row.nil
  have h3 := Row.as p1 hx hob (stp_opn ho) (ha.fr h2)
  rw [show asC x o + (a + (asC d (oth o) + 0)) = a + (few x d).1 by omega] at h3
  exact An_pos.mpr ⟨_, h3⟩
end Ly

set_option maxHeartbeats 4000000
namespace Ly
/-! ### all that begins so: what is least of it -/
section
variable {W : Wd}
/-- the sign that closes what was opened with k, kept or turned -/
def clo (W : Wd) (k : Nat) (v : List Nat) : Ser := fun n => match v with
  | [] => 0
  | d :: v => if d ∈ BRK then (if d = k then An W [] v n else sh (gat W.tn (An W [] v)) n) else 0
theorem Cl_eq (k : Nat) (v : List Nat) (n : Nat) : Cl W k [] v n = sh (gat W.pt (An W [] v)) n + clo W k v n := by
  cases v <;> rfl
def g1 (W : Wd) (x : Nat) (v : List Nat) : Ser := fun n => (if x ∈ OPN then Cl W (oth x) [] v n else 0) + sh (gat W.tn (bS (OPN.filter (· ≠ x)) fun o => Cl W (oth o) [] v)) n
def g2 (W : Wd) (v : List Nat) : Ser := sh (gat W.pt (bS OPN fun o => Cl W (oth o) [] v))
theorem bS_filter {f : Nat → Ser} {n : Nat} (p : Nat → Bool) : ∀ {cs : List Nat}, (∀ c ∈ cs, p c = false → f c n = 0) → bS cs f n = bS (cs.filter p) f n
  | [], _ => rfl
  | c :: cs, h => by
    have ih := bS_filter p (cs := cs) fun d hd => h d (List.mem_cons_of_mem _ hd)
    have e1 : ∀ ds, bS (c :: ds) f n = f c n + bS ds f n := fun ds => rfl
    cases hc : p c with
    | true => rw [List.filter_cons_of_pos hc, e1, e1, ih]
    | false => rw [List.filter_cons_of_neg (by rw [hc]; exact Bool.false_ne_true), e1, h c List.mem_cons_self hc, Nat.zero_add, ih]
theorem brk_opn : BRK.filter (fun c => decide (c ∈ OPN)) = OPN := by decide
theorem bS_congr {f g : Nat → Ser} {n : Nat} {cs : List Nat} (h : ∀ c ∈ cs, f c n = g c n) : bS cs f n = bS cs g n := by
  unfold bS
  congr 1
  exact List.map_congr_left h
theorem ret_one {o : Nat} (ho : o ∈ OPN) (r : List Nat) (n : Nat) : An W [oth o] r n = SP (An W []) (Cl W (oth o) []) r n := first_ret (oth_clo o ho) [] _ n r [] (Nat.le_refl _)
theorem oA_opn {r : List Nat} {n c : Nat} (hc : c ∈ OPN) : oA (fun s => An W s r) (stp (some []) c) n = SP (An W []) (Cl W (oth c) []) r n := by
  rw [stp_opn hc]
  exact ret_one hc r n
theorem oA_clo {r : List Nat} {n c : Nat} (hc : c ∈ BRK) (h : c ∉ OPN) : oA (fun s => An W s r) (stp (some []) c) n = 0 := by
  have : stp (some []) c = none := by
    unfold stp
    dsimp only
    rw [if_neg h, if_pos ((brk_or.mp hc).resolve_left h)]
  rw [this]
  rfl
theorem pA_g2 (r : List Nat) (n : Nat) : pA W [] r n = SP (An W []) (g2 W) r n := by
  unfold pA g2
  rw [SP_shR]
  cases n with
  | zero => rfl
  | succ n =>
    show gat W.pt _ n = SP _ (fun v => gat W.pt _) r n
    rw [SP_gatR]
    unfold gat
    by_cases h : W.pt = true
    · rw [if_pos h, if_pos h, SP_bSR OPN _ (fun o v => Cl W (oth o) [] v), bS_filter (fun c => decide (c ∈ OPN)) (fun c hc hp => oA_clo hc (by simpa using hp)), brk_opn]
      exact bS_congr fun c hc => oA_opn hc
    · rw [if_neg h, if_neg h]
theorem An_first {x : Nat} (hx : x ∈ BRK) (r : List Nat) (n : Nat) : An W [] (x :: r) n = SP (An W []) (g2 W) (x :: r) n + (sh (gat W.st (An W [] r)) n + SP (An W []) (g1 W x) r n) := by
  rw [An_brk hx, pA_g2]
  congr 1
  have e1 : SP (An W []) (g1 W x) r n = (if x ∈ OPN then SP (An W []) (Cl W (oth x) []) r n else 0) + sh (gat W.tn (bS (OPN.filter (· ≠ x)) fun o => SP (An W []) (Cl W (oth o) []) r)) n := by
    unfold g1
    rw [SP_addR (An W []) (fun v n => if x ∈ OPN then Cl W (oth x) [] v n else 0) (fun v => sh (gat W.tn (bS (OPN.filter (· ≠ x)) fun o => Cl W (oth o) [] v)))]
    congr 1
    · by_cases h : x ∈ OPN
      · simp only [if_pos h]
      · simp only [if_neg h]; exact SP_zeroR _ r n
    · rw [SP_shR]
      cases n with
      | zero => rfl
      | succ n =>
        show SP _ (fun v => gat W.tn _) r n = gat W.tn _ n
        rw [SP_gatR]
        unfold gat
        by_cases h : W.tn = true
        · rw [if_pos h, if_pos h, SP_bSR _ _ (fun o v => Cl W (oth o) [] v)]
        · rw [if_neg h, if_neg h]
  have e2 : oA (fun s => An W s r) (stp (some []) x) n = if x ∈ OPN then SP (An W []) (Cl W (oth x) []) r n else 0 := by
    by_cases h : x ∈ OPN
    · rw [if_pos h, oA_opn h]
    · rw [if_neg h, oA_clo hx h]
  have e3 : tA W [] x r n = sh (gat W.st (An W [] r)) n + sh (gat W.tn (bS (OPN.filter (· ≠ x)) fun o => SP (An W []) (Cl W (oth o) []) r)) n := by
    unfold tA
    cases n with
    | zero => rfl
    | succ n =>
      show _ + _ = gat W.st _ n + gat W.tn _ n
      congr 1
      unfold gat
      by_cases h : W.tn = true
      · rw [if_pos h, if_pos h, bS_filter (fun c => decide (c ∈ OPN)) (fun c hc hp => oA_clo (List.mem_filter.mp hc).1 (by simpa using hp)), List.filter_filter, show (fun a => decide (a ∈ OPN) && decide (a ≠ x)) = fun a => decide (a ≠ x) && decide (a ∈ OPN) from funext fun a => Bool.and_comm _ _, ← List.filter_filter, brk_opn]
        exact bS_congr fun c hc => oA_opn (List.mem_filter.mp hc).1
      · rw [if_neg h, if_neg h]
  rw [e1, e2, e3]
  omega
theorem An_firstL {x : Nat} (hx : x ∉ BRK) (r : List Nat) (n : Nat) : An W [] (x :: r) n = SP (An W []) (g2 W) (x :: r) n + An W [] r n := by
  rw [An_let hx, pA_g2]
/-! the least ones -/
def g2m (W : Wd) (v : List Nat) : Ser := fun n => match v with
  | [] => 0
  | d :: v => if d ∈ CLO then sh (gat W.pt (An W [] v)) n else 0
def g1o (W : Wd) (x : Nat) (v : List Nat) : Ser := fun n => if x ∈ OPN then sh (gat W.pt (An W [] v)) n else 0
def g1p (W : Wd) (x : Nat) (v : List Nat) : Ser := fun n => match v with
  | [] => 0
  | d :: v => if d ∈ BRK ∧ ((few x d).1 = 0 ∨ W.tn = true) then cv (mS (few x d)) (An W [] v) n else 0
theorem sum_if (cs : List Nat) (d A C : Nat) : (cs.map fun o => if d = oth o then A else C).sum = cs.countP (fun o => decide (d = oth o)) * A + (cs.length - cs.countP (fun o => decide (d = oth o))) * C := by
  induction cs with
  | nil => simp
  | cons c cs ih =>
    have hle := List.countP_le_length (p := fun o => decide (d = oth o)) (l := cs)
    rw [List.map_cons, List.sum_cons, ih, List.length_cons, List.countP_cons]
    by_cases h : d = oth c
    · rw [if_pos h, if_pos (by simpa using h), Nat.add_mul, show cs.length + 1 - (cs.countP (fun o => decide (d = oth o)) + 1) = cs.length - cs.countP (fun o => decide (d = oth o)) by omega]
      omega
    · rw [if_neg h, if_neg (by simpa using h), Nat.add_zero, show cs.length + 1 - cs.countP (fun o => decide (d = oth o)) = (cs.length - cs.countP (fun o => decide (d = oth o))) + 1 by omega, Nat.add_mul _ 1 C]
      omega
theorem sum_add (cs : List Nat) (A : Nat) (f : Nat → Nat) : (cs.map fun o => A + f o).sum = cs.length * A + (cs.map f).sum := by
  induction cs with
  | nil => simp
  | cons c cs ih => rw [List.map_cons, List.sum_cons, ih, List.length_cons, List.map_cons, List.sum_cons, Nat.add_mul]; omega
theorem bS_Cl (cs : List Nat) (v : List Nat) (n : Nat) : bS cs (fun o => Cl W (oth o) [] v) n = cs.length * sh (gat W.pt (An W [] v)) n + (cs.map fun o => clo W (oth o) v n).sum := by
  rw [← sum_add]
  exact bS_congr (g := fun o n => sh (gat W.pt (An W [] v)) n + clo W (oth o) v n) fun c _ => Cl_eq _ v n
theorem clo_sum (cs : List Nat) (d : Nat) (hd : d ∈ BRK) (v : List Nat) (n : Nat) : (cs.map fun o => clo W (oth o) (d :: v) n).sum = cs.countP (fun o => decide (d = oth o)) * An W [] v n + (cs.length - cs.countP (fun o => decide (d = oth o))) * sh (gat W.tn (An W [] v)) n := by
  rw [← sum_if]
  congr 1
  refine List.map_congr_left fun o _ => ?_
  show (if d ∈ BRK then (if d = oth o then An W [] v n else sh (gat W.tn (An W [] v)) n) else 0) = _
  rw [if_pos hd]
theorem clo_not (cs : List Nat) (v : List Nat) (n : Nat) (h : ∀ d w, v = d :: w → d ∉ BRK) : (cs.map fun o => clo W (oth o) v n).sum = 0 := by
  have : ∀ o, clo W (oth o) v n = 0 := fun o => by
    cases v with
    | nil => rfl
    | cons d w => exact if_neg (h d w rfl)
  rw [show (fun o => clo W (oth o) v n) = fun _ => 0 from funext this]
  clear this h
  induction cs with
  | nil => rfl
  | cons c cs ih => rw [List.map_cons, List.sum_cons, ih]
theorem sh_succ (f : Ser) (n : Nat) : sh f (n + 1) = f n := rfl
theorem sh_pos {f : Ser} {n : Nat} (h : sh f n ≠ 0) : ∃ m, n = m + 1 ∧ f m ≠ 0 := by
  cases n with
  | zero => exact absurd rfl h
  | succ m => exact ⟨m, rfl, h⟩
theorem gat_pos {b : Bool} {f : Ser} {n : Nat} (h : gat b f n ≠ 0) : b = true ∧ f n ≠ 0 := by
  unfold gat at h
  by_cases hb : b = true
  · rw [if_pos hb] at h; exact ⟨hb, h⟩
  · rw [if_neg hb] at h; exact absurd rfl h
theorem cnt_opn1 : ∀ d ∈ BRK, OPN.countP (fun o => decide (d = oth o)) = if d ∈ CLO then 1 else 0 := by decide
theorem opn_len : OPN.length = 4 := rfl
/-- what is put first, and not with a sign of the text: there is less -/
theorem g2_both (v : List Nat) (n : Nat) : g2m W v n ≤ g2 W v n ∧ (g2m W v n < g2 W v n → W.pt = true ∧ ((∃ m, n = m + 2 ∧ An W [] v m ≠ 0) ∨ ∃ d w m, v = d :: w ∧ d ∈ BRK ∧ n = m + 2 ∧ An W [] w m ≠ 0)) := by
  by_cases hp : W.pt = true
  · cases n with
    | zero =>
      have e : g2m W v 0 = 0 := by
        cases v with
        | nil => rfl
        | cons d w => show (if d ∈ CLO then 0 else 0) = 0; split <;> rfl
      rw [e]
      exact ⟨Nat.zero_le _, fun h => absurd h (by show ¬ 0 < 0; omega)⟩
    | succ n =>
      have e : g2 W v (n + 1) = 4 * sh (gat W.pt (An W [] v)) n + (OPN.map fun o => clo W (oth o) v n).sum := by
        show gat W.pt _ n = _
        unfold gat
        rw [if_pos hp, ← opn_len]
        exact bS_Cl OPN v n
      have key1 : sh (gat W.pt (An W [] v)) n ≠ 0 → ∃ m, n + 1 = m + 2 ∧ An W [] v m ≠ 0 := fun h => by
        obtain ⟨m, rfl, hm⟩ := sh_pos h
        exact ⟨m, rfl, (gat_pos hm).2⟩
      rw [e]
      cases v with
      | nil =>
        rw [clo_not OPN [] n (fun d w h => by cases h)]
        refine ⟨Nat.zero_le _, fun h => ⟨hp, .inl (key1 ?_)⟩⟩
        have : 0 < 4 * sh (gat W.pt (An W [] [])) n + 0 := h
        omega
      | cons d w =>
        by_cases hd : d ∈ BRK
        · rw [clo_sum OPN d hd, cnt_opn1 d hd, opn_len]
          have key2 : sh (gat W.tn (An W [] w)) n ≠ 0 → ∃ d' w' m, d :: w = d' :: w' ∧ d' ∈ BRK ∧ n + 1 = m + 2 ∧ An W [] w' m ≠ 0 := fun h => by
            obtain ⟨m, rfl, hm⟩ := sh_pos h
            exact ⟨d, w, m, rfl, hd, rfl, (gat_pos hm).2⟩
          by_cases hc : d ∈ CLO
          · have em : g2m W (d :: w) (n + 1) = An W [] w n := by
              show (if d ∈ CLO then gat W.pt (An W [] w) n else 0) = _
              unfold gat
              rw [if_pos hc, if_pos hp]
            rw [em, if_pos hc]
            refine ⟨by omega, fun h => ⟨hp, ?_⟩⟩
            by_cases h1 : sh (gat W.pt (An W [] (d :: w))) n = 0
            · exact .inr (key2 (by omega))
            · exact .inl (key1 h1)
          · have em : g2m W (d :: w) (n + 1) = 0 := if_neg hc
            rw [em, if_neg hc]
            refine ⟨Nat.zero_le _, fun h => ⟨hp, ?_⟩⟩
            by_cases h1 : sh (gat W.pt (An W [] (d :: w))) n = 0
            · exact .inr (key2 (by omega))
            · exact .inl (key1 h1)
        · rw [clo_not OPN (d :: w) n (fun d' w' e => by cases e; exact hd)]
          have em : g2m W (d :: w) (n + 1) = 0 := if_neg fun h => hd (brk_or.mpr (.inr h))
          rw [em]
          exact ⟨Nat.zero_le _, fun h => ⟨hp, .inl (key1 (by omega))⟩⟩
  · have e1 : g2 W v n = 0 := by
      cases n with
      | zero => rfl
      | succ n => exact if_neg hp
    have e2 : g2m W v n = 0 := by
      cases v with
      | nil => rfl
      | cons d w =>
        show (if d ∈ CLO then sh (gat W.pt (An W [] w)) n else 0) = 0
        cases n with
        | zero => show (if d ∈ CLO then 0 else 0) = 0; split <;> rfl
        | succ n => show (if d ∈ CLO then gat W.pt (An W [] w) n else 0) = 0; unfold gat; rw [if_neg hp]; split <;> rfl
    rw [e1, e2]
    exact ⟨Nat.le_refl _, fun h => absurd h (by omega)⟩
theorem g2_junk {v : List Nat} {b : Nat} (h : g2m W v b < g2 W v b) {u : List Nat} {a : Nat} (hu : An W [] u a ≠ 0) : ∃ m, m < a + b ∧ An W [] (u ++ v) m ≠ 0 := by
  obtain ⟨hp, ⟨m, rfl, hm⟩ | ⟨d, w, m, rfl, hd, rfl, hm⟩⟩ := (g2_both v b).2 h
  · exact ⟨a + m, by omega, An_app hu hm⟩
  · refine ⟨a + (1 + m), by omega, ?_⟩
    exact An_app hu (An_app (u := [d]) (An_one hp hd) hm)
/-! pairs -/
def n0 (x d : Nat) : Nat := if x ∈ OPN ∧ d = oth x then 1 else 0
def n1 (x d : Nat) : Nat := (if x ∈ OPN ∧ d ≠ oth x then 1 else 0) + (OPN.filter (· ≠ x)).countP (fun o => decide (d = oth o))
def n2 (x d : Nat) : Nat := (OPN.filter (· ≠ x)).length - (OPN.filter (· ≠ x)).countP (fun o => decide (d = oth o))
theorem few_n : ∀ x ∈ BRK, ∀ d ∈ BRK, (few x d = (0, 1) ∧ n0 x d = 1) ∨ (few x d = (1, n1 x d) ∧ n0 x d = 0) ∨ (few x d = (2, n2 x d) ∧ n0 x d = 0 ∧ n1 x d = 0) := by decide
/-- all ways to make two signs a pair -/
theorem pair_all {x d : Nat} (hd : d ∈ BRK) (v : List Nat) (n : Nat) :
    (if x ∈ OPN then clo W (oth x) (d :: v) n else 0) + sh (gat W.tn (fun n => ((OPN.filter (· ≠ x)).map fun o => clo W (oth o) (d :: v) n).sum)) n
      = n0 x d * An W [] v n + (n1 x d * sh (gat W.tn (An W [] v)) n + n2 x d * sh (sh (gat W.tn (An W [] v))) n) := by
  have e1 : (if x ∈ OPN then clo W (oth x) (d :: v) n else 0) = n0 x d * An W [] v n + (if x ∈ OPN ∧ d ≠ oth x then 1 else 0) * sh (gat W.tn (An W [] v)) n := by
    unfold n0
    by_cases hx : x ∈ OPN
    · rw [if_pos hx]
      show (if d ∈ BRK then (if d = oth x then An W [] v n else sh (gat W.tn (An W [] v)) n) else 0) = _
      rw [if_pos hd]
      by_cases e : d = oth x
      · rw [if_pos e, if_pos ⟨hx, e⟩, if_neg (fun h => h.2 e), Nat.one_mul, Nat.zero_mul]; rfl
      · rw [if_neg e, if_neg (fun h => e h.2), if_pos ⟨hx, e⟩, Nat.one_mul, Nat.zero_mul, Nat.zero_add]
    · rw [if_neg hx, if_neg (fun h => hx h.1), if_neg (fun h => hx h.1), Nat.zero_mul, Nat.zero_mul]
  have e2 : sh (gat W.tn (fun n => ((OPN.filter (· ≠ x)).map fun o => clo W (oth o) (d :: v) n).sum)) n = (OPN.filter (· ≠ x)).countP (fun o => decide (d = oth o)) * sh (gat W.tn (An W [] v)) n + n2 x d * sh (sh (gat W.tn (An W [] v))) n := by
    cases n with
    | zero => rfl
    | succ n =>
      rw [sh_succ, sh_succ, sh_succ]
      unfold gat
      by_cases ht : W.tn = true
      · rw [if_pos ht, if_pos ht]
        refine (clo_sum _ d hd v n).trans ?_
        unfold n2 gat
        rfl
      · rw [if_neg ht, if_neg ht]
        cases n with
        | zero => rfl
        | succ n => show 0 = _ * 0 + _ * (if W.tn = true then _ else 0); rw [if_neg ht, Nat.mul_zero, Nat.mul_zero]
  rw [e1, e2]
  unfold n1
  rw [Nat.add_mul]
  omega
theorem pair_both {x d : Nat} (hx : x ∈ BRK) (hd : d ∈ BRK) (v : List Nat) (n : Nat) : g1p W x (d :: v) n ≤ n0 x d * An W [] v n + (n1 x d * sh (gat W.tn (An W [] v)) n + n2 x d * sh (sh (gat W.tn (An W [] v))) n) ∧
    (g1p W x (d :: v) n < n0 x d * An W [] v n + (n1 x d * sh (gat W.tn (An W [] v)) n + n2 x d * sh (sh (gat W.tn (An W [] v))) n) → W.tn = true ∧ ∃ q m, (few x d).1 < q ∧ n = m + q ∧ An W [] v m ≠ 0) := by
  have eg : g1p W x (d :: v) n = if d ∈ BRK ∧ ((few x d).1 = 0 ∨ W.tn = true) then cv (mS (few x d)) (An W [] v) n else 0 := rfl
  rw [eg]
  by_cases ht : W.tn = true
  · rw [if_pos ⟨hd, .inr ht⟩]
    have eG : gat W.tn (An W [] v) = An W [] v := by rw [ht]; rfl
    rw [eG]
    have k1 : ∀ q, 1 < q → True := fun _ _ => trivial
    have s1 : sh (An W [] v) n ≠ 0 → ∃ m, n = m + 1 ∧ An W [] v m ≠ 0 := sh_pos
    have s2 : sh (sh (An W [] v)) n ≠ 0 → ∃ m, n = m + 2 ∧ An W [] v m ≠ 0 := fun h => by
      obtain ⟨m, rfl, hm⟩ := sh_pos h
      obtain ⟨k, rfl, hk⟩ := sh_pos hm
      exact ⟨k, rfl, hk⟩
    rcases few_n x hx d hd with ⟨ef, e0⟩ | ⟨ef, e0⟩ | ⟨ef, e0, e1⟩
    · rw [ef, cv_mS, if_pos (Nat.zero_le _), e0, Nat.sub_zero]
      refine ⟨by omega, fun h => ⟨ht, ?_⟩⟩
      by_cases z1 : sh (An W [] v) n = 0
      · rw [z1] at h
        have : sh (sh (An W [] v)) n ≠ 0 := fun z2 => by rw [z2] at h; omega
        obtain ⟨m, e, hm⟩ := s2 this
        exact ⟨2, m, by decide, e, hm⟩
      · obtain ⟨m, e, hm⟩ := s1 z1
        exact ⟨1, m, by decide, e, hm⟩
    · have em : cv (mS (1, n1 x d)) (An W [] v) n = n1 x d * sh (An W [] v) n := by
        rw [cv_mS]
        cases n with
        | zero => rfl
        | succ n => rw [if_pos (by omega)]; rfl
      rw [ef, em, e0]
      refine ⟨by omega, fun h => ⟨ht, ?_⟩⟩
      have : sh (sh (An W [] v)) n ≠ 0 := fun z2 => by rw [z2] at h; omega
      obtain ⟨m, e, hm⟩ := s2 this
      exact ⟨2, m, by show 1 < 2; decide, e, hm⟩
    · have em : cv (mS (2, n2 x d)) (An W [] v) n = n2 x d * sh (sh (An W [] v)) n := by
        rw [cv_mS]
        cases n with
        | zero => rfl
        | succ n =>
          cases n with
          | zero => rfl
          | succ n => rw [if_pos (by omega)]; rfl
      rw [ef, em, e0, e1]
      exact ⟨by omega, fun h => absurd h (by omega)⟩
  · have z1 : sh (gat W.tn (An W [] v)) n = 0 := by
      cases n with
      | zero => rfl
      | succ n => exact if_neg ht
    have z2 : sh (sh (gat W.tn (An W [] v))) n = 0 := by
      cases n with
      | zero => rfl
      | succ n =>
        cases n with
        | zero => rfl
        | succ n => exact if_neg ht
    rw [z1, z2]
    rcases few_n x hx d hd with ⟨ef, e0⟩ | ⟨ef, e0⟩ | ⟨ef, e0, e1⟩
    · rw [ef, if_pos ⟨hd, .inl rfl⟩, cv_mS, if_pos (Nat.zero_le _), e0, Nat.sub_zero]
      exact ⟨by omega, fun h => absurd h (by omega)⟩
    · rw [ef, if_neg (fun h => h.2.elim (fun q => absurd (show (1 : Nat) = 0 from q) (by decide)) ht)]
      rw [e0]
      exact ⟨Nat.zero_le _, fun h => absurd h (by omega)⟩
    · rw [ef, if_neg (fun h => h.2.elim (fun q => absurd (show (2 : Nat) = 0 from q) (by decide)) ht)]
      rw [e0]
      exact ⟨Nat.zero_le _, fun h => absurd h (by omega)⟩
/-- g1 by its parts -/
theorem g1_parts (x : Nat) (v : List Nat) (n : Nat) : g1 W x v n = g1o W x v n + ((OPN.filter (· ≠ x)).length * sh (gat W.tn (sh (gat W.pt (An W [] v)))) n + ((if x ∈ OPN then clo W (oth x) v n else 0) + sh (gat W.tn (fun n => ((OPN.filter (· ≠ x)).map fun o => clo W (oth o) v n).sum)) n)) := by
  unfold g1 g1o
  have e1 : (if x ∈ OPN then Cl W (oth x) [] v n else 0) = (if x ∈ OPN then sh (gat W.pt (An W [] v)) n else 0) + (if x ∈ OPN then clo W (oth x) v n else 0) := by
    by_cases h : x ∈ OPN
    · rw [if_pos h, if_pos h, if_pos h, Cl_eq]
    · rw [if_neg h, if_neg h, if_neg h]
  have e2 : sh (gat W.tn (bS (OPN.filter (· ≠ x)) fun o => Cl W (oth o) [] v)) n = (OPN.filter (· ≠ x)).length * sh (gat W.tn (sh (gat W.pt (An W [] v)))) n + sh (gat W.tn (fun n => ((OPN.filter (· ≠ x)).map fun o => clo W (oth o) v n).sum)) n := by
    cases n with
    | zero => rfl
    | succ n =>
      rw [sh_succ, sh_succ, sh_succ]
      unfold gat
      by_cases ht : W.tn = true
      · rw [if_pos ht, if_pos ht, if_pos ht]
        exact bS_Cl _ v n
      · rw [if_neg ht, if_neg ht, if_neg ht, Nat.mul_zero]
  rw [e1, e2]
  omega
theorem g1_both {x : Nat} (hx : x ∈ BRK) (v : List Nat) (n : Nat) : g1o W x v n + g1p W x v n ≤ g1 W x v n ∧ (g1o W x v n + g1p W x v n < g1 W x v n → (W.pt = true ∧ ∃ m, n = m + 2 ∧ An W [] v m ≠ 0) ∨ ∃ d w q m, v = d :: w ∧ d ∈ BRK ∧ W.tn = true ∧ (few x d).1 < q ∧ n = m + q ∧ An W [] w m ≠ 0) := by
  rw [g1_parts]
  have key1 : sh (gat W.tn (sh (gat W.pt (An W [] v)))) n ≠ 0 → W.pt = true ∧ ∃ m, n = m + 2 ∧ An W [] v m ≠ 0 := fun h => by
    obtain ⟨m, rfl, hm⟩ := sh_pos h
    obtain ⟨k, rfl, hk⟩ := sh_pos (gat_pos hm).2
    exact ⟨(gat_pos hk).1, k, rfl, (gat_pos hk).2⟩
  have zero : (∀ d w, v = d :: w → d ∉ BRK) → ((if x ∈ OPN then clo W (oth x) v n else 0) + sh (gat W.tn (fun n => ((OPN.filter (· ≠ x)).map fun o => clo W (oth o) v n).sum)) n = 0 ∧ g1p W x v n = 0) := fun h => by
    have a1 : clo W (oth x) v n = 0 := by
      cases v with
      | nil => rfl
      | cons d w => exact if_neg (h d w rfl)
    have a2 : sh (gat W.tn (fun n => ((OPN.filter (· ≠ x)).map fun o => clo W (oth o) v n).sum)) n = 0 := by
      cases n with
      | zero => rfl
      | succ n =>
        rw [sh_succ]
        unfold gat
        dsimp only
        rw [clo_not _ v n h]
        split <;> rfl
    have a3 : g1p W x v n = 0 := by
      cases v with
      | nil => rfl
      | cons d w => exact if_neg fun q => h d w rfl q.1
    rw [a1, a2, a3]
    exact ⟨by split <;> rfl, rfl⟩
  have fin : ∀ {A : Nat}, g1p W x v n ≤ A → (g1p W x v n < A → ∃ d w q m, v = d :: w ∧ d ∈ BRK ∧ W.tn = true ∧ (few x d).1 < q ∧ n = m + q ∧ An W [] w m ≠ 0) → g1o W x v n + g1p W x v n ≤ g1o W x v n + ((OPN.filter (· ≠ x)).length * sh (gat W.tn (sh (gat W.pt (An W [] v)))) n + A) ∧ (g1o W x v n + g1p W x v n < g1o W x v n + ((OPN.filter (· ≠ x)).length * sh (gat W.tn (sh (gat W.pt (An W [] v)))) n + A) → (W.pt = true ∧ ∃ m, n = m + 2 ∧ An W [] v m ≠ 0) ∨ ∃ d w q m, v = d :: w ∧ d ∈ BRK ∧ W.tn = true ∧ (few x d).1 < q ∧ n = m + q ∧ An W [] w m ≠ 0) := fun h1 h2 => by
    refine ⟨by omega, fun h => ?_⟩
    by_cases z : sh (gat W.tn (sh (gat W.pt (An W [] v)))) n = 0
    · rw [z] at h
      exact .inr (h2 (by omega))
    · exact .inl (key1 z)
  by_cases hv : ∃ d w, v = d :: w ∧ d ∈ BRK
  · obtain ⟨d, w, rfl, hd⟩ := hv
    rw [pair_all hd]
    obtain ⟨p1, p2⟩ := pair_both (W := W) hx hd w n
    refine fin p1 fun h => ?_
    obtain ⟨ht, q, m, h1, h2, h3⟩ := p2 h
    exact ⟨d, w, q, m, rfl, hd, ht, h1, h2, h3⟩
  · obtain ⟨z1, z2⟩ := zero fun d w e hd => hv ⟨d, w, e, hd⟩
    rw [z1]
    refine fin (by rw [z2]; exact Nat.le_refl _) fun h => ?_
    rw [z2] at h
    exact absurd h (by omega)
theorem g1_junk {x : Nat} (hx : x ∈ BRK) {v : List Nat} {b : Nat} (h : g1o W x v b + g1p W x v b < g1 W x v b) {u : List Nat} {a : Nat} (hu : An W [] u a ≠ 0) : ∃ m, m < a + b ∧ An W [] (x :: (u ++ v)) m ≠ 0 := by
  rcases (g1_both hx v b).2 h with ⟨hp, m, rfl, hm⟩ | ⟨d, w, q, m, rfl, hd, ht, hq, rfl, hm⟩
  · refine ⟨1 + (a + m), by omega, ?_⟩
    exact An_app (u := [x]) (An_one hp hx) (An_app hu hm)
  · refine ⟨a + (few x d).1 + m, by omega, ?_⟩
    have := An_app (An_pair hx hd (.inr ht) hu) hm
    rw [show x :: (u ++ [d]) ++ w = x :: (u ++ d :: w) by simp] at this
    exact this
end
end Ly

set_option maxHeartbeats 4000000
namespace Ly
/-! ### the table's numbers are the least ones, with how many -/
theorem Ld_SPz : ∀ {r : List Nat} {f g : List Nat → Ser} {Z : Nat → MC}, (∀ t, t ≤ r.length → Ld (cv (f (r.take t)) (g (r.drop t))) (Z t)) → Ld (SP f g r) (sm Z (r.length + 1))
  | [], f, g, Z, h => h 0 (Nat.le_refl _)
  | x :: r, f, g, Z, h => by
    rw [sm_head]
    refine Ld_add (h 0 (Nat.zero_le _)) ?_
    exact Ld_SPz (f := fun u => f (x :: u)) (Z := fun k => Z (k + 1)) (fun t ht => h (t + 1) (by rw [List.length_cons]; omega))
theorem seg_take {l : List Nat} {i j t : Nat} (h : i + t ≤ j) (hj : j ≤ l.length) : (seg l i j).take t = seg l i (i + t) := by
  rw [seg_app (b := i + t) (by omega) h (by omega), List.take_left' (by rw [seg_len (by omega)]; omega)]
theorem seg_dropT {l : List Nat} {i j t : Nat} (h : i + t ≤ j) (hj : j ≤ l.length) : (seg l i j).drop t = seg l (i + t) j := by
  rw [seg_app (b := i + t) (by omega) h (by omega), List.drop_left' (by rw [seg_len (by omega)]; omega)]
theorem Ld_seg {l : List Nat} {i j : Nat} {f g : List Nat → Ser} {Z : Nat → MC} (hij : i ≤ j) (hj : j ≤ l.length) (h : ∀ t, i + t ≤ j → Ld (cv (f (seg l i (i + t))) (g (seg l (i + t) j))) (Z t)) : Ld (SP f g (seg l i j)) (sm Z (j - i + 1)) := by
  have e : (seg l i j).length = j - i := seg_len hj
  rw [← e]
  refine Ld_SPz fun t ht => ?_
  rw [e] at ht
  rw [seg_take (by omega) hj, seg_dropT (by omega) hj]
  exact h t (by omega)
theorem mMul_left (x y z : MC) : mMul x (mMul y z) = m3 y x z := by
  unfold m3
  rw [← mMul_assoc, mMul_comm x y]
theorem few_pos : ∀ x ∈ BRK, ∀ d ∈ BRK, (few x d).2 ≠ 0 := by decide
theorem Ld_mc {l : List Nat} {W : Wd} : ∀ (N i j : Nat), j - i ≤ N → i ≤ j → j ≤ l.length → Ld (An W [] (seg l i j)) (mcN l W i j) := by
  intro N
  induction N with
  | zero =>
    intro i j h1 h2 h3
    have e : i = j := by omega
    subst e
    rw [seg_self, mcN_self]
    have hz : ∀ n, g2m W [] n = 0 := fun n => rfl
    have hn : ∀ n, An W [] [] n = SP (An W []) (g2 W) [] n + (if n = 0 then 1 else 0) := fun n => by
      rw [An_nil, pA_g2]
      congr 1
      simp
    have hm : ∀ n, SP (An W []) (g2m W) [] n = 0 := fun n => cv_noneR hz n
    refine Ld_junk (g := fun n => SP (An W []) (g2m W) [] n + (if n = 0 then 1 else 0)) ?_ (fun n => ?_) (fun n hl => ?_)
    · exact ⟨by show SP (An W []) (g2m W) [] 0 + 1 = 1; rw [hm], by decide, fun a ha => absurd ha (by show ¬ a < 0; omega)⟩
    · rw [hn]
      exact Nat.add_le_add_right (SP_le (fun v b => (g2_both v b).1)) _
    · rw [hn] at hl
      obtain ⟨u, v, a, b, e1, e2, ha, hb⟩ := SP_lt (fun v b => (g2_both (W := W) v b).1) (show SP (An W []) (g2m W) [] n < SP (An W []) (g2 W) [] n by omega)
      obtain ⟨m, hm, hA⟩ := g2_junk hb ha
      rw [e1] at hA
      exact ⟨m, by omega, hA⟩
  | succ N ihN =>
    intro i j h1 h2 h3
    by_cases hij : i = j
    · exact ihN i j (by omega) h2 h3
    have ih : ∀ a b, i ≤ a → a ≤ b → b ≤ j → b - a < j - i → Ld (An W [] (seg l a b)) (mcN l W a b) := fun a b k1 k2 k3 k4 => ihN a b (by omega) k2 (by omega)
    obtain ⟨x, hx⟩ : ∃ x, l[i]? = some x := ⟨_, List.getElem?_eq_getElem (by omega)⟩
    have es : seg l i j = x :: seg l (i + 1) j := seg_cons hx (by omega) h3
    have hat : ∀ t, i + t < j → ∃ d, l[i + t]? = some d ∧ seg l (i + t) j = d :: seg l (i + t + 1) j := fun t ht => by
      have e : l[i + t]? = some l[i + t] := List.getElem?_eq_getElem (by omega)
      exact ⟨_, e, seg_cons e ht h3⟩
    -- put first, closed by the text's own
    have L2 : Ld (SP (An W []) (g2m W) (seg l i j)) (sm (fun t => m3 (clM l W (i + t)) (mcN l W i (i + t)) (mcN l W (i + t + 1) j)) (j - i)) := by
      have := Ld_seg (f := An W []) (g := g2m W) (Z := fun t => if i + t < j then m3 (clM l W (i + t)) (mcN l W i (i + t)) (mcN l W (i + t + 1) j) else none) h2 h3 (fun t ht => by
        by_cases hlt : i + t < j
        · rw [if_pos hlt]
          obtain ⟨d, hd, ed⟩ := hat t hlt
          rw [ed, ← mMul_left]
          refine Ld_cv (ih i (i + t) (Nat.le_refl _) (by omega) ht (by omega)) ?_
          have hL : Ld (g2m W (d :: seg l (i + t + 1) j)) (mMul (clM l W (i + t)) (mcN l W (i + t + 1) j)) := by
            unfold clM
            rw [hd]
            dsimp only
            by_cases hc : d ∈ CLO
            · have e1 : g2m W (d :: seg l (i + t + 1) j) = sh (gat W.pt (An W [] (seg l (i + t + 1) j))) := funext fun n => if_pos hc
              rw [e1]
              have := Ld_sh (Ld_gat (b := W.pt) (ih (i + t + 1) j (by omega) (by omega) (Nat.le_refl _) (by omega)))
              by_cases hp : W.pt = true
              · rw [if_pos hp] at this
                rw [if_pos ⟨hc, hp⟩]
                exact this
              · rw [if_neg hp, mMul_none] at this
                rw [if_neg fun q => hp q.2]
                exact this
            · have e1 : g2m W (d :: seg l (i + t + 1) j) = fun _ => 0 := funext fun n => if_neg hc
              rw [e1, if_neg fun q => hc q.1]
              exact Ld_zero
          exact hL
        · rw [if_neg hlt]
          have e : i + t = j := by omega
          rw [e, seg_self]
          exact fun n => cv_noneR (fun _ => rfl) n)
      rw [sm, if_neg (by omega), mAdd_none] at this
      rw [sm_congr (g := fun t => if i + t < j then m3 (clM l W (i + t)) (mcN l W i (i + t)) (mcN l W (i + t + 1) j) else none) fun t ht => by rw [if_pos (by omega)]]
      exact this
    have junk2 : ∀ n, SP (An W []) (g2m W) (seg l i j) n < SP (An W []) (g2 W) (seg l i j) n → ∃ m, m < n ∧ An W [] (seg l i j) m ≠ 0 := fun n hl => by
      obtain ⟨u, v, a, b, e1, e2, ha, hb⟩ := SP_lt (fun v b => (g2_both (W := W) v b).1) hl
      obtain ⟨m, hm, hA⟩ := g2_junk hb ha
      rw [e1] at hA
      exact ⟨m, by omega, hA⟩
    have le2 : ∀ n, SP (An W []) (g2m W) (seg l i j) n ≤ SP (An W []) (g2 W) (seg l i j) n := fun n => SP_le (fun v b => (g2_both v b).1)
    rw [mcN_step (by omega)]
    unfold stM
    have ihr := ih (i + 1) j (by omega) (by omega) (Nat.le_refl _) (by omega)
    by_cases hb : x ∈ BRK
    · -- a bracket
      have Lsg : Ld (sh (gat W.st (An W [] (seg l (i + 1) j)))) (mMul (sgM l W i) (mcN l W (i + 1) j)) := by
        unfold sgM
        rw [hx]
        dsimp only
        rw [if_pos hb]
        have := Ld_sh (Ld_gat (b := W.st) ihr)
        by_cases hp : W.st = true
        · rw [if_pos hp] at this
          rw [if_pos hp]
          exact this
        · rw [if_neg hp, mMul_none] at this
          rw [if_neg hp]
          exact this
      have Lop : Ld (SP (An W []) (g1o W x) (seg l (i + 1) j)) (sm (fun t => m3 (opM l W i) (mcN l W (i + 1) (i + 1 + t)) (mcN l W (i + 1 + t) j)) (j - i)) := by
        have := Ld_seg (f := An W []) (g := g1o W x) (Z := fun t => m3 (opM l W i) (mcN l W (i + 1) (i + 1 + t)) (mcN l W (i + 1 + t) j)) (show i + 1 ≤ j by omega) h3 (fun t ht => by
          rw [← mMul_left]
          refine Ld_cv (ih (i + 1) (i + 1 + t) (by omega) (by omega) ht (by omega)) ?_
          have hr := ih (i + 1 + t) j (by omega) (by omega) (Nat.le_refl _) (by omega)
          unfold opM
          rw [hx]
          dsimp only
          by_cases ho : x ∈ OPN
          · have e1 : g1o W x (seg l (i + 1 + t) j) = sh (gat W.pt (An W [] (seg l (i + 1 + t) j))) := funext fun n => if_pos ho
            rw [e1]
            have := Ld_sh (Ld_gat (b := W.pt) hr)
            by_cases hp : W.pt = true
            · rw [if_pos hp] at this
              rw [if_pos ⟨ho, hp⟩]
              exact this
            · rw [if_neg hp, mMul_none] at this
              rw [if_neg fun q => hp q.2]
              exact this
          · have e1 : g1o W x (seg l (i + 1 + t) j) = fun _ => 0 := funext fun n => if_neg ho
            rw [e1, if_neg fun q => ho q.1]
            exact Ld_zero)
        rw [show j - (i + 1) + 1 = j - i by omega] at this
        exact this
      have Lpr : Ld (SP (An W []) (g1p W x) (seg l (i + 1) j)) (sm (fun t => m3 (prM l W i (i + 1 + t)) (mcN l W (i + 1) (i + 1 + t)) (mcN l W (i + 1 + t + 1) j)) (j - i - 1)) := by
        have := Ld_seg (f := An W []) (g := g1p W x) (Z := fun t => if i + 1 + t < j then m3 (prM l W i (i + 1 + t)) (mcN l W (i + 1) (i + 1 + t)) (mcN l W (i + 1 + t + 1) j) else none) (show i + 1 ≤ j by omega) h3 (fun t ht => by
          by_cases hlt : i + 1 + t < j
          · rw [if_pos hlt]
            obtain ⟨d, hd, ed⟩ := hat (1 + t) (by omega)
            rw [show i + (1 + t) = i + 1 + t by omega] at hd ed
            rw [ed, ← mMul_left]
            refine Ld_cv (ih (i + 1) (i + 1 + t) (by omega) (by omega) ht (by omega)) ?_
            have hr := ih (i + 1 + t + 1) j (by omega) (by omega) (Nat.le_refl _) (by omega)
            unfold prM
            rw [hx, hd]
            dsimp only
            by_cases hg : d ∈ BRK ∧ ((few x d).1 = 0 ∨ W.tn = true)
            · have e1 : g1p W x (d :: seg l (i + 1 + t + 1) j) = cv (mS (few x d)) (An W [] (seg l (i + 1 + t + 1) j)) := funext fun n => if_pos hg
              rw [e1, if_pos ⟨hb, hg⟩]
              exact Ld_cv (Ld_mS (few_pos x hb d hg.1)) hr
            · have e1 : g1p W x (d :: seg l (i + 1 + t + 1) j) = fun _ => 0 := funext fun n => if_neg hg
              rw [e1, if_neg fun q => hg q.2]
              exact Ld_zero
          · rw [if_neg hlt]
            have e : i + 1 + t = j := by omega
            rw [e, seg_self]
            exact fun n => cv_noneR (fun _ => rfl) n)
        rw [sm, if_neg (by omega), mAdd_none] at this
        rw [show j - i - 1 = j - (i + 1) by omega, sm_congr (g := fun t => if i + 1 + t < j then m3 (prM l W i (i + 1 + t)) (mcN l W (i + 1) (i + 1 + t)) (mcN l W (i + 1 + t + 1) j) else none) fun t ht => by rw [if_pos (by omega)]]
        exact this
      have Lall := Ld_add Lsg (Ld_add Lpr (Ld_add Lop L2))
      refine Ld_junk Lall (fun n => ?_) (fun n hl => ?_)
      · have q1 := le2 n
        have q2 : SP (An W []) (g1o W x) (seg l (i + 1) j) n + SP (An W []) (g1p W x) (seg l (i + 1) j) n ≤ SP (An W []) (g1 W x) (seg l (i + 1) j) n := by
          rw [← SP_addR]
          exact SP_le (fun v b => (g1_both hb v b).1)
        have e : An W [] (seg l i j) n = SP (An W []) (g2 W) (seg l i j) n + (sh (gat W.st (An W [] (seg l (i + 1) j))) n + SP (An W []) (g1 W x) (seg l (i + 1) j) n) := by
          rw [es]; exact An_first hb _ n
        rw [e]
        omega
      · have e : An W [] (seg l i j) n = SP (An W []) (g2 W) (seg l i j) n + (sh (gat W.st (An W [] (seg l (i + 1) j))) n + SP (An W []) (g1 W x) (seg l (i + 1) j) n) := by
          rw [es]; exact An_first hb _ n
        rw [e] at hl
        by_cases hc : SP (An W []) (g2m W) (seg l i j) n < SP (An W []) (g2 W) (seg l i j) n
        · exact junk2 n hc
        · have q1 := le2 n
          have hl2 : SP (An W []) (fun v n => g1o W x v n + g1p W x v n) (seg l (i + 1) j) n < SP (An W []) (g1 W x) (seg l (i + 1) j) n := by
            rw [SP_addR]
            omega
          obtain ⟨u, v, a, b, e1, e2, ha, hbb⟩ := SP_lt (fun v b => (g1_both (W := W) hb v b).1) hl2
          obtain ⟨m, hm, hA⟩ := g1_junk hb hbb ha
          rw [e1, ← es] at hA
          exact ⟨m, by omega, hA⟩
    · -- a letter
      have n1 : ∀ m, prM l W i m = none := fun m => by
        unfold prM
        rw [hx]
        cases l[m]? with
        | none => rfl
        | some d => exact if_neg fun q => hb q.1
      have n2 : opM l W i = none := by
        unfold opM
        rw [hx]
        exact if_neg fun q => hb (brk_or.mpr (.inl q.1))
      have n3 : sgM l W i = mOne := by
        unfold sgM
        rw [hx]
        exact if_neg hb
      have z1 : sm (fun t => m3 (prM l W i (i + 1 + t)) (mcN l W (i + 1) (i + 1 + t)) (mcN l W (i + 1 + t + 1) j)) (j - i - 1) = none := by
        refine (sm_congr (g := fun _ => none) fun t _ => ?_).trans (sm_none _)
        rw [n1]
        rfl
      have z2 : sm (fun t => m3 (opM l W i) (mcN l W (i + 1) (i + 1 + t)) (mcN l W (i + 1 + t) j)) (j - i) = none := by
        refine (sm_congr (g := fun _ => none) fun t _ => ?_).trans (sm_none _)
        rw [n2]
        rfl
      rw [z1, z2, n3, mOne_mul, none_mAdd, none_mAdd]
      have e : ∀ n, An W [] (seg l i j) n = SP (An W []) (g2 W) (seg l i j) n + An W [] (seg l (i + 1) j) n := fun n => by
        rw [es]; exact An_firstL hb _ n
      refine Ld_junk (Ld_add ihr L2) (fun n => ?_) (fun n hl => ?_)
      · rw [e]
        have := le2 n
        omega
      · rw [e] at hl
        exact junk2 n (by omega)
theorem Ld_whole {W : Wd} (l : List Nat) : Ld (An W [] l) (mcN l W 0 l.length) := by
  have := Ld_mc (l := l) (W := W) _ 0 l.length (Nat.le_refl _) (Nat.zero_le _) (Nat.le_refl _)
  rw [seg_all] at this
  exact this
end Ly

set_option maxHeartbeats 4000000
namespace Ly
/-! ### with some brackets open: the least number from each place on -/
def clC (W : Wd) (l : List Nat) (k : Nat) (F : Nat → MC) (m : Nat) : MC := mAdd (if W.pt = true then mMul w1 (F m) else none) (match l[m]? with
  | none => none
  | some x => if x = k then F (m + 1) else if x ∈ BRK ∧ W.tn = true then mMul w1 (F (m + 1)) else none)
def LV (W : Wd) (l : List Nat) : List Nat → Nat → MC
  | [], i => mcN l W i l.length
  | k :: st, i => sm (fun t => mMul (mcN l W i (i + t)) (clC W l k (LV W l st) (i + t))) (l.length - i + 1)
/-! ### what can be done at a place, in order -/
def Stp.c : Stp → Nat
  | .kp _ => 0
  | _ => 1
/-- the pile behind a step -/
def nxS (st : List Nat) (s : Stp) : Option (List Nat) := s.o.foldl stp (some st)
/-- how many go on by a step, with just so many deeds -/
def mb (W : Wd) (l : List Nat) (st : List Nat) (i n : Nat) (s : Stp) : Nat := match nxS st s with
  | none => 0
  | some st' => match LV W l st' (i + s.i.length) with
    | none => 0
    | some p => if p.1 + s.c = n then p.2 else 0
end Ly

set_option maxHeartbeats 4000000
namespace Ly
/-! ### how many at most, how great the least number at most -/
/-! ### the row with a number -/
end Ly

set_option maxHeartbeats 4000000
namespace Ly
open PySem PySem.Spec PyProof.Rows L2 SX
/-! ### things side by side -/
end Ly

set_option maxHeartbeats 4000000
namespace Ly
/-! ### so many deeds are enough: strikes and turned pairs, by lists -/
inductive Mx : List Nat → Nat → Prop
  | nil : Mx [] 0
  | let_ {x n : Nat} {r : List Nat} : x ∉ BRK → Mx r n → Mx (x :: r) n
  | str {x n : Nat} {r : List Nat} : x ∈ BRK → Mx r n → Mx (x :: r) (n + 1)
  | pair {x d a b : Nat} {u v : List Nat} : x ∈ BRK → d ∈ BRK → Mx u a → Mx v b → Mx (x :: (u ++ d :: v)) (tns x d + a + b)
theorem Mx.app {u v : List Nat} {a b : Nat} (h : Mx u a) (h2 : Mx v b) : Mx (u ++ v) (a + b) := by
  induction h with
  | nil => rw [Nat.zero_add]; exact h2
  | let_ e _ ih => exact .let_ e ih
  | @str x n r e _ ih =>
    rw [show n + 1 + b = n + b + 1 by omega]
    exact .str e ih
  | @pair x d a b' u v e1 e2 h3 _ _ ih =>
    rw [List.cons_append, List.append_assoc, List.cons_append, Nat.add_assoc]
    exact .pair e1 e2 h3 ih
theorem Mx.one {x : Nat} (h : x ∈ BRK) : Mx [x] 1 := .str h .nil
theorem app_split {α : Type} {u v a z : List α} {d o : α} (h : u ++ d :: v = a ++ o :: z) : (∃ c, u = a ++ o :: c ∧ z = c ++ d :: v) ∨ (u = a ∧ d = o ∧ v = z) ∨ (∃ c, a = u ++ d :: c ∧ v = c ++ o :: z) := by
  rcases List.append_eq_append_iff.mp h with ⟨as, h1, h2⟩ | ⟨bs, h1, h2⟩
  · cases as with
    | nil =>
      rw [List.append_nil] at h1
      cases h2
      exact .inr (.inl ⟨h1.symm, rfl, rfl⟩)
    | cons x as =>
      cases h2
      exact .inr (.inr ⟨as, h1, rfl⟩)
  · cases bs with
    | nil =>
      rw [List.append_nil] at h1
      cases h2
      exact .inr (.inl ⟨h1, rfl, rfl⟩)
    | cons x bs =>
      cases h2
      exact .inl ⟨bs, h1, rfl⟩
theorem Mx.last {w : List Nat} {n : Nat} (h : Mx w n) : ∀ {u : List Nat} {y : Nat}, w = u ++ [y] → y ∈ BRK → (∃ m, Mx u m ∧ m + 1 ≤ n) ∨ (∃ a1 Y a2 p q, u = a1 ++ Y :: a2 ∧ Y ∈ BRK ∧ Mx a1 p ∧ Mx a2 q ∧ tns Y y + p + q ≤ n) := by
  induction h with
  | nil => intro u y e; cases u <;> cases e
  | @let_ x n r hx hr ih =>
    intro u y e hy
    cases u with
    | nil => cases e; exact absurd hy hx
    | cons z u =>
      cases e
      rcases ih rfl hy with ⟨m, h1, h2⟩ | ⟨a1, Y, a2, p, q, rfl, h2, h3, h4, h5⟩
      · exact .inl ⟨m, .let_ hx h1, h2⟩
      · exact .inr ⟨x :: a1, Y, a2, p, q, rfl, h2, .let_ hx h3, h4, h5⟩
  | @str x n r hx hr ih =>
    intro u y e hy
    cases u with
    | nil => cases e; exact .inl ⟨0, .nil, by omega⟩
    | cons z u =>
      cases e
      rcases ih rfl hy with ⟨m, h1, h2⟩ | ⟨a1, Y, a2, p, q, rfl, h2, h3, h4, h5⟩
      · exact .inl ⟨m + 1, .str hx h1, by omega⟩
      · exact .inr ⟨x :: a1, Y, a2, p + 1, q, rfl, h2, .str hx h3, h4, by omega⟩
  | @pair x d a b s v hx hd hs hv ih1 ih2 =>
    intro u y e hy
    cases u with
    | nil =>
      exfalso
      have := congrArg List.length e
      simp at this
    | cons z u =>
      rw [List.cons_append] at e
      have ex : x = z := (List.cons.inj e).1
      subst ex
      rcases app_split (List.cons.inj e).2 with ⟨c, h1, h2⟩ | ⟨h1, h2, h3⟩ | ⟨c, h1, h2⟩
      · exfalso
        cases c <;> cases h2
      · subst h1 h2 h3
        have : b = 0 := by cases hv; rfl
        subst this
        exact .inr ⟨[], x, s, 0, a, rfl, hx, .nil, hs, by omega⟩
      · subst h1
        rcases ih2 h2 hy with ⟨m, g1, g2⟩ | ⟨a1, Y, a2, p, q, rfl, g2, g3, g4, g5⟩
        · exact .inl ⟨tns x d + a + m, .pair hx hd hs g1, by omega⟩
        · exact .inr ⟨x :: (s ++ d :: a1), Y, a2, tns x d + a + p, q, by simp, g2, .pair hx hd hs g3, g4, by omega⟩
/-- the first bracket struck or made a pair -/
theorem Mx.first {x n : Nat} {r : List Nat} (h : Mx (x :: r) n) (hx : x ∈ BRK) : (∃ m, Mx r m ∧ n = m + 1) ∨ (∃ u d v p q, r = u ++ d :: v ∧ d ∈ BRK ∧ Mx u p ∧ Mx v q ∧ n = tns x d + p + q) := by
  cases h with
  | let_ h _ => exact absurd hx h
  | str _ h => exact .inl ⟨_, h, rfl⟩
  | pair _ hd h1 h2 => exact .inr ⟨_, _, _, _, _, rfl, hd, h1, h2, rfl⟩
/-! ### the least number -/
def wAll : Wd := ⟨true, true, true⟩
theorem Mx.An {W : Wd} (hs : W.st = true) (ht : W.tn = true) {l : List Nat} {n : Nat} (h : Mx l n) : An W [] l n ≠ 0 := by
  induction h with
  | nil => exact An_pos.mpr ⟨_, Row.nil⟩
  | let_ hx _ ih =>
    obtain ⟨α, ha⟩ := An_pos.mp ih
    exact An_pos.mpr ⟨_, Row.kp (not_brk hx _) ha⟩
  | str hx _ ih =>
    obtain ⟨α, ha⟩ := An_pos.mp ih
    exact An_pos.mpr ⟨_, Row.str hs hx ha⟩
  | @pair x d a b u v hx hd _ _ ih1 ih2 =>
    have := An_app (An_pair hx hd (.inr ht) ih1) ih2
    rw [few_tns x hx d hd, show x :: (u ++ [d]) ++ v = x :: (u ++ d :: v) by simp, show a + tns x d + b = tns x d + a + b by omega] at this
    exact this
/-! a clean text put in -/
end Ly

set_option maxHeartbeats 4000000
namespace Ly
/-! ### rows cut, changed at one place -/
section
variable {W : Wd} {a b : List Nat} {n : Nat}
end
/-! ### laws of the least number -/
theorem clean_one {x : Nat} (h : x ∉ BRK) : clean [x] := by
  show [x].foldl stp (some []) = some []
  rw [List.foldl_cons, not_brk h]
  rfl
/-! clean texts -/
end Ly

set_option maxHeartbeats 4000000
namespace Ly
open PySem PySem.Spec PyProof.Rows L2 SX
/-! ### lists of deeds as values -/
def DdV (H : Hp) (v : V) (d : Deed) : Prop := ∃ r, v = .ref r ∧ H r = some (.tup (ddV d))
theorem DdV.same {H H' : Hp} {v : V} {d : Deed} (h : DdV H v d) (s : Same H H') : DdV H' v d := by
  obtain ⟨r, h1, h2⟩ := h
  exact ⟨r, h1, s _ _ h2⟩
theorem DdV.but {H H' : Hp} {v : V} {d : Deed} {p : Addr} (h : DdV H v d) (b : But p H H') (hp : ∀ ys, H p ≠ some (.tup ys)) : DdV H' v d := by
  obtain ⟨r, h1, h2⟩ := h
  exact ⟨r, h1, b _ _ (fun e => hp _ (by rw [← e]; exact h2)) h2⟩
/-! ### deeds and rows -/
/-! ### all lists of deeds, one by one -/
end Ly

set_option maxHeartbeats 4000000
namespace Ly
open PySem PySem.Spec PyProof.Rows L2 SX
/-! ### no row stands twice -/
/-! ### the deeds tell the row -/
/-- two deeds alike -/
theorem dw_inj {a b : Dw} (h1 : a.w = b.w) (h2 : a.s = b.s) : a = b := by
  cases a <;> cases b <;> first | rfl | (simp [Dw.w] at h1; done) | (simp [Dw.s] at h2; rw [h2])
/-! ### which choice deeds go on by -/
end Ly

set_option maxHeartbeats 4000000
namespace Ly
open PySem PySem.Spec PyProof.Rows L2 SX
/-! ### lists of deeds: which comes first -/
/-! the choices rise -/
/-! list(..), tuple(..) by names -/
def rListOf (K : PySem.W.Frag) : List V → Hp → VK → Prop := fun xs H Q => ∃ p ys, xs = [.ref p] ∧ (SqL K H p ys ∨ SqT K H p ys) ∧ ∀ l, H l = none → Q (.ref l) (upd H l (.lst ys))
theorem call_listOf {X : Cx} : CallR X (.type "list") (rListOf X.K) := call_list_of
def rTupleOf (K : PySem.W.Frag) : List V → Hp → VK → Prop := fun xs H Q => ∃ p ys, xs = [.ref p] ∧ ((SqL K H p ys ∧ ∀ l, H l = none → Q (.ref l) (upd H l (.tup ys))) ∨ (SqT K H p ys ∧ Q (.ref p) H))
theorem call_tupleOf {X : Cx} : CallR X (.type "tuple") (rTupleOf X.K) := call_tuple_of
theorem g_listOfL {K : PySem.W.Frag} {H : Hp} {Q : VK} {p : Addr} {ys : List V} (h : H p = some (.lst ys)) (q : ∀ l H1, H l = none → Same H H1 → H1 l = some (.lst ys) → Q (.ref l) H1) : rListOf K [.ref p] H Q := ⟨p, ys, rfl, .inl (sq_of h), fun l nl => q l _ nl (Same.new nl) upd_same⟩
theorem g_listOfT {K : PySem.W.Frag} {H : Hp} {Q : VK} {p : Addr} {ys : List V} (h : H p = some (.tup ys)) (q : ∀ l H1, H l = none → Same H H1 → H1 l = some (.lst ys) → Q (.ref l) H1) : rListOf K [.ref p] H Q := ⟨p, ys, rfl, .inr (st_of h), fun l nl => q l _ nl (Same.new nl) upd_same⟩
theorem g_tupleOfL {K : PySem.W.Frag} {H : Hp} {Q : VK} {p : Addr} {ys : List V} (h : H p = some (.lst ys)) (q : ∀ l H1, H l = none → Same H H1 → H1 l = some (.tup ys) → Q (.ref l) H1) : rTupleOf K [.ref p] H Q := ⟨p, ys, rfl, .inl ⟨sq_of h, fun l nl => q l _ nl (Same.new nl) upd_same⟩⟩
/-! dicts of whole numbers, as sets -/
end Ly

set_option maxHeartbeats 4000000
namespace Ly
open PySem PySem.Spec PyProof.Rows L2 SX
section
variable {K : PySem.W.Frag} {σ : L2.St} {H : Hp} {g : TG} {tb : TS} {D : Ends} {a b : Addr} {xs ys : List V}
end
/-! ### the lists of deeds rise, one by one -/
end Ly

set_option maxHeartbeats 4000000
namespace Ly
open PySem PySem.Spec PyProof.Rows L2 SX
/-! ### how many rows: laws by words -/
def wLe (W W' : Wd) : Prop := (W.pt = true → W'.pt = true) ∧ (W.st = true → W'.st = true) ∧ (W.tn = true → W'.tn = true)
theorem wd_mono {W W' : Wd} (h : wLe W W') {s : Stp} (hs : s.wd W) : s.wd W' := by
  cases s with
  | kp c => trivial
  | st c => exact h.2.1 hs
  | tn c d => exact h.2.2 hs
  | pt d => exact h.1 hs
/-! the signs of a row renamed -/
def Stp.mp (f : Nat → Nat) : Stp → Stp
  | .kp c => .kp (f c)
  | .st c => .st (f c)
  | .tn c d => .tn (f c) (f d)
  | .pt d => .pt (f d)
/-! a row from behind -/
end Ly

set_option maxHeartbeats 4000000
namespace Ly
open PySem PySem.Spec PyProof.Rows L2 SX
/-! ### mended by few words -/
theorem row_cutO : ∀ (α : List Stp) (a b : List Nat) (z : Nat), outS α = a ++ z :: b → ∃ α1 y α2, α = α1 ++ y :: α2 ∧ outS α1 = a ∧ y.o = [z] ∧ outS α2 = b
  | [], a, b, z, h => by cases a <;> cases h
  | s :: α, a, b, z, h => by
    have h' : s.o ++ outS α = a ++ z :: b := h
    have hs : s.o = [] ∨ ∃ c, s.o = [c] := by cases s <;> first | exact .inl rfl | exact .inr ⟨_, rfl⟩
    rcases hs with hs | ⟨c, hs⟩
    · rw [hs, List.nil_append] at h'
      obtain ⟨α1, y, α2, rfl, h1, h2, h3⟩ := row_cutO α a b z h'
      exact ⟨s :: α1, y, α2, rfl, by rw [outS_cons, hs, h1]; rfl, h2, h3⟩
    · rw [hs] at h'
      cases a with
      | nil =>
        obtain ⟨h1, h2⟩ := List.cons.inj h'
        exact ⟨[], s, α, rfl, rfl, by rw [hs, h1], h2⟩
      | cons x a =>
        obtain ⟨h1, h2⟩ := List.cons.inj h'
        obtain ⟨α1, y, α2, rfl, h3, h4, h5⟩ := row_cutO α a b z h2
        exact ⟨s :: α1, y, α2, rfl, by rw [outS_cons, hs, h3, h1]; rfl, h4, h5⟩
/-- without puts, by strikes -/
def nPut (W : Wd) : Wd := ⟨false, true, W.tn⟩
structure Lss (W : Wd) (α β : List Stp) : Prop where
  ok : okS β
  wd : ∀ s ∈ β, s.wd (nPut W)
  tx : inS β = inS α
  ct : cstS β ≤ cstS α
  cl : clean (outS β)
theorem wd_ap {W : Wd} {a b : List Stp} (h1 : ∀ s ∈ a, s.wd W) (h2 : ∀ s ∈ b, s.wd W) : ∀ s ∈ a ++ b, s.wd W := fun s hs => by
  rcases List.mem_append.mp hs with hs | hs
  · exact h1 s hs
  · exact h2 s hs
theorem wd_con {W : Wd} {y : Stp} {b : List Stp} (h1 : y.wd W) (h2 : ∀ s ∈ b, s.wd W) : ∀ s ∈ y :: b, s.wd W := fun s hs => by
  rcases List.mem_cons.mp hs with rfl | hs
  · exact h1
  · exact h2 s hs
theorem nPut_wd {W : Wd} {y : Stp} (h : y.wd W) (hy : ∀ d, y ≠ .pt d) : y.wd (nPut W) := by
  cases y with
  | kp c => trivial
  | st c => rfl
  | tn c d => exact h
  | pt d => exact absurd rfl (hy d)
def Stp.ct : Stp → Nat
  | .kp _ => 0
  | _ => 1
theorem cst_cons (s : Stp) (α : List Stp) : cstS (s :: α) = s.ct + cstS α := by
  cases s with
  | kp c => show cstS α = 0 + cstS α; omega
  | st c => show cstS α + 1 = 1 + cstS α; omega
  | tn c d => show cstS α + 1 = 1 + cstS α; omega
  | pt d => show cstS α + 1 = 1 + cstS α; omega
/-- a sign that is put out is struck, or gone -/
theorem gone {W : Wd} {y : Stp} {z : Nat} (hy : y.ok) (hw : y.wd W) (ho : y.o = [z]) (hz : z ∈ BRK) : ∃ γ : List Stp, okS γ ∧ (∀ s ∈ γ, s.wd (nPut W)) ∧ inS γ = y.i ∧ outS γ = [] ∧ ((∃ d, y = .pt d) → cstS γ = 0) ∧ cstS γ ≤ 1 := by
  cases y with
  | kp c =>
    have hc : c = z := by injection ho
    exact ⟨[.st c], okS_cons.mpr ⟨show c ∈ BRK by rw [hc]; exact hz, fun s hs => (by cases hs)⟩, wd_con rfl (fun s hs => (by cases hs)), rfl, rfl, fun ⟨d, h⟩ => (by cases h), Nat.le_refl _⟩
  | st c => cases ho
  | tn c d => exact ⟨[.st c], okS_cons.mpr ⟨hy.1, fun s hs => (by cases hs)⟩, wd_con rfl (fun s hs => (by cases hs)), rfl, rfl, fun ⟨d, h⟩ => (by cases h), Nat.le_refl _⟩
  | pt d => exact ⟨[], fun s hs => (by cases hs), fun s hs => (by cases hs), rfl, rfl, fun _ => rfl, Nat.zero_le _⟩
theorem noPut {W : Wd} : ∀ (N : Nat) (α : List Stp), α.length ≤ N → okS α → (∀ s ∈ α, s.wd W) → clean (outS α) → ∃ β, Lss W α β
  | _, [], _, _, _, _ => ⟨[], ⟨fun s hs => (by cases hs), fun s hs => (by cases hs), rfl, Nat.le_refl _, clean_nil⟩⟩
  | 0, _ :: _, hl, _, _, _ => by cases hl
  | N + 1, s :: α, hl, ho, hw, hc => by
    obtain ⟨o1, o2⟩ := okS_cons.mp ho
    have w1 : s.wd W := hw s (List.mem_cons_self ..)
    have w2 : ∀ t ∈ α, t.wd W := fun t ht => hw t (List.mem_cons_of_mem _ ht)
    have hl' : α.length ≤ N := by simpa using hl
    have hs : s.o = [] ∨ ∃ c, s.o = [c] := by cases s <;> first | exact .inl rfl | exact .inr ⟨_, rfl⟩
    rw [outS_cons] at hc
    rcases hs with hs | ⟨c, hs⟩
    · rw [hs, List.nil_append] at hc
      obtain ⟨β, hβ⟩ := noPut N α hl' o2 w2 hc
      have hnp : ∀ d, s ≠ .pt d := fun d e => by rw [e] at hs; cases hs
      exact ⟨s :: β, ⟨okS_cons.mpr ⟨o1, hβ.ok⟩, wd_con (nPut_wd w1 hnp) hβ.wd, by rw [inS_cons, inS_cons, hβ.tx], by rw [cst_cons, cst_cons]; have := hβ.ct; omega, by rw [outS_cons, hs]; exact hβ.cl⟩⟩
    · rw [hs] at hc
      have hc' : clean (c :: outS α) := hc
      by_cases h1 : c ∈ OPN
      · obtain ⟨a, b, e, ha, hb⟩ := clean_opn h1 hc'
        obtain ⟨α1, y, α2, rfl, e1, e2, e3⟩ := row_cutO α a b (oth c) e
        have hlen : α1.length ≤ N ∧ α2.length ≤ N := by rw [List.length_append, List.length_cons] at hl'; omega
        have oA : okS α1 := fun t ht => o2 t (List.mem_append_left _ ht)
        have oY : y.ok := o2 y (List.mem_append_right _ (List.mem_cons_self ..))
        have oB : okS α2 := fun t ht => o2 t (List.mem_append_right _ (List.mem_cons_of_mem _ ht))
        have wA : ∀ t ∈ α1, t.wd W := fun t ht => w2 t (List.mem_append_left _ ht)
        have wY : y.wd W := w2 y (List.mem_append_right _ (List.mem_cons_self ..))
        have wB : ∀ t ∈ α2, t.wd W := fun t ht => w2 t (List.mem_append_right _ (List.mem_cons_of_mem _ ht))
        obtain ⟨β1, k1⟩ := noPut N α1 hlen.1 oA wA (by rw [e1]; exact ha)
        obtain ⟨β2, k2⟩ := noPut N α2 hlen.2 oB wB (by rw [e3]; exact hb)
        have kc1 := k1.ct
        have kc2 := k2.ct
        by_cases hsp : (∃ d, s = .pt d) ∨ (∃ d, y = .pt d)
        · obtain ⟨γ, g1, g2, g3, g4, g5, g6⟩ := gone o1 w1 hs (brk_or.mpr (.inl h1))
          obtain ⟨δ, d1, d2, d3, d4, d5, d6⟩ := gone oY wY e2 (brk_or.mpr (.inr (oth_clo c h1)))
          refine ⟨γ ++ (β1 ++ (δ ++ β2)), ⟨okS_app g1 (okS_app k1.ok (okS_app d1 k2.ok)), wd_ap g2 (wd_ap k1.wd (wd_ap d2 k2.wd)), ?_, ?_, ?_⟩⟩
          · rw [inS_app, inS_app, inS_app, g3, k1.tx, d3, k2.tx, inS_cons, inS_app, inS_cons]
          · rw [cstS_app, cstS_app, cstS_app, cst_cons, cstS_app, cst_cons]
            have hs1 : (∃ d, s = .pt d) → s.ct = 1 := fun ⟨d, h⟩ => by rw [h]; rfl
            have hy1 : (∃ d, y = .pt d) → y.ct = 1 := fun ⟨d, h⟩ => by rw [h]; rfl
            rcases hsp with hp | hp
            · have := g5 hp
              have := hs1 hp
              omega
            · have := d5 hp
              have := hy1 hp
              omega
          · rw [outS_app, outS_app, outS_app, g4, d4]
            exact clean_app clean_nil (clean_app k1.cl (clean_app clean_nil k2.cl))
        · have n1 : ∀ d, s ≠ .pt d := fun d e => hsp (.inl ⟨d, e⟩)
          have n2 : ∀ d, y ≠ .pt d := fun d e => hsp (.inr ⟨d, e⟩)
          refine ⟨s :: (β1 ++ y :: β2), ⟨okS_cons.mpr ⟨o1, okS_app k1.ok (okS_cons.mpr ⟨oY, k2.ok⟩)⟩, wd_con (nPut_wd w1 n1) (wd_ap k1.wd (wd_con (nPut_wd wY n2) k2.wd)), ?_, ?_, ?_⟩⟩
          · rw [inS_cons, inS_app, inS_cons, k1.tx, k2.tx, inS_cons, inS_app, inS_cons]
          · rw [cst_cons, cstS_app, cst_cons, cst_cons, cstS_app, cst_cons]
            omega
          · rw [outS_cons, outS_app, outS_cons, hs, e2]
            have hh := clean_app (clean_pair h1 k1.cl) k2.cl
            rw [show [c] ++ (outS β1 ++ ([oth c] ++ outS β2)) = c :: (outS β1 ++ [oth c]) ++ outS β2 by simp]
            exact hh
      · have h2 : c ∉ CLO := fun h2 => clean_clo h2 hc'
        have h3 := (clean_let h1 h2).mp hc'
        obtain ⟨β, hβ⟩ := noPut N α hl' o2 w2 h3
        have hnp : ∀ d, s ≠ .pt d := fun d e => by
          rw [e] at hs o1
          have hd : d = c := by injection hs
          rcases brk_or.mp (show d ∈ BRK from o1) with h | h
          · exact h1 (hd ▸ h)
          · exact h2 (hd ▸ h)
        exact ⟨s :: β, ⟨okS_cons.mpr ⟨o1, hβ.ok⟩, wd_con (nPut_wd w1 hnp) hβ.wd, by rw [inS_cons, inS_cons, hβ.tx], by rw [cst_cons, cst_cons]; have := hβ.ct; omega, by rw [outS_cons, hs]; exact (clean_let h1 h2).mpr hβ.cl⟩⟩
/-! puts for strikes -/
def Stp.nst : Stp → List Stp
  | .st c => if c ∈ OPN then [.kp c, .pt (oth c)] else [.pt (oth c), .kp c]
  | s => [s]
theorem nst_in (s : Stp) : inS s.nst = s.i := by
  cases s with
  | st c => show inS (if c ∈ OPN then [.kp c, .pt (oth c)] else [.pt (oth c), .kp c]) = [c]; split <;> rfl
  | kp c => rfl
  | tn c d => rfl
  | pt d => rfl
theorem nst_ct (s : Stp) : cstS s.nst = s.ct := by
  cases s with
  | st c => show cstS (if c ∈ OPN then [.kp c, .pt (oth c)] else [.pt (oth c), .kp c]) = 1; split <;> rfl
  | kp c => rfl
  | tn c d => rfl
  | pt d => rfl
theorem nst_ok {s : Stp} (h : s.ok) : okS s.nst := by
  cases s with
  | st c =>
    show okS (if c ∈ OPN then [.kp c, .pt (oth c)] else [.pt (oth c), .kp c])
    have hb : oth c ∈ BRK := oth_brk c h
    split
    · exact okS_cons.mpr ⟨trivial, okS_cons.mpr ⟨hb, fun s hs => (by cases hs)⟩⟩
    · exact okS_cons.mpr ⟨hb, okS_cons.mpr ⟨trivial, fun s hs => (by cases hs)⟩⟩
  | kp c => exact okS_cons.mpr ⟨h, fun s hs => (by cases hs)⟩
  | tn c d => exact okS_cons.mpr ⟨h, fun s hs => (by cases hs)⟩
  | pt d => exact okS_cons.mpr ⟨h, fun s hs => (by cases hs)⟩
theorem nst_wd {W : Wd} {s : Stp} (h : s.wd W) : ∀ t ∈ s.nst, t.wd ⟨true, false, W.tn⟩ := by
  cases s with
  | st c =>
    show ∀ t ∈ (if c ∈ OPN then [Stp.kp c, Stp.pt (oth c)] else [Stp.pt (oth c), Stp.kp c] : List Stp), Stp.wd ⟨true, false, W.tn⟩ t
    split
    · exact wd_con trivial (wd_con rfl fun s hs => (by cases hs))
    · exact wd_con rfl (wd_con trivial fun s hs => (by cases hs))
  | kp c => exact wd_con trivial fun s hs => (by cases hs)
  | tn c d => exact wd_con h fun s hs => (by cases hs)
  | pt d => exact wd_con rfl fun s hs => (by cases hs)
theorem nst_fo {s : Stp} (h : s.ok) (o : Option (List Nat)) : (outS s.nst).foldl stp o = s.o.foldl stp o := by
  cases s with
  | st c =>
    show (outS (if c ∈ OPN then [.kp c, .pt (oth c)] else [.pt (oth c), .kp c])).foldl stp o = o
    cases o with
    | none => split <;> rfl
    | some st =>
      split
      · rename_i h1
        show stp (stp (some st) c) (oth c) = some st
        rw [stp_opn h1, stp_clo (oth_clo c h1)]
      · rename_i h1
        have h2 : c ∈ CLO := (brk_or.mp (show c ∈ BRK from h)).resolve_left h1
        show stp (stp (some st) (oth c)) c = some st
        rw [stp_opn (oth_opn c h2), oth_oth c h, stp_clo h2]
  | kp c => rfl
  | tn c d => rfl
  | pt d => rfl
/-! struck and put for turned -/
/-! only turned -/
/-! ### the seven sets of words -/
theorem mc_row {W : Wd} {l : List Nat} {p : Nat × Nat} (h : mcN l W 0 l.length = some p) : ∃ α, Row W [] l p.1 α := by
  have h1 := Ld_whole (W := W) l
  rw [h] at h1
  exact An_pos.mp (by rw [h1.1]; exact h1.2.1)
theorem row_mc {W : Wd} {l : List Nat} {n : Nat} {α : List Stp} (h : Row W [] l n α) : ∃ p, mcN l W 0 l.length = some p ∧ p.1 ≤ n ∧ p.2 ≠ 0 := by
  have h1 := Ld_whole (W := W) l
  have h2 : An W [] l n ≠ 0 := An_pos.mpr ⟨α, h⟩
  cases hm : mcN l W 0 l.length with
  | none => rw [hm] at h1; exact absurd (h1 n) h2
  | some p =>
    rw [hm] at h1
    exact ⟨p, rfl, Nat.le_of_not_lt fun hlt => h2 (h1.2.2 n hlt), h1.2.1⟩
end Ly

set_option maxHeartbeats 4000000
namespace Ly
open PySem PySem.Spec PyProof.Rows L2 SX
/-! ### calls without arguments; a method within a comprehension -/
section
variable {X : Cx} {k j : Nat} {x : Str} {sp : Sp} {p pos : Pos}
end
section
variable {X : Cx} {K : PySem.W.Frag} {T id : String} {name : Str} {o e : Expr} {es : List Expr} {to : TE} {t : TA} {apos cpos : Pos} {r : V → List V → Hp → VK → Prop}
end
end Ly

set_option maxHeartbeats 4000000
namespace Ly
open PySem PySem.Spec PyProof.Rows L2 SX
/-! ### least numbers by words -/
inductive Mw (W : Wd) : List Nat → Nat → Prop
  | nil : Mw W [] 0
  | let_ {x n : Nat} {r : List Nat} : x ∉ BRK → Mw W r n → Mw W (x :: r) n
  | str {x n : Nat} {r : List Nat} : x ∈ BRK → W.pt = true ∨ W.st = true → Mw W r n → Mw W (x :: r) (n + 1)
  | pair {x d a b : Nat} {u v : List Nat} : x ∈ BRK → d ∈ BRK → tns x d = 0 ∨ W.tn = true → Mw W u a → Mw W v b → Mw W (x :: (u ++ d :: v)) (tns x d + a + b)
theorem tns_oo : ∀ x ∈ OPN, ∀ d ∈ OPN, tns x d = 1 := by decide
theorem tns_oc : ∀ x ∈ OPN, ∀ d ∈ CLO, tns x d = if d = oth x then 0 else 1 := by decide
theorem tns_cc : ∀ x ∈ CLO, ∀ d ∈ CLO, tns x d = 1 := by decide
theorem tns_co : ∀ x ∈ CLO, ∀ d ∈ OPN, tns x d = 2 := by decide
theorem oth_ne : ∀ x ∈ CLO, ∀ d ∈ CLO, oth d ≠ x := by decide
theorem oth_ne2 : ∀ x ∈ OPN, ∀ d ∈ OPN, oth x ≠ d := by decide
/-- the two steps of a pair -/
theorem pair_steps {W : Wd} {x d : Nat} (hx : x ∈ BRK) (hd : d ∈ BRK) (ht : tns x d = 0 ∨ W.tn = true) : ∃ (o : Nat) (y z : Stp), o ∈ OPN ∧ y.ok ∧ z.ok ∧ y.wd W ∧ z.wd W ∧ y.i = [x] ∧ z.i = [d] ∧ y.o = [o] ∧ z.o = [oth o] ∧ y.ct + z.ct = tns x d := by
  rcases brk_or.mp hx with h1 | h1
  · rcases brk_or.mp hd with h2 | h2
    · have e := tns_oo x h1 d h2
      have t : W.tn = true := by rcases ht with h | h; · omega
                                 · exact h
      exact ⟨x, .kp x, .tn d (oth x), h1, trivial, ⟨hd, oth_brk x hx, oth_ne2 x h1 d h2⟩, trivial, t, rfl, rfl, rfl, rfl, e.symm⟩
    · have e := tns_oc x h1 d h2
      by_cases hdo : d = oth x
      · rw [if_pos hdo] at e
        exact ⟨x, .kp x, .kp d, h1, trivial, trivial, trivial, trivial, rfl, rfl, rfl, by rw [hdo]; rfl, e.symm⟩
      · rw [if_neg hdo] at e
        have t : W.tn = true := by rcases ht with h | h; · omega
                                   · exact h
        exact ⟨x, .kp x, .tn d (oth x), h1, trivial, ⟨hd, oth_brk x hx, fun h => hdo h.symm⟩, trivial, t, rfl, rfl, rfl, rfl, e.symm⟩
  · rcases brk_or.mp hd with h2 | h2
    · have e := tns_co x h1 d h2
      have t : W.tn = true := by rcases ht with h | h; · omega
                                 · exact h
      exact ⟨40, .tn x 40, .tn d 41, by decide, ⟨hx, by decide, fun h => opn_clo 40 (by decide) (h ▸ h1)⟩, ⟨hd, by decide, fun h => opn_clo d h2 (h ▸ (by decide : (41 : Nat) ∈ CLO))⟩, t, t, rfl, rfl, rfl, rfl, e.symm⟩
    · have e := tns_cc x h1 d h2
      have t : W.tn = true := by rcases ht with h | h; · omega
                                 · exact h
      exact ⟨oth d, .tn x (oth d), .kp d, oth_opn d h2, ⟨hx, oth_brk d hd, oth_ne x h1 d h2⟩, trivial, t, trivial, rfl, rfl, rfl, by rw [oth_oth d hd]; rfl, e.symm⟩
theorem Mw.row {W : Wd} {l : List Nat} {n : Nat} (h : Mw W l n) : ∃ α, Row W [] l n α := by
  induction h with
  | nil => exact ⟨[], fun s hs => (by cases hs), fun s hs => (by cases hs), rfl, rfl, rfl⟩
  | @let_ x n r hx _ ih =>
    obtain ⟨α, h⟩ := ih
    exact ⟨.kp x :: α, ⟨okS_cons.mpr ⟨trivial, h.ok⟩, wd_con trivial h.wd, by rw [inS_cons, h.tx]; rfl, h.ct, (clean_let (fun h1 => hx (brk_or.mpr (.inl h1))) (fun h1 => hx (brk_or.mpr (.inr h1)))).mpr h.fo⟩⟩
  | @str x n r hx hW _ ih =>
    obtain ⟨α, h⟩ := ih
    by_cases hs : W.st = true
    · exact ⟨.st x :: α, ⟨okS_cons.mpr ⟨hx, h.ok⟩, wd_con hs h.wd, by rw [inS_cons, h.tx]; rfl, by rw [cst_cons, h.ct]; show 1 + n = n + 1; omega, h.fo⟩⟩
    · have hp : W.pt = true := hW.resolve_right hs
      have hwd : ∀ t ∈ (Stp.st x).nst, t.wd W := fun t ht => wd_mono (W := ⟨true, false, false⟩) ⟨fun _ => hp, fun q => (by cases q), fun q => (by cases q)⟩ (nst_wd (W := ⟨true, true, false⟩) (s := .st x) rfl t ht)
      refine ⟨(Stp.st x).nst ++ α, ⟨okS_app (nst_ok (s := .st x) hx) h.ok, wd_ap hwd h.wd, by rw [inS_app, nst_in, h.tx]; rfl, by rw [cstS_app, nst_ct, h.ct]; show 1 + n = n + 1; omega, ?_⟩⟩
      rw [outS_app, List.foldl_append, nst_fo (s := .st x) hx]
      exact h.fo
  | @pair x d a b u v hx hd ht _ _ ih1 ih2 =>
    obtain ⟨α, h1⟩ := ih1
    obtain ⟨β, h2⟩ := ih2
    obtain ⟨o, y, z, k1, k2, k3, k4, k5, k6, k7, k8, k9, k10⟩ := pair_steps (W := W) hx hd ht
    refine ⟨y :: (α ++ z :: β), ⟨okS_cons.mpr ⟨k2, okS_app h1.ok (okS_cons.mpr ⟨k3, h2.ok⟩)⟩, wd_con k4 (wd_ap h1.wd (wd_con k5 h2.wd)), by rw [inS_cons, inS_app, inS_cons, h1.tx, h2.tx, k6, k7]; simp, by rw [cst_cons, cstS_app, cst_cons, h1.ct, h2.ct]; omega, ?_⟩⟩
    rw [outS_cons, outS_app, outS_cons, k8, k9]
    have hh := clean_app (clean_pair k1 h1.fo) h2.fo
    rw [show [o] ++ (outS α ++ ([oth o] ++ outS β)) = o :: (outS α ++ [oth o]) ++ outS β by simp]
    exact hh
theorem tns_le {o x d : Nat} {y z : Stp} (ho : o ∈ OPN) (hy : y.ok) (hz : z.ok) (y1 : y.i = [x]) (z1 : z.i = [d]) (y2 : y.o = [o]) (z2 : z.o = [oth o]) : x ∈ BRK ∧ d ∈ BRK ∧ tns x d ≤ y.ct + z.ct ∧ ((∃ a b, y = .tn a b) ∨ (∃ a b, z = .tn a b) ∨ tns x d = 0) := by
  have t0 : ∀ o ∈ OPN, tns o (oth o) = 0 := by decide
  have t1 : ∀ o ∈ OPN, ∀ d ∈ BRK, tns o d ≤ 1 := by decide
  have t2 : ∀ o ∈ OPN, ∀ x ∈ BRK, tns x (oth o) ≤ 1 := by decide
  have t3 : ∀ x ∈ BRK, ∀ d ∈ BRK, tns x d ≤ 2 := by decide
  have hob : o ∈ BRK := brk_or.mpr (.inl ho)
  have hoc : oth o ∈ BRK := oth_brk o hob
  cases y with
  | pt c => cases y1
  | st c => cases y2
  | kp c =>
    injection y1 with y1 _
    injection y2 with y2 _
    cases z with
    | pt c => cases z1
    | st c => cases z2
    | kp c' =>
      injection z1 with z1 _
      injection z2 with z2 _
      subst y1 y2 z1
      subst z2
      exact ⟨hob, hoc, by rw [t0 _ ho]; exact Nat.zero_le _, .inr (.inr (t0 _ ho))⟩
    | tn c' e' =>
      injection z1 with z1 _
      subst y1 y2 z1
      exact ⟨hob, hz.1, t1 _ ho _ hz.1, .inr (.inl ⟨_, _, rfl⟩)⟩
  | tn c e =>
    injection y1 with y1 _
    cases z with
    | pt c => cases z1
    | st c => cases z2
    | kp c' =>
      injection z1 with z1 _
      injection z2 with z2 _
      subst y1 z1
      subst z2
      exact ⟨hy.1, hoc, t2 _ ho _ hy.1, .inl ⟨_, _, rfl⟩⟩
    | tn c' e' =>
      injection z1 with z1 _
      subst y1 z1
      exact ⟨hy.1, hz.1, t3 _ hy.1 _ hz.1, .inl ⟨_, _, rfl⟩⟩
theorem row_Mw {W : Wd} : ∀ (N : Nat) (α : List Stp), α.length ≤ N → okS α → (∀ s ∈ α, (∀ d, s ≠ .pt d) ∧ ((∃ c, s = .st c) → W.pt = true ∨ W.st = true) ∧ ((∃ a b, s = .tn a b) → W.tn = true)) → clean (outS α) → ∃ m, m ≤ cstS α ∧ Mw W (inS α) m
  | _, [], _, _, _, _ => ⟨0, Nat.le_refl _, .nil⟩
  | 0, _ :: _, hl, _, _, _ => by cases hl
  | N + 1, s :: α, hl, ho, hw, hc => by
    obtain ⟨o1, o2⟩ := okS_cons.mp ho
    have w1 := hw s (List.mem_cons_self ..)
    have w2 := fun t ht => hw t (List.mem_cons_of_mem _ ht)
    have hl' : α.length ≤ N := by simpa using hl
    rw [outS_cons] at hc
    have hio : (∃ c, s = .st c) ∨ ∃ c x, s.o = [c] ∧ s.i = [x] := by
      cases s with
      | kp c => exact .inr ⟨_, _, rfl, rfl⟩
      | st c => exact .inl ⟨c, rfl⟩
      | tn c d => exact .inr ⟨_, _, rfl, rfl⟩
      | pt d => exact absurd rfl (w1.1 d)
    rcases hio with ⟨c, rfl⟩ | ⟨c, x, hs, hx⟩
    · obtain ⟨m, h1, h2⟩ := row_Mw N α hl' o2 w2 hc
      exact ⟨m + 1, by rw [cst_cons]; show m + 1 ≤ 1 + cstS α; omega, .str o1 (w1.2.1 ⟨c, rfl⟩) h2⟩
    · rw [hs] at hc
      have hc' : clean (c :: outS α) := hc
      by_cases h1 : c ∈ OPN
      · obtain ⟨a, b, e, ha, hb⟩ := clean_opn h1 hc'
        obtain ⟨α1, y, α2, rfl, e1, e2, e3⟩ := row_cutO α a b (oth c) e
        have hlen : α1.length ≤ N ∧ α2.length ≤ N := by rw [List.length_append, List.length_cons] at hl'; omega
        have wY := w2 y (List.mem_append_right _ (List.mem_cons_self ..))
        have oY : y.ok := o2 y (List.mem_append_right _ (List.mem_cons_self ..))
        obtain ⟨m1, k1, k2⟩ := row_Mw N α1 hlen.1 (fun t ht => o2 t (List.mem_append_left _ ht)) (fun t ht => w2 t (List.mem_append_left _ ht)) (by rw [e1]; exact ha)
        obtain ⟨m2, k3, k4⟩ := row_Mw N α2 hlen.2 (fun t ht => o2 t (List.mem_append_right _ (List.mem_cons_of_mem _ ht))) (fun t ht => w2 t (List.mem_append_right _ (List.mem_cons_of_mem _ ht))) (by rw [e3]; exact hb)
        obtain ⟨d, hd⟩ : ∃ d, y.i = [d] := by
          cases y with
          | kp c => exact ⟨_, rfl⟩
          | st c => exact ⟨_, rfl⟩
          | tn c d => exact ⟨_, rfl⟩
          | pt d => exact absurd rfl (wY.1 d)
        obtain ⟨b1, b2, b3, b4⟩ := tns_le h1 o1 oY hx hd hs e2
        have ht : tns x d = 0 ∨ W.tn = true := by
          rcases b4 with h | h | h
          · exact .inr (w1.2.2 h)
          · exact .inr (wY.2.2 h)
          · exact .inl h
        refine ⟨tns x d + m1 + m2, ?_, ?_⟩
        · rw [cst_cons, cstS_app, cst_cons]
          omega
        · have := Mw.pair b1 b2 ht k2 k4
          rw [inS_cons, inS_app, inS_cons, hx, hd]
          simpa using this
      · have h2 : c ∉ CLO := fun h2 => clean_clo h2 hc'
        have h3 := (clean_let h1 h2).mp hc'
        have hcb : c ∉ BRK := fun h => (brk_or.mp h).elim h1 h2
        obtain ⟨m, k1, k2⟩ := row_Mw N α hl' o2 w2 h3
        cases s with
        | kp e =>
          injection hs with hs _
          subst hs
          exact ⟨m, k1, .let_ hcb k2⟩
        | st e => cases hs
        | tn e f =>
          injection hs with hs _
          subst hs
          exact absurd o1.2.1 hcb
        | pt f => exact absurd rfl (w1.1 f)
/-- the cost of mcN is the least of Mw -/
theorem mc_Mw {W : Wd} {l : List Nat} {p : Nat × Nat} (h : mcN l W 0 l.length = some p) : Mw W l p.1 ∧ ∀ n, Mw W l n → p.1 ≤ n := by
  have key : ∀ n, Mw W l n → p.1 ≤ n := fun n hn => by
    obtain ⟨α, hα⟩ := hn.row
    obtain ⟨p', h1, h2, _⟩ := row_mc hα
    rw [h] at h1
    have := Option.some.inj h1
    subst this
    exact h2
  refine ⟨?_, key⟩
  obtain ⟨α, hα⟩ := mc_row h
  have fin : ∃ m, m ≤ p.1 ∧ Mw W l m := by
    by_cases hp : W.pt = true
    · obtain ⟨β, hβ⟩ := noPut (W := W) α.length α (Nat.le_refl _) hα.ok hα.wd hα.fo
      obtain ⟨m, h1, h2⟩ := row_Mw (W := W) β.length β (Nat.le_refl _) hβ.ok (fun s hs => ⟨fun d e => (nomatch (show Stp.wd (nPut W) (.pt d) from e ▸ hβ.wd s hs)), fun _ => .inl hp, fun ⟨a, b, e⟩ => (show Stp.wd (nPut W) (.tn a b) from e ▸ hβ.wd s hs)⟩) hβ.cl
      rw [hβ.tx, hα.tx] at h2
      exact ⟨m, Nat.le_trans h1 (Nat.le_trans hβ.ct (Nat.le_of_eq hα.ct)), h2⟩
    · obtain ⟨m, h1, h2⟩ := row_Mw (W := W) α.length α (Nat.le_refl _) hα.ok (fun s hs => ⟨fun d e => hp (show Stp.wd W (.pt d) from e ▸ hα.wd s hs), fun ⟨c, e⟩ => .inr (show Stp.wd W (.st c) from e ▸ hα.wd s hs), fun ⟨a, b, e⟩ => (show Stp.wd W (.tn a b) from e ▸ hα.wd s hs)⟩) hα.fo
      rw [hα.tx] at h2
      exact ⟨m, Nat.le_trans h1 (Nat.le_of_eq hα.ct), h2⟩
  obtain ⟨m, h1, h2⟩ := fin
  have := key m h2
  have e : m = p.1 := by omega
  rw [← e]
  exact h2
theorem mc_Mw0 {W : Wd} {l : List Nat} (h : mcN l W 0 l.length = none) (n : Nat) : ¬ Mw W l n := fun hn => by
  obtain ⟨α, hα⟩ := hn.row
  obtain ⟨p', h1, _⟩ := row_mc hα
  rw [h] at h1
  cases h1
theorem Mw.le {W : Wd} (hW : W.pt = true ∨ W.st = true) : ∀ l : List Nat, ∃ n, n ≤ l.length ∧ Mw W l n
  | [] => ⟨0, Nat.le_refl _, .nil⟩
  | x :: l => by
    obtain ⟨n, h1, h2⟩ := Mw.le hW l
    by_cases hx : x ∈ BRK
    · exact ⟨n + 1, by rw [List.length_cons]; omega, .str hx hW h2⟩
    · exact ⟨n, by rw [List.length_cons]; omega, .let_ hx h2⟩
end Ly

set_option maxHeartbeats 4000000
namespace Ly
open PySem PySem.Spec PyProof.Rows L2 SX
/-! ### dict(list of pairs) with tuples for keys -/
section
variable {X : Cx}
end
/-! ### dicts of texts -/
def rDNewK (H : Hp) (Q : VK) : Prop := ∀ p, H p = none → Q (.ref p) (upd H p (.dK []))
theorem tDNewK_eq {σ : L2.St} {H : Hp} {Q : VK} : tDNewK σ H Q = rDNewK H Q := rfl
def DKt (H : Hp) (a : Addr) (f : Key → Option V) (n : Nat) : Prop := ∃ kvs : List (Key × V), H a = some (.dK kvs) ∧ kvs.length ≤ n ∧ ∀ k, valV kvs k = f k
section
variable {H H1 : Hp} {a p : Addr} {Q : VK} {v : V} {k : Key} {n : Nat} {R : Hp → Prop}
theorem DKt.same {f : Key → Option V} (h : DKt H a f n) (s : Same H H1) : DKt H1 a f n := by
  obtain ⟨kvs, h1, h2, h3⟩ := h
  exact ⟨kvs, s _ _ h1, h2, h3⟩
theorem DKt.but {f : Key → Option V} (h : DKt H a f n) (s : But p H H1) (hn : a ≠ p) : DKt H1 a f n := by
  obtain ⟨kvs, h1, h2, h3⟩ := h
  exact ⟨kvs, s _ _ hn h1, h2, h3⟩
theorem DKt.ne {f : Key → Option V} (h : DKt H a f n) (hb : H p = none) : a ≠ p := by
  obtain ⟨kvs, h1, h2, h3⟩ := h
  rintro rfl
  rw [h1] at hb
  cases hb
theorem DKt.get {f : Key → Option V} (h : DKt H a f n) (k : Key) : DGet H a (kV k) (f k) := by
  obtain ⟨kvs, h1, h2, h3⟩ := h
  rw [← h3]
  exact DGet.k h1
end
/-! dict([((i, i), x) for i in range(n)]) -/
/-! ### the words, told -/
def wdV (W : Wd) : List V := (if W.pt then [Tx [112, 117, 116]] else []) ++ (if W.st then [Tx [115, 116, 114, 105, 107, 101]] else []) ++ (if W.tn then [Tx [116, 117, 114, 110]] else [])
def WdT (H : Hp) (v : V) (W : Wd) : Prop := ∃ a, v = .ref a ∧ H a = some (.tup (wdV W))
theorem WdT.same {H H' : Hp} {v : V} {W : Wd} (h : WdT H v W) (s : Same H H') : WdT H' v W := by
  obtain ⟨a, h1, h2⟩ := h
  exact ⟨a, h1, s _ _ h2⟩
theorem WdT.but {H H' : Hp} {v : V} {W : Wd} {p : Addr} {ys : List V} (h : WdT H v W) (s : But p H H') (hp : H p = some (.lst ys)) : WdT H' v W := by
  obtain ⟨a, h1, h2⟩ := h
  exact ⟨a, h1, s _ _ (fun e => by rw [e, hp] at h2; cases h2) h2⟩
theorem WdT.is {K : PySem.W.Frag} {H : Hp} {v : V} {W : Wd} (h : WdT H v W) : WdIs K H v W := by
  obtain ⟨a, h1, h2⟩ := h
  refine ⟨a, _, h1, st_of h2, ?_⟩
  obtain ⟨x, y, z⟩ := W
  cases x <;> cases y <;> cases z <;> exact ⟨by decide +kernel, by decide +kernel, by decide +kernel, by decide +kernel⟩
/-! ### the law's own table of least numbers by words -/
def Vl (W : Wd) (t : List Nat) (v : Int) : Prop := 0 ≤ v ∧ (∀ n : Nat, Mw W t n → v ≤ n) ∧ (v < 1000 → ∃ n : Nat, v = n ∧ Mw W t n)
theorem Mw.len {W : Wd} {l : List Nat} {n : Nat} (h : Mw W l n) : n ≤ l.length := by
  have t3 : ∀ x ∈ BRK, ∀ d ∈ BRK, tns x d ≤ 2 := by decide
  induction h with
  | nil => exact Nat.le_refl _
  | let_ _ _ ih => rw [List.length_cons]; omega
  | str _ _ _ ih => rw [List.length_cons]; omega
  | @pair x d a b u v hx hd ht _ _ i1 i2 =>
    have := t3 x hx d hd
    rw [List.length_cons, List.length_append, List.length_cons]
    omega
theorem Vl.nil {W : Wd} : Vl W [] 0 := ⟨Int.le_refl _, fun n _ => Int.natCast_nonneg n, fun _ => ⟨0, rfl, .nil⟩⟩
theorem Vl.mc {W : Wd} {l : List Nat} {v : Int} (h : Vl W l v) (hl : l.length < 1000) : (v ≥ 1000 → mcN l W 0 l.length = none) ∧ (v < 1000 → ∃ p, mcN l W 0 l.length = some p ∧ v = p.1) := by
  obtain ⟨h0, h1, h2⟩ := h
  constructor
  · intro hv
    cases hm : mcN l W 0 l.length with
    | none => rfl
    | some p =>
      have k1 := (mc_Mw hm).1
      have k2 := h1 _ k1
      have k3 := k1.len
      omega
  · intro hv
    obtain ⟨n, e1, e2⟩ := h2 hv
    cases hm : mcN l W 0 l.length with
    | none => exact absurd e2 (mc_Mw0 hm n)
    | some p =>
      obtain ⟨k1, k2⟩ := mc_Mw hm
      have k3 := k2 n e2
      have k4 := h1 _ k1
      exact ⟨p, rfl, by omega⟩
theorem Vl.let_ {W : Wd} {x : Nat} {r : List Nat} {v : Int} (hx : x ∉ BRK) (h : Vl W r v) : Vl W (x :: r) v := by
  obtain ⟨h0, h1, h2⟩ := h
  refine ⟨h0, fun n hn => ?_, fun hv => ?_⟩
  · cases hn with
    | let_ _ hr => exact h1 _ hr
    | str hb _ _ => exact absurd hb hx
    | pair hb _ _ _ _ => exact absurd hb hx
  · obtain ⟨n, e1, e2⟩ := h2 hv
    exact ⟨n, e1, .let_ hx e2⟩
/-- a list of numbers that first steps lead to, looked at below m -/
structure Vs (W : Wd) (x : Nat) (r : List Nat) (m : Nat) (ns : List Int) : Prop where
  ne : ns ≠ []
  sound : ∀ v ∈ ns, 0 ≤ v ∧ (v < 1000 → ∃ n : Nat, v = n ∧ Mw W (x :: r) n)
  str : W.pt = true ∨ W.st = true → ∀ n : Nat, Mw W r n → ∃ v ∈ ns, v ≤ n + 1
  pair : ∀ (d a b : Nat) (u w : List Nat), r = u ++ d :: w → u.length < m → d ∈ BRK → tns x d = 0 ∨ W.tn = true → Mw W u a → Mw W w b → ∃ v ∈ ns, v ≤ ((tns x d + a + b : Nat) : Int)
theorem Vs.skip {W : Wd} {x : Nat} {r : List Nat} {m : Nat} {ns : List Int} {d : Nat} (h : Vs W x r m ns) (hd : r[m]? = some d) (hn : ¬ (d ∈ BRK ∧ (tns x d = 0 ∨ W.tn = true))) : Vs W x r (m + 1) ns := by
  refine ⟨h.ne, h.sound, h.str, fun d' a b u w e hu hd' ht ha hb => ?_⟩
  by_cases hm : u.length < m
  · exact h.pair d' a b u w e hm hd' ht ha hb
  · have : u.length = m := by omega
    have e2 : r[m]? = some d' := by rw [e, ← this]; simp
    rw [hd] at e2
    injection e2 with e2
    subst e2
    exact absurd ⟨hd', ht⟩ hn
theorem Vs.step {W : Wd} {x : Nat} {r : List Nat} {m : Nat} {ns : List Int} {d : Nat} {v1 v2 : Int} (h : Vs W x r m ns) (hx : x ∈ BRK) (hd : r[m]? = some d) (hdb : d ∈ BRK) (ht : tns x d = 0 ∨ W.tn = true) (k1 : Vl W (r.take m) v1) (k2 : Vl W (r.drop (m + 1)) v2) : Vs W x r (m + 1) (ns ++ [(tns x d : Int) + v1 + v2]) := by
  have hlt : m < r.length := (List.getElem?_eq_some_iff.mp hd).1
  have er : r = r.take m ++ d :: r.drop (m + 1) := by
    have hg : r[m] = d := (List.getElem?_eq_some_iff.mp hd).2
    rw [← hg, List.getElem_cons_drop]
    exact (List.take_append_drop m r).symm
  obtain ⟨a0, a1, a2⟩ := k1
  obtain ⟨b0, b1, b2⟩ := k2
  refine ⟨by simp, fun y hy => ?_, fun hW n hn => ?_, fun d' a b u w e hu hd' ht' ha hb => ?_⟩
  · rcases List.mem_append.mp hy with hy | hy
    · exact h.sound y hy
    · simp at hy
      subst hy
      refine ⟨by omega, fun hl => ?_⟩
      obtain ⟨n1, e1, f1⟩ := a2 (by omega)
      obtain ⟨n2, e2, f2⟩ := b2 (by omega)
      refine ⟨tns x d + n1 + n2, by omega, ?_⟩
      rw [er]
      exact .pair hx hdb ht f1 f2
  · obtain ⟨y, y1, y2⟩ := h.str hW n hn
    exact ⟨y, List.mem_append_left _ y1, y2⟩
  · by_cases hm : u.length < m
    · obtain ⟨y, y1, y2⟩ := h.pair d' a b u w e hm hd' ht' ha hb
      exact ⟨y, List.mem_append_left _ y1, y2⟩
    · have hul : u.length = m := by omega
      have e2 : r[m]? = some d' := by rw [e, ← hul]; simp
      rw [hd] at e2
      injection e2 with e2
      subst e2
      have eu : u = r.take m := by rw [e, ← hul]; simp
      have ew : w = r.drop (m + 1) := by rw [e, ← hul]; simp
      refine ⟨_, List.mem_append_right _ (List.mem_singleton.mpr rfl), ?_⟩
      have := a1 a (eu ▸ ha)
      have := b1 b (ew ▸ hb)
      omega
theorem Vs.fin {W : Wd} {x : Nat} {r : List Nat} {ns : List Int} {v : Int} (hx : x ∈ BRK) (h : Vs W x r r.length ns) (h1 : v ∈ ns) (h2 : ∀ y ∈ ns, v ≤ y) : Vl W (x :: r) v := by
  obtain ⟨s1, s2⟩ := h.sound v h1
  refine ⟨s1, fun n hn => ?_, s2⟩
  cases hn with
  | let_ hb _ => exact absurd hx hb
  | str _ hW hr =>
    obtain ⟨y, y1, y2⟩ := h.str hW _ hr
    have := h2 y y1
    omega
  | @pair _ d a b u w hx' hd ht ha hb =>
    obtain ⟨y, y1, y2⟩ := h.pair d a b u w rfl (by simp) hd ht ha hb
    have := h2 y y1
    omega
end Ly

set_option maxHeartbeats 4000000
namespace Ly
open PySem PySem.Spec PyProof.Rows L2 SX
/-! ### rows of deeds, place by place, as the law counts them -/
/-! how many keys there can be -/
theorem nodup_len {α : Type} [DecidableEq α] : ∀ (l m : List α), l.Nodup → (∀ x ∈ l, x ∈ m) → l.length ≤ m.length
  | [], m, _, _ => Nat.zero_le _
  | x :: l, m, hn, hs => by
    obtain ⟨h1, h2⟩ := List.nodup_cons.mp hn
    have hx : x ∈ m := hs x (List.mem_cons_self ..)
    have ih := nodup_len l (m.erase x) h2 fun y hy => by
      have hne : y ≠ x := fun e => h1 (e ▸ hy)
      exact (List.mem_erase_of_ne hne).mpr (hs y (List.mem_cons_of_mem _ hy))
    rw [List.length_erase_of_mem hx] at ih
    have : 0 < m.length := List.length_pos_of_mem hx
    rw [List.length_cons]
    omega
def stks : Nat → List (List Nat)
  | 0 => [[]]
  | n + 1 => [] :: CLO.flatMap fun c => (stks n).map (c :: ·)
theorem stks_len : ∀ n, (stks n).length ≤ 5 ^ n
  | 0 => Nat.le_refl _
  | n + 1 => by
    have ih := stks_len n
    rw [stks, List.length_cons, List.length_flatMap]
    have e : CLO.map (fun c => ((stks n).map (c :: ·)).length) = CLO.map fun _ => (stks n).length := List.map_congr_left fun c _ => List.length_map _
    rw [e]
    show (stks n).length + ((stks n).length + ((stks n).length + ((stks n).length + 0))) + 1 ≤ 5 ^ (n + 1)
    have h1 : 1 ≤ 5 ^ n := Nat.one_le_pow _ _ (by decide)
    rw [Nat.pow_succ]
    omega
theorem stks_mem : ∀ (n : Nat) (s : List Nat), s.length ≤ n → (∀ c ∈ s, c ∈ CLO) → s ∈ stks n
  | 0, s, h, _ => by
    have : s = [] := List.length_eq_zero_iff.mp (by omega)
    rw [this, stks]
    exact List.mem_cons_self ..
  | n + 1, [], _, _ => List.mem_cons_self ..
  | n + 1, c :: s, h, hc => by
    rw [stks]
    refine List.mem_cons_of_mem _ (List.mem_flatMap.mpr ⟨c, hc c (List.mem_cons_self ..), List.mem_map.mpr ⟨s, stks_mem n s (by rw [List.length_cons] at h; omega) (fun x hx => hc x (List.mem_cons_of_mem _ hx)), rfl⟩⟩)
def kyOf (i : Nat) (st : List Nat) (n : Nat) : List Key := [.inl (i : Int), .inr (S st.reverse), .inl (n : Int)]
theorem kyOf_inj {i j n m : Nat} {s t : List Nat} (h : kyOf i s n = kyOf j t m) : i = j ∧ s = t ∧ n = m := by
  unfold kyOf at h
  injection h with h1 h2
  injection h2 with h2 h3
  injection h3 with h3 _
  have e1 := Sum.inl.inj h1
  have e2 := Sum.inr.inj h2
  have e3 := Sum.inl.inj h3
  have e4 : s.reverse = t.reverse := Tx_inj.mp (congrArg V.str e2)
  exact ⟨by omega, by rw [← List.reverse_reverse s, e4, List.reverse_reverse], by omega⟩
def allK : List (List Key) := (List.range 5).flatMap fun i => (stks 8).flatMap fun s => (List.range 5).map fun n => kyOf i s n
theorem flat_len {α β : Type} {f : α → List β} {b : Nat} : ∀ l : List α, (∀ x ∈ l, (f x).length ≤ b) → (l.flatMap f).length ≤ l.length * b
  | [], _ => by simp
  | x :: l, h => by
    have ih := flat_len l fun y hy => h y (List.mem_cons_of_mem _ hy)
    have hx := h x (List.mem_cons_self ..)
    rw [List.flatMap_cons, List.length_append, List.length_cons, Nat.succ_mul]
    omega
theorem allK_len : allK.length ≤ 9765625 := by
  unfold allK
  refine Nat.le_trans (flat_len (b := 5 ^ 8 * 5) _ fun i _ => Nat.le_trans (flat_len (b := 5) _ fun s _ => by rw [List.length_map, List.length_range]; exact Nat.le_refl _) (Nat.mul_le_mul_right _ (stks_len 8))) ?_
  rw [List.length_range]
  decide
theorem allK_mem {i n : Nat} {s : List Nat} (hi : i ≤ 4) (hn : n ≤ 4) (hs : s.length ≤ 8) (hc : ∀ c ∈ s, c ∈ CLO) : kyOf i s n ∈ allK :=
  List.mem_flatMap.mpr ⟨i, List.mem_range.mpr (by omega), List.mem_flatMap.mpr ⟨s, stks_mem 8 s hs hc, List.mem_map.mpr ⟨n, List.mem_range.mpr (by omega), rfl⟩⟩⟩
/-- what is known -/
structure Kn (H : Hp) (a : Addr) (W : Wd) (l : List Nat) (kvs : List (List Key × V)) : Prop where
  ob : H a = some (.dT kvs)
  nd : (kvs.map (·.1)).Nodup
  ok : ∀ p ∈ kvs, ∃ (i : Nat) (st : List Nat) (n : Nat), p.1 = kyOf i st n ∧ i ≤ 4 ∧ n ≤ 4 ∧ st.length ≤ 8 ∧ (∀ c ∈ st, c ∈ CLO) ∧ p.2 = .int (An W st (l.drop i) n)
theorem Kn.len {H : Hp} {a : Addr} {W : Wd} {l : List Nat} {kvs : List (List Key × V)} (h : Kn H a W l kvs) : kvs.length ≤ 9765625 := by
  have h1 := nodup_len _ allK h.nd fun x hx => by
    obtain ⟨p, hp, rfl⟩ := List.mem_map.mp hx
    obtain ⟨i, st, n, e, k1, k2, k3, k4, _⟩ := h.ok p hp
    rw [e]
    exact allK_mem k1 k2 k3 k4
  rw [List.length_map] at h1
  exact Nat.le_trans h1 allK_len
theorem valV_mem {κ : Type} [DecidableEq κ] {k : κ} {v : V} : ∀ {kvs : List (κ × V)}, valV kvs k = some v → (k, v) ∈ kvs
  | [], h => by cases h
  | p :: r, h => by
    by_cases e : p.1 = k
    · rw [valV_pos e] at h
      injection h with h
      rw [← e, ← h]
      exact List.mem_cons_self ..
    · rw [valV_neg e] at h
      exact List.mem_cons_of_mem _ (valV_mem h)
theorem Kn.get {H : Hp} {a : Addr} {W : Wd} {l : List Nat} {kvs : List (List Key × V)} (h : Kn H a W l kvs) {i n : Nat} {st : List Nat} {v : V} (hv : valV kvs (kyOf i st n) = some v) : v = .int (An W st (l.drop i) n) := by
  obtain ⟨i', st', n', e, _, _, _, _, e2⟩ := h.ok _ (valV_mem hv)
  obtain ⟨rfl, rfl, rfl⟩ := kyOf_inj e
  exact e2
theorem putK_fst {κ : Type} [DecidableEq κ] (kvs : List (κ × V)) (k : κ) (v : V) : (putK kvs k v).map (·.1) = if k ∈ kvs.map (·.1) then kvs.map (·.1) else kvs.map (·.1) ++ [k] := by
  unfold putK
  by_cases h : k ∈ kvs.map (·.1)
  · rw [if_pos h, if_pos (by
      obtain ⟨p, hp, e⟩ := List.mem_map.mp h
      exact List.any_eq_true.mpr ⟨p, hp, by simpa using e⟩), List.map_map]
    refine List.map_congr_left fun p _ => ?_
    show (if p.1 = k then (p.1, v) else p).1 = p.1
    split <;> rfl
  · rw [if_neg h, if_neg (fun q => h (by
      obtain ⟨p, hp, e⟩ := List.any_eq_true.mp q
      exact List.mem_map.mpr ⟨p, hp, by simpa using e⟩)), List.map_append]
    rfl
theorem putK_mem {κ : Type} [DecidableEq κ] {kvs : List (κ × V)} {k : κ} {v : V} {p : κ × V} (h : p ∈ putK kvs k v) : p ∈ kvs ∨ p = (k, v) := by
  unfold putK at h
  split at h
  · obtain ⟨q, hq, e⟩ := List.mem_map.mp h
    split at e
    · rename_i e'
      exact .inr (by rw [← e, e'])
    · exact .inl (e ▸ hq)
  · rcases List.mem_append.mp h with h | h
    · exact .inl h
    · exact .inr (List.mem_singleton.mp h)
theorem Kn.put {H H1 : Hp} {a : Addr} {W : Wd} {l : List Nat} {kvs : List (List Key × V)} {i n : Nat} {st : List Nat} (h : Kn H a W l kvs) (hi : i ≤ 4) (hn : n ≤ 4) (hs : st.length ≤ 8) (hc : ∀ c ∈ st, c ∈ CLO) (e : H1 a = some (.dT (putK kvs (kyOf i st n) (.int (An W st (l.drop i) n))))) : Kn H1 a W l (putK kvs (kyOf i st n) (.int (An W st (l.drop i) n))) := by
  refine ⟨e, ?_, fun p hp => ?_⟩
  · rw [putK_fst]
    by_cases hm : kyOf i st n ∈ kvs.map (·.1)
    · rw [if_pos hm]; exact h.nd
    · rw [if_neg hm, List.nodup_append]
      refine ⟨h.nd, by simp, fun x hx y hy => ?_⟩
      rw [List.mem_singleton.mp hy]
      exact fun q => hm (q ▸ hx)
  · rcases putK_mem hp with hp | rfl
    · exact h.ok p hp
    · exact ⟨i, st, n, rfl, hi, hn, hs, hc, rfl⟩
theorem Kn.same {H H1 : Hp} {a : Addr} {W : Wd} {l : List Nat} {kvs : List (List Key × V)} (h : Kn H a W l kvs) (s : Same H H1) : Kn H1 a W l kvs := ⟨s _ _ h.ob, h.nd, h.ok⟩
/-! the least number, tried one by one -/
end Ly

set_option maxHeartbeats 4000000
namespace Ly
open PySem PySem.Spec PyProof.Rows L2 SX
/-! ### counted by their ends, with a great number where there are none -/
def En (x : MC) (e : Int × Int) : Prop := match x with
  | none => 1000 ≤ e.1 ∧ e.2 = 0
  | some p => e = ((p.1 : Int), (p.2 : Int))
def Bt (x : MC) (e : Int × Int) : Prop := match x with
  | none => e = (1000, 0)
  | some p => e = ((p.1 : Int), (p.2 : Int))
theorem Bt.en {x : MC} {e : Int × Int} (h : Bt x e) : En x e := by
  cases x with
  | none => rw [show e = (1000, 0) from h]; exact ⟨Int.le_refl _, rfl⟩
  | some p => exact h
theorem En.cnt {x : MC} {e : Int × Int} (h : En x e) : e.2 = (cnt x : Int) := by
  cases x with
  | none => exact (show 1000 ≤ e.1 ∧ e.2 = 0 from h).2
  | some p => rw [show e = ((p.1 : Int), (p.2 : Int)) from h]; rfl
/-! the least of a list, and how often -/
end Ly

set_option maxHeartbeats 4000000
namespace Ly
open PySem PySem.Spec PyProof.Rows L2 SX
/-! ### set(xs) of a list of ints, and its numbers sorted -/
section
variable {P : Program} {w : World} {A : Around} {E : Value → Shared → Prop} {s : Shared}
end
section
variable {X : Cx}
end
end Ly

set_option maxHeartbeats 4000000
namespace Ly
open PySem PySem.Spec PyProof.Rows L2 SX
/-! ### s.partition(' ') -/
end Ly

set_option maxHeartbeats 4000000
namespace Ly
open PySem PySem.Spec PyProof.Rows L2
/-! ### data of any kind in heaps, empty dicts too -/
mutual
inductive Dx (H : Hp) : V → PyData → Prop
  | non : Dx H .non .none
  | bl (b : Bool) : Dx H (.bl b) (.bool b)
  | int (i : Int) : Dx H (.int i) (.int i)
  | str (x : Str) : Dx H (.str x) (.str x)
  | lst {a : Addr} {xs : List V} {ds : List PyData} : H a = some (.lst xs) → DxAll H xs ds → Dx H (.ref a) (.list ds)
  | tup {a : Addr} {xs : List V} {ds : List PyData} : H a = some (.tup xs) → DxAll H xs ds → Dx H (.ref a) (.tuple ds)
  | dic {a : Addr} : H a = some (.dK []) → Dx H (.ref a) (.dict [])
inductive DxAll (H : Hp) : List V → List PyData → Prop
  | nil : DxAll H [] []
  | cons {v : V} {vs : List V} {d : PyData} {ds : List PyData} : Dx H v d → DxAll H vs ds → DxAll H (v :: vs) (d :: ds)
end
theorem DxAll.length {H : Hp} : ∀ {vs : List V} {ds : List PyData}, DxAll H vs ds → vs.length = ds.length
  | _, _, .nil => rfl
  | _, _, .cons _ h => by rw [List.length_cons, List.length_cons, h.length]
theorem DxAll.get {H : Hp} : ∀ {vs : List V} {ds : List PyData} {i : Nat} {v : V} {d : PyData}, DxAll H vs ds → vs[i]? = some v → ds[i]? = some d → Dx H v d
  | _, _, _, _, _, .nil, h, _ => by simp at h
  | _, _, 0, _, _, .cons h _, h1, h2 => by
    have e1 := Option.some.inj h1
    have e2 := Option.some.inj h2
    rw [← e1, ← e2]
    exact h
  | _, _, i + 1, _, _, .cons _ hs, h1, h2 => hs.get (i := i) h1 h2
theorem DxAll.append {H : Hp} : ∀ {vs ws : List V} {ds es : List PyData}, DxAll H vs ds → DxAll H ws es → DxAll H (vs ++ ws) (ds ++ es)
  | _, _, _, _, .nil, h => h
  | _, _, _, _, .cons h hs, h' => .cons h (hs.append h')
theorem DxAll.of {H : Hp} : ∀ {vs : List V} {ds : List PyData}, vs.length = ds.length → (∀ (i : Nat) (v : V) (d : PyData), vs[i]? = some v → ds[i]? = some d → Dx H v d) → DxAll H vs ds
  | [], [], _, _ => .nil
  | [], _ :: _, h, _ => by simp at h
  | _ :: _, [], h, _ => by simp at h
  | v :: vs, d :: ds, h, g => .cons (g 0 v d rfl rfl) (DxAll.of (by simpa using h) fun i v d h1 h2 => g (i + 1) v d h1 h2)
mutual
theorem dx_same {H H' : Hp} (s : ∀ b o, H b = some o → H' b = some o) : ∀ {v : V} {d : PyData}, Dx H v d → Dx H' v d
  | _, _, .non => .non
  | _, _, .bl b => .bl b
  | _, _, .int i => .int i
  | _, _, .str l => .str l
  | _, _, .lst h hs => .lst (s _ _ h) (dxs_same s hs)
  | _, _, .tup h hs => .tup (s _ _ h) (dxs_same s hs)
  | _, _, .dic h => .dic (s _ _ h)
theorem dxs_same {H H' : Hp} (s : ∀ b o, H b = some o → H' b = some o) : ∀ {vs : List V} {ds : List PyData}, DxAll H vs ds → DxAll H' vs ds
  | _, _, .nil => .nil
  | _, _, .cons h hs => .cons (dx_same s h) (dxs_same s hs)
end
section
variable {X : Cx} {pins : List (Addr × Obj)} {σ : L2.St} {H : Hp} {s : Shared}
mutual
theorem dx_rk (I : Inv X pins σ H s) : ∀ {v : V} {d : PyData} {u : Value}, Dx H v d → RelV v u → d.showable = true → d.shown.length ≤ sizeLine →
    ∃ as bs, Reads s.heap u d as ∧ ReadAtMost s.heap d.depth bs ∧ ReprK X.prog X.w bs s.heap d.depth u d.shown
  | _, _, _, .non, r, _, _ => by
    cases r
    exact ⟨_, [], .none, (fun _ h => nomatch h), by simp only [PyData.shown]; exact .of_is ReprIs.none _ _ _⟩
  | _, _, _, .bl b, r, _, _ => by
    cases r
    exact ⟨_, [], .bool b, (fun _ h => nomatch h), by simp only [PyData.shown]; exact .of_is (ReprIs.bool b) _ _ _⟩
  | _, _, _, .int i, r, hs, _ => by
    obtain ⟨t, rfl⟩ := r
    exact ⟨_, [], .int i t, (fun _ h => nomatch h), by simp only [PyData.shown]; exact .of_is (ReprIs.int t (by simpa [PyData.showable] using hs)) _ _ _⟩
  | _, _, _, .str x, r, _, hz => by
    obtain ⟨t, rfl⟩ := r
    exact ⟨_, [], .str x t, (fun _ h => nomatch h), by simp only [PyData.shown]; exact .of_is (ReprIs.str x t (by simpa only [PyData.shown] using hz)) _ _ _⟩
  | _, _, _, .lst (a := a) (xs := xs) (ds := ds) h ha, r, hs, hz => by
    cases r
    have hz' : (listText (PyData.shownAll ds)).length ≤ sizeLine := by simpa only [PyData.shown] using hz
    obtain ⟨its, rv, ⟨o, n, h1, h2, _, h3⟩, _⟩ := I.list (.inl (.inl h))
    obtain ⟨as, bs, h4, hb, hk⟩ := dxs_rk I ha rv (by simpa [PyData.showable] using hs) (fun t ht => Nat.le_trans (listText_mem_le ht) hz')
    have r : Reads s.heap (.ref a) (.list ds) _ := .list h1 h2 h3 h4
    have hna : a ∉ bs := not_mem_of_deeper r (by simp only [PyData.depth]; omega) hb
    refine ⟨_, a :: bs, r, ReadAtMost.cons r (by simp only [PyData.depth]; omega) hb, ?_⟩
    simp only [PyData.depth, PyData.shown]
    cases its with
    | nil =>
      cases h4
      simp only [PyData.shownAll, listText_nil]
      exact ReprK.listEmpty h1 h2 h3
    | cons x l => exact ReprK.list h1 h2 h3 hna (by simpa using hk.length_eq) (fun i y e => hk.item i y (by simpa using e))
  | _, _, _, .tup (a := a) (xs := xs) (ds := ds) h ha, r, hs, hz => by
    cases r
    have hz' : (tupleText (PyData.shownAll ds)).length ≤ sizeLine := by simpa only [PyData.shown] using hz
    obtain ⟨its, rv, ⟨o, h1, h2, n, h3⟩, _⟩ := I.tuple (.inl (.inl h))
    obtain ⟨as, bs, h4, hb, hk⟩ := dxs_rk I ha rv (by simpa [PyData.showable] using hs) (fun t ht => Nat.le_trans (tupleText_mem_le ht) hz')
    have r : Reads s.heap (.ref a) (.tuple ds) _ := .tuple h1 h2 h3 h4
    have hna : a ∉ bs := not_mem_of_deeper r (by simp only [PyData.depth]; omega) hb
    refine ⟨_, a :: bs, r, ReadAtMost.cons r (by simp only [PyData.depth]; omega) hb, ?_⟩
    simp only [PyData.depth, PyData.shown]
    exact ReprK.tuple h1 h2 h3 hna hk
  | _, _, _, .dic (a := a) h, r, hs, hz => by
    cases r
    obtain ⟨_, hsys, vs, kv, o, es, ep, h1, h2, h3, _, h4, _⟩ := dk_of I.hok h
    cases kv
    have he : es.toList = [] := by
      cases h5 : es.toList with
      | nil => rfl
      | cons x l => rw [h5] at h4; cases h4
    have e : es = #[] := by cases es; simp_all
    subst e
    have r : Reads s.heap (.ref a) (.dict []) _ := .dict h1 h2.1 h3 .nil .nil
    refine ⟨_, [a], r, ReadAtMost.cons r (by simp only [PyData.depth]; omega) (n := 0) (fun _ h => nomatch h), ?_⟩
    simp only [PyData.depth, PyData.shown]
    exact ReprK.dict h1 h2.1 h3 hsys (by simp) .nil
theorem dxs_rk (I : Inv X pins σ H s) : ∀ {vs : List V} {ds : List PyData} {us : List Value}, DxAll H vs ds → Vals vs us → PyData.showableAll ds = true → (∀ t ∈ PyData.shownAll ds, t.length ≤ sizeLine) →
    ∃ as bs, ReadsAll s.heap us ds as ∧ ReadAtMost s.heap (PyData.depthAll ds) bs ∧ ReprAllK X.prog X.w bs s.heap (PyData.depthAll ds) us (PyData.shownAll ds)
  | _, _, _, .nil, r, _, _ => by
    cases r
    exact ⟨_, [], .nil, (fun _ h => nomatch h), by simp only [PyData.shownAll]; exact .nil⟩
  | _, _, _, .cons (d := d) (ds := ds) h ha, r, hs, hz => by
    cases r with
    | cons r1 r2 =>
      have hs' : d.showable = true ∧ PyData.showableAll ds = true := by simpa [PyData.showableAll] using hs
      obtain ⟨a1, b1, q1, hb1, k1⟩ := dx_rk I h r1 hs'.1 (hz _ (by simp only [PyData.shownAll]; exact List.mem_cons_self ..))
      obtain ⟨a2, b2, q2, hb2, k2⟩ := dxs_rk I ha r2 hs'.2 (fun t ht => hz t (by simp only [PyData.shownAll]; exact List.mem_cons_of_mem _ ht))
      refine ⟨_, b1 ++ b2, .cons q1 q2, ?_, ?_⟩
      · intro b hm
        simp only [PyData.depthAll]
        rcases List.mem_append.mp hm with hm | hm
        · obtain ⟨d', as', r', hd'⟩ := hb1 b hm
          exact ⟨d', as', r', Nat.le_trans hd' (Nat.le_max_left _ _)⟩
        · obtain ⟨d', as', r', hd'⟩ := hb2 b hm
          exact ⟨d', as', r', Nat.le_trans hd' (Nat.le_max_right _ _)⟩
      · simp only [PyData.depthAll, PyData.shownAll]
        exact .cons ((k1.more fun b hb => List.mem_append_left _ hb).level_le (Nat.le_max_left _ _)) (k2.more_le (fun b hb => List.mem_append_right _ hb) (Nat.le_max_right _ _))
end
/-- repr of any thing -/
theorem dx_repr {v : V} {d : PyData} {u : Value} {Q E : Value → Shared → Prop} (I : Inv X pins σ H s) (h : Dx H v d) (r : RelV v u) (hs : d.showable = true) (hz : d.shown.length ≤ sizeLine) (hg : X.A.guards = some []) (hu : X.A.units + (d.depth + 1) < cLine)
    (hQ : ∀ h' t tk, (∀ b o, s.heap.get? b = some o → h'.get? b = some o) → Q (.str d.shown t) { s with heap := h', toks := tk }) : wpAny (model X.prog X.w) X.A (call (.builtin "repr") [u]) Q E s := by
  cases h with
  | non =>
    cases r
    simp only [PyData.shown] at hQ
    exact P.repr_of_none (hQ s.heap _ _ fun _ _ e => e)
  | bl b =>
    cases r
    simp only [PyData.shown] at hQ
    exact P.repr_of_bool (hQ s.heap _ _ fun _ _ e => e)
  | int i =>
    obtain ⟨t, rfl⟩ := r
    simp only [PyData.shown] at hQ
    exact P.repr_of_int (by simpa [PyData.showable] using hs) (hQ s.heap _ _ fun _ _ e => e)
  | str x =>
    obtain ⟨t, rfl⟩ := r
    simp only [PyData.shown] at hQ
    exact P.repr_of_str (hQ s.heap _ _ fun _ _ e => e) (by simpa only [PyData.shown] using hz)
  | @lst a xs ds h ha =>
    cases r
    have hz' : (listText (PyData.shownAll ds)).length ≤ sizeLine := by simpa only [PyData.shown] using hz
    obtain ⟨its, rv, ⟨o, n, h1, h2, _, h3⟩, _⟩ := I.list (.inl (.inl h))
    obtain ⟨as, bs, h4, hb, hk⟩ := dxs_rk I ha rv (by simpa [PyData.showable] using hs) (fun t ht => Nat.le_trans (listText_mem_le ht) hz')
    have r : Reads s.heap (.ref a) (.list ds) _ := .list h1 h2 h3 h4
    have hna : a ∉ bs := not_mem_of_deeper r (by simp only [PyData.depth]; omega) hb
    simp only [PyData.shown] at hQ
    simp only [PyData.depth] at hu
    refine call_repr_slot (T := "list") (by omega) ⟨o, h1, h2⟩ F.slot_list_repr.toG ?_
    cases its with
    | nil =>
      cases h4
      simp only [PyData.shownAll, listText_nil] at hQ
      exact call_list_repr_empty ⟨o, h1, h2⟩ h1 h3 ⟨_, _, rfl, hQ s.heap _ _ fun _ _ e => e⟩
    | cons x l =>
      exact call_list_reprK h1 h2 h3 hna (by simpa using hk.length_eq) (fun i y e => hk.item i y (by simpa using e)) hg (fun b _ => Clear.nil b) (by show X.A.units + 1 + _ < cLine; omega) (fun _ _ e => e) (fun h' t tk hk => ⟨_, _, rfl, hQ h' t tk hk⟩) hz'
  | @tup a xs ds h ha =>
    cases r
    have hz' : (tupleText (PyData.shownAll ds)).length ≤ sizeLine := by simpa only [PyData.shown] using hz
    obtain ⟨its, rv, ⟨o, h1, h2, n, h3⟩, _⟩ := I.tuple (.inl (.inl h))
    obtain ⟨as, bs, h4, hb, hk⟩ := dxs_rk I ha rv (by simpa [PyData.showable] using hs) (fun t ht => Nat.le_trans (tupleText_mem_le ht) hz')
    have r : Reads s.heap (.ref a) (.tuple ds) _ := .tuple h1 h2 h3 h4
    have hna : a ∉ bs := not_mem_of_deeper r (by simp only [PyData.depth]; omega) hb
    simp only [PyData.shown] at hQ
    simp only [PyData.depth] at hu
    refine call_repr_slot (T := "tuple") (by omega) ⟨o, h1, h2⟩ F.slot_tuple_repr ?_
    exact call_tuple_reprK h1 h2 h3 hna hk hg (fun b _ => Clear.nil b) (by show X.A.units + 1 + _ < cLine; omega) (fun _ _ e => e) (fun h' t tk hk => ⟨_, _, rfl, hQ h' t tk hk⟩) hz'
  | @dic a h =>
    cases r
    obtain ⟨_, hsys, vs, kv, o, es, ep, h1, h2, h3, _, h4, _⟩ := dk_of I.hok h
    cases kv
    have he : es.toList = [] := by
      cases h5 : es.toList with
      | nil => rfl
      | cons x l => rw [h5] at h4; cases h4
    have e : es = #[] := by cases es; simp_all
    subst e
    simp only [PyData.shown] at hQ
    simp only [PyData.depth] at hu
    refine call_repr_slot (T := "dict") (by omega) ⟨o, h1, h2.1⟩ F.slot_dict_repr ?_
    exact call_dict_reprK h1 h2.1 h3 hsys (as := []) (d := 0) (by simp) .nil hg (fun b _ => Clear.nil b) (by show X.A.units + 1 + _ < cLine; have : PyData.depthKv [] = 0 := rfl; omega) (fun _ _ e => e) (fun h' t tk hk => ⟨_, _, rfl, hQ h' t tk hk⟩) hz
end
end Ly

set_option maxHeartbeats 4000000
namespace Ly
open PySem PySem.Spec PyProof.Rows L2 SX
/-! ### kinds of things -/
def tyN : PyData → String
  | .none => "NoneType"
  | .bool _ => "bool"
  | .int _ => "int"
  | .str _ => "str"
  | .list _ => "list"
  | .tuple _ => "tuple"
  | .dict _ => "dict"
theorem ty_dx {K : PySem.W.Frag} {H : Hp} : ∀ {v : V} {d : PyData}, Dx H v d → TyX K H v (.type (tyN d))
  | _, _, .non => ty_non
  | _, _, .bl _ => ty_bl
  | _, _, .int _ => ty_int
  | _, _, .str _ => ty_str
  | _, _, .lst h _ => ty_lst h
  | _, _, .tup h _ => ty_tup h
  | _, _, .dic h => .base (.dK h)
inductive Ty5 where
  | str
  | int
  | bool
  | list
  | tuple
def Ty5.nm : Ty5 → String
  | .str => "str"
  | .int => "int"
  | .bool => "bool"
  | .list => "list"
  | .tuple => "tuple"
def isT : PyData → Ty5 → Bool
  | .str _, .str => true
  | .int _, .int => true
  | .bool _, .int => true
  | .bool _, .bool => true
  | .list _, .list => true
  | .tuple _, .tuple => true
  | _, _ => false
theorem kit_isT (d : PyData) (T : Ty5) : kitB (tyN d) T.nm = some (isT d T) := by
  have h : ∀ t ∈ ["NoneType", "bool", "int", "str", "list", "tuple", "dict"], ∀ u ∈ ["str", "int", "bool", "list", "tuple"], kitB t u = some (t == u || (t == "bool" && u == "int")) := by decide +kernel
  have h1 := h (tyN d) (by cases d <;> simp [tyN]) T.nm (by cases T <;> simp [Ty5.nm])
  rw [h1]
  congr 1
  cases d <;> cases T <;> (simp only [tyN, Ty5.nm, isT]; decide)
section
variable {K : PySem.W.Frag} {H : Hp} {Q : VK} {v : V} {d : PyData}
theorem g_isS (h : Dx H v d) (q : Q (.bl (isT d .str)) H) : rIsi K [v, .ty "str"] H Q := g_isi (ty_dx h) (kit_isT d .str) q
theorem g_isI (h : Dx H v d) (q : Q (.bl (isT d .int)) H) : rIsi K [v, .ty "int"] H Q := g_isi (ty_dx h) (kit_isT d .int) q
theorem g_isB (h : Dx H v d) (q : Q (.bl (isT d .bool)) H) : rIsi K [v, .ty "bool"] H Q := g_isi (ty_dx h) (kit_isT d .bool) q
theorem g_isL (h : Dx H v d) (q : Q (.bl (isT d .list)) H) : rIsi K [v, .ty "list"] H Q := g_isi (ty_dx h) (kit_isT d .list) q
theorem g_isU (h : Dx H v d) (q : Q (.bl (isT d .tuple)) H) : rIsi K [v, .ty "tuple"] H Q := g_isi (ty_dx h) (kit_isT d .tuple) q
end
theorem dx_tuple {H : Hp} {v : V} {d : PyData} (h : Dx H v d) (ht : isT d .tuple = true) : ∃ a xs ds, v = .ref a ∧ d = .tuple ds ∧ H a = some (.tup xs) ∧ DxAll H xs ds := by
  cases h with
  | tup h hs => exact ⟨_, _, _, rfl, rfl, h, hs⟩
  | _ => cases ht
theorem dx_str {H : Hp} {v : V} {d : PyData} (h : Dx H v d) (ht : isT d .str = true) : ∃ z, v = .str z ∧ d = .str z := by
  cases h with
  | str z => exact ⟨_, rfl, rfl⟩
  | _ => cases ht
theorem dx_int {H : Hp} {v : V} {d : PyData} (h : Dx H v d) (ht : isT d .int = true) (hb : isT d .bool = false) : ∃ z, v = .int z ∧ d = .int z := by
  cases h with
  | int z => exact ⟨_, rfl, rfl⟩
  | bl b => cases hb
  | _ => cases ht
theorem str_S (z : Str) : z = S z.cps.toList := by
  obtain ⟨a⟩ := z
  unfold S
  simp
/-! ### the size of things -/
def nbK : Nat → Nat
  | 3 => 200
  | 2 => 45
  | 1 => 4
  | _ => 0
mutual
def nc : Nat → PyData → Bool
  | _, .none => true
  | _, .bool _ => true
  | _, .int i => decide (i.natAbs < 10 ^ 100)
  | _, .str s => decide (s.length ≤ 20) && s.cps.toList.all fun c => decide (c < 1114112)
  | k + 1, .list ds => decide (ds.length ≤ nbK (k + 1)) && ncA k ds
  | k + 1, .tuple ds => decide (ds.length ≤ nbK (k + 1)) && ncA k ds
  | 0, .list ds => ds.isEmpty
  | 0, .tuple ds => ds.isEmpty
  | _, .dict ds => ds.isEmpty
def ncA : Nat → List PyData → Bool
  | _, [] => true
  | k, d :: ds => nc k d && ncA k ds
end
theorem ncA_app {k : Nat} : ∀ {ds es : List PyData}, ncA k (ds ++ es) = (ncA k ds && ncA k es)
  | [], es => by rw [List.nil_append, ncA, Bool.true_and]
  | d :: ds, es => by rw [List.cons_append, ncA, ncA, ncA_app, Bool.and_assoc]
theorem ncA_mem {k : Nat} {ds : List PyData} : ncA k ds = true ↔ ∀ d ∈ ds, nc k d = true := by
  induction ds with
  | nil => exact ⟨fun _ d h => (by cases h), fun _ => rfl⟩
  | cons d ds ih =>
    rw [ncA, Bool.and_eq_true, ih]
    constructor
    · rintro ⟨h1, h2⟩ e he
      rcases List.mem_cons.mp he with rfl | he
      · exact h1
      · exact h2 e he
    · exact fun h => ⟨h d (List.mem_cons_self ..), fun e he => h e (List.mem_cons_of_mem _ he)⟩
/-- how long a thing of a level may be shown -/
def szK : Nat → Nat
  | 0 => 204
  | k + 1 => nbK (k + 1) * (szK k + 2) + 204
theorem szK_mono (k : Nat) : 204 ≤ szK k := by cases k <;> unfold szK <;> omega
theorem leaf_int {i : Int} (h : i.natAbs < 10 ^ 100) : i.natAbs.log2 < 1920 ∧ (PyData.shown (.int i)).length ≤ 204 := by
  constructor
  · by_cases h0 : i.natAbs = 0
    · rw [h0]; decide
    · refine (Nat.log2_lt h0).mpr (Nat.lt_trans h (by decide +kernel))
  · have h1 := int_text_length_le10 (k := 100) (by decide) h
    have e : (PyData.shown (.int i)).length = (toString i).length := by
      simp only [PyData.shown]
      exact PySem.ofString_length _
    omega
theorem leaf_str {z : Str} (h : (decide (z.length ≤ 20) && z.cps.toList.all fun c => decide (c < 1114112)) = true) : (reprText z).length ≤ 204 := by
  rw [Bool.and_eq_true] at h
  have h1 := of_decide_eq_true h.1
  have h2 := PySem.StrLaws.reprText_len z fun c hc => Nat.lt_trans (of_decide_eq_true (List.all_eq_true.mp h.2 c hc)) (by decide)
  omega
section
variable {X : Cx}
end
/-! ### deeds among things -/
def oneB (z : Str) (m : List Nat) : Bool := match z.cps.toList with
  | [c] => decide (c ∈ m)
  | _ => false
theorem Dds.dx {H : Hp} {a : Addr} {rs : List Addr} {ds : List Deed} (h : Dds H a rs ds) : Dx H (.ref a) (ddsD ds) := by
  refine .lst h.hd (.of (by rw [List.length_map, List.length_map]; exact h.len) fun k v d h1 h2 => ?_)
  rw [List.getElem?_map] at h1 h2
  cases e1 : rs[k]? with
  | none => rw [e1] at h1; cases h1
  | some r =>
    cases e2 : ds[k]? with
    | none => rw [e2] at h2; cases h2
    | some e =>
      rw [e1] at h1
      rw [e2] at h2
      rw [← Option.some.inj h1, ← Option.some.inj h2]
      exact .tup (h.it k r e e1 e2) (.cons (.int _) (.cons (.str _) (.cons (.str _) .nil)))
end Ly

set_option maxHeartbeats 4000000
namespace Ly
open PySem PySem.Spec PyProof.Rows L2 SX
/-! ### readings that tell things -/
/-- the heap without ps -/
def del (ps : List Addr) (H : Hp) : Hp := fun x => if x ∈ ps then none else H x
/-- all of ps stand -/
def Std (ps : List Addr) (H : Hp) : Prop := ∀ p ∈ ps, ∃ o, H p = some o
section
variable {q a b : Addr} {p : List Addr} {o : HO} {H H' H1 : Hp} {v : V} {d : PyData} {vs : List V} {ds : List PyData}
theorem Std.nil : Std [] H := fun _ h => by cases h
theorem Std.cons (h : H a = some o) (hs : Std p H) : Std (a :: p) H := fun x hx => by
  rcases List.mem_cons.mp hx with rfl | hx
  · exact ⟨_, h⟩
  · exact hs x hx
theorem Std.sm (h : Std p H) (s : Same H H') : Std p H' := fun x hx => let ⟨o, e⟩ := h x hx; ⟨o, s _ _ e⟩
theorem Std.new (h : Std p H) (nb : H b = none) : b ∉ p := fun hb => by
  obtain ⟨o, e⟩ := h b hb
  rw [nb] at e
  cases e
theorem del_get (n : a ∉ p) (h : H a = some o) : del p H a = some o := by unfold del; rw [if_neg n]; exact h
theorem del_un (h : del p H a = some o) : H a = some o ∧ a ∉ p := by
  unfold del at h
  by_cases e : a ∈ p
  · rw [if_pos e] at h; cases h
  · rw [if_neg e] at h; exact ⟨h, e⟩
theorem del_but (hq : q ∈ p) (s : But q H H') : ∀ b o, del p H b = some o → del p H' b = some o := fun b o h => del_get (del_un h).2 (s b o (fun e => (del_un h).2 (e ▸ hq)) (del_un h).1)
theorem del_same (s : Same H H') : ∀ b o, del p H b = some o → del p H' b = some o := fun b o h => del_get (del_un h).2 (s b o (del_un h).1)
/-- what stands off p, in a heap where b is none yet, stands off b, too -/
theorem del_new (nb : H b = none) (s : But b H H') : ∀ c o, del p H c = some o → del (b :: p) H' c = some o := fun c o h => by
  have hcb : c ≠ b := fun e => by have := (del_un h).1; rw [e, nb] at this; cases this
  exact del_get (fun hc => by rcases List.mem_cons.mp hc with e | e; exact hcb e; exact (del_un h).2 e) (s c o hcb (del_un h).1)
theorem del_tl : ∀ c o, del (b :: p) H c = some o → del p H c = some o := fun c o h => del_get (fun hc => (del_un h).2 (List.mem_cons_of_mem _ hc)) (del_un h).1
theorem Dx.nw (h : Dx (del p H) v d) (nb : H b = none) (s : But b H H') : Dx (del (b :: p) H') v d := dx_same (del_new nb s) h
theorem DxAll.nw (h : DxAll (del p H) vs ds) (nb : H b = none) (s : But b H H') : DxAll (del (b :: p) H') vs ds := dxs_same (del_new nb s) h
theorem Dx.tl (h : Dx (del (b :: p) H) v d) : Dx (del p H) v d := dx_same del_tl h
theorem DxAll.tl (h : DxAll (del (b :: p) H) vs ds) : DxAll (del p H) vs ds := dxs_same del_tl h
theorem Dx.un (h : Dx (del p H) v d) : Dx H v d := dx_same (fun b o h => (del_un h).1) h
theorem DxAll.un (h : DxAll (del p H) vs ds) : DxAll H vs ds := dxs_same (fun b o h => (del_un h).1) h
theorem Dx.sm (h : Dx (del p H) v d) (s : Same H H') : Dx (del p H') v d := dx_same (del_same s) h
theorem Dx.bt (h : Dx (del p H) v d) (s : But q H H') (hq : q ∈ p := by simp) : Dx (del p H') v d := dx_same (del_but hq s) h
theorem DxAll.sm (h : DxAll (del p H) vs ds) (s : Same H H') : DxAll (del p H') vs ds := dxs_same (del_same s) h
theorem DxAll.bt (h : DxAll (del p H) vs ds) (s : But q H H') (hq : q ∈ p := by simp) : DxAll (del p H') vs ds := dxs_same (del_but hq s) h
theorem dxa_take {n : Nat} : ∀ {vs : List V} {ds : List PyData}, DxAll H vs ds → DxAll H (vs.take n) (ds.take n) := by
  induction n with
  | zero => intro vs ds _; exact .nil
  | succ n ih =>
    intro vs ds h
    cases h with
    | nil => exact .nil
    | cons h hs => exact .cons h (ih hs)
theorem dxa_drop {n : Nat} : ∀ {vs : List V} {ds : List PyData}, DxAll H vs ds → DxAll H (vs.drop n) (ds.drop n) := by
  induction n with
  | zero => intro vs ds h; exact h
  | succ n ih =>
    intro vs ds h
    cases h with
    | nil => exact .nil
    | cons h hs => exact ih hs
theorem dxa_set {d : PyData} {v : V} (hv : Dx H v d) : ∀ {vs : List V} {ds : List PyData} {n : Nat}, DxAll H vs ds → DxAll H (vs.set n v) (ds.set n d)
  | _, _, _, .nil => .nil
  | _, _, 0, .cons h hs => .cons hv hs
  | _, _, n + 1, .cons h hs => .cons h (dxa_set hv hs)
theorem dxa_rev : ∀ {vs : List V} {ds : List PyData}, DxAll H vs ds → DxAll H vs.reverse ds.reverse
  | _, _, .nil => .nil
  | _, _, .cons h hs => by rw [List.reverse_cons, List.reverse_cons]; exact (dxa_rev hs).append (.cons h .nil)
theorem dxa_rep {n : Nat} (h : DxAll H vs ds) : DxAll H (List.replicate n vs).flatten (List.replicate n ds).flatten := by
  induction n with
  | zero => exact .nil
  | succ n ih => rw [List.replicate_succ, List.replicate_succ, List.flatten_cons, List.flatten_cons]; exact h.append ih
end
def cutL {α : Type} (xs : List α) (lo hi : Option Int) : List α := (xs.drop (HT.sIx xs.length 0 lo)).take (HT.sIx xs.length xs.length hi - HT.sIx xs.length 0 lo)
theorem dxa_cut {H : Hp} {vs : List V} {ds : List PyData} {lo hi : Option Int} (h : DxAll H vs ds) : DxAll H (cutV vs lo hi) (cutL ds lo hi) := by
  show DxAll H ((vs.drop (HT.sIx vs.length 0 lo)).take (HT.sIx vs.length vs.length hi - HT.sIx vs.length 0 lo)) _
  unfold cutL
  rw [h.length]
  exact dxa_take (dxa_drop h)
theorem cutL_from {α : Type} {xs : List α} {i : Nat} : cutL xs (some (i : Int)) none = xs.drop i := by
  unfold cutL
  have e1 : HT.sIx xs.length 0 (some (i : Int)) = min i xs.length := by unfold HT.sIx; simp; omega
  have e2 : HT.sIx xs.length xs.length none = xs.length := by unfold HT.sIx; simp
  rw [e1, e2, List.take_of_length_le (by rw [List.length_drop]; exact Nat.le_refl _)]
  by_cases h : i ≤ xs.length
  · rw [Nat.min_eq_left h]
  · rw [Nat.min_eq_right (by omega), List.drop_eq_nil_of_le (Nat.le_refl _), List.drop_eq_nil_of_le (by omega)]
theorem cutL_to {α : Type} {xs : List α} {i : Nat} : cutL xs none (some (i : Int)) = xs.take i := by
  unfold cutL
  have e1 : HT.sIx xs.length xs.length (some (i : Int)) = min i xs.length := by unfold HT.sIx; simp; omega
  have e2 : HT.sIx xs.length 0 none = 0 := by unfold HT.sIx; simp
  rw [e1, e2, List.drop_zero, Nat.sub_zero]
  by_cases h : i ≤ xs.length
  · rw [Nat.min_eq_left h]
  · rw [Nat.min_eq_right (by omega), List.take_of_length_le (Nat.le_refl _), List.take_of_length_le (by omega)]
def Rd (p : List Addr) (t : TE) (σ : L2.St) (H : Hp) (d : PyData) : Prop := ∀ (H1 : Hp) (Q : VK), Same H H1 → (∀ v H2, Same H1 H2 → Dx (del p H2) v d → Q v H2) → t σ H1 Q
def RdA (p : List Addr) (t : TA) (σ : L2.St) (H : Hp) (ds : List PyData) : Prop := ∀ (H1 : Hp) (Q : List V → Hp → Prop), Same H H1 → (∀ vs H2, Same H1 H2 → DxAll (del p H2) vs ds → Q vs H2) → t σ H1 Q
def RdO (p : List Addr) (t : TO) (σ : L2.St) (H : Hp) (o : Option Int) : Prop := ∀ (H1 : Hp) (Q : Option Int → Hp → Prop), Same H H1 → (∀ H2, Same H1 H2 → Q o H2) → t σ H1 Q
section
variable {p : List Addr} {a : Addr} {t ta tb : TE} {ts : TA} {tl th : TO} {σ : L2.St} {H : Hp} {d e : PyData} {ds es : List PyData} {n : Nat} {v : V} {K : PySem.W.Frag} {i j : Int} {lo hi : Option Int}
theorem Rd.go {Q : VK} (h : Rd p t σ H d) (q : ∀ v H2, Same H H2 → Dx (del p H2) v d → Q v H2) : t σ H Q := h H Q (Same.refl _) q
theorem RdA.go {Q : List V → Hp → Prop} (h : RdA p ts σ H ds) (q : ∀ vs H2, Same H H2 → DxAll (del p H2) vs ds → Q vs H2) : ts σ H Q := h H Q (Same.refl _) q
theorem rd_int : Rd p (tC (.int i)) σ H (.int i) := fun H1 Q s q => q _ _ (Same.refl _) (.int i)
theorem rd_str {x : Str} : Rd p (tC (.str x)) σ H (.str x) := fun H1 Q s q => q _ _ (Same.refl _) (.str x)
theorem rd_bl {b : Bool} : Rd p (tC (.bl b)) σ H (.bool b) := fun H1 Q s q => q _ _ (Same.refl _) (.bl b)
theorem rd_non : Rd p (tC .non) σ H .none := fun H1 Q s q => q _ _ (Same.refl _) .non
theorem rd_var (h : σ[n]? = some (some v)) (hd : Dx (del p H) v d) : Rd p (tVar n) σ H d := fun H1 Q s q => ⟨v, h, q _ _ (Same.refl _) (hd.sm s)⟩
theorem rda_nil : RdA p tNil σ H [] := fun H1 Q s q => q _ _ (Same.refl _) .nil
theorem rda_cons (h1 : Rd p ta σ H d) (h2 : RdA p ts σ H ds) : RdA p (tCons ta ts) σ H (d :: ds) := fun H1 Q s q =>
  h1 H1 _ s fun v H2 s2 hv => h2 H2 _ (s.trans s2) fun vs H3 s3 hvs => q _ _ (s2.trans s3) (.cons (hv.sm s3) hvs)
theorem rd_tup (hp : Std p H) (h : RdA p ts σ H ds) (hl : ds.length ≤ 100000) : Rd p (tTup ts) σ H (.tuple ds) := fun H1 Q s q =>
  h H1 _ s fun vs H2 s2 hvs => ⟨by rw [hvs.length]; exact Nat.le_trans hl (by decide), fun b nb => by
    exact q _ _ (s2.trans (Same.new nb)) (.tup (del_get (Std.new (Std.sm (Std.sm hp s) s2) nb) upd_same) (hvs.sm (Same.new nb)))⟩
theorem rd_lst (hp : Std p H) (h : RdA p ts σ H ds) (hl : ds.length ≤ 100000) : Rd p (tLst ts) σ H (.list ds) := fun H1 Q s q =>
  h H1 _ s fun vs H2 s2 hvs => ⟨by rw [hvs.length]; exact Nat.le_trans hl (by decide), fun b nb => by
    exact q _ _ (s2.trans (Same.new nb)) (.lst (del_get (Std.new (Std.sm (Std.sm hp s) s2) nb) upd_same) (hvs.sm (Same.new nb)))⟩
theorem rd_dic (hp : Std p H) : Rd p tDNewK σ H (.dict []) := fun H1 Q s q => fun b nb => by
  exact q _ _ (Same.new nb) (.dic (del_get (Std.new (Std.sm hp s) nb) upd_same))
theorem rd_cat (hp : Std p H) (h1 : Rd p ta σ H (.list ds)) (h2 : Rd p tb σ H (.list es)) (hl : ds.length + es.length ≤ 100000) : Rd p (tOp rCat ta tb) σ H (.list (ds ++ es)) := fun H1 Q s q =>
  h1 H1 _ s fun v H2 s2 hv => h2 H2 _ (s.trans s2) fun w H3 s3 hw => by
    have hv := hv.sm s3
    cases hv with
    | lst k1 k2 =>
      cases hw with
      | lst k3 k4 =>
        refine g_cat (del_un k1).1 (del_un k3).1 (by rw [k2.length, k4.length]; exact hl) fun b H4 nb s4 eb => ?_
        exact q _ _ (s2.trans (s3.trans s4)) (.lst (del_get (Std.new (Std.sm (Std.sm (Std.sm hp s) s2) s3) nb) eb) ((k2.append k4).sm s4))
theorem rd_rep {m : Nat} (hp : Std p H) (h1 : Rd p ta σ H (.list ds)) (h2 : Rd p tb σ H (.int (m : Int))) (hl : ds.length * m ≤ 100000 ∧ m ≤ 100000) : Rd p (tOp rRep ta tb) σ H (.list (List.replicate m ds).flatten) := fun H1 Q s q =>
  h1 H1 _ s fun v H2 s2 hv => h2 H2 _ (s.trans s2) fun w H3 s3 hw => by
    have hv := hv.sm s3
    cases hw with
    | int _ =>
      cases hv with
      | lst k1 k2 =>
        refine g_rep (del_un k1).1 (by rw [k2.length]; exact hl.1) hl.2 fun b H4 nb s4 eb => ?_
        exact q _ _ (s2.trans (s3.trans s4)) (.lst (del_get (Std.new (Std.sm (Std.sm (Std.sm hp s) s2) s3) nb) eb) ((dxa_rep k2).sm s4))
theorem rd_rev (hp : Std p H) (h1 : Rd p ta σ H (.list ds)) : Rd p (tRevL K ta) σ H (.list ds.reverse) := fun H1 Q s q =>
  h1 H1 _ s fun v H2 s2 hv => by
    cases hv with
    | lst k1 k2 =>
      refine g_revL (sq_of (del_un k1).1) fun b H4 nb s4 eb => ?_
      exact q _ _ (s2.trans s4) (.lst (del_get (Std.new (Std.sm (Std.sm hp s) s2) nb) eb) ((dxa_rev k2).sm s4))
theorem rdo_none : RdO p tNoPart σ H none := fun H1 Q s q => q _ (Same.refl _)
theorem rdo_some (h : Rd p ta σ H (.int i)) : RdO p (tPart ta) σ H (some i) := fun H1 Q s q => h H1 _ s fun v H2 s2 hv => by
  cases hv
  exact ⟨i, rfl, q _ s2⟩
theorem rd_cut (hp : Std p H) (h1 : Rd p ta σ H (.list ds)) (hlo : RdO p tl σ H lo) (hhi : RdO p th σ H hi) : Rd p (tSl (rSlL K) ta tl th) σ H (.list (cutL ds lo hi)) := fun H1 Q s q =>
  h1 H1 _ s fun v H2 s2 hv => hlo H2 _ (s.trans s2) fun H3 s3 => hhi H3 _ (s.trans (s2.trans s3)) fun H4 s4 => by
    have hv := hv.sm (s3.trans s4)
    cases hv with
    | lst k1 k2 =>
      refine g_slL (sq_of (del_un k1).1) fun b H5 nb s5 eb => ?_
      exact q _ _ (s2.trans (s3.trans (s4.trans s5))) (.lst (del_get (Std.new (Std.sm (Std.sm (Std.sm (Std.sm hp s) s2) s3) s4) nb) eb) ((dxa_cut k2).sm s5))
theorem rd_tupOf (hp : Std p H) (h1 : RdA p ts σ H [.list ds]) : Rd p (tCB (rTupleOf K) ts) σ H (.tuple ds) := fun H1 Q s q =>
  h1 H1 _ s fun vs H2 s2 hv => by
    cases hv with
    | cons hv h0 =>
      cases h0
      cases hv with
      | lst k1 k2 =>
        refine g_tupleOfL (del_un k1).1 fun b H5 nb s5 eb => ?_
        exact q _ _ (s2.trans s5) (.tup (del_get (Std.new (Std.sm (Std.sm hp s) s2) nb) eb) (k2.sm s5))
theorem rd_lstOf (hp : Std p H) (h1 : RdA p ts σ H [.list ds]) : Rd p (tCB (rListOf K) ts) σ H (.list ds) := fun H1 Q s q =>
  h1 H1 _ s fun vs H2 s2 hv => by
    cases hv with
    | cons hv h0 =>
      cases h0
      cases hv with
      | lst k1 k2 =>
        refine g_listOfL (del_un k1).1 fun b H5 nb s5 eb => ?_
        exact q _ _ (s2.trans s5) (.lst (del_get (Std.new (Std.sm (Std.sm hp s) s2) nb) eb) (k2.sm s5))
theorem rd_I0 {g : Int → Int → Int} (h1 : Rd p ta σ H (.int i)) (h2 : Rd p tb σ H (.int j)) : Rd p (tOp (rI0 fun i j => .int (g i j)) ta tb) σ H (.int (g i j)) := fun H1 Q s q =>
  h1 H1 _ s fun v H2 s2 hv => h2 H2 _ (s.trans s2) fun w H3 s3 hw => by
    cases hv
    cases hw
    exact g_I0 (q _ _ (s2.trans s3) (.int _))
theorem rd_I {C : Int → Int → Prop} {g : Int → Int → Int} (h1 : Rd p ta σ H (.int i)) (h2 : Rd p tb σ H (.int j)) (c : C i j) : Rd p (tOp (rI C fun i j => .int (g i j)) ta tb) σ H (.int (g i j)) := fun H1 Q s q =>
  h1 H1 _ s fun v H2 s2 hv => h2 H2 _ (s.trans s2) fun w H3 s3 hw => by
    cases hv
    cases hw
    exact g_I c (q _ _ (s2.trans s3) (.int _))
theorem rd_U {g : Int → Int} (h1 : Rd p ta σ H (.int i)) : Rd p (tUn (rU fun i => .int (g i)) ta) σ H (.int (g i)) := fun H1 Q s q =>
  h1 H1 _ s fun v H2 s2 hv => by
    cases hv
    exact g_U (q _ _ s2 (.int _))
theorem rd_eqI (h1 : Rd p ta σ H (.int i)) (h2 : Rd p tb σ H (.int j)) : Rd p (tOp rEq ta tb) σ H (.bool (decide (i = j))) := fun H1 Q s q =>
  h1 H1 _ s fun v H2 s2 hv => h2 H2 _ (s.trans s2) fun w H3 s3 hw => by
    cases hv
    cases hw
    refine g_eq rfl ?_
    rw [show decide (V.int i = V.int j) = decide (i = j) by rw [decide_eq_decide]; exact ⟨fun h => V.int.inj h, fun h => by rw [h]⟩]
    exact q _ _ (s2.trans s3) (.bl _)
theorem rd_ixT {l : List Nat} {c : Nat} (h1 : Rd p ta σ H (.str (S l))) (h2 : Rd p tb σ H (.int i)) (hl : l.length ≤ 100000) (hc : atI l i = some c) : Rd p (tOp rIxT1 ta tb) σ H (.str (S [c])) := fun H1 Q s q =>
  h1 H1 _ s fun v H2 s2 hv => h2 H2 _ (s.trans s2) fun w H3 s3 hw => by
    cases hv
    cases hw
    exact g_ixT hl hc (q _ _ (s2.trans s3) (.str _))
theorem rd_ixL (h1 : Rd p ta σ H (.list ds)) (h2 : Rd p tb σ H (.int i)) (hc : atI ds i = some d) : Rd p (tOp (rIxL K) ta tb) σ H d := fun H1 Q s q =>
  h1 H1 _ s fun v H2 s2 hv => h2 H2 _ (s.trans s2) fun w H3 s3 hw => by
    have hv := hv.sm s3
    cases hw
    cases hv with
    | @lst _ xs _ k1 k2 =>
      have hl := k2.length
      unfold atI at hc
      cases hk : ixN ds.length i with
      | none => rw [hk] at hc; cases hc
      | some k =>
        rw [hk] at hc
        have hc' : ds[k]? = some d := hc
        have hkl := (List.getElem?_eq_some_iff.mp hc').1
        obtain ⟨x, hx⟩ : ∃ x, xs[k]? = some x := ⟨_, List.getElem?_eq_getElem (by omega)⟩
        refine g_ixL (sq_of (del_un k1).1) (v := x) ?_ (q _ _ (s2.trans s3) (k2.get hx hc'))
        unfold atI
        rw [hl, hk]
        exact hx
end
section
variable {p : List Addr} {a : Addr} {t ta tb : TE} {ts : TA} {tl th : TO} {σ : L2.St} {H : Hp} {d e : PyData} {ds es : List PyData} {n : Nat} {v : V} {K : PySem.W.Frag} {i j : Int} {lo hi : Option Int}
/-- the first ones to a place, from the end where it is below 0 -/
def cutTo (ds : List PyData) (i : Int) : List PyData := ds.take (if 0 ≤ i then i.toNat else ds.length - (-i).toNat)
theorem cutTo_eq {ds : List PyData} {i : Int} : cutL ds none (some i) = cutTo ds i := by
  unfold cutTo
  by_cases h : 0 ≤ i
  · rw [if_pos h]
    obtain ⟨k, rfl⟩ := Int.eq_ofNat_of_zero_le h
    exact cutL_to
  · rw [if_neg h]
    unfold cutL
    have e2 : HT.sIx ds.length 0 none = 0 := by unfold HT.sIx; simp
    have e1 : HT.sIx ds.length ds.length (some i) = ds.length - (-i).toNat := by
      have hi : i < 0 := by omega
      unfold HT.sIx
      simp [hi]
      omega
    rw [e1, e2, List.drop_zero, Nat.sub_zero]
theorem rd_to (hp : Std p H) (h1 : Rd p ta σ H (.list ds)) (hhi : Rd p tb σ H (.int i)) : Rd p (tSl (rSlL K) ta tNoPart (tPart tb)) σ H (.list (cutTo ds i)) := by
  rw [← cutTo_eq]
  exact rd_cut hp h1 rdo_none (rdo_some hhi)
theorem rd_from (hp : Std p H) (h1 : Rd p ta σ H (.list ds)) (hlo : Rd p tb σ H (.int i)) (h0 : 0 ≤ i) : Rd p (tSl (rSlL K) ta (tPart tb) tNoPart) σ H (.list (ds.drop i.toNat)) := by
  obtain ⟨k, rfl⟩ := Int.eq_ofNat_of_zero_le h0
  rw [show ds.drop ((k : Int)).toNat = cutL ds (some (k : Int)) none from cutL_from.symm]
  exact rd_cut hp h1 (rdo_some hlo) rdo_none
theorem rd_rep2 (hp : Std p H) (h1 : Rd p ta σ H (.list ds)) (hl : ds.length ≤ 1000) : Rd p (tOp rRep ta (tC (.int 2))) σ H (.list (ds ++ ds)) := by
  have := rd_rep (m := 2) hp h1 (rd_int (i := ((2 : Nat) : Int))) ⟨by omega, by decide⟩
  simpa [List.replicate_succ] using this
theorem rd_lenL (h1 : RdA p ts σ H [.list ds]) : Rd p (tCB (rLenL K) ts) σ H (.int ds.length) := fun H1 Q s q =>
  h1 H1 _ s fun vs H2 s2 hv => by
    cases hv with
    | cons hv h0 =>
      cases h0
      cases hv with
      | lst k1 k2 =>
        refine g_lenL (sq_of (del_un k1).1) ?_
        rw [k2.length]
        exact q _ _ s2 (.int _)
theorem rd_lenT {l : List Nat} (h1 : RdA p ts σ H [.str (S l)]) (hl : l.length ≤ 100000) : Rd p (tCB rLenT ts) σ H (.int l.length) := fun H1 Q s q =>
  h1 H1 _ s fun vs H2 s2 hv => by
    cases hv with
    | cons hv h0 =>
      cases h0
      cases hv
      exact g_lenT hl (q _ _ s2 (.int _))
/-- f(x, e) of an own def -/
theorem g_own2 {sp : Sp} {Q : VK} (hv : σ[n]? = some (some v)) (h : Rd p ta σ H (.int i)) (q : ∀ H1, Same H H1 → sp [v, .int i] H1 Q C8.E0) : tOwn sp (tCons (tVar n) (tCons ta tNil)) σ H Q :=
  ⟨v, hv, h H _ (Same.refl _) fun w H2 s2 hw => by cases hw; exact q _ s2⟩
end
section
variable {r : R2} {ta tb : TE} {te : TE} {ts : TA} {σ : L2.St} {H : Hp} {Q : VK} {rr : List V → Hp → VK → Prop}
theorem op_i (h : ta σ H fun x H1 => tb σ H1 fun y H2 => r x y H2 Q) : tOp r ta tb σ H Q := h
end
/-! a list that is found, step by step -/
def Fnd (p : List Addr) (f : Addr) (H : Hp) (ds : List PyData) : Prop := ∃ xs, H f = some (.lst xs) ∧ f ∉ p ∧ DxAll (del (f :: p) H) xs ds
section
variable {p : List Addr} {f q : Addr} {t ta tb te : TE} {ts : TA} {σ : L2.St} {H H' : Hp} {d e : PyData} {ds es : List PyData} {n : Nat} {v : V} {K : PySem.W.Frag} {Q : VK}
theorem Fnd.sm (F : Fnd p f H ds) (s : Same H H') : Fnd p f H' ds := by
  obtain ⟨xs, h1, h2, h3⟩ := F
  exact ⟨xs, s _ _ h1, h2, h3.sm s⟩
theorem Fnd.bt (F : Fnd p f H ds) (s : But q H H') (hq : q ∈ p) : Fnd p f H' ds := by
  obtain ⟨xs, h1, h2, h3⟩ := F
  exact ⟨xs, s _ _ (fun e => h2 (e ▸ hq)) h1, h2, h3.bt s (List.mem_cons_of_mem _ hq)⟩
theorem Fnd.dx (F : Fnd p f H ds) : Dx (del p H) (.ref f) (.list ds) := by
  obtain ⟨xs, h1, h2, h3⟩ := F
  exact .lst (del_get h2 h1) h3.tl
end
section
variable {K : PySem.W.Frag} {c : TT} {A B : TS} {D : Ends} {σ : L2.St} {H : Hp} {b : Bool}
end
theorem atI_hd {α : Type} (x : α) (xs : List α) : atI (x :: xs) 0 = some x := by
  unfold atI ixN
  rw [if_pos (by decide), if_pos (by simp only [List.length_cons]; omega)]
  rfl
section
variable {p : List Addr} {f : Addr} {ts : TA} {σ : L2.St} {H H' : Hp} {d : PyData} {ds : List PyData} {n : Nat} {v : V} {K : PySem.W.Frag} {Q : VK} {R : Hp → Prop}
theorem Fnd.set (F : Fnd p f H ds) (hd : Dx (del (f :: p) H) v d) (hn : n < ds.length) (q : ∀ H', But f H H' → Fnd p f H' (ds.set n d) → R H') : rSetL (.ref f) (.int (n : Int)) v H R := by
  obtain ⟨xs, h1, h2, h3⟩ := F
  refine g_setLn n h1 rfl (by rw [h3.length]; exact hn) fun H3 b3 e3 => ?_
  exact q H3 b3 ⟨_, e3, h2, dxa_set (hd.bt b3 (List.mem_cons_self ..)) (h3.bt b3 (List.mem_cons_self ..))⟩
end
/-! sizes -/
section
variable {k : Nat} {ds es : List PyData} {d : PyData} {i : Int}
theorem nca_nil : ncA k [] = true := by rw [ncA]
theorem nca_cons (h : nc k d = true) (hs : ncA k ds = true) : ncA k (d :: ds) = true := by rw [ncA, h, hs]; rfl
theorem nca_app (h : ncA k ds = true) (hs : ncA k es = true) : ncA k (ds ++ es) = true := by rw [ncA_app, h, hs]; rfl
theorem nca_sub (h : ncA k ds = true) (hs : ∀ d ∈ es, d ∈ ds) : ncA k es = true := ncA_mem.mpr fun d hd => ncA_mem.mp h d (hs d hd)
theorem nca_take {n : Nat} (h : ncA k ds = true) : ncA k (ds.take n) = true := nca_sub h fun d hd => List.mem_of_mem_take hd
theorem nca_drop {n : Nat} (h : ncA k ds = true) : ncA k (ds.drop n) = true := nca_sub h fun d hd => List.mem_of_mem_drop hd
theorem nca_cutTo (h : ncA k ds = true) : ncA k (cutTo ds i) = true := nca_take h
theorem nca_rev (h : ncA k ds = true) : ncA k ds.reverse = true := nca_sub h fun d hd => List.mem_reverse.mp hd
theorem nc_non : nc k .none = true := by cases k <;> rfl
theorem nc_bl {b : Bool} : nc k (.bool b) = true := by cases k <;> rfl
theorem nc_int (h : i.natAbs ≤ 1000000) : nc k (.int i) = true := by
  have : decide (i.natAbs < 10 ^ 100) = true := decide_eq_true (Nat.lt_of_le_of_lt h (by decide))
  cases k <;> exact this
theorem nc_big (h : i.natAbs < 10 ^ 100) : nc k (.int i) = true := by
  have : decide (i.natAbs < 10 ^ 100) = true := decide_eq_true h
  cases k <;> exact this
theorem nc_strS {l : List Nat} (h1 : l.length ≤ 20) (h2 : ∀ c ∈ l, c < 1114112) : nc k (.str (S l)) = true := by
  have : (decide ((S l).length ≤ 20) && (S l).cps.toList.all fun c => decide (c < 1114112)) = true := by
    rw [S_len, decide_eq_true h1, Bool.true_and]
    exact List.all_eq_true.mpr fun c hc => decide_eq_true (h2 c hc)
  cases k <;> exact this
theorem nc_dic : nc k (.dict []) = true := by cases k <;> rfl
theorem nc_tup (hl : ds.length ≤ nbK (k + 1)) (h : ncA k ds = true) : nc (k + 1) (.tuple ds) = true := by
  simp only [nc]
  rw [decide_eq_true hl, h]
  rfl
theorem nc_lst (hl : ds.length ≤ nbK (k + 1)) (h : ncA k ds = true) : nc (k + 1) (.list ds) = true := by
  simp only [nc]
  rw [decide_eq_true hl, h]
  rfl
theorem nc_tup0 : nc k (.tuple []) = true := by cases k <;> rfl
theorem nc_lst0 : nc k (.list []) = true := by cases k <;> rfl
end
/-! a list of things, some of them known -/
theorem dx_lst_inv {H : Hp} {v : V} {ds : List PyData} (h : Dx H v (.list ds)) : ∃ a xs, v = .ref a ∧ H a = some (.lst xs) ∧ DxAll H xs ds := by
  cases h with
  | lst k1 k2 => exact ⟨_, _, rfl, k1, k2⟩
end Ly

set_option maxHeartbeats 4000000
namespace Ly
open PySem PySem.Spec PyProof.Rows L2 SX
/-! ### calls of defs that show things -/
section
variable {X : Cx} {k j : Nat} {x : Str} {sp : Sp} {p pos : Pos} {e : Expr} {es : List Expr} {t : TA} {f : Addr} {fd : FuncData} {ps : List Str}
theorem run_fnG {pins : List (Addr × Obj)} {σ : L2.St} {H : Hp} {s : Shared} {Q : VK} {us : List Value} {vs : List V} (F : FnG X.prog X.w X.K X.mg X.base C8.CX0 k f fd ps sp) (hr : Room k X.A) (hgd : X.A.guards = some []) (hb : Binds X.K fd ps [])
    (I : Inv X pins σ H s) (r : Vals vs us) (h : sp vs H Q C8.E0) : wpAny (model X.prog X.w) X.A (call (.ref f) us) (EP X pins σ Q) X.xe s := by
  have hl : us.length = ps.length := by rw [← r.length]; exact F.len _ _ _ _ h
  have b := hb s us I.kIn (by rw [List.append_nil]; exact hl)
  rw [List.append_nil] at b
  refine wpAny_call (codeAny_mono (F.run X.A X.stack s H ⟨us, []⟩ us vs Q C8.E0 hr hgd I.env0 b r h) fun r s' hq => ?_)
  cases r with
  | error e => exact pass0 pins σ H s e s' I hq
  | ok fl =>
    cases fl with
    | ret u => exact I.after hq
    | next => exact False.elim hq
    | brk => exact False.elim hq
    | cont => exact False.elim hq
theorem pe_ownG (c : CalG X.prog X.w X.K X.mg X.base k x sp) (hgd : X.A.guards = some []) (hr : Room j X.A) (hk : k ≤ j) (hg : Gl X x) (ha : PA X (e :: es) t)
    (hdb : (x == ("__debug__" : Str)) = false := by decide) (he : starEach (e :: es) X.env = (false, eval e X.env) :: starEach es X.env := by rfl) (hpl : (backTo pos (starEach es X.env)).any (·.1) = false := by rfl) :
    PE X (.Call (.Name x p) (e :: es) [] pos) (tOwn sp t) := by
  obtain ⟨f, fd, ps, F, hm, hkp, b⟩ := c.ex
  refine ⟨fun pins s σ H Q I h => ?_⟩
  refine wpAny_Call_Name_kw (ld_glob I hg hm ?_ hdb)
  refine PySem.W.callWith_K (h₀ := X.base) I.ok.mod.kin hkp (thn (ha.run pos pins s σ H _ I h) fun us s1 ⟨vs, H1, I1, r, q⟩ => ⟨I1.kIn, ?_⟩) he hpl
  exact run_fnG F (hr.mono hk) hgd b I1 r q
end
end Ly

set_option maxHeartbeats 4000000
namespace Ly
open PySem PySem.Spec PyProof.Rows L2 SX
/-! ### == of any list with the empty one; of a thing with itself or a copy -/
def rNeE (K : PySem.W.Frag) : R2 := fun x y H Q => ∃ a b xs, x = .ref a ∧ y = .ref b ∧ SqL K H a xs ∧ SqL K H b [] ∧ Q (.bl (!decide (xs = []))) H
section
variable {X : Cx} {f : Value → Value → Sem Value} {r1 r2 : R2}
theorem op_neE (hu : X.A.units + 64 < cLine) : OpR X (compareOp .NotEq) (rNeE X.K) := by
  intro pins s σ H x y v u Q I rx ry h
  obtain ⟨a, b, xs, rfl, rfl, ha, hb, q⟩ := h
  cases (show v = Value.ref a from rx)
  cases (show u = Value.ref b from ry)
  obtain ⟨us, v1, p1, _⟩ := I.list ha
  obtain ⟨ws, v2, p2, _⟩ := I.list hb
  cases v2
  cases xs with
  | nil =>
    cases v1
    exact SeqAt.RcNeAt.lists (e := fun _ => true) p1.isList p2.isList rfl (by omega) (fun j h1 => absurd h1 (Nat.not_lt_zero j)) _ _ _ _ ⟨.bl false, H, I, rfl, q⟩
  | cons x xs =>
    cases v1 with
    | cons e1 e2 => exact SeqAt.RcNeAt.lists_lengths p1.isList p2.isList (by simp) (by omega) _ _ _ _ ⟨.bl true, H, I, rfl, q⟩
end
section
variable {K : PySem.W.Frag} {H : Hp} {Q : VK} {a b : Addr} {xs : List V} {v : V} {d : PyData}
theorem g_neE (h1 : SqL K H a xs) (h2 : H b = some (.lst [])) (q : Q (.bl (!decide (xs = []))) H) : rNeE K (.ref a) (.ref b) H Q := ⟨a, b, xs, rfl, rfl, h1, sq_of h2, q⟩
end
/-! sorted(list of ints), any length -/
end Ly

set_option maxHeartbeats 4000000
namespace Ly
open PySem PySem.Spec PyProof.Rows L2 SX
/-! ### brackets that stand alone, and mendings of them -/
inductive Lon : List Nat → List Nat → Prop
  | base {w : List Nat} : clean w → Lon w []
  | snoc {x ps : List Nat} {c : Nat} {w : List Nat} : Lon x ps → c ∈ BRK → clean w → Lon (x ++ c :: w) (ps ++ [x.length])
theorem Lon.app {x ps v : List Nat} (h : Lon x ps) (hv : clean v) : Lon (x ++ v) ps := by
  cases h with
  | base hw => exact .base (clean_app hw hv)
  | snoc h hc hw =>
    rw [List.append_assoc, List.cons_append]
    exact .snoc h hc (clean_app hw hv)
theorem Lon.push {x ps : List Nat} {c : Nat} (h : Lon x ps) (hc : c ∈ BRK) : Lon (x ++ [c]) (ps ++ [x.length]) := .snoc h hc clean_nil
theorem Lon.letter {x ps : List Nat} {c : Nat} (h : Lon x ps) (hc : c ∉ BRK) : Lon (x ++ [c]) ps := h.app (clean_one hc)
theorem Lon.lt {x ps : List Nat} (h : Lon x ps) : ∀ p ∈ ps, p < x.length ∧ ∃ c ∈ BRK, x[p]? = some c := by
  induction h with
  | base _ => intro p hp; cases hp
  | @snoc y ps' c' w h1 h2 h3 ih =>
    intro p hp
    rcases List.mem_append.mp hp with hp | hp
    · obtain ⟨k1, c, k2, k3⟩ := ih p hp
      refine ⟨by rw [List.length_append]; omega, c, k2, ?_⟩
      rw [List.getElem?_append_left k1]
      exact k3
    · rw [List.mem_singleton.mp hp]
      refine ⟨by rw [List.length_append, List.length_cons]; omega, c', h2, ?_⟩
      rw [List.getElem?_append_right (Nat.le_refl _), Nat.sub_self]
      rfl
/-! all alone ones struck -/
/-! each with a partner beside it -/
/-! all brackets struck -/
/-! the alone ones turned into pairs -/
end Ly

set_option maxHeartbeats 4000000
namespace Ly
open PySem PySem.Spec PyProof.Rows L2 SX
/-! ### the statements within a statement -/
/-! ### a dict of texts by texts at the top of the module -/
/-- at a stands a written dict: these texts by these texts -/
def MkD (w : World) (K : PySem.W.Frag) (a : Addr) (kvs : List (Str × Str)) : Prop := dicT K a = some (entsOf w.params kvs)
theorem entT_inv {e : DictEntry} {x y : Str} {h : Int} (q : entT e = some (x, y, h)) : (∃ t, e.key = .str x t) ∧ (∃ t, e.val = .str y t) ∧ e.hash = h := by
  unfold entT at q
  split at q
  · rename_i x' t y' t' e1 e2
    have q' := Option.some.inj q
    obtain ⟨q1, q2⟩ := Prod.mk.inj q'
    obtain ⟨q3, q4⟩ := Prod.mk.inj q2
    subst q1 q3 q4
    exact ⟨⟨_, e1⟩, ⟨_, e2⟩, rfl⟩
  · cases q
theorem MkD.es {w : World} {K : PySem.W.Frag} {a : Addr} {kvs : List (Str × Str)} (D : MkD w K a kvs) : ∃ es n, K.lookup a = some ⟨.type "dict", none, .dict es n, #[]⟩ ∧ es.toList.map entT = entsOf w.params kvs ∧ (a == sysModules) = false := by
  unfold MkD dicT at D
  split at D
  · rename_i c es n sl q
    cases z : (decide (c = "dict") && (sl.isEmpty && !(a == sysModules))) with
    | false => rw [z] at D; cases D
    | true =>
      rw [z] at D
      rw [Bool.and_eq_true, Bool.and_eq_true] at z
      obtain ⟨z1, z2, z3⟩ := z
      have e1 : c = "dict" := of_decide_eq_true z1
      have e2 : sl = #[] := Array.isEmpty_iff.mp z2
      subst e1 e2
      exact ⟨es, n, q, Option.some.inj D, by simpa using z3⟩
  · cases D
/-- what stands by a key -/
def byK (kvs : List (Str × Str)) (x : Str) : Option Str := (kvs.find? fun kv => kv.1 == x).map Prod.snd
theorem find_ents {P : Params} {x : Str} : ∀ {l : List DictEntry} {kvs : List (Str × Str)}, l.map entT = entsOf P kvs → l.any (·.refKey) = false ∧
    match byK kvs x with
    | some y => ∃ e t, l.find? (·.key.isStr x) = some e ∧ e.val = .str y t
    | none => l.find? (·.key.isStr x) = none
  | [], kvs, h => by
    cases kvs with
    | nil => exact ⟨rfl, rfl⟩
    | cons kv kvs => cases h
  | e :: r, [], h => by cases h
  | e :: r, kv :: kvs, h => by
    have h1 : entT e :: r.map entT = some (kv.1, kv.2, PyData.keyHash P kv.1) :: entsOf P kvs := h
    injection h1 with h2 h3
    obtain ⟨⟨t, k1⟩, ⟨t', k2⟩, _⟩ := entT_inv h2
    obtain ⟨i1, i2⟩ := find_ents (x := x) h3
    refine ⟨by rw [List.any_cons, i1, Bool.or_false]; unfold DictEntry.refKey; rw [k1], ?_⟩
    have ek : e.key.isStr x = (kv.1 == x) := by rw [k1]; rfl
    unfold byK at i2 ⊢
    rw [List.find?_cons, List.find?_cons]
    simp only [ek]
    cases hb : (kv.1 == x) with
    | true => exact ⟨e, t', rfl, k2⟩
    | false => exact i2
theorem MkD.nsIn {w : World} {K : PySem.W.Frag} {a : Addr} {kvs : List (Str × Str)} (D : MkD w K a kvs) (x : Str) : ∃ r, PySem.W.nsIn K a x = some r ∧ match byK kvs x with
    | some y => ∃ t, r = some (.str y t)
    | none => r = none := by
  obtain ⟨es, n, h1, h2, h3⟩ := D.es
  obtain ⟨f1, f2⟩ := find_ents (x := x) h2
  unfold PySem.W.nsIn
  rw [h1]
  cases hb : byK kvs x with
  | none =>
    rw [hb] at f2
    dsimp only at f2 ⊢
    rw [f2]
    refine ⟨none, ?_, rfl⟩
    simp only [f1, Bool.false_eq_true, if_false]
  | some y =>
    rw [hb] at f2
    obtain ⟨e, t, k1, k2⟩ := f2
    dsimp only
    rw [k1]
    exact ⟨some e.val, rfl, t, by rw [k2]⟩
theorem MkD.some {w : World} {K : PySem.W.Frag} {a : Addr} {kvs : List (Str × Str)} (D : MkD w K a kvs) (x : Str) : ∃ r, PySem.W.nsIn K a x = some r ∧ r.isSome = (byK kvs x).isSome := by
  obtain ⟨r, h1, h2⟩ := D.nsIn x
  refine ⟨r, h1, ?_⟩
  cases hb : byK kvs x with
  | none => rw [hb] at h2; rw [show r = none from h2]; rfl
  | some y => rw [hb] at h2; obtain ⟨t, rfl⟩ := h2; rfl
/-! the keys, one by one -/
def Itmk (kvs : List (Str × Str)) : It := ⟨fun i _ => i < kvs.length, fun i H x H' => H' = H ∧ ∃ kv, kvs[i]? = some kv ∧ x = .str kv.1, fun i _ => kvs.length ≤ i⟩
def iKd (d : Addr) (kvs : List (Str × Str)) (td : TE) : TI := fun σ H R => td σ H fun x H1 => x = .ref d ∧ R (Itmk kvs) H1
/-! the head's facts with such dicts -/
theorem SaysM.at_ {ds : List KdD} {w : World} {K : PySem.W.Frag} (c : SaysM ds w K) (i : Nat) {d : KdD} (h : ds[i]? = some d := by rfl) : MkD w K (d.at_ K) d.kvs := by
  have e : (obsM ds K)[i]? = (valM ds w)[i]? := congrArg (fun l => l[i]?) c
  unfold obsM valM at e
  rw [List.getElem?_map, List.getElem?_map, h] at e
  exact Option.some.inj e
end Ly

set_option maxHeartbeats 4000000
namespace Ly
open PySem PySem.Spec PyProof.Rows L2 SX
/-! ### figures -/
/-! ### s.rstrip(signs) -/
/-! ### a comprehension over a dict's keys -/
/-! ### deeds written -/
def Dw.mk : Dw → Nat
  | .put _ => 43
  | .str => 45
  | .trn _ => 61
theorem Dds.app {H H' : Hp} {a b c : Addr} {r1 r2 : List Addr} {d1 d2 : List Deed} (h1 : Dds H a r1 d1) (h2 : Dds H b r2 d2) (s : Same H H') (e : H' c = some (.lst (r1.map V.ref ++ r2.map V.ref))) : Dds H' c (r1 ++ r2) (d1 ++ d2) := by
  refine ⟨by rw [e, List.map_append], by rw [List.length_append, List.length_append, h1.len, h2.len], fun k r d hr hd => ?_⟩
  have hl := h1.len
  by_cases hk : k < r1.length
  · rw [List.getElem?_append_left hk] at hr
    rw [List.getElem?_append_left (by omega)] at hd
    exact s _ _ (h1.it k r d hr hd)
  · rw [List.getElem?_append_right (by omega)] at hr
    rw [List.getElem?_append_right (by omega), ← hl] at hd
    exact s _ _ (h2.it _ r d hr hd)
theorem Dds.one {H H' : Hp} {t a : Addr} {d : Deed} (h : H t = some (.tup (ddV d))) (s : Same H H') (e : H' a = some (.lst [.ref t])) : Dds H' a [t] [d] := by
  refine ⟨e, rfl, fun k r x hr hx => ?_⟩
  cases k with
  | zero => rw [← Option.some.inj hr, ← Option.some.inj hx]; exact s _ _ h
  | succ k => cases hr
end Ly

set_option maxHeartbeats 4000000
namespace Ly
open PySem PySem.Spec PyProof.Rows L2 SX
/-! ### repr of things whose size is told -/
section
variable {X : Cx}
end
theorem Dx.two {H : Hp} {p : Addr} {v w : V} {a b : PyData} (h : H p = some (.lst [v, w])) (ha : Dx H v a) (hb : Dx H w b) : Dx H (.ref p) (.list [a, b]) := .lst h (.cons ha (.cons hb .nil))
end Ly

set_option maxHeartbeats 4000000
namespace Ly
open PySem PySem.Spec PyProof.Rows L2 SX
/-! ### outlines of any text read -/
/-! lines of a text -/
/-! depth and size by the lines -/
/-! lines put together -/
end Ly

set_option maxHeartbeats 4000000
namespace Ly
/-! ### least rows by first steps -/
/-- what is done at the first sign (h), and one part from a on; or two parts, from a to m, and behind t from b on -/
inductive Fs where
  | one (h : Stp) (a : Nat)
  | two (h : Stp) (a m : Nat) (t : Stp) (b : Nat)
  deriving DecidableEq
def cN (l : List Nat) (i j : Nat) : Nat := match mcN l wAll i j with | some p => p.1 | none => 0
def kN (l : List Nat) (i j : Nat) : Nat := cnt (mcN l wAll i j)
def Fs.ds (i : Nat) : Fs → List Deed
  | .one h _ => ddS i [h]
  | .two h _ m t _ => ddS i [h] ++ ddS m [t]
def Fs.parts (j : Nat) : Fs → List (Nat × Nat)
  | .one _ a => [(a, j)]
  | .two _ a m _ b => [(a, m), (b, j)]
def Fs.num (l : List Nat) (i j : Nat) (s : Fs) : Nat := (s.ds i).length + ((s.parts j).map fun p => cN l p.1 p.2).sum
def Fs.man (l : List Nat) (j : Nat) : Fs → Nat
  | .one _ a => kN l a j
  | .two _ a m _ b => kN l a m * kN l b j
/-! the parts are told by what they make -/
/-! how many there are -/
def Fs.val (l : List Nat) (i j : Nat) (s : Fs) : Nat × Nat := (s.num l i j, s.man l j)
/-! ### shares -/
end Ly

set_option maxHeartbeats 4000000
namespace Ly
open PySem PySem.Spec PyProof.Rows L2 SX
/-! ### sorted(..) of what reads as data -/
section
variable {X : Cx}
end
/-! ### dicts by deeds -/
def dkey (d : Deed) : List Key := [.inl (d.1 : Nat), .inr (S d.2.w), .inr (S d.2.s)]
theorem dkey_inj {d e : Deed} (h : dkey d = dkey e) : d = e := by
  unfold dkey at h
  injection h with h1 h
  injection h with h2 h
  injection h with h3 _
  have e1 := Sum.inl.inj h1
  obtain ⟨x, v⟩ := d
  obtain ⟨y, w⟩ := e
  have e2 : v = w := dw_inj (S_inj (Sum.inr.inj h2)) (S_inj (Sum.inr.inj h3))
  have e3 : x = y := by
    have : ((x : Nat) : Int) = (y : Nat) := e1
    omega
  rw [e2, e3]
/-- a dict at a that tells f, of deeds of E alone -/
structure SDt (H : Hp) (a : Addr) (E : List Deed) (f : Deed → Nat) (kvs : List (List Key × V)) : Prop where
  ob : H a = some (.dT kvs)
  nd : (kvs.map (·.1)).Nodup
  mem : ∀ p ∈ kvs, ∃ d, p.1 = dkey d ∧ d ∈ E
  val : ∀ d, valV kvs (dkey d) = if f d = 0 then none else some (.int (f d : Nat))
def SD (H : Hp) (a : Addr) (E : List Deed) (f : Deed → Nat) : Prop := ∃ kvs, SDt H a E f kvs
section
variable {H H1 : Hp} {a b p : Addr} {E : List Deed} {f : Deed → Nat} {Q : VK} {R : Hp → Prop}
theorem SD.same (h : SD H a E f) (s : Same H H1) : SD H1 a E f := by
  obtain ⟨kvs, h⟩ := h
  exact ⟨kvs, s _ _ h.ob, h.nd, h.mem, h.val⟩
theorem SD.but (h : SD H a E f) (s : But p H H1) (hn : a ≠ p) : SD H1 a E f := by
  obtain ⟨kvs, h⟩ := h
  exact ⟨kvs, s _ _ hn h.ob, h.nd, h.mem, h.val⟩
theorem SD.ne (h : SD H a E f) (hb : H b = none) : a ≠ b := by
  obtain ⟨kvs, h⟩ := h
  rintro rfl
  rw [h.ob] at hb
  cases hb
theorem SD.congr {g : Deed → Nat} (h : SD H a E f) (e : ∀ d, f d = g d) : SD H a E g := by
  rw [← (funext e : f = g)]
  exact h
/-- the deeds in it -/
theorem SDt.deeds {kvs : List (List Key × V)} (h : SDt H a E f kvs) : ∃ ds : List Deed, kvs.map (·.1) = ds.map dkey ∧ ds.Nodup ∧ (∀ d, d ∈ ds ↔ f d ≠ 0) ∧ ∀ d ∈ ds, d ∈ E := by
  have key : ∀ ks : List (List Key × V), (∀ p ∈ ks, ∃ d, p.1 = dkey d ∧ d ∈ E) → ∃ ds : List Deed, ks.map (·.1) = ds.map dkey ∧ ∀ d ∈ ds, d ∈ E := by
    intro ks
    induction ks with
    | nil => exact fun _ => ⟨[], rfl, fun _ h => nomatch h⟩
    | cons p r ih =>
      intro hm
      obtain ⟨d, e, hd⟩ := hm p List.mem_cons_self
      obtain ⟨ds, e2, h2⟩ := ih fun q hq => hm q (List.mem_cons_of_mem _ hq)
      refine ⟨d :: ds, by rw [List.map_cons, List.map_cons, e, e2], fun x hx => ?_⟩
      rcases List.mem_cons.mp hx with e | hx
      · rw [e]; exact hd
      · exact h2 x hx
  obtain ⟨ds, e, hE⟩ := key kvs h.mem
  have hnd := h.nd
  rw [e] at hnd
  have hn : ds.Nodup := (List.pairwise_map.mp hnd).imp fun hab q => hab (by rw [q])
  refine ⟨ds, e, hn, fun d => ⟨fun hd hf => ?_, fun hf => ?_⟩, hE⟩
  · have hv := h.val d
    rw [if_pos hf] at hv
    have := valV_not hv
    rw [e] at this
    exact this (List.mem_map.mpr ⟨d, hd, rfl⟩)
  · have hv := h.val d
    rw [if_neg hf] at hv
    have := valV_in hv
    rw [e] at this
    obtain ⟨d', hd', e'⟩ := List.mem_map.mp this
    rw [← dkey_inj e']
    exact hd'
theorem SDt.len {kvs : List (List Key × V)} (h : SDt H a E f kvs) : kvs.length ≤ E.length := by
  obtain ⟨ds, e, hn, _, hE⟩ := h.deeds
  have := nodup_len ds E hn hE
  have e' := congrArg List.length e
  rw [List.length_map, List.length_map] at e'
  omega
theorem SD.get {d : Deed} (h : SD H a E f) (hb : H b = some (.tup (ddV d))) : DGet H a (.ref b) (if f d = 0 then none else some (.int (f d : Nat))) := by
  obtain ⟨kvs, h⟩ := h
  rw [← h.val]
  exact DGet.t (k := dkey d) h.ob hb
theorem SDt.put {d : Deed} {n : Nat} {kvs : List (List Key × V)} (h : SDt H a E f kvs) (hd : d ∈ E) (hn : n ≠ 0) (e : H1 a = some (.dT (putK kvs (dkey d) (.int n)))) : SDt H1 a E (fun x => if x = d then n else f x) (putK kvs (dkey d) (.int n)) := by
  refine ⟨e, ?_, fun p hp => ?_, fun x => ?_⟩
  · rw [putK_fst]
    split
    · exact h.nd
    · rename_i hk
      refine List.nodup_append.mpr ⟨h.nd, List.pairwise_singleton _ _, fun x hx y hy q => hk ?_⟩
      rw [← List.mem_singleton.mp hy, ← q]
      exact hx
  · have h1 : p.1 ∈ (putK kvs (dkey d) (V.int n)).map (·.1) := List.mem_map.mpr ⟨p, hp, rfl⟩
    rw [putK_fst] at h1
    have h2 : p.1 ∈ kvs.map (·.1) ∨ p.1 = dkey d := by
      split at h1
      · exact .inl h1
      · rcases List.mem_append.mp h1 with h1 | h1
        · exact .inl h1
        · exact .inr (List.mem_singleton.mp h1)
    rcases h2 with h2 | h2
    · obtain ⟨q, hq, e⟩ := List.mem_map.mp h2
      obtain ⟨d', e', hd'⟩ := h.mem q hq
      exact ⟨d', by rw [← e, e'], hd'⟩
    · exact ⟨d, h2, hd⟩
  · rw [valV_put]
    show _ = if (if x = d then n else f x) = 0 then none else some (V.int ((if x = d then n else f x : Nat)))
    by_cases q : x = d
    · subst q
      rw [if_pos rfl, if_pos rfl, if_neg hn]
    · rw [if_neg fun z => q (dkey_inj z), if_neg q, h.val]
end
theorem SD.ex {H : Hp} {a : Addr} {E : List Deed} {f : Deed → Nat} (h : SD H a E f) : ∃ g, SD H a E g ∧ ∀ d, g d = f d := ⟨f, h, fun _ => rfl⟩
/-! `for d in dict` -/
/-! ### sorted(dict by deeds) -/
theorem le_total : PySem.W.TotalLe (PySem.W.dataLe false ddD) := PySem.W.sortLe_total _ _ _
section
variable {X : Cx}
end
/-! ### whole numbers: name *= e -/
/-! lists of pairs as they stand in the heap, and new -/
/-- a first step as it stands in the heap; its lists were not there in G -/
def FsH (G H : Hp) (j i : Nat) (v : V) (s : Fs) : Prop := ∃ t da pa rs, v = .ref t ∧ H t = some (.tup [.ref da, .ref pa]) ∧ Dds H da rs (s.ds i) ∧ Prs H pa (s.parts j) ∧ G da = none ∧ G pa = none
def FlH (G H : Hp) (l : List Nat) (j i : Nat) (v : V) (s : Fs) : Prop := ∃ t da pa rs, v = .ref t ∧ H t = some (.tup [.ref da, .ref pa, .int (s.man l j : Nat)]) ∧ Dds H da rs (s.ds i) ∧ Prs H pa (s.parts j) ∧ G da = none ∧ G pa = none
/-- a list of deeds, not there in G -/
def DlH (G H : Hp) (f : Nat → List Deed) (v : V) (o : Nat) : Prop := ∃ a rs, v = .ref a ∧ Dds H a rs (f o) ∧ G a = none
section
variable {G G0 H H1 : Hp} {i j fa : Addr} {v : V} {s : Fs} {l : List Nat} {ys : List V} {f : Nat → List Deed} {o : Nat} {u : HO}
theorem FsH.same (h : FsH G H j i v s) (z : Same H H1) : FsH G H1 j i v s := by
  obtain ⟨t, da, pa, rs, e, h1, h2, h3, h4, h5⟩ := h
  exact ⟨t, da, pa, rs, e, z _ _ h1, h2.same z, h3.same z, h4, h5⟩
theorem FsH.old (h : FsH G H j i v s) (z : Same G0 G) : FsH G0 H j i v s := by
  obtain ⟨t, da, pa, rs, e, h1, h2, h3, h4, h5⟩ := h
  exact ⟨t, da, pa, rs, e, h1, h2, h3, z.free h4, z.free h5⟩
theorem FsH.but (h : FsH G H j i v s) (z : But fa H H1) (hf : H fa = some (.lst ys)) (hg : G fa = some u) : FsH G H1 j i v s := by
  obtain ⟨t, da, pa, rs, e, h1, h2, h3, h4, h5⟩ := h
  exact ⟨t, da, pa, rs, e, z _ _ (fun q => by rw [q, hf] at h1; cases h1) h1, h2.but z hf (fun q => by rw [q, hg] at h4; cases h4), h3.but z hf (fun q => by rw [q, hg] at h5; cases h5), h4, h5⟩
theorem FlH.same (h : FlH G H l j i v s) (z : Same H H1) : FlH G H1 l j i v s := by
  obtain ⟨t, da, pa, rs, e, h1, h2, h3, h4, h5⟩ := h
  exact ⟨t, da, pa, rs, e, z _ _ h1, h2.same z, h3.same z, h4, h5⟩
theorem FlH.old (h : FlH G H l j i v s) (z : Same G0 G) : FlH G0 H l j i v s := by
  obtain ⟨t, da, pa, rs, e, h1, h2, h3, h4, h5⟩ := h
  exact ⟨t, da, pa, rs, e, h1, h2, h3, z.free h4, z.free h5⟩
theorem FlH.but (h : FlH G H l j i v s) (z : But fa H H1) (hf : H fa = some (.lst ys)) (hg : G fa = some u) : FlH G H1 l j i v s := by
  obtain ⟨t, da, pa, rs, e, h1, h2, h3, h4, h5⟩ := h
  exact ⟨t, da, pa, rs, e, z _ _ (fun q => by rw [q, hf] at h1; cases h1) h1, h2.but z hf (fun q => by rw [q, hg] at h4; cases h4), h3.but z hf (fun q => by rw [q, hg] at h5; cases h5), h4, h5⟩
theorem DlH.same (h : DlH G H f v o) (z : Same H H1) : DlH G H1 f v o := by
  obtain ⟨a, rs, e, h1, h2⟩ := h
  exact ⟨a, rs, e, h1.same z, h2⟩
theorem DlH.old (h : DlH G H f v o) (z : Same G0 G) : DlH G0 H f v o := by
  obtain ⟨a, rs, e, h1, h2⟩ := h
  exact ⟨a, rs, e, h1, z.free h2⟩
theorem DlH.but (h : DlH G H f v o) (z : But fa H H1) (hf : H fa = some (.lst ys)) (hg : G fa = some u) : DlH G H1 f v o := by
  obtain ⟨a, rs, e, h1, h2⟩ := h
  exact ⟨a, rs, e, h1.but z hf (fun q => by rw [q, hg] at h2; cases h2), h2⟩
end
end Ly

set_option maxHeartbeats 4000000
namespace Ly
open PySem PySem.Spec PyProof.Rows L2 SX
end Ly

set_option maxHeartbeats 4000000
namespace Ly
/-! ### all rows of steps, in another order -/
/-! how many least rows a short text has at most -/
end Ly

set_option maxHeartbeats 4000000
namespace Ly
/-! ### in a least row no two puts stand side by side, so no deed stands twice -/
end Ly

set_option maxHeartbeats 4000000
set_option exponentiation.threshold 20000
namespace Ly
open PySem PySem.Spec PyProof.Rows PySem.Calls PySem.NumText L2 SX
/-! ### figures of any number -/
/-! ### len of a dict with flat keys -/
/-! ### all shares together -/
end Ly

set_option maxHeartbeats 4000000
namespace Ly
open PySem PySem.Spec PyProof.Rows L2 SX
/-! ### list() and dict() of shares -/
end Ly

set_option maxHeartbeats 4000000
namespace Ly
open PySem PySem.Spec PyProof.Rows L2 SX
/-! ### the share of a single deed -/
end Ly

set_option maxHeartbeats 4000000
namespace Ly
open PySem PySem.Spec PyProof.Rows PySem.Calls PySem.NumText L2 SX
/-! ### figures: their first, how many -/
end Ly

set_option maxHeartbeats 4000000
namespace Ly
open PySem PySem.Spec PyProof.Rows L2 SX
section
variable {X : Cx} {ik ip : Nat} {kx px z : Str} {y1 y2 y3 y4 : Str}
end
end Ly

set_option maxHeartbeats 4000000
namespace Ly
open PySem PySem.Spec PyProof.Rows L2 SX
/-- a call that may be read by either of two promises -/
def tAlt (t1 t2 : TE) : TE := fun σ H Q => t1 σ H Q ∨ t2 σ H Q
end Ly

set_option maxHeartbeats 4000000
namespace Ly
open PySem PySem.Spec PyProof.Rows L2 SX
/-! things of any depth: what may be in them, how long they are shown, nests among them -/
mutual
/-- what may stand in a thing -/
def gd : PyData → Bool
  | .none => true
  | .bool _ => true
  | .int i => decide (i.natAbs < 10 ^ 100)
  | .str s => decide (s.length ≤ 20) && s.cps.toList.all fun c => decide (c < 1114112)
  | .list ds => gdA ds
  | .tuple ds => gdA ds
  | .dict ds => ds.isEmpty
def gdA : List PyData → Bool
  | [] => true
  | d :: ds => gd d && gdA ds
end
mutual
/-- a bound of how long it is shown -/
def wt : PyData → Nat
  | .list ds => wtA ds + 204
  | .tuple ds => wtA ds + 204
  | _ => 204
def wtA : List PyData → Nat
  | [] => 0
  | d :: ds => wt d + 2 + wtA ds
end
theorem gdA_app : ∀ {ds es : List PyData}, gdA (ds ++ es) = (gdA ds && gdA es)
  | [], es => by rw [List.nil_append, gdA, Bool.true_and]
  | d :: ds, es => by rw [List.cons_append, gdA, gdA, gdA_app, Bool.and_assoc]
theorem wtA_app : ∀ {ds es : List PyData}, wtA (ds ++ es) = wtA ds + wtA es
  | [], es => by rw [List.nil_append, wtA, Nat.zero_add]
  | d :: ds, es => by rw [List.cons_append, wtA, wtA, wtA_app]; omega
theorem gdA_mem {ds : List PyData} : gdA ds = true ↔ ∀ d ∈ ds, gd d = true := by
  induction ds with
  | nil => exact ⟨fun _ d h => (by cases h), fun _ => rfl⟩
  | cons d ds ih =>
    rw [gdA, Bool.and_eq_true, ih]
    constructor
    · rintro ⟨h1, h2⟩ e he
      rcases List.mem_cons.mp he with rfl | he
      · exact h1
      · exact h2 e he
    · exact fun h => ⟨h d (List.mem_cons_self ..), fun e he => h e (List.mem_cons_of_mem _ he)⟩
theorem wt_ge : ∀ d : PyData, 204 ≤ wt d
  | .list ds => by rw [wt]; omega
  | .tuple ds => by rw [wt]; omega
  | .none => Nat.le_refl _
  | .bool _ => Nat.le_refl _
  | .int _ => Nat.le_refl _
  | .str _ => Nat.le_refl _
  | .dict _ => Nat.le_refl _
theorem wtA_mem {ds : List PyData} {d : PyData} (h : d ∈ ds) : wt d + 2 ≤ wtA ds := by
  induction ds with
  | nil => cases h
  | cons e ds ih =>
    rw [wtA]
    rcases List.mem_cons.mp h with rfl | h
    · omega
    · have := ih h; omega
theorem wtA_len (ds : List PyData) : 206 * ds.length ≤ wtA ds := by
  induction ds with
  | nil => exact Nat.zero_le _
  | cons d ds ih => rw [wtA, List.length_cons]; have := wt_ge d; omega
mutual
theorem gd_ok : ∀ {d : PyData}, gd d = true → d.showable = true ∧ d.shown.length ≤ wt d
  | .none, _ => ⟨rfl, by simp only [PyData.shown]; decide⟩
  | .bool b, _ => ⟨rfl, by simp only [PyData.shown]; cases b <;> decide⟩
  | .int i, h => by
    have h := leaf_int (of_decide_eq_true (by simpa only [gd] using h))
    exact ⟨by simp only [PyData.showable]; exact decide_eq_true h.1, h.2⟩
  | .str s, h => ⟨rfl, by simp only [PyData.shown]; exact leaf_str (by simpa only [gd] using h)⟩
  | .list ds, h => by
    obtain ⟨a1, a2, a3⟩ := gdA_ok (by simpa only [gd] using h)
    refine ⟨by simp only [PyData.showable]; exact a1, ?_⟩
    simp only [PyData.shown, wt]
    have z := listText_len_le (PyData.shownAll ds)
    omega
  | .tuple ds, h => by
    obtain ⟨a1, a2, a3⟩ := gdA_ok (by simpa only [gd] using h)
    refine ⟨by simp only [PyData.showable]; exact a1, ?_⟩
    simp only [PyData.shown, wt]
    have z := tupleText_len_le (PyData.shownAll ds)
    omega
  | .dict ds, h => by
    have : ds = [] := by simpa [gd] using h
    subst this
    exact ⟨rfl, by simp only [PyData.shown, PyData.shownKv]; decide⟩
theorem gdA_ok : ∀ {ds : List PyData}, gdA ds = true → PyData.showableAll ds = true ∧ ((PyData.shownAll ds).map (·.length)).sum + 2 * (PyData.shownAll ds).length ≤ wtA ds ∧ (PyData.shownAll ds).length = ds.length
  | [], _ => ⟨rfl, by simp [PyData.shownAll, wtA], by simp [PyData.shownAll]⟩
  | d :: ds, h => by
    rw [gdA, Bool.and_eq_true] at h
    obtain ⟨a1, a2⟩ := gd_ok h.1
    obtain ⟨b1, b2, b3⟩ := gdA_ok h.2
    refine ⟨by simp only [PyData.showableAll, a1, b1]; rfl, ?_, ?_⟩
    · simp only [PyData.shownAll, List.map_cons, List.sum_cons, List.length_cons, wtA]
      omega
    · simp only [PyData.shownAll, List.length_cons, b3]
end
mutual
theorem nc_gd : ∀ {k : Nat} {d : PyData}, nc k d = true → gd d = true
  | _, .none, _ => rfl
  | _, .bool _, _ => rfl
  | _, .int i, h => by simpa only [nc, gd] using h
  | _, .str s, h => by simpa only [nc, gd] using h
  | k + 1, .list ds, h => by
    simp only [nc, Bool.and_eq_true] at h
    simp only [gd]
    exact ncA_gd h.2
  | k + 1, .tuple ds, h => by
    simp only [nc, Bool.and_eq_true] at h
    simp only [gd]
    exact ncA_gd h.2
  | 0, .list ds, h => by
    have : ds = [] := by simpa [nc] using h
    subst this
    rfl
  | 0, .tuple ds, h => by
    have : ds = [] := by simpa [nc] using h
    subst this
    rfl
  | k, .dict ds, h => by simpa only [nc, gd] using h
theorem ncA_gd : ∀ {k : Nat} {ds : List PyData}, ncA k ds = true → gdA ds = true
  | _, [], _ => rfl
  | k, d :: ds, h => by
    rw [ncA, Bool.and_eq_true] at h
    rw [gdA, nc_gd h.1, ncA_gd h.2]
    rfl
end
mutual
theorem nc_wt : ∀ {k : Nat} {d : PyData}, nc k d = true → wt d ≤ szK k
  | k, .none, _ => szK_mono k
  | k, .bool _, _ => szK_mono k
  | k, .int i, _ => szK_mono k
  | k, .str s, _ => szK_mono k
  | k + 1, .list ds, h => by
    simp only [nc, Bool.and_eq_true] at h
    have h1 := of_decide_eq_true h.1
    have h2 := ncA_wt h.2
    have : ds.length * (szK k + 2) ≤ nbK (k + 1) * (szK k + 2) := Nat.mul_le_mul_right _ h1
    rw [szK, wt]
    omega
  | k + 1, .tuple ds, h => by
    simp only [nc, Bool.and_eq_true] at h
    have h1 := of_decide_eq_true h.1
    have h2 := ncA_wt h.2
    have : ds.length * (szK k + 2) ≤ nbK (k + 1) * (szK k + 2) := Nat.mul_le_mul_right _ h1
    rw [szK, wt]
    omega
  | 0, .list ds, h => by
    have : ds = [] := by simpa [nc] using h
    subst this
    exact Nat.le_refl _
  | 0, .tuple ds, h => by
    have : ds = [] := by simpa [nc] using h
    subst this
    exact Nat.le_refl _
  | k, .dict ds, h => szK_mono k
theorem ncA_wt : ∀ {k : Nat} {ds : List PyData}, ncA k ds = true → wtA ds ≤ ds.length * (szK k + 2)
  | _, [], _ => by rw [wtA]; exact Nat.zero_le _
  | k, d :: ds, h => by
    rw [ncA, Bool.and_eq_true] at h
    have h1 := nc_wt h.1
    have h2 := ncA_wt h.2
    rw [wtA, List.length_cons, Nat.add_mul, Nat.one_mul]
    omega
end
theorem depth_lst {ds : List PyData} {n : Nat} (h : PyData.depthAll ds ≤ n) : PyData.depth (.list ds) ≤ n + 1 := by simp only [PyData.depth]; omega
theorem depth_tup {ds : List PyData} {n : Nat} (h : PyData.depthAll ds ≤ n) : PyData.depth (.tuple ds) ≤ n + 1 := by simp only [PyData.depth]; omega
theorem dpA_app : ∀ {ds es : List PyData}, PyData.depthAll (ds ++ es) = max (PyData.depthAll ds) (PyData.depthAll es)
  | [], es => by rw [List.nil_append]; simp only [PyData.depthAll]; omega
  | d :: ds, es => by rw [List.cons_append]; simp only [PyData.depthAll]; rw [dpA_app]; omega
theorem dpA_le {ds : List PyData} {n : Nat} : PyData.depthAll ds ≤ n ↔ ∀ d ∈ ds, PyData.depth d ≤ n := by
  induction ds with
  | nil => exact ⟨fun _ d h => (by cases h), fun _ => Nat.zero_le _⟩
  | cons d ds ih =>
    simp only [PyData.depthAll]
    constructor
    · intro h e he
      rcases List.mem_cons.mp he with rfl | he
      · omega
      · exact ih.mp (by omega) e he
    · intro h
      have h1 := h d (List.mem_cons_self ..)
      have h2 := ih.mpr fun e he => h e (List.mem_cons_of_mem _ he)
      omega
/-- a thing that may be handed on -/
structure Th (d : PyData) (w p : Nat) : Prop where
  g : gd d = true
  w : wt d ≤ w
  p : PyData.depth d ≤ p
structure ThA (ds : List PyData) (w p : Nat) : Prop where
  g : gdA ds = true
  w : wtA ds ≤ w
  p : PyData.depthAll ds ≤ p
theorem ThA.lst {ds : List PyData} {w p : Nat} (h : ThA ds w p) : Th (.list ds) (w + 204) (p + 1) := ⟨by simp only [gd]; exact h.g, by rw [wt]; have := h.w; omega, depth_lst h.p⟩
theorem ThA.tup {ds : List PyData} {w p : Nat} (h : ThA ds w p) : Th (.tuple ds) (w + 204) (p + 1) := ⟨by simp only [gd]; exact h.g, by rw [wt]; have := h.w; omega, depth_tup h.p⟩
theorem ThA.nil {w p : Nat} : ThA [] w p := ⟨rfl, Nat.zero_le _, Nat.zero_le _⟩
theorem ThA.app {ds es : List PyData} {w w' p : Nat} (h : ThA ds w p) (k : ThA es w' p) : ThA (ds ++ es) (w + w') p := ⟨by rw [gdA_app, h.g, k.g]; rfl, by rw [wtA_app]; exact Nat.add_le_add h.w k.w, by rw [dpA_app]; have := h.p; have := k.p; omega⟩
theorem Th.one {d : PyData} {w p : Nat} (h : Th d w p) : ThA [d] (w + 2) p := ⟨by rw [gdA, h.g]; rfl, by rw [wtA, wtA]; have := h.w; omega, by simp only [PyData.depthAll]; have := h.p; omega⟩
theorem ThA.mono {ds : List PyData} {w w' p p' : Nat} (h : ThA ds w p) (hw : w ≤ w') (hp : p ≤ p') : ThA ds w' p' := ⟨h.g, Nat.le_trans h.w hw, Nat.le_trans h.p hp⟩
theorem Th.mono {d : PyData} {w w' p p' : Nat} (h : Th d w p) (hw : w ≤ w') (hp : p ≤ p') : Th d w' p' := ⟨h.g, Nat.le_trans h.w hw, Nat.le_trans h.p hp⟩
theorem th_str {l : List Nat} (h : l.length ≤ 20) (hc : ∀ c ∈ l, c < 1114112) : Th (.str (S l)) 204 0 := by
  have h' : nc 0 (.str (S l)) = true := nc_strS h hc
  exact ⟨nc_gd h', nc_wt h', Nat.le_refl _⟩
/-! ### nests among things -/
/-- a letter, or a pair with an opening bracket ahead and a thing that f says -/
def itN (f : PyData → Bool) : PyData → Bool
  | .tuple [.str z, d] => oneB z OPN && f d
  | .str z => oneB z LET
  | _ => false
/-- a nest with n more levels -/
def isN : Nat → PyData → Bool
  | 0, .list ds => ds.isEmpty
  | n + 1, .list ds => ds.all (itN (isN n))
  | _, _ => false
/-- the items of a level -/
def okT (d : PyData) : Bool := itN (fun _ => true) d
def kid : PyData → List PyData
  | .tuple [.str _, d] => [d]
  | _ => []
def okL (n : Nat) : PyData → Bool
  | .list ds => (ds.isEmpty || decide (0 < n)) && ds.all okT
  | _ => false
def kidL : PyData → List PyData
  | .list ds => ds.flatMap kid
  | _ => []
theorem it_split (f : PyData → Bool) (d : PyData) : itN f d = (okT d && (okT d → True) && (kid d).all f) := by
  unfold okT itN kid
  split <;> simp
theorem all_flat {α β : Type} (f : β → Bool) (g : α → List β) : ∀ l : List α, (l.flatMap g).all f = l.all fun x => (g x).all f
  | [] => rfl
  | x :: l => by rw [List.flatMap_cons, List.all_append, List.all_cons, all_flat f g l]
theorem it_all (f : PyData → Bool) (ds : List PyData) : ds.all (itN f) = (ds.all okT && (ds.flatMap kid).all f) := by
  rw [all_flat]
  induction ds with
  | nil => rfl
  | cons d ds ih =>
    rw [List.all_cons, List.all_cons, List.all_cons, ih, it_split f d]
    cases okT d <;> cases (kid d).all f <;> cases ds.all okT <;> cases (ds.all fun x => (kid x).all f) <;> simp
theorem isN_one (n : Nat) (d : PyData) : isN n d = (okL n d && (kidL d).all (isN (n - 1))) := by
  cases d with
  | list ds =>
    cases n with
    | zero =>
      cases ds with
      | nil => rfl
      | cons e ds => simp [isN, okL]
    | succ n =>
      show ds.all (itN (isN n)) = ((ds.isEmpty || decide (0 < n + 1)) && ds.all okT && (ds.flatMap kid).all (isN (n + 1 - 1)))
      rw [it_all, decide_eq_true (Nat.succ_pos n), Bool.or_true, Bool.true_and, Nat.add_sub_cancel]
  | _ => cases n <;> rfl
end Ly

set_option maxHeartbeats 4000000
namespace Ly
open PySem PySem.Spec PyProof.Rows L2 SX
/-! nests as things -/
mutual
theorem TrI.dx {H : Hp} : ∀ {v : V} {d : Nd} {A : List Addr}, TrI H v d A → Dx H v (ndD d)
  | _, _, _, .let_ c => by rw [ndD]; exact .str _
  | _, _, _, .num i => by rw [ndD]; exact .int i
  | _, _, _, .br h1 h2 h3 => by rw [ndD]; exact .tup h1 (.cons (.str _) (.cons (.lst h2 (TrIs.dx h3)) .nil))
theorem TrIs.dx {H : Hp} : ∀ {vs : List V} {ds : List Nd} {A : List Addr}, TrIs H vs ds A → DxAll H vs (ndDs ds)
  | _, _, _, .nil => by rw [ndDs]; exact .nil
  | _, _, _, .cons h r => by rw [ndDs]; exact .cons (TrI.dx h) (TrIs.dx r)
end
theorem oneB_one (c : Nat) (m : List Nat) : oneB (S [c]) m = decide (c ∈ m) := by
  unfold oneB
  rfl
mutual
theorem itN_nd : ∀ {n : Nat} {d : Nd}, ndOk1 d → hgI d ≤ n → itN (isN n) (ndD d) = true
  | n, .let_ c, h, _ => by
    rw [ndOk1] at h
    rw [ndD]
    show oneB (S [c]) LET = true
    rw [oneB_one]
    exact decide_eq_true h
  | n, .num i, h, _ => by rw [ndOk1] at h; exact h.elim
  | n, .br o ds, h, hn => by
    rw [ndOk1] at h
    rw [hgI] at hn
    rw [ndD]
    show (oneB (S [o]) OPN && isN n (.list (ndDs ds))) = true
    rw [oneB_one, decide_eq_true h.1, isN_nd h.2 hn]
    rfl
theorem isN_nd : ∀ {n : Nat} {ds : List Nd}, ndOk ds → hgt ds ≤ n → isN n (.list (ndDs ds)) = true
  | 0, [], _, _ => by rw [ndDs]; rfl
  | n + 1, [], _, _ => by rw [ndDs]; rfl
  | 0, d :: ds, _, h => by rw [hgt] at h; omega
  | n + 1, d :: ds, h, hn => by
    rw [ndOk] at h
    rw [hgt] at hn
    rw [ndDs]
    have h2 : isN (n + 1) (.list (ndDs ds)) = true := isN_nd h.2 (by omega)
    show ((itN (isN n) (ndD d)) && (ndDs ds).all (itN (isN n))) = true
    rw [itN_nd h.1 (by omega)]
    exact h2
end
theorem lt_LET : ∀ c ∈ LET, c < 1114112 := by decide
theorem lt_OPN : ∀ c ∈ OPN, c < 1114112 := by decide
mutual
theorem gd_nd : ∀ {d : Nd}, ndOk1 d → gd (ndD d) = true ∧ wt (ndD d) + 2 ≤ 1000 * (txI d).length
  | .let_ c, h => by
    rw [ndOk1] at h
    have := th_str (l := [c]) (by simp) (fun x hx => by rw [List.mem_singleton.mp hx]; exact lt_LET c h)
    rw [ndD, txI]
    exact ⟨this.g, by have := this.w; simp only [List.length_cons, List.length_nil]; omega⟩
  | .num i, h => by rw [ndOk1] at h; exact h.elim
  | .br o ds, h => by
    rw [ndOk1] at h
    have t := th_str (l := [o]) (by simp) (fun x hx => by rw [List.mem_singleton.mp hx]; exact lt_OPN o h.1)
    obtain ⟨g1, g2⟩ := gdA_nd h.2
    rw [ndD, txI]
    constructor
    · simp only [gd, gdA]
      have := t.g
      simp only [gd] at this
      rw [this, g1]
      rfl
    · have := t.w
      simp only [wt, wtA] at this ⊢
      simp only [List.length_cons, List.length_append, List.length_nil]
      omega
theorem gdA_nd : ∀ {ds : List Nd}, ndOk ds → gdA (ndDs ds) = true ∧ wtA (ndDs ds) ≤ 1000 * (txN ds).length
  | [], _ => by rw [ndDs, txN]; exact ⟨rfl, Nat.le_refl _⟩
  | d :: ds, h => by
    rw [ndOk] at h
    obtain ⟨a1, a2⟩ := gd_nd h.1
    obtain ⟨b1, b2⟩ := gdA_nd h.2
    rw [ndDs, txN, List.length_append]
    refine ⟨by rw [gdA, a1, b1]; rfl, by rw [wtA]; omega⟩
end
theorem tha_nd {ds : List Nd} (h : ndOk ds) : ThA (ndDs ds) (1000 * (txN ds).length) (2 * Nd.deeps ds) := ⟨(gdA_nd h).1, (gdA_nd h).2, nd_depth ds⟩
/-- whether a thing is one of the signs -/
def oneX (d : PyData) (m : List Nat) : Bool := match d with
  | .str z => oneB z m
  | _ => false
theorem oneX_not {d : PyData} {m : List Nat} (h : isT d .str = false) : oneX d m = false := by
  cases d with
  | str z => cases h
  | _ => rfl
theorem itN_two (f : PyData → Bool) (a b : PyData) : itN f (.tuple [a, b]) = (oneX a OPN && f b) := by
  cases a <;> rfl
theorem itN_len {f : PyData → Bool} {ds : List PyData} (h : ds.length ≠ 2) : itN f (.tuple ds) = false := by
  match ds, h with
  | [], _ => rfl
  | [a], _ => cases a <;> rfl
  | [a, b], h => exact absurd rfl h
  | a :: b :: c :: r, _ => cases a <;> rfl
theorem itN_other {f : PyData → Bool} {d : PyData} (h : isT d .tuple = false) : itN f d = oneX d LET := by
  cases d with
  | tuple _ => cases h
  | _ => rfl
theorem isN_not {n : Nat} {d : PyData} (h : isT d .list = false) : isN n d = false := by
  cases d with
  | list _ => cases h
  | _ => cases n <;> rfl
theorem all_bad {α : Type} {f : α → Bool} {l : List α} {x : α} (h : x ∈ l) (hx : f x = false) : l.all f = false := by
  rw [Bool.eq_false_iff]
  intro q
  rw [List.all_eq_true.mp q x h] at hx
  cases hx
theorem dxa_turn {H : Hp} {xs : List V} {ds : List PyData} {pre post : List V} {x : V} (h : DxAll H xs ds) (e : xs = pre ++ x :: post) : ∃ d, Dx H x d ∧ d ∈ ds ∧ ds.take (pre ++ [x]).length = ds.take pre.length ++ [d] := by
  have hl := h.length
  have hp : pre.length < ds.length := by rw [← hl, e]; simp
  have hx : xs[pre.length]? = some x := mid_at e
  have hd : ds[pre.length]? = some ds[pre.length] := List.getElem?_eq_getElem hp
  refine ⟨ds[pre.length], h.get hx hd, List.getElem_mem hp, ?_⟩
  rw [List.length_append, List.length_singleton]
  exact (cut_at hd).1
theorem dxa_app {H : Hp} : ∀ {xs ys : List V} {ds es : List PyData}, DxAll H xs ds → DxAll H ys es → DxAll H (xs ++ ys) (ds ++ es)
  | _, _, _, _, .nil, h => h
  | _, _, _, _, .cons h1 h2, h => .cons h1 (dxa_app h2 h)
/-! readings -/
section
variable {K : PySem.W.Frag} {H : Hp} {Q : VK} {v : V} {d : PyData}
theorem isT_list (h : Dx H v d) (ht : isT d .list = true) : ∃ a xs ds, v = .ref a ∧ d = .list ds ∧ H a = some (.lst xs) ∧ DxAll H xs ds := by
  cases h with
  | lst h1 h2 => exact ⟨_, _, _, rfl, rfl, h1, h2⟩
  | _ => cases ht
end
end Ly

set_option maxHeartbeats 4000000
namespace Ly
open PySem PySem.Spec PyProof.Rows L2 SX
/-! ### == of any tuple with the empty one -/
def rEqU0 (K : PySem.W.Frag) : R2 := fun x y H Q => ∃ a b xs, x = .ref a ∧ y = .ref b ∧ SqT K H a xs ∧ SqT K H b [] ∧ Q (.bl (decide (xs = []))) H
section
variable {X : Cx}
theorem size_nil {xs : List V} {its : List Value} (h : Vals xs its) : (its.toArray.size == 0) = decide (xs = []) := by
  cases h with
  | nil => rfl
  | cons _ _ => simp
theorem op_eqU0 (hu : X.A.units + 64 < cLine) : OpR X (compareOp .Eq) (rEqU0 X.K) := by
  intro pins s σ H x y v u Q I rx ry h
  obtain ⟨a, b, xs, rfl, rfl, ha, hb, q⟩ := h
  cases (show v = Value.ref a from rx)
  cases (show u = Value.ref b from ry)
  obtain ⟨us, v1, p1, _⟩ := I.tuple ha
  obtain ⟨ws, v2, p2, _⟩ := I.tuple hb
  cases v2
  refine SeqAt.RcAt.tuples (e := fun _ => true) p1 p2 (by omega) (fun j h1 h2 => absurd h2 (Nat.not_lt_zero j)) _ _ _ _ ⟨.bl (decide (xs = [])), H, I, ?_, q⟩
  show Value.bool _ = Value.bool _
  rw [← size_nil v1]
  simp
end
theorem g_eqU0 {K : PySem.W.Frag} {H : Hp} {Q : VK} {a b : Addr} {xs : List V} (h1 : H a = some (.tup xs)) (h2 : H b = some (.tup [])) (q : Q (.bl (decide (xs = []))) H) : rEqU0 K (.ref a) (.ref b) H Q := ⟨a, b, xs, rfl, rfl, st_of h1, st_of h2, q⟩
/-! ### paths that lead to no bracket -/
/-- what a path of things makes of a nest: whether it is refused; none: at a letter -/
def walkP : Option (List Nd) → List PyData → Bool
  | some _, [] => false
  | none, [] => true
  | none, _ :: _ => true
  | some ds, .int i :: r => if 0 ≤ i then (match ds[i.toNat]? with
    | some (.br _ es) => walkP (some es) r
    | some _ => walkP none r
    | none => true) else true
  | some _, _ :: _ => true
def pathBad (ds : List Nd) : PyData → Bool
  | .tuple [] => true
  | .tuple (p :: r) => walkP (some ds) (p :: r)
  | _ => true
end Ly

set_option maxHeartbeats 4000000
namespace Ly
open PySem PySem.Spec PyProof.Rows L2 SX
/-! ### a text against a dict; a list in a tuple of the empty list and a list of one text -/
theorem str_eq_dict (b : Str) (u : Tok) (l : Addr) (c : Value) (es : Array DictEntry) (n : Nat) (dd : Option Addr) (sl : Array (Option Value)) :
    Meets (Builtin.«str.__eq__» ⟨[.str b u, .ref l], []⟩) (fun _ R s => s.heap.get? l = some { cls := c, dict := dd, data := .dict es n, slots := sl } ∧ R (.ok (.ret .notImplemented)) s) :=
  .of_wp fun prog w A R s h => by obtain ⟨hp, g, d, tk, os⟩ := s; obtain ⟨hl, h⟩ := h; wp_walk using wpAny_loadPart' hl, wpAny_load hl; exact ⟨_, rfl, h⟩
theorem dict_eq_str (l : Addr) (es : Array DictEntry) (n : Nat) (dd : Option Addr) (sl : Array (Option Value)) (b : Str) (u : Tok) :
    Meets (Builtin.«dict.__eq__» ⟨[.ref l, .str b u], []⟩) (fun _ R s => s.heap.get? l = some { cls := .type "dict", dict := dd, data := .dict es n, slots := sl } ∧ R (.ok (.ret .notImplemented)) s) :=
  .of_wp fun prog w A R s h => by obtain ⟨hp, g, d, tk, os⟩ := s; obtain ⟨hl, h⟩ := h; have f1 := F.sub_str_dict; wp_walk using wpAny_loadPart' hl, wpAny_load hl; exact ⟨_, rfl, h⟩
theorem rc_str_dict {A : Around} {s : Shared} {l : Addr} {o : Obj} {es : Array DictEntry} {ep : Nat} (b : Str) (u : Tok) (ho : s.heap.get? l = some o) (hx : o.ExactDict) (hd : o.data = .dict es ep) (hu : A.units < cLine) : SeqAt.RcAt A s (.str b u) (.ref l) false := fun prog w E Q h => by
  obtain ⟨cls, dd, data, sl⟩ := o
  obtain ⟨h1, h2, h3⟩ := hx
  simp only at h1 h2 h3 hd
  subst h1 h2 h3 hd
  exact SeqAt.rc_eq_decline_or (k := false) (typeIs_str s b u) ⟨_, ho, rfl⟩ (by decide) F.sub_dict_str F.slot_str_eq F.slot_dict_eq_refl
    (fun _ hq => call_meets F.slot_str_eq (typeIs_str s b u) F.entry_str_eq (F.args_str_eq_2 _ _) (str_eq_dict b u l (.type "dict") es ep none #[]) ⟨ho, hq⟩)
    (fun _ hq => call_meets F.slot_dict_eq_refl ⟨_, ho, rfl⟩ F.entry_dict_eq (F.args_dict_eq_2 _ _) (dict_eq_str l es ep none #[] b u) ⟨ho, hq⟩)
    (fun _ hq => wpAny_of_eq (rfl : isSame (.str b u) (.ref l) = pure false) hq) (.inr hu) h
theorem ea_str_dict {A : Around} {s : Shared} {l : Addr} {o : Obj} {es : Array DictEntry} {ep : Nat} (b : Str) (u : Tok) (ho : s.heap.get? l = some o) (hx : o.ExactDict) (hd : o.data = .dict es ep) (hu : A.units < cLine) : SeqAt.EqAt A s (.str b u) (.ref l) false := fun prog w E Q h => by
  unfold eqBool
  refine wpAny_holding ?_
  refine wpAny_ite_split (fun hab => absurd (eq_of_beq hab) nofun) (fun _ => ?_)
  exact wpAny_bind (rc_str_dict b u ho hx hd hu prog w E _ (wpAny_truthy_bool h))
def isS (z : Str) : PyData → Bool
  | .str x => z == x
  | _ => false
section
variable {X : Cx}
/-- a text against any thing -/
theorem ea_dx {pins : List (Addr × Obj)} {σ : L2.St} {H : Hp} {s : Shared} {A : Around} {v : V} {d : PyData} {u : Value} {z : Str} {t : Tok} (I : Inv X pins σ H s) (h : Dx H v d) (r : RelV v u) (hu : A.units < cLine) : SeqAt.EqAt A s (.str z t) u (isS z d) := by
  cases h with
  | non => cases r; exact SeqAt.EqAt.str_none _ _
  | bl b => cases r; exact SeqAt.EqAt.str_bool _ _ _
  | int i => obtain ⟨t', rfl⟩ := r; exact SeqAt.EqAt.str_int _ _ _ _
  | str x =>
    obtain ⟨t', rfl⟩ := r
    exact SeqAt.EqAt.str_str _ _ _ _
  | lst ha _ =>
    cases (show u = Value.ref _ from r)
    obtain ⟨its, rv, pl, _⟩ := I.list (.inl (.inl ha))
    exact SeqAt.EqAt.str_list _ _ pl.isList hu
  | tup ha _ =>
    cases (show u = Value.ref _ from r)
    obtain ⟨its, rv, pl, _⟩ := I.tuple (st_of ha)
    exact SeqAt.EqAt.str_tuple _ _ pl hu
  | @dic a ha =>
    cases (show u = Value.ref _ from r)
    obtain ⟨_, _, vs, _, p⟩ := (show ObjOk X.prog X.w H s.heap a (.dK []) from I.hok a _ ha)
    obtain ⟨o, es, ep, h1, h2, h3, _⟩ := p
    exact ea_str_dict _ _ h1 h2 h3 hu
end
/-- [] or a list of z -/
def isOne (z : Str) : PyData → Bool
  | .list [] => true
  | .list [d] => isS z d
  | _ => false
def rInAE : R2 := fun x y H Q => ∃ (c e l : Addr) (d : PyData) (z : Str), y = .ref c ∧ H c = some (.tup [.ref e, .ref l]) ∧ H e = some (.lst []) ∧ H l = some (.lst [.str z]) ∧ Dx H x d ∧ isT d .list = true ∧ (∀ a, x = .ref a → a ≠ e ∧ a ≠ l) ∧ Q (.bl (isOne z d)) H
section
variable {X : Cx}
theorem op_inAE (hu : X.A.units + 64 < cLine) : OpR X (compareOp .In) rInAE := by
  intro pins s σ H x y v u Q I rx ry h
  obtain ⟨c, e, l, d, z, rfl, hc, he, hl, hd, hL, hne, q⟩ := h
  cases (show u = Value.ref c from ry)
  cases hd with
  | @lst a xs ds ha hx =>
    cases (show v = Value.ref a from rx)
    obtain ⟨n1, n2⟩ := hne a rfl
    have nel : e ≠ l := ne_of he hl (by simp)
    obtain ⟨us, r1, p1, _⟩ := I.tuple (st_of hc)
    obtain ⟨ue, r2, p2, _⟩ := I.list (.inl (.inl he))
    obtain ⟨ul, r3, p3, _⟩ := I.list (.inl (.inl hl))
    obtain ⟨ua, r4, p4, _⟩ := I.list (.inl (.inl ha))
    cases r2
    cases r1 with
    | cons q1 r1 =>
    cases r1 with
    | cons q2 r1 =>
    cases r1
    cases r3 with
    | cons q3 r3 =>
    cases r3
    cases (show _ = Value.ref e from q1)
    cases (show _ = Value.ref l from q2)
    obtain ⟨t, rfl⟩ := q3
    have hlen := r4.length
    have hlen2 := hx.length
    refine SeqAt.in_tupleAt (fun y => if y = .ref e then decide (ds = []) else isOne z (.list ds) && !decide (ds = [])) p1 (fun y hy => ?_) ⟨.bl _, H, I, rfl, ?_⟩
    · have hy' : y = .ref e ∨ y = .ref l := by simpa using hy
      rcases hy' with rfl | rfl
      · rw [if_pos rfl]
        refine SeqAt.EqAt.of_refs (fun h => n1 h.symm) ?_
        by_cases h0 : ds = []
        · subst h0
          cases ua with
          | nil => exact SeqAt.RcAt.lists (e := fun _ => true) p2.isList p4.isList rfl (by show X.A.units + 1 < _; omega) (fun j h1 h2 => absurd h1 (Nat.not_lt_zero _))
          | cons _ _ => rw [List.length_cons] at hlen; rw [List.length_nil] at hlen2; omega
        · rw [decide_eq_false h0]
          refine SeqAt.RcAt.lists_lengths p2.isList p4.isList ?_ (by show X.A.units + 1 < _; omega)
          cases ua with
          | nil => cases ds with
            | nil => exact absurd rfl h0
            | cons _ _ => rw [List.length_nil] at hlen; rw [List.length_cons] at hlen2; omega
          | cons _ _ => simp
      · rw [if_neg (fun h => nel (by injection h with h; exact h.symm))]
        refine SeqAt.EqAt.of_refs (fun h => n2 h.symm) ?_
        by_cases h1 : ds.length = 1
        · match ds, h1, hx with
          | [d], _, hx =>
            cases hx with
            | @cons v vs _ _ hd' hx =>
            cases hx
            cases r4 with
            | cons q4 r4 =>
            cases r4
            have e1 : (isOne z (.list [d]) && !decide ([d] = [])) = isS z d := by
              rw [decide_eq_false (by simp : ¬ [d] = [])]
              show (isOne z (.list [d]) && true) = _
              rw [Bool.and_true]
              rfl
            rw [e1]
            have := SeqAt.RcAt.lists (A := X.A.in1) (e := fun _ => isS z d) p3.isList p4.isList rfl (by show X.A.units + 1 < _; omega) (fun j h1 h2 => by
              have h0 : j = 0 := by have : j < 1 := h1; omega
              subst h0
              exact ea_dx I hd' q4 (by show X.A.units + 1 + 1 < _; omega))
            have e2 : ((List.range (#[Value.str z t]).size).all fun _ => isS z d) = isS z d := by simp
            rw [← e2]
            exact this
        · have e1 : (isOne z (.list ds) && !decide (ds = [])) = false := by
            match ds with
            | [] => rfl
            | [d] => exact absurd rfl h1
            | _ :: _ :: _ => rfl
          rw [e1]
          refine SeqAt.RcAt.lists_lengths p3.isList p4.isList ?_ (by show X.A.units + 1 < _; omega)
          show (1 != ua.length) = true
          rw [bne_iff_ne]
          omega
    · have e3 : (#[Value.ref e, Value.ref l].any fun y => if y = .ref e then decide (ds = []) else isOne z (.list ds) && !decide (ds = [])) = isOne z (.list ds) := by
        have : Value.ref l ≠ Value.ref e := fun h => nel (by injection h with h; exact h.symm)
        simp only [List.any_toArray, List.any_cons, List.any_nil, if_pos, if_neg this, Bool.or_false]
        by_cases h0 : ds = []
        · subst h0; rfl
        · rw [decide_eq_false h0]; simp
      show Q (.bl (#[Value.ref e, Value.ref l].any _)) H
      rw [e3]
      exact q
  | _ => cases hL
end
/-! ### repr of what can be shown -/
def Rs (d : PyData) : Prop := d.showable = true ∧ d.shown.length ≤ 16777216 ∧ d.depth ≤ 185
def rReprS (xs : List V) (H : Hp) (Q : VK) : Prop := ∃ v d, xs = [v] ∧ Dx H v d ∧ Rs d ∧ Q (.str d.shown) H
theorem call_reprS {X : Cx} (hg : X.A.guards = some []) (hu : X.A.units + 190 < cLine) : CallR X (.builtin "repr") rReprS := by
  intro pins s σ H xs us Q I r h
  obtain ⟨v, d, rfl, hd, ⟨h1, h2, h3⟩, q⟩ := h
  obtain ⟨u, rfl, ru⟩ := vals1 r
  exact dx_repr I hd ru h1 (by show _ ≤ 16777216; omega) hg (by omega) (fun h' t tk hk => ⟨.str _, H, I.kept hk, ⟨_, rfl⟩, q⟩)
theorem g_reprS {H : Hp} {Q : VK} {v : V} {d : PyData} (h : Dx H v d) (hn : Rs d) (q : Q (.str d.shown) H) : rReprS [v] H Q := ⟨v, d, rfl, h, hn, q⟩
theorem rs_th {d : PyData} (h : Th d 16000000 185) : Rs d := by
  obtain ⟨g1, g2⟩ := gd_ok h.g
  exact ⟨g1, by have := h.w; omega, h.p⟩
theorem rs_two {d e : PyData} (h : Th d 7000000 184) (k : Th e 7000000 184) : Rs (.list [d, e]) := rs_th ((h.one.app k.one).lst.mono (by omega) (by omega))
theorem rs_tx {l : List Nat} (hl : l.length ≤ 1000) (h : ∀ c ∈ l, c < 1114112) : Rs (.list [.str (S l), .none]) := by
  refine ⟨rfl, ?_, by simp [PyData.depth, PyData.depthAll]⟩
  have h2 := PySem.StrLaws.reprText_len (S l) fun c hc => Nat.lt_trans (h c (by simpa [S] using hc)) (by decide)
  have h3 : (S l).length = l.length := by simp [S_len]
  have z := listText_len_le (PyData.shownAll [.str (S l), .none])
  simp only [PyData.shown]
  simp only [PyData.shownAll, PyData.shown, List.map_cons, List.map_nil, List.sum_cons, List.sum_nil, List.length_cons, List.length_nil] at z
  have h4 : (("None" : Str)).length = 4 := by decide
  simp only [PyData.shownAll, PyData.shown]
  omega
end Ly

set_option maxHeartbeats 4000000
namespace K08
open PySem PySem.Spec PyProof.Rows L2 SX Ly
structure Facts (K : PySem.W.Frag) (mg : Str → Option Value) : Prop where
  f_is_one_of : DefAt K mg "is_one_of" s_is_one_of ["thing", "signs"]
  f_kind_of : DefAt K mg "kind_of" s_kind_of ["bracket"]
  f_other_side : DefAt K mg "other_side" s_other_side ["bracket"]
  f_partners : DefAt K mg "partners" s_partners ["text"]
  f_is_clean : DefAt K mg "is_clean" s_is_clean ["text"]
  f_is_nest_from : DefAt K mg "is_nest_from" s_is_nest_from ["thing", "deep"]
  f_is_nest : DefAt K mg "is_nest" s_is_nest ["thing"]
  f_nest_of : DefAt K mg "nest_of" s_nest_of ["text"]
  f_joined : DefAt K mg "joined" s_joined ["nest"]
  f_text_of : DefAt K mg "text_of" s_text_of ["nest"]
  f_copied : DefAt K mg "copied" s_copied ["nest"]
  f_at_path : DefAt K mg "at_path" s_at_path ["nest", "path"]
  f_law_mixed : DefAt K mg "_law_mixed" s_law_mixed ["cell", "k"]
  f_law_pot : DefAt K mg "_law_pot" s_law_pot ["cell"]
  f_law_take : DefAt K mg "_law_take" s_law_take ["pot", "many"]
  f_law_sign : DefAt K mg "_law_sign" s_law_sign ["pot"]
  f_law_clean : DefAt K mg "_law_clean" s_law_clean ["pot", "most"]
  f_law_bent : DefAt K mg "_law_bent" s_law_bent ["pot", "text"]
  f_law_long : DefAt K mg "_law_long" s_law_long ["pot", "k"]
  f_law_text : DefAt K mg "_law_text" s_law_text ["pot", "most"]
  f_law_is_clean : DefAt K mg "_law_is_clean" s_law_is_clean ["text"]
  f_law_nest : DefAt K mg "_law_nest" s_law_nest ["text"]
  f_law_which : DefAt K mg "_law_which" s_law_which ["caught"]
  f_law_refused : DefAt K mg "_law_refused" s_law_refused ["way", "thing", "path"]
  f_law_odd : DefAt K mg "_law_odd" s_law_odd ["pot"]
  f_law_spoilt : DefAt K mg "_law_spoilt" s_law_spoilt ["pot", "nest"]
  f_law_chain : DefAt K mg "_law_chain" s_law_chain ["deep", "inner"]
  f_law_bad_paths : DefAt K mg "_law_bad_paths" s_law_bad_paths ["pot", "nest"]
  f_law_deep_paths : DefAt K mg "_law_deep_paths" s_law_deep_paths ["pot", "nest"]
  c_LETTERS : ∃ u, mg "LETTERS" = some u ∧ RelV (Tx LET) u
  c_OPENING : ∃ u, mg "OPENING" = some u ∧ RelV (Tx OPN) u
  c_CLOSING : ∃ u, mg "CLOSING" = some u ∧ RelV (Tx CLO) u
  c_BRACKETS : ∃ u, mg "BRACKETS" = some u ∧ RelV (Tx BRK) u
  c_DEEPEST : ∃ u, mg "DEEPEST" = some u ∧ RelV (.int 60) u
  b_len : mg "len" = none
  b_int : mg "int" = none
  b_str : mg "str" = none
  b_range : mg "range" = none
  b_enumerate : mg "enumerate" = none
  b_zip : mg "zip" = none
  b_isinstance : mg "isinstance" = none
  b_list : mg "list" = none
  b_tuple : mg "tuple" = none
  b_bool : mg "bool" = none
  b_min : mg "min" = none
  b_repr : mg "repr" = none
  b_ValueError : mg "ValueError" = none
  g_MendError : mg "MendError" = some (.ref (He.ga K "MendError"))
  c_MendError : ∃ u, mg "MendError" = some u ∧ RelV (V.ref (He.ga K "MendError")) u
  g_NoNest : mg "NoNest" = some (.ref (He.ga K "NoNest"))
  c_NoNest : ∃ u, mg "NoNest" = some u ∧ RelV (V.ref (He.ga K "NoNest")) u
  g_NoDeeds : mg "NoDeeds" = some (.ref (He.ga K "NoDeeds"))
  c_NoDeeds : ∃ u, mg "NoDeeds" = some u ∧ RelV (V.ref (He.ga K "NoDeeds")) u
  g_NoNumber : mg "NoNumber" = some (.ref (He.ga K "NoNumber"))
  c_NoNumber : ∃ u, mg "NoNumber" = some u ∧ RelV (V.ref (He.ga K "NoNumber")) u
  g_NoSign : mg "NoSign" = some (.ref (He.ga K "NoSign"))
  c_NoSign : ∃ u, mg "NoSign" = some u ∧ RelV (V.ref (He.ga K "NoSign")) u
  g_NoWriting : mg "NoWriting" = some (.ref (He.ga K "NoWriting"))
  c_NoWriting : ∃ u, mg "NoWriting" = some u ∧ RelV (V.ref (He.ga K "NoWriting")) u
  g_NoRow : mg "NoRow" = some (.ref (He.ga K "NoRow"))
  c_NoRow : ∃ u, mg "NoRow" = some u ∧ RelV (V.ref (He.ga K "NoRow")) u
  z_NoNest : ErrF K (He.ga K "NoNest") (He.ga K "MendError")
  kv_NoNest : PySem.W.kitOne K (.ref (He.ga K "NoNest")) (.type "ValueError") = some true
  kk_NoNest_NoNest : PySem.W.kitOne K (.ref (He.ga K "NoNest")) (.ref (He.ga K "NoNest")) = some true
  kk_NoNest_NoDeeds : PySem.W.kitOne K (.ref (He.ga K "NoNest")) (.ref (He.ga K "NoDeeds")) = some false
  kk_NoNest_NoNumber : PySem.W.kitOne K (.ref (He.ga K "NoNest")) (.ref (He.ga K "NoNumber")) = some false
  kk_NoNest_NoSign : PySem.W.kitOne K (.ref (He.ga K "NoNest")) (.ref (He.ga K "NoSign")) = some false
  kk_NoNest_NoWriting : PySem.W.kitOne K (.ref (He.ga K "NoNest")) (.ref (He.ga K "NoWriting")) = some false
  kk_NoNest_NoRow : PySem.W.kitOne K (.ref (He.ga K "NoNest")) (.ref (He.ga K "NoRow")) = some false
  z_NoDeeds : ErrF K (He.ga K "NoDeeds") (He.ga K "MendError")
  kv_NoDeeds : PySem.W.kitOne K (.ref (He.ga K "NoDeeds")) (.type "ValueError") = some true
  kk_NoDeeds_NoNest : PySem.W.kitOne K (.ref (He.ga K "NoDeeds")) (.ref (He.ga K "NoNest")) = some false
  kk_NoDeeds_NoDeeds : PySem.W.kitOne K (.ref (He.ga K "NoDeeds")) (.ref (He.ga K "NoDeeds")) = some true
  kk_NoDeeds_NoNumber : PySem.W.kitOne K (.ref (He.ga K "NoDeeds")) (.ref (He.ga K "NoNumber")) = some false
  kk_NoDeeds_NoSign : PySem.W.kitOne K (.ref (He.ga K "NoDeeds")) (.ref (He.ga K "NoSign")) = some false
  kk_NoDeeds_NoWriting : PySem.W.kitOne K (.ref (He.ga K "NoDeeds")) (.ref (He.ga K "NoWriting")) = some false
  kk_NoDeeds_NoRow : PySem.W.kitOne K (.ref (He.ga K "NoDeeds")) (.ref (He.ga K "NoRow")) = some false
  z_NoNumber : ErrF K (He.ga K "NoNumber") (He.ga K "MendError")
  kv_NoNumber : PySem.W.kitOne K (.ref (He.ga K "NoNumber")) (.type "ValueError") = some true
  kk_NoNumber_NoNest : PySem.W.kitOne K (.ref (He.ga K "NoNumber")) (.ref (He.ga K "NoNest")) = some false
  kk_NoNumber_NoDeeds : PySem.W.kitOne K (.ref (He.ga K "NoNumber")) (.ref (He.ga K "NoDeeds")) = some false
  kk_NoNumber_NoNumber : PySem.W.kitOne K (.ref (He.ga K "NoNumber")) (.ref (He.ga K "NoNumber")) = some true
  kk_NoNumber_NoSign : PySem.W.kitOne K (.ref (He.ga K "NoNumber")) (.ref (He.ga K "NoSign")) = some false
  kk_NoNumber_NoWriting : PySem.W.kitOne K (.ref (He.ga K "NoNumber")) (.ref (He.ga K "NoWriting")) = some false
  kk_NoNumber_NoRow : PySem.W.kitOne K (.ref (He.ga K "NoNumber")) (.ref (He.ga K "NoRow")) = some false
  z_NoSign : ErrF K (He.ga K "NoSign") (He.ga K "MendError")
  kv_NoSign : PySem.W.kitOne K (.ref (He.ga K "NoSign")) (.type "ValueError") = some true
  kk_NoSign_NoNest : PySem.W.kitOne K (.ref (He.ga K "NoSign")) (.ref (He.ga K "NoNest")) = some false
  kk_NoSign_NoDeeds : PySem.W.kitOne K (.ref (He.ga K "NoSign")) (.ref (He.ga K "NoDeeds")) = some false
  kk_NoSign_NoNumber : PySem.W.kitOne K (.ref (He.ga K "NoSign")) (.ref (He.ga K "NoNumber")) = some false
  kk_NoSign_NoSign : PySem.W.kitOne K (.ref (He.ga K "NoSign")) (.ref (He.ga K "NoSign")) = some true
  kk_NoSign_NoWriting : PySem.W.kitOne K (.ref (He.ga K "NoSign")) (.ref (He.ga K "NoWriting")) = some false
  kk_NoSign_NoRow : PySem.W.kitOne K (.ref (He.ga K "NoSign")) (.ref (He.ga K "NoRow")) = some false
  z_NoWriting : ErrF K (He.ga K "NoWriting") (He.ga K "MendError")
  kv_NoWriting : PySem.W.kitOne K (.ref (He.ga K "NoWriting")) (.type "ValueError") = some true
  kk_NoWriting_NoNest : PySem.W.kitOne K (.ref (He.ga K "NoWriting")) (.ref (He.ga K "NoNest")) = some false
  kk_NoWriting_NoDeeds : PySem.W.kitOne K (.ref (He.ga K "NoWriting")) (.ref (He.ga K "NoDeeds")) = some false
  kk_NoWriting_NoNumber : PySem.W.kitOne K (.ref (He.ga K "NoWriting")) (.ref (He.ga K "NoNumber")) = some false
  kk_NoWriting_NoSign : PySem.W.kitOne K (.ref (He.ga K "NoWriting")) (.ref (He.ga K "NoSign")) = some false
  kk_NoWriting_NoWriting : PySem.W.kitOne K (.ref (He.ga K "NoWriting")) (.ref (He.ga K "NoWriting")) = some true
  kk_NoWriting_NoRow : PySem.W.kitOne K (.ref (He.ga K "NoWriting")) (.ref (He.ga K "NoRow")) = some false
  z_NoRow : ErrF K (He.ga K "NoRow") (He.ga K "MendError")
  kv_NoRow : PySem.W.kitOne K (.ref (He.ga K "NoRow")) (.type "ValueError") = some true
  kk_NoRow_NoNest : PySem.W.kitOne K (.ref (He.ga K "NoRow")) (.ref (He.ga K "NoNest")) = some false
  kk_NoRow_NoDeeds : PySem.W.kitOne K (.ref (He.ga K "NoRow")) (.ref (He.ga K "NoDeeds")) = some false
  kk_NoRow_NoNumber : PySem.W.kitOne K (.ref (He.ga K "NoRow")) (.ref (He.ga K "NoNumber")) = some false
  kk_NoRow_NoSign : PySem.W.kitOne K (.ref (He.ga K "NoRow")) (.ref (He.ga K "NoSign")) = some false
  kk_NoRow_NoWriting : PySem.W.kitOne K (.ref (He.ga K "NoRow")) (.ref (He.ga K "NoWriting")) = some false
  kk_NoRow_NoRow : PySem.W.kitOne K (.ref (He.ga K "NoRow")) (.ref (He.ga K "NoRow")) = some true
end K08

set_option maxHeartbeats 4000000
namespace K08
open PySem PySem.Spec PyProof.Rows L2 SX Ly
local macro_rules | `(tactic| wtm_at "unf") => `(tactic| (try simp only [tAlt, tMetX, tOwnX, tChain, tSeq, tNext, tBreak, tCont, tDrop, tRet, tRetN, tIfS, tAsg, tAug, tC, tOp, tUn, tNil, tCons, tOwn, tCB, tTest, tB, tAnd, tOr, tNot, tAndV, tOrV, tNotV, tIf, gName, gSub, tBM, tBM0, tM0, tM1, tSl, tPart_eq, tNoPart, tLst_eq, tTup_eq, tRevL_eq, tReplT, tRevS, tDGet_eq, sDPut_eq, tDNewT_eq, tMet, tMak, tFld_eq, sFld_eq, C8.tCut, wipe, tYes, gTup, gCons, gNil, List.set_cons_zero, List.set_cons_succ, if_true, if_false, Bool.false_eq_true, Bool.not_true, Bool.not_false, true_and, reduceIte, cx_K, tFor_eq, tLc_eq, iStr, iList, iTup, iRng1, iRng2, iRng3, iEnum, iZip, tLstRg, tRg1, gLst, RZ.iZipA, iEnumS, iZipS, tDNewK_eq, tDGet2, tDIn, tDNotIn, iKd]))
local macro_rules | `(tactic| wtm_at "unfA") => `(tactic| (try simp only [tAlt, tMetX, tOwnX, tChain, tSeq, tNext, tBreak, tCont, tDrop, tRet, tRetN, tIfS, tAsg, tAug, tC, tOp, tUn, tNil, tCons, tOwn, tCB, tTest, tB, tAnd, tOr, tNot, tIf, gName, gSub, tBM, tBM0, tM0, tM1, tSl, tPart_eq, tNoPart, tLst_eq, tTup_eq, tRevL_eq, tReplT, tRevS, tDGet_eq, sDPut_eq, tDNewT_eq, tMet, tMak, tFld_eq, sFld_eq, C8.tCut, wipe, tYes, gTup, gCons, gNil, List.set_cons_zero, List.set_cons_succ, if_true, if_false, Bool.false_eq_true, Bool.not_true, Bool.not_false, true_and, reduceIte, cx_K, tFor_eq, tLc_eq, iStr, iList, iTup, iRng1, iRng2, iRng3, iEnum, iZip, tLstRg, tRg1, gLst, RZ.iZipA, iEnumS, iZipS, tDNewK_eq, tDGet2, tDIn, tDNotIn, iKd]))
local macro_rules | `(tactic| wtm_at "ne") => `(tactic| first | assumption | (apply Ne.symm; assumption) | (apply ne_new; (· assumption); (· wtm_at "lk")) | (apply Ne.symm; apply ne_new; (· assumption); (· wtm_at "lk")))
local macro_rules | `(tactic| wtm_at "lk") => `(tactic| first | assumption | exact upd_same | (apply Same.get; (· assumption); (· wtm_at "lk")) | (apply But.get; (· assumption); (· wtm_at "ne"); (· wtm_at "lk")))
local macro_rules | `(tactic| wtm_at "sq") => `(tactic| first | assumption | (apply sq_of; wtm_at "lk") | (apply Same.seq; (· assumption); (· wtm_at "sq")) | (apply But.sq; (· assumption); (· wtm_at "ne"); (· wtm_at "sq")))
local macro_rules | `(tactic| wtm_at "fr") => `(tactic| first | assumption | (apply Same.fr; (· assumption); (· wtm_at "sm")) | (apply But.fr; (· assumption); (· wtm_at "sm"); (· wtm_at "ne")))
local macro_rules | `(tactic| wtm_at "sm") => `(tactic| first | exact Same.refl _ | exact But.refl | assumption | (apply Same.tr; (· assumption); (· wtm_at "sm")) | (apply Same.b0; (· assumption); (· wtm_at "sm"); (· wtm_at "fr")) | (apply But.sa; (· assumption); (· wtm_at "sm")) | (apply But.tr; (· assumption); (· wtm_at "sm")) | (apply But.b0; (· assumption); (· wtm_at "sm"); (· wtm_at "fr")) | (apply Same.toBut; wtm_at "sm"))
local macro_rules | `(tactic| wtm_at "sc") => `(tactic| first | exact Int.zero_lt_one | (show (0 : Int) < _; omega) | (show (0 : Int) < _; decide) | exact ⟨by omega, by omega⟩ | exact .inl ⟨by omega, by omega⟩ | exact .inr ⟨by omega, by omega⟩)
local macro_rules | `(tactic| wtm_at "go1") => `(tactic| first | ((with_reducible apply g_var); (· exact rfl)) | with_reducible apply g_I0 | ((with_reducible apply g_I); (· wtm_at "sc")) | with_reducible apply g_U | with_reducible apply g_ipI | ((with_reducible apply g_addT); (· first | omega | (simp; done) | (simp; omega))) | with_reducible apply g_inT | with_reducible apply g_ninT | ((with_reducible apply g_lenT); (· omega)) | with_reducible apply g_findT1 | with_reducible apply g_str | with_reducible apply g_part | with_reducible apply g_intB | ((with_reducible apply g_ixL); (· wtm_at "sq"); (· exact rfl)) | ((with_reducible apply g_setL); (· wtm_at "lk"); (· exact rfl)) | ((with_reducible apply g_eq); (· rfl)) | ((with_reducible apply g_ne); (· rfl)))
local macro_rules | `(tactic| wtm_at "go") => `(tactic| repeat wtm_at "go1")
local macro_rules | `(tactic| wtm_at "lp") => `(tactic| skip)
local macro_rules | `(tactic| wtm_at "om") => `(tactic| first | omega | (simp; done) | (simp; omega) | (simp at *; omega))
local macro_rules | `(tactic| wtm_at "ty") => `(tactic| first | exact ty_str | exact ty_int | exact ty_bl | exact ty_non | (apply ty_lst; wtm_at "lk") | (apply ty_tup; wtm_at "lk"))
local macro_rules | `(tactic| wtm_at "kb") => `(tactic| first | exact kb_str_str | exact kb_str_int | exact kb_str_bool | exact kb_str_list | exact kb_str_tuple | exact kb_int_str | exact kb_int_int | exact kb_int_bool | exact kb_int_list | exact kb_int_tuple | exact kb_bool_str | exact kb_bool_int | exact kb_bool_bool | exact kb_bool_list | exact kb_bool_tuple | exact kb_list_str | exact kb_list_int | exact kb_list_bool | exact kb_list_list | exact kb_list_tuple | exact kb_tuple_str | exact kb_tuple_int | exact kb_tuple_bool | exact kb_tuple_list | exact kb_tuple_tuple | exact kb_NoneType_str | exact kb_NoneType_int | exact kb_NoneType_bool | exact kb_NoneType_list | exact kb_NoneType_tuple | exact kb_dict_str | exact kb_dict_int | exact kb_dict_bool | exact kb_dict_list | exact kb_dict_tuple)
local macro_rules | `(tactic| wtm_at "gx1") => `(tactic| first | ((with_reducible apply g_eqS); (· exact rfl)) | ((with_reducible apply g_neS); (· exact rfl)) | wtm_at "go1" | with_reducible apply g_min2 | with_reducible apply g_max2 | with_reducible apply g_T | with_reducible apply g_F | with_reducible apply g_NT | with_reducible apply g_NF | with_reducible apply g_nT | with_reducible apply g_nF | with_reducible apply g_RT | with_reducible apply g_RF | ((with_reducible apply g_isi); (· wtm_at "ty"); (· wtm_at "kb")) | ((with_reducible apply g_ixAU3); (· wtm_at "lk"); (· exact rfl)) | ((with_reducible apply g_ixAL3); (· wtm_at "lk"); (· exact rfl)) | ((with_reducible apply g_ixU3); (· wtm_at "lk"); (· exact rfl)) | ((with_reducible apply g_lenL3); (· wtm_at "lk")) | ((with_reducible apply g_lenU3); (· wtm_at "lk")) | ((with_reducible apply g_tyL3); (· wtm_at "lk")) | ((with_reducible apply g_lenT); (· wtm_at "pv")) | wtm_at "tr" | with_reducible apply g_ET | with_reducible apply g_EF | with_reducible apply g_EnT | with_reducible apply g_EnF)
local macro_rules | `(tactic| wtm_at "pv") => `(tactic| first | exact rfl | assumption | omega | (simp; done) | (simp; omega))
local macro_rules | `(tactic| wtm_at "tr") => `(tactic| first | ((with_reducible apply g_Td); (· wtm_at "pv")) | ((with_reducible apply g_Fd); (· wtm_at "pv")) | ((with_reducible apply g_NTd); (· wtm_at "pv")) | ((with_reducible apply g_NFd); (· wtm_at "pv")) | ((with_reducible apply g_nTd); (· wtm_at "pv")) | ((with_reducible apply g_nFd); (· wtm_at "pv")) | ((with_reducible apply g_RTd); (· wtm_at "pv")) | ((with_reducible apply g_RFd); (· wtm_at "pv")))
local macro_rules | `(tactic| wtm_at "gx") => `(tactic| repeat wtm_at "gx1")
local macro_rules | `(tactic| wtm_at "unfS") => `(tactic| (try simp only [tSeq, tNext, tAsg, tFor_eq, C8.tCut, wipe, gName, tDrop, List.set_cons_zero, List.set_cons_succ, cx_K]))
local macro_rules | `(tactic| wtm_at "rd1") => `(tactic| first | exact rd_int | exact rd_str | exact rd_bl | exact rd_non | exact rda_nil | apply rda_cons | (with_reducible apply rd_tup; (· assumption)) | (with_reducible apply rd_lst; (· assumption)) | exact rd_dic (by assumption) | exact rd_var rfl (.int _) | exact rd_var rfl (.str _) | exact rd_var rfl (.bl _) | exact rd_var rfl (by assumption) | (with_reducible apply rd_cat; (· assumption)) | (with_reducible apply rd_rep2; (· assumption)) | (with_reducible apply rd_rev; (· assumption)) | (with_reducible apply rd_to; (· assumption)) | (with_reducible apply rd_from; (· assumption)) | (with_reducible apply rd_tupOf; (· assumption)) | (with_reducible apply rd_lstOf; (· assumption)) | with_reducible apply rd_lenL | with_reducible apply rd_lenT | with_reducible apply rd_I0 | with_reducible apply rd_I | with_reducible apply rd_U | with_reducible apply rd_eqI | with_reducible apply rd_ixL | with_reducible apply rd_ixT | exact atI_hd _ _ | exact ‹atI _ _ = some _›)
local macro_rules | `(tactic| wtm_at "rdl") => `(tactic| first | decide | omega | wtm_at "sc" | (simp only [List.length_append, List.length_cons, List.length_nil, List.length_map, List.length_take, List.length_drop, List.length_reverse, cutTo]; omega))
local macro_rules | `(tactic| wtm_at "rd") => `(tactic| ((repeat' wtm_at "rd1"); (all_goals wtm_at "rdl")))
local macro_rules | `(tactic| wtm_at "nc") => `(tactic| repeat' (first | assumption | exact nca_nil | exact nc_non | exact nc_bl | exact nc_dic | exact nc_tup0 | exact nc_lst0 | (refine nc_strS (by decide) (by decide)) | (refine nc_int (by omega)) | (refine nc_big (by decide +kernel)) | refine nca_app ?_ ?_ | refine nca_cons ?_ ?_ | refine nca_take ?_ | refine nca_drop ?_ | refine nca_cutTo ?_ | refine nca_rev ?_ | refine nc_tup (by decide) ?_ | refine nc_lst (by decide) ?_ | refine nc_lst (Nat.le_trans (show _ ≤ 45 by wtm_at "rdl") (by decide)) ?_ | refine nc_tup (Nat.le_trans (show _ ≤ 45 by wtm_at "rdl") (by decide)) ?_))

section
variable {P : Program} {w : World} {K : PySem.W.Frag} {mg : Str → Option Value} {base : Heap}
/-- a pot: three ints, the first not below 0 -/
structure Pt where
  a : Int
  c : Int
  n : Int
  h : 0 ≤ a
def Pt.o (P : Pt) : HO := .lst [.int P.a, .int P.c, .int P.n]
/-! _law_mixed -/
def sp_law_mixed : Sp := fun vs H Q _ => ∃ c k : Int, vs = [.int c, .int k] ∧ ∀ r : Int, Q (.int r) H
theorem ok_law_mixed (T : Facts K mg) : C8.Cal P w K mg base 1 "_law_mixed" sp_law_mixed [] := by
  refine calD T.f_law_mixed sc_law_mixed (fun vs H Q E h => ?_) (fun f cdv A outer s H vs Q E hr h => ?_)
  · obtain ⟨c, k, rfl, q⟩ := h; rfl
  · obtain ⟨c, k, rfl, q⟩ := h
    refine ⟨_, (pss_cons (ps_set (i := 2) sc_law_mixed.nd rfl (Or.inl rfl) (pe_op op_mod (pe_op op_mul (pe_op op_add (pe_op op_add (pe_op op_mod (pv 0) pe_int) (pe_op op_mul pe_int (pv 1))) pe_int) pe_int) pe_int))
       (pss_cons (ps_set (i := 2) sc_law_mixed.nd rfl (Or.inl rfl) (pe_op op_mod (pe_op op_mul (pv 2) (pv 2)) pe_int))
       (pss_one (ps_ret (pe_op op_fdiv (pe_op op_mod (pe_op op_mul (pe_op op_add (pv 2) (pe_op op_mul pe_int (pe_op op_add (pv 1) pe_int))) pe_int) pe_int) pe_int))))), ?_⟩
    rw [st_law_mixed]
    wtm_at "unf"
    wtm_at "go"
    exact q _
/-! _law_pot -/
def sp_law_pot : Sp := fun vs H Q _ => ∃ c : Int, vs = [.int c] ∧ ∀ (p : Addr) (P1 : Pt) (H' : Hp), H p = none → Same H H' → H' p = some P1.o → Q (.ref p) H'
theorem ok_law_pot (T : Facts K mg) : C8.Cal P w K mg base 1 "_law_pot" sp_law_pot [] := by
  refine calD T.f_law_pot sc_law_pot (fun vs H Q E h => ?_) (fun f cdv A outer s H vs Q E hr h => ?_)
  · obtain ⟨c, rfl, q⟩ := h; rfl
  · obtain ⟨c, rfl, q⟩ := h
    refine ⟨_, (pss_one (ps_ret (pe_lst (pa_cons (pe_op op_mulW (pe_op op_mod (pv 0) (pe_op op_mulW (pe_op op_mulW (pe_op op_mulW (pe_op op_pow pe_int pe_int) (pe_op op_pow pe_int pe_int)) (pe_op op_pow pe_int pe_int)) (pe_op op_pow pe_int pe_int))) (pe_callTy call_intB rfl T.b_int (by decide +kernel) (pa_cons (pe_cmpR op_ge (pv 0) (pe_op op_pow pe_int pe_int) (nomark _)) pa_nil))) (pa_cons (pv 0) (pa_cons pe_int pa_nil)))))), ?_⟩
    rw [st_law_pot]
    wtm_at "unf"
    wtm_at "go"
    refine g_I (by unfold CMulW; decide +kernel) ?_
    wtm_at "go"
    refine g_I (by unfold CMulW; decide +kernel) ?_
    wtm_at "go"
    refine g_I (by unfold CMulW; decide +kernel) ?_
    refine g_I (by show (0 : Int) < _; decide +kernel) ?_
    wtm_at "go"
    generalize hM : (10 : Int) ^ Int.toNat 50 * 10 ^ Int.toNat 50 * 10 ^ Int.toNat 50 * 10 ^ Int.toNat 50 = M
    have hM0 : 0 < M := by rw [← hM]; decide +kernel
    have hM1 : M.natAbs < 2 ^ 700 := by rw [← hM]; decide +kernel
    have h0 : 0 ≤ c % M := Int.emod_nonneg _ (by omega)
    have h1 : c % M < M := Int.emod_lt_of_pos _ hM0
    refine g_I ?_ ?_
    · refine wide_mul (a := 700) (b := 1) (by omega) ?_ (by decide) (by decide) (by decide)
      split <;> decide
    wtm_at "go"
    refine g_lst (by show 3 ≤ 100000; decide) fun p H1 np s1 e1 => ?_
    refine q p ⟨c % M * (if decide ((10 : Int) ^ Int.toNat 18 ≤ c) = true then 1 else 0), c, 0, ?_⟩ H1 np s1 e1
    split <;> omega
theorem wide9 {m : Int} (h0 : 0 < m) (h : m < 2000000000) : m.natAbs.log2 < 9000 := by
  have h3 : m.natAbs ≠ 0 := by omega
  have := (Nat.log2_lt h3).mpr (show m.natAbs < 2 ^ 100 by omega)
  omega
/-! _law_take -/
def sp_law_take : Sp := fun vs H Q _ => ∃ (p : Addr) (P0 : Pt) (m : Int), vs = [.ref p, .int m] ∧ H p = some P0.o ∧ 0 < m ∧ m < 2000000000 ∧ ∀ (r : Int) (P1 : Pt) (H' : Hp), 0 ≤ r → r < m → But p H H' → H' p = some P1.o → Q (.int r) H'
theorem ok_law_take (T : Facts K mg) : C8.Cal P w K mg base 2 "_law_take" sp_law_take [] := by
  refine calD T.f_law_take sc_law_take (fun vs H Q E h => ?_) (fun f cdv A outer s H vs Q E hr h => ?_)
  · obtain ⟨p, P0, m, rfl, hp, h0, h1, q⟩ := h; rfl
  · obtain ⟨p, P0, m, rfl, hp, h0, h1, q⟩ := h
    refine ⟨_, (pss_cons (ps_asg (pe_op op_add (pe_ix ix_list (pv 0) pe_int (fun _ _ => rfl)) pe_int) (pg_sub (pv 0) pe_int set_list))
       (pss_cons (ps_if (pt_cmpR op_gt (pe_ix ix_list (pv 0) pe_int (fun _ _ => rfl)) pe_int (nomark _))
       (pss_cons (ps_set (i := 2) sc_law_take.nd rfl (Or.inl rfl) (pe_op op_mod (pe_ix ix_list (pv 0) pe_int (fun _ _ => rfl)) (pv 1)))
       (pss_cons (ps_asg (pe_op op_fdivW (pe_ix ix_list (pv 0) pe_int (fun _ _ => rfl)) (pv 1)) (pg_sub (pv 0) pe_int set_list))
       (pss_one (ps_ret (pv 2)))))
       pss_nil)
       (pss_one (ps_ret (pe_op op_mod (pe_own (ok_law_mixed T) hr (by omega) rfl (pa_cons (pe_ix ix_list (pv 0) pe_int (fun _ _ => rfl)) (pa_cons (pe_ix ix_list (pv 0) pe_int (fun _ _ => rfl)) pa_nil))) (pv 1)))))), ?_⟩
    rw [st_law_take]
    have hp' : H p = some (.lst [.int P0.a, .int P0.c, .int P0.n]) := hp
    wtm_at "unf"
    wtm_at "go"
    intro H1 b1 e1
    wtm_at "go"
    refine g_test (fun h => ?_) (fun h => ?_)
    · wtm_at "go"
      refine g_I ⟨h0, wide9 h0 h1⟩ ?_
      wtm_at "go"
      intro H2 b2 e2
      wtm_at "go"
      exact q (P0.a % m) ⟨P0.a / m, P0.c, P0.n + 1, Int.ediv_nonneg P0.h (by omega)⟩ H2 (Int.emod_nonneg _ (by omega)) (Int.emod_lt_of_pos _ h0) (by wtm_at "sm") e2
    · wtm_at "go"
      refine ⟨_, _, rfl, fun r => ?_⟩
      wtm_at "go"
      exact q (r % m) ⟨P0.a, P0.c, P0.n + 1, P0.h⟩ H1 (Int.emod_nonneg _ (by omega)) (Int.emod_lt_of_pos _ h0) (by wtm_at "sm") e1
end
end K08

set_option maxHeartbeats 4000000
namespace K08
open PySem PySem.Spec PyProof.Rows L2 SX Ly
local macro_rules | `(tactic| wtm_at "unf") => `(tactic| (try simp only [tAlt, tMetX, tOwnX, tChain, tSeq, tNext, tBreak, tCont, tDrop, tRet, tRetN, tIfS, tAsg, tAug, tC, tOp, tUn, tNil, tCons, tOwn, tCB, tTest, tB, tAnd, tOr, tNot, tAndV, tOrV, tNotV, tIf, gName, gSub, tBM, tBM0, tM0, tM1, tSl, tPart_eq, tNoPart, tLst_eq, tTup_eq, tRevL_eq, tReplT, tRevS, tDGet_eq, sDPut_eq, tDNewT_eq, tMet, tMak, tFld_eq, sFld_eq, C8.tCut, wipe, tYes, gTup, gCons, gNil, List.set_cons_zero, List.set_cons_succ, if_true, if_false, Bool.false_eq_true, Bool.not_true, Bool.not_false, true_and, reduceIte, cx_K, tFor_eq, tLc_eq, iStr, iList, iTup, iRng1, iRng2, iRng3, iEnum, iZip, tLstRg, tRg1, gLst, RZ.iZipA, iEnumS, iZipS, tDNewK_eq, tDGet2, tDIn, tDNotIn, iKd]))
local macro_rules | `(tactic| wtm_at "unfA") => `(tactic| (try simp only [tAlt, tMetX, tOwnX, tChain, tSeq, tNext, tBreak, tCont, tDrop, tRet, tRetN, tIfS, tAsg, tAug, tC, tOp, tUn, tNil, tCons, tOwn, tCB, tTest, tB, tAnd, tOr, tNot, tIf, gName, gSub, tBM, tBM0, tM0, tM1, tSl, tPart_eq, tNoPart, tLst_eq, tTup_eq, tRevL_eq, tReplT, tRevS, tDGet_eq, sDPut_eq, tDNewT_eq, tMet, tMak, tFld_eq, sFld_eq, C8.tCut, wipe, tYes, gTup, gCons, gNil, List.set_cons_zero, List.set_cons_succ, if_true, if_false, Bool.false_eq_true, Bool.not_true, Bool.not_false, true_and, reduceIte, cx_K, tFor_eq, tLc_eq, iStr, iList, iTup, iRng1, iRng2, iRng3, iEnum, iZip, tLstRg, tRg1, gLst, RZ.iZipA, iEnumS, iZipS, tDNewK_eq, tDGet2, tDIn, tDNotIn, iKd]))
local macro_rules | `(tactic| wtm_at "ne") => `(tactic| first | assumption | (apply Ne.symm; assumption) | (apply ne_new; (· assumption); (· wtm_at "lk")) | (apply Ne.symm; apply ne_new; (· assumption); (· wtm_at "lk")))
local macro_rules | `(tactic| wtm_at "lk") => `(tactic| first | assumption | exact upd_same | (apply Same.get; (· assumption); (· wtm_at "lk")) | (apply But.get; (· assumption); (· wtm_at "ne"); (· wtm_at "lk")))
local macro_rules | `(tactic| wtm_at "sq") => `(tactic| first | assumption | (apply sq_of; wtm_at "lk") | (apply Same.seq; (· assumption); (· wtm_at "sq")) | (apply But.sq; (· assumption); (· wtm_at "ne"); (· wtm_at "sq")))
local macro_rules | `(tactic| wtm_at "fr") => `(tactic| first | assumption | (apply Same.fr; (· assumption); (· wtm_at "sm")) | (apply But.fr; (· assumption); (· wtm_at "sm"); (· wtm_at "ne")))
local macro_rules | `(tactic| wtm_at "sm") => `(tactic| first | exact Same.refl _ | exact But.refl | assumption | (apply Same.tr; (· assumption); (· wtm_at "sm")) | (apply Same.b0; (· assumption); (· wtm_at "sm"); (· wtm_at "fr")) | (apply But.sa; (· assumption); (· wtm_at "sm")) | (apply But.tr; (· assumption); (· wtm_at "sm")) | (apply But.b0; (· assumption); (· wtm_at "sm"); (· wtm_at "fr")) | (apply Same.toBut; wtm_at "sm"))
local macro_rules | `(tactic| wtm_at "sc") => `(tactic| first | exact Int.zero_lt_one | (show (0 : Int) < _; omega) | (show (0 : Int) < _; decide) | exact ⟨by omega, by omega⟩ | exact .inl ⟨by omega, by omega⟩ | exact .inr ⟨by omega, by omega⟩)
local macro_rules | `(tactic| wtm_at "go1") => `(tactic| first | ((with_reducible apply g_var); (· exact rfl)) | with_reducible apply g_I0 | ((with_reducible apply g_I); (· wtm_at "sc")) | with_reducible apply g_U | with_reducible apply g_ipI | ((with_reducible apply g_addT); (· first | omega | (simp; done) | (simp; omega))) | with_reducible apply g_inT | with_reducible apply g_ninT | ((with_reducible apply g_lenT); (· omega)) | with_reducible apply g_findT1 | with_reducible apply g_str | with_reducible apply g_part | with_reducible apply g_intB | ((with_reducible apply g_ixL); (· wtm_at "sq"); (· exact rfl)) | ((with_reducible apply g_setL); (· wtm_at "lk"); (· exact rfl)) | ((with_reducible apply g_eq); (· rfl)) | ((with_reducible apply g_ne); (· rfl)))
local macro_rules | `(tactic| wtm_at "go") => `(tactic| repeat wtm_at "go1")
local macro_rules | `(tactic| wtm_at "lp") => `(tactic| skip)
local macro_rules | `(tactic| wtm_at "om") => `(tactic| first | omega | (simp; done) | (simp; omega) | (simp at *; omega))
local macro_rules | `(tactic| wtm_at "ty") => `(tactic| first | exact ty_str | exact ty_int | exact ty_bl | exact ty_non | (apply ty_lst; wtm_at "lk") | (apply ty_tup; wtm_at "lk"))
local macro_rules | `(tactic| wtm_at "kb") => `(tactic| first | exact kb_str_str | exact kb_str_int | exact kb_str_bool | exact kb_str_list | exact kb_str_tuple | exact kb_int_str | exact kb_int_int | exact kb_int_bool | exact kb_int_list | exact kb_int_tuple | exact kb_bool_str | exact kb_bool_int | exact kb_bool_bool | exact kb_bool_list | exact kb_bool_tuple | exact kb_list_str | exact kb_list_int | exact kb_list_bool | exact kb_list_list | exact kb_list_tuple | exact kb_tuple_str | exact kb_tuple_int | exact kb_tuple_bool | exact kb_tuple_list | exact kb_tuple_tuple | exact kb_NoneType_str | exact kb_NoneType_int | exact kb_NoneType_bool | exact kb_NoneType_list | exact kb_NoneType_tuple | exact kb_dict_str | exact kb_dict_int | exact kb_dict_bool | exact kb_dict_list | exact kb_dict_tuple)
local macro_rules | `(tactic| wtm_at "gx1") => `(tactic| first | ((with_reducible apply g_eqS); (· exact rfl)) | ((with_reducible apply g_neS); (· exact rfl)) | wtm_at "go1" | with_reducible apply g_min2 | with_reducible apply g_max2 | with_reducible apply g_T | with_reducible apply g_F | with_reducible apply g_NT | with_reducible apply g_NF | with_reducible apply g_nT | with_reducible apply g_nF | with_reducible apply g_RT | with_reducible apply g_RF | ((with_reducible apply g_isi); (· wtm_at "ty"); (· wtm_at "kb")) | ((with_reducible apply g_ixAU3); (· wtm_at "lk"); (· exact rfl)) | ((with_reducible apply g_ixAL3); (· wtm_at "lk"); (· exact rfl)) | ((with_reducible apply g_ixU3); (· wtm_at "lk"); (· exact rfl)) | ((with_reducible apply g_lenL3); (· wtm_at "lk")) | ((with_reducible apply g_lenU3); (· wtm_at "lk")) | ((with_reducible apply g_tyL3); (· wtm_at "lk")) | ((with_reducible apply g_lenT); (· wtm_at "pv")) | wtm_at "tr" | with_reducible apply g_ET | with_reducible apply g_EF | with_reducible apply g_EnT | with_reducible apply g_EnF)
local macro_rules | `(tactic| wtm_at "pv") => `(tactic| first | exact rfl | assumption | omega | (simp; done) | (simp; omega))
local macro_rules | `(tactic| wtm_at "tr") => `(tactic| first | ((with_reducible apply g_Td); (· wtm_at "pv")) | ((with_reducible apply g_Fd); (· wtm_at "pv")) | ((with_reducible apply g_NTd); (· wtm_at "pv")) | ((with_reducible apply g_NFd); (· wtm_at "pv")) | ((with_reducible apply g_nTd); (· wtm_at "pv")) | ((with_reducible apply g_nFd); (· wtm_at "pv")) | ((with_reducible apply g_RTd); (· wtm_at "pv")) | ((with_reducible apply g_RFd); (· wtm_at "pv")))
local macro_rules | `(tactic| wtm_at "gx") => `(tactic| repeat wtm_at "gx1")
local macro_rules | `(tactic| wtm_at "unfS") => `(tactic| (try simp only [tSeq, tNext, tAsg, tFor_eq, C8.tCut, wipe, gName, tDrop, List.set_cons_zero, List.set_cons_succ, cx_K]))
local macro_rules | `(tactic| wtm_at "rd1") => `(tactic| first | exact rd_int | exact rd_str | exact rd_bl | exact rd_non | exact rda_nil | apply rda_cons | (with_reducible apply rd_tup; (· assumption)) | (with_reducible apply rd_lst; (· assumption)) | exact rd_dic (by assumption) | exact rd_var rfl (.int _) | exact rd_var rfl (.str _) | exact rd_var rfl (.bl _) | exact rd_var rfl (by assumption) | (with_reducible apply rd_cat; (· assumption)) | (with_reducible apply rd_rep2; (· assumption)) | (with_reducible apply rd_rev; (· assumption)) | (with_reducible apply rd_to; (· assumption)) | (with_reducible apply rd_from; (· assumption)) | (with_reducible apply rd_tupOf; (· assumption)) | (with_reducible apply rd_lstOf; (· assumption)) | with_reducible apply rd_lenL | with_reducible apply rd_lenT | with_reducible apply rd_I0 | with_reducible apply rd_I | with_reducible apply rd_U | with_reducible apply rd_eqI | with_reducible apply rd_ixL | with_reducible apply rd_ixT | exact atI_hd _ _ | exact ‹atI _ _ = some _›)
local macro_rules | `(tactic| wtm_at "rdl") => `(tactic| first | decide | omega | wtm_at "sc" | (simp only [List.length_append, List.length_cons, List.length_nil, List.length_map, List.length_take, List.length_drop, List.length_reverse, cutTo]; omega))
local macro_rules | `(tactic| wtm_at "rd") => `(tactic| ((repeat' wtm_at "rd1"); (all_goals wtm_at "rdl")))
local macro_rules | `(tactic| wtm_at "nc") => `(tactic| repeat' (first | assumption | exact nca_nil | exact nc_non | exact nc_bl | exact nc_dic | exact nc_tup0 | exact nc_lst0 | (refine nc_strS (by decide) (by decide)) | (refine nc_int (by omega)) | (refine nc_big (by decide +kernel)) | refine nca_app ?_ ?_ | refine nca_cons ?_ ?_ | refine nca_take ?_ | refine nca_drop ?_ | refine nca_cutTo ?_ | refine nca_rev ?_ | refine nc_tup (by decide) ?_ | refine nc_lst (by decide) ?_ | refine nc_lst (Nat.le_trans (show _ ≤ 45 by wtm_at "rdl") (by decide)) ?_ | refine nc_tup (Nat.le_trans (show _ ≤ 45 by wtm_at "rdl") (by decide)) ?_))

section
variable {P : Program} {w : World} {K : PySem.W.Frag} {mg : Str → Option Value} {base : Heap}
/-! kind_of -/
def sp_kind_of : Sp := fun vs H Q _ => ∃ c : Nat, vs = [Tx [c]] ∧ c ∈ BRK ∧ Q (.int (knd c)) H
theorem ok_kind_of (T : Facts K mg) : C8.Cal P w K mg base 1 "kind_of" sp_kind_of [] := by
  refine calD T.f_kind_of sc_kind_of (fun vs H Q E h => ?_) (fun f cdv A outer s H vs Q E hr h => ?_)
  · obtain ⟨c, rfl, hc, q⟩ := h; rfl
  · obtain ⟨c, rfl, hc, q⟩ := h
    refine ⟨_, (pss_cons (ps_if (pt_cmpR op_inT (pv 0) (C8.pe_gc rfl T.c_OPENING) (by rfl))
       (pss_one (ps_ret (pe_m1 PySem.F.slot_str_index PySem.F.type_str_index mt_idxT (C8.pe_gc rfl T.c_OPENING) (pv 0))))
       pss_nil)
       (pss_one (ps_ret (pe_m1 PySem.F.slot_str_index PySem.F.type_str_index mt_idxT (C8.pe_gc rfl T.c_CLOSING) (pv 0))))), ?_⟩
    rw [st_kind_of]
    wtm_at "unf"
    wtm_at "go"
    refine g_test (fun h => ?_) (fun h => ?_)
    · wtm_at "go"
      exact g_idxT1 (find_opn c h) q
    · wtm_at "go"
      exact g_idxT1 (find_clo c ((brk_or.mp hc).resolve_left h)) q
/-! other_side -/
def sp_other_side : Sp := fun vs H Q _ => ∃ c : Nat, vs = [Tx [c]] ∧ c ∈ BRK ∧ Q (Tx [oth c]) H
theorem ok_other_side (T : Facts K mg) : C8.Cal P w K mg base 2 "other_side" sp_other_side [] := by
  refine calD T.f_other_side sc_other_side (fun vs H Q E h => ?_) (fun f cdv A outer s H vs Q E hr h => ?_)
  · obtain ⟨c, rfl, hc, q⟩ := h; rfl
  · obtain ⟨c, rfl, hc, q⟩ := h
    refine ⟨_, (pss_cons (ps_if (pt_cmpR op_inT (pv 0) (C8.pe_gc rfl T.c_OPENING) (by rfl))
       (pss_one (ps_ret (pe_ix ix_txt (C8.pe_gc rfl T.c_CLOSING) (pe_own (ok_kind_of T) hr (by omega) rfl (pa_cons (pv 0) pa_nil)) (fun _ _ => rfl))))
       pss_nil)
       (pss_one (ps_ret (pe_ix ix_txt (C8.pe_gc rfl T.c_OPENING) (pe_own (ok_kind_of T) hr (by omega) rfl (pa_cons (pv 0) pa_nil)) (fun _ _ => rfl))))), ?_⟩
    rw [st_other_side]
    wtm_at "unf"
    wtm_at "go"
    refine g_test (fun h => ?_) (fun h => ?_)
    · wtm_at "go"
      refine ⟨c, rfl, hc, ?_⟩
      exact g_ixT (by decide) (atI_of (at_clo c h)) q
    · wtm_at "go"
      refine ⟨c, rfl, hc, ?_⟩
      exact g_ixT (by decide) (atI_of (at_opn c ((brk_or.mp hc).resolve_left h))) q
/-- a text's signs from behind, each bracket the other one of its kind -/
def oth1 (c : Nat) : Nat := if c ∈ BRK then oth c else c
def about (l : List Nat) : List Nat := (l.map oth1).reverse
end
end K08

set_option maxHeartbeats 4000000
namespace K08
open PySem PySem.Spec PyProof.Rows L2 SX Ly
local macro_rules | `(tactic| wtm_at "unf") => `(tactic| (try simp only [tAlt, tMetX, tOwnX, tChain, tSeq, tNext, tBreak, tCont, tDrop, tRet, tRetN, tIfS, tAsg, tAug, tC, tOp, tUn, tNil, tCons, tOwn, tCB, tTest, tB, tAnd, tOr, tNot, tAndV, tOrV, tNotV, tIf, gName, gSub, tBM, tBM0, tM0, tM1, tSl, tPart_eq, tNoPart, tLst_eq, tTup_eq, tRevL_eq, tReplT, tRevS, tDGet_eq, sDPut_eq, tDNewT_eq, tMet, tMak, tFld_eq, sFld_eq, C8.tCut, wipe, tYes, gTup, gCons, gNil, List.set_cons_zero, List.set_cons_succ, if_true, if_false, Bool.false_eq_true, Bool.not_true, Bool.not_false, true_and, reduceIte, cx_K, tFor_eq, tLc_eq, iStr, iList, iTup, iRng1, iRng2, iRng3, iEnum, iZip, tLstRg, tRg1, gLst, RZ.iZipA, iEnumS, iZipS, tDNewK_eq, tDGet2, tDIn, tDNotIn, iKd]))
local macro_rules | `(tactic| wtm_at "unfA") => `(tactic| (try simp only [tAlt, tMetX, tOwnX, tChain, tSeq, tNext, tBreak, tCont, tDrop, tRet, tRetN, tIfS, tAsg, tAug, tC, tOp, tUn, tNil, tCons, tOwn, tCB, tTest, tB, tAnd, tOr, tNot, tIf, gName, gSub, tBM, tBM0, tM0, tM1, tSl, tPart_eq, tNoPart, tLst_eq, tTup_eq, tRevL_eq, tReplT, tRevS, tDGet_eq, sDPut_eq, tDNewT_eq, tMet, tMak, tFld_eq, sFld_eq, C8.tCut, wipe, tYes, gTup, gCons, gNil, List.set_cons_zero, List.set_cons_succ, if_true, if_false, Bool.false_eq_true, Bool.not_true, Bool.not_false, true_and, reduceIte, cx_K, tFor_eq, tLc_eq, iStr, iList, iTup, iRng1, iRng2, iRng3, iEnum, iZip, tLstRg, tRg1, gLst, RZ.iZipA, iEnumS, iZipS, tDNewK_eq, tDGet2, tDIn, tDNotIn, iKd]))
local macro_rules | `(tactic| wtm_at "ne") => `(tactic| first | assumption | (apply Ne.symm; assumption) | (apply ne_new; (· assumption); (· wtm_at "lk")) | (apply Ne.symm; apply ne_new; (· assumption); (· wtm_at "lk")))
local macro_rules | `(tactic| wtm_at "lk") => `(tactic| first | assumption | exact upd_same | (apply Same.get; (· assumption); (· wtm_at "lk")) | (apply But.get; (· assumption); (· wtm_at "ne"); (· wtm_at "lk")))
local macro_rules | `(tactic| wtm_at "sq") => `(tactic| first | assumption | (apply sq_of; wtm_at "lk") | (apply Same.seq; (· assumption); (· wtm_at "sq")) | (apply But.sq; (· assumption); (· wtm_at "ne"); (· wtm_at "sq")))
local macro_rules | `(tactic| wtm_at "fr") => `(tactic| first | assumption | (apply Same.fr; (· assumption); (· wtm_at "sm")) | (apply But.fr; (· assumption); (· wtm_at "sm"); (· wtm_at "ne")))
local macro_rules | `(tactic| wtm_at "sm") => `(tactic| first | exact Same.refl _ | exact But.refl | assumption | (apply Same.tr; (· assumption); (· wtm_at "sm")) | (apply Same.b0; (· assumption); (· wtm_at "sm"); (· wtm_at "fr")) | (apply But.sa; (· assumption); (· wtm_at "sm")) | (apply But.tr; (· assumption); (· wtm_at "sm")) | (apply But.b0; (· assumption); (· wtm_at "sm"); (· wtm_at "fr")) | (apply Same.toBut; wtm_at "sm"))
local macro_rules | `(tactic| wtm_at "sc") => `(tactic| first | exact Int.zero_lt_one | (show (0 : Int) < _; omega) | (show (0 : Int) < _; decide) | exact ⟨by omega, by omega⟩ | exact .inl ⟨by omega, by omega⟩ | exact .inr ⟨by omega, by omega⟩)
local macro_rules | `(tactic| wtm_at "go1") => `(tactic| first | ((with_reducible apply g_var); (· exact rfl)) | with_reducible apply g_I0 | ((with_reducible apply g_I); (· wtm_at "sc")) | with_reducible apply g_U | with_reducible apply g_ipI | ((with_reducible apply g_addT); (· first | omega | (simp; done) | (simp; omega))) | with_reducible apply g_inT | with_reducible apply g_ninT | ((with_reducible apply g_lenT); (· omega)) | with_reducible apply g_findT1 | with_reducible apply g_str | with_reducible apply g_part | with_reducible apply g_intB | ((with_reducible apply g_ixL); (· wtm_at "sq"); (· exact rfl)) | ((with_reducible apply g_setL); (· wtm_at "lk"); (· exact rfl)) | ((with_reducible apply g_eq); (· rfl)) | ((with_reducible apply g_ne); (· rfl)))
local macro_rules | `(tactic| wtm_at "go") => `(tactic| repeat wtm_at "go1")
local macro_rules | `(tactic| wtm_at "lp") => `(tactic| skip)
local macro_rules | `(tactic| wtm_at "om") => `(tactic| first | omega | (simp; done) | (simp; omega) | (simp at *; omega))
local macro_rules | `(tactic| wtm_at "ty") => `(tactic| first | exact ty_str | exact ty_int | exact ty_bl | exact ty_non | (apply ty_lst; wtm_at "lk") | (apply ty_tup; wtm_at "lk"))
local macro_rules | `(tactic| wtm_at "kb") => `(tactic| first | exact kb_str_str | exact kb_str_int | exact kb_str_bool | exact kb_str_list | exact kb_str_tuple | exact kb_int_str | exact kb_int_int | exact kb_int_bool | exact kb_int_list | exact kb_int_tuple | exact kb_bool_str | exact kb_bool_int | exact kb_bool_bool | exact kb_bool_list | exact kb_bool_tuple | exact kb_list_str | exact kb_list_int | exact kb_list_bool | exact kb_list_list | exact kb_list_tuple | exact kb_tuple_str | exact kb_tuple_int | exact kb_tuple_bool | exact kb_tuple_list | exact kb_tuple_tuple | exact kb_NoneType_str | exact kb_NoneType_int | exact kb_NoneType_bool | exact kb_NoneType_list | exact kb_NoneType_tuple | exact kb_dict_str | exact kb_dict_int | exact kb_dict_bool | exact kb_dict_list | exact kb_dict_tuple)
local macro_rules | `(tactic| wtm_at "gx1") => `(tactic| first | ((with_reducible apply g_eqS); (· exact rfl)) | ((with_reducible apply g_neS); (· exact rfl)) | wtm_at "go1" | with_reducible apply g_min2 | with_reducible apply g_max2 | with_reducible apply g_T | with_reducible apply g_F | with_reducible apply g_NT | with_reducible apply g_NF | with_reducible apply g_nT | with_reducible apply g_nF | with_reducible apply g_RT | with_reducible apply g_RF | ((with_reducible apply g_isi); (· wtm_at "ty"); (· wtm_at "kb")) | ((with_reducible apply g_ixAU3); (· wtm_at "lk"); (· exact rfl)) | ((with_reducible apply g_ixAL3); (· wtm_at "lk"); (· exact rfl)) | ((with_reducible apply g_ixU3); (· wtm_at "lk"); (· exact rfl)) | ((with_reducible apply g_lenL3); (· wtm_at "lk")) | ((with_reducible apply g_lenU3); (· wtm_at "lk")) | ((with_reducible apply g_tyL3); (· wtm_at "lk")) | ((with_reducible apply g_lenT); (· wtm_at "pv")) | wtm_at "tr" | with_reducible apply g_ET | with_reducible apply g_EF | with_reducible apply g_EnT | with_reducible apply g_EnF)
local macro_rules | `(tactic| wtm_at "pv") => `(tactic| first | exact rfl | assumption | omega | (simp; done) | (simp; omega))
local macro_rules | `(tactic| wtm_at "tr") => `(tactic| first | ((with_reducible apply g_Td); (· wtm_at "pv")) | ((with_reducible apply g_Fd); (· wtm_at "pv")) | ((with_reducible apply g_NTd); (· wtm_at "pv")) | ((with_reducible apply g_NFd); (· wtm_at "pv")) | ((with_reducible apply g_nTd); (· wtm_at "pv")) | ((with_reducible apply g_nFd); (· wtm_at "pv")) | ((with_reducible apply g_RTd); (· wtm_at "pv")) | ((with_reducible apply g_RFd); (· wtm_at "pv")))
local macro_rules | `(tactic| wtm_at "gx") => `(tactic| repeat wtm_at "gx1")
local macro_rules | `(tactic| wtm_at "unfS") => `(tactic| (try simp only [tSeq, tNext, tAsg, tFor_eq, C8.tCut, wipe, gName, tDrop, List.set_cons_zero, List.set_cons_succ, cx_K]))
local macro_rules | `(tactic| wtm_at "rd1") => `(tactic| first | exact rd_int | exact rd_str | exact rd_bl | exact rd_non | exact rda_nil | apply rda_cons | (with_reducible apply rd_tup; (· assumption)) | (with_reducible apply rd_lst; (· assumption)) | exact rd_dic (by assumption) | exact rd_var rfl (.int _) | exact rd_var rfl (.str _) | exact rd_var rfl (.bl _) | exact rd_var rfl (by assumption) | (with_reducible apply rd_cat; (· assumption)) | (with_reducible apply rd_rep2; (· assumption)) | (with_reducible apply rd_rev; (· assumption)) | (with_reducible apply rd_to; (· assumption)) | (with_reducible apply rd_from; (· assumption)) | (with_reducible apply rd_tupOf; (· assumption)) | (with_reducible apply rd_lstOf; (· assumption)) | with_reducible apply rd_lenL | with_reducible apply rd_lenT | with_reducible apply rd_I0 | with_reducible apply rd_I | with_reducible apply rd_U | with_reducible apply rd_eqI | with_reducible apply rd_ixL | with_reducible apply rd_ixT | exact atI_hd _ _ | exact ‹atI _ _ = some _›)
local macro_rules | `(tactic| wtm_at "rdl") => `(tactic| first | decide | omega | wtm_at "sc" | (simp only [List.length_append, List.length_cons, List.length_nil, List.length_map, List.length_take, List.length_drop, List.length_reverse, cutTo]; omega))
local macro_rules | `(tactic| wtm_at "rd") => `(tactic| ((repeat' wtm_at "rd1"); (all_goals wtm_at "rdl")))
local macro_rules | `(tactic| wtm_at "nc") => `(tactic| repeat' (first | assumption | exact nca_nil | exact nc_non | exact nc_bl | exact nc_dic | exact nc_tup0 | exact nc_lst0 | (refine nc_strS (by decide) (by decide)) | (refine nc_int (by omega)) | (refine nc_big (by decide +kernel)) | refine nca_app ?_ ?_ | refine nca_cons ?_ ?_ | refine nca_take ?_ | refine nca_drop ?_ | refine nca_cutTo ?_ | refine nca_rev ?_ | refine nc_tup (by decide) ?_ | refine nc_lst (by decide) ?_ | refine nc_lst (Nat.le_trans (show _ ≤ 45 by wtm_at "rdl") (by decide)) ?_ | refine nc_tup (Nat.le_trans (show _ ≤ 45 by wtm_at "rdl") (by decide)) ?_))

section
variable {P : Program} {w : World} {K : PySem.W.Frag} {mg : Str → Option Value} {base : Heap}
/-! _law_sign -/
def sp_law_sign : Sp := fun vs H Q _ => ∃ (p : Addr) (P0 : Pt), vs = [.ref p] ∧ H p = some P0.o ∧ ∀ (c : Nat) (P1 : Pt) (H' : Hp), isSg c → But p H H' → H' p = some P1.o → Q (Tx [c]) H'
theorem ok_law_sign (T : Facts K mg) : C8.Cal P w K mg base 3 "_law_sign" sp_law_sign [] := by
  refine calD T.f_law_sign sc_law_sign (fun vs H Q E h => ?_) (fun f cdv A outer s H vs Q E hr h => ?_)
  · obtain ⟨p, P0, rfl, hp, q⟩ := h; rfl
  · obtain ⟨p, P0, rfl, hp, q⟩ := h
    refine ⟨_, (pss_cons (ps_set (i := 1) sc_law_sign.nd rfl (Or.inl rfl) (pe_own (ok_law_take T) hr (by omega) rfl (pa_cons (pv 0) (pa_cons pe_int pa_nil))))
       (pss_cons (ps_if (pt_cmpR op_lt (pv 1) pe_int (nomark _))
       (pss_one (ps_ret (pe_ix ix_txt (pe_strS (l := LET) (by decide +kernel)) (pe_ix ix_list (pe_lst (pa_cons (pe_own (ok_law_take T) hr (by omega) rfl (pa_cons (pv 0) (pa_cons pe_int pa_nil))) (pa_cons (pe_own (ok_law_take T) hr (by omega) rfl (pa_cons (pv 0) (pa_cons pe_int pa_nil))) pa_nil))) (pv 1) (fun _ _ => rfl)) (fun _ _ => rfl))))
       pss_nil)
       (pss_cons (ps_if (pt_cmpR op_lt (pv 1) pe_int (nomark _))
       (pss_one (ps_ret (pe_ix ix_txt (pe_strS (l := [40, 41, 91, 93]) (by decide +kernel)) (pe_own (ok_law_take T) hr (by omega) rfl (pa_cons (pv 0) (pa_cons pe_int pa_nil))) (fun _ _ => rfl))))
       pss_nil)
       (pss_one (ps_ret (pe_ix ix_txt (pe_strS (l := BRK) (by decide +kernel)) (pe_own (ok_law_take T) hr (by omega) rfl (pa_cons (pv 0) (pa_cons pe_int pa_nil))) (fun _ _ => rfl))))))), ?_⟩
    rw [st_law_sign]
    wtm_at "unf"
    wtm_at "go"
    refine ⟨p, P0, 8, rfl, hp, by decide, by decide, fun r P1 H1 r0 r1 b1 e1 => ?_⟩
    wtm_at "go"
    refine g_test (fun h => ?_) (fun h => ?_)
    · wtm_at "go"
      refine ⟨p, P1, 3, rfl, e1, by decide, by decide, fun x P2 H2 x0 x1 b2 e2 => ?_⟩
      wtm_at "go"
      refine ⟨p, P2, 26, rfl, e2, by decide, by decide, fun y P3 H3 y0 y1 b3 e3 => ?_⟩
      refine g_lst (by show 2 ≤ 100000; decide) fun a H4 na s4 e4 => ?_
      wtm_at "go"
      have key : ∃ z : Nat, (z : Int) < 26 ∧ atI [V.int x, V.int y] r = some (.int z) := by
        by_cases hr : r = 0
        · subst hr
          exact ⟨x.toNat, by omega, by rw [Int.toNat_of_nonneg x0]; rfl⟩
        · have : r = 1 := by omega
          subst this
          exact ⟨y.toNat, by omega, by rw [Int.toNat_of_nonneg y0]; rfl⟩
      obtain ⟨z, hz, ez⟩ := key
      refine g_ixL (sq_of e4) ez ?_
      have hz2 : z < LET.length := by show z < 26; omega
      refine g_ixT (by decide) (atI_of (List.getElem?_eq_getElem hz2)) ?_
      refine q _ P3 H4 (.inl (List.getElem_mem hz2)) (by wtm_at "sm") (by wtm_at "lk")
    · wtm_at "go"
      refine g_test (fun h => ?_) (fun h => ?_)
      · wtm_at "go"
        refine ⟨p, P1, 4, rfl, e1, by decide, by decide, fun x P2 H2 x0 x1 b2 e2 => ?_⟩
        obtain ⟨k, rfl⟩ := Int.eq_ofNat_of_zero_le x0
        have hk : k < [40, 41, 91, 93].length := by show k < 4; omega
        refine g_ixT (by decide) (atI_of (List.getElem?_eq_getElem hk)) ?_
        refine q _ P2 H2 (.inr ?_) (by wtm_at "sm") e2
        have hm : ∀ c ∈ [40, 41, 91, 93], c ∈ BRK := by decide
        exact hm _ (List.getElem_mem hk)
      · wtm_at "go"
        refine ⟨p, P1, 8, rfl, e1, by decide, by decide, fun x P2 H2 x0 x1 b2 e2 => ?_⟩
        obtain ⟨k, rfl⟩ := Int.eq_ofNat_of_zero_le x0
        have hk : k < BRK.length := by show k < 8; omega
        refine g_ixT (by decide) (atI_of (List.getElem?_eq_getElem hk)) ?_
        exact q _ P2 H2 (.inr (List.getElem_mem hk)) (by wtm_at "sm") e2
/-! _law_long -/
def sp_law_long : Sp := fun vs H Q _ => ∃ (p : Addr) (P0 : Pt) (k : Int), vs = [.ref p, .int k] ∧ H p = some P0.o ∧ ∀ (r : Nat) (P1 : Pt) (H' : Hp), r ≤ 120 → But p H H' → H' p = some P1.o → Q (.int r) H'
theorem ok_law_long (T : Facts K mg) : C8.Cal P w K mg base 3 "_law_long" sp_law_long [] := by
  refine calD T.f_law_long sc_law_long (fun vs H Q E h => ?_) (fun f cdv A outer s H vs Q E hr h => ?_)
  · obtain ⟨p, P0, k, rfl, hp, q⟩ := h; rfl
  · obtain ⟨p, P0, k, rfl, hp, q⟩ := h
    refine ⟨_, (pss_cons (ps_ifC (PW.pt (pw_and (pt_cmpR op_eq (pv 1) pe_int (nomark _)) (pw_and1 (pt_cmpR op_eq (pe_own (ok_law_take T) hr (by omega) rfl (pa_cons (pv 0) (pa_cons pe_int pa_nil))) pe_int (nomark _)))))
       (pss_one (ps_ret (pe_op op_sub pe_int (pe_op op_mul (pe_own (ok_law_take T) hr (by omega) rfl (pa_cons (pv 0) (pa_cons pe_int pa_nil))) (pe_own (ok_law_take T) hr (by omega) rfl (pa_cons (pv 0) (pa_cons pe_int pa_nil)))))))
       pss_nil)
       (pss_one (ps_ret (pe_own (ok_law_take T) hr (by omega) rfl (pa_cons (pv 0) (pa_cons (pe_ix ix_list (pe_lst (pa_cons pe_int (pa_cons pe_int (pa_cons pe_int pa_nil)))) (pe_own (ok_law_take T) hr (by omega) rfl (pa_cons (pv 0) (pa_cons pe_int pa_nil))) (fun _ _ => rfl)) pa_nil)))))), ?_⟩
    rw [st_law_long]
    have tail : ∀ (Hx : Hp) (Px : Pt), But p H Hx → Hx p = some Px.o → rLstN [V.int 6, V.int 14, V.int 30] Hx (fun v H1 => tVar 0 [some (V.ref p), some (V.int k)] H1 fun x1 H1 => sp_law_take [x1, V.int 3] H1 (fun y H2 => rIxL K v y H2 fun x2 H1 => sp_law_take [V.ref p, x2] H1 Q C8.E0) C8.E0) := by
      intro Hx Px bx ex
      refine g_lst (by show 3 ≤ 100000; decide) fun a H4 na s4 e4 => ?_
      wtm_at "go"
      refine ⟨p, Px, 3, rfl, by wtm_at "lk", by decide, by decide, fun r P1 H1 r0 r1 b1 e1 => ?_⟩
      have key : ∃ z : Int, 0 < z ∧ z ≤ 30 ∧ atI [V.int 6, V.int 14, V.int 30] r = some (.int z) := by
        by_cases h0 : r = 0
        · subst h0; exact ⟨6, by decide, by decide, rfl⟩
        by_cases h1 : r = 1
        · subst h1; exact ⟨14, by decide, by decide, rfl⟩
        · have : r = 2 := by omega
          subst this; exact ⟨30, by decide, by decide, rfl⟩
      obtain ⟨z, z0, z1, ez⟩ := key
      have nap : a ≠ p := by wtm_at "ne"
      refine g_ixL (sq_of (by wtm_at "lk")) ez ?_
      refine ⟨p, P1, z, rfl, e1, z0, by omega, fun y P2 H2 y0 y1 b2 e2 => ?_⟩
      obtain ⟨y', rfl⟩ := Int.eq_ofNat_of_zero_le y0
      exact q y' P2 H2 (by omega) (by wtm_at "sm") e2
    simp only [tIfC]
    wtm_at "unf"
    wtm_at "go"
    refine g_test (fun h => ?_) (fun h => ?_)
    · wtm_at "go"
      refine ⟨p, P0, 8, rfl, hp, by decide, by decide, fun r P1 H1 r0 r1 b1 e1 => ?_⟩
      wtm_at "go"
      refine g_test (fun h => ?_) (fun h => ?_)
      · wtm_at "go"
        refine ⟨p, P1, 2, rfl, e1, by decide, by decide, fun x P2 H2 x0 x1 b2 e2 => ?_⟩
        wtm_at "go"
        refine ⟨p, P2, 90, rfl, e2, by decide, by decide, fun y P3 H3 y0 y1 b3 e3 => ?_⟩
        wtm_at "go"
        have hx : x = 0 ∨ x = 1 := by omega
        have e : ∃ z : Nat, z ≤ 120 ∧ 120 - x * y = (z : Int) := by
          rcases hx with rfl | rfl
          · exact ⟨120, by omega, by omega⟩
          · exact ⟨(120 - y).toNat, by omega, by omega⟩
        obtain ⟨z, hz, ez⟩ := e
        rw [ez]
        exact q z P3 H3 hz (by wtm_at "sm") e3
      · wtm_at "go"
        exact tail _ _ (by wtm_at "sm") e1
    · wtm_at "go"
      exact tail _ _ But.refl hp
/-! _law_clean -/
def sp_law_clean : Sp := fun vs H Q _ => ∃ (p : Addr) (P0 : Pt) (m : Nat), vs = [.ref p, .int m] ∧ H p = some P0.o ∧ m ≤ 1000 ∧ ∀ (l : List Nat) (P1 : Pt) (H' : Hp), (∀ c ∈ l, isSg c) → l.length ≤ m → clean l → But p H H' → H' p = some P1.o → Q (Tx l) H'
theorem ok_law_clean (T : Facts K mg) : C8.Cal P w K mg base 3 "_law_clean" sp_law_clean [] := by
  refine calD T.f_law_clean sc_law_clean (fun vs H Q E h => ?_) (fun f cdv A outer s H vs Q E hr h => ?_)
  · obtain ⟨p, P0, m, rfl, hp, hm, q⟩ := h; rfl
  · obtain ⟨p, P0, m, rfl, hp, hm, q⟩ := h
    refine ⟨_, (pss_cons (ps_set (i := 2) sc_law_clean.nd rfl (Or.inl rfl) (pe_strS (l := []) (by decide +kernel)))
       (pss_cons (ps_set (i := 3) sc_law_clean.nd rfl (Or.inl rfl) (pe_lst pa_nil))
       (pss_cons (ps_set (i := 4) sc_law_clean.nd rfl (Or.inl rfl) (pe_lst (pa_cons (pe_op op_add pe_int (pe_own (ok_law_take T) hr (by omega) rfl (pa_cons (pv 0) (pa_cons pe_int pa_nil)))) (pa_cons (pe_op op_add pe_int (pe_own (ok_law_take T) hr (by omega) rfl (pa_cons (pv 0) (pa_cons pe_int pa_nil)))) pa_nil))))
       (pss_cons (ps_set (i := 5) sc_law_clean.nd rfl (Or.inl rfl) (pv 1))
       (pss_cons (ps_while PassesOwn.never (pt_cmpR op_gt (pv 5) pe_int (nomark _))
       (pss_cons (ps_set (i := 6) sc_law_clean.nd rfl (Or.inl rfl) (pe_own (ok_law_take T) hr (by omega) rfl (pa_cons (pv 0) (pa_cons (pe_op op_add (pe_op op_add pe_int (pe_ix ix_list (pv 4) pe_int (fun _ _ => rfl))) (pe_ix ix_list (pv 4) pe_int (fun _ _ => rfl))) pa_nil))))
       (pss_one (ps_if (pt_cmpR op_eq (pv 6) pe_int (nomark _))
       (pss_cons (ps_set (i := 2) sc_law_clean.nd rfl (Or.inl rfl) (pe_op op_addT (pv 2) (pe_ix ix_txt (pe_strS (l := LET) (by decide +kernel)) (pe_own (ok_law_take T) hr (by omega) rfl (pa_cons (pv 0) (pa_cons pe_int pa_nil))) (fun _ _ => rfl))))
       (pss_one (ps_set (i := 5) sc_law_clean.nd rfl (Or.inl rfl) (pe_op op_sub (pv 5) pe_int))))
       (pss_one (ps_ifC (PW.pt (pw_and (pt_cmpR op_le (pv 6) (pe_ix ix_list (pv 4) pe_int (fun _ _ => rfl)) (nomark _)) (pw_and1 (pt_cmpR op_gt (pv 5) pe_int (nomark _)))))
       (pss_cons (ps_set (i := 7) sc_law_clean.nd rfl (Or.inl rfl) (pe_own (ok_law_take T) hr (by omega) rfl (pa_cons (pv 0) (pa_cons pe_int pa_nil))))
       (pss_cons (ps_set (i := 2) sc_law_clean.nd rfl (Or.inl rfl) (pe_op op_addT (pv 2) (pe_ix ix_txt (pe_strS (l := OPN) (by decide +kernel)) (pv 7) (fun _ _ => rfl))))
       (pss_cons (ps_expr (pe_bm PySem.F.plainAttrs_list PySem.F.slot_list_append PySem.F.type_list_append mt_append (pv 3) (pa_cons (pe_ix ix_txt (pe_strS (l := CLO) (by decide +kernel)) (pv 7) (fun _ _ => rfl)) pa_nil)))
       (pss_one (ps_set (i := 5) sc_law_clean.nd rfl (Or.inl rfl) (pe_op op_sub (pv 5) pe_int))))))
       (pss_one (ps_if (pt_cmpR (op_neD hr.units) (pv 3) (pe_lst pa_nil) (nomark _))
       (pss_one (ps_set (i := 2) sc_law_clean.nd rfl (Or.inl rfl) (pe_op op_addT (pv 2) (pe_bm0 PySem.F.plainAttrs_list PySem.F.slot_list_pop PySem.F.type_list_pop mt_pop (pv 3)))))
       (pss_one (ps_set (i := 5) sc_law_clean.nd rfl (Or.inl rfl) (pe_op op_sub (pv 5) pe_int)))))))))))
       (pss_one (ps_ret (pe_op op_addT (pv 2) (pe_m1 PySem.F.slot_str_join PySem.F.type_str_join mt_joinT (pe_strS (l := []) (by decide +kernel)) (pe_revL (pv 3))))))))))), ?_⟩
    rw [st_law_clean]
    wtm_at "unf"
    wtm_at "go"
    refine g_lst (by show 0 ≤ 100000; decide) fun wa H1 nwa s1 ewa => ?_
    wtm_at "go"
    refine ⟨p, P0, 4, rfl, by wtm_at "lk", by decide, by decide, fun a P2 H2 a0 a1 b2 e2 => ?_⟩
    wtm_at "go"
    refine ⟨p, P2, 3, rfl, e2, by decide, by decide, fun b P3 H3 b0 b1 b3 e3 => ?_⟩
    wtm_at "go"
    refine g_lst (by show 2 ≤ 100000; decide) fun sh H4 nsh s4 esh => ?_
    wtm_at "go"
    have hwp : wa ≠ p := by wtm_at "ne"
    have hw4 : H4 wa = some (.lst []) := by wtm_at "lk"
    have hp4 : H4 p = some P3.o := by wtm_at "lk"
    have hsw : sh ≠ wa := by wtm_at "ne"
    have hsp : sh ≠ p := by wtm_at "ne"
    have b4 : But p H H4 := by wtm_at "sm"
    have nsh0 : H sh = none := by wtm_at "fr"
    refine g_while (fun k σ H' => ∃ (t w : List Nat) (left : Nat) (y6 y7 : Option V) (P5 : Pt), σ = [some (V.ref p), some (V.int m), some (Tx t), some (V.ref wa), some (V.ref sh), some (V.int left), y6, y7] ∧ k = 2 * left + w.length ∧
      t.length + w.length + left ≤ m ∧ (∀ c ∈ t, isSg c) ∧ (∀ c ∈ w, c ∈ CLO) ∧ run t = some w.reverse ∧ H' wa = some (.lst (sgV w)) ∧ H' sh = some (.lst [.int (1 + a), .int (1 + b)]) ∧ H' p = some P5.o ∧ But p H H') (2 * m) ⟨[], [], m, none, none, P3, rfl, by simp, by simp, by simp, by simp, rfl, hw4, esh, hp4, b4⟩ (fun k σ H' hv => ?_)
    obtain ⟨t, w, left, y6, y7, P5, rfl, rfl, hlen, ht, hw, hrun, ew, es, ep, bH⟩ := hv
    wtm_at "unf"
    wtm_at "go"
    refine g_test (fun h => ?_) (fun h => ?_)
    · refine g_whb ?_
      wtm_at "unf"
      wtm_at "go"
      refine ⟨p, P5, _, rfl, ep, by omega, by omega, fun r P6 H6 r0 r1 b6 e6 => ?_⟩
      wtm_at "go"
      have ew6 : H6 wa = some (.lst (sgV w)) := by wtm_at "lk"
      have es6 : H6 sh = some (.lst [.int (1 + a), .int (1 + b)]) := by wtm_at "lk"
      refine g_test (fun h1 => ?_) (fun h1 => ?_)
      · wtm_at "go"
        refine ⟨p, P6, 26, rfl, e6, by decide, by decide, fun x P7 H7 x0 x1 b7 e7 => ?_⟩
        obtain ⟨z, rfl⟩ := Int.eq_ofNat_of_zero_le x0
        have hz2 : z < LET.length := by show z < 26; omega
        refine g_ixT (by decide) (atI_of (List.getElem?_eq_getElem hz2)) ?_
        wtm_at "go"
        have hmem : LET[z] ∈ LET := List.getElem_mem hz2
        refine ⟨2 * (left - 1) + w.length, by omega, t ++ [LET[z]], w, left - 1, _, _, P7, by rw [show ((left - 1 : Nat) : Int) = (left : Int) - 1 by omega], rfl, by simp; omega, ?_, hw, ?_, by wtm_at "lk", by wtm_at "lk", e7, by wtm_at "sm"⟩
        · intro c hc
          rcases List.mem_append.mp hc with hc | hc
          · exact ht c hc
          · rw [List.mem_singleton] at hc
            subst hc
            exact .inl hmem
        · rw [run_snoc, hrun, stp_let (let_opn _ hmem) (let_clo _ hmem)]
      · wtm_at "go"
        refine g_ifC (b := decide (r ≤ 1 + a) && decide ((1 : Int) < left)) (fun Q q => ?_) (fun h2 => ?_) (fun h2 => ?_)
        · wtm_at "unf"
          wtm_at "go"
          refine g_test (fun h => ?_) (fun h => ?_)
          · wtm_at "go"
            refine ⟨_, rfl, ?_⟩
            rw [decide_eq_true h, Bool.true_and] at q
            exact q
          · rw [decide_eq_false h, Bool.false_and] at q
            exact q
        · have h3 : 1 < left := by simp at h2; omega
          wtm_at "unf"
          wtm_at "go"
          refine ⟨p, P6, 4, rfl, e6, by decide, by decide, fun x P7 H7 x0 x1 b7 e7 => ?_⟩
          obtain ⟨z, rfl⟩ := Int.eq_ofNat_of_zero_le x0
          obtain ⟨c, ec, ed, hco, hdc⟩ := opn_at (z := z) (by omega)
          wtm_at "go"
          refine g_ixT (by decide) (atI_of ec) ?_
          wtm_at "go"
          refine ⟨g_tyL (sq_of (show H7 wa = some (.lst (sgV w)) by wtm_at "lk")), ?_⟩
          wtm_at "go"
          refine g_ixT (by decide) (atI_of ed) ?_
          refine g_append1 (show H7 wa = some (.lst (sgV w)) by wtm_at "lk") (by rw [sgV_len]; omega) fun H8 b8 e8 => ?_
          wtm_at "go"
          rw [← sgV_snoc] at e8
          refine ⟨2 * (left - 2) + (w.length + 1), by omega, t ++ [c], w ++ [oth c], left - 2, _, _, P7, by rw [show ((left - 2 : Nat) : Int) = (left : Int) - 2 by omega] <;> rfl, by simp, by simp; omega, ?_, ?_, ?_, e8, by wtm_at "lk", by wtm_at "lk", by wtm_at "sm"⟩
          · intro d hd
            rcases List.mem_append.mp hd with hd | hd
            · exact ht d hd
            · rw [List.mem_singleton] at hd
              subst hd
              exact .inr (brk_or.mpr (.inl hco))
          · intro d hd
            rcases List.mem_append.mp hd with hd | hd
            · exact hw d hd
            · rw [List.mem_singleton] at hd
              subst hd
              exact hdc
          · rw [run_snoc, hrun, stp_opn hco]
            simp
        · wtm_at "unf"
          wtm_at "go"
          refine g_lst (by show 0 ≤ 100000; decide) fun em H7 nem s7 eem => ?_
          refine g_neNilS (sq_of (Same.get s7 ew6)) (fun c hc => sg_lt (.inr (brk_or.mpr (.inr (hw c hc))))) (sq_of eem) ?_
          refine g_testN (fun h4 => ?_) (fun h4 => ?_)
          · obtain ⟨w', c, rfl⟩ : ∃ w' c, w = w' ++ [c] := ⟨w.dropLast, w.getLast h4, (List.dropLast_concat_getLast h4).symm⟩
            rw [sgV_snoc] at ew6
            wtm_at "go"
            refine g_pop (Same.get s7 ew6) fun H8 b8 e8 => ?_
            wtm_at "go"
            have hc : c ∈ CLO := hw c (by simp)
            simp only [List.length_append, List.length_singleton] at hlen
            refine ⟨2 * left + w'.length, by wtm_at "om", t ++ [c], w', left, _, _, P6, rfl, rfl, by simp; omega, ?_, fun d hd => hw d (by simp [hd]), ?_, e8, by wtm_at "lk", by wtm_at "lk", by wtm_at "sm"⟩
            · intro d hd
              rcases List.mem_append.mp hd with hd | hd
              · exact ht d hd
              · rw [List.mem_singleton] at hd
                subst hd
                exact .inr (brk_or.mpr (.inr hc))
            · rw [run_snoc, hrun, List.reverse_append]
              exact stp_clo hc
          · subst h4
            wtm_at "go"
            exact ⟨2 * (left - 1), by wtm_at "om", t, [], left - 1, _, _, P6, by rw [show ((left - 1 : Nat) : Int) = (left : Int) - 1 by omega], by simp, by simp at hlen ⊢; omega, ht, hw, hrun, by wtm_at "lk", by wtm_at "lk", by wtm_at "lk", by wtm_at "sm"⟩
    · wtm_at "unf"
      wtm_at "go"
      refine g_revL (sq_of ew) fun rv H6 nrv s6 erv => ?_
      rw [sgV_rev] at erv
      refine g_join0 (l := w.reverse) (sq_of erv) (by wtm_at "om") ?_
      wtm_at "go"
      refine q (t ++ w.reverse) P5 H6 ?_ (by wtm_at "om") ?_ (by wtm_at "sm") (by wtm_at "lk")
      · intro d hd
        rcases List.mem_append.mp hd with hd | hd
        · exact ht d hd
        · exact .inr (brk_or.mpr (.inr (hw d (by simpa using hd))))
      · show Ly.run _ = some []
        rw [run_app, hrun]
        exact fold_clo _ fun d hd => hw d (by simpa using hd)
/-! _law_bent -/
def sp_law_bent : Sp := fun vs H Q _ => ∃ (p : Addr) (P0 : Pt) (l : List Nat), vs = [.ref p, Tx l] ∧ H p = some P0.o ∧ l.length ≤ 120 ∧ (∀ c ∈ l, isSg c) ∧ ∀ (l' : List Nat) (P1 : Pt) (H' : Hp), l'.length ≤ 120 → (∀ c ∈ l', isSg c) → But p H H' → H' p = some P1.o → Q (Tx l') H'
theorem ok_law_bent (T : Facts K mg) : C8.Cal P w K mg base 4 "_law_bent" sp_law_bent [] := by
  refine calD T.f_law_bent sc_law_bent (fun vs H Q E h => ?_) (fun f cdv A outer s H vs Q E hr h => ?_)
  · obtain ⟨p, P0, l, rfl, hp, hl, hs, q⟩ := h; rfl
  · obtain ⟨p, P0, l, rfl, hp, hl, hs, q⟩ := h
    refine ⟨_, (pss_cons (ps_set (i := 2) sc_law_bent.nd rfl (Or.inl rfl) (pe_own (ok_law_take T) hr (by omega) rfl (pa_cons (pv 0) (pa_cons (pe_op op_add (pe_callB call_lenT rfl T.b_len PySem.boot_len (pa_cons (pv 1) pa_nil)) pe_int) pa_nil))))
       (pss_cons (ps_set (i := 3) sc_law_bent.nd rfl (Or.inl rfl) (pe_own (ok_law_take T) hr (by omega) rfl (pa_cons (pv 0) (pa_cons pe_int pa_nil))))
       (pss_cons (ps_ifC (PW.pt (pw_or (pt_cmpR op_eq (pv 3) pe_int (nomark _)) (pw_or1 (pt_cmpR op_eq (pv 1) (pe_strS (l := []) (by decide +kernel)) (nomark _)))))
       (pss_one (ps_ret (pe_slice sl_tx (pe_op op_addT (pe_op op_addT (pe_slice sl_tx (pv 1) po_none (po_some (pv 2))) (pe_own (ok_law_sign T) hr (by omega) rfl (pa_cons (pv 0) pa_nil))) (pe_slice sl_tx (pv 1) (po_some (pv 2)) po_none)) po_none (po_some pe_int))))
       pss_nil)
       (pss_cons (ps_set (i := 2) sc_law_bent.nd rfl (Or.inl rfl) (pe_op op_mod (pv 2) (pe_callB call_lenT rfl T.b_len PySem.boot_len (pa_cons (pv 1) pa_nil))))
       (pss_cons (ps_set (i := 4) sc_law_bent.nd rfl (Or.inl rfl) (pe_own (ok_law_take T) hr (by omega) rfl (pa_cons (pv 0) (pa_cons (pe_callB call_lenT rfl T.b_len PySem.boot_len (pa_cons (pv 1) pa_nil)) pa_nil))))
       (pss_cons (ps_if (pt_cmpR op_eq (pv 3) pe_int (nomark _))
       (pss_one (ps_ret (pe_op op_addT (pe_slice sl_tx (pv 1) po_none (po_some (pv 2))) (pe_slice sl_tx (pv 1) (po_some (pe_op op_add (pv 2) pe_int)) po_none))))
       pss_nil)
       (pss_cons (ps_if (pt_cmpR op_eq (pv 3) pe_int (nomark _))
       (pss_one (ps_ret (pe_op op_addT (pe_op op_addT (pe_slice sl_tx (pv 1) po_none (po_some (pv 2))) (pe_own (ok_law_sign T) hr (by omega) rfl (pa_cons (pv 0) pa_nil))) (pe_slice sl_tx (pv 1) (po_some (pe_op op_add (pv 2) pe_int)) po_none))))
       pss_nil)
       (pss_cons (ps_set (i := 5) sc_law_bent.nd rfl (Or.inl rfl) (pe_callTy (call_listT rfl) rfl T.b_list (by decide +kernel) (pa_cons (pv 1) pa_nil)))
       (pss_cons (ps_asg (pe_ix ix_txt (pv 1) (pv 4) (fun _ _ => rfl)) (pg_sub (pv 5) (pv 2) set_list))
       (pss_cons (ps_asg (pe_ix ix_txt (pv 1) (pv 2) (fun _ _ => rfl)) (pg_sub (pv 5) (pv 4) set_list))
       (pss_one (ps_ret (pe_m1 PySem.F.slot_str_join PySem.F.type_str_join mt_joinT (pe_strS (l := []) (by decide +kernel)) (pv 5)))))))))))))), ?_⟩
    rw [st_law_bent]
    wtm_at "unf"
    wtm_at "go"
    refine ⟨p, P0, _, rfl, hp, by omega, by omega, fun at_ P1 H1 a0 a1 b1 e1 => ?_⟩
    obtain ⟨i, rfl⟩ := Int.eq_ofNat_of_zero_le a0
    wtm_at "go"
    refine ⟨p, P1, 4, rfl, e1, by decide, by decide, fun way P2 H2 w0 w1 b2 e2 => ?_⟩
    have hput : ∀ (a b : List Nat) (c : Nat), (∀ d ∈ a, isSg d) → isSg c → (∀ d ∈ b, isSg d) → ∀ d ∈ a ++ [c] ++ b, isSg d := by
      intro a b c ha hc hb d hd
      rcases List.mem_append.mp hd with hd | hd
      · rcases List.mem_append.mp hd with hd | hd
        · exact ha d hd
        · rw [List.mem_singleton] at hd
          subst hd
          exact hc
      · exact hb d hd
    have htake : ∀ n, ∀ d ∈ l.take n, isSg d := fun n d hd => hs d (List.mem_of_mem_take hd)
    have hdrop : ∀ n, ∀ d ∈ l.drop n, isSg d := fun n d hd => hs d (List.mem_of_mem_drop hd)
    refine g_ifC (b := decide (way = 0) || decide (l = [])) (fun Q q => ?_) (fun h2 => ?_) (fun h2 => ?_)
    · wtm_at "unf"
      wtm_at "go"
      refine g_test (fun h => ?_) (fun h => ?_)
      · rw [V.int.injEq] at h
        rw [decide_eq_true h, Bool.true_or] at q
        exact q
      · wtm_at "go"
        refine ⟨_, rfl, ?_⟩
        rw [V.int.injEq] at h
        rw [decide_eq_false h, Bool.false_or] at q
        rw [decide_eq_decide.mpr (Tx_inj (a := l) (b := []))]
        exact q
    · wtm_at "unf"
      wtm_at "go"
      refine g_slTo (by omega) (by omega) ?_
      wtm_at "go"
      refine ⟨p, P2, rfl, e2, fun c P3 H3 hc b3 e3 => ?_⟩
      wtm_at "go"
      refine g_slFrom (by omega) (by omega) ?_
      wtm_at "go"
      refine g_slTo (by wtm_at "om") (by decide) ?_
      exact q _ P3 H3 (by wtm_at "om") (fun d hd => hput _ _ c (htake _) hc (hdrop _) d (List.mem_of_mem_take hd)) (by wtm_at "sm") e3
    · have hway : way ≠ 0 := by intro h; subst h; simp at h2
      have hne : l ≠ [] := by intro h; subst h; simp at h2
      have hpos : 0 < l.length := List.length_pos_iff.mpr hne
      wtm_at "unf"
      wtm_at "go"
      generalize hj : (i : Int) % (l.length : Int) = jj
      have hj0 : 0 ≤ jj := by rw [← hj]; exact Int.emod_nonneg _ (by omega)
      have hj1 : jj < l.length := by rw [← hj]; exact Int.emod_lt_of_pos _ (by omega)
      obtain ⟨j, rfl⟩ := Int.eq_ofNat_of_zero_le hj0
      refine ⟨p, P2, _, rfl, e2, by omega, by omega, fun to_ P3 H3 t0 t1 b3 e3 => ?_⟩
      obtain ⟨k, rfl⟩ := Int.eq_ofNat_of_zero_le t0
      wtm_at "go"
      refine g_test (fun h => ?_) (fun h => ?_)
      · wtm_at "go"
        refine g_slTo (by omega) (by omega) ?_
        wtm_at "go"
        refine g_slFrom (by omega) (by omega) ?_
        wtm_at "go"
        refine q _ P3 H3 (by wtm_at "om") (fun d hd => ?_) (by wtm_at "sm") e3
        rcases List.mem_append.mp hd with hd | hd
        · exact htake _ d hd
        · exact hdrop _ d hd
      wtm_at "go"
      refine g_test (fun h => ?_) (fun h => ?_)
      · wtm_at "go"
        refine g_slTo (by omega) (by omega) ?_
        wtm_at "go"
        refine ⟨p, P3, rfl, e3, fun c P4 H4 hc b4 e4 => ?_⟩
        wtm_at "go"
        refine g_slFrom (by omega) (by omega) ?_
        wtm_at "go"
        exact q _ P4 H4 (by wtm_at "om") (hput _ _ c (htake _) hc (hdrop _)) (by wtm_at "sm") e4
      have hjl : j < l.length := by omega
      have hkl : k < l.length := by omega
      wtm_at "go"
      refine g_listT (by omega) fun sg H4 nsg s4 esg => ?_
      wtm_at "go"
      refine g_ixT (by omega) (atI_of (List.getElem?_eq_getElem hkl)) ?_
      wtm_at "go"
      refine g_setL (n := j) esg (by rw [sgV_len]; exact ixN_nat hjl) fun H5 b5 e5 => ?_
      wtm_at "go"
      refine g_ixT (by omega) (atI_of (List.getElem?_eq_getElem hjl)) ?_
      wtm_at "go"
      refine g_setL (n := k) e5 (by rw [List.length_set, sgV_len]; exact ixN_nat hkl) fun H6 b6 e6 => ?_
      wtm_at "go"
      have ee : ((sgV l).set j (Tx [l[k]])).set k (Tx [l[j]]) = sgV ((l.set j l[k]).set k l[j]) := by
        unfold sgV
        rw [List.map_set, List.map_set]
      rw [ee] at e6
      refine g_join0 (sq_of e6) (by simp; omega) ?_
      refine q _ P3 H6 (by simp; omega) (fun d hd => ?_) (by wtm_at "sm") (by wtm_at "lk")
      rcases List.mem_or_eq_of_mem_set hd with hd | rfl
      · rcases List.mem_or_eq_of_mem_set hd with hd | rfl
        · exact hs d hd
        · exact hs _ (List.getElem_mem hkl)
      · exact hs _ (List.getElem_mem hjl)
/-! _law_text -/
def sp_law_text : Sp := fun vs H Q _ => ∃ (p : Addr) (P0 : Pt) (m : Nat), vs = [.ref p, .int m] ∧ H p = some P0.o ∧ m ≤ 120 ∧ ∀ (l : List Nat) (P1 : Pt) (H' : Hp), l.length ≤ 120 → (∀ c ∈ l, isSg c) → But p H H' → H' p = some P1.o → Q (Tx l) H'
theorem ok_law_text (T : Facts K mg) : C8.Cal P w K mg base 5 "_law_text" sp_law_text [] := by
  refine calD T.f_law_text sc_law_text (fun vs H Q E h => ?_) (fun f cdv A outer s H vs Q E hr h => ?_)
  · obtain ⟨p, P0, m, rfl, hp, hm, q⟩ := h; rfl
  · obtain ⟨p, P0, m, rfl, hp, hm, q⟩ := h
    refine ⟨_, (pss_cons (ps_set (i := 2) sc_law_text.nd rfl (Or.inl rfl) (pe_own (ok_law_take T) hr (by omega) rfl (pa_cons (pv 0) (pa_cons pe_int pa_nil))))
       (pss_cons (ps_if (pt_cmpR op_eq (pv 2) pe_int (nomark _))
       (pss_one (ps_ret (pe_m1 PySem.F.slot_str_join PySem.F.type_str_join mt_joinT (pe_strS (l := []) (by decide +kernel)) (pe_lc (own := [("k", 4)]) (by rfl) sc_law_text.nd (pi_range1 rfl T.b_range (pa_cons (pv 1) pa_nil)) (blkOk_by (own := [("k", 4)]) (N := N_law_text) (sc := defScope s_law_text) (by decide +kernel)) (fun _ _ _ _ _ => (pg_name (i := 4) sc_law_text.nd rfl (Or.inl rfl))) (fun _ _ _ _ _ => pts_nil) (fun _ _ _ _ _ => (pe_own (ok_law_sign T) hr (by omega) rfl (pa_cons (pv 0) pa_nil)))))))
       pss_nil)
       (pss_cons (ps_set (i := 3) sc_law_text.nd rfl (Or.inl rfl) (pe_own (ok_law_clean T) hr (by omega) rfl (pa_cons (pv 0) (pa_cons (pv 1) pa_nil))))
       (pss_cons (ps_for PassesOwn.never rfl (pi_range1 rfl T.b_range (pa_cons (pe_ix ix_list (pe_lst (pa_cons pe_int (pa_cons pe_int (pa_cons pe_int (pa_cons pe_int (pa_cons pe_int pa_nil)))))) (pv 2) (fun _ _ => rfl)) pa_nil)) (pg_name (i := 4) sc_law_text.nd rfl (Or.inl rfl))
       (pss_one (ps_set (i := 3) sc_law_text.nd rfl (Or.inl rfl) (pe_own (ok_law_bent T) hr (by omega) rfl (pa_cons (pv 0) (pa_cons (pv 3) pa_nil))))))
       (pss_one (ps_ret (pv 3))))))), ?_⟩
    rw [st_law_text]
    wtm_at "unf"
    wtm_at "go"
    refine ⟨p, P0, 5, rfl, hp, by decide, by decide, fun way P1 H1 w0 w1 b1 e1 => ?_⟩
    wtm_at "go"
    refine g_test (fun h => ?_) (fun h => ?_)
    · wtm_at "go"
      refine ⟨_, rfl, by omega, by omega, ?_⟩
      refine lc_rng fun d H2 nd s2 ed => ?_
      refine ⟨fun i H' => ∃ (l : List Nat) (P2 : Pt), l.length = i ∧ (∀ c ∈ l, isSg c) ∧ H' d = some (.lst (sgV l)) ∧ H' p = some P2.o ∧ But p H1 H', ⟨[], P1, rfl, by simp, ed, by wtm_at "lk", by wtm_at "sm"⟩, fun i H' hi hv => ?_, fun H' hv => ?_⟩
      · obtain ⟨l, P2, hl, hs, ed', ep, bp⟩ := hv
        have hi2 : i < m := by omega
        wtm_at "unf"
        refine ⟨rfl, ?_⟩
        wtm_at "go"
        refine ⟨p, P2, rfl, ep, fun c P3 H3 hc b3 e3 => ?_⟩
        have hdp : d ≠ p := by wtm_at "ne"
        refine lc_put (acc := sgV l) (by wtm_at "lk") (by rw [sgV_len]; omega) fun H5 b5 e5 => ?_
        rw [← sgV_snoc] at e5
        refine ⟨l ++ [c], P3, by simp [hl], ?_, e5, by wtm_at "lk", by wtm_at "sm"⟩
        intro x hx
        rcases List.mem_append.mp hx with hx | hx
        · exact hs x hx
        · rw [List.mem_singleton] at hx
          subst hx
          exact hc
      · obtain ⟨l, P2, hl, hs, ed', ep, bp⟩ := hv
        exact g_join0 (sq_of ed') (by omega) (q l P2 H' (by omega) hs (by wtm_at "sm") ep)
    · wtm_at "go"
      refine ⟨p, P1, m, rfl, e1, by omega, fun l P2 H2 hs hl hcl b2 e2 => ?_⟩
      refine g_lst (by show 5 ≤ 100000; decide) fun a H3 na s3 e3 => ?_
      wtm_at "go"
      have key : ∃ z : Int, 0 ≤ z ∧ z ≤ 3 ∧ atI [V.int 0, V.int 0, V.int 1, V.int 2, V.int 3] way = some (.int z) := by
        have e : way = 0 ∨ way = 1 ∨ way = 2 ∨ way = 3 ∨ way = 4 := by omega
        rcases e with rfl | rfl | rfl | rfl | rfl
        · exact ⟨0, by decide, by decide, rfl⟩
        · exact ⟨0, by decide, by decide, rfl⟩
        · exact ⟨1, by decide, by decide, rfl⟩
        · exact ⟨2, by decide, by decide, rfl⟩
        · exact ⟨3, by decide, by decide, rfl⟩
      obtain ⟨z, z0, z1, ez⟩ := key
      refine g_ixL (sq_of e3) ez ?_
      refine ⟨z, rfl, by omega, by omega, ?_⟩
      refine for_rng (fun i σ H' => ∃ (l : List Nat) (P4 : Pt) (y : Option V), σ = [some (V.ref p), some (V.int m), some (V.int way), some (Tx l), y] ∧ l.length ≤ 120 ∧ (∀ c ∈ l, isSg c) ∧ H' p = some P4.o ∧ But p H H') ⟨l, P2, none, rfl, by omega, hs, by wtm_at "lk", by wtm_at "sm"⟩ (fun i σ H' hi hv => ?_) (fun σ H' hv => ?_)
      · obtain ⟨l4, P4, y, rfl, hl4, hs4, ep, bp⟩ := hv
        wtm_at "unf"
        wtm_at "go"
        refine ⟨p, P4, l4, rfl, ep, hl4, hs4, fun l5 P5 H5 hl5 hs5 b5 e5 => ?_⟩
        exact ⟨l5, P5, _, rfl, hl5, hs5, e5, by wtm_at "sm"⟩
      · obtain ⟨l4, P4, y, rfl, hl4, hs4, ep, bp⟩ := hv
        wtm_at "unf"
        wtm_at "go"
        exact q l4 P4 H' hl4 hs4 bp ep
end
end K08

set_option maxHeartbeats 4000000
namespace K08
open PySem PySem.Spec PyProof.Rows L2 SX Ly
local macro_rules | `(tactic| wtm_at "unf") => `(tactic| (try simp only [tAlt, tMetX, tOwnX, tChain, tSeq, tNext, tBreak, tCont, tDrop, tRet, tRetN, tIfS, tAsg, tAug, tC, tOp, tUn, tNil, tCons, tOwn, tCB, tTest, tB, tAnd, tOr, tNot, tAndV, tOrV, tNotV, tIf, gName, gSub, tBM, tBM0, tM0, tM1, tSl, tPart_eq, tNoPart, tLst_eq, tTup_eq, tRevL_eq, tReplT, tRevS, tDGet_eq, sDPut_eq, tDNewT_eq, tMet, tMak, tFld_eq, sFld_eq, C8.tCut, wipe, tYes, gTup, gCons, gNil, List.set_cons_zero, List.set_cons_succ, if_true, if_false, Bool.false_eq_true, Bool.not_true, Bool.not_false, true_and, reduceIte, cx_K, tFor_eq, tLc_eq, iStr, iList, iTup, iRng1, iRng2, iRng3, iEnum, iZip, tLstRg, tRg1, gLst, RZ.iZipA, iEnumS, iZipS, tDNewK_eq, tDGet2, tDIn, tDNotIn, iKd]))
local macro_rules | `(tactic| wtm_at "unfA") => `(tactic| (try simp only [tAlt, tMetX, tOwnX, tChain, tSeq, tNext, tBreak, tCont, tDrop, tRet, tRetN, tIfS, tAsg, tAug, tC, tOp, tUn, tNil, tCons, tOwn, tCB, tTest, tB, tAnd, tOr, tNot, tIf, gName, gSub, tBM, tBM0, tM0, tM1, tSl, tPart_eq, tNoPart, tLst_eq, tTup_eq, tRevL_eq, tReplT, tRevS, tDGet_eq, sDPut_eq, tDNewT_eq, tMet, tMak, tFld_eq, sFld_eq, C8.tCut, wipe, tYes, gTup, gCons, gNil, List.set_cons_zero, List.set_cons_succ, if_true, if_false, Bool.false_eq_true, Bool.not_true, Bool.not_false, true_and, reduceIte, cx_K, tFor_eq, tLc_eq, iStr, iList, iTup, iRng1, iRng2, iRng3, iEnum, iZip, tLstRg, tRg1, gLst, RZ.iZipA, iEnumS, iZipS, tDNewK_eq, tDGet2, tDIn, tDNotIn, iKd]))
local macro_rules | `(tactic| wtm_at "ne") => `(tactic| first | assumption | (apply Ne.symm; assumption) | (apply ne_new; (· assumption); (· wtm_at "lk")) | (apply Ne.symm; apply ne_new; (· assumption); (· wtm_at "lk")))
local macro_rules | `(tactic| wtm_at "lk") => `(tactic| first | assumption | exact upd_same | (apply Same.get; (· assumption); (· wtm_at "lk")) | (apply But.get; (· assumption); (· wtm_at "ne"); (· wtm_at "lk")))
local macro_rules | `(tactic| wtm_at "sq") => `(tactic| first | assumption | (apply sq_of; wtm_at "lk") | (apply Same.seq; (· assumption); (· wtm_at "sq")) | (apply But.sq; (· assumption); (· wtm_at "ne"); (· wtm_at "sq")))
local macro_rules | `(tactic| wtm_at "fr") => `(tactic| first | assumption | (apply Same.fr; (· assumption); (· wtm_at "sm")) | (apply But.fr; (· assumption); (· wtm_at "sm"); (· wtm_at "ne")))
local macro_rules | `(tactic| wtm_at "sm") => `(tactic| first | exact Same.refl _ | exact But.refl | assumption | (apply Same.tr; (· assumption); (· wtm_at "sm")) | (apply Same.b0; (· assumption); (· wtm_at "sm"); (· wtm_at "fr")) | (apply But.sa; (· assumption); (· wtm_at "sm")) | (apply But.tr; (· assumption); (· wtm_at "sm")) | (apply But.b0; (· assumption); (· wtm_at "sm"); (· wtm_at "fr")) | (apply Same.toBut; wtm_at "sm"))
local macro_rules | `(tactic| wtm_at "sc") => `(tactic| first | exact Int.zero_lt_one | (show (0 : Int) < _; omega) | (show (0 : Int) < _; decide) | exact ⟨by omega, by omega⟩ | exact .inl ⟨by omega, by omega⟩ | exact .inr ⟨by omega, by omega⟩)
local macro_rules | `(tactic| wtm_at "go1") => `(tactic| first | ((with_reducible apply g_var); (· exact rfl)) | with_reducible apply g_I0 | ((with_reducible apply g_I); (· wtm_at "sc")) | with_reducible apply g_U | with_reducible apply g_ipI | ((with_reducible apply g_addT); (· first | omega | (simp; done) | (simp; omega))) | with_reducible apply g_inT | with_reducible apply g_ninT | ((with_reducible apply g_lenT); (· omega)) | with_reducible apply g_findT1 | with_reducible apply g_str | with_reducible apply g_part | with_reducible apply g_intB | ((with_reducible apply g_ixL); (· wtm_at "sq"); (· exact rfl)) | ((with_reducible apply g_setL); (· wtm_at "lk"); (· exact rfl)) | ((with_reducible apply g_eq); (· rfl)) | ((with_reducible apply g_ne); (· rfl)))
local macro_rules | `(tactic| wtm_at "go") => `(tactic| repeat wtm_at "go1")
local macro_rules | `(tactic| wtm_at "lp") => `(tactic| skip)
local macro_rules | `(tactic| wtm_at "om") => `(tactic| first | omega | (simp; done) | (simp; omega) | (simp at *; omega))
local macro_rules | `(tactic| wtm_at "ty") => `(tactic| first | exact ty_str | exact ty_int | exact ty_bl | exact ty_non | (apply ty_lst; wtm_at "lk") | (apply ty_tup; wtm_at "lk"))
local macro_rules | `(tactic| wtm_at "kb") => `(tactic| first | exact kb_str_str | exact kb_str_int | exact kb_str_bool | exact kb_str_list | exact kb_str_tuple | exact kb_int_str | exact kb_int_int | exact kb_int_bool | exact kb_int_list | exact kb_int_tuple | exact kb_bool_str | exact kb_bool_int | exact kb_bool_bool | exact kb_bool_list | exact kb_bool_tuple | exact kb_list_str | exact kb_list_int | exact kb_list_bool | exact kb_list_list | exact kb_list_tuple | exact kb_tuple_str | exact kb_tuple_int | exact kb_tuple_bool | exact kb_tuple_list | exact kb_tuple_tuple | exact kb_NoneType_str | exact kb_NoneType_int | exact kb_NoneType_bool | exact kb_NoneType_list | exact kb_NoneType_tuple | exact kb_dict_str | exact kb_dict_int | exact kb_dict_bool | exact kb_dict_list | exact kb_dict_tuple)
local macro_rules | `(tactic| wtm_at "gx1") => `(tactic| first | ((with_reducible apply g_eqS); (· exact rfl)) | ((with_reducible apply g_neS); (· exact rfl)) | wtm_at "go1" | with_reducible apply g_min2 | with_reducible apply g_max2 | with_reducible apply g_T | with_reducible apply g_F | with_reducible apply g_NT | with_reducible apply g_NF | with_reducible apply g_nT | with_reducible apply g_nF | with_reducible apply g_RT | with_reducible apply g_RF | ((with_reducible apply g_isi); (· wtm_at "ty"); (· wtm_at "kb")) | ((with_reducible apply g_ixAU3); (· wtm_at "lk"); (· exact rfl)) | ((with_reducible apply g_ixAL3); (· wtm_at "lk"); (· exact rfl)) | ((with_reducible apply g_ixU3); (· wtm_at "lk"); (· exact rfl)) | ((with_reducible apply g_lenL3); (· wtm_at "lk")) | ((with_reducible apply g_lenU3); (· wtm_at "lk")) | ((with_reducible apply g_tyL3); (· wtm_at "lk")) | ((with_reducible apply g_lenT); (· wtm_at "pv")) | wtm_at "tr" | with_reducible apply g_ET | with_reducible apply g_EF | with_reducible apply g_EnT | with_reducible apply g_EnF)
local macro_rules | `(tactic| wtm_at "pv") => `(tactic| first | exact rfl | assumption | omega | (simp; done) | (simp; omega))
local macro_rules | `(tactic| wtm_at "tr") => `(tactic| first | ((with_reducible apply g_Td); (· wtm_at "pv")) | ((with_reducible apply g_Fd); (· wtm_at "pv")) | ((with_reducible apply g_NTd); (· wtm_at "pv")) | ((with_reducible apply g_NFd); (· wtm_at "pv")) | ((with_reducible apply g_nTd); (· wtm_at "pv")) | ((with_reducible apply g_nFd); (· wtm_at "pv")) | ((with_reducible apply g_RTd); (· wtm_at "pv")) | ((with_reducible apply g_RFd); (· wtm_at "pv")))
local macro_rules | `(tactic| wtm_at "gx") => `(tactic| repeat wtm_at "gx1")
local macro_rules | `(tactic| wtm_at "unfS") => `(tactic| (try simp only [tSeq, tNext, tAsg, tFor_eq, C8.tCut, wipe, gName, tDrop, List.set_cons_zero, List.set_cons_succ, cx_K]))
local macro_rules | `(tactic| wtm_at "rd1") => `(tactic| first | exact rd_int | exact rd_str | exact rd_bl | exact rd_non | exact rda_nil | apply rda_cons | (with_reducible apply rd_tup; (· assumption)) | (with_reducible apply rd_lst; (· assumption)) | exact rd_dic (by assumption) | exact rd_var rfl (.int _) | exact rd_var rfl (.str _) | exact rd_var rfl (.bl _) | exact rd_var rfl (by assumption) | (with_reducible apply rd_cat; (· assumption)) | (with_reducible apply rd_rep2; (· assumption)) | (with_reducible apply rd_rev; (· assumption)) | (with_reducible apply rd_to; (· assumption)) | (with_reducible apply rd_from; (· assumption)) | (with_reducible apply rd_tupOf; (· assumption)) | (with_reducible apply rd_lstOf; (· assumption)) | with_reducible apply rd_lenL | with_reducible apply rd_lenT | with_reducible apply rd_I0 | with_reducible apply rd_I | with_reducible apply rd_U | with_reducible apply rd_eqI | with_reducible apply rd_ixL | with_reducible apply rd_ixT | exact atI_hd _ _ | exact ‹atI _ _ = some _›)
local macro_rules | `(tactic| wtm_at "rdl") => `(tactic| first | decide | omega | wtm_at "sc" | (simp only [List.length_append, List.length_cons, List.length_nil, List.length_map, List.length_take, List.length_drop, List.length_reverse, cutTo]; omega))
local macro_rules | `(tactic| wtm_at "rd") => `(tactic| ((repeat' wtm_at "rd1"); (all_goals wtm_at "rdl")))
local macro_rules | `(tactic| wtm_at "nc") => `(tactic| repeat' (first | assumption | exact nca_nil | exact nc_non | exact nc_bl | exact nc_dic | exact nc_tup0 | exact nc_lst0 | (refine nc_strS (by decide) (by decide)) | (refine nc_int (by omega)) | (refine nc_big (by decide +kernel)) | refine nca_app ?_ ?_ | refine nca_cons ?_ ?_ | refine nca_take ?_ | refine nca_drop ?_ | refine nca_cutTo ?_ | refine nca_rev ?_ | refine nc_tup (by decide) ?_ | refine nc_lst (by decide) ?_ | refine nc_lst (Nat.le_trans (show _ ≤ 45 by wtm_at "rdl") (by decide)) ?_ | refine nc_tup (Nat.le_trans (show _ ≤ 45 by wtm_at "rdl") (by decide)) ?_))

section
variable {P : Program} {w : World} {K : PySem.W.Frag} {mg : Str → Option Value} {base : Heap}
def optV : Option Nat → V
  | none => .non
  | some n => .int n
def mtV (f : List (Option Nat)) : List V := f.map optV
def wsV (ws : List Nat) : List V := ws.reverse.map fun (n : Nat) => V.int (n : Int)
theorem wsV_cons (j : Nat) (w : List Nat) : wsV (j :: w) = wsV w ++ [V.int j] := by
  unfold wsV
  rw [List.reverse_cons, List.map_append]
  rfl
theorem wsV_len (w : List Nat) : (wsV w).length = w.length := by
  unfold wsV
  rw [List.length_map, List.length_reverse]
theorem mtV_len (f : List (Option Nat)) : (mtV f).length = f.length := by
  unfold mtV
  rw [List.length_map]
theorem flat_wsV (w : List Nat) : ∀ v ∈ wsV w, Flat v := by
  intro v hv
  obtain ⟨n, _, rfl⟩ := List.mem_map.mp hv
  exact flat_int _
theorem ws_lt {l pre post : List Nat} {c : Nat} (e : l = pre ++ c :: post) : PInv l pre.length (pst l pre).1 (pst l pre).2 := by
  have h := pinv_all l pre.length (by rw [e]; simp)
  have e2 : l.take pre.length = pre := by rw [e]; simp
  rw [e2] at h
  exact h
theorem pstep_len (l : List Nat) (s : List (Option Nat) × List Nat) (i c : Nat) : (pstep l s i c).2.length ≤ s.2.length + 1 := by
  obtain ⟨f, ws⟩ := s
  unfold pstep
  split
  · simp
  · split
    · cases ws with
      | nil => simp
      | cons j w =>
        show (if l[j]? = some (oth c) then _ else _ : List (Option Nat) × List Nat).2.length ≤ _
        split
        · simp; omega
        · simp
    · simp
theorem mtV_set (f : List (Option Nat)) (i j : Nat) : mtV (f.set i (some j)) = (mtV f).set i (V.int j) := by
  unfold mtV
  rw [List.map_set]
  rfl
def topM (l ws : List Nat) (c : Nat) : Bool := match ws with
  | [] => false
  | j :: _ => decide (l[j]? = some (oth c))
theorem atI_last1 {α : Type} (xs : List α) (x : α) : atI (xs ++ [x]) (-1) = some x := L2.atI_last xs x
/-! partners -/
def sp_partners : Sp := fun vs H Q _ => ∃ l : List Nat, vs = [Tx l] ∧ l.length ≤ 1000 ∧ ∀ (p : Addr) (H' : Hp), H p = none → Same H H' → H' p = some (.lst (mtV (mates l))) → Q (.ref p) H'
theorem ok_partners (T : Facts K mg) : C8.Cal P w K mg base 3 "partners" sp_partners [] := by
  refine calD T.f_partners sc_partners (fun vs H Q E h => ?_) (fun f cdv A outer s H vs Q E hr h => ?_)
  · obtain ⟨l, rfl, hl, q⟩ := h; rfl
  · obtain ⟨l, rfl, hl, q⟩ := h
    refine ⟨_, (pss_cons (ps_set (i := 1) sc_partners.nd rfl (Or.inl rfl) (pe_op op_rep (pe_lst (pa_cons pe_non pa_nil)) (pe_callB call_lenT rfl T.b_len PySem.boot_len (pa_cons (pv 0) pa_nil))))
       (pss_cons (ps_set (i := 2) sc_partners.nd rfl (Or.inl rfl) (pe_lst pa_nil))
       (pss_cons (ps_for PassesOwn.never rfl (pi_enumS rfl T.b_enumerate (pa_cons (pv 0) pa_nil)) (pg_tup rfl (pgs_cons (pg_name (i := 3) sc_partners.nd rfl (Or.inl rfl)) (pgs_cons (pg_name (i := 4) sc_partners.nd rfl (Or.inl rfl)) pgs_nil)))
       (pss_one (ps_if (pt_cmpR op_inT (pv 4) (C8.pe_gc rfl T.c_OPENING) (by rfl))
       (pss_one (ps_expr (pe_bm PySem.F.plainAttrs_list PySem.F.slot_list_append PySem.F.type_list_append mt_append (pv 2) (pa_cons (pv 3) pa_nil))))
       (pss_one (ps_if (pt_cmpR op_inT (pv 4) (C8.pe_gc rfl T.c_CLOSING) (by rfl))
       (pss_one (ps_ifC (PW.pt (pw_and (pt_cmpR (op_neD hr.units) (pv 2) (pe_lst pa_nil) (nomark _)) (pw_and1 (pt_cmpR op_eq (pe_ix ix_txt (pv 0) (pe_ix ix_list (pv 2) (pe_un un_neg pe_int) (fun _ _ => rfl)) (fun _ _ => rfl)) (pe_own (ok_other_side T) hr (by omega) rfl (pa_cons (pv 4) pa_nil)) (nomark _)))))
       (pss_cons (ps_asg (pe_bm0 PySem.F.plainAttrs_list PySem.F.slot_list_pop PySem.F.type_list_pop mt_pop (pv 2)) (pg_sub (pv 1) (pv 3) set_list))
       (pss_one (ps_asg (pv 3) (pg_sub (pv 1) (pe_ix ix_list (pv 1) (pv 3) (fun _ _ => rfl)) set_list))))
       (pss_one (ps_set (i := 2) sc_partners.nd rfl (Or.inl rfl) (pe_lst pa_nil)))))
       pss_nil)))))
       (pss_one (ps_ret (pv 1)))))), ?_⟩
    rw [st_partners]
    wtm_at "unf"
    wtm_at "go"
    refine g_lst (by show 1 ≤ 100000; decide) fun c0 H0 n0 s0 e0 => ?_
    wtm_at "go"
    refine g_rep e0 (by simp; omega) (by omega) fun fa H1 nfa s1 efa => ?_
    wtm_at "go"
    refine g_lst (by show 0 ≤ 100000; decide) fun wa H2 nwa s2 ewa => ?_
    have efa' : H1 fa = some (.lst (mtV (List.replicate l.length none))) := by
      rw [efa]
      unfold mtV
      congr 2
      have : ∀ n, (List.replicate n [V.non]).flatten = (List.replicate n none).map optV := by
        intro n
        induction n with
        | zero => rfl
        | succ n ih => rw [List.replicate_succ, List.flatten_cons, ih, List.replicate_succ]; rfl
      exact this _
    have hfw : fa ≠ wa := by wtm_at "ne"
    have nf0 : H fa = none := by wtm_at "fr"
    have nw0 : H wa = none := by wtm_at "fr"
    wtm_at "go"
    refine ⟨_, rfl, for_enumS (fun pre σ H' => ∃ (wa : Addr) (y z : Option V), σ = [some (Tx l), some (V.ref fa), some (V.ref wa), y, z] ∧ H wa = none ∧ fa ≠ wa ∧ H' fa = some (.lst (mtV (pst l pre).1)) ∧ H' wa = some (.lst (wsV (pst l pre).2)) ∧ Same H H' ∧ (pst l pre).2.length ≤ pre.length)
      ⟨wa, _, _, rfl, nw0, hfw, by wtm_at "lk", ewa, by wtm_at "sm", Nat.le_refl _⟩ (fun pre c post σ H' t H'' e hv nt st et => ?_) (fun σ H' hv => ?_)⟩
    · obtain ⟨wa, y, z, rfl, nw, hne, ef, ew, sH, hwl⟩ := hv
      have I := ws_lt e
      have hsl := pstep_len l (pst l pre) pre.length c
      have hpl : pre.length < l.length := by rw [e]; simp
      have hfl : (pst l pre).1.length = l.length := I.len
      have nt0 : H t = none := by wtm_at "fr"
      have ef2 : H'' fa = some (.lst (mtV (pst l pre).1)) := by wtm_at "lk"
      have ew2 : H'' wa = some (.lst (wsV (pst l pre).2)) := by wtm_at "lk"
      have sH2 : Same H H'' := by wtm_at "sm"
      wtm_at "unf"
      refine ⟨t, _, rfl, st_of et, rfl, _, _, rfl, _, _, rfl, rfl, ?_⟩
      wtm_at "go"
      rw [pst_snoc]
      refine g_test (fun h => ?_) (fun h => ?_)
      · wtm_at "go"
        refine ⟨g_tyL (sq_of ew2), ?_⟩
        wtm_at "go"
        refine g_append1 ew2 (by rw [wsV_len]; omega) fun H3 b3 e3 => ?_
        have es : pstep l (pst l pre) pre.length c = ((pst l pre).1, pre.length :: (pst l pre).2) := by unfold pstep; simp only [h, if_true]
        rw [es]
        exact ⟨wa, _, _, rfl, nw, hne, by wtm_at "lk", by rw [wsV_cons]; exact e3, by wtm_at "sm", by simp; omega⟩
      · wtm_at "go"
        refine g_test (fun h2 => ?_) (fun h2 => ?_)
        · have hb : c ∈ BRK := brk_or.mpr (.inr h2)
          have hws : ∃ ws, (pst l pre).2 = ws := ⟨_, rfl⟩
          obtain ⟨ws, ews⟩ := hws
          obtain ⟨f0, ef0⟩ : ∃ f0, (pst l pre).1 = f0 := ⟨_, rfl⟩
          have epst : pst l pre = (f0, ws) := by rw [← ews, ← ef0]
          rw [epst] at ef2 ew2 hsl hfl ⊢
          rw [ews] at hwl
          rw [epst] at I
          have hfl' : f0.length = l.length := hfl
          refine g_ifH (b := topM l ws c) (G := fun H3 => Same H'' H3) (fun Q q => ?_) (fun H3 s3 hb3 => ?_) (fun H3 s3 hb3 => ?_)
          · wtm_at "unf"
            wtm_at "go"
            refine g_lst (by show 0 ≤ 100000; decide) fun em H3 nem s3 eem => ?_
            refine g_neNil (sq_of (Same.get s3 ew2)) (flat_wsV _) (sq_of eem) ?_
            refine g_testB (fun h4 => ?_) (fun h4 => ?_)
            · cases ws with
              | nil => simp [wsV] at h4
              | cons j w =>
                obtain ⟨hjn, cj, hcj, hcjo⟩ := I.opn j (List.mem_cons_self ..)
                rw [wsV_cons] at ew2
                wtm_at "go"
                refine g_ixL (sq_of (Same.get s3 ew2)) (atI_last1 _ _) ?_
                refine g_ixT (by omega) (atI_of hcj) ?_
                wtm_at "go"
                refine ⟨c, rfl, hb, ?_⟩
                wtm_at "go"
                refine ⟨_, rfl, ?_⟩
                have hh : decide (Tx [cj] = Tx [oth c]) = topM l (j :: w) c := by
                  show _ = decide (l[j]? = some (oth c))
                  rw [decide_eq_decide, Tx_inj, hcj]
                  simp
                rw [hh]
                exact q H3 s3
            · cases ws with
              | cons j w => simp [wsV] at h4
              | nil =>
                exact q H3 s3
          · obtain ⟨j, w, rfl, hj⟩ : ∃ j w, ws = j :: w ∧ l[j]? = some (oth c) := by
              cases ws with
              | nil => cases hb3
              | cons j w => exact ⟨j, w, rfl, of_decide_eq_true hb3⟩
            have es : pstep l (f0, j :: w) pre.length c = ((f0.set pre.length (some j)).set j (some pre.length), w) := by unfold pstep; simp only [h, h2, hj, if_true, if_false]
            rw [es]
            have hjn : j < pre.length := (I.opn j (List.mem_cons_self ..)).1
            rw [wsV_cons] at ew2
            wtm_at "unf"
            wtm_at "go"
            refine g_pop (Same.get s3 ew2) fun H4 b4 e4 => ?_
            have ef4 : H4 fa = some (.lst (mtV f0)) := by wtm_at "lk"
            wtm_at "go"
            refine g_setL (n := pre.length) ef4 (by rw [mtV_len]; exact ixN_nat (by omega)) fun H5 b5 e5 => ?_
            have e5' : H5 fa = some (.lst (mtV (f0.set pre.length (some j)))) := by
              rw [e5, mtV_set]
            have hget : (mtV (f0.set pre.length (some j)))[pre.length]? = some (V.int j) := by
              unfold mtV
              rw [List.getElem?_map, List.getElem?_set_self (by omega)]
              rfl
            wtm_at "go"
            refine g_ixL (sq_of e5') (atI_of hget) ?_
            refine g_setL (n := j) e5' (by rw [mtV_len, List.length_set]; exact ixN_nat (by omega)) fun H6 b6 e6 => ?_
            have e6' : H6 fa = some (.lst (mtV ((f0.set pre.length (some j)).set j (some pre.length)))) := by
              rw [e6, mtV_set (f0.set pre.length (some j))]
            simp only [List.length_cons] at hwl
            exact ⟨wa, _, _, rfl, nw, hne, e6', by wtm_at "lk", by wtm_at "sm", by simp; omega⟩
          · have es : pstep l (f0, ws) pre.length c = (f0, []) := by
              unfold pstep
              simp only [h, h2, if_true, if_false]
              cases ws with
              | nil => rfl
              | cons j w =>
                have : ¬ l[j]? = some (oth c) := of_decide_eq_false hb3
                simp only [this, if_false]
            rw [es]
            wtm_at "unf"
            refine g_lst (by show 0 ≤ 100000; decide) fun em H4 nem s4 eem => ?_
            have hfe : fa ≠ em := by wtm_at "ne"
            exact ⟨em, _, _, rfl, by wtm_at "fr", hfe, by wtm_at "lk", eem, by wtm_at "sm", by simp⟩
        · have es : pstep l (pst l pre) pre.length c = pst l pre := by unfold pstep; simp only [h, h2, if_false]
          rw [es]
          exact ⟨wa, _, _, rfl, nw, hne, ef2, ew2, sH2, by simp; omega⟩
    · obtain ⟨wa, y, z, rfl, nw, hne, ef, ew, sH, hwl⟩ := hv
      wtm_at "unf"
      wtm_at "go"
      exact q fa H' nf0 sH ef
theorem mid_mate {l : List Nat} {i c : Nat} (h : l[i]? = some c) : ∃ m, (mates l)[i]? = some m := ⟨_, List.getElem?_eq_getElem (by rw [mates_len]; exact (List.getElem?_eq_some_iff.mp h).1)⟩
/-! is_clean -/
def sp_is_clean : Sp := fun vs H Q _ => ∃ l : List Nat, vs = [Tx l] ∧ l.length ≤ 1000 ∧ ∀ H', Same H H' → Q (.bl (decide (clean l))) H'
theorem ok_is_clean (T : Facts K mg) : C8.Cal P w K mg base 4 "is_clean" sp_is_clean [] := by
  refine calD T.f_is_clean sc_is_clean (fun vs H Q E h => ?_) (fun f cdv A outer s H vs Q E hr h => ?_)
  · obtain ⟨l, rfl, hl, q⟩ := h; rfl
  · obtain ⟨l, rfl, hl, q⟩ := h
    refine ⟨_, (pss_one (ps_ret (pe_cmpR (op_eqD hr.units) (pe_lc (own := [("sign", 1), ("partner", 2)]) (g := gTup K 2 (gCons (gName 1) (gCons (gName 2) gNil))) (by rfl) sc_is_clean.nd (pi_zipS rfl T.b_zip (pa_cons (pv 0) (pa_cons (pe_own (ok_partners T) hr (by omega) rfl (pa_cons (pv 0) pa_nil)) pa_nil))) (blkOk_by (own := [("sign", 1), ("partner", 2)]) (N := N_is_clean) (sc := defScope s_is_clean) (by decide +kernel)) (fun _ _ _ _ _ => (pg_tup rfl (pgs_cons (pg_name (i := 1) sc_is_clean.nd rfl (Or.inl rfl)) (pgs_cons (pg_name (i := 2) sc_is_clean.nd rfl (Or.inl rfl)) pgs_nil)))) (fun _ _ _ _ _ => (pts_one (PW.pt (pw_and (pt_cmpR op_isN (pv 2) pe_non (nomark _)) (pw_and1 (pt_cmpR op_inT (pv 1) (C8.pe_gc rfl T.c_BRACKETS) (by rfl))))))) (fun _ _ _ _ _ => pe_int)) (pe_lst pa_nil) (nomark _)))), ?_⟩
    rw [st_is_clean]
    wtm_at "unf"
    wtm_at "go"
    refine ⟨l, rfl, hl, fun ma H1 nma s1 ema => ?_⟩
    refine ⟨l, ma, mtV (mates l), rfl, sq_of ema, ?_⟩
    refine lc_w (walk_zipS (by rw [mtV_len, mates_len])) fun d H2 nd s2 ed => ?_
    have hdm : ma ≠ d := by wtm_at "ne"
    refine ⟨fun i H' => ∃ acc, H' d = some (.lst acc) ∧ acc.length ≤ i ∧ (∀ v ∈ acc, v = V.int 1) ∧ (acc = [] ↔ ∀ (j c : Nat), j < i → l[j]? = some c → c ∈ BRK → (mates l)[j]? ≠ some none) ∧ Same H1 H', ⟨[], ed, Nat.le_refl _, by simp, ?_, by wtm_at "sm"⟩, fun i H' _ hv => ?_, fun i x H' H'' hi hv y => ?_, fun H' hv => ?_⟩
    · simp
    · obtain ⟨acc, e1, e2, e3, e4, e5⟩ := hv
      exact sq_of (by wtm_at "lk")
    · obtain ⟨acc, e1, e2, e3, e4, e5⟩ := hv
      obtain ⟨t, c, v, rfl, nt, rfl, hc, hm⟩ := y
      have st : Same H' (upd H' t (.tup [Tx [c], v])) := Same.new nt
      have et : (upd H' t (.tup [Tx [c], v])) t = some (.tup [Tx [c], v]) := upd_same
      generalize upd H' t (.tup [Tx [c], v]) = H3 at st et
      obtain ⟨m, hmm⟩ := mid_mate hc
      have hv : v = optV m := by
        unfold mtV at hm
        rw [List.getElem?_map, hmm] at hm
        exact (Option.some.inj hm).symm
      subst hv
      have snoc : (∀ (j c : Nat), j < i + 1 → l[j]? = some c → c ∈ BRK → (mates l)[j]? ≠ some none) ↔ (∀ (j c : Nat), j < i → l[j]? = some c → c ∈ BRK → (mates l)[j]? ≠ some none) ∧ (c ∈ BRK → m ≠ none) := by
        constructor
        · intro h
          refine ⟨fun j c' hj => h j c' (by omega), fun hb hn => h i c (by omega) hc hb (by rw [hmm, hn])⟩
        · rintro ⟨ha, hb⟩ j c' hj hjc hcb hn
          rcases Nat.lt_or_ge j i with h' | h'
          · exact ha j c' h' hjc hcb hn
          · have : j = i := by omega
            subst this
            rw [hc] at hjc
            cases hjc
            rw [hmm] at hn
            exact hb hcb (Option.some.inj hn)
      wtm_at "unf"
      refine ⟨t, _, rfl, st_of et, rfl, _, _, rfl, _, _, rfl, rfl, ?_, ?_⟩
      · rfl
      wtm_at "go"
      cases m with
      | some k =>
        refine ⟨_, rfl, ?_⟩
        have hk : decide (optV (some k) = V.non) = false := by simp [optV]
        rw [hk]
        refine ⟨acc, by wtm_at "lk", by omega, e3, ?_, by wtm_at "sm"⟩
        rw [snoc, e4]
        simp
      | none =>
        refine ⟨_, rfl, ?_⟩
        have hk : decide (optV none = V.non) = true := by simp [optV]
        rw [hk]
        wtm_at "unf"
        wtm_at "go"
        refine g_test (fun h => ?_) (fun h => ?_)
        · wtm_at "unf"
          refine lc_put (acc := acc) (by wtm_at "lk") (by omega) fun H5 b5 e5 => ?_
          refine ⟨acc ++ [V.int 1], e5, by simp; omega, ?_, ?_, by wtm_at "sm"⟩
          · intro v hv
            rcases List.mem_append.mp hv with hv | hv
            · exact e3 v hv
            · simpa using hv
          · rw [snoc]
            simp [h]
        · wtm_at "unf"
          refine ⟨acc, by wtm_at "lk", by omega, e3, ?_, by wtm_at "sm"⟩
          rw [snoc, e4]
          simp [h]
    · obtain ⟨acc, e1, e2, e3, e4, e5⟩ := hv
      wtm_at "unf"
      refine g_lst (by show 0 ≤ 100000; decide) fun em H3 nem s3 eem => ?_
      refine g_eqNil (xs := acc) (sq_of (by wtm_at "lk")) (fun v hv => by rw [e3 v hv]; exact flat_int 1) (sq_of eem) ?_
      have hb : acc.isEmpty = decide (clean l) := by
        have : (acc.isEmpty = true) ↔ clean l := by
          rw [List.isEmpty_iff, e4, clean_mates]
          constructor
          · intro h j c hj hb
            exact h j c (List.getElem?_eq_some_iff.mp hj).1 hj hb
          · intro h j c _ hj hb
            exact h j c hj hb
        rw [Bool.eq_iff_iff, this, decide_eq_true_iff]
      rw [hb]
      exact q H3 (by wtm_at "sm")
end
end K08

set_option maxHeartbeats 4000000
namespace K08
open PySem PySem.Spec PyProof.Rows L2 SX Ly
local macro_rules | `(tactic| wtm_at "unf") => `(tactic| (try simp only [tAlt, tMetX, tOwnX, tChain, tSeq, tNext, tBreak, tCont, tDrop, tRet, tRetN, tIfS, tAsg, tAug, tC, tOp, tUn, tNil, tCons, tOwn, tCB, tTest, tB, tAnd, tOr, tNot, tAndV, tOrV, tNotV, tIf, gName, gSub, tBM, tBM0, tM0, tM1, tSl, tPart_eq, tNoPart, tLst_eq, tTup_eq, tRevL_eq, tReplT, tRevS, tDGet_eq, sDPut_eq, tDNewT_eq, tMet, tMak, tFld_eq, sFld_eq, C8.tCut, wipe, tYes, gTup, gCons, gNil, List.set_cons_zero, List.set_cons_succ, if_true, if_false, Bool.false_eq_true, Bool.not_true, Bool.not_false, true_and, reduceIte, cx_K, tFor_eq, tLc_eq, iStr, iList, iTup, iRng1, iRng2, iRng3, iEnum, iZip, tLstRg, tRg1, gLst, RZ.iZipA, iEnumS, iZipS, tDNewK_eq, tDGet2, tDIn, tDNotIn, iKd]))
local macro_rules | `(tactic| wtm_at "unfA") => `(tactic| (try simp only [tAlt, tMetX, tOwnX, tChain, tSeq, tNext, tBreak, tCont, tDrop, tRet, tRetN, tIfS, tAsg, tAug, tC, tOp, tUn, tNil, tCons, tOwn, tCB, tTest, tB, tAnd, tOr, tNot, tIf, gName, gSub, tBM, tBM0, tM0, tM1, tSl, tPart_eq, tNoPart, tLst_eq, tTup_eq, tRevL_eq, tReplT, tRevS, tDGet_eq, sDPut_eq, tDNewT_eq, tMet, tMak, tFld_eq, sFld_eq, C8.tCut, wipe, tYes, gTup, gCons, gNil, List.set_cons_zero, List.set_cons_succ, if_true, if_false, Bool.false_eq_true, Bool.not_true, Bool.not_false, true_and, reduceIte, cx_K, tFor_eq, tLc_eq, iStr, iList, iTup, iRng1, iRng2, iRng3, iEnum, iZip, tLstRg, tRg1, gLst, RZ.iZipA, iEnumS, iZipS, tDNewK_eq, tDGet2, tDIn, tDNotIn, iKd]))
local macro_rules | `(tactic| wtm_at "ne") => `(tactic| first | assumption | (apply Ne.symm; assumption) | (apply ne_new; (· assumption); (· wtm_at "lk")) | (apply Ne.symm; apply ne_new; (· assumption); (· wtm_at "lk")))
local macro_rules | `(tactic| wtm_at "lk") => `(tactic| first | assumption | exact upd_same | (apply Same.get; (· assumption); (· wtm_at "lk")) | (apply But.get; (· assumption); (· wtm_at "ne"); (· wtm_at "lk")))
local macro_rules | `(tactic| wtm_at "sq") => `(tactic| first | assumption | (apply sq_of; wtm_at "lk") | (apply Same.seq; (· assumption); (· wtm_at "sq")) | (apply But.sq; (· assumption); (· wtm_at "ne"); (· wtm_at "sq")))
local macro_rules | `(tactic| wtm_at "fr") => `(tactic| first | assumption | (apply Same.fr; (· assumption); (· wtm_at "sm")) | (apply But.fr; (· assumption); (· wtm_at "sm"); (· wtm_at "ne")))
local macro_rules | `(tactic| wtm_at "sm") => `(tactic| first | exact Same.refl _ | exact But.refl | assumption | (apply Same.tr; (· assumption); (· wtm_at "sm")) | (apply Same.b0; (· assumption); (· wtm_at "sm"); (· wtm_at "fr")) | (apply But.sa; (· assumption); (· wtm_at "sm")) | (apply But.tr; (· assumption); (· wtm_at "sm")) | (apply But.b0; (· assumption); (· wtm_at "sm"); (· wtm_at "fr")) | (apply Same.toBut; wtm_at "sm"))
local macro_rules | `(tactic| wtm_at "sc") => `(tactic| first | exact Int.zero_lt_one | (show (0 : Int) < _; omega) | (show (0 : Int) < _; decide) | exact ⟨by omega, by omega⟩ | exact .inl ⟨by omega, by omega⟩ | exact .inr ⟨by omega, by omega⟩)
local macro_rules | `(tactic| wtm_at "go1") => `(tactic| first | ((with_reducible apply g_var); (· exact rfl)) | with_reducible apply g_I0 | ((with_reducible apply g_I); (· wtm_at "sc")) | with_reducible apply g_U | with_reducible apply g_ipI | ((with_reducible apply g_addT); (· first | omega | (simp; done) | (simp; omega))) | with_reducible apply g_inT | with_reducible apply g_ninT | ((with_reducible apply g_lenT); (· omega)) | with_reducible apply g_findT1 | with_reducible apply g_str | with_reducible apply g_part | with_reducible apply g_intB | ((with_reducible apply g_ixL); (· wtm_at "sq"); (· exact rfl)) | ((with_reducible apply g_setL); (· wtm_at "lk"); (· exact rfl)) | ((with_reducible apply g_eq); (· rfl)) | ((with_reducible apply g_ne); (· rfl)))
local macro_rules | `(tactic| wtm_at "go") => `(tactic| repeat wtm_at "go1")
local macro_rules | `(tactic| wtm_at "lp") => `(tactic| skip)
local macro_rules | `(tactic| wtm_at "om") => `(tactic| first | omega | (simp; done) | (simp; omega) | (simp at *; omega))
local macro_rules | `(tactic| wtm_at "ty") => `(tactic| first | exact ty_str | exact ty_int | exact ty_bl | exact ty_non | (apply ty_lst; wtm_at "lk") | (apply ty_tup; wtm_at "lk"))
local macro_rules | `(tactic| wtm_at "kb") => `(tactic| first | exact kb_str_str | exact kb_str_int | exact kb_str_bool | exact kb_str_list | exact kb_str_tuple | exact kb_int_str | exact kb_int_int | exact kb_int_bool | exact kb_int_list | exact kb_int_tuple | exact kb_bool_str | exact kb_bool_int | exact kb_bool_bool | exact kb_bool_list | exact kb_bool_tuple | exact kb_list_str | exact kb_list_int | exact kb_list_bool | exact kb_list_list | exact kb_list_tuple | exact kb_tuple_str | exact kb_tuple_int | exact kb_tuple_bool | exact kb_tuple_list | exact kb_tuple_tuple | exact kb_NoneType_str | exact kb_NoneType_int | exact kb_NoneType_bool | exact kb_NoneType_list | exact kb_NoneType_tuple | exact kb_dict_str | exact kb_dict_int | exact kb_dict_bool | exact kb_dict_list | exact kb_dict_tuple)
local macro_rules | `(tactic| wtm_at "gx1") => `(tactic| first | ((with_reducible apply g_eqS); (· exact rfl)) | ((with_reducible apply g_neS); (· exact rfl)) | wtm_at "go1" | with_reducible apply g_min2 | with_reducible apply g_max2 | with_reducible apply g_T | with_reducible apply g_F | with_reducible apply g_NT | with_reducible apply g_NF | with_reducible apply g_nT | with_reducible apply g_nF | with_reducible apply g_RT | with_reducible apply g_RF | ((with_reducible apply g_isi); (· wtm_at "ty"); (· wtm_at "kb")) | ((with_reducible apply g_ixAU3); (· wtm_at "lk"); (· exact rfl)) | ((with_reducible apply g_ixAL3); (· wtm_at "lk"); (· exact rfl)) | ((with_reducible apply g_ixU3); (· wtm_at "lk"); (· exact rfl)) | ((with_reducible apply g_lenL3); (· wtm_at "lk")) | ((with_reducible apply g_lenU3); (· wtm_at "lk")) | ((with_reducible apply g_tyL3); (· wtm_at "lk")) | ((with_reducible apply g_lenT); (· wtm_at "pv")) | wtm_at "tr" | with_reducible apply g_ET | with_reducible apply g_EF | with_reducible apply g_EnT | with_reducible apply g_EnF)
local macro_rules | `(tactic| wtm_at "pv") => `(tactic| first | exact rfl | assumption | omega | (simp; done) | (simp; omega))
local macro_rules | `(tactic| wtm_at "tr") => `(tactic| first | ((with_reducible apply g_Td); (· wtm_at "pv")) | ((with_reducible apply g_Fd); (· wtm_at "pv")) | ((with_reducible apply g_NTd); (· wtm_at "pv")) | ((with_reducible apply g_NFd); (· wtm_at "pv")) | ((with_reducible apply g_nTd); (· wtm_at "pv")) | ((with_reducible apply g_nFd); (· wtm_at "pv")) | ((with_reducible apply g_RTd); (· wtm_at "pv")) | ((with_reducible apply g_RFd); (· wtm_at "pv")))
local macro_rules | `(tactic| wtm_at "gx") => `(tactic| repeat wtm_at "gx1")
local macro_rules | `(tactic| wtm_at "unfS") => `(tactic| (try simp only [tSeq, tNext, tAsg, tFor_eq, C8.tCut, wipe, gName, tDrop, List.set_cons_zero, List.set_cons_succ, cx_K]))
local macro_rules | `(tactic| wtm_at "rd1") => `(tactic| first | exact rd_int | exact rd_str | exact rd_bl | exact rd_non | exact rda_nil | apply rda_cons | (with_reducible apply rd_tup; (· assumption)) | (with_reducible apply rd_lst; (· assumption)) | exact rd_dic (by assumption) | exact rd_var rfl (.int _) | exact rd_var rfl (.str _) | exact rd_var rfl (.bl _) | exact rd_var rfl (by assumption) | (with_reducible apply rd_cat; (· assumption)) | (with_reducible apply rd_rep2; (· assumption)) | (with_reducible apply rd_rev; (· assumption)) | (with_reducible apply rd_to; (· assumption)) | (with_reducible apply rd_from; (· assumption)) | (with_reducible apply rd_tupOf; (· assumption)) | (with_reducible apply rd_lstOf; (· assumption)) | with_reducible apply rd_lenL | with_reducible apply rd_lenT | with_reducible apply rd_I0 | with_reducible apply rd_I | with_reducible apply rd_U | with_reducible apply rd_eqI | with_reducible apply rd_ixL | with_reducible apply rd_ixT | exact atI_hd _ _ | exact ‹atI _ _ = some _›)
local macro_rules | `(tactic| wtm_at "rdl") => `(tactic| first | decide | omega | wtm_at "sc" | (simp only [List.length_append, List.length_cons, List.length_nil, List.length_map, List.length_take, List.length_drop, List.length_reverse, cutTo]; omega))
local macro_rules | `(tactic| wtm_at "rd") => `(tactic| ((repeat' wtm_at "rd1"); (all_goals wtm_at "rdl")))
local macro_rules | `(tactic| wtm_at "nc") => `(tactic| repeat' (first | assumption | exact nca_nil | exact nc_non | exact nc_bl | exact nc_dic | exact nc_tup0 | exact nc_lst0 | (refine nc_strS (by decide) (by decide)) | (refine nc_int (by omega)) | (refine nc_big (by decide +kernel)) | refine nca_app ?_ ?_ | refine nca_cons ?_ ?_ | refine nca_take ?_ | refine nca_drop ?_ | refine nca_cutTo ?_ | refine nca_rev ?_ | refine nc_tup (by decide) ?_ | refine nc_lst (by decide) ?_ | refine nc_lst (Nat.le_trans (show _ ≤ 45 by wtm_at "rdl") (by decide)) ?_ | refine nc_tup (Nat.le_trans (show _ ≤ 45 by wtm_at "rdl") (by decide)) ?_))

section
variable {P : Program} {w : World} {K : PySem.W.Frag} {mg : Str → Option Value} {base : Heap}
/-- data without truths and dicts -/
inductive Dt where
  | non
  | int (i : Int)
  | str (l : List Nat)
  | lst (ds : List Dt)
  | tup (ds : List Dt)
mutual
inductive HasD (K : PySem.W.Frag) (H : Hp) : V → Dt → Prop
  | non : HasD K H .non .non
  | int (i : Int) : HasD K H (.int i) (.int i)
  | str (l : List Nat) : HasD K H (Tx l) (.str l)
  | lst {a : Addr} {xs : List V} {ds : List Dt} : H a = some (.lst xs) → HasDs K H xs ds → ds.length ≤ 100000 → HasD K H (.ref a) (.lst ds)
  | tup {a : Addr} {xs : List V} {ds : List Dt} : H a = some (.tup xs) → HasDs K H xs ds → ds.length ≤ 100000 → HasD K H (.ref a) (.tup ds)
inductive HasDs (K : PySem.W.Frag) (H : Hp) : List V → List Dt → Prop
  | nil : HasDs K H [] []
  | cons {v : V} {vs : List V} {d : Dt} {ds : List Dt} : HasD K H v d → HasDs K H vs ds → HasDs K H (v :: vs) (d :: ds)
end
mutual
def Dt.deep : Dt → Nat
  | .non => 0
  | .int _ => 0
  | .str _ => 0
  | .lst ds => Dt.deeps ds + 1
  | .tup ds => Dt.deeps ds + 1
def Dt.deeps : List Dt → Nat
  | [] => 0
  | d :: ds => max (Dt.deep d) (Dt.deeps ds)
end
theorem HasDs.len {K : PySem.W.Frag} {H : Hp} : ∀ {xs : List V} {ds : List Dt}, HasDs K H xs ds → xs.length = ds.length
  | _, _, .nil => rfl
  | _, _, .cons _ h => by simp [HasDs.len h]
theorem HasDs.at_ {K : PySem.W.Frag} {H : Hp} : ∀ {xs : List V} {ds : List Dt} {i : Nat}, HasDs K H xs ds → i < ds.length → ∃ v d, xs[i]? = some v ∧ ds[i]? = some d ∧ HasD K H v d
  | _, _, 0, .cons h _, _ => ⟨_, _, rfl, rfl, h⟩
  | _, _, i + 1, .cons _ h, hi => by
    obtain ⟨v, d, a, b, c⟩ := HasDs.at_ (i := i) h (by simpa using hi)
    exact ⟨v, d, by simpa using a, by simpa using b, c⟩
mutual
theorem HasD.same {K : PySem.W.Frag} {H H' : Hp} (s : Same H H') : ∀ {v : V} {d : Dt}, HasD K H v d → HasD K H' v d
  | _, _, .non => .non
  | _, _, .int i => .int i
  | _, _, .str l => .str l
  | _, _, .lst h hs l => .lst (s _ _ h) (HasDs.same s hs) l
  | _, _, .tup h hs l => .tup (s _ _ h) (HasDs.same s hs) l
theorem HasDs.same {K : PySem.W.Frag} {H H' : Hp} (s : Same H H') : ∀ {vs : List V} {ds : List Dt}, HasDs K H vs ds → HasDs K H' vs ds
  | _, _, .nil => .nil
  | _, _, .cons h hs => .cons (HasD.same s h) (HasDs.same s hs)
end
section
variable {K : PySem.W.Frag} {H : Hp} {Q : VK} {p : Addr} {xs : List V} {v : V} {i : Int}
end
end
end K08

set_option maxHeartbeats 4000000
namespace K08
open PySem PySem.Spec PyProof.Rows L2 SX Ly
local macro_rules | `(tactic| wtm_at "unf") => `(tactic| (try simp only [tAlt, tMetX, tOwnX, tChain, tSeq, tNext, tBreak, tCont, tDrop, tRet, tRetN, tIfS, tAsg, tAug, tC, tOp, tUn, tNil, tCons, tOwn, tCB, tTest, tB, tAnd, tOr, tNot, tAndV, tOrV, tNotV, tIf, gName, gSub, tBM, tBM0, tM0, tM1, tSl, tPart_eq, tNoPart, tLst_eq, tTup_eq, tRevL_eq, tReplT, tRevS, tDGet_eq, sDPut_eq, tDNewT_eq, tMet, tMak, tFld_eq, sFld_eq, C8.tCut, wipe, tYes, gTup, gCons, gNil, List.set_cons_zero, List.set_cons_succ, if_true, if_false, Bool.false_eq_true, Bool.not_true, Bool.not_false, true_and, reduceIte, cx_K, tFor_eq, tLc_eq, iStr, iList, iTup, iRng1, iRng2, iRng3, iEnum, iZip, tLstRg, tRg1, gLst, RZ.iZipA, iEnumS, iZipS, tDNewK_eq, tDGet2, tDIn, tDNotIn, iKd]))
local macro_rules | `(tactic| wtm_at "unfA") => `(tactic| (try simp only [tAlt, tMetX, tOwnX, tChain, tSeq, tNext, tBreak, tCont, tDrop, tRet, tRetN, tIfS, tAsg, tAug, tC, tOp, tUn, tNil, tCons, tOwn, tCB, tTest, tB, tAnd, tOr, tNot, tIf, gName, gSub, tBM, tBM0, tM0, tM1, tSl, tPart_eq, tNoPart, tLst_eq, tTup_eq, tRevL_eq, tReplT, tRevS, tDGet_eq, sDPut_eq, tDNewT_eq, tMet, tMak, tFld_eq, sFld_eq, C8.tCut, wipe, tYes, gTup, gCons, gNil, List.set_cons_zero, List.set_cons_succ, if_true, if_false, Bool.false_eq_true, Bool.not_true, Bool.not_false, true_and, reduceIte, cx_K, tFor_eq, tLc_eq, iStr, iList, iTup, iRng1, iRng2, iRng3, iEnum, iZip, tLstRg, tRg1, gLst, RZ.iZipA, iEnumS, iZipS, tDNewK_eq, tDGet2, tDIn, tDNotIn, iKd]))
local macro_rules | `(tactic| wtm_at "ne") => `(tactic| first | assumption | (apply Ne.symm; assumption) | (apply ne_new; (· assumption); (· wtm_at "lk")) | (apply Ne.symm; apply ne_new; (· assumption); (· wtm_at "lk")))
local macro_rules | `(tactic| wtm_at "lk") => `(tactic| first | assumption | exact upd_same | (apply Same.get; (· assumption); (· wtm_at "lk")) | (apply But.get; (· assumption); (· wtm_at "ne"); (· wtm_at "lk")))
local macro_rules | `(tactic| wtm_at "sq") => `(tactic| first | assumption | (apply sq_of; wtm_at "lk") | (apply Same.seq; (· assumption); (· wtm_at "sq")) | (apply But.sq; (· assumption); (· wtm_at "ne"); (· wtm_at "sq")))
local macro_rules | `(tactic| wtm_at "fr") => `(tactic| first | assumption | (apply Same.fr; (· assumption); (· wtm_at "sm")) | (apply But.fr; (· assumption); (· wtm_at "sm"); (· wtm_at "ne")))
local macro_rules | `(tactic| wtm_at "sm") => `(tactic| first | exact Same.refl _ | exact But.refl | assumption | (apply Same.tr; (· assumption); (· wtm_at "sm")) | (apply Same.b0; (· assumption); (· wtm_at "sm"); (· wtm_at "fr")) | (apply But.sa; (· assumption); (· wtm_at "sm")) | (apply But.tr; (· assumption); (· wtm_at "sm")) | (apply But.b0; (· assumption); (· wtm_at "sm"); (· wtm_at "fr")) | (apply Same.toBut; wtm_at "sm"))
local macro_rules | `(tactic| wtm_at "sc") => `(tactic| first | exact Int.zero_lt_one | (show (0 : Int) < _; omega) | (show (0 : Int) < _; decide) | exact ⟨by omega, by omega⟩ | exact .inl ⟨by omega, by omega⟩ | exact .inr ⟨by omega, by omega⟩)
local macro_rules | `(tactic| wtm_at "go1") => `(tactic| first | ((with_reducible apply g_var); (· exact rfl)) | with_reducible apply g_I0 | ((with_reducible apply g_I); (· wtm_at "sc")) | with_reducible apply g_U | with_reducible apply g_ipI | ((with_reducible apply g_addT); (· first | omega | (simp; done) | (simp; omega))) | with_reducible apply g_inT | with_reducible apply g_ninT | ((with_reducible apply g_lenT); (· omega)) | with_reducible apply g_findT1 | with_reducible apply g_str | with_reducible apply g_part | with_reducible apply g_intB | ((with_reducible apply g_ixL); (· wtm_at "sq"); (· exact rfl)) | ((with_reducible apply g_setL); (· wtm_at "lk"); (· exact rfl)) | ((with_reducible apply g_eq); (· rfl)) | ((with_reducible apply g_ne); (· rfl)))
local macro_rules | `(tactic| wtm_at "go") => `(tactic| repeat wtm_at "go1")
local macro_rules | `(tactic| wtm_at "lp") => `(tactic| skip)
local macro_rules | `(tactic| wtm_at "om") => `(tactic| first | omega | (simp; done) | (simp; omega) | (simp at *; omega))
local macro_rules | `(tactic| wtm_at "ty") => `(tactic| first | exact ty_str | exact ty_int | exact ty_bl | exact ty_non | (apply ty_lst; wtm_at "lk") | (apply ty_tup; wtm_at "lk"))
local macro_rules | `(tactic| wtm_at "kb") => `(tactic| first | exact kb_str_str | exact kb_str_int | exact kb_str_bool | exact kb_str_list | exact kb_str_tuple | exact kb_int_str | exact kb_int_int | exact kb_int_bool | exact kb_int_list | exact kb_int_tuple | exact kb_bool_str | exact kb_bool_int | exact kb_bool_bool | exact kb_bool_list | exact kb_bool_tuple | exact kb_list_str | exact kb_list_int | exact kb_list_bool | exact kb_list_list | exact kb_list_tuple | exact kb_tuple_str | exact kb_tuple_int | exact kb_tuple_bool | exact kb_tuple_list | exact kb_tuple_tuple | exact kb_NoneType_str | exact kb_NoneType_int | exact kb_NoneType_bool | exact kb_NoneType_list | exact kb_NoneType_tuple | exact kb_dict_str | exact kb_dict_int | exact kb_dict_bool | exact kb_dict_list | exact kb_dict_tuple)
local macro_rules | `(tactic| wtm_at "gx1") => `(tactic| first | ((with_reducible apply g_eqS); (· exact rfl)) | ((with_reducible apply g_neS); (· exact rfl)) | wtm_at "go1" | with_reducible apply g_min2 | with_reducible apply g_max2 | with_reducible apply g_T | with_reducible apply g_F | with_reducible apply g_NT | with_reducible apply g_NF | with_reducible apply g_nT | with_reducible apply g_nF | with_reducible apply g_RT | with_reducible apply g_RF | ((with_reducible apply g_isi); (· wtm_at "ty"); (· wtm_at "kb")) | ((with_reducible apply g_ixAU3); (· wtm_at "lk"); (· exact rfl)) | ((with_reducible apply g_ixAL3); (· wtm_at "lk"); (· exact rfl)) | ((with_reducible apply g_ixU3); (· wtm_at "lk"); (· exact rfl)) | ((with_reducible apply g_lenL3); (· wtm_at "lk")) | ((with_reducible apply g_lenU3); (· wtm_at "lk")) | ((with_reducible apply g_tyL3); (· wtm_at "lk")) | ((with_reducible apply g_lenT); (· wtm_at "pv")) | wtm_at "tr" | with_reducible apply g_ET | with_reducible apply g_EF | with_reducible apply g_EnT | with_reducible apply g_EnF)
local macro_rules | `(tactic| wtm_at "pv") => `(tactic| first | exact rfl | assumption | omega | (simp; done) | (simp; omega))
local macro_rules | `(tactic| wtm_at "tr") => `(tactic| first | ((with_reducible apply g_Td); (· wtm_at "pv")) | ((with_reducible apply g_Fd); (· wtm_at "pv")) | ((with_reducible apply g_NTd); (· wtm_at "pv")) | ((with_reducible apply g_NFd); (· wtm_at "pv")) | ((with_reducible apply g_nTd); (· wtm_at "pv")) | ((with_reducible apply g_nFd); (· wtm_at "pv")) | ((with_reducible apply g_RTd); (· wtm_at "pv")) | ((with_reducible apply g_RFd); (· wtm_at "pv")))
local macro_rules | `(tactic| wtm_at "gx") => `(tactic| repeat wtm_at "gx1")
local macro_rules | `(tactic| wtm_at "unfS") => `(tactic| (try simp only [tSeq, tNext, tAsg, tFor_eq, C8.tCut, wipe, gName, tDrop, List.set_cons_zero, List.set_cons_succ, cx_K]))
local macro_rules | `(tactic| wtm_at "rd1") => `(tactic| first | exact rd_int | exact rd_str | exact rd_bl | exact rd_non | exact rda_nil | apply rda_cons | (with_reducible apply rd_tup; (· assumption)) | (with_reducible apply rd_lst; (· assumption)) | exact rd_dic (by assumption) | exact rd_var rfl (.int _) | exact rd_var rfl (.str _) | exact rd_var rfl (.bl _) | exact rd_var rfl (by assumption) | (with_reducible apply rd_cat; (· assumption)) | (with_reducible apply rd_rep2; (· assumption)) | (with_reducible apply rd_rev; (· assumption)) | (with_reducible apply rd_to; (· assumption)) | (with_reducible apply rd_from; (· assumption)) | (with_reducible apply rd_tupOf; (· assumption)) | (with_reducible apply rd_lstOf; (· assumption)) | with_reducible apply rd_lenL | with_reducible apply rd_lenT | with_reducible apply rd_I0 | with_reducible apply rd_I | with_reducible apply rd_U | with_reducible apply rd_eqI | with_reducible apply rd_ixL | with_reducible apply rd_ixT | exact atI_hd _ _ | exact ‹atI _ _ = some _›)
local macro_rules | `(tactic| wtm_at "rdl") => `(tactic| first | decide | omega | wtm_at "sc" | (simp only [List.length_append, List.length_cons, List.length_nil, List.length_map, List.length_take, List.length_drop, List.length_reverse, cutTo]; omega))
local macro_rules | `(tactic| wtm_at "rd") => `(tactic| ((repeat' wtm_at "rd1"); (all_goals wtm_at "rdl")))
local macro_rules | `(tactic| wtm_at "nc") => `(tactic| repeat' (first | assumption | exact nca_nil | exact nc_non | exact nc_bl | exact nc_dic | exact nc_tup0 | exact nc_lst0 | (refine nc_strS (by decide) (by decide)) | (refine nc_int (by omega)) | (refine nc_big (by decide +kernel)) | refine nca_app ?_ ?_ | refine nca_cons ?_ ?_ | refine nca_take ?_ | refine nca_drop ?_ | refine nca_cutTo ?_ | refine nca_rev ?_ | refine nc_tup (by decide) ?_ | refine nc_lst (by decide) ?_ | refine nc_lst (Nat.le_trans (show _ ≤ 45 by wtm_at "rdl") (by decide)) ?_ | refine nc_tup (Nat.le_trans (show _ ≤ 45 by wtm_at "rdl") (by decide)) ?_))

section
variable {P : Program} {w : World} {K : PySem.W.Frag} {mg : Str → Option Value} {base : Heap}
theorem g_ixAU2 {K : PySem.W.Frag} {H : Hp} {Q : VK} {p : Addr} {xs : List V} {v : V} {i : Int} (h : H p = some (.tup xs)) (h1 : atI xs i = some v) (q : Q v H) : rIx K (.ref p) (.int i) H Q := .inr (.inl (g_ixU (st_of h) h1 q))
/-! _law_nest -/
def sp_law_nest : Sp := fun vs H Q _ => ∃ l : List Nat, vs = [Tx l] ∧ l.length ≤ 1000 ∧ clean l ∧ ∀ (b : Addr) (xs : List V) (A : List Addr) (H' : Hp), Same H H' → H' b = some (.lst xs) → TrIs H' xs (nestD l) A → (b :: A).Nodup → (∀ x ∈ b :: A, H x = none) → Q (.ref b) H'
theorem ok_law_nest (T : Facts K mg) : C8.Cal P w K mg base 1 "_law_nest" sp_law_nest [] := by
  refine calD T.f_law_nest sc_law_nest (fun vs H Q E h => ?_) (fun f cdv A outer s H vs Q E hr h => ?_)
  · obtain ⟨l, rfl, hl, hc, q⟩ := h; rfl
  · obtain ⟨l, rfl, hl, hc, q⟩ := h
    refine ⟨_, (pss_cons (ps_set (i := 1) sc_law_nest.nd rfl (Or.inl rfl) (pe_lst (pa_cons (pe_lst pa_nil) pa_nil)))
       (pss_cons (ps_for PassesOwn.never rfl (pi_str (pv 0)) (pg_name (i := 2) sc_law_nest.nd rfl (Or.inl rfl))
       (pss_one (ps_if (pt_cmpR op_inT (pv 2) (pe_strS (l := CLO) (by decide +kernel)) (by rfl))
       (pss_one (ps_expr (pe_bm0 PySem.F.plainAttrs_list PySem.F.slot_list_pop PySem.F.type_list_pop mt_pop (pv 1))))
       (pss_cons (ps_set (i := 3) sc_law_nest.nd rfl (Or.inl rfl) (pv 2))
       (pss_cons (ps_set (i := 4) sc_law_nest.nd rfl (Or.inl rfl) (pe_lst pa_nil))
       (C8.pss_cut (ps_if (pt_cmpR op_inT (pv 2) (pe_strS (l := OPN) (by decide +kernel)) (by rfl))
       (pss_one (ps_set (i := 3) sc_law_nest.nd rfl (Or.inl rfl) (pe_tup (pa_cons (pv 2) (pa_cons (pv 4) pa_nil)))))
       pss_nil)
       (pss_cons (ps_expr (pe_bm PySem.F.plainAttrs_list PySem.F.slot_list_append PySem.F.type_list_append mt_append (pe_ix ix_list (pv 1) (pe_un un_neg pe_int) (fun _ _ => rfl)) (pa_cons (pv 3) pa_nil)))
       (pss_one (ps_if (pt_cmpR op_inT (pv 2) (pe_strS (l := OPN) (by decide +kernel)) (by rfl))
       (pss_one (ps_expr (pe_bm PySem.F.plainAttrs_list PySem.F.slot_list_append PySem.F.type_list_append mt_append (pv 1) (pa_cons (pv 4) pa_nil))))
       pss_nil)))))))))
       (pss_one (ps_ret (pe_ix ix_list (pv 1) pe_int (fun _ _ => rfl)))))), ?_⟩
    rw [st_law_nest]
    wtm_at "unf"
    wtm_at "go"
    refine g_lst (by show 0 ≤ 100000; decide) fun r0 H1 nr0 s1 er0 => ?_
    refine g_lst (by show 1 ≤ 100000; decide) fun ar H2 nar s2 ear => ?_
    have har0 : H ar = none := by wtm_at "fr"
    have hra : r0 ≠ ar := ne_new nar er0
    wtm_at "go"
    refine ⟨_, rfl, for_txt (fun pre σ H' => ∃ (b : Addr) (bs : List Addr) (y2 y3 y4 : Option V), σ = [some (Tx l), some (V.ref ar), y2, y3, y4] ∧ Bld (fun x => H x = none ∧ x ≠ ar) H' b bs (nst pre).1 (nst pre).2 ∧ H' ar = some (.lst (bs.reverse.map V.ref ++ [V.ref b])) ∧ Same H H')
      ⟨r0, [], _, _, _, rfl, Bld.start (s2 _ _ er0) ⟨nr0, hra⟩, ear, by wtm_at "sm"⟩ (fun pre c post σ H' e hv => ?_) (fun σ H' hv => ?_)⟩
    · obtain ⟨b, bs, y2, y3, y4, rfl, B, ea, sH⟩ := hv
      have hpl : pre.length < 1000 := by rw [e] at hl; simp at hl; omega
      obtain ⟨xs, hb, hxl, ⟨hbn, hba⟩, hbl⟩ := B.cur
      have bd := nst_bd pre
      have bd1 := bd.1
      have bd2 := bd.2.1
      rw [nst_snoc]
      wtm_at "unf"
      wtm_at "go"
      refine g_test (fun h2 => ?_) (fun h2 => ?_)
      · obtain ⟨ds, o, fs, hf, ho⟩ := nst_clo hc e h2
        rw [hf] at B
        obtain ⟨b0, bs0, rfl, B0⟩ := B.close
        wtm_at "go"
        refine g_pop ea fun H3 b3 e3 => ?_
        have en : nstep (nst pre) c = (fs, ds ++ [.br o (nst pre).2]) := by unfold nstep; rw [if_pos h2, hf]
        rw [en]
        refine ⟨b0, bs0, _, _, _, rfl, B0.but b3 ea (fun hn => hn.2 rfl), ?_, Same.b0 b3 sH har0⟩
        rw [e3]
        simp
      · wtm_at "go"
        refine g_lst (by show 0 ≤ 100000; decide) fun ia H3 nia s3 eia => ?_
        have ea3 : H3 ar = some (.lst (bs.reverse.map V.ref ++ [V.ref b])) := s3 _ _ ea
        have hb3 := s3 _ _ hb
        have ni0 : H ia = none := sH.free nia
        have hia : ia ≠ ar := Ne.symm (ne_new nia ea)
        by_cases h1 : c ∈ OPN
        · refine ⟨fun σ' H4 => ∃ t : Addr, σ' = [some (Tx l), some (V.ref ar), some (Tx [c]), some (V.ref t), some (V.ref ia)] ∧ Same H3 H4 ∧ H4 t = some (.tup [Tx [c], V.ref ia]) ∧ H3 t = none, ?_, ?_⟩
          · wtm_at "go"
            rw [decide_eq_true h1]
            refine ⟨_, rfl, ?_⟩
            rw [if_pos rfl]
            wtm_at "go"
            refine g_tup (by show 2 ≤ 100000; decide) fun t H4 nt s4 et => ?_
            exact ⟨t, rfl, s4, et, nt⟩
          · rintro σ' H4 ⟨t, rfl, s4, et, nt⟩
            have ea4 := s4 _ _ ea3
            have hb4 := s4 _ _ hb3
            wtm_at "go"
            refine g_ixL (sq_of ea4) (atI_last1 _ _) ?_
            refine ⟨g_tyL (sq_of hb4), ?_⟩
            wtm_at "go"
            refine g_append1 hb4 (by omega) fun H5 b5 e5 => ?_
            wtm_at "go"
            rw [decide_eq_true h1]
            refine ⟨_, rfl, ?_⟩
            rw [if_pos rfl]
            wtm_at "go"
            have ea5 : H5 ar = some (.lst (bs.reverse.map V.ref ++ [V.ref b])) := b5 _ _ (Ne.symm hba) ea4
            refine ⟨g_tyL (sq_of ea5), ?_⟩
            wtm_at "go"
            refine g_append1 ea5 (by simp; omega) fun H6 b6 e6 => ?_
            have B5 := B.open_ (s3.trans s4) hb4 b5 (s4 _ _ eia) et nia ⟨ni0, hia⟩ e5
            have en : nstep (nst pre) c = (((nst pre).2, c) :: (nst pre).1, []) := by unfold nstep; rw [if_neg h2, if_pos h1]
            rw [en]
            refine ⟨ia, b :: bs, _, _, _, rfl, B5.but b6 ea5 (fun hn => hn.2 rfl), ?_, ?_⟩
            · rw [e6]
              simp
            · exact Same.b0 b6 (Same.b0 b5 (sH.trans (s3.trans s4)) hbn) har0
        · refine ⟨fun σ' H4 => σ' = [some (Tx l), some (V.ref ar), some (Tx [c]), some (Tx [c]), some (V.ref ia)] ∧ H4 = H3, ?_, ?_⟩
          · wtm_at "go"
            rw [decide_eq_false h1]
            refine ⟨_, rfl, ?_⟩
            exact ⟨rfl, rfl⟩
          · rintro σ' H4 ⟨rfl, rfl⟩
            wtm_at "go"
            refine g_ixL (sq_of ea3) (atI_last1 _ _) ?_
            refine ⟨g_tyL (sq_of hb3), ?_⟩
            wtm_at "go"
            refine g_append1 hb3 (by omega) fun H5 b5 e5 => ?_
            wtm_at "go"
            rw [decide_eq_false h1]
            refine ⟨_, rfl, ?_⟩
            rw [if_neg Bool.false_ne_true]
            have en : nstep (nst pre) c = ((nst pre).1, (nst pre).2 ++ [.let_ c]) := by unfold nstep; rw [if_neg h2, if_neg h1]
            rw [en]
            exact ⟨b, bs, _, _, _, rfl, (B.same s3).letter hb3 b5 e5, b5 _ _ (Ne.symm hba) ea3, Same.b0 b5 (sH.trans s3) hbn⟩
    · obtain ⟨b, bs, y2, y3, y4, rfl, B, ea, sH⟩ := hv
      rw [nst_clean hc] at B
      obtain ⟨xs, A1, A, h1, h2, h3, h4, h5⟩ := B.ex
      cases h3
      rw [List.append_nil] at h4 h5
      wtm_at "unf"
      wtm_at "go"
      exact q b xs A1 H' sH h1 h2 h4 (fun x hx => (h5 x hx).1)
end
end K08

set_option maxHeartbeats 4000000
namespace K08
open PySem PySem.Spec PyProof.Rows L2 SX Ly
local macro_rules | `(tactic| wtm_at "unf") => `(tactic| (try simp only [tAlt, tMetX, tOwnX, tChain, tSeq, tNext, tBreak, tCont, tDrop, tRet, tRetN, tIfS, tAsg, tAug, tC, tOp, tUn, tNil, tCons, tOwn, tCB, tTest, tB, tAnd, tOr, tNot, tAndV, tOrV, tNotV, tIf, gName, gSub, tBM, tBM0, tM0, tM1, tSl, tPart_eq, tNoPart, tLst_eq, tTup_eq, tRevL_eq, tReplT, tRevS, tDGet_eq, sDPut_eq, tDNewT_eq, tMet, tMak, tFld_eq, sFld_eq, C8.tCut, wipe, tYes, gTup, gCons, gNil, List.set_cons_zero, List.set_cons_succ, if_true, if_false, Bool.false_eq_true, Bool.not_true, Bool.not_false, true_and, reduceIte, cx_K, tFor_eq, tLc_eq, iStr, iList, iTup, iRng1, iRng2, iRng3, iEnum, iZip, tLstRg, tRg1, gLst, RZ.iZipA, iEnumS, iZipS, tDNewK_eq, tDGet2, tDIn, tDNotIn, iKd]))
local macro_rules | `(tactic| wtm_at "unfA") => `(tactic| (try simp only [tAlt, tMetX, tOwnX, tChain, tSeq, tNext, tBreak, tCont, tDrop, tRet, tRetN, tIfS, tAsg, tAug, tC, tOp, tUn, tNil, tCons, tOwn, tCB, tTest, tB, tAnd, tOr, tNot, tIf, gName, gSub, tBM, tBM0, tM0, tM1, tSl, tPart_eq, tNoPart, tLst_eq, tTup_eq, tRevL_eq, tReplT, tRevS, tDGet_eq, sDPut_eq, tDNewT_eq, tMet, tMak, tFld_eq, sFld_eq, C8.tCut, wipe, tYes, gTup, gCons, gNil, List.set_cons_zero, List.set_cons_succ, if_true, if_false, Bool.false_eq_true, Bool.not_true, Bool.not_false, true_and, reduceIte, cx_K, tFor_eq, tLc_eq, iStr, iList, iTup, iRng1, iRng2, iRng3, iEnum, iZip, tLstRg, tRg1, gLst, RZ.iZipA, iEnumS, iZipS, tDNewK_eq, tDGet2, tDIn, tDNotIn, iKd]))
local macro_rules | `(tactic| wtm_at "ne") => `(tactic| first | assumption | (apply Ne.symm; assumption) | (apply ne_new; (· assumption); (· wtm_at "lk")) | (apply Ne.symm; apply ne_new; (· assumption); (· wtm_at "lk")))
local macro_rules | `(tactic| wtm_at "lk") => `(tactic| first | assumption | exact upd_same | (apply Same.get; (· assumption); (· wtm_at "lk")) | (apply But.get; (· assumption); (· wtm_at "ne"); (· wtm_at "lk")))
local macro_rules | `(tactic| wtm_at "sq") => `(tactic| first | assumption | (apply sq_of; wtm_at "lk") | (apply Same.seq; (· assumption); (· wtm_at "sq")) | (apply But.sq; (· assumption); (· wtm_at "ne"); (· wtm_at "sq")))
local macro_rules | `(tactic| wtm_at "fr") => `(tactic| first | assumption | (apply Same.fr; (· assumption); (· wtm_at "sm")) | (apply But.fr; (· assumption); (· wtm_at "sm"); (· wtm_at "ne")))
local macro_rules | `(tactic| wtm_at "sm") => `(tactic| first | exact Same.refl _ | exact But.refl | assumption | (apply Same.tr; (· assumption); (· wtm_at "sm")) | (apply Same.b0; (· assumption); (· wtm_at "sm"); (· wtm_at "fr")) | (apply But.sa; (· assumption); (· wtm_at "sm")) | (apply But.tr; (· assumption); (· wtm_at "sm")) | (apply But.b0; (· assumption); (· wtm_at "sm"); (· wtm_at "fr")) | (apply Same.toBut; wtm_at "sm"))
local macro_rules | `(tactic| wtm_at "sc") => `(tactic| first | exact Int.zero_lt_one | (show (0 : Int) < _; omega) | (show (0 : Int) < _; decide) | exact ⟨by omega, by omega⟩ | exact .inl ⟨by omega, by omega⟩ | exact .inr ⟨by omega, by omega⟩)
local macro_rules | `(tactic| wtm_at "go1") => `(tactic| first | ((with_reducible apply g_var); (· exact rfl)) | with_reducible apply g_I0 | ((with_reducible apply g_I); (· wtm_at "sc")) | with_reducible apply g_U | with_reducible apply g_ipI | ((with_reducible apply g_addT); (· first | omega | (simp; done) | (simp; omega))) | with_reducible apply g_inT | with_reducible apply g_ninT | ((with_reducible apply g_lenT); (· omega)) | with_reducible apply g_findT1 | with_reducible apply g_str | with_reducible apply g_part | with_reducible apply g_intB | ((with_reducible apply g_ixL); (· wtm_at "sq"); (· exact rfl)) | ((with_reducible apply g_setL); (· wtm_at "lk"); (· exact rfl)) | ((with_reducible apply g_eq); (· rfl)) | ((with_reducible apply g_ne); (· rfl)))
local macro_rules | `(tactic| wtm_at "go") => `(tactic| repeat wtm_at "go1")
local macro_rules | `(tactic| wtm_at "lp") => `(tactic| skip)
local macro_rules | `(tactic| wtm_at "om") => `(tactic| first | omega | (simp; done) | (simp; omega) | (simp at *; omega))
local macro_rules | `(tactic| wtm_at "ty") => `(tactic| first | exact ty_str | exact ty_int | exact ty_bl | exact ty_non | (apply ty_lst; wtm_at "lk") | (apply ty_tup; wtm_at "lk"))
local macro_rules | `(tactic| wtm_at "kb") => `(tactic| first | exact kb_str_str | exact kb_str_int | exact kb_str_bool | exact kb_str_list | exact kb_str_tuple | exact kb_int_str | exact kb_int_int | exact kb_int_bool | exact kb_int_list | exact kb_int_tuple | exact kb_bool_str | exact kb_bool_int | exact kb_bool_bool | exact kb_bool_list | exact kb_bool_tuple | exact kb_list_str | exact kb_list_int | exact kb_list_bool | exact kb_list_list | exact kb_list_tuple | exact kb_tuple_str | exact kb_tuple_int | exact kb_tuple_bool | exact kb_tuple_list | exact kb_tuple_tuple | exact kb_NoneType_str | exact kb_NoneType_int | exact kb_NoneType_bool | exact kb_NoneType_list | exact kb_NoneType_tuple | exact kb_dict_str | exact kb_dict_int | exact kb_dict_bool | exact kb_dict_list | exact kb_dict_tuple)
local macro_rules | `(tactic| wtm_at "gx1") => `(tactic| first | ((with_reducible apply g_eqS); (· exact rfl)) | ((with_reducible apply g_neS); (· exact rfl)) | wtm_at "go1" | with_reducible apply g_min2 | with_reducible apply g_max2 | with_reducible apply g_T | with_reducible apply g_F | with_reducible apply g_NT | with_reducible apply g_NF | with_reducible apply g_nT | with_reducible apply g_nF | with_reducible apply g_RT | with_reducible apply g_RF | ((with_reducible apply g_isi); (· wtm_at "ty"); (· wtm_at "kb")) | ((with_reducible apply g_ixAU3); (· wtm_at "lk"); (· exact rfl)) | ((with_reducible apply g_ixAL3); (· wtm_at "lk"); (· exact rfl)) | ((with_reducible apply g_ixU3); (· wtm_at "lk"); (· exact rfl)) | ((with_reducible apply g_lenL3); (· wtm_at "lk")) | ((with_reducible apply g_lenU3); (· wtm_at "lk")) | ((with_reducible apply g_tyL3); (· wtm_at "lk")) | ((with_reducible apply g_lenT); (· wtm_at "pv")) | wtm_at "tr" | with_reducible apply g_ET | with_reducible apply g_EF | with_reducible apply g_EnT | with_reducible apply g_EnF)
local macro_rules | `(tactic| wtm_at "pv") => `(tactic| first | exact rfl | assumption | omega | (simp; done) | (simp; omega))
local macro_rules | `(tactic| wtm_at "tr") => `(tactic| first | ((with_reducible apply g_Td); (· wtm_at "pv")) | ((with_reducible apply g_Fd); (· wtm_at "pv")) | ((with_reducible apply g_NTd); (· wtm_at "pv")) | ((with_reducible apply g_NFd); (· wtm_at "pv")) | ((with_reducible apply g_nTd); (· wtm_at "pv")) | ((with_reducible apply g_nFd); (· wtm_at "pv")) | ((with_reducible apply g_RTd); (· wtm_at "pv")) | ((with_reducible apply g_RFd); (· wtm_at "pv")))
local macro_rules | `(tactic| wtm_at "gx") => `(tactic| repeat wtm_at "gx1")
local macro_rules | `(tactic| wtm_at "unfS") => `(tactic| (try simp only [tSeq, tNext, tAsg, tFor_eq, C8.tCut, wipe, gName, tDrop, List.set_cons_zero, List.set_cons_succ, cx_K]))
local macro_rules | `(tactic| wtm_at "rd1") => `(tactic| first | exact rd_int | exact rd_str | exact rd_bl | exact rd_non | exact rda_nil | apply rda_cons | (with_reducible apply rd_tup; (· assumption)) | (with_reducible apply rd_lst; (· assumption)) | exact rd_dic (by assumption) | exact rd_var rfl (.int _) | exact rd_var rfl (.str _) | exact rd_var rfl (.bl _) | exact rd_var rfl (by assumption) | (with_reducible apply rd_cat; (· assumption)) | (with_reducible apply rd_rep2; (· assumption)) | (with_reducible apply rd_rev; (· assumption)) | (with_reducible apply rd_to; (· assumption)) | (with_reducible apply rd_from; (· assumption)) | (with_reducible apply rd_tupOf; (· assumption)) | (with_reducible apply rd_lstOf; (· assumption)) | with_reducible apply rd_lenL | with_reducible apply rd_lenT | with_reducible apply rd_I0 | with_reducible apply rd_I | with_reducible apply rd_U | with_reducible apply rd_eqI | with_reducible apply rd_ixL | with_reducible apply rd_ixT | exact atI_hd _ _ | exact ‹atI _ _ = some _›)
local macro_rules | `(tactic| wtm_at "rdl") => `(tactic| first | decide | omega | wtm_at "sc" | (simp only [List.length_append, List.length_cons, List.length_nil, List.length_map, List.length_take, List.length_drop, List.length_reverse, cutTo]; omega))
local macro_rules | `(tactic| wtm_at "rd") => `(tactic| ((repeat' wtm_at "rd1"); (all_goals wtm_at "rdl")))
local macro_rules | `(tactic| wtm_at "nc") => `(tactic| repeat' (first | assumption | exact nca_nil | exact nc_non | exact nc_bl | exact nc_dic | exact nc_tup0 | exact nc_lst0 | (refine nc_strS (by decide) (by decide)) | (refine nc_int (by omega)) | (refine nc_big (by decide +kernel)) | refine nca_app ?_ ?_ | refine nca_cons ?_ ?_ | refine nca_take ?_ | refine nca_drop ?_ | refine nca_cutTo ?_ | refine nca_rev ?_ | refine nc_tup (by decide) ?_ | refine nc_lst (by decide) ?_ | refine nc_lst (Nat.le_trans (show _ ≤ 45 by wtm_at "rdl") (by decide)) ?_ | refine nc_tup (Nat.le_trans (show _ ≤ 45 by wtm_at "rdl") (by decide)) ?_))

section
variable {P : Program} {w : World} {K : PySem.W.Frag} {mg : Str → Option Value} {base : Heap}
/-! nests as the data that _law_same looks at -/
mutual
def ndT : Nd → Dt
  | .let_ c => .str [c]
  | .num i => .int i
  | .br o ds => .tup [.str [o], .lst (ndTs ds)]
def ndTs : List Nd → List Dt
  | [] => []
  | d :: ds => ndT d :: ndTs ds
end
theorem ndTs_len : ∀ ds : List Nd, (ndTs ds).length = ds.length
  | [] => by rw [ndTs]; rfl
  | d :: ds => by rw [ndTs, List.length_cons, List.length_cons, ndTs_len ds]
mutual
theorem TrI.has {K : PySem.W.Frag} {H : Hp} : ∀ {v : V} {d : Nd} {A : List Addr}, TrI H v d A → d.wide ≤ 100000 → HasD K H v (ndT d)
  | _, _, _, .let_ c, _ => by rw [ndT]; exact .str _
  | _, _, _, .num i, _ => by rw [ndT]; exact .int i
  | _, _, _, @TrI.br _ t b o xs ds A ht hb hs, h => by
    rw [Nd.wide] at h
    rw [ndT]
    have h1 := len_wides ds
    exact .tup ht (.cons (.str _) (.cons (.lst hb (TrIs.has hs h) (by rw [ndTs_len]; omega)) .nil)) (by simp)
theorem TrIs.has {K : PySem.W.Frag} {H : Hp} : ∀ {vs : List V} {ds : List Nd} {A : List Addr}, TrIs H vs ds A → Nd.wides ds ≤ 100000 → HasDs K H vs (ndTs ds)
  | _, _, _, .nil, _ => by rw [ndTs]; exact .nil
  | _, _, _, .cons hi hs, h => by
    rw [Nd.wides] at h
    rw [ndTs]
    exact .cons (TrI.has hi (by omega)) (TrIs.has hs (by omega))
end
/-! numbered ones -/
/-! a nest is left alone by changes of others -/
theorem mem_ndOk : ∀ {ds : List Nd} {d : Nd}, d ∈ ds → ndOk ds → ndOk1 d
  | e :: ds, d, h, k => by
    rw [ndOk] at k
    rcases List.mem_cons.mp h with rfl | h
    · exact k.1
    · exact mem_ndOk h k.2

end
end K08

set_option maxHeartbeats 4000000
namespace K08
open PySem PySem.Spec PyProof.Rows L2 SX Ly
local macro_rules | `(tactic| wtm_at "unf") => `(tactic| (try simp only [tAlt, tMetX, tOwnX, tChain, tSeq, tNext, tBreak, tCont, tDrop, tRet, tRetN, tIfS, tAsg, tAug, tC, tOp, tUn, tNil, tCons, tOwn, tCB, tTest, tB, tAnd, tOr, tNot, tAndV, tOrV, tNotV, tIf, gName, gSub, tBM, tBM0, tM0, tM1, tSl, tPart_eq, tNoPart, tLst_eq, tTup_eq, tRevL_eq, tReplT, tRevS, tDGet_eq, sDPut_eq, tDNewT_eq, tMet, tMak, tFld_eq, sFld_eq, C8.tCut, wipe, tYes, gTup, gCons, gNil, List.set_cons_zero, List.set_cons_succ, if_true, if_false, Bool.false_eq_true, Bool.not_true, Bool.not_false, true_and, reduceIte, cx_K, tFor_eq, tLc_eq, iStr, iList, iTup, iRng1, iRng2, iRng3, iEnum, iZip, tLstRg, tRg1, gLst, RZ.iZipA, iEnumS, iZipS, tDNewK_eq, tDGet2, tDIn, tDNotIn, iKd]))
local macro_rules | `(tactic| wtm_at "unfA") => `(tactic| (try simp only [tAlt, tMetX, tOwnX, tChain, tSeq, tNext, tBreak, tCont, tDrop, tRet, tRetN, tIfS, tAsg, tAug, tC, tOp, tUn, tNil, tCons, tOwn, tCB, tTest, tB, tAnd, tOr, tNot, tIf, gName, gSub, tBM, tBM0, tM0, tM1, tSl, tPart_eq, tNoPart, tLst_eq, tTup_eq, tRevL_eq, tReplT, tRevS, tDGet_eq, sDPut_eq, tDNewT_eq, tMet, tMak, tFld_eq, sFld_eq, C8.tCut, wipe, tYes, gTup, gCons, gNil, List.set_cons_zero, List.set_cons_succ, if_true, if_false, Bool.false_eq_true, Bool.not_true, Bool.not_false, true_and, reduceIte, cx_K, tFor_eq, tLc_eq, iStr, iList, iTup, iRng1, iRng2, iRng3, iEnum, iZip, tLstRg, tRg1, gLst, RZ.iZipA, iEnumS, iZipS, tDNewK_eq, tDGet2, tDIn, tDNotIn, iKd]))
local macro_rules | `(tactic| wtm_at "ne") => `(tactic| first | assumption | (apply Ne.symm; assumption) | (apply ne_new; (· assumption); (· wtm_at "lk")) | (apply Ne.symm; apply ne_new; (· assumption); (· wtm_at "lk")))
local macro_rules | `(tactic| wtm_at "lk") => `(tactic| first | assumption | exact upd_same | (apply Same.get; (· assumption); (· wtm_at "lk")) | (apply But.get; (· assumption); (· wtm_at "ne"); (· wtm_at "lk")))
local macro_rules | `(tactic| wtm_at "sq") => `(tactic| first | assumption | (apply sq_of; wtm_at "lk") | (apply Same.seq; (· assumption); (· wtm_at "sq")) | (apply But.sq; (· assumption); (· wtm_at "ne"); (· wtm_at "sq")))
local macro_rules | `(tactic| wtm_at "fr") => `(tactic| first | assumption | (apply Same.fr; (· assumption); (· wtm_at "sm")) | (apply But.fr; (· assumption); (· wtm_at "sm"); (· wtm_at "ne")))
local macro_rules | `(tactic| wtm_at "sm") => `(tactic| first | exact Same.refl _ | exact But.refl | assumption | (apply Same.tr; (· assumption); (· wtm_at "sm")) | (apply Same.b0; (· assumption); (· wtm_at "sm"); (· wtm_at "fr")) | (apply But.sa; (· assumption); (· wtm_at "sm")) | (apply But.tr; (· assumption); (· wtm_at "sm")) | (apply But.b0; (· assumption); (· wtm_at "sm"); (· wtm_at "fr")) | (apply Same.toBut; wtm_at "sm"))
local macro_rules | `(tactic| wtm_at "sc") => `(tactic| first | exact Int.zero_lt_one | (show (0 : Int) < _; omega) | (show (0 : Int) < _; decide) | exact ⟨by omega, by omega⟩ | exact .inl ⟨by omega, by omega⟩ | exact .inr ⟨by omega, by omega⟩)
local macro_rules | `(tactic| wtm_at "go1") => `(tactic| first | ((with_reducible apply g_var); (· exact rfl)) | with_reducible apply g_I0 | ((with_reducible apply g_I); (· wtm_at "sc")) | with_reducible apply g_U | with_reducible apply g_ipI | ((with_reducible apply g_addT); (· first | omega | (simp; done) | (simp; omega))) | with_reducible apply g_inT | with_reducible apply g_ninT | ((with_reducible apply g_lenT); (· omega)) | with_reducible apply g_findT1 | with_reducible apply g_str | with_reducible apply g_part | with_reducible apply g_intB | ((with_reducible apply g_ixL); (· wtm_at "sq"); (· exact rfl)) | ((with_reducible apply g_setL); (· wtm_at "lk"); (· exact rfl)) | ((with_reducible apply g_eq); (· rfl)) | ((with_reducible apply g_ne); (· rfl)))
local macro_rules | `(tactic| wtm_at "go") => `(tactic| repeat wtm_at "go1")
local macro_rules | `(tactic| wtm_at "lp") => `(tactic| skip)
local macro_rules | `(tactic| wtm_at "om") => `(tactic| first | omega | (simp; done) | (simp; omega) | (simp at *; omega))
local macro_rules | `(tactic| wtm_at "ty") => `(tactic| first | exact ty_str | exact ty_int | exact ty_bl | exact ty_non | (apply ty_lst; wtm_at "lk") | (apply ty_tup; wtm_at "lk"))
local macro_rules | `(tactic| wtm_at "kb") => `(tactic| first | exact kb_str_str | exact kb_str_int | exact kb_str_bool | exact kb_str_list | exact kb_str_tuple | exact kb_int_str | exact kb_int_int | exact kb_int_bool | exact kb_int_list | exact kb_int_tuple | exact kb_bool_str | exact kb_bool_int | exact kb_bool_bool | exact kb_bool_list | exact kb_bool_tuple | exact kb_list_str | exact kb_list_int | exact kb_list_bool | exact kb_list_list | exact kb_list_tuple | exact kb_tuple_str | exact kb_tuple_int | exact kb_tuple_bool | exact kb_tuple_list | exact kb_tuple_tuple | exact kb_NoneType_str | exact kb_NoneType_int | exact kb_NoneType_bool | exact kb_NoneType_list | exact kb_NoneType_tuple | exact kb_dict_str | exact kb_dict_int | exact kb_dict_bool | exact kb_dict_list | exact kb_dict_tuple)
local macro_rules | `(tactic| wtm_at "gx1") => `(tactic| first | ((with_reducible apply g_eqS); (· exact rfl)) | ((with_reducible apply g_neS); (· exact rfl)) | wtm_at "go1" | with_reducible apply g_min2 | with_reducible apply g_max2 | with_reducible apply g_T | with_reducible apply g_F | with_reducible apply g_NT | with_reducible apply g_NF | with_reducible apply g_nT | with_reducible apply g_nF | with_reducible apply g_RT | with_reducible apply g_RF | ((with_reducible apply g_isi); (· wtm_at "ty"); (· wtm_at "kb")) | ((with_reducible apply g_ixAU3); (· wtm_at "lk"); (· exact rfl)) | ((with_reducible apply g_ixAL3); (· wtm_at "lk"); (· exact rfl)) | ((with_reducible apply g_ixU3); (· wtm_at "lk"); (· exact rfl)) | ((with_reducible apply g_lenL3); (· wtm_at "lk")) | ((with_reducible apply g_lenU3); (· wtm_at "lk")) | ((with_reducible apply g_tyL3); (· wtm_at "lk")) | ((with_reducible apply g_lenT); (· wtm_at "pv")) | wtm_at "tr" | with_reducible apply g_ET | with_reducible apply g_EF | with_reducible apply g_EnT | with_reducible apply g_EnF)
local macro_rules | `(tactic| wtm_at "pv") => `(tactic| first | exact rfl | assumption | omega | (simp; done) | (simp; omega))
local macro_rules | `(tactic| wtm_at "tr") => `(tactic| first | ((with_reducible apply g_Td); (· wtm_at "pv")) | ((with_reducible apply g_Fd); (· wtm_at "pv")) | ((with_reducible apply g_NTd); (· wtm_at "pv")) | ((with_reducible apply g_NFd); (· wtm_at "pv")) | ((with_reducible apply g_nTd); (· wtm_at "pv")) | ((with_reducible apply g_nFd); (· wtm_at "pv")) | ((with_reducible apply g_RTd); (· wtm_at "pv")) | ((with_reducible apply g_RFd); (· wtm_at "pv")))
local macro_rules | `(tactic| wtm_at "gx") => `(tactic| repeat wtm_at "gx1")
local macro_rules | `(tactic| wtm_at "unfS") => `(tactic| (try simp only [tSeq, tNext, tAsg, tFor_eq, C8.tCut, wipe, gName, tDrop, List.set_cons_zero, List.set_cons_succ, cx_K]))
local macro_rules | `(tactic| wtm_at "rd1") => `(tactic| first | exact rd_int | exact rd_str | exact rd_bl | exact rd_non | exact rda_nil | apply rda_cons | (with_reducible apply rd_tup; (· assumption)) | (with_reducible apply rd_lst; (· assumption)) | exact rd_dic (by assumption) | exact rd_var rfl (.int _) | exact rd_var rfl (.str _) | exact rd_var rfl (.bl _) | exact rd_var rfl (by assumption) | (with_reducible apply rd_cat; (· assumption)) | (with_reducible apply rd_rep2; (· assumption)) | (with_reducible apply rd_rev; (· assumption)) | (with_reducible apply rd_to; (· assumption)) | (with_reducible apply rd_from; (· assumption)) | (with_reducible apply rd_tupOf; (· assumption)) | (with_reducible apply rd_lstOf; (· assumption)) | with_reducible apply rd_lenL | with_reducible apply rd_lenT | with_reducible apply rd_I0 | with_reducible apply rd_I | with_reducible apply rd_U | with_reducible apply rd_eqI | with_reducible apply rd_ixL | with_reducible apply rd_ixT | exact atI_hd _ _ | exact ‹atI _ _ = some _›)
local macro_rules | `(tactic| wtm_at "rdl") => `(tactic| first | decide | omega | wtm_at "sc" | (simp only [List.length_append, List.length_cons, List.length_nil, List.length_map, List.length_take, List.length_drop, List.length_reverse, cutTo]; omega))
local macro_rules | `(tactic| wtm_at "rd") => `(tactic| ((repeat' wtm_at "rd1"); (all_goals wtm_at "rdl")))
local macro_rules | `(tactic| wtm_at "nc") => `(tactic| repeat' (first | assumption | exact nca_nil | exact nc_non | exact nc_bl | exact nc_dic | exact nc_tup0 | exact nc_lst0 | (refine nc_strS (by decide) (by decide)) | (refine nc_int (by omega)) | (refine nc_big (by decide +kernel)) | refine nca_app ?_ ?_ | refine nca_cons ?_ ?_ | refine nca_take ?_ | refine nca_drop ?_ | refine nca_cutTo ?_ | refine nca_rev ?_ | refine nc_tup (by decide) ?_ | refine nc_lst (by decide) ?_ | refine nc_lst (Nat.le_trans (show _ ≤ 45 by wtm_at "rdl") (by decide)) ?_ | refine nc_tup (Nat.le_trans (show _ ≤ 45 by wtm_at "rdl") (by decide)) ?_))

section
variable {P : Program} {w : World} {K : PySem.W.Frag} {mg : Str → Option Value} {base : Heap}
/-! nest_of -/
/-! joined -/
def sp_joined : Nat → Sp
  | 0 => fun _ _ _ _ => False
  | n + 1 => fun vs H Q _ => ∃ (b : Addr) (xs : List V) (ds : List Nd) (A : List Addr), vs = [.ref b] ∧ H b = some (.lst xs) ∧ TrIs H xs ds A ∧ Nd.deeps ds ≤ n ∧ (txN ds).length ≤ 1000 ∧ ndOk ds ∧ Q (Tx (txN ds)) H
theorem ok_joined (T : Facts K mg) (n : Nat) : C8.Cal P w K mg base (n + 3) "joined" (sp_joined n) [] := by
  induction n with
  | zero => exact cal_false T.f_joined sc_joined (fun _ _ _ _ h => h)
  | succ n ih =>
  rw [show n + 1 + 3 = (n + 3) + 1 by omega]
  refine calD T.f_joined sc_joined (fun vs H Q E h => ?_) (fun f cdv A outer s H vs Q E hr h => ?_)
  · obtain ⟨b, xs, ds, A, rfl, hb, ht, hd, hw, hbr, q⟩ := h; rfl
  · obtain ⟨b, xs, ds, A, rfl, hb, ht, hd, hw, hbr, q⟩ := h
    refine ⟨_, (pss_cons (ps_set (i := 1) sc_joined.nd rfl (Or.inl rfl) (pe_strS (l := []) (by decide +kernel)))
       (pss_cons (ps_for PassesOwn.never rfl (pi_list (pv 0)) (pg_name (i := 2) sc_joined.nd rfl (Or.inl rfl))
       (pss_one (ps_if (pt_val (pe_callB call_isi rfl T.b_isinstance (by decide +kernel) (pa_cons (pv 2) (pa_cons (pe_bltn (v := .ty "tuple") rfl T.b_tuple (by decide +kernel) rfl) pa_nil))))
       (pss_one (ps_aug (i := 1) sc_joined.nd rfl (Or.inl rfl) (pe_op op_addT (pe_op op_addT (pe_ix ix_seq (pv 2) pe_int (fun _ _ => rfl)) (pe_own ih hr (Nat.le_refl _) rfl (pa_cons (pe_ix ix_seq (pv 2) pe_int (fun _ _ => rfl)) pa_nil))) (pe_own (ok_other_side T) hr (by omega) rfl (pa_cons (pe_ix ix_seq (pv 2) pe_int (fun _ _ => rfl)) pa_nil))) iop_addT))
       (pss_one (ps_aug (i := 1) sc_joined.nd rfl (Or.inl rfl) (pv 2) iop_addT)))))
       (pss_one (ps_ret (pv 1))))), ?_⟩
    rw [st_joined]
    wtm_at "unf"
    wtm_at "go"
    refine ⟨_, rfl, ⟨_, sq_of hb⟩, for_lst xs (fun pre σ H' => ∃ (ds1 ds2 : List Nd) (A1 A2 : List Addr) (y : Option V), ds = ds1 ++ ds2 ∧ H' = H ∧ σ = [some (V.ref b), some (Tx (txN ds1)), y] ∧ TrIs H (xs.drop pre.length) ds2 A2 ∧ ndOk ds2)
      ⟨[], ds, [], A, _, rfl, rfl, by rw [txN], ht, hbr⟩ (fun pre post σ H' e hv => ?_) (fun pre x post σ H' e hv => ?_) (fun σ H' hv => ?_)⟩
    · obtain ⟨ds1, ds2, A1, A2, y, e1, rfl, rfl, t2, hk⟩ := hv
      exact sq_of hb
    · obtain ⟨ds1, ds2, A1, A2, y, e1, rfl, rfl, t2, hk⟩ := hv
      rw [show xs.drop pre.length = x :: post by rw [e]; exact List.drop_left] at t2
      have hnx : ∀ z : V, xs.drop (pre ++ [z]).length = post := by
        intro z
        rw [e, show pre ++ x :: post = (pre ++ [x]) ++ post by simp, show (pre ++ [z]).length = (pre ++ [x]).length by simp]
        exact List.drop_left
      have hlen : (txN ds1).length + (txN ds2).length ≤ 1000 := by rw [e1, txN_app, List.length_append] at hw; exact hw
      wtm_at "unf"
      wtm_at "go"
      cases t2 with
      | @cons _ _ d ds3 B A3 ti t3 =>
      rw [ndOk] at hk
      rw [txN, List.length_append] at hlen
      cases ti with
      | let_ c =>
        refine g_isi (b := false) ty_str (by decide +kernel) ?_
        refine ⟨_, rfl, ?_⟩
        rw [if_neg Bool.false_ne_true]
        rw [txI] at hlen
        simp at hlen
        refine ⟨_, rfl, ?_⟩
        wtm_at "go"
        refine ⟨ds1 ++ [.let_ c], ds3, A1, A3, some (Tx [c]), by rw [e1]; simp, rfl, by rw [txN_app, txN_one, txI], by rw [hnx]; exact t3, hk.2⟩
      | num i =>
        have := hk.1
        simp [ndOk1] at this
      | @br t b' o xs' ds' A' h1 h2 h3 =>
        have hk1 := hk.1
        rw [ndOk1] at hk1
        rw [txI] at hlen
        simp at hlen
        have hmem : (Nd.br o ds') ∈ ds := by rw [e1]; simp
        have hdd := mem_deeps hmem
        rw [Nd.deep] at hdd
        refine g_isi (b := true) (ty_tup h1) (by decide +kernel) ?_
        refine ⟨_, rfl, ?_⟩
        rw [if_pos rfl]
        wtm_at "go"
        refine ⟨_, rfl, ?_⟩
        wtm_at "go"
        refine g_ixAU2 h1 (show atI [Tx [o], V.ref b'] 0 = some (Tx [o]) from rfl) ?_
        wtm_at "go"
        refine g_ixAU2 h1 (show atI [Tx [o], V.ref b'] 1 = some (V.ref b') from rfl) ?_
        cases n with
        | zero => omega
        | succ n =>
          refine ⟨b', xs', ds', A', rfl, h2, h3, by omega, by omega, hk1.2, ?_⟩
          wtm_at "go"
          refine g_ixAU2 h1 (show atI [Tx [o], V.ref b'] 0 = some (Tx [o]) from rfl) ?_
          refine ⟨o, rfl, brk_or.mpr (.inl hk1.1), ?_⟩
          wtm_at "go"
          refine ⟨ds1 ++ [.br o ds'], ds3, A1, A3, some (V.ref t), by rw [e1]; simp, rfl, ?_, by rw [hnx]; exact t3, hk.2⟩
          rw [txN_app, txN_one, txI]
          simp
    · obtain ⟨ds1, ds2, A1, A2, y, e1, rfl, rfl, t2, hk⟩ := hv
      rw [List.drop_length] at t2
      cases t2
      rw [List.append_nil] at e1
      subst e1
      wtm_at "unf"
      wtm_at "go"
      exact q
end
end K08

set_option maxHeartbeats 4000000
namespace K08
open PySem PySem.Spec PyProof.Rows L2 SX Ly
local macro_rules | `(tactic| wtm_at "unf") => `(tactic| (try simp only [tAlt, tMetX, tOwnX, tChain, tSeq, tNext, tBreak, tCont, tDrop, tRet, tRetN, tIfS, tAsg, tAug, tC, tOp, tUn, tNil, tCons, tOwn, tCB, tTest, tB, tAnd, tOr, tNot, tAndV, tOrV, tNotV, tIf, gName, gSub, tBM, tBM0, tM0, tM1, tSl, tPart_eq, tNoPart, tLst_eq, tTup_eq, tRevL_eq, tReplT, tRevS, tDGet_eq, sDPut_eq, tDNewT_eq, tMet, tMak, tFld_eq, sFld_eq, C8.tCut, wipe, tYes, gTup, gCons, gNil, List.set_cons_zero, List.set_cons_succ, if_true, if_false, Bool.false_eq_true, Bool.not_true, Bool.not_false, true_and, reduceIte, cx_K, tFor_eq, tLc_eq, iStr, iList, iTup, iRng1, iRng2, iRng3, iEnum, iZip, tLstRg, tRg1, gLst, RZ.iZipA, iEnumS, iZipS, tDNewK_eq, tDGet2, tDIn, tDNotIn, iKd]))
local macro_rules | `(tactic| wtm_at "unfA") => `(tactic| (try simp only [tAlt, tMetX, tOwnX, tChain, tSeq, tNext, tBreak, tCont, tDrop, tRet, tRetN, tIfS, tAsg, tAug, tC, tOp, tUn, tNil, tCons, tOwn, tCB, tTest, tB, tAnd, tOr, tNot, tIf, gName, gSub, tBM, tBM0, tM0, tM1, tSl, tPart_eq, tNoPart, tLst_eq, tTup_eq, tRevL_eq, tReplT, tRevS, tDGet_eq, sDPut_eq, tDNewT_eq, tMet, tMak, tFld_eq, sFld_eq, C8.tCut, wipe, tYes, gTup, gCons, gNil, List.set_cons_zero, List.set_cons_succ, if_true, if_false, Bool.false_eq_true, Bool.not_true, Bool.not_false, true_and, reduceIte, cx_K, tFor_eq, tLc_eq, iStr, iList, iTup, iRng1, iRng2, iRng3, iEnum, iZip, tLstRg, tRg1, gLst, RZ.iZipA, iEnumS, iZipS, tDNewK_eq, tDGet2, tDIn, tDNotIn, iKd]))
local macro_rules | `(tactic| wtm_at "ne") => `(tactic| first | assumption | (apply Ne.symm; assumption) | (apply ne_new; (· assumption); (· wtm_at "lk")) | (apply Ne.symm; apply ne_new; (· assumption); (· wtm_at "lk")))
local macro_rules | `(tactic| wtm_at "lk") => `(tactic| first | assumption | exact upd_same | (apply Same.get; (· assumption); (· wtm_at "lk")) | (apply But.get; (· assumption); (· wtm_at "ne"); (· wtm_at "lk")))
local macro_rules | `(tactic| wtm_at "sq") => `(tactic| first | assumption | (apply sq_of; wtm_at "lk") | (apply Same.seq; (· assumption); (· wtm_at "sq")) | (apply But.sq; (· assumption); (· wtm_at "ne"); (· wtm_at "sq")))
local macro_rules | `(tactic| wtm_at "fr") => `(tactic| first | assumption | (apply Same.fr; (· assumption); (· wtm_at "sm")) | (apply But.fr; (· assumption); (· wtm_at "sm"); (· wtm_at "ne")))
local macro_rules | `(tactic| wtm_at "sm") => `(tactic| first | exact Same.refl _ | exact But.refl | assumption | (apply Same.tr; (· assumption); (· wtm_at "sm")) | (apply Same.b0; (· assumption); (· wtm_at "sm"); (· wtm_at "fr")) | (apply But.sa; (· assumption); (· wtm_at "sm")) | (apply But.tr; (· assumption); (· wtm_at "sm")) | (apply But.b0; (· assumption); (· wtm_at "sm"); (· wtm_at "fr")) | (apply Same.toBut; wtm_at "sm"))
local macro_rules | `(tactic| wtm_at "sc") => `(tactic| first | exact Int.zero_lt_one | (show (0 : Int) < _; omega) | (show (0 : Int) < _; decide) | exact ⟨by omega, by omega⟩ | exact .inl ⟨by omega, by omega⟩ | exact .inr ⟨by omega, by omega⟩)
local macro_rules | `(tactic| wtm_at "go1") => `(tactic| first | ((with_reducible apply g_var); (· exact rfl)) | with_reducible apply g_I0 | ((with_reducible apply g_I); (· wtm_at "sc")) | with_reducible apply g_U | with_reducible apply g_ipI | ((with_reducible apply g_addT); (· first | omega | (simp; done) | (simp; omega))) | with_reducible apply g_inT | with_reducible apply g_ninT | ((with_reducible apply g_lenT); (· omega)) | with_reducible apply g_findT1 | with_reducible apply g_str | with_reducible apply g_part | with_reducible apply g_intB | ((with_reducible apply g_ixL); (· wtm_at "sq"); (· exact rfl)) | ((with_reducible apply g_setL); (· wtm_at "lk"); (· exact rfl)) | ((with_reducible apply g_eq); (· rfl)) | ((with_reducible apply g_ne); (· rfl)))
local macro_rules | `(tactic| wtm_at "go") => `(tactic| repeat wtm_at "go1")
local macro_rules | `(tactic| wtm_at "lp") => `(tactic| skip)
local macro_rules | `(tactic| wtm_at "om") => `(tactic| first | omega | (simp; done) | (simp; omega) | (simp at *; omega))
local macro_rules | `(tactic| wtm_at "ty") => `(tactic| first | exact ty_str | exact ty_int | exact ty_bl | exact ty_non | (apply ty_lst; wtm_at "lk") | (apply ty_tup; wtm_at "lk"))
local macro_rules | `(tactic| wtm_at "kb") => `(tactic| first | exact kb_str_str | exact kb_str_int | exact kb_str_bool | exact kb_str_list | exact kb_str_tuple | exact kb_int_str | exact kb_int_int | exact kb_int_bool | exact kb_int_list | exact kb_int_tuple | exact kb_bool_str | exact kb_bool_int | exact kb_bool_bool | exact kb_bool_list | exact kb_bool_tuple | exact kb_list_str | exact kb_list_int | exact kb_list_bool | exact kb_list_list | exact kb_list_tuple | exact kb_tuple_str | exact kb_tuple_int | exact kb_tuple_bool | exact kb_tuple_list | exact kb_tuple_tuple | exact kb_NoneType_str | exact kb_NoneType_int | exact kb_NoneType_bool | exact kb_NoneType_list | exact kb_NoneType_tuple | exact kb_dict_str | exact kb_dict_int | exact kb_dict_bool | exact kb_dict_list | exact kb_dict_tuple)
local macro_rules | `(tactic| wtm_at "gx1") => `(tactic| first | ((with_reducible apply g_eqS); (· exact rfl)) | ((with_reducible apply g_neS); (· exact rfl)) | wtm_at "go1" | with_reducible apply g_min2 | with_reducible apply g_max2 | with_reducible apply g_T | with_reducible apply g_F | with_reducible apply g_NT | with_reducible apply g_NF | with_reducible apply g_nT | with_reducible apply g_nF | with_reducible apply g_RT | with_reducible apply g_RF | ((with_reducible apply g_isi); (· wtm_at "ty"); (· wtm_at "kb")) | ((with_reducible apply g_ixAU3); (· wtm_at "lk"); (· exact rfl)) | ((with_reducible apply g_ixAL3); (· wtm_at "lk"); (· exact rfl)) | ((with_reducible apply g_ixU3); (· wtm_at "lk"); (· exact rfl)) | ((with_reducible apply g_lenL3); (· wtm_at "lk")) | ((with_reducible apply g_lenU3); (· wtm_at "lk")) | ((with_reducible apply g_tyL3); (· wtm_at "lk")) | ((with_reducible apply g_lenT); (· wtm_at "pv")) | wtm_at "tr" | with_reducible apply g_ET | with_reducible apply g_EF | with_reducible apply g_EnT | with_reducible apply g_EnF)
local macro_rules | `(tactic| wtm_at "pv") => `(tactic| first | exact rfl | assumption | omega | (simp; done) | (simp; omega))
local macro_rules | `(tactic| wtm_at "tr") => `(tactic| first | ((with_reducible apply g_Td); (· wtm_at "pv")) | ((with_reducible apply g_Fd); (· wtm_at "pv")) | ((with_reducible apply g_NTd); (· wtm_at "pv")) | ((with_reducible apply g_NFd); (· wtm_at "pv")) | ((with_reducible apply g_nTd); (· wtm_at "pv")) | ((with_reducible apply g_nFd); (· wtm_at "pv")) | ((with_reducible apply g_RTd); (· wtm_at "pv")) | ((with_reducible apply g_RFd); (· wtm_at "pv")))
local macro_rules | `(tactic| wtm_at "gx") => `(tactic| repeat wtm_at "gx1")
local macro_rules | `(tactic| wtm_at "unfS") => `(tactic| (try simp only [tSeq, tNext, tAsg, tFor_eq, C8.tCut, wipe, gName, tDrop, List.set_cons_zero, List.set_cons_succ, cx_K]))
local macro_rules | `(tactic| wtm_at "rd1") => `(tactic| first | exact rd_int | exact rd_str | exact rd_bl | exact rd_non | exact rda_nil | apply rda_cons | (with_reducible apply rd_tup; (· assumption)) | (with_reducible apply rd_lst; (· assumption)) | exact rd_dic (by assumption) | exact rd_var rfl (.int _) | exact rd_var rfl (.str _) | exact rd_var rfl (.bl _) | exact rd_var rfl (by assumption) | (with_reducible apply rd_cat; (· assumption)) | (with_reducible apply rd_rep2; (· assumption)) | (with_reducible apply rd_rev; (· assumption)) | (with_reducible apply rd_to; (· assumption)) | (with_reducible apply rd_from; (· assumption)) | (with_reducible apply rd_tupOf; (· assumption)) | (with_reducible apply rd_lstOf; (· assumption)) | with_reducible apply rd_lenL | with_reducible apply rd_lenT | with_reducible apply rd_I0 | with_reducible apply rd_I | with_reducible apply rd_U | with_reducible apply rd_eqI | with_reducible apply rd_ixL | with_reducible apply rd_ixT | exact atI_hd _ _ | exact ‹atI _ _ = some _›)
local macro_rules | `(tactic| wtm_at "rdl") => `(tactic| first | decide | omega | wtm_at "sc" | (simp only [List.length_append, List.length_cons, List.length_nil, List.length_map, List.length_take, List.length_drop, List.length_reverse, cutTo]; omega))
local macro_rules | `(tactic| wtm_at "rd") => `(tactic| ((repeat' wtm_at "rd1"); (all_goals wtm_at "rdl")))
local macro_rules | `(tactic| wtm_at "nc") => `(tactic| repeat' (first | assumption | exact nca_nil | exact nc_non | exact nc_bl | exact nc_dic | exact nc_tup0 | exact nc_lst0 | (refine nc_strS (by decide) (by decide)) | (refine nc_int (by omega)) | (refine nc_big (by decide +kernel)) | refine nca_app ?_ ?_ | refine nca_cons ?_ ?_ | refine nca_take ?_ | refine nca_drop ?_ | refine nca_cutTo ?_ | refine nca_rev ?_ | refine nc_tup (by decide) ?_ | refine nc_lst (by decide) ?_ | refine nc_lst (Nat.le_trans (show _ ≤ 45 by wtm_at "rdl") (by decide)) ?_ | refine nc_tup (Nat.le_trans (show _ ≤ 45 by wtm_at "rdl") (by decide)) ?_))

section
variable {P : Program} {w : World} {K : PySem.W.Frag} {mg : Str → Option Value} {base : Heap}
theorem dxa2 {H : Hp} {xs : List V} {ds : List PyData} (h : DxAll H xs ds) (hl : ds.length = 2) : ∃ x y a b, xs = [x, y] ∧ ds = [a, b] ∧ Dx H x a ∧ Dx H y b := by
  cases h with
  | nil => cases hl
  | cons h1 h =>
    cases h with
    | nil => cases hl
    | cons h2 h =>
      cases h with
      | nil => exact ⟨_, _, _, _, rfl, rfl, h1, h2⟩
      | cons _ _ => simp at hl
/-! is_one_of -/
def sp_is_one_of : Sp := fun vs H Q _ => ∃ (v : V) (d : PyData) (m : List Nat), vs = [v, Tx m] ∧ Dx H v d ∧ gd d = true ∧ Q (.bl (oneX d m)) H
theorem ok_is_one_of (T : Facts K mg) : C8.Cal P w K mg base 1 "is_one_of" sp_is_one_of [] := by
  refine calD T.f_is_one_of sc_is_one_of (fun vs H Q E h => ?_) (fun f cdv A outer s H vs Q E hr h => ?_)
  · obtain ⟨v, d, m, rfl, hd, hg, q⟩ := h; rfl
  · obtain ⟨v, d, m, rfl, hd, hg, q⟩ := h
    refine ⟨_, (pss_one (ps_ret (pe_and (pe_callB call_isi rfl T.b_isinstance (by decide +kernel) (pa_cons (pv 0) (pa_cons (pe_bltn (v := .ty "str") rfl T.b_str (by decide +kernel) rfl) pa_nil))) (pe_and (pe_cmpR op_eq (pe_callB call_lenT rfl T.b_len PySem.boot_len (pa_cons (pv 0) pa_nil)) pe_int (nomark _)) (pe_one (pe_cmpR op_inT (pv 0) (pv 1) (by rfl))))))), ?_⟩
    rw [st_is_one_of]
    wtm_at "unf"
    wtm_at "gx"
    refine g_isS hd ?_
    cases ht : isT d .str with
    | false =>
      rw [oneX_not ht] at q
      wtm_at "gx"
      exact q
    | true =>
      obtain ⟨z, rfl, rfl⟩ := dx_str hd ht
      obtain ⟨l, rfl⟩ : ∃ l, z = S l := ⟨_, str_S z⟩
      have hl : l.length ≤ 20 := by
        have h := hg
        simp only [gd, Bool.and_eq_true] at h
        have := of_decide_eq_true h.1
        rw [S_len] at this
        exact this
      replace q : Q (.bl (oneB (S l) m)) H := q
      wtm_at "gx"
      rw [dec_int]
      rcases l with _ | ⟨c, _ | ⟨d, r⟩⟩
      · exact ⟨false, rfl, q⟩
      · refine ⟨true, rfl, ?_⟩
        rw [if_pos rfl]
        wtm_at "gx"
        exact q
      · refine ⟨false, congrArg V.bl (by simp only [List.length_cons]; exact beq_eq_false_iff_ne.mpr (by omega)), ?_⟩
        exact q
/-! is_nest_from -/
def sp_is_nest_from : Nat → Sp
  | 0 => fun _ _ _ _ => False
  | n + 1 => fun vs H Q _ => ∃ (v : V) (d : PyData), vs = [v, .int (61 - (n : Int))] ∧ Dx H v d ∧ gd d = true ∧ wt d ≤ 16000000 ∧ n ≤ 60 ∧ ∀ H', Same H H' → Q (.bl (isN n d)) H'
theorem ok_is_nest_from (T : Facts K mg) (n : Nat) : C8.Cal P w K mg base (n + 2) "is_nest_from" (sp_is_nest_from n) [] := by
  induction n with
  | zero => exact cal_false T.f_is_nest_from sc_is_nest_from (fun _ _ _ _ h => h)
  | succ n ih =>
  rw [show n + 1 + 2 = (n + 2) + 1 by omega]
  refine calD T.f_is_nest_from sc_is_nest_from (fun vs H Q E h => ?_) (fun f cdv A outer s H vs Q E hr h => ?_)
  · obtain ⟨v, d, rfl, hd, hg, hw, hn, q⟩ := h; rfl
  · obtain ⟨v, d, rfl, hd, hg, hw, hn, q⟩ := h
    refine ⟨_, (pss_cons (ps_ifC (PW.pt (pw_or (pt_not (pt_val (pe_callB call_isi rfl T.b_isinstance (by decide +kernel) (pa_cons (pv 0) (pa_cons (pe_bltn (v := .ty "list") rfl T.b_list (by decide +kernel) rfl) pa_nil))))) (pw_or1 (PW.pt (pw_and (pt_cmpR (op_neE hr.units) (pv 0) (pe_lst pa_nil) (nomark _)) (pw_and1 (pt_cmpR op_gt (pv 1) (C8.pe_gc rfl T.c_DEEPEST) (nomark _))))))))
       (pss_one (ps_ret pe_bl))
       pss_nil)
       (pss_cons (ps_for PassesOwn.never rfl (pi_list (pv 0)) (pg_name (i := 2) sc_is_nest_from.nd rfl (Or.inl rfl))
       (pss_one (ps_if (pt_val (pe_callB call_isi rfl T.b_isinstance (by decide +kernel) (pa_cons (pv 2) (pa_cons (pe_bltn (v := .ty "tuple") rfl T.b_tuple (by decide +kernel) rfl) pa_nil))))
       (pss_one (ps_ifC (PW.pt (pw_or (pt_cmpR op_ne (pe_callB call_lenL rfl T.b_len PySem.boot_len (pa_cons (pv 2) pa_nil)) pe_int (nomark _)) (pw_or (pt_not (pt_val (pe_own (ok_is_one_of T) hr (by omega) rfl (pa_cons (pe_ix ix_seq (pv 2) pe_int (fun _ _ => rfl)) (pa_cons (C8.pe_gc rfl T.c_OPENING) pa_nil))))) (pw_or1 (pt_not (pt_val (pe_own ih hr (Nat.le_refl _) rfl (pa_cons (pe_ix ix_seq (pv 2) pe_int (fun _ _ => rfl)) (pa_cons (pe_op op_add (pv 1) pe_int) pa_nil)))))))))
       (pss_one (ps_ret pe_bl))
       pss_nil))
       (pss_one (ps_if (pt_not (pt_val (pe_own (ok_is_one_of T) hr (by omega) rfl (pa_cons (pv 2) (pa_cons (C8.pe_gc rfl T.c_LETTERS) pa_nil)))))
       (pss_one (ps_ret pe_bl))
       pss_nil)))))
       (pss_one (ps_ret pe_bl)))), ?_⟩
    rw [st_is_nest_from]
    wtm_at "unf"
    wtm_at "gx"
    cases hL : isT d .list with
    | false =>
      rw [isN_not hL] at q
      refine g_ifC (b := true) (fun Q' q' => ?_) (fun _ => ?_) (fun h => by cases h)
      · wtm_at "unf"
        wtm_at "gx"
        refine g_isL hd ?_
        rw [hL]
        wtm_at "gx"
        exact q'
      · wtm_at "unf"
        wtm_at "gx"
        exact q H (Same.refl _)
    | true =>
    obtain ⟨a, xs, ds, rfl, rfl, ha, hx⟩ := isT_list hd hL
    have hxl := hx.length
    have hdl : ds.length ≤ 100000 := by
      have h1 := wtA_len ds
      rw [wt] at hw
      omega
    simp only [gd] at hg
    refine g_ifH (b := !ds.isEmpty && decide (n = 0)) (G := fun G => Same H G) (fun Q' q' => ?_) (fun G sG hb => ?_) (fun G sG hb => ?_)
    · wtm_at "unf"
      wtm_at "gx"
      refine g_lst (by show 0 ≤ 100000; decide) fun em G1 nem s1 eem => ?_
      refine g_neE (sq_of (s1 _ _ ha)) eem ?_
      cases ds with
      | nil =>
        have : xs = [] := List.eq_nil_of_length_eq_zero hxl
        subst this
        refine ⟨false, by rw [decide_eq_true rfl]; rfl, ?_⟩
        exact q' G1 s1
      | cons e ds =>
        have hne : ¬ xs = [] := fun h => by rw [h] at hxl; cases hxl
        refine ⟨true, by rw [decide_eq_false hne]; rfl, ?_⟩
        rw [if_pos rfl]
        wtm_at "gx"
        rw [show decide ((60 : Int) < 61 - (n : Int)) = decide (n = 0) by rw [decide_eq_decide]; omega]
        exact ⟨_, rfl, q' G1 s1⟩
    · rw [Bool.and_eq_true] at hb
      have h0 : n = 0 := of_decide_eq_true hb.2
      subst h0
      wtm_at "unf"
      wtm_at "gx"
      have e : isN 0 (.list ds) = false := by
        show ds.isEmpty = false
        cases hds : ds.isEmpty with
        | false => rfl
        | true => rw [hds] at hb; cases hb.1
      rw [e] at q
      exact q G sG
    · wtm_at "unf"
      wtm_at "gx"
      refine ⟨a, rfl, ⟨_, sq_of (sG _ _ ha)⟩, for_lst xs (fun pre σ G1 => ∃ (y : Option V), σ = [some (V.ref a), some (V.int (61 - (n : Int))), y] ∧ Same H G1 ∧ (n = 0 ∨ (ds.take pre.length).all (itN (isN (n - 1))) = true)) ⟨_, rfl, sG, .inr rfl⟩ (fun pre post σ G1 e hv => ?_) (fun pre x post σ G1 e hv => ?_) (fun σ G1 hv => ?_)⟩
      · obtain ⟨y, rfl, s1, _⟩ := hv
        exact sq_of (s1 _ _ ha)
      · obtain ⟨y, rfl, s1, hal⟩ := hv
        obtain ⟨dx, hdx, hmem, etk⟩ := dxa_turn hx e
        have hgx := gdA_mem.mp hg dx hmem
        have hwx : wt dx + 2 ≤ 16000000 := by have := wtA_mem hmem; rw [wt] at hw; omega
        obtain ⟨m, rfl⟩ : ∃ m, n = m + 1 := by
          cases n with
          | zero =>
            have : ds.isEmpty = true := by
              cases hds : ds.isEmpty with
              | true => rfl
              | false => rw [hds] at hb; cases hb
            rw [List.isEmpty_iff.mp this] at hmem
            cases hmem
          | succ m => exact ⟨m, rfl⟩
        have hal : (ds.take pre.length).all (itN (isN m)) = true := by
          rcases hal with h | h
          · cases h
          · exact h
        have hok : ∀ {G2 : Hp} {y2 : Option V}, Same H G2 → itN (isN m) dx = true → ∃ (y : Option V), [some (V.ref a), some (V.int (61 - ((m + 1 : Nat) : Int))), y2] = [some (V.ref a), some (V.int (61 - ((m + 1 : Nat) : Int))), y] ∧ Same H G2 ∧ (m + 1 = 0 ∨ (ds.take (pre ++ [x]).length).all (itN (isN (m + 1 - 1))) = true) := fun s2 h => ⟨_, rfl, s2, .inr (by
          rw [etk, List.all_append, Nat.add_sub_cancel, hal, List.all_cons, h]
          rfl)⟩
        have hno : itN (isN m) dx = false → isN (m + 1) (.list ds) = false := fun h => all_bad hmem h
        have hdx1 := dx_same s1 hdx
        wtm_at "unf"
        wtm_at "gx"
        refine g_isU hdx1 ?_
        cases hU : isT dx .tuple with
        | true =>
          obtain ⟨t, ys, es, rfl, rfl, ht, hy⟩ := dx_tuple hdx1 hU
          simp only [gd] at hgx
          wtm_at "gx"
          refine g_ifH (b := !itN (isN m) (.tuple es)) (G := fun G2 => Same G1 G2) (fun Q' q' => ?_) (fun G2 s2 hb2 => ?_) (fun G2 s2 hb2 => ?_)
          · wtm_at "unf"
            wtm_at "gx"
            rw [hy.length]
            by_cases h2 : es.length = 2
            · rw [h2]
              obtain ⟨v1, v2, d1, d2, rfl, rfl, k1, k2⟩ := dxa2 hy h2
              obtain ⟨g1, g2⟩ : gd d1 = true ∧ gd d2 = true := by
                simp only [gdA, Bool.and_eq_true] at hgx
                exact ⟨hgx.1, hgx.2.1⟩
              refine ⟨false, by rw [show V.int ((2 : Nat) : Int) = V.int 2 from rfl, decide_eq_true rfl]; rfl, ?_⟩
              rw [if_neg Bool.false_ne_true]
              wtm_at "gx"
              refine ⟨v1, d1, OPN, rfl, k1, g1, ?_⟩
              rw [itN_two] at q'
              cases h1 : oneX d1 OPN with
              | false =>
                rw [h1] at q'
                wtm_at "gx"
                exact q' _ (Same.refl _)
              | true =>
                rw [h1, Bool.true_and] at q'
                wtm_at "gx"
                refine ⟨v2, d2, by rw [show (61 - ((m + 1 : Nat) : Int) + 1) = 61 - (m : Int) by omega], k2, g2, by simp only [wt, wtA] at hwx; omega, by omega, fun H2 s2 => ?_⟩
                exact ⟨_, rfl, q' _ s2⟩
            · rw [itN_len h2] at q'
              refine ⟨true, by rw [decide_eq_false (fun h => h2 (by have := V.int.inj h; omega))]; rfl, ?_⟩
              exact q' _ (Same.refl _)
          · have hf : itN (isN m) (.tuple es) = false := by simpa using hb2
            wtm_at "unf"
            wtm_at "gx"
            rw [hno hf] at q
            exact q _ (s1.trans s2)
          · have hf : itN (isN m) (.tuple es) = true := by simpa using hb2
            wtm_at "unf"
            exact hok (s1.trans s2) hf
        | false =>
          wtm_at "gx"
          refine ⟨x, dx, LET, rfl, hdx1, hgx, ?_⟩
          rw [← itN_other (f := isN m) hU]
          cases hf : itN (isN m) dx with
          | true =>
            wtm_at "gx"
            exact hok s1 hf
          | false =>
            wtm_at "gx"
            rw [hno hf] at q
            exact q _ s1
      · obtain ⟨y, rfl, s1, hal⟩ := hv
        wtm_at "unf"
        wtm_at "gx"
        have e : isN n (.list ds) = true := by
          cases n with
          | zero =>
            show ds.isEmpty = true
            cases hds : ds.isEmpty with
            | true => rfl
            | false => rw [hds] at hb; cases hb
          | succ m =>
            rcases hal with h | h
            · cases h
            · rw [hxl, List.take_length] at h
              exact h
        rw [e] at q
        exact q _ s1
/-! is_nest -/
def sp_is_nest : Sp := fun vs H Q _ => ∃ (v : V) (d : PyData), vs = [v] ∧ Dx H v d ∧ gd d = true ∧ wt d ≤ 16000000 ∧ ∀ H', Same H H' → Q (.bl (isN 60 d)) H'
theorem ok_is_nest (T : Facts K mg) : C8.Cal P w K mg base 64 "is_nest" sp_is_nest [] := by
  refine calD T.f_is_nest sc_is_nest (fun vs H Q E h => ?_) (fun f cdv A outer s H vs Q E hr h => ?_)
  · obtain ⟨v, d, rfl, hd, hg, hw, q⟩ := h; rfl
  · obtain ⟨v, d, rfl, hd, hg, hw, q⟩ := h
    refine ⟨_, (pss_one (ps_ret (pe_own (ok_is_nest_from T 61) hr (by omega) rfl (pa_cons (pv 0) (pa_cons pe_int pa_nil))))), ?_⟩
    rw [st_is_nest]
    wtm_at "unf"
    wtm_at "gx"
    exact ⟨v, d, rfl, hd, hg, hw, Nat.le_refl _, q⟩
/-! text_of -/
def sp_text_of : Sp := fun vs H Q _ => ∃ (b : Addr) (xs : List V) (ds : List Nd) (A : List Addr), vs = [.ref b] ∧ H b = some (.lst xs) ∧ TrIs H xs ds A ∧ ndOk ds ∧ hgt ds ≤ 60 ∧ Nd.deeps ds ≤ 60 ∧ (txN ds).length ≤ 1000 ∧ ∀ H', Same H H' → Q (Tx (txN ds)) H'
theorem ok_text_of (T : Facts K mg) : C8.Cal P w K mg base 66 "text_of" sp_text_of [] := by
  refine calD T.f_text_of sc_text_of (fun vs H Q E h => ?_) (fun f cdv A outer s H vs Q E hr h => ?_)
  · obtain ⟨b, xs, ds, A, rfl, hb, ht, hk, hh, hd, hl, q⟩ := h; rfl
  · obtain ⟨b, xs, ds, A, rfl, hb, ht, hk, hh, hd, hl, q⟩ := h
    refine ⟨_, (pss_cons (ps_if (pt_not (pt_val (pe_own (ok_is_nest T) hr (by omega) rfl (pa_cons (pv 0) pa_nil))))
       (pss_one ps_never)
       pss_nil)
       (pss_one (ps_ret (pe_own (ok_joined T 62) hr (by omega) rfl (pa_cons (pv 0) pa_nil))))), ?_⟩
    rw [st_text_of]
    have hT := tha_nd hk
    wtm_at "unf"
    wtm_at "gx"
    refine ⟨.ref b, .list (ndDs ds), rfl, .lst hb (TrIs.dx ht), by simp only [gd]; exact hT.g, by rw [wt]; have := hT.w; omega, fun H1 s1 => ?_⟩
    rw [isN_nd hk hh]
    wtm_at "gx"
    exact ⟨b, xs, ds, A, rfl, s1 _ _ hb, TrIs.same s1 ht, by show _ ≤ 61; omega, hl, hk, q _ s1⟩
end
end K08

set_option maxHeartbeats 4000000
namespace K08
open PySem PySem.Spec PyProof.Rows L2 SX Ly
local macro_rules | `(tactic| wtm_at "unf") => `(tactic| (try simp only [tAlt, tMetX, tOwnX, tChain, tSeq, tNext, tBreak, tCont, tDrop, tRet, tRetN, tIfS, tAsg, tAug, tC, tOp, tUn, tNil, tCons, tOwn, tCB, tTest, tB, tAnd, tOr, tNot, tAndV, tOrV, tNotV, tIf, gName, gSub, tBM, tBM0, tM0, tM1, tSl, tPart_eq, tNoPart, tLst_eq, tTup_eq, tRevL_eq, tReplT, tRevS, tDGet_eq, sDPut_eq, tDNewT_eq, tMet, tMak, tFld_eq, sFld_eq, C8.tCut, wipe, tYes, gTup, gCons, gNil, List.set_cons_zero, List.set_cons_succ, if_true, if_false, Bool.false_eq_true, Bool.not_true, Bool.not_false, true_and, reduceIte, cx_K, tFor_eq, tLc_eq, iStr, iList, iTup, iRng1, iRng2, iRng3, iEnum, iZip, tLstRg, tRg1, gLst, RZ.iZipA, iEnumS, iZipS, tDNewK_eq, tDGet2, tDIn, tDNotIn, iKd]))
local macro_rules | `(tactic| wtm_at "unfA") => `(tactic| (try simp only [tAlt, tMetX, tOwnX, tChain, tSeq, tNext, tBreak, tCont, tDrop, tRet, tRetN, tIfS, tAsg, tAug, tC, tOp, tUn, tNil, tCons, tOwn, tCB, tTest, tB, tAnd, tOr, tNot, tIf, gName, gSub, tBM, tBM0, tM0, tM1, tSl, tPart_eq, tNoPart, tLst_eq, tTup_eq, tRevL_eq, tReplT, tRevS, tDGet_eq, sDPut_eq, tDNewT_eq, tMet, tMak, tFld_eq, sFld_eq, C8.tCut, wipe, tYes, gTup, gCons, gNil, List.set_cons_zero, List.set_cons_succ, if_true, if_false, Bool.false_eq_true, Bool.not_true, Bool.not_false, true_and, reduceIte, cx_K, tFor_eq, tLc_eq, iStr, iList, iTup, iRng1, iRng2, iRng3, iEnum, iZip, tLstRg, tRg1, gLst, RZ.iZipA, iEnumS, iZipS, tDNewK_eq, tDGet2, tDIn, tDNotIn, iKd]))
local macro_rules | `(tactic| wtm_at "ne") => `(tactic| first | assumption | (apply Ne.symm; assumption) | (apply ne_new; (· assumption); (· wtm_at "lk")) | (apply Ne.symm; apply ne_new; (· assumption); (· wtm_at "lk")))
local macro_rules | `(tactic| wtm_at "lk") => `(tactic| first | assumption | exact upd_same | (apply Same.get; (· assumption); (· wtm_at "lk")) | (apply But.get; (· assumption); (· wtm_at "ne"); (· wtm_at "lk")))
local macro_rules | `(tactic| wtm_at "sq") => `(tactic| first | assumption | (apply sq_of; wtm_at "lk") | (apply Same.seq; (· assumption); (· wtm_at "sq")) | (apply But.sq; (· assumption); (· wtm_at "ne"); (· wtm_at "sq")))
local macro_rules | `(tactic| wtm_at "fr") => `(tactic| first | assumption | (apply Same.fr; (· assumption); (· wtm_at "sm")) | (apply But.fr; (· assumption); (· wtm_at "sm"); (· wtm_at "ne")))
local macro_rules | `(tactic| wtm_at "sm") => `(tactic| first | exact Same.refl _ | exact But.refl | assumption | (apply Same.tr; (· assumption); (· wtm_at "sm")) | (apply Same.b0; (· assumption); (· wtm_at "sm"); (· wtm_at "fr")) | (apply But.sa; (· assumption); (· wtm_at "sm")) | (apply But.tr; (· assumption); (· wtm_at "sm")) | (apply But.b0; (· assumption); (· wtm_at "sm"); (· wtm_at "fr")) | (apply Same.toBut; wtm_at "sm"))
local macro_rules | `(tactic| wtm_at "sc") => `(tactic| first | exact Int.zero_lt_one | (show (0 : Int) < _; omega) | (show (0 : Int) < _; decide) | exact ⟨by omega, by omega⟩ | exact .inl ⟨by omega, by omega⟩ | exact .inr ⟨by omega, by omega⟩)
local macro_rules | `(tactic| wtm_at "go1") => `(tactic| first | ((with_reducible apply g_var); (· exact rfl)) | with_reducible apply g_I0 | ((with_reducible apply g_I); (· wtm_at "sc")) | with_reducible apply g_U | with_reducible apply g_ipI | ((with_reducible apply g_addT); (· first | omega | (simp; done) | (simp; omega))) | with_reducible apply g_inT | with_reducible apply g_ninT | ((with_reducible apply g_lenT); (· omega)) | with_reducible apply g_findT1 | with_reducible apply g_str | with_reducible apply g_part | with_reducible apply g_intB | ((with_reducible apply g_ixL); (· wtm_at "sq"); (· exact rfl)) | ((with_reducible apply g_setL); (· wtm_at "lk"); (· exact rfl)) | ((with_reducible apply g_eq); (· rfl)) | ((with_reducible apply g_ne); (· rfl)))
local macro_rules | `(tactic| wtm_at "go") => `(tactic| repeat wtm_at "go1")
local macro_rules | `(tactic| wtm_at "lp") => `(tactic| skip)
local macro_rules | `(tactic| wtm_at "om") => `(tactic| first | omega | (simp; done) | (simp; omega) | (simp at *; omega))
local macro_rules | `(tactic| wtm_at "ty") => `(tactic| first | exact ty_str | exact ty_int | exact ty_bl | exact ty_non | (apply ty_lst; wtm_at "lk") | (apply ty_tup; wtm_at "lk"))
local macro_rules | `(tactic| wtm_at "kb") => `(tactic| first | exact kb_str_str | exact kb_str_int | exact kb_str_bool | exact kb_str_list | exact kb_str_tuple | exact kb_int_str | exact kb_int_int | exact kb_int_bool | exact kb_int_list | exact kb_int_tuple | exact kb_bool_str | exact kb_bool_int | exact kb_bool_bool | exact kb_bool_list | exact kb_bool_tuple | exact kb_list_str | exact kb_list_int | exact kb_list_bool | exact kb_list_list | exact kb_list_tuple | exact kb_tuple_str | exact kb_tuple_int | exact kb_tuple_bool | exact kb_tuple_list | exact kb_tuple_tuple | exact kb_NoneType_str | exact kb_NoneType_int | exact kb_NoneType_bool | exact kb_NoneType_list | exact kb_NoneType_tuple | exact kb_dict_str | exact kb_dict_int | exact kb_dict_bool | exact kb_dict_list | exact kb_dict_tuple)
local macro_rules | `(tactic| wtm_at "gx1") => `(tactic| first | ((with_reducible apply g_eqS); (· exact rfl)) | ((with_reducible apply g_neS); (· exact rfl)) | wtm_at "go1" | with_reducible apply g_min2 | with_reducible apply g_max2 | with_reducible apply g_T | with_reducible apply g_F | with_reducible apply g_NT | with_reducible apply g_NF | with_reducible apply g_nT | with_reducible apply g_nF | with_reducible apply g_RT | with_reducible apply g_RF | ((with_reducible apply g_isi); (· wtm_at "ty"); (· wtm_at "kb")) | ((with_reducible apply g_ixAU3); (· wtm_at "lk"); (· exact rfl)) | ((with_reducible apply g_ixAL3); (· wtm_at "lk"); (· exact rfl)) | ((with_reducible apply g_ixU3); (· wtm_at "lk"); (· exact rfl)) | ((with_reducible apply g_lenL3); (· wtm_at "lk")) | ((with_reducible apply g_lenU3); (· wtm_at "lk")) | ((with_reducible apply g_tyL3); (· wtm_at "lk")) | ((with_reducible apply g_lenT); (· wtm_at "pv")) | wtm_at "tr" | with_reducible apply g_ET | with_reducible apply g_EF | with_reducible apply g_EnT | with_reducible apply g_EnF)
local macro_rules | `(tactic| wtm_at "pv") => `(tactic| first | exact rfl | assumption | omega | (simp; done) | (simp; omega))
local macro_rules | `(tactic| wtm_at "tr") => `(tactic| first | ((with_reducible apply g_Td); (· wtm_at "pv")) | ((with_reducible apply g_Fd); (· wtm_at "pv")) | ((with_reducible apply g_NTd); (· wtm_at "pv")) | ((with_reducible apply g_NFd); (· wtm_at "pv")) | ((with_reducible apply g_nTd); (· wtm_at "pv")) | ((with_reducible apply g_nFd); (· wtm_at "pv")) | ((with_reducible apply g_RTd); (· wtm_at "pv")) | ((with_reducible apply g_RFd); (· wtm_at "pv")))
local macro_rules | `(tactic| wtm_at "gx") => `(tactic| repeat wtm_at "gx1")
local macro_rules | `(tactic| wtm_at "unfS") => `(tactic| (try simp only [tSeq, tNext, tAsg, tFor_eq, C8.tCut, wipe, gName, tDrop, List.set_cons_zero, List.set_cons_succ, cx_K]))
local macro_rules | `(tactic| wtm_at "rd1") => `(tactic| first | exact rd_int | exact rd_str | exact rd_bl | exact rd_non | exact rda_nil | apply rda_cons | (with_reducible apply rd_tup; (· assumption)) | (with_reducible apply rd_lst; (· assumption)) | exact rd_dic (by assumption) | exact rd_var rfl (.int _) | exact rd_var rfl (.str _) | exact rd_var rfl (.bl _) | exact rd_var rfl (by assumption) | (with_reducible apply rd_cat; (· assumption)) | (with_reducible apply rd_rep2; (· assumption)) | (with_reducible apply rd_rev; (· assumption)) | (with_reducible apply rd_to; (· assumption)) | (with_reducible apply rd_from; (· assumption)) | (with_reducible apply rd_tupOf; (· assumption)) | (with_reducible apply rd_lstOf; (· assumption)) | with_reducible apply rd_lenL | with_reducible apply rd_lenT | with_reducible apply rd_I0 | with_reducible apply rd_I | with_reducible apply rd_U | with_reducible apply rd_eqI | with_reducible apply rd_ixL | with_reducible apply rd_ixT | exact atI_hd _ _ | exact ‹atI _ _ = some _›)
local macro_rules | `(tactic| wtm_at "rdl") => `(tactic| first | decide | omega | wtm_at "sc" | (simp only [List.length_append, List.length_cons, List.length_nil, List.length_map, List.length_take, List.length_drop, List.length_reverse, cutTo]; omega))
local macro_rules | `(tactic| wtm_at "rd") => `(tactic| ((repeat' wtm_at "rd1"); (all_goals wtm_at "rdl")))
local macro_rules | `(tactic| wtm_at "nc") => `(tactic| repeat' (first | assumption | exact nca_nil | exact nc_non | exact nc_bl | exact nc_dic | exact nc_tup0 | exact nc_lst0 | (refine nc_strS (by decide) (by decide)) | (refine nc_int (by omega)) | (refine nc_big (by decide +kernel)) | refine nca_app ?_ ?_ | refine nca_cons ?_ ?_ | refine nca_take ?_ | refine nca_drop ?_ | refine nca_cutTo ?_ | refine nca_rev ?_ | refine nc_tup (by decide) ?_ | refine nc_lst (by decide) ?_ | refine nc_lst (Nat.le_trans (show _ ≤ 45 by wtm_at "rdl") (by decide)) ?_ | refine nc_tup (Nat.le_trans (show _ ≤ 45 by wtm_at "rdl") (by decide)) ?_))

section
variable {P : Program} {w : World} {K : PySem.W.Frag} {mg : Str → Option Value} {base : Heap}
/-! tuples of places -/
def TpI (H : Hp) (v : V) (p : List Nat) : Prop := ∃ t, v = .ref t ∧ H t = some (.tup (p.map fun k : Nat => V.int k))
theorem TpI.same {H H' : Hp} {v : V} {p : List Nat} (s : Same H H') (h : TpI H v p) : TpI H' v p := by
  obtain ⟨t, rfl, h⟩ := h
  exact ⟨t, rfl, s _ _ h⟩
theorem TpI.but {H H' : Hp} {v : V} {p : List Nat} {a : Addr} {ys : List V} (ha : H a = some (.lst ys)) (s : But a H H') (h : TpI H v p) : TpI H' v p := by
  obtain ⟨t, rfl, h⟩ := h
  exact ⟨t, rfl, s _ _ (fun e => by rw [e, ha] at h; cases h) h⟩
/-! one of a nest's items -/
theorem TrIs.get {H : Hp} : ∀ {xs : List V} {ds : List Nd} {A : List Addr} {i : Nat} {v : V}, TrIs H xs ds A → xs[i]? = some v → ∃ d B, ds[i]? = some d ∧ TrI H v d B ∧ ∀ x ∈ B, x ∈ A
  | _, _, _, 0, v, .cons h r, e => by cases e; exact ⟨_, _, rfl, h, fun x hx => List.mem_append_left _ hx⟩
  | _, _, _, i + 1, v, .cons h r, e => by
    obtain ⟨d, B, h1, h2, h3⟩ := TrIs.get r e
    exact ⟨d, B, h1, h2, fun x hx => List.mem_append_right _ (h3 x hx)⟩
theorem take_snoc' {α : Type} {l : List α} {i : Nat} {x : α} (h : l[i]? = some x) : l.take (i + 1) = l.take i ++ [x] := by rw [List.take_add_one, h]; rfl
theorem g_isNd {K : PySem.W.Frag} {H : Hp} {v : V} {d : Nd} {A : List Addr} {Q : VK} (h : TrI H v d A) (q : Q (.bl (match d with | .br _ _ => true | _ => false)) H) : rIsi K [v, .ty "tuple"] H Q := by
  cases h with
  | let_ c => exact g_isi (b := false) ty_str (by decide +kernel) q
  | num c => exact g_isi (b := false) ty_int (by decide +kernel) q
  | br h1 h2 h3 => exact g_isi (b := true) (ty_tup h1) (by decide +kernel) q
/-! the depths of a nest's brackets -/
theorem for_tup {K : PySem.W.Frag} {σ : L2.St} {H : Hp} {a : Addr} {g : TG} {tb : TS} {D : Ends} (xs : List V) (Pv : List V → L2.St → Hp → Prop) (h0 : Pv [] σ H) (hl : ∀ pre post σ H, xs = pre ++ post → Pv pre σ H → SqT K H a xs)
    (hs : ∀ pre x post σ H, xs = pre ++ x :: post → Pv pre σ H → g x σ H fun σ2 H2 => tb { D with nx := Pv (pre ++ [x]), ct := Pv (pre ++ [x]), bk := D.nx } σ2 H2) (hd : ∀ σ H, Pv xs σ H → D.nx σ H) : ForR (Itt K a) g tb D σ H := by
  refine for_it (walk_tup (xs := xs)) (fun i σ H => Pv (xs.take i) σ H) (by simpa using h0) (fun i σ H _ p => hl _ (xs.drop i) σ H (List.take_append_drop i xs).symm p) (fun i v σ H H' hi p y => ?_) (fun σ H p => hd σ H (by simpa using p))
  obtain ⟨rfl, hc⟩ := y
  obtain ⟨e1, e2⟩ := cut_at hc
  have z := hs _ _ _ _ _ e2 p
  rw [← e1] at z
  exact z
/-! copied -/
def sp_copied : Nat → Sp
  | 0 => fun _ _ _ _ => False
  | n + 1 => fun vs H Q _ => ∃ (b : Addr) (xs : List V) (ds : List Nd) (A : List Addr), vs = [.ref b] ∧ H b = some (.lst xs) ∧ TrIs H xs ds A ∧ Nd.deeps ds ≤ n ∧ Nd.wides ds ≤ 10000 ∧ ∀ (r : Addr) (ys : List V) (B : List Addr) (H' : Hp), Same H H' → H' r = some (.lst ys) → TrIs H' ys ds B → (r :: B).Nodup → (∀ x ∈ r :: B, H x = none) → Q (.ref r) H'
theorem ok_copied (T : Facts K mg) (n : Nat) : C8.Cal P w K mg base (n + 1) "copied" (sp_copied n) [] := by
  induction n with
  | zero => exact cal_false T.f_copied sc_copied (fun _ _ _ _ h => h)
  | succ n ih =>
  rw [show n + 1 + 1 = (n + 1) + 1 by omega]
  refine calD T.f_copied sc_copied (fun vs H Q E h => ?_) (fun f cdv A outer s H vs Q E hr h => ?_)
  · obtain ⟨b, xs, ds, A, rfl, hb, ht, hd, hw, q⟩ := h; rfl
  · obtain ⟨b, xs, ds, A, rfl, hb, ht, hd, hw, q⟩ := h
    refine ⟨_, (pss_cons (ps_set (i := 1) sc_copied.nd rfl (Or.inl rfl) (pe_lst pa_nil))
       (pss_cons (ps_for PassesOwn.never rfl (pi_list (pv 0)) (pg_name (i := 2) sc_copied.nd rfl (Or.inl rfl))
       (C8.pss_cut (ps_if (pt_val (pe_callB call_isi rfl T.b_isinstance (by decide +kernel) (pa_cons (pv 2) (pa_cons (pe_bltn (v := .ty "tuple") rfl T.b_tuple (by decide +kernel) rfl) pa_nil))))
       (pss_one (ps_set (i := 2) sc_copied.nd rfl (Or.inl rfl) (pe_tup (pa_cons (pe_ix ix_seq (pv 2) pe_int (fun _ _ => rfl)) (pa_cons (pe_own ih hr (Nat.le_refl _) rfl (pa_cons (pe_ix ix_seq (pv 2) pe_int (fun _ _ => rfl)) pa_nil)) pa_nil)))))
       pss_nil)
       (pss_one (ps_expr (pe_bm PySem.F.plainAttrs_list PySem.F.slot_list_append PySem.F.type_list_append mt_append (pv 1) (pa_cons (pv 2) pa_nil))))))
       (pss_one (ps_ret (pv 1))))), ?_⟩
    rw [st_copied]
    have hxl : xs.length = ds.length := TrIs.len ht
    have hdl := len_wides ds
    wtm_at "unf"
    wtm_at "gx"
    refine g_lst (by show 0 ≤ 100000; decide) fun fa H1 nfa s1 efa => ?_
    wtm_at "gx"
    refine ⟨b, rfl, ⟨_, sq_of (s1 _ _ hb)⟩, for_lst xs (fun pre σ H' => ∃ (ys : List V) (B : List Addr) (y2 : Option V), σ = [some (V.ref b), some (V.ref fa), y2] ∧ H' fa = some (.lst ys) ∧ TrIs H' ys (ds.take pre.length) B ∧ (fa :: B).Nodup ∧ (∀ x ∈ B, H x = none) ∧ Same H H') ⟨[], [], _, rfl, efa, by simp; exact .nil, by simp, by simp, s1⟩ (fun pre post σ H' e hv => ?_) (fun pre x post σ H' e hv => ?_) (fun σ H' hv => ?_)⟩
    · obtain ⟨ys, B, y2, rfl, ef, tr, nod, fr, sH⟩ := hv
      exact sq_of (sH _ _ hb)
    · obtain ⟨ys, B, y2, rfl, ef, tr, nod, fr, sH⟩ := hv
      obtain ⟨dd, B1, h1, h2, h3⟩ := TrIs.get (TrIs.same sH ht) (mid_at e)
      have hmem : dd ∈ ds := List.mem_of_getElem? h1
      have hyl : ys.length < 10000 := by
        rw [TrIs.len tr, List.length_take]
        have := (List.getElem?_eq_some_iff.mp h1).1
        omega
      have hnx : ds.take (pre ++ [x]).length = ds.take pre.length ++ [dd] := by rw [show (pre ++ [x]).length = pre.length + 1 by simp, take_snoc' h1]
      wtm_at "unf"
      refine ⟨fun σ G => ∃ (v : V) (C : List Addr), σ = [some (V.ref b), some (V.ref fa), some v] ∧ Same H' G ∧ TrI G v dd C ∧ C.Nodup ∧ ∀ x ∈ C, H' x = none, ?_, ?_⟩
      · wtm_at "gx"
        refine g_isNd h2 ?_
        cases h2 with
        | let_ c => exact ⟨false, rfl, by rw [if_neg Bool.false_ne_true]; exact ⟨_, [], rfl, Same.refl _, .let_ c, by simp, by simp⟩⟩
        | num c => exact ⟨false, rfl, by rw [if_neg Bool.false_ne_true]; exact ⟨_, [], rfl, Same.refl _, .num c, by simp, by simp⟩⟩
        | @br t' b' o xs' es A' g1 g2 g3 =>
          have hdd := mem_deeps hmem
          have hww := mem_wides hmem
          rw [Nd.deep] at hdd
          rw [Nd.wide] at hww
          refine ⟨true, rfl, ?_⟩
          rw [if_pos rfl]
          wtm_at "unf"
          wtm_at "gx"
          cases n with
          | zero => omega
          | succ n =>
            refine ⟨b', xs', es, A', rfl, g2, g3, by omega, by omega, fun r zs C G1 s1' er tr1 nod1 fr1 => ?_⟩
            wtm_at "gx"
            refine g_tup (by show 2 ≤ 100000; decide) fun u G2 nu s2' eu => ?_
            exact ⟨_, r :: C, rfl, s1'.trans s2', .br eu (s2' _ _ er) (TrIs.same s2' tr1), nod1, fr1⟩
      · rintro σ G ⟨v, C, rfl, sG, tv, nodC, frC⟩
        wtm_at "unf"
        wtm_at "gx"
        refine g_append1 (sG _ _ ef) (by omega) fun G2 b2 ef2 => ?_
        have bs : ButS [fa] G G2 := ButS.but (sG _ _ ef) b2
        have nfB : fa ∉ B := (List.nodup_cons.mp nod).1
        have nfC : fa ∉ C := fun h => by have := frC fa h; rw [ef] at this; cases this
        have hBC : ∀ x ∈ B, x ∉ C := fun x hx hc => by
          obtain ⟨zs, hz⟩ := TrIs.lsts tr x hx
          rw [frC x hc] at hz
          cases hz
        refine ⟨ys ++ [v], B ++ C, _, rfl, ef2, ?_, ?_, fun x hx => ?_, Same.b0 b2 (sH.trans sG) nfa⟩
        · rw [hnx]
          exact TrIs.snoc (TrIs.frame bs (TrIs.same sG tr) fun x hx hc => nfB (List.mem_singleton.mp hc ▸ hx)) (TrI.frame bs tv fun x hx hc => nfC (List.mem_singleton.mp hc ▸ hx))
        · rw [List.nodup_cons]
          refine ⟨fun h => ?_, List.nodup_append.mpr ⟨(List.nodup_cons.mp nod).2, nodC, fun x hx y hy e => hBC x hx (e ▸ hy)⟩⟩
          rcases List.mem_append.mp h with h | h
          · exact nfB h
          · exact nfC h
        · rcases List.mem_append.mp hx with hx | hx
          · exact fr x hx
          · exact sH.free (frC x hx)
    · obtain ⟨ys, B, y2, rfl, ef, tr, nod, fr, sH⟩ := hv
      rw [hxl, List.take_length] at tr
      wtm_at "unf"
      wtm_at "gx"
      refine q fa ys B H' sH ef tr nod fun x hx => ?_
      rcases List.mem_cons.mp hx with rfl | hx
      · exact nfa
      · exact fr x hx
/-! at_path -/
end
end K08

set_option maxHeartbeats 4000000
namespace K08
open PySem PySem.Spec PyProof.Rows L2 SX Ly
local macro_rules | `(tactic| wtm_at "unf") => `(tactic| (try simp only [tAlt, tMetX, tOwnX, tChain, tSeq, tNext, tBreak, tCont, tDrop, tRet, tRetN, tIfS, tAsg, tAug, tC, tOp, tUn, tNil, tCons, tOwn, tCB, tTest, tB, tAnd, tOr, tNot, tAndV, tOrV, tNotV, tIf, gName, gSub, tBM, tBM0, tM0, tM1, tSl, tPart_eq, tNoPart, tLst_eq, tTup_eq, tRevL_eq, tReplT, tRevS, tDGet_eq, sDPut_eq, tDNewT_eq, tMet, tMak, tFld_eq, sFld_eq, C8.tCut, wipe, tYes, gTup, gCons, gNil, List.set_cons_zero, List.set_cons_succ, if_true, if_false, Bool.false_eq_true, Bool.not_true, Bool.not_false, true_and, reduceIte, cx_K, tFor_eq, tLc_eq, iStr, iList, iTup, iRng1, iRng2, iRng3, iEnum, iZip, tLstRg, tRg1, gLst, RZ.iZipA, iEnumS, iZipS, tDNewK_eq, tDGet2, tDIn, tDNotIn, iKd]))
local macro_rules | `(tactic| wtm_at "unfA") => `(tactic| (try simp only [tAlt, tMetX, tOwnX, tChain, tSeq, tNext, tBreak, tCont, tDrop, tRet, tRetN, tIfS, tAsg, tAug, tC, tOp, tUn, tNil, tCons, tOwn, tCB, tTest, tB, tAnd, tOr, tNot, tIf, gName, gSub, tBM, tBM0, tM0, tM1, tSl, tPart_eq, tNoPart, tLst_eq, tTup_eq, tRevL_eq, tReplT, tRevS, tDGet_eq, sDPut_eq, tDNewT_eq, tMet, tMak, tFld_eq, sFld_eq, C8.tCut, wipe, tYes, gTup, gCons, gNil, List.set_cons_zero, List.set_cons_succ, if_true, if_false, Bool.false_eq_true, Bool.not_true, Bool.not_false, true_and, reduceIte, cx_K, tFor_eq, tLc_eq, iStr, iList, iTup, iRng1, iRng2, iRng3, iEnum, iZip, tLstRg, tRg1, gLst, RZ.iZipA, iEnumS, iZipS, tDNewK_eq, tDGet2, tDIn, tDNotIn, iKd]))
local macro_rules | `(tactic| wtm_at "ne") => `(tactic| first | assumption | (apply Ne.symm; assumption) | (apply ne_new; (· assumption); (· wtm_at "lk")) | (apply Ne.symm; apply ne_new; (· assumption); (· wtm_at "lk")))
local macro_rules | `(tactic| wtm_at "lk") => `(tactic| first | assumption | exact upd_same | (apply Same.get; (· assumption); (· wtm_at "lk")) | (apply But.get; (· assumption); (· wtm_at "ne"); (· wtm_at "lk")))
local macro_rules | `(tactic| wtm_at "sq") => `(tactic| first | assumption | (apply sq_of; wtm_at "lk") | (apply Same.seq; (· assumption); (· wtm_at "sq")) | (apply But.sq; (· assumption); (· wtm_at "ne"); (· wtm_at "sq")))
local macro_rules | `(tactic| wtm_at "fr") => `(tactic| first | assumption | (apply Same.fr; (· assumption); (· wtm_at "sm")) | (apply But.fr; (· assumption); (· wtm_at "sm"); (· wtm_at "ne")))
local macro_rules | `(tactic| wtm_at "sm") => `(tactic| first | exact Same.refl _ | exact But.refl | assumption | (apply Same.tr; (· assumption); (· wtm_at "sm")) | (apply Same.b0; (· assumption); (· wtm_at "sm"); (· wtm_at "fr")) | (apply But.sa; (· assumption); (· wtm_at "sm")) | (apply But.tr; (· assumption); (· wtm_at "sm")) | (apply But.b0; (· assumption); (· wtm_at "sm"); (· wtm_at "fr")) | (apply Same.toBut; wtm_at "sm"))
local macro_rules | `(tactic| wtm_at "sc") => `(tactic| first | exact Int.zero_lt_one | (show (0 : Int) < _; omega) | (show (0 : Int) < _; decide) | exact ⟨by omega, by omega⟩ | exact .inl ⟨by omega, by omega⟩ | exact .inr ⟨by omega, by omega⟩)
local macro_rules | `(tactic| wtm_at "go1") => `(tactic| first | ((with_reducible apply g_var); (· exact rfl)) | with_reducible apply g_I0 | ((with_reducible apply g_I); (· wtm_at "sc")) | with_reducible apply g_U | with_reducible apply g_ipI | ((with_reducible apply g_addT); (· first | omega | (simp; done) | (simp; omega))) | with_reducible apply g_inT | with_reducible apply g_ninT | ((with_reducible apply g_lenT); (· omega)) | with_reducible apply g_findT1 | with_reducible apply g_str | with_reducible apply g_part | with_reducible apply g_intB | ((with_reducible apply g_ixL); (· wtm_at "sq"); (· exact rfl)) | ((with_reducible apply g_setL); (· wtm_at "lk"); (· exact rfl)) | ((with_reducible apply g_eq); (· rfl)) | ((with_reducible apply g_ne); (· rfl)))
local macro_rules | `(tactic| wtm_at "go") => `(tactic| repeat wtm_at "go1")
local macro_rules | `(tactic| wtm_at "lp") => `(tactic| skip)
local macro_rules | `(tactic| wtm_at "om") => `(tactic| first | omega | (simp; done) | (simp; omega) | (simp at *; omega))
local macro_rules | `(tactic| wtm_at "ty") => `(tactic| first | exact ty_str | exact ty_int | exact ty_bl | exact ty_non | (apply ty_lst; wtm_at "lk") | (apply ty_tup; wtm_at "lk"))
local macro_rules | `(tactic| wtm_at "kb") => `(tactic| first | exact kb_str_str | exact kb_str_int | exact kb_str_bool | exact kb_str_list | exact kb_str_tuple | exact kb_int_str | exact kb_int_int | exact kb_int_bool | exact kb_int_list | exact kb_int_tuple | exact kb_bool_str | exact kb_bool_int | exact kb_bool_bool | exact kb_bool_list | exact kb_bool_tuple | exact kb_list_str | exact kb_list_int | exact kb_list_bool | exact kb_list_list | exact kb_list_tuple | exact kb_tuple_str | exact kb_tuple_int | exact kb_tuple_bool | exact kb_tuple_list | exact kb_tuple_tuple | exact kb_NoneType_str | exact kb_NoneType_int | exact kb_NoneType_bool | exact kb_NoneType_list | exact kb_NoneType_tuple | exact kb_dict_str | exact kb_dict_int | exact kb_dict_bool | exact kb_dict_list | exact kb_dict_tuple)
local macro_rules | `(tactic| wtm_at "gx1") => `(tactic| first | ((with_reducible apply g_eqS); (· exact rfl)) | ((with_reducible apply g_neS); (· exact rfl)) | wtm_at "go1" | with_reducible apply g_min2 | with_reducible apply g_max2 | with_reducible apply g_T | with_reducible apply g_F | with_reducible apply g_NT | with_reducible apply g_NF | with_reducible apply g_nT | with_reducible apply g_nF | with_reducible apply g_RT | with_reducible apply g_RF | ((with_reducible apply g_isi); (· wtm_at "ty"); (· wtm_at "kb")) | ((with_reducible apply g_ixAU3); (· wtm_at "lk"); (· exact rfl)) | ((with_reducible apply g_ixAL3); (· wtm_at "lk"); (· exact rfl)) | ((with_reducible apply g_ixU3); (· wtm_at "lk"); (· exact rfl)) | ((with_reducible apply g_lenL3); (· wtm_at "lk")) | ((with_reducible apply g_lenU3); (· wtm_at "lk")) | ((with_reducible apply g_tyL3); (· wtm_at "lk")) | ((with_reducible apply g_lenT); (· wtm_at "pv")) | wtm_at "tr" | with_reducible apply g_ET | with_reducible apply g_EF | with_reducible apply g_EnT | with_reducible apply g_EnF)
local macro_rules | `(tactic| wtm_at "pv") => `(tactic| first | exact rfl | assumption | omega | (simp; done) | (simp; omega))
local macro_rules | `(tactic| wtm_at "tr") => `(tactic| first | ((with_reducible apply g_Td); (· wtm_at "pv")) | ((with_reducible apply g_Fd); (· wtm_at "pv")) | ((with_reducible apply g_NTd); (· wtm_at "pv")) | ((with_reducible apply g_NFd); (· wtm_at "pv")) | ((with_reducible apply g_nTd); (· wtm_at "pv")) | ((with_reducible apply g_nFd); (· wtm_at "pv")) | ((with_reducible apply g_RTd); (· wtm_at "pv")) | ((with_reducible apply g_RFd); (· wtm_at "pv")))
local macro_rules | `(tactic| wtm_at "gx") => `(tactic| repeat wtm_at "gx1")
local macro_rules | `(tactic| wtm_at "unfS") => `(tactic| (try simp only [tSeq, tNext, tAsg, tFor_eq, C8.tCut, wipe, gName, tDrop, List.set_cons_zero, List.set_cons_succ, cx_K]))
local macro_rules | `(tactic| wtm_at "rd1") => `(tactic| first | exact rd_int | exact rd_str | exact rd_bl | exact rd_non | exact rda_nil | apply rda_cons | (with_reducible apply rd_tup; (· assumption)) | (with_reducible apply rd_lst; (· assumption)) | exact rd_dic (by assumption) | exact rd_var rfl (.int _) | exact rd_var rfl (.str _) | exact rd_var rfl (.bl _) | exact rd_var rfl (by assumption) | (with_reducible apply rd_cat; (· assumption)) | (with_reducible apply rd_rep2; (· assumption)) | (with_reducible apply rd_rev; (· assumption)) | (with_reducible apply rd_to; (· assumption)) | (with_reducible apply rd_from; (· assumption)) | (with_reducible apply rd_tupOf; (· assumption)) | (with_reducible apply rd_lstOf; (· assumption)) | with_reducible apply rd_lenL | with_reducible apply rd_lenT | with_reducible apply rd_I0 | with_reducible apply rd_I | with_reducible apply rd_U | with_reducible apply rd_eqI | with_reducible apply rd_ixL | with_reducible apply rd_ixT | exact atI_hd _ _ | exact ‹atI _ _ = some _›)
local macro_rules | `(tactic| wtm_at "rdl") => `(tactic| first | decide | omega | wtm_at "sc" | (simp only [List.length_append, List.length_cons, List.length_nil, List.length_map, List.length_take, List.length_drop, List.length_reverse, cutTo]; omega))
local macro_rules | `(tactic| wtm_at "rd") => `(tactic| ((repeat' wtm_at "rd1"); (all_goals wtm_at "rdl")))
local macro_rules | `(tactic| wtm_at "nc") => `(tactic| repeat' (first | assumption | exact nca_nil | exact nc_non | exact nc_bl | exact nc_dic | exact nc_tup0 | exact nc_lst0 | (refine nc_strS (by decide) (by decide)) | (refine nc_int (by omega)) | (refine nc_big (by decide +kernel)) | refine nca_app ?_ ?_ | refine nca_cons ?_ ?_ | refine nca_take ?_ | refine nca_drop ?_ | refine nca_cutTo ?_ | refine nca_rev ?_ | refine nc_tup (by decide) ?_ | refine nc_lst (by decide) ?_ | refine nc_lst (Nat.le_trans (show _ ≤ 45 by wtm_at "rdl") (by decide)) ?_ | refine nc_tup (Nat.le_trans (show _ ≤ 45 by wtm_at "rdl") (by decide)) ?_))

section
variable {P : Program} {w : World} {K : PySem.W.Frag} {mg : Str → Option Value} {base : Heap}
/-! nest_of -/
def spx_nest_of (K : PySem.W.Frag) : Sp := fun vs H Q E => ∃ l : List Nat, vs = [Tx l] ∧ l.length ≤ 1000 ∧ ¬ clean l ∧ ∀ H', Same H H' → E (.ref (He.ga K "NoNest")) none H'
theorem okx_nest_of (T : Facts K mg) : CalX P w K mg base 5 "nest_of" (spx_nest_of K) := by
  refine calDX T.f_nest_of sc_nest_of (fun vs H Q E h => ?_) (fun f cdv A outer s H vs Q E hr h => ?_)
  · obtain ⟨l, rfl, hl, hc, q⟩ := h; rfl
  · obtain ⟨l, rfl, hl, hc, q⟩ := h
    refine ⟨_, (pss_cons (ps_if (pt_not (pt_val (pe_own (ok_is_clean T) hr (by omega) rfl (pa_cons (pv 0) pa_nil))))
       (pss_one (ps_raise rfl (takes_of rfl rfl rfl rfl) (pmk_own PySem.F.excBase_ValueError T.z_NoNest.x T.g_NoNest T.z_NoNest.kp (raises_own T.z_NoNest.sb T.z_NoNest.ty) rfl)))
       pss_nil)
       (pss_cons (ps_set (i := 1) sc_nest_of.nd rfl (Or.inl rfl) (pe_lst (pa_cons (pe_lst pa_nil) pa_nil)))
       (pss_cons (ps_for (passes_of rfl) rfl (pi_str (pv 0)) (pg_name (i := 2) sc_nest_of.nd rfl (Or.inl rfl))
       (pss_one (ps_if (pt_cmpR op_inT (pv 2) (C8.pe_gc rfl T.c_LETTERS) (by rfl))
       (pss_one (ps_expr (pe_bm PySem.F.plainAttrs_list PySem.F.slot_list_append PySem.F.type_list_append mt_append (pe_ix ix_list (pv 1) (pe_un un_neg pe_int) (fun _ _ => rfl)) (pa_cons (pv 2) pa_nil))))
       (pss_one (ps_if (pt_cmpR op_inT (pv 2) (C8.pe_gc rfl T.c_OPENING) (by rfl))
       (pss_cons (ps_set (i := 3) sc_nest_of.nd rfl (Or.inl rfl) (pe_lst pa_nil))
       (pss_cons (ps_expr (pe_bm PySem.F.plainAttrs_list PySem.F.slot_list_append PySem.F.type_list_append mt_append (pe_ix ix_list (pv 1) (pe_un un_neg pe_int) (fun _ _ => rfl)) (pa_cons (pe_tup (pa_cons (pv 2) (pa_cons (pv 3) pa_nil))) pa_nil)))
       (pss_one (ps_expr (pe_bm PySem.F.plainAttrs_list PySem.F.slot_list_append PySem.F.type_list_append mt_append (pv 1) (pa_cons (pv 3) pa_nil))))))
       (pss_one (ps_expr (pe_bm0 PySem.F.plainAttrs_list PySem.F.slot_list_pop PySem.F.type_list_pop mt_pop (pv 1)))))))))
       (pss_one (ps_ret (pe_ix ix_list (pv 1) pe_int (fun _ _ => rfl))))))), ?_⟩
    rw [st_nest_of]
    wtm_at "unf"
    wtm_at "go"
    refine ⟨l, rfl, hl, fun H1 s1 => ?_⟩
    rw [decide_eq_false hc]
    refine ⟨_, rfl, ?_⟩
    rw [if_pos (by rfl)]
    exact q H1 s1
/-! text_of -/
def spx_text_of (K : PySem.W.Frag) : Sp := fun vs H Q E => ∃ (v : V) (d : PyData), vs = [v] ∧ Dx H v d ∧ gd d = true ∧ wt d ≤ 16000000 ∧ isN 60 d = false ∧ ∀ H', Same H H' → E (.ref (He.ga K "NoNest")) none H'
theorem okx_text_of (T : Facts K mg) : CalX P w K mg base 66 "text_of" (spx_text_of K) := by
  refine calDX T.f_text_of sc_text_of (fun vs H Q E h => ?_) (fun f cdv A outer s H vs Q E hr h => ?_)
  · obtain ⟨v, d, rfl, hd, hg, hw, hn, q⟩ := h; rfl
  · obtain ⟨v, d, rfl, hd, hg, hw, hn, q⟩ := h
    refine ⟨_, (pss_cons (ps_if (pt_not (pt_val (pe_own (ok_is_nest T) hr (by omega) rfl (pa_cons (pv 0) pa_nil))))
       (pss_one (ps_raise rfl (takes_of rfl rfl rfl rfl) (pmk_own PySem.F.excBase_ValueError T.z_NoNest.x T.g_NoNest T.z_NoNest.kp (raises_own T.z_NoNest.sb T.z_NoNest.ty) rfl)))
       pss_nil)
       (pss_one (ps_ret (pe_own (ok_joined T 62) hr (by omega) rfl (pa_cons (pv 0) pa_nil))))), ?_⟩
    rw [st_text_of]
    wtm_at "unf"
    wtm_at "gx"
    refine ⟨v, d, rfl, hd, hg, hw, fun H1 s1 => ?_⟩
    rw [hn]
    wtm_at "gx"
    exact q _ s1
/-! at_path -/
def spx_at_path (K : PySem.W.Frag) : Sp := fun vs H Q E => ∃ (b : Addr) (xs : List V) (ds : List Nd) (A : List Addr) (v : V) (d : PyData), vs = [.ref b, v] ∧ H b = some (.lst xs) ∧ TrIs H xs ds A ∧ ndOk ds ∧ Dx H v d ∧ pathBad ds d = true ∧ ∀ H', Same H H' → E (.ref (He.ga K "NoNest")) none H'
theorem okx_at_path (T : Facts K mg) : CalX P w K mg base 64 "at_path" (spx_at_path K) := by
  refine calDX T.f_at_path sc_at_path (fun vs H Q E h => ?_) (fun f cdv A outer s H vs Q E hr h => ?_)
  · obtain ⟨b, xs, ds, A, v, d, rfl, hb0, ht, hnd, hd, hp, q⟩ := h; rfl
  · obtain ⟨b, xs, ds, A, v, d, rfl, hb0, ht, hnd, hd, hp, q⟩ := h
    refine ⟨_, (pss_cons (ps_ifC (PW.pt (pw_or (pt_not (pt_val (pe_callB call_isi rfl T.b_isinstance (by decide +kernel) (pa_cons (pv 1) (pa_cons (pe_bltn (v := .ty "tuple") rfl T.b_tuple (by decide +kernel) rfl) pa_nil))))) (pw_or1 (pt_cmpR (op_eqU0 hr.units) (pv 1) (pe_tup pa_nil) (nomark _)))))
       (pss_one (ps_raise rfl (takes_of rfl rfl rfl rfl) (pmk_own PySem.F.excBase_ValueError T.z_NoNest.x T.g_NoNest T.z_NoNest.kp (raises_own T.z_NoNest.sb T.z_NoNest.ty) rfl)))
       pss_nil)
       (pss_cons (ps_set (i := 2) sc_at_path.nd rfl (Or.inl rfl) (pe_tup (pa_cons (pe_strS (l := []) (by decide +kernel)) (pa_cons (pv 0) pa_nil))))
       (pss_cons (ps_for (passes_of rfl) rfl (pi_tup (pv 1)) (pg_name (i := 3) sc_at_path.nd rfl (Or.inl rfl))
       (pss_cons (ps_ifC (PW.pt (pw_or (pt_not (pt_val (pe_callB call_isi rfl T.b_isinstance (by decide +kernel) (pa_cons (pv 3) (pa_cons (pe_bltn (v := .ty "int") rfl T.b_int (by decide +kernel) rfl) pa_nil))))) (pw_or (pt_val (pe_callB call_isi rfl T.b_isinstance (by decide +kernel) (pa_cons (pv 3) (pa_cons (pe_bltn (v := .ty "bool") rfl T.b_bool (by decide +kernel) rfl) pa_nil)))) (pw_or1 (pt_not (pt_val (pe_callB call_isi rfl T.b_isinstance (by decide +kernel) (pa_cons (pv 2) (pa_cons (pe_bltn (v := .ty "tuple") rfl T.b_tuple (by decide +kernel) rfl) pa_nil)))))))))
       (pss_one (ps_raise rfl (takes_of rfl rfl rfl rfl) (pmk_own PySem.F.excBase_ValueError T.z_NoNest.x T.g_NoNest T.z_NoNest.kp (raises_own T.z_NoNest.sb T.z_NoNest.ty) rfl)))
       pss_nil)
       (pss_cons (ps_if (pt_not (pt_chain op_le op_lt pe_int (pv 3) (pe_callB call_lenL rfl T.b_len PySem.boot_len (pa_cons (pe_ix ix_tup (pv 2) pe_int (fun _ _ => rfl)) pa_nil))))
       (pss_one (ps_raise rfl (takes_of rfl rfl rfl rfl) (pmk_own PySem.F.excBase_ValueError T.z_NoNest.x T.g_NoNest T.z_NoNest.kp (raises_own T.z_NoNest.sb T.z_NoNest.ty) rfl)))
       pss_nil)
       (pss_one (ps_set (i := 2) sc_at_path.nd rfl (Or.inl rfl) (pe_ix ix_seq (pe_ix ix_tup (pv 2) pe_int (fun _ _ => rfl)) (pv 3) (fun _ _ => rfl)))))))
       (pss_cons (ps_if (pt_not (pt_val (pe_callB call_isi rfl T.b_isinstance (by decide +kernel) (pa_cons (pv 2) (pa_cons (pe_bltn (v := .ty "tuple") rfl T.b_tuple (by decide +kernel) rfl) pa_nil)))))
       (pss_one (ps_raise rfl (takes_of rfl rfl rfl rfl) (pmk_own PySem.F.excBase_ValueError T.z_NoNest.x T.g_NoNest T.z_NoNest.kp (raises_own T.z_NoNest.sb T.z_NoNest.ty) rfl)))
       pss_nil)
       (pss_one (ps_ret (pe_tup (pa_cons (pe_ix ix_tup (pv 2) pe_int (fun _ _ => rfl)) (pa_cons (pe_own (ok_copied T 62) hr (by omega) rfl (pa_cons (pe_ix ix_tup (pv 2) pe_int (fun _ _ => rfl)) pa_nil)) pa_nil))))))))), ?_⟩
    rw [st_at_path]
    wtm_at "unf"
    wtm_at "gx"
    cases hU : isT d .tuple with
    | false =>
      refine g_ifC (b := true) (fun Q' q' => ?_) (fun _ => ?_) (fun h => by cases h)
      · wtm_at "unf"
        wtm_at "gx"
        refine g_isU hd ?_
        rw [hU]
        wtm_at "gx"
        exact q'
      · wtm_at "unf"
        wtm_at "gx"
        exact q _ (Same.refl _)
    | true =>
    obtain ⟨tp, ys, ps, rfl, rfl, htp, hy⟩ := dx_tuple hd hU
    have hyl := hy.length
    refine g_ifH (b := ps.isEmpty) (G := fun G => Same H G) (fun Q' q' => ?_) (fun G sG hb => ?_) (fun G sG hb => ?_)
    · wtm_at "unf"
      wtm_at "gx"
      refine g_tup (by show 0 ≤ 100000; decide) fun u G1 nu g1 eu => ?_
      refine g_eqU0 (g1 _ _ htp) eu ?_
      have he : decide (ys = []) = ps.isEmpty := by
        cases ps with
        | nil => have : ys = [] := List.eq_nil_of_length_eq_zero hyl
                 rw [this]; rfl
        | cons e r => rw [decide_eq_false (fun h => by rw [h] at hyl; cases hyl)]; rfl
      rw [he]
      exact ⟨_, rfl, q' _ g1⟩
    · wtm_at "unf"
      wtm_at "gx"
      exact q _ sG
    have hps : walkP (some ds) ps = true := by
      cases ps with
      | nil => cases hb
      | cons e r => exact hp
    wtm_at "unf"
    wtm_at "gx"
    refine g_tup (by show 2 ≤ 100000; decide) fun it H2 nit s2 eit => ?_
    have sA : Same H H2 := sG.trans s2
    wtm_at "gx"
    refine ⟨tp, rfl, ⟨_, st_of (sA _ _ htp)⟩, for_tup ys (fun pre σ G1 => ∃ (iv : V) (y3 : Option V) (stt : Option (List Nd)), σ = [some (V.ref b), some (V.ref tp), some iv, y3] ∧ Same H G1 ∧ walkP stt (ps.drop pre.length) = true ∧
        ((∃ (t b' : Addr) (v0 : V) (xs' : List V) (es : List Nd) (A' : List Addr), stt = some es ∧ iv = .ref t ∧ G1 t = some (.tup [v0, .ref b']) ∧ G1 b' = some (.lst xs') ∧ TrIs G1 xs' es A' ∧ ndOk es) ∨ (stt = none ∧ ∃ c, iv = Tx [c]))) ⟨_, _, some ds, rfl, sA, hps, .inl ⟨it, b, _, xs, ds, A, rfl, rfl, eit, sA _ _ hb0, TrIs.same sA ht, hnd⟩⟩ (fun pre post σ G1 e hv => ?_) (fun pre x post σ G1 e hv => ?_) (fun σ G1 hv => ?_)⟩
    · obtain ⟨iv, y3, stt, rfl, s1, hw, hst⟩ := hv
      exact st_of (s1 _ _ htp)
    · obtain ⟨iv, y3, stt, rfl, s1, hw, hst⟩ := hv
      have hpl : pre.length < ps.length := by rw [← hyl, e]; simp
      have hx : ys[pre.length]? = some x := mid_at e
      have hpd : ps[pre.length]? = some ps[pre.length] := List.getElem?_eq_getElem hpl
      have hdx := dx_same s1 (hy.get hx hpd)
      have hdr : ps.drop pre.length = ps[pre.length] :: ps.drop (pre ++ [x]).length := by
        rw [List.length_append, List.length_singleton]
        exact List.drop_eq_getElem_cons hpl
      rw [hdr] at hw
      generalize ps[pre.length] = dx at hdx hw
      generalize ps.drop (pre ++ [x]).length = rest at hw
      wtm_at "unf"
      refine g_ifC (b := !(isT dx .int) || (isT dx .bool || stt.isNone)) (fun Q' q' => ?_) (fun h => ?_) (fun h => ?_)
      · wtm_at "unf"
        wtm_at "gx"
        refine g_isI hdx ?_
        cases hi : isT dx .int with
        | false =>
          rw [hi] at q'
          wtm_at "gx"
          exact q'
        | true =>
          rw [hi, Bool.not_true, Bool.false_or] at q'
          wtm_at "gx"
          refine g_isB hdx ?_
          cases hbo : isT dx .bool with
          | true =>
            rw [hbo, Bool.true_or] at q'
            wtm_at "gx"
            exact q'
          | false =>
            rw [hbo, Bool.false_or] at q'
            wtm_at "gx"
            rcases hst with ⟨t, b', v0, xs', es, A', rfl, rfl, et, eb, htr, hok⟩ | ⟨rfl, c, rfl⟩
            · wtm_at "gx"
              exact q'
            · wtm_at "gx"
              exact q'
      · wtm_at "unf"
        wtm_at "gx"
        exact q _ s1
      have h' : isT dx .int = true ∧ isT dx .bool = false ∧ stt.isNone = false := by
        cases h1 : isT dx .int <;> cases h2 : isT dx .bool <;> cases h3 : stt.isNone <;> rw [h1, h2, h3] at h <;> first | exact ⟨rfl, rfl, rfl⟩ | cases h
      obtain ⟨z, rfl, rfl⟩ := dx_int hdx h'.1 h'.2.1
      rcases hst with ⟨t, b', v0, xs', es, A', rfl, rfl, et, eb, htr, hok⟩ | ⟨rfl, c, rfl⟩
      · have hxl := htr.len
        wtm_at "unf"
        wtm_at "gx"
        by_cases hz : 0 ≤ z
        · obtain ⟨k, rfl⟩ := Int.eq_ofNat_of_zero_le hz
          by_cases hk : k < xs'.length
          · obtain ⟨vk, hvk⟩ : ∃ vk, xs'[k]? = some vk := ⟨_, List.getElem?_eq_getElem hk⟩
            obtain ⟨dk, B, hdk, htk, _⟩ := TrIs.get htr hvk
            have hokk := mem_ndOk (List.mem_of_getElem? hdk) hok
            have hw2 : (match es[k]? with
              | some (.br _ es) => walkP (some es) rest
              | some _ => walkP none rest
              | none => true) = true := by
              have h : (if (0 : Int) ≤ (k : Int) then (match es[((k : Int)).toNat]? with
                | some (.br _ es) => walkP (some es) rest
                | some _ => walkP none rest
                | none => true) else true) = true := by rw [walkP] at hw; exact hw
              rw [if_pos hz, Int.toNat_natCast] at h
              exact h
            rw [hdk] at hw2
            wtm_at "gx"
            refine .inl (g_ixL (sq_of eb) (atI_of hvk) ?_)
            cases htk with
            | let_ c => exact ⟨_, _, none, rfl, s1, hw2, .inr ⟨rfl, c, rfl⟩⟩
            | num i => rw [ndOk1] at hokk; exact hokk.elim
            | @br t2 b2 o xs2 es2 A2 k1 k2 k3 =>
              rw [ndOk1] at hokk
              exact ⟨_, _, some es2, rfl, s1, hw2, .inl ⟨t2, b2, _, xs2, es2, A2, rfl, rfl, k1, k2, k3, hokk.2⟩⟩
          · wtm_at "gx"
            exact q _ s1
        · wtm_at "gx"
          exact q _ s1
      · cases h'.2.2
    · obtain ⟨iv, y3, stt, rfl, s1, hw, hst⟩ := hv
      rw [hyl, List.drop_length] at hw
      rcases hst with ⟨t, b', v0, xs', es, A', rfl, rfl, et, eb, htr, hok⟩ | ⟨rfl, c, rfl⟩
      · cases hw
      · wtm_at "unf"
        wtm_at "gx"
        exact q _ s1
end
end K08

set_option maxHeartbeats 4000000
namespace K08
open PySem PySem.Spec PyProof.Rows L2 SX Ly
local macro_rules | `(tactic| wtm_at "unf") => `(tactic| (try simp only [tAlt, tMetX, tOwnX, tChain, tSeq, tNext, tBreak, tCont, tDrop, tRet, tRetN, tIfS, tAsg, tAug, tC, tOp, tUn, tNil, tCons, tOwn, tCB, tTest, tB, tAnd, tOr, tNot, tAndV, tOrV, tNotV, tIf, gName, gSub, tBM, tBM0, tM0, tM1, tSl, tPart_eq, tNoPart, tLst_eq, tTup_eq, tRevL_eq, tReplT, tRevS, tDGet_eq, sDPut_eq, tDNewT_eq, tMet, tMak, tFld_eq, sFld_eq, C8.tCut, wipe, tYes, gTup, gCons, gNil, List.set_cons_zero, List.set_cons_succ, if_true, if_false, Bool.false_eq_true, Bool.not_true, Bool.not_false, true_and, reduceIte, cx_K, tFor_eq, tLc_eq, iStr, iList, iTup, iRng1, iRng2, iRng3, iEnum, iZip, tLstRg, tRg1, gLst, RZ.iZipA, iEnumS, iZipS, tDNewK_eq, tDGet2, tDIn, tDNotIn, iKd]))
local macro_rules | `(tactic| wtm_at "unfA") => `(tactic| (try simp only [tAlt, tMetX, tOwnX, tChain, tSeq, tNext, tBreak, tCont, tDrop, tRet, tRetN, tIfS, tAsg, tAug, tC, tOp, tUn, tNil, tCons, tOwn, tCB, tTest, tB, tAnd, tOr, tNot, tIf, gName, gSub, tBM, tBM0, tM0, tM1, tSl, tPart_eq, tNoPart, tLst_eq, tTup_eq, tRevL_eq, tReplT, tRevS, tDGet_eq, sDPut_eq, tDNewT_eq, tMet, tMak, tFld_eq, sFld_eq, C8.tCut, wipe, tYes, gTup, gCons, gNil, List.set_cons_zero, List.set_cons_succ, if_true, if_false, Bool.false_eq_true, Bool.not_true, Bool.not_false, true_and, reduceIte, cx_K, tFor_eq, tLc_eq, iStr, iList, iTup, iRng1, iRng2, iRng3, iEnum, iZip, tLstRg, tRg1, gLst, RZ.iZipA, iEnumS, iZipS, tDNewK_eq, tDGet2, tDIn, tDNotIn, iKd]))
local macro_rules | `(tactic| wtm_at "ne") => `(tactic| first | assumption | (apply Ne.symm; assumption) | (apply ne_new; (· assumption); (· wtm_at "lk")) | (apply Ne.symm; apply ne_new; (· assumption); (· wtm_at "lk")))
local macro_rules | `(tactic| wtm_at "lk") => `(tactic| first | assumption | exact upd_same | (apply Same.get; (· assumption); (· wtm_at "lk")) | (apply But.get; (· assumption); (· wtm_at "ne"); (· wtm_at "lk")))
local macro_rules | `(tactic| wtm_at "sq") => `(tactic| first | assumption | (apply sq_of; wtm_at "lk") | (apply Same.seq; (· assumption); (· wtm_at "sq")) | (apply But.sq; (· assumption); (· wtm_at "ne"); (· wtm_at "sq")))
local macro_rules | `(tactic| wtm_at "fr") => `(tactic| first | assumption | (apply Same.fr; (· assumption); (· wtm_at "sm")) | (apply But.fr; (· assumption); (· wtm_at "sm"); (· wtm_at "ne")))
local macro_rules | `(tactic| wtm_at "sm") => `(tactic| first | exact Same.refl _ | exact But.refl | assumption | (apply Same.tr; (· assumption); (· wtm_at "sm")) | (apply Same.b0; (· assumption); (· wtm_at "sm"); (· wtm_at "fr")) | (apply But.sa; (· assumption); (· wtm_at "sm")) | (apply But.tr; (· assumption); (· wtm_at "sm")) | (apply But.b0; (· assumption); (· wtm_at "sm"); (· wtm_at "fr")) | (apply Same.toBut; wtm_at "sm"))
local macro_rules | `(tactic| wtm_at "sc") => `(tactic| first | exact Int.zero_lt_one | (show (0 : Int) < _; omega) | (show (0 : Int) < _; decide) | exact ⟨by omega, by omega⟩ | exact .inl ⟨by omega, by omega⟩ | exact .inr ⟨by omega, by omega⟩)
local macro_rules | `(tactic| wtm_at "go1") => `(tactic| first | ((with_reducible apply g_var); (· exact rfl)) | with_reducible apply g_I0 | ((with_reducible apply g_I); (· wtm_at "sc")) | with_reducible apply g_U | with_reducible apply g_ipI | ((with_reducible apply g_addT); (· first | omega | (simp; done) | (simp; omega))) | with_reducible apply g_inT | with_reducible apply g_ninT | ((with_reducible apply g_lenT); (· omega)) | with_reducible apply g_findT1 | with_reducible apply g_str | with_reducible apply g_part | with_reducible apply g_intB | ((with_reducible apply g_ixL); (· wtm_at "sq"); (· exact rfl)) | ((with_reducible apply g_setL); (· wtm_at "lk"); (· exact rfl)) | ((with_reducible apply g_eq); (· rfl)) | ((with_reducible apply g_ne); (· rfl)))
local macro_rules | `(tactic| wtm_at "go") => `(tactic| repeat wtm_at "go1")
local macro_rules | `(tactic| wtm_at "lp") => `(tactic| skip)
local macro_rules | `(tactic| wtm_at "om") => `(tactic| first | omega | (simp; done) | (simp; omega) | (simp at *; omega))
local macro_rules | `(tactic| wtm_at "ty") => `(tactic| first | exact ty_str | exact ty_int | exact ty_bl | exact ty_non | (apply ty_lst; wtm_at "lk") | (apply ty_tup; wtm_at "lk"))
local macro_rules | `(tactic| wtm_at "kb") => `(tactic| first | exact kb_str_str | exact kb_str_int | exact kb_str_bool | exact kb_str_list | exact kb_str_tuple | exact kb_int_str | exact kb_int_int | exact kb_int_bool | exact kb_int_list | exact kb_int_tuple | exact kb_bool_str | exact kb_bool_int | exact kb_bool_bool | exact kb_bool_list | exact kb_bool_tuple | exact kb_list_str | exact kb_list_int | exact kb_list_bool | exact kb_list_list | exact kb_list_tuple | exact kb_tuple_str | exact kb_tuple_int | exact kb_tuple_bool | exact kb_tuple_list | exact kb_tuple_tuple | exact kb_NoneType_str | exact kb_NoneType_int | exact kb_NoneType_bool | exact kb_NoneType_list | exact kb_NoneType_tuple | exact kb_dict_str | exact kb_dict_int | exact kb_dict_bool | exact kb_dict_list | exact kb_dict_tuple)
local macro_rules | `(tactic| wtm_at "gx1") => `(tactic| first | ((with_reducible apply g_eqS); (· exact rfl)) | ((with_reducible apply g_neS); (· exact rfl)) | wtm_at "go1" | with_reducible apply g_min2 | with_reducible apply g_max2 | with_reducible apply g_T | with_reducible apply g_F | with_reducible apply g_NT | with_reducible apply g_NF | with_reducible apply g_nT | with_reducible apply g_nF | with_reducible apply g_RT | with_reducible apply g_RF | ((with_reducible apply g_isi); (· wtm_at "ty"); (· wtm_at "kb")) | ((with_reducible apply g_ixAU3); (· wtm_at "lk"); (· exact rfl)) | ((with_reducible apply g_ixAL3); (· wtm_at "lk"); (· exact rfl)) | ((with_reducible apply g_ixU3); (· wtm_at "lk"); (· exact rfl)) | ((with_reducible apply g_lenL3); (· wtm_at "lk")) | ((with_reducible apply g_lenU3); (· wtm_at "lk")) | ((with_reducible apply g_tyL3); (· wtm_at "lk")) | ((with_reducible apply g_lenT); (· wtm_at "pv")) | wtm_at "tr" | with_reducible apply g_ET | with_reducible apply g_EF | with_reducible apply g_EnT | with_reducible apply g_EnF)
local macro_rules | `(tactic| wtm_at "pv") => `(tactic| first | exact rfl | assumption | omega | (simp; done) | (simp; omega))
local macro_rules | `(tactic| wtm_at "tr") => `(tactic| first | ((with_reducible apply g_Td); (· wtm_at "pv")) | ((with_reducible apply g_Fd); (· wtm_at "pv")) | ((with_reducible apply g_NTd); (· wtm_at "pv")) | ((with_reducible apply g_NFd); (· wtm_at "pv")) | ((with_reducible apply g_nTd); (· wtm_at "pv")) | ((with_reducible apply g_nFd); (· wtm_at "pv")) | ((with_reducible apply g_RTd); (· wtm_at "pv")) | ((with_reducible apply g_RFd); (· wtm_at "pv")))
local macro_rules | `(tactic| wtm_at "gx") => `(tactic| repeat wtm_at "gx1")
local macro_rules | `(tactic| wtm_at "unfS") => `(tactic| (try simp only [tSeq, tNext, tAsg, tFor_eq, C8.tCut, wipe, gName, tDrop, List.set_cons_zero, List.set_cons_succ, cx_K]))
local macro_rules | `(tactic| wtm_at "rd1") => `(tactic| first | exact rd_int | exact rd_str | exact rd_bl | exact rd_non | exact rda_nil | apply rda_cons | (with_reducible apply rd_tup; (· assumption)) | (with_reducible apply rd_lst; (· assumption)) | exact rd_dic (by assumption) | exact rd_var rfl (.int _) | exact rd_var rfl (.str _) | exact rd_var rfl (.bl _) | exact rd_var rfl (by assumption) | (with_reducible apply rd_cat; (· assumption)) | (with_reducible apply rd_rep2; (· assumption)) | (with_reducible apply rd_rev; (· assumption)) | (with_reducible apply rd_to; (· assumption)) | (with_reducible apply rd_from; (· assumption)) | (with_reducible apply rd_tupOf; (· assumption)) | (with_reducible apply rd_lstOf; (· assumption)) | with_reducible apply rd_lenL | with_reducible apply rd_lenT | with_reducible apply rd_I0 | with_reducible apply rd_I | with_reducible apply rd_U | with_reducible apply rd_eqI | with_reducible apply rd_ixL | with_reducible apply rd_ixT | exact atI_hd _ _ | exact ‹atI _ _ = some _›)
local macro_rules | `(tactic| wtm_at "rdl") => `(tactic| first | decide | omega | wtm_at "sc" | (simp only [List.length_append, List.length_cons, List.length_nil, List.length_map, List.length_take, List.length_drop, List.length_reverse, cutTo]; omega))
local macro_rules | `(tactic| wtm_at "rd") => `(tactic| ((repeat' wtm_at "rd1"); (all_goals wtm_at "rdl")))
local macro_rules | `(tactic| wtm_at "nc") => `(tactic| repeat' (first | assumption | exact nca_nil | exact nc_non | exact nc_bl | exact nc_dic | exact nc_tup0 | exact nc_lst0 | (refine nc_strS (by decide) (by decide)) | (refine nc_int (by omega)) | (refine nc_big (by decide +kernel)) | refine nca_app ?_ ?_ | refine nca_cons ?_ ?_ | refine nca_take ?_ | refine nca_drop ?_ | refine nca_cutTo ?_ | refine nca_rev ?_ | refine nc_tup (by decide) ?_ | refine nc_lst (by decide) ?_ | refine nc_lst (Nat.le_trans (show _ ≤ 45 by wtm_at "rdl") (by decide)) ?_ | refine nc_tup (Nat.le_trans (show _ ≤ 45 by wtm_at "rdl") (by decide)) ?_))

section
variable {P : Program} {w : World} {K : PySem.W.Frag} {mg : Str → Option Value} {base : Heap}
/-! _law_which -/
def sp_law_which (K : PySem.W.Frag) : Sp := fun vs H Q _ => ∃ a : Addr, vs = [.ref a] ∧ H a = some (ExK (He.ga K "NoNest") a) ∧ ∀ H', Same H H' → Q (.bl true) H'
theorem ok_law_which (T : Facts K mg) : C8.Cal P w K mg base 1 "_law_which" (sp_law_which K) [] := by
  refine calD T.f_law_which sc_law_which (fun vs H Q E h => ?_) (fun f cdv A outer s H vs Q E hr h => ?_)
  · obtain ⟨a, rfl, ha, q⟩ := h; rfl
  · obtain ⟨a, rfl, ha, q⟩ := h
    refine ⟨_, (pss_cons (ps_if (pt_val (pe_callB call_isKT rfl T.b_isinstance (by decide +kernel) (pa_cons (pv 0) (pa_cons (pe_tup (pa_cons (C8.pe_gc rfl T.c_NoDeeds) (pa_cons (C8.pe_gc rfl T.c_NoNumber) (pa_cons (C8.pe_gc rfl T.c_NoRow) (pa_cons (C8.pe_gc rfl T.c_NoSign) (pa_cons (C8.pe_gc rfl T.c_NoWriting) pa_nil)))))) pa_nil))))
       (pss_one (ps_ret pe_bl))
       pss_nil)
       (pss_one (ps_ret (pe_and (pe_callB call_isK rfl T.b_isinstance (by decide +kernel) (pa_cons (pv 0) (pa_cons (C8.pe_gc rfl T.c_NoNest) pa_nil))) (pe_one (pe_callB call_isK rfl T.b_isinstance (by decide +kernel) (pa_cons (pv 0) (pa_cons (pe_bltn (v := .ty "ValueError") rfl T.b_ValueError (by decide +kernel) rfl) pa_nil)))))))), ?_⟩
    rw [st_law_which]
    wtm_at "unf"
    wtm_at "gx"
    refine g_tup (by show 5 ≤ 100000; decide) fun tp H3 ntp s3 etp => ?_
    have e3 := s3 _ _ ha
    refine g_isKT (b := false) etp (.cons (.own _) (.cons (.own _) (.cons (.own _) (.cons (.own _) (.cons (.own _) .nil))))) e3 T.z_NoNest.ec (kitAny_cons T.kk_NoNest_NoDeeds (fun _ => kitAny_cons T.kk_NoNest_NoNumber (fun _ => kitAny_cons T.kk_NoNest_NoRow (fun _ => kitAny_cons T.kk_NoNest_NoSign (fun _ => kitAny_cons T.kk_NoNest_NoWriting (fun _ => kitAny_nil) (fun h => by cases h)) (fun h => by cases h)) (fun h => by cases h)) (fun h => by cases h)) (fun h => by cases h)) ?_
    wtm_at "gx"
    refine g_isK (.own _) e3 T.z_NoNest.ec T.kk_NoNest_NoNest ?_
    wtm_at "gx"
    refine g_isK (.ty _) e3 T.z_NoNest.ec T.kv_NoNest ?_
    exact q _ s3
/-! _law_is_clean -/
def sp_law_is_clean : Sp := fun vs H Q _ => ∃ l : List Nat, vs = [Tx l] ∧ l.length ≤ 1000 ∧ ∀ H', Same H H' → Q (.bl (decide (clean l))) H'
theorem ok_law_is_clean (T : Facts K mg) : C8.Cal P w K mg base 1 "_law_is_clean" sp_law_is_clean [] := by
  refine calD T.f_law_is_clean sc_law_is_clean (fun vs H Q E h => ?_) (fun f cdv A outer s H vs Q E hr h => ?_)
  · obtain ⟨l, rfl, hl, q⟩ := h; rfl
  · obtain ⟨l, rfl, hl, q⟩ := h
    refine ⟨_, (pss_cons (ps_set (i := 1) sc_law_is_clean.nd rfl (Or.inl rfl) (pe_m1 PySem.F.slot_str_join PySem.F.type_str_join mt_joinT (pe_strS (l := []) (by decide +kernel)) (pe_lc (own := [("sign", 4)]) (by rfl) sc_law_is_clean.nd (pi_str (pv 0)) (blkOk_by (own := [("sign", 4)]) (N := N_law_is_clean) (sc := defScope s_law_is_clean) (by decide +kernel)) (fun _ _ _ _ _ => (pg_name (i := 4) sc_law_is_clean.nd rfl (Or.inl rfl))) (fun _ _ _ _ _ => (pts_one (pt_cmpR op_inT (pv 4) (pe_strS (l := BRK) (by decide +kernel)) (by rfl)))) (fun _ _ _ _ _ => (pv 4)))))
       (pss_cons (ps_set (i := 2) sc_law_is_clean.nd rfl (Or.inl rfl) pe_non)
       (pss_cons (ps_while PassesOwn.never (pt_cmpR op_ne (pv 1) (pv 2) (nomark _))
       (pss_asgT (i := 2) sc_law_is_clean.nd rfl rfl (pv 1) (CwR.psst_one (pst_rm (ik := 1) (ip := 3) PassesOwn.never rfl sc_law_is_clean.nd rfl rfl rfl rfl (by decide) (by decide +kernel) (by decide +kernel) (by decide +kernel) (by decide +kernel) (by decide +kernel) (by decide) (by decide) (by decide)))))
       (pss_one (ps_ret (pe_cmpR op_eq (pv 1) (pe_strS (l := []) (by decide +kernel)) (nomark _))))))), ?_⟩
    rw [st_law_is_clean]
    wtm_at "unf"
    wtm_at "go"
    refine ⟨_, rfl, lc_txt fun d H10 nd s10 ed => ⟨fun pre H11 => H11 d = some (.lst (sgV (pre.filter fun c => decide (c ∈ BRK)))) ∧ Same H H11, ⟨ed, s10⟩, fun pre c post H11 e hv => ?_, fun H11 hv => ?_⟩⟩
    · obtain ⟨e11, s11⟩ := hv
      have hpl : pre.length < 1000 := by rw [e] at hl; simp at hl; omega
      have hfl := List.length_filter_le (fun c => decide (c ∈ BRK)) pre
      wtm_at "unf"
      refine ⟨rfl, ?_⟩
      wtm_at "go"
      refine g_test (fun h => ?_) (fun h => ?_)
      · wtm_at "go"
        refine lc_put (acc := sgV (pre.filter fun c => decide (c ∈ BRK))) e11 (by rw [sgV_len]; omega) fun H12 b12 e12 => ?_
        rw [← sgV_snoc] at e12
        refine ⟨?_, by wtm_at "sm"⟩
        rw [List.filter_append, List.filter_cons_of_pos (by simpa using h)]
        exact e12
      · refine ⟨?_, s11⟩
        rw [List.filter_append, List.filter_cons_of_neg (by simpa using h)]
        simpa using e11
    · obtain ⟨e11, s11⟩ := hv
      have hfl := List.length_filter_le (fun c => decide (c ∈ BRK)) l
      have hfb : allB (l.filter fun c => decide (c ∈ BRK)) := fun c hc => by simpa using (List.mem_filter.mp hc).2
      have hfc := clean_only l
      refine g_join0 (sq_of e11) (by omega) ?_
      generalize l.filter (fun c => decide (c ∈ BRK)) = r0 at hfl hfb hfc
      refine g_while (fun m σ H2 => ∃ (r : List Nat) (av : V) (y : Option V), σ = [some (Tx l), some (Tx r), some av, y, none] ∧ Same H H2 ∧ allB r ∧ (clean r ↔ clean l) ∧ r.length ≤ 1000 ∧ ((av = V.non ∧ m = r.length + 1) ∨ ∃ b, av = Tx b ∧ r = rm4 b ∧ m = b.length ∧ allB b ∧ (clean b ↔ clean l))) _ ⟨r0, V.non, _, rfl, s11, hfb, hfc, by omega, .inl ⟨rfl, rfl⟩⟩ (fun m σ H2 hw => ?_)
      obtain ⟨r, av, y, rfl, s2, hb, hcl, hrl, hav⟩ := hw
      have body : ∀ m, (∀ m', m' = r.length → m' < m) → ∀ av : V, WhB (tSeq (tAsg (tVar 1) (gName 2)) (tRm 1 3)) { nx := tRet (tOp rEq (tVar 1) (tC (Tx []))) { nx := fun x H' => Q V.non H', rt := Q }, rt := Q } (fun m σ H2 => ∃ (r : List Nat) (av : V) (y : Option V), σ = [some (Tx l), some (Tx r), some av, y, none] ∧ Same H H2 ∧ allB r ∧ (clean r ↔ clean l) ∧ r.length ≤ 1000 ∧ ((av = V.non ∧ m = r.length + 1) ∨ ∃ b, av = Tx b ∧ r = rm4 b ∧ m = b.length ∧ allB b ∧ (clean b ↔ clean l))) m [some (Tx l), some (Tx r), some av, y, none] H2 := by
        intro m hm av
        refine g_whb ?_
        obtain ⟨r1, r2, r3⟩ := rm4_le r
        wtm_at "unf"
        wtm_at "go"
        refine ⟨r, rfl, hrl, fun H3 s3 => ?_⟩
        exact ⟨r.length, hm _ rfl, rm4 r, Tx r, _, rfl, s2.trans s3, fun c hc => hb c (r3 c hc), (rm4_clean r).trans hcl, by omega, .inr ⟨r, rfl, rfl, rfl, hb, hcl⟩⟩
      rcases hav with ⟨rfl, rfl⟩ | ⟨b, rfl, hrb, rfl, hbb, hbc⟩
      · wtm_at "unf"
        wtm_at "go"
        refine ⟨true, rfl, ?_⟩
        exact body _ (by omega) _
      · wtm_at "unf"
        wtm_at "go"
        obtain ⟨r1, r2, r3⟩ := rm4_le b
        refine g_testN (fun h => ?_) (fun h => ?_)
        · have hne : r ≠ b := fun h' => h (by rw [h'])
          refine body _ (fun m' hm' => ?_) _
          rw [hm', hrb]
          rcases Nat.lt_or_ge (rm4 b).length b.length with h' | h'
          · exact h'
          · exfalso
            have h2 := r2 (by omega)
            apply hne
            rw [hrb]
            unfold rm4
            rw [h2 40 (by decide), h2 60 (by decide), h2 91 (by decide), h2 123 (by decide)]
        · have hrb2 : r = b := Tx_inj.mp h
          wtm_at "unf"
          wtm_at "go"
          have hend := rm4_end hb (by rw [hrb2, ← hrb, hrb2])
          have hh : decide (Tx r = Tx []) = decide (clean l) := by
            rw [decide_eq_decide, Tx_inj, ← hcl, hend]
          rw [hh]
          exact q H2 s2
/-! _law_refused -/
def sp_law_refused (K : PySem.W.Frag) : Sp := fun vs H Q _ => ∃ (y : Int) (v u : V) (d e : PyData), vs = [.int y, v, u] ∧ Dx H v d ∧ Dx H u e ∧ Rs (.list [d, e]) ∧
  ((y = 0 ∧ ∃ l : List Nat, v = Tx l ∧ l.length ≤ 1000 ∧ ¬ clean l) ∨ (y = 1 ∧ isN 60 d = false ∧ gd d = true ∧ wt d ≤ 16000000) ∨ (y = 2 ∧ ∃ (b : Addr) (xs : List V) (ds : List Nd) (A : List Addr), v = .ref b ∧ H b = some (.lst xs) ∧ TrIs H xs ds A ∧ ndOk ds ∧ pathBad ds e = true)) ∧ ∀ H', Same H H' → Q (.bl true) H'
theorem ok_law_refused (T : Facts K mg) : CalG P w K mg base 67 "_law_refused" (sp_law_refused K) := by
  refine calDG T.f_law_refused sc_law_refused (fun vs H Q E h => ?_) (fun f cdv A outer s H vs Q E hr hgd h => ?_)
  · obtain ⟨y, v, u, d, e, rfl, hd, hu, hT, hc, q⟩ := h; rfl
  · obtain ⟨y, v, u, d, e, rfl, hd, hu, hT, hc, q⟩ := h
    refine ⟨_, (pss_cons (ps_set (i := 3) sc_law_refused.nd rfl (Or.inl rfl) (pe_callB (call_reprS (by exact hgd) (Ly.Room.wide hr)) rfl T.b_repr (by decide +kernel) (pa_cons (pe_lst (pa_cons (pv 1) (pa_cons (pv 2) pa_nil))) pa_nil)))
       (pss_cons (ps_set (i := 4) sc_law_refused.nd rfl (Or.inl rfl) pe_non)
       (pss_cons (ps_try_keep (i := 5) rfl rfl rfl sc_law_refused.nd rfl rfl ⟨rfl, by decide, .inl T.g_MendError⟩ takes0 (fun W pn xe tk po => (pss_one (ps_if (pt_cmpR op_eq (pv 0) pe_int (nomark _))
       (pss_one (ps_expr (pe_ownX (okx_nest_of T) hr (by omega) rfl tk (pa_cons (pv 1) pa_nil))))
       (pss_one (ps_if (pt_cmpR op_eq (pv 0) pe_int (nomark _))
       (pss_one (ps_expr (pe_ownX (okx_text_of T) hr (by omega) rfl tk (pa_cons (pv 1) pa_nil))))
       (pss_one (ps_expr (pe_ownX (okx_at_path T) hr (by omega) rfl tk (pa_cons (pv 1) (pa_cons (pv 2) pa_nil)))))))))) (fun a oe cls d pn _ _ => (pss_one (ps_set (i := 4) sc_law_refused.nd rfl (Or.inl rfl) (pv 5)))))
       (pss_one (ps_ret (pe_and (pe_own (ok_law_which T) hr (by omega) rfl (pa_cons (pv 4) pa_nil)) (pe_one (pe_cmpR op_eq (pe_callB (call_reprS (by exact hgd) (Ly.Room.wide hr)) rfl T.b_repr (by decide +kernel) (pa_cons (pe_lst (pa_cons (pv 1) (pa_cons (pv 2) pa_nil))) pa_nil)) (pv 3) (nomark _))))))))), ?_⟩
    rw [st_law_refused]
    wtm_at "unf"
    wtm_at "gx"
    refine g_lst (by show 2 ≤ 100000; decide) fun l0 H1 n0 s1 e0 => ?_
    have hd1 := dx_same s1 hd
    have hu1 := dx_same s1 hu
    refine g_reprS (.lst e0 (.cons hd1 (.cons hu1 .nil))) hT ?_
    wtm_at "gx"
    rcases hc with ⟨rfl, l, rfl, hl, hcl⟩ | ⟨rfl, hn, hg, hw⟩ | ⟨rfl, b, xs, ds, A, rfl, eb, htr, hok, hbad⟩
    · wtm_at "gx"
      refine ⟨l, rfl, hl, hcl, fun H2 s2 => ?_⟩
      refine ⟨true, T.z_NoNest.em, fun _ => ⟨_, rfl, rfl, fun ea nea => ?_⟩, fun h => by cases h⟩
      wtm_at "unf"
      wtm_at "gx"
      intro H3 n3 s3 e3
      wtm_at "unf"
      wtm_at "gx"
      refine ⟨ea, rfl, e3, fun H4 s4 => ?_⟩
      wtm_at "gx"
      refine g_lst (by show 2 ≤ 100000; decide) fun l5 H5 n5 s5 e5 => ?_
      have S : Same H H5 := s1.trans (s2.trans (s3.trans (s4.trans s5)))
      refine g_reprS (.lst e5 (.cons (dx_same S hd) (.cons (dx_same S hu) .nil))) hT ?_
      wtm_at "gx"
      exact q _ S
    · wtm_at "gx"
      refine ⟨v, d, rfl, hd1, hg, hw, hn, fun H2 s2 => ?_⟩
      refine ⟨true, T.z_NoNest.em, fun _ => ⟨_, rfl, rfl, fun ea nea => ?_⟩, fun h => by cases h⟩
      wtm_at "unf"
      wtm_at "gx"
      intro H3 n3 s3 e3
      wtm_at "unf"
      wtm_at "gx"
      refine ⟨ea, rfl, e3, fun H4 s4 => ?_⟩
      wtm_at "gx"
      refine g_lst (by show 2 ≤ 100000; decide) fun l5 H5 n5 s5 e5 => ?_
      have S : Same H H5 := s1.trans (s2.trans (s3.trans (s4.trans s5)))
      refine g_reprS (.lst e5 (.cons (dx_same S hd) (.cons (dx_same S hu) .nil))) hT ?_
      wtm_at "gx"
      exact q _ S
    · wtm_at "gx"
      refine ⟨b, xs, ds, A, u, e, rfl, s1 _ _ eb, TrIs.same s1 htr, hok, hu1, hbad, fun H2 s2 => ?_⟩
      refine ⟨true, T.z_NoNest.em, fun _ => ⟨_, rfl, rfl, fun ea nea => ?_⟩, fun h => by cases h⟩
      wtm_at "unf"
      wtm_at "gx"
      intro H3 n3 s3 e3
      wtm_at "unf"
      wtm_at "gx"
      refine ⟨ea, rfl, e3, fun H4 s4 => ?_⟩
      wtm_at "gx"
      refine g_lst (by show 2 ≤ 100000; decide) fun l5 H5 n5 s5 e5 => ?_
      have S : Same H H5 := s1.trans (s2.trans (s3.trans (s4.trans s5)))
      refine g_reprS (.lst e5 (.cons (dx_same S hd) (.cons (dx_same S hu) .nil))) hT ?_
      wtm_at "gx"
      exact q _ S
end
end K08

set_option maxHeartbeats 4000000
namespace K08
open PySem PySem.Spec PyProof.Rows L2 SX Ly
local macro_rules | `(tactic| wtm_at "unf") => `(tactic| (try simp only [tAlt, tMetX, tOwnX, tChain, tSeq, tNext, tBreak, tCont, tDrop, tRet, tRetN, tIfS, tAsg, tAug, tC, tOp, tUn, tNil, tCons, tOwn, tCB, tTest, tB, tAnd, tOr, tNot, tAndV, tOrV, tNotV, tIf, gName, gSub, tBM, tBM0, tM0, tM1, tSl, tPart_eq, tNoPart, tLst_eq, tTup_eq, tRevL_eq, tReplT, tRevS, tDGet_eq, sDPut_eq, tDNewT_eq, tMet, tMak, tFld_eq, sFld_eq, C8.tCut, wipe, tYes, gTup, gCons, gNil, List.set_cons_zero, List.set_cons_succ, if_true, if_false, Bool.false_eq_true, Bool.not_true, Bool.not_false, true_and, reduceIte, cx_K, tFor_eq, tLc_eq, iStr, iList, iTup, iRng1, iRng2, iRng3, iEnum, iZip, tLstRg, tRg1, gLst, RZ.iZipA, iEnumS, iZipS, tDNewK_eq, tDGet2, tDIn, tDNotIn, iKd]))
local macro_rules | `(tactic| wtm_at "unfA") => `(tactic| (try simp only [tAlt, tMetX, tOwnX, tChain, tSeq, tNext, tBreak, tCont, tDrop, tRet, tRetN, tIfS, tAsg, tAug, tC, tOp, tUn, tNil, tCons, tOwn, tCB, tTest, tB, tAnd, tOr, tNot, tIf, gName, gSub, tBM, tBM0, tM0, tM1, tSl, tPart_eq, tNoPart, tLst_eq, tTup_eq, tRevL_eq, tReplT, tRevS, tDGet_eq, sDPut_eq, tDNewT_eq, tMet, tMak, tFld_eq, sFld_eq, C8.tCut, wipe, tYes, gTup, gCons, gNil, List.set_cons_zero, List.set_cons_succ, if_true, if_false, Bool.false_eq_true, Bool.not_true, Bool.not_false, true_and, reduceIte, cx_K, tFor_eq, tLc_eq, iStr, iList, iTup, iRng1, iRng2, iRng3, iEnum, iZip, tLstRg, tRg1, gLst, RZ.iZipA, iEnumS, iZipS, tDNewK_eq, tDGet2, tDIn, tDNotIn, iKd]))
local macro_rules | `(tactic| wtm_at "ne") => `(tactic| first | assumption | (apply Ne.symm; assumption) | (apply ne_new; (· assumption); (· wtm_at "lk")) | (apply Ne.symm; apply ne_new; (· assumption); (· wtm_at "lk")))
local macro_rules | `(tactic| wtm_at "lk") => `(tactic| first | assumption | exact upd_same | (apply Same.get; (· assumption); (· wtm_at "lk")) | (apply But.get; (· assumption); (· wtm_at "ne"); (· wtm_at "lk")))
local macro_rules | `(tactic| wtm_at "sq") => `(tactic| first | assumption | (apply sq_of; wtm_at "lk") | (apply Same.seq; (· assumption); (· wtm_at "sq")) | (apply But.sq; (· assumption); (· wtm_at "ne"); (· wtm_at "sq")))
local macro_rules | `(tactic| wtm_at "fr") => `(tactic| first | assumption | (apply Same.fr; (· assumption); (· wtm_at "sm")) | (apply But.fr; (· assumption); (· wtm_at "sm"); (· wtm_at "ne")))
local macro_rules | `(tactic| wtm_at "sm") => `(tactic| first | exact Same.refl _ | exact But.refl | assumption | (apply Same.tr; (· assumption); (· wtm_at "sm")) | (apply Same.b0; (· assumption); (· wtm_at "sm"); (· wtm_at "fr")) | (apply But.sa; (· assumption); (· wtm_at "sm")) | (apply But.tr; (· assumption); (· wtm_at "sm")) | (apply But.b0; (· assumption); (· wtm_at "sm"); (· wtm_at "fr")) | (apply Same.toBut; wtm_at "sm"))
local macro_rules | `(tactic| wtm_at "sc") => `(tactic| first | exact Int.zero_lt_one | (show (0 : Int) < _; omega) | (show (0 : Int) < _; decide) | exact ⟨by omega, by omega⟩ | exact .inl ⟨by omega, by omega⟩ | exact .inr ⟨by omega, by omega⟩)
local macro_rules | `(tactic| wtm_at "go1") => `(tactic| first | ((with_reducible apply g_var); (· exact rfl)) | with_reducible apply g_I0 | ((with_reducible apply g_I); (· wtm_at "sc")) | with_reducible apply g_U | with_reducible apply g_ipI | ((with_reducible apply g_addT); (· first | omega | (simp; done) | (simp; omega))) | with_reducible apply g_inT | with_reducible apply g_ninT | ((with_reducible apply g_lenT); (· omega)) | with_reducible apply g_findT1 | with_reducible apply g_str | with_reducible apply g_part | with_reducible apply g_intB | ((with_reducible apply g_ixL); (· wtm_at "sq"); (· exact rfl)) | ((with_reducible apply g_setL); (· wtm_at "lk"); (· exact rfl)) | ((with_reducible apply g_eq); (· rfl)) | ((with_reducible apply g_ne); (· rfl)))
local macro_rules | `(tactic| wtm_at "go") => `(tactic| repeat wtm_at "go1")
local macro_rules | `(tactic| wtm_at "lp") => `(tactic| skip)
local macro_rules | `(tactic| wtm_at "om") => `(tactic| first | omega | (simp; done) | (simp; omega) | (simp at *; omega))
local macro_rules | `(tactic| wtm_at "ty") => `(tactic| first | exact ty_str | exact ty_int | exact ty_bl | exact ty_non | (apply ty_lst; wtm_at "lk") | (apply ty_tup; wtm_at "lk"))
local macro_rules | `(tactic| wtm_at "kb") => `(tactic| first | exact kb_str_str | exact kb_str_int | exact kb_str_bool | exact kb_str_list | exact kb_str_tuple | exact kb_int_str | exact kb_int_int | exact kb_int_bool | exact kb_int_list | exact kb_int_tuple | exact kb_bool_str | exact kb_bool_int | exact kb_bool_bool | exact kb_bool_list | exact kb_bool_tuple | exact kb_list_str | exact kb_list_int | exact kb_list_bool | exact kb_list_list | exact kb_list_tuple | exact kb_tuple_str | exact kb_tuple_int | exact kb_tuple_bool | exact kb_tuple_list | exact kb_tuple_tuple | exact kb_NoneType_str | exact kb_NoneType_int | exact kb_NoneType_bool | exact kb_NoneType_list | exact kb_NoneType_tuple | exact kb_dict_str | exact kb_dict_int | exact kb_dict_bool | exact kb_dict_list | exact kb_dict_tuple)
local macro_rules | `(tactic| wtm_at "gx1") => `(tactic| first | ((with_reducible apply g_eqS); (· exact rfl)) | ((with_reducible apply g_neS); (· exact rfl)) | wtm_at "go1" | with_reducible apply g_min2 | with_reducible apply g_max2 | with_reducible apply g_T | with_reducible apply g_F | with_reducible apply g_NT | with_reducible apply g_NF | with_reducible apply g_nT | with_reducible apply g_nF | with_reducible apply g_RT | with_reducible apply g_RF | ((with_reducible apply g_isi); (· wtm_at "ty"); (· wtm_at "kb")) | ((with_reducible apply g_ixAU3); (· wtm_at "lk"); (· exact rfl)) | ((with_reducible apply g_ixAL3); (· wtm_at "lk"); (· exact rfl)) | ((with_reducible apply g_ixU3); (· wtm_at "lk"); (· exact rfl)) | ((with_reducible apply g_lenL3); (· wtm_at "lk")) | ((with_reducible apply g_lenU3); (· wtm_at "lk")) | ((with_reducible apply g_tyL3); (· wtm_at "lk")) | ((with_reducible apply g_lenT); (· wtm_at "pv")) | wtm_at "tr" | with_reducible apply g_ET | with_reducible apply g_EF | with_reducible apply g_EnT | with_reducible apply g_EnF)
local macro_rules | `(tactic| wtm_at "pv") => `(tactic| first | exact rfl | assumption | omega | (simp; done) | (simp; omega))
local macro_rules | `(tactic| wtm_at "tr") => `(tactic| first | ((with_reducible apply g_Td); (· wtm_at "pv")) | ((with_reducible apply g_Fd); (· wtm_at "pv")) | ((with_reducible apply g_NTd); (· wtm_at "pv")) | ((with_reducible apply g_NFd); (· wtm_at "pv")) | ((with_reducible apply g_nTd); (· wtm_at "pv")) | ((with_reducible apply g_nFd); (· wtm_at "pv")) | ((with_reducible apply g_RTd); (· wtm_at "pv")) | ((with_reducible apply g_RFd); (· wtm_at "pv")))
local macro_rules | `(tactic| wtm_at "gx") => `(tactic| repeat wtm_at "gx1")
local macro_rules | `(tactic| wtm_at "unfS") => `(tactic| (try simp only [tSeq, tNext, tAsg, tFor_eq, C8.tCut, wipe, gName, tDrop, List.set_cons_zero, List.set_cons_succ, cx_K]))
local macro_rules | `(tactic| wtm_at "rd1") => `(tactic| first | exact rd_int | exact rd_str | exact rd_bl | exact rd_non | exact rda_nil | apply rda_cons | (with_reducible apply rd_tup; (· assumption)) | (with_reducible apply rd_lst; (· assumption)) | exact rd_dic (by assumption) | exact rd_var rfl (.int _) | exact rd_var rfl (.str _) | exact rd_var rfl (.bl _) | exact rd_var rfl (by assumption) | (with_reducible apply rd_cat; (· assumption)) | (with_reducible apply rd_rep2; (· assumption)) | (with_reducible apply rd_rev; (· assumption)) | (with_reducible apply rd_to; (· assumption)) | (with_reducible apply rd_from; (· assumption)) | (with_reducible apply rd_tupOf; (· assumption)) | (with_reducible apply rd_lstOf; (· assumption)) | with_reducible apply rd_lenL | with_reducible apply rd_lenT | with_reducible apply rd_I0 | with_reducible apply rd_I | with_reducible apply rd_U | with_reducible apply rd_eqI | with_reducible apply rd_ixL | with_reducible apply rd_ixT | exact atI_hd _ _ | exact ‹atI _ _ = some _›)
local macro_rules | `(tactic| wtm_at "rdl") => `(tactic| first | decide | omega | wtm_at "sc" | (simp only [List.length_append, List.length_cons, List.length_nil, List.length_map, List.length_take, List.length_drop, List.length_reverse, cutTo]; omega))
local macro_rules | `(tactic| wtm_at "rd") => `(tactic| ((repeat' wtm_at "rd1"); (all_goals wtm_at "rdl")))
local macro_rules | `(tactic| wtm_at "nc") => `(tactic| repeat' (first | assumption | exact nca_nil | exact nc_non | exact nc_bl | exact nc_dic | exact nc_tup0 | exact nc_lst0 | (refine nc_strS (by decide) (by decide)) | (refine nc_int (by omega)) | (refine nc_big (by decide +kernel)) | refine nca_app ?_ ?_ | refine nca_cons ?_ ?_ | refine nca_take ?_ | refine nca_drop ?_ | refine nca_cutTo ?_ | refine nca_rev ?_ | refine nc_tup (by decide) ?_ | refine nc_lst (by decide) ?_ | refine nc_lst (Nat.le_trans (show _ ≤ 45 by wtm_at "rdl") (by decide)) ?_ | refine nc_tup (Nat.le_trans (show _ ≤ 45 by wtm_at "rdl") (by decide)) ?_))

section
variable {P : Program} {w : World} {K : PySem.W.Frag} {mg : Str → Option Value} {base : Heap}
/-- small things, at most n -/
def badI : PyData → Bool
  | .tuple [.str z, .list es] => !oneB z OPN || (!es.isEmpty && !es.all okT)
  | .str z => !oneB z LET
  | _ => true
/-- the two nests that are passed over -/
def isAE : PyData → Bool
  | .list [] => true
  | .list [.str z] => decide (z = S [97])
  | _ => false
def topB (d : PyData) : Bool := !isN 60 d || isAE d
theorem badI_it {d : PyData} (h : badI d = true) (n : Nat) : itN (isN n) d = false := by
  unfold badI at h
  split at h
  · rename_i z es
    show (oneB z OPN && isN n (.list es)) = false
    rw [Bool.or_eq_true] at h
    rcases h with h | h
    · rw [show oneB z OPN = false by simpa using h]; rfl
    · rw [Bool.and_eq_true] at h
      have h2 : es.all okT = false := by simpa using h.2
      have h1 : es.isEmpty = false := by simpa using h.1
      have : isN n (.list es) = false := by
        rw [isN_one, show okL n (.list es) = ((es.isEmpty || decide (0 < n)) && es.all okT) from rfl, h2, Bool.and_false]
        rfl
      rw [this, Bool.and_false]
  · rename_i z
    show oneB z LET = false
    simpa using h
  · rename_i h1 h2
    cases d with
    | tuple ds =>
      by_cases hl : ds.length = 2
      · match ds, hl with
        | [a, b], _ =>
          rw [itN_two]
          cases ha : isT a .str with
          | false => rw [oneX_not ha]; rfl
          | true =>
            have : ∃ z, a = .str z := by
              cases a with
              | str z => exact ⟨z, rfl⟩
              | _ => cases ha
            obtain ⟨z, rfl⟩ := this
            cases hb : isT b .list with
            | false => rw [isN_not hb, Bool.and_false]
            | true =>
              cases b with
              | list es => exact absurd rfl (h1 z es)
              | _ => cases hb
      · exact itN_len hl
    | str z => exact absurd rfl (h2 z)
    | _ => rfl
def smB (d : PyData) : Bool := (gd d && (decide (wt d ≤ 3000) && decide (PyData.depth d ≤ 6))) && (badI d && topB d)
theorem sm_bad {d : PyData} (h : smB d = true) : badI d = true ∧ topB d = true := by
  unfold smB at h
  rw [Bool.and_eq_true (a := gd d && _), Bool.and_eq_true (a := badI d)] at h
  exact h.2
def NsT (ds : List PyData) (n : Nat) : Prop := ds.all smB = true ∧ ds.length ≤ n
theorem nst_app {ds es : List PyData} (h : ds.all smB = true) (k : es.all smB = true) : (ds ++ es).all smB = true := by rw [List.all_append, h, k]; rfl
theorem sm_th {d : PyData} (h : smB d = true) : Th d 3000 6 := by
  unfold smB at h
  simp only [Bool.and_eq_true] at h
  exact ⟨h.1.1, of_decide_eq_true h.1.2.1, of_decide_eq_true h.1.2.2⟩
def ODD6 : List Nat := [33, 34, 35, 36, 38, 39, 42, 43, 44, 45, 46, 47, 48, 49, 50, 51, 52, 53, 54, 55, 56, 57, 58, 59, 61, 63, 64, 65, 66, 67, 68, 69, 70, 71, 72, 73, 74, 75, 76, 77, 78, 79, 80, 81, 82, 83, 84, 85, 86, 87, 88, 89, 90, 92, 94, 95, 96, 124, 126, 32]
theorem odd6_lt : ∀ c ∈ ODD6, c < 1114112 := by decide
theorem odd6_let : ∀ c ∈ ODD6, c ∉ LET ∧ c ∉ OPN := by decide
theorem sm_str {c : Nat} (h : c ∈ ODD6) : smB (.str (S [c])) = true := by
  have t := th_str (l := [c]) (by simp) (fun x hx => by rw [List.mem_singleton.mp hx]; exact odd6_lt c h)
  have hl := (odd6_let c h).1
  unfold smB
  rw [t.g, decide_eq_true (Nat.le_trans t.w (by decide)), decide_eq_true (Nat.le_trans t.p (by decide)), show badI (.str (S [c])) = !oneB (S [c]) LET from rfl, oneB_one, decide_eq_false hl]
  rfl
theorem sm_tup {c : Nat} (h : c ∈ ODD6) : smB (.tuple [.str (S [c]), .list []]) = true := by
  have t := th_str (l := [c]) (by simp) (fun x hx => by rw [List.mem_singleton.mp hx]; exact odd6_lt c h)
  have t1 := t.g
  have hl := (odd6_let c h).2
  unfold smB
  rw [show badI (.tuple [.str (S [c]), .list []]) = (!oneB (S [c]) OPN || (!true && !true)) from rfl, oneB_one, decide_eq_false hl]
  simp only [gd, gdA, wt, wtA, PyData.depth, PyData.depthAll] at t1 ⊢
  rw [t1]
  rfl
theorem seq_asg {te : TE} {i : Nat} {u : TS} {D : Ends} {σ : L2.St} {H : Hp} (h : te σ H fun x H1 => u D (σ.set i (some x)) H1) : tSeq (tAsg te (gName i)) u D σ H := h
/-! _law_odd -/
def sp_law_odd : Sp := fun vs H Q _ => ∃ (p : Addr) (P0 : Pt), vs = [.ref p] ∧ H p = some P0.o ∧ ∀ (v : V) (d : PyData) (P1 : Pt) (H' : Hp), But p H H' → H' p = some P1.o → Dx (del [p] H') v d → Th d 3000 6 → badI d = true → topB d = true → Q v H'
theorem ok_law_odd (T : Facts K mg) : C8.Cal P w K mg base 3 "_law_odd" sp_law_odd [] := by
  refine calD T.f_law_odd sc_law_odd (fun vs H Q E h => ?_) (fun f cdv A outer s H vs Q E hr h => ?_)
  · obtain ⟨p, P0, rfl, hp, q⟩ := h; rfl
  · obtain ⟨p, P0, rfl, hp, q⟩ := h
    refine ⟨_, (pss_cons (ps_set (i := 1) sc_law_odd.nd rfl (Or.inl rfl) (pe_lst (pa_cons (pe_strS (l := []) (by decide +kernel)) (pa_cons (pe_strS (l := [97, 98]) (by decide +kernel)) (pa_cons (pe_strS (l := [65]) (by decide +kernel)) (pa_cons (pe_strS (l := [40]) (by decide +kernel)) (pa_cons (pe_strS (l := [41]) (by decide +kernel)) (pa_cons (pe_strS (l := [32]) (by decide +kernel)) (pa_cons pe_int (pa_cons pe_non (pa_cons pe_bl (pa_cons (pe_lst pa_nil) (pa_cons (pe_lst (pa_cons (pe_strS (l := [97]) (by decide +kernel)) pa_nil)) (pa_cons pe_dnewK (pa_cons (pe_tup pa_nil) (pa_cons (pe_tup (pa_cons (pe_strS (l := [40]) (by decide +kernel)) pa_nil)) (pa_cons (pe_tup (pa_cons (pe_strS (l := [40]) (by decide +kernel)) (pa_cons (pe_lst pa_nil) (pa_cons (pe_lst pa_nil) pa_nil)))) (pa_cons (pe_tup (pa_cons (pe_strS (l := [41]) (by decide +kernel)) (pa_cons (pe_lst pa_nil) pa_nil))) pa_nil))))))))))))))))))
       (pss_cons (ps_set (i := 1) sc_law_odd.nd rfl (Or.inl rfl) (pe_op op_cat (pv 1) (pe_lst (pa_cons (pe_tup (pa_cons (pe_strS (l := [97]) (by decide +kernel)) (pa_cons (pe_lst pa_nil) pa_nil))) (pa_cons (pe_tup (pa_cons (pe_strS (l := []) (by decide +kernel)) (pa_cons (pe_lst pa_nil) pa_nil))) (pa_cons (pe_tup (pa_cons pe_int (pa_cons (pe_lst pa_nil) pa_nil))) (pa_cons (pe_tup (pa_cons (pe_strS (l := [40]) (by decide +kernel)) (pa_cons (pe_tup pa_nil) pa_nil))) (pa_cons (pe_tup (pa_cons (pe_strS (l := [40]) (by decide +kernel)) (pa_cons (pe_strS (l := [97]) (by decide +kernel)) pa_nil))) (pa_cons (pe_tup (pa_cons (pe_strS (l := [40]) (by decide +kernel)) (pa_cons pe_non pa_nil))) (pa_cons (pe_lst (pa_cons (pe_strS (l := [40]) (by decide +kernel)) (pa_cons (pe_lst pa_nil) pa_nil))) (pa_cons (pe_tup (pa_cons (pe_strS (l := [123]) (by decide +kernel)) (pa_cons (pe_lst (pa_cons (pe_lst (pa_cons (pe_strS (l := [97]) (by decide +kernel)) pa_nil)) pa_nil)) pa_nil))) pa_nil)))))))))))
       (pss_cons (ps_set (i := 1) sc_law_odd.nd rfl (Or.inl rfl) (pe_op op_cat (pv 1) (pe_lst (pa_cons (pe_tup (pa_cons (pe_strS (l := [60]) (by decide +kernel)) (pa_cons (pe_lst (pa_cons (pe_strS (l := [65]) (by decide +kernel)) pa_nil)) pa_nil))) (pa_cons (pe_strS (l := [49]) (by decide +kernel)) (pa_cons pe_int (pa_cons (pe_strS (l := [40, 97, 41]) (by decide +kernel)) (pa_cons (pe_tup (pa_cons pe_non (pa_cons (pe_lst pa_nil) pa_nil))) (pa_cons (pe_tup (pa_cons (pe_lst (pa_cons (pe_strS (l := [40]) (by decide +kernel)) pa_nil)) (pa_cons (pe_lst pa_nil) pa_nil))) (pa_cons (pe_tup (pa_cons (pe_strS (l := [40]) (by decide +kernel)) (pa_cons pe_dnewK pa_nil))) (pa_cons (pe_tup (pa_cons (pe_strS (l := [40, 41]) (by decide +kernel)) (pa_cons (pe_lst pa_nil) pa_nil))) (pa_cons (pe_tup (pa_cons (pe_strS (l := [93]) (by decide +kernel)) (pa_cons (pe_lst (pa_cons (pe_strS (l := [97]) (by decide +kernel)) pa_nil)) pa_nil))) (pa_cons (pe_strS (l := [121, 122]) (by decide +kernel)) pa_nil)))))))))))))
       (pss_cons (ps_set (i := 1) sc_law_odd.nd rfl (Or.inl rfl) (pe_op op_cat (pv 1) (pe_lst (pa_cons (pe_tup (pa_cons (pe_strS (l := [40, 60]) (by decide +kernel)) (pa_cons (pe_lst pa_nil) pa_nil))) (pa_cons (pe_tup (pa_cons (pe_strS (l := [60, 91, 123]) (by decide +kernel)) (pa_cons (pe_lst pa_nil) pa_nil))) (pa_cons (pe_tup (pa_cons (pe_strS (l := OPN) (by decide +kernel)) (pa_cons (pe_lst (pa_cons (pe_strS (l := [97]) (by decide +kernel)) pa_nil)) pa_nil))) (pa_cons (pe_tup (pa_cons (pe_strS (l := [62]) (by decide +kernel)) (pa_cons (pe_lst pa_nil) pa_nil))) (pa_cons (pe_tup (pa_cons (pe_strS (l := [125]) (by decide +kernel)) (pa_cons (pe_lst (pa_cons (pe_strS (l := [122]) (by decide +kernel)) pa_nil)) pa_nil))) pa_nil))))))))
       (pss_cons (ps_set (i := 2) sc_law_odd.nd rfl (Or.inl rfl) (pe_strS (l := [33, 34, 35, 36, 38, 39, 42, 43, 44, 45, 46, 47, 48, 49, 50, 51, 52, 53, 54, 55, 56, 57, 58, 59, 61, 63, 64, 65, 66, 67, 68, 69, 70, 71, 72, 73, 74, 75, 76, 77, 78, 79, 80, 81, 82, 83, 84, 85, 86, 87, 88, 89, 90, 92, 94, 95, 96, 124, 126, 32]) (by decide +kernel)))
       (pss_cons (ps_set (i := 3) sc_law_odd.nd rfl (Or.inl rfl) (pe_ix ix_txt (pv 2) (pe_own (ok_law_take T) hr (by omega) rfl (pa_cons (pv 0) (pa_cons (pe_callB call_lenT rfl T.b_len PySem.boot_len (pa_cons (pv 2) pa_nil)) pa_nil))) (fun _ _ => rfl)))
       (pss_cons (ps_set (i := 1) sc_law_odd.nd rfl (Or.inl rfl) (pe_op op_cat (pv 1) (pe_lst (pa_cons (pv 3) (pa_cons (pv 3) (pa_cons (pe_tup (pa_cons (pv 3) (pa_cons (pe_lst pa_nil) pa_nil))) pa_nil))))))
       (pss_one (ps_ret (pe_ix ix_list (pv 1) (pe_own (ok_law_take T) hr (by omega) rfl (pa_cons (pv 0) (pa_cons (pe_callB call_lenL rfl T.b_len PySem.boot_len (pa_cons (pv 1) pa_nil)) pa_nil))) (fun _ _ => rfl))))))))))), ?_⟩
    rw [st_law_odd]
    refine seq_asg ?_
    have hp0 : Std [p] H := .cons hp .nil
    apply Rd.go (p := [p])
    · wtm_at "rd"
    intro v1 H1 s1 hd1
    have hp1 := hp0.sm s1
    obtain ⟨ds1, hd1, hb1⟩ : ∃ ds, Dx (del [p] H1) v1 (.list ds) ∧ NsT ds 16 := ⟨_, hd1, ⟨by decide +kernel, by wtm_at "rdl"⟩⟩
    try dsimp only
    refine seq_asg ?_
    apply Rd.go (p := [p])
    · have := hb1.2
      wtm_at "rd"
    intro v2 H2 s2 hd2
    have hp2 := hp1.sm s2
    obtain ⟨ds2, hd2, hb2⟩ : ∃ ds, Dx (del [p] H2) v2 (.list ds) ∧ NsT ds 24 := ⟨_, hd2, ⟨nst_app hb1.1 (by decide +kernel), by have := hb1.2; wtm_at "rdl"⟩⟩
    try dsimp only
    refine seq_asg ?_
    apply Rd.go (p := [p])
    · have := hb2.2
      wtm_at "rd"
    intro v3 H3 s3 hd3
    have hp3 := hp2.sm s3
    obtain ⟨ds3, hd3, hb3⟩ : ∃ ds, Dx (del [p] H3) v3 (.list ds) ∧ NsT ds 34 := ⟨_, hd3, ⟨nst_app hb2.1 (by decide +kernel), by have := hb2.2; wtm_at "rdl"⟩⟩
    try dsimp only
    refine seq_asg ?_
    apply Rd.go (p := [p])
    · have := hb3.2
      wtm_at "rd"
    intro v4 H4 s4 hd4
    have hp4 := hp3.sm s4
    obtain ⟨ds4, hd4, hb4⟩ : ∃ ds, Dx (del [p] H4) v4 (.list ds) ∧ NsT ds 39 := ⟨_, hd4, ⟨nst_app hb3.1 (by decide +kernel), by have := hb3.2; wtm_at "rdl"⟩⟩
    try dsimp only
    refine seq_asg ?_
    apply Rd.go (p := [p])
    · wtm_at "rd"
    intro vs6 H6 s6 hd6
    cases hd6
    have hp6 := hp4.sm s6
    have hd6 := hd4.sm s6
    try dsimp only
    refine seq_asg ?_
    refine op_i ?_
    refine ⟨_, rfl, ?_⟩
    apply g_own2 (p := [p]) rfl
    · wtm_at "rd"
    intro H7 s7
    have s07 : Same H H7 := s1.trans (s2.trans (s3.trans (s4.trans (s6.trans s7))))
    have e7 := s07 _ _ hp
    refine ⟨p, P0, _, rfl, e7, by decide, by decide, fun r P1 H8 r0 r1 b8 e8 => ?_⟩
    obtain ⟨z, rfl⟩ := Int.eq_ofNat_of_zero_le r0
    obtain ⟨c, hc4, hc5⟩ : ∃ c, ODD6[z]? = some c ∧ c ∈ ODD6 := by
      have hz : z < ODD6.length := by
        have : (z : Int) < ((ODD6.length : Nat) : Int) := r1
        omega
      exact ⟨ODD6[z], List.getElem?_eq_getElem hz, List.getElem_mem hz⟩
    refine g_ixT (l := ODD6) (by decide) (atI_of hc4) ?_
    have hd8 : Dx (del [p] H8) v4 (.list ds4) := ((hd6.sm s7)).bt b8
    have hp8 : Std [p] H8 := .cons e8 .nil
    try dsimp only
    refine seq_asg ?_
    apply Rd.go (p := [p])
    · have := hb4.2
      wtm_at "rd"
    intro v9 H9 s9 hd9
    have hso := sm_str hc5
    have hcl := odd6_lt c hc5
    obtain ⟨ds9, hd9, hb9, hl9⟩ : ∃ ds, Dx (del [p] H9) v9 (.list ds) ∧ NsT ds 42 ∧ 0 < ds.length := ⟨_, hd9, ⟨nst_app hb4.1 (by simp only [List.all_cons, List.all_nil, hso, sm_tup hc5]; rfl), by have := hb4.2; wtm_at "rdl"⟩, by simp⟩
    obtain ⟨f9, xs9, rfl, ef9, hx9⟩ := dx_lst_inv hd9
    have e9 := s9 _ _ e8
    have hlen9 := hx9.length
    wtm_at "unf"
    wtm_at "gx"
    refine g_lenL (sq_of (del_un ef9).1) ?_
    refine ⟨p, P1, _, rfl, e9, by omega, by have := hb9.2; omega, fun r5 P5 H10 q6 q7 b10 e10 => ?_⟩
    obtain ⟨z5, rfl⟩ := Int.eq_ofNat_of_zero_le q6
    have hz5 : z5 < xs9.length := by omega
    have hfp : f9 ≠ p := by have := (del_un ef9).2; simpa using this
    have hx5 : xs9[z5]? = some xs9[z5] := List.getElem?_eq_getElem hz5
    have hd5' : ds9[z5]? = some (ds9[z5]'(by omega)) := List.getElem?_eq_getElem _
    refine g_ixL (sq_of (b10 _ _ hfp (del_un ef9).1)) (atI_of hx5) ?_
    have sH8 : But p H H8 := But.tr b8 (Same.toBut s07)
    exact q _ _ P5 H10 (But.tr b10 (But.sa s9 sH8)) e10 ((hx9.get hx5 hd5').bt b10) (sm_th (List.all_eq_true.mp hb9.1 _ (List.mem_of_getElem? hd5'))) (sm_bad (List.all_eq_true.mp hb9.1 _ (List.mem_of_getElem? hd5'))).1 (sm_bad (List.all_eq_true.mp hb9.1 _ (List.mem_of_getElem? hd5'))).2
theorem tri_get {H : Hp} {vs : List V} {ds : List Nd} {A : List Addr} {i : Nat} {v : V} (h : TrIs H vs ds A) (e : vs[i]? = some v) : ∃ d A', ds[i]? = some d ∧ TrI H v d A' ∧ ∀ x ∈ A', x ∈ A := TrIs.get h e
theorem isN_mid {x : PyData} (h : ∀ n, itN (isN n) x = false) (A B : List PyData) (m : Nat) : isN m (.list (A ++ [x] ++ B)) = false := by
  cases m with
  | zero => simp [isN]
  | succ n =>
    show (A ++ [x] ++ B).all (itN (isN n)) = false
    exact all_bad (x := x) (by simp) (h n)
theorem tri_off {H : Hp} {p : Addr} {ys : List V} {vs : List V} {ds : List Nd} {A : List Addr} (h : TrIs H vs ds A) (hp : H p = some (.lst ys)) (hA : p ∉ A) : TrIs (del [p] H) vs ds A := by
  refine TrIs.frame (C := [p]) ⟨fun x hx => ⟨ys, by rw [List.mem_singleton.mp hx]; exact hp⟩, fun x o ho hx => ?_⟩ h fun x hx q => hA (by rw [← List.mem_singleton.mp q]; exact hx)
  show (if x ∈ [p] then none else H x) = some o
  rw [if_neg hx]
  exact ho
theorem nd_few {ds : List Nd} (h : ndOk ds) : ds.length ≤ (txN ds).length := by
  induction ds with
  | nil => exact Nat.zero_le _
  | cons d ds ih =>
    rw [ndOk] at h
    have := ih h.2
    rw [txN, List.length_append, List.length_cons]
    have h1 : 1 ≤ (txI d).length := by
      cases d with
      | let_ c => rw [txI]; simp
      | num i => have := h.1; rw [ndOk1] at this; exact this.elim
      | br o es => rw [txI]; simp
    omega
theorem ndOk_of : ∀ {ds : List Nd}, (∀ d ∈ ds, ndOk1 d) → ndOk ds
  | [], _ => by rw [ndOk]; trivial
  | d :: ds, h => by rw [ndOk]; exact ⟨h d (List.mem_cons_self ..), ndOk_of fun e he => h e (List.mem_cons_of_mem _ he)⟩
theorem ndDs_app : ∀ ds es : List Nd, ndDs (ds ++ es) = ndDs ds ++ ndDs es
  | [], es => by rw [List.nil_append, ndDs, List.nil_append]
  | d :: ds, es => by rw [List.cons_append, ndDs, ndDs_app ds es, ndDs, List.cons_append]
theorem ndDs_len : ∀ ds : List Nd, (ndDs ds).length = ds.length
  | [] => by rw [ndDs]; rfl
  | d :: ds => by rw [ndDs, List.length_cons, ndDs_len ds, List.length_cons]
theorem th_splice {D : List PyData} {i j : Nat} {x : PyData} {W w p px r : Nat} (h : ThA D W p) (hx : Th x w px) (hij : i ≤ j) (h1 : p ≤ r) (h2 : px ≤ r) : Th (.list ((D.take i ++ [x]) ++ D.drop j)) (W + w + 206) (r + 1) := by
  have e1 := congrArg wtA (List.take_append_drop i D)
  have e2 := congrArg wtA (List.take_append_drop (j - i) (D.drop i))
  rw [wtA_app] at e1 e2
  rw [List.drop_drop, show i + (j - i) = j by omega] at e2
  have m1 : ∀ y ∈ D.take i, y ∈ D := fun y hy => List.mem_of_mem_take hy
  have m2 : ∀ y ∈ D.drop j, y ∈ D := fun y hy => List.mem_of_mem_drop hy
  have hg := gdA_mem.mp h.g
  have hp := dpA_le.mp h.p
  have hw := h.w
  have hxw := hx.w
  refine ⟨?_, ?_, depth_lst (dpA_le.mpr fun y hy => ?_)⟩
  · simp only [gd]
    refine gdA_mem.mpr fun y hy => ?_
    rcases List.mem_append.mp hy with hy | hy
    · rcases List.mem_append.mp hy with hy | hy
      · exact hg y (m1 y hy)
      · rw [List.mem_singleton.mp hy]; exact hx.g
    · exact hg y (m2 y hy)
  · rw [wt, wtA_app, wtA_app, wtA, wtA]
    omega
  · rcases List.mem_append.mp hy with hy | hy
    · rcases List.mem_append.mp hy with hy | hy
      · exact Nat.le_trans (hp y (m1 y hy)) h1
      · rw [List.mem_singleton.mp hy]; exact Nat.le_trans hx.p h2
    · exact Nat.le_trans (hp y (m2 y hy)) h1
theorem th_pair {o : Nat} {d : PyData} {w p : Nat} (ho : o < 1114112) (h : Th d w p) : Th (.tuple [.str (S [o]), d]) (w + 412) (p + 1) := by
  have t := th_str (l := [o]) (by simp) (fun x hx => by rw [List.mem_singleton.mp hx]; exact ho)
  have t1 := t.w
  have t2 := h.w
  refine ⟨by simp only [gd, gdA]; have := t.g; simp only [gd] at this; rw [this, h.g]; rfl, by simp only [wt, wtA] at t1 ⊢; omega, ?_⟩
  have := h.p
  simp only [PyData.depth, PyData.depthAll]
  omega
/-! _law_spoilt -/
def sp_law_spoilt : Nat → Sp
  | 0 => fun _ _ _ _ => False
  | n + 1 => fun vs H Q _ => ∃ (p : Addr) (P0 : Pt) (b : Addr) (xs : List V) (ds : List Nd) (A : List Addr), vs = [.ref p, .ref b] ∧ H p = some P0.o ∧ del [p] H b = some (.lst xs) ∧ TrIs (del [p] H) xs ds A ∧ ndOk ds ∧ Nd.deeps ds ≤ n ∧ (txN ds).length ≤ 1000 ∧
      ∀ (v : V) (d : PyData) (P1 : Pt) (H' : Hp), But p H H' → H' p = some P1.o → Dx (del [p] H') v d → Th d (1000 * (txN ds).length + 4000) (2 * Nd.deeps ds + 8) → isT d .list = true → (∀ m, isN m d = false) → Q v H'
theorem ok_law_spoilt (T : Facts K mg) (n : Nat) : C8.Cal P w K mg base (n + 4) "_law_spoilt" (sp_law_spoilt n) [] := by
  induction n with
  | zero => exact cal_false T.f_law_spoilt sc_law_spoilt (fun _ _ _ _ h => h)
  | succ n ih =>
  rw [show n + 1 + 4 = (n + 4) + 1 by omega]
  refine calD T.f_law_spoilt sc_law_spoilt (fun vs H Q E h => ?_) (fun f cdv A outer s H vs Q E hr h => ?_)
  · obtain ⟨p, P0, b, xs, ds, A, rfl, hp, hb, ht, hk, hd, hl, q⟩ := h; rfl
  · obtain ⟨p, P0, b, xs, ds, A, rfl, hp, hb, ht, hk, hd, hl, q⟩ := h
    refine ⟨_, (pss_cons (ps_set (i := 2) sc_law_spoilt.nd rfl (Or.inl rfl) (pe_own (ok_law_take T) hr (by omega) rfl (pa_cons (pv 0) (pa_cons (pe_op op_add (pe_callB call_lenL rfl T.b_len PySem.boot_len (pa_cons (pv 1) pa_nil)) pe_int) pa_nil))))
       (pss_cons (ps_setLc (i := 3) (own := [("k", 4)]) (by rfl) sc_law_spoilt.nd rfl rfl (sw_true rfl rfl rfl (by decide +kernel)) (pi_range1 rfl T.b_range (pa_cons (pe_callB call_lenL rfl T.b_len PySem.boot_len (pa_cons (pv 1) pa_nil)) pa_nil)) (blkOk_by (own := [("k", 4)]) (N := N_law_spoilt) (sc := defScope s_law_spoilt) (by decide +kernel)) (fun _ _ _ _ _ => (pg_name (i := 4) sc_law_spoilt.nd rfl (Or.inl rfl))) (fun _ _ _ _ _ => (pts_one (pt_val (pe_callB (r := rIsi K) call_isi rfl T.b_isinstance (by decide +kernel) (pa_cons (pe_ix (r := rIxL K) ix_list (pv 1) (pv 4) (fun _ _ => rfl)) (pa_cons (pe_bltn (v := .ty "tuple") rfl T.b_tuple (by decide +kernel) rfl) pa_nil)))))) (fun _ _ _ _ _ => (pv 4)))
       (pss_cons (ps_ifC (PW.pt (pw_and (pt_cmpR (op_neE hr.units) (pv 3) (pe_lst pa_nil) (nomark _)) (pw_and1 (pt_cmpR op_gt (pe_own (ok_law_take T) hr (by omega) rfl (pa_cons (pv 0) (pa_cons pe_int pa_nil))) pe_int (nomark _)))))
       (pss_cons (ps_set (i := 4) sc_law_spoilt.nd rfl (Or.inl rfl) (pe_ix ix_list (pv 3) (pe_own (ok_law_take T) hr (by omega) rfl (pa_cons (pv 0) (pa_cons (pe_callB call_lenL rfl T.b_len PySem.boot_len (pa_cons (pv 3) pa_nil)) pa_nil))) (fun _ _ => rfl)))
       (pss_one (ps_ret (pe_op op_cat (pe_op op_cat (pe_slice sl_list (pv 1) po_none (po_some (pv 4))) (pe_lst (pa_cons (pe_tup (pa_cons (pe_ix ix_seq (pe_ix ix_list (pv 1) (pv 4) (fun _ _ => rfl)) pe_int (fun _ _ => rfl)) (pa_cons (pe_own ih hr (Nat.le_refl _) rfl (pa_cons (pv 0) (pa_cons (pe_ix ix_seq (pe_ix ix_list (pv 1) (pv 4) (fun _ _ => rfl)) pe_int (fun _ _ => rfl)) pa_nil))) pa_nil))) pa_nil))) (pe_slice sl_list (pv 1) (po_some (pe_op op_add (pv 4) pe_int)) po_none)))))
       pss_nil)
       (pss_one (ps_ret (pe_op op_cat (pe_op op_cat (pe_slice sl_list (pv 1) po_none (po_some (pv 2))) (pe_lst (pa_cons (pe_own (ok_law_odd T) hr (by omega) rfl (pa_cons (pv 0) pa_nil)) pa_nil))) (pe_slice sl_list (pv 1) (po_some (pe_op op_add (pv 2) (pe_own (ok_law_take T) hr (by omega) rfl (pa_cons (pv 0) (pa_cons pe_int pa_nil))))) po_none))))))), ?_⟩
    rw [st_law_spoilt]
    wtm_at "unf"
    wtm_at "gx"
    obtain ⟨hb1, hbp0⟩ := del_un hb
    have hbp : b ≠ p := by simpa using hbp0
    have hxl := ht.len
    have hxs := nd_few hk
    wtm_at "gx"
    refine ⟨p, P0, (xs.length : Int) + 1, rfl, hp, by omega, by omega, fun at_ P1 H1 a0 a1 b1 e1 => ?_⟩
    obtain ⟨at_, rfl⟩ := Int.eq_ofNat_of_zero_le a0
    have hb2 := b1 _ _ hbp hb1
    have ht1 : TrIs (del [p] H1) xs ds A := TrIs.same (del_but (by simp) b1) ht
    wtm_at "gx"
    refine ⟨_, rfl, by omega, by omega, lc_rng fun pa H2 npa s2 epa => ⟨fun i G => ∃ ps : List Nat, G pa = some (.lst (ps.map fun k : Nat => V.int k)) ∧ ps.length ≤ i ∧ (∀ k ∈ ps, ∃ o es, ds[k]? = some (.br o es)) ∧ Same H1 G, ⟨[], epa, Nat.le_refl _, (fun _ h => nomatch h), s2⟩, fun i G hi hv => ?_, fun G hv => ?_⟩⟩
    · obtain ⟨ps, eG, hpl, hps, sG⟩ := hv
      have hi' : i < xs.length := by omega
      have hx : xs[i]? = some xs[i] := List.getElem?_eq_getElem hi'
      obtain ⟨d, A', hdi, htr, hA'⟩ := tri_get ht1 hx
      have hok := mem_ndOk (List.mem_of_getElem? hdi) hk
      rw [show (0 : Int) + (i : Int) = (i : Int) by omega]
      wtm_at "unf"
      refine ⟨rfl, ?_⟩
      wtm_at "gx"
      refine g_ixLn i (sq_of (sG _ _ hb2)) rfl hx ?_
      generalize xs[i] = vi at htr
      cases htr with
      | let_ c =>
        wtm_at "gx"
        exact ⟨ps, eG, by omega, hps, sG⟩
      | num z => simp [ndOk1] at hok
      | @br t b' o xs' ds' A2 h1 h2 h3 =>
        have h1' := sG _ _ (del_un h1).1
        wtm_at "gx"
        refine lc_put eG (by rw [List.length_map]; omega) fun G2 g2 e2 => ⟨ps ++ [i], by rw [List.map_append]; exact e2, by simp; omega, fun k hk' => ?_, Same.b0 g2 sG npa⟩
        rcases List.mem_append.mp hk' with h | h
        · exact hps k h
        · rw [List.mem_singleton.mp h]; exact ⟨_, _, hdi⟩
    obtain ⟨ps, eG, hpl, hps, sG⟩ := hv
    have hb3 := sG _ _ hb2
    have ht3 : TrIs (del [p] G) xs ds A := TrIs.same (del_same sG) ht1
    have e3 := sG _ _ e1
    have nbp : pa ≠ p := fun e => by rw [e, e1] at npa; cases npa
    have B3 : But p H G := But.sa sG b1
    wtm_at "unf"
    simp only [tIfC]
    wtm_at "unf"
    wtm_at "gx"
    refine g_lst (by show 0 ≤ 100000; decide) fun em G1 nem s1 eem => ?_
    refine g_neE (sq_of (s1 _ _ eG)) eem ?_
    by_cases h0 : ps = []
    · subst h0
      refine ⟨false, rfl, ?_⟩
      rw [if_neg Bool.false_ne_true]
      wtm_at "gx"
      have bG : But p H G1 := But.sa s1 B3
      have eP := s1 _ _ e3
      have hbG := bG _ _ hbp hb1
      refine g_slL (sq_of hbG) fun c1 K1 n1 k1 x1 => ?_
      rw [cut_to] at x1
      have eP1 := k1 _ _ eP
      have c1p : c1 ≠ p := fun e => by rw [e, eP] at n1; cases n1
      wtm_at "gx"
      refine ⟨p, P1, rfl, eP1, fun vo dO P2 K2 b2 e2 hdo tho hbad _ => ?_⟩
      have x12 := b2 _ _ c1p x1
      refine g_lst (by show 1 ≤ 100000; decide) fun c2 K3 n3 k3 x3 => ?_
      refine g_cat (k3 _ _ x12) x3 (by rw [List.length_take, List.length_singleton]; omega) fun c3 K4 n4 k4 x4 => ?_
      have e4' := k4 _ _ (k3 _ _ e2)
      have c3p : c3 ≠ p := fun e => by rw [e, k3 _ _ e2] at n4; cases n4
      wtm_at "gx"
      refine ⟨p, P2, 2, rfl, e4', by decide, by decide, fun w P3 K5 w0 w1 b5 e5 => ?_⟩
      obtain ⟨w, rfl⟩ := Int.eq_ofNat_of_zero_le w0
      have hb5 := b5 _ _ hbp (k4 _ _ (k3 _ _ (b2 _ _ hbp (k1 _ _ hbG))))
      wtm_at "gx"
      rw [show (at_ : Int) + (w : Int) = ((at_ + w : Nat) : Int) by omega]
      refine g_slL (sq_of hb5) fun c4 K6 n6 k6 x6 => ?_
      rw [cut_from] at x6
      refine g_cat (k6 _ _ (b5 _ _ c3p x4)) x6 (by rw [List.length_append, List.length_take, List.length_singleton, List.length_drop]; omega) fun c5 K7 n7 k7 x7 => ?_
      have c5p : c5 ≠ p := fun e => by rw [e, k6 _ _ e5] at n7; cases n7
      have B7 : But p H K7 := But.sa (k6.trans k7) (But.tr b5 (But.sa (k3.trans k4) (But.tr b2 (But.sa k1 bG))))
      have hxA : DxAll (del [p] K7) xs (ndDs ds) := TrIs.dx (TrIs.same (del_but (by simp) B7) ht)
      have hdo7 : Dx (del [p] K7) vo dO := ((((hdo.sm k3).sm k4).bt b5).sm k6).sm k7
      exact q _ _ P3 K7 B7 (k7 _ _ (k6 _ _ e5)) (.lst (del_get (by simpa using c5p) x7) (dxa_app (dxa_app (dxa_take hxA) (.cons hdo7 .nil)) (dxa_drop hxA))) ((th_splice (tha_nd hk) tho (show at_ ≤ at_ + w by omega) (show 2 * Nd.deeps ds ≤ 2 * Nd.deeps ds + 7 by omega) (by omega)).mono (by omega) (Nat.le_refl _)) rfl (isN_mid (badI_it hbad) _ _)
    have hne : ¬ (ps.map fun k : Nat => V.int (k : Int)) = [] := fun h => h0 (List.map_eq_nil_iff.mp h)
    refine ⟨true, by rw [decide_eq_false hne]; rfl, ?_⟩
    rw [if_pos rfl]
    wtm_at "gx"
    refine ⟨p, P1, 3, rfl, s1 _ _ e3, by decide, by decide, fun r P2 H4 r0 r1 b4 e4 => ?_⟩
    wtm_at "gx"
    refine g_test (fun h3 => ?_) (fun h3 => ?_)
    · wtm_at "gx"
      have hpsl : 0 < ps.length := List.length_pos_iff.mpr h0
      have bG : But p H H4 := But.tr b4 (But.sa s1 B3)
      have ePa4 := b4 _ _ nbp (s1 _ _ eG)
      rw [List.length_map]
      refine ⟨p, P2, _, rfl, e4, by omega, by omega, fun r P3 H5 q0 q1 b5 e5 => ?_⟩
      obtain ⟨z, rfl⟩ := Int.eq_ofNat_of_zero_le q0
      have hz : z < ps.length := by omega
      obtain ⟨k, hk0⟩ : ∃ k, ps[z]? = some k := ⟨_, List.getElem?_eq_getElem hz⟩
      obtain ⟨o, es, hde⟩ := hps k (List.mem_of_getElem? hk0)
      refine g_ixLn z (sq_of (b5 _ _ nbp ePa4)) rfl (by rw [List.getElem?_map, hk0]; rfl) ?_
      have bG5 : But p H H5 := But.tr b5 bG
      have hb5 := bG5 _ _ hbp hb1
      have ht5 : TrIs (del [p] H5) xs ds A := TrIs.same (del_but (by simp) bG5) ht
      have hkl : k < ds.length := (List.getElem?_eq_some_iff.mp hde).1
      obtain ⟨vk, hx⟩ : ∃ vk, xs[k]? = some vk := ⟨_, List.getElem?_eq_getElem (by omega)⟩
      obtain ⟨d0, A', hdi, htr, hA'⟩ := tri_get ht5 hx
      rw [hde] at hdi
      have hdi := Option.some.inj hdi
      subst hdi
      have hok := mem_ndOk (List.mem_of_getElem? hde) hk
      have hdp := mem_deeps (List.mem_of_getElem? hde)
      rw [ndOk1] at hok
      rw [Nd.deep] at hdp
      obtain ⟨e0, hsp⟩ := cut_at hde
      have htl : (txN ds).length = (txN (ds.take k)).length + ((txN es).length + 2) + (txN (ds.drop (k + 1))).length := by
        have h := congrArg (fun z => (txN z).length) hsp
        rw [txN_app, txN, txI, List.length_append, List.length_append, List.length_cons, List.length_append, List.length_singleton] at h
        omega
      obtain ⟨m, rfl⟩ : ∃ m, n = m + 1 := ⟨n - 1, by omega⟩
      wtm_at "gx"
      refine g_slL (sq_of hb5) fun c1 K1 n1 k1 x1 => ?_
      rw [cut_to] at x1
      have eP1 := k1 _ _ e5
      have c1p : c1 ≠ p := fun e => by rw [e, e5] at n1; cases n1
      have hb6 := k1 _ _ hb5
      cases htr with
      | @br tt b' _ xs' _ A2 h1 h2 h3 =>
      have h1' := k1 _ _ (del_un h1).1
      wtm_at "gx"
      refine g_ixLn k (sq_of hb6) rfl hx ?_
      wtm_at "gx"
      refine g_ixLn k (sq_of hb6) rfl hx ?_
      wtm_at "gx"
      refine ⟨p, P3, b', xs', es, A2, rfl, eP1, del_same k1 _ _ h2, TrIs.same (del_same k1) h3, hok.2, by omega, by omega, fun v' d' P4 K2 B2 e2 hd' th' hLi hN' => ?_⟩
      refine g_tup (by show 2 ≤ 100000; decide) fun tp K3 n3 k3 x3 => ?_
      refine g_lst (by show 1 ≤ 100000; decide) fun c2 K4 n4 k4 x4 => ?_
      refine g_cat (k4 _ _ (k3 _ _ (B2 _ _ c1p x1))) x4 (by rw [List.length_take, List.length_singleton]; omega) fun c3 K5 n5 k5 x5 => ?_
      have e5' := k5 _ _ (k4 _ _ (k3 _ _ e2))
      have hb7 := k5 _ _ (k4 _ _ (k3 _ _ (B2 _ _ hbp hb6)))
      wtm_at "gx"
      rw [show (k : Int) + 1 = ((k + 1 : Nat) : Int) by omega]
      refine g_slL (sq_of hb7) fun c4 K6 n6 k6 x6 => ?_
      rw [cut_from] at x6
      refine g_cat (k6 _ _ x5) x6 (by rw [List.length_append, List.length_take, List.length_singleton, List.length_drop]; omega) fun c5 K7 n7 k7 x7 => ?_
      have e7 := k7 _ _ (k6 _ _ e5')
      have c5p : c5 ≠ p := fun e => by rw [e, k6 _ _ e5'] at n7; cases n7
      have tpp : tp ≠ p := fun e => by rw [e, e2] at n3; cases n3
      have sK : Same K3 K7 := k4.trans (k5.trans (k6.trans k7))
      have B7 : But p H K7 := But.sa (k3.trans sK) (But.tr B2 (But.sa k1 bG5))
      have hxA : DxAll (del [p] K7) xs (ndDs ds) := TrIs.dx (TrIs.same (del_but (by simp) B7) ht)
      have hd7 : Dx (del [p] K7) v' d' := ((hd'.sm k3).sm sK)
      have htp : Dx (del [p] K7) (.ref tp) (.tuple [.str (S [o]), d']) := .tup (del_get (by simpa using tpp) (sK _ _ x3)) (.cons (.str _) (.cons hd7 .nil))
      have hW : ThA (ndDs (ds.take k) ++ ndDs (ds.drop (k + 1))) (1000 * (txN (ds.take k)).length + 1000 * (txN (ds.drop (k + 1))).length) (2 * Nd.deeps ds) := by
        have hk' := hk
        rw [hsp] at hk'
        have hokl : ∀ d ∈ ds, ndOk1 d := fun d hd => mem_ndOk hd hk
        have o1 : ndOk (ds.take k) := ndOk_of fun d hd => hokl d (List.mem_of_mem_take hd)
        have o2 : ndOk (ds.drop (k + 1)) := ndOk_of fun d hd => hokl d (List.mem_of_mem_drop hd)
        have d1 : Nd.deeps (ds.take k) ≤ Nd.deeps ds := by
          have h := congrArg Nd.deeps (List.take_append_drop k ds)
          rw [deeps_app] at h
          omega
        have d2 : Nd.deeps (ds.drop (k + 1)) ≤ Nd.deeps ds := by
          have h := congrArg Nd.deeps (List.take_append_drop (k + 1) ds)
          rw [deeps_app] at h
          omega
        exact ThA.app ((tha_nd o1).mono (Nat.le_refl _) (by omega)) ((tha_nd o2).mono (Nat.le_refl _) (by omega))
      have hth := th_pair (lt_OPN o hok.1) th'
      have hfin := th_splice (i := (ndDs (ds.take k)).length) (j := (ndDs (ds.take k)).length) hW hth (Nat.le_refl _) (show 2 * Nd.deeps ds ≤ 2 * Nd.deeps ds + 7 by omega) (show 2 * Nd.deeps es + 8 + 1 ≤ 2 * Nd.deeps ds + 7 by omega)
      rw [List.take_left, List.drop_left] at hfin
      have hres : ((ndDs ds).take k ++ [.tuple [.str (S [o]), d']]) ++ (ndDs ds).drop (k + 1) = (ndDs (ds.take k) ++ [.tuple [.str (S [o]), d']]) ++ ndDs (ds.drop (k + 1)) := by
        have e1 : ndDs ds = ndDs (ds.take k) ++ (ndD (.br o es) :: ndDs (ds.drop (k + 1))) := by
          have h := congrArg ndDs hsp
          rw [ndDs_app, ndDs] at h
          exact h
        have l1 : (ndDs (ds.take k)).length = k := by rw [ndDs_len, List.length_take]; omega
        have t1 : (ndDs ds).take k = ndDs (ds.take k) := by rw [e1]; exact List.take_left' l1
        have t2 : (ndDs ds).drop (k + 1) = ndDs (ds.drop (k + 1)) := by
          rw [e1, show ndDs (ds.take k) ++ (ndD (.br o es) :: ndDs (ds.drop (k + 1))) = (ndDs (ds.take k) ++ [ndD (.br o es)]) ++ ndDs (ds.drop (k + 1)) by simp]
          exact List.drop_left' (by rw [List.length_append, l1]; rfl)
        rw [t1, t2]
      rw [← hres] at hfin
      exact q _ _ P4 K7 B7 e7 (.lst (del_get (by simpa using c5p) x7) (dxa_app (dxa_app (dxa_take hxA) (.cons htp .nil)) (dxa_drop hxA))) (hfin.mono (by omega) (by omega)) rfl (isN_mid (fun n => by rw [itN_two, hN' n, Bool.and_false]) _ _)
    · wtm_at "gx"
      have bG : But p H H4 := But.tr b4 (But.sa s1 B3)
      have eP := e4
      have hbG := bG _ _ hbp hb1
      refine g_slL (sq_of hbG) fun c1 K1 n1 k1 x1 => ?_
      rw [cut_to] at x1
      have eP1 := k1 _ _ eP
      have c1p : c1 ≠ p := fun e => by rw [e, eP] at n1; cases n1
      wtm_at "gx"
      refine ⟨p, P2, rfl, eP1, fun vo dO P4 K2 b2 e2 hdo tho hbad _ => ?_⟩
      have x12 := b2 _ _ c1p x1
      refine g_lst (by show 1 ≤ 100000; decide) fun c2 K3 n3 k3 x3 => ?_
      refine g_cat (k3 _ _ x12) x3 (by rw [List.length_take, List.length_singleton]; omega) fun c3 K4 n4 k4 x4 => ?_
      have e4' := k4 _ _ (k3 _ _ e2)
      have c3p : c3 ≠ p := fun e => by rw [e, k3 _ _ e2] at n4; cases n4
      wtm_at "gx"
      refine ⟨p, P4, 2, rfl, e4', by decide, by decide, fun w P3 K5 w0 w1 b5 e5 => ?_⟩
      obtain ⟨w, rfl⟩ := Int.eq_ofNat_of_zero_le w0
      have hb5 := b5 _ _ hbp (k4 _ _ (k3 _ _ (b2 _ _ hbp (k1 _ _ hbG))))
      wtm_at "gx"
      rw [show (at_ : Int) + (w : Int) = ((at_ + w : Nat) : Int) by omega]
      refine g_slL (sq_of hb5) fun c4 K6 n6 k6 x6 => ?_
      rw [cut_from] at x6
      refine g_cat (k6 _ _ (b5 _ _ c3p x4)) x6 (by rw [List.length_append, List.length_take, List.length_singleton, List.length_drop]; omega) fun c5 K7 n7 k7 x7 => ?_
      have c5p : c5 ≠ p := fun e => by rw [e, k6 _ _ e5] at n7; cases n7
      have B7 : But p H K7 := But.sa (k6.trans k7) (But.tr b5 (But.sa (k3.trans k4) (But.tr b2 (But.sa k1 bG))))
      have hxA : DxAll (del [p] K7) xs (ndDs ds) := TrIs.dx (TrIs.same (del_but (by simp) B7) ht)
      have hdo7 : Dx (del [p] K7) vo dO := ((((hdo.sm k3).sm k4).bt b5).sm k6).sm k7
      exact q _ _ P3 K7 B7 (k7 _ _ (k6 _ _ e5)) (.lst (del_get (by simpa using c5p) x7) (dxa_app (dxa_app (dxa_take hxA) (.cons hdo7 .nil)) (dxa_drop hxA))) ((th_splice (tha_nd hk) tho (show at_ ≤ at_ + w by omega) (show 2 * Nd.deeps ds ≤ 2 * Nd.deeps ds + 7 by omega) (by omega)).mono (by omega) (Nat.le_refl _)) rfl (isN_mid (badI_it hbad) _ _)
/-! _law_chain -/
def sp_law_chain : Sp := fun vs H Q _ => ∃ (n : Nat) (v : V) (d : PyData) (W px : Nat), vs = [.int (n : Nat), v] ∧ Dx H v d ∧ Th d W px ∧ isT d .list = true ∧ n ≤ 1000 ∧
  ∀ (v' : V) (d' : PyData) (H' : Hp), Same H H' → Dx H' v' d' → Th d' (W + n * 700) (px + n * 2) → isT d' .list = true → (∀ m, isN (m + n) d' = isN m d) → (∀ j, j < n → isN j d' = false) → Q v' H'
theorem ok_law_chain (T : Facts K mg) : C8.Cal P w K mg base 1 "_law_chain" sp_law_chain [] := by
  refine calD T.f_law_chain sc_law_chain (fun vs H Q E h => ?_) (fun f cdv A outer s H vs Q E hr h => ?_)
  · obtain ⟨n, v, d, W, px, rfl, hd, ht, hL, hn, q⟩ := h; rfl
  · obtain ⟨n, v, d, W, px, rfl, hd, ht, hL, hn, q⟩ := h
    refine ⟨_, (pss_cons (ps_for PassesOwn.never rfl (pi_range1 rfl T.b_range (pa_cons (pv 0) pa_nil)) (pg_name (i := 2) sc_law_chain.nd rfl (Or.inl rfl))
       (pss_one (ps_set (i := 1) sc_law_chain.nd rfl (Or.inl rfl) (pe_lst (pa_cons (pe_tup (pa_cons (pe_ix ix_txt (pe_strS (l := OPN) (by decide +kernel)) (pe_op op_mod (pv 2) pe_int) (fun _ _ => rfl)) (pa_cons (pv 1) pa_nil))) pa_nil)))))
       (pss_one (ps_ret (pv 1)))), ?_⟩
    rw [st_law_chain]
    wtm_at "unf"
    wtm_at "gx"
    refine ⟨_, rfl, by omega, by omega, for_rng (fun i σ G => ∃ (v' : V) (d' : PyData) (y : Option V), σ = [some (V.int (n : Nat)), some v', y] ∧ Same H G ∧ Dx G v' d' ∧ Th d' (W + i * 700) (px + i * 2) ∧ isT d' .list = true ∧ (∀ m, isN (m + i) d' = isN m d) ∧ (∀ j, j < i → isN j d' = false)) ⟨v, d, _, rfl, Same.refl _, hd, ht.mono (Nat.le_add_right _ _) (Nat.le_add_right _ _), hL, fun _ => rfl, fun _ h => absurd h (Nat.not_lt_zero _)⟩ (fun i σ G hi hv => ?_) (fun σ G hv => ?_)⟩
    · obtain ⟨v', d', y, rfl, sG, hd', ht', hL', hm', hj'⟩ := hv
      rw [show (0 : Int) + (i : Int) = (i : Int) by omega]
      wtm_at "unf"
      wtm_at "gx"
      obtain ⟨c, hc, hco⟩ : ∃ c, OPN[i % 4]? = some c ∧ c ∈ OPN := by
        have hz : i % 4 < OPN.length := Nat.mod_lt _ (by decide)
        exact ⟨OPN[i % 4], List.getElem?_eq_getElem hz, List.getElem_mem hz⟩
      refine g_ixTn (l := OPN) (i % 4) (by decide) (by omega) hc ?_
      wtm_at "gx"
      refine g_tup (by show 2 ≤ 100000; decide) fun tp G2 n2 s2 e2 => ?_
      refine g_lst (by show 1 ≤ 100000; decide) fun ls G3 n3 s3 e3 => ?_
      have hd3 : Dx G3 v' d' := dx_same (s2.trans s3) hd'
      have hN : ∀ n, isN (n + 1) (.list [.tuple [.str (S [c]), d']]) = isN n d' := fun n => by
        show ([PyData.tuple [.str (S [c]), d']].all (itN (isN n))) = isN n d'
        rw [List.all_cons, List.all_nil, Bool.and_true, itN_two, show oneX (.str (S [c])) OPN = oneB (S [c]) OPN from rfl, oneB_one, decide_eq_true hco, Bool.true_and]
      refine ⟨_, _, _, rfl, sG.trans (s2.trans s3), .lst e3 (.cons (.tup (s3 _ _ e2) (.cons (.str _) (.cons hd3 .nil))) .nil), ?_, rfl, fun m => ?_, fun j hj => ?_⟩
      · exact ((th_pair (lt_OPN c hco) ht').one.lst).mono (by rw [Nat.add_mul]; omega) (by omega)
      · rw [show m + (i + 1) = (m + i) + 1 by omega, hN]; exact hm' m
      · cases j with
        | zero => rfl
        | succ j => rw [hN]; exact hj' j (by omega)
    · obtain ⟨v', d', y, rfl, sG, hd', ht', hL', hm', hj'⟩ := hv
      wtm_at "unf"
      wtm_at "gx"
      exact q v' d' G sG hd' ht' hL' hm' hj'
end
end K08

set_option maxHeartbeats 4000000
namespace K08
open PySem PySem.Spec PyProof.Rows L2 SX Ly
local macro_rules | `(tactic| wtm_at "unf") => `(tactic| (try simp only [tAlt, tMetX, tOwnX, tChain, tSeq, tNext, tBreak, tCont, tDrop, tRet, tRetN, tIfS, tAsg, tAug, tC, tOp, tUn, tNil, tCons, tOwn, tCB, tTest, tB, tAnd, tOr, tNot, tAndV, tOrV, tNotV, tIf, gName, gSub, tBM, tBM0, tM0, tM1, tSl, tPart_eq, tNoPart, tLst_eq, tTup_eq, tRevL_eq, tReplT, tRevS, tDGet_eq, sDPut_eq, tDNewT_eq, tMet, tMak, tFld_eq, sFld_eq, C8.tCut, wipe, tYes, gTup, gCons, gNil, List.set_cons_zero, List.set_cons_succ, if_true, if_false, Bool.false_eq_true, Bool.not_true, Bool.not_false, true_and, reduceIte, cx_K, tFor_eq, tLc_eq, iStr, iList, iTup, iRng1, iRng2, iRng3, iEnum, iZip, tLstRg, tRg1, gLst, RZ.iZipA, iEnumS, iZipS, tDNewK_eq, tDGet2, tDIn, tDNotIn, iKd]))
local macro_rules | `(tactic| wtm_at "unfA") => `(tactic| (try simp only [tAlt, tMetX, tOwnX, tChain, tSeq, tNext, tBreak, tCont, tDrop, tRet, tRetN, tIfS, tAsg, tAug, tC, tOp, tUn, tNil, tCons, tOwn, tCB, tTest, tB, tAnd, tOr, tNot, tIf, gName, gSub, tBM, tBM0, tM0, tM1, tSl, tPart_eq, tNoPart, tLst_eq, tTup_eq, tRevL_eq, tReplT, tRevS, tDGet_eq, sDPut_eq, tDNewT_eq, tMet, tMak, tFld_eq, sFld_eq, C8.tCut, wipe, tYes, gTup, gCons, gNil, List.set_cons_zero, List.set_cons_succ, if_true, if_false, Bool.false_eq_true, Bool.not_true, Bool.not_false, true_and, reduceIte, cx_K, tFor_eq, tLc_eq, iStr, iList, iTup, iRng1, iRng2, iRng3, iEnum, iZip, tLstRg, tRg1, gLst, RZ.iZipA, iEnumS, iZipS, tDNewK_eq, tDGet2, tDIn, tDNotIn, iKd]))
local macro_rules | `(tactic| wtm_at "ne") => `(tactic| first | assumption | (apply Ne.symm; assumption) | (apply ne_new; (· assumption); (· wtm_at "lk")) | (apply Ne.symm; apply ne_new; (· assumption); (· wtm_at "lk")))
local macro_rules | `(tactic| wtm_at "lk") => `(tactic| first | assumption | exact upd_same | (apply Same.get; (· assumption); (· wtm_at "lk")) | (apply But.get; (· assumption); (· wtm_at "ne"); (· wtm_at "lk")))
local macro_rules | `(tactic| wtm_at "sq") => `(tactic| first | assumption | (apply sq_of; wtm_at "lk") | (apply Same.seq; (· assumption); (· wtm_at "sq")) | (apply But.sq; (· assumption); (· wtm_at "ne"); (· wtm_at "sq")))
local macro_rules | `(tactic| wtm_at "fr") => `(tactic| first | assumption | (apply Same.fr; (· assumption); (· wtm_at "sm")) | (apply But.fr; (· assumption); (· wtm_at "sm"); (· wtm_at "ne")))
local macro_rules | `(tactic| wtm_at "sm") => `(tactic| first | exact Same.refl _ | exact But.refl | assumption | (apply Same.tr; (· assumption); (· wtm_at "sm")) | (apply Same.b0; (· assumption); (· wtm_at "sm"); (· wtm_at "fr")) | (apply But.sa; (· assumption); (· wtm_at "sm")) | (apply But.tr; (· assumption); (· wtm_at "sm")) | (apply But.b0; (· assumption); (· wtm_at "sm"); (· wtm_at "fr")) | (apply Same.toBut; wtm_at "sm"))
local macro_rules | `(tactic| wtm_at "sc") => `(tactic| first | exact Int.zero_lt_one | (show (0 : Int) < _; omega) | (show (0 : Int) < _; decide) | exact ⟨by omega, by omega⟩ | exact .inl ⟨by omega, by omega⟩ | exact .inr ⟨by omega, by omega⟩)
local macro_rules | `(tactic| wtm_at "go1") => `(tactic| first | ((with_reducible apply g_var); (· exact rfl)) | with_reducible apply g_I0 | ((with_reducible apply g_I); (· wtm_at "sc")) | with_reducible apply g_U | with_reducible apply g_ipI | ((with_reducible apply g_addT); (· first | omega | (simp; done) | (simp; omega))) | with_reducible apply g_inT | with_reducible apply g_ninT | ((with_reducible apply g_lenT); (· omega)) | with_reducible apply g_findT1 | with_reducible apply g_str | with_reducible apply g_part | with_reducible apply g_intB | ((with_reducible apply g_ixL); (· wtm_at "sq"); (· exact rfl)) | ((with_reducible apply g_setL); (· wtm_at "lk"); (· exact rfl)) | ((with_reducible apply g_eq); (· rfl)) | ((with_reducible apply g_ne); (· rfl)))
local macro_rules | `(tactic| wtm_at "go") => `(tactic| repeat wtm_at "go1")
local macro_rules | `(tactic| wtm_at "lp") => `(tactic| skip)
local macro_rules | `(tactic| wtm_at "om") => `(tactic| first | omega | (simp; done) | (simp; omega) | (simp at *; omega))
local macro_rules | `(tactic| wtm_at "ty") => `(tactic| first | exact ty_str | exact ty_int | exact ty_bl | exact ty_non | (apply ty_lst; wtm_at "lk") | (apply ty_tup; wtm_at "lk"))
local macro_rules | `(tactic| wtm_at "kb") => `(tactic| first | exact kb_str_str | exact kb_str_int | exact kb_str_bool | exact kb_str_list | exact kb_str_tuple | exact kb_int_str | exact kb_int_int | exact kb_int_bool | exact kb_int_list | exact kb_int_tuple | exact kb_bool_str | exact kb_bool_int | exact kb_bool_bool | exact kb_bool_list | exact kb_bool_tuple | exact kb_list_str | exact kb_list_int | exact kb_list_bool | exact kb_list_list | exact kb_list_tuple | exact kb_tuple_str | exact kb_tuple_int | exact kb_tuple_bool | exact kb_tuple_list | exact kb_tuple_tuple | exact kb_NoneType_str | exact kb_NoneType_int | exact kb_NoneType_bool | exact kb_NoneType_list | exact kb_NoneType_tuple | exact kb_dict_str | exact kb_dict_int | exact kb_dict_bool | exact kb_dict_list | exact kb_dict_tuple)
local macro_rules | `(tactic| wtm_at "gx1") => `(tactic| first | ((with_reducible apply g_eqS); (· exact rfl)) | ((with_reducible apply g_neS); (· exact rfl)) | wtm_at "go1" | with_reducible apply g_min2 | with_reducible apply g_max2 | with_reducible apply g_T | with_reducible apply g_F | with_reducible apply g_NT | with_reducible apply g_NF | with_reducible apply g_nT | with_reducible apply g_nF | with_reducible apply g_RT | with_reducible apply g_RF | ((with_reducible apply g_isi); (· wtm_at "ty"); (· wtm_at "kb")) | ((with_reducible apply g_ixAU3); (· wtm_at "lk"); (· exact rfl)) | ((with_reducible apply g_ixAL3); (· wtm_at "lk"); (· exact rfl)) | ((with_reducible apply g_ixU3); (· wtm_at "lk"); (· exact rfl)) | ((with_reducible apply g_lenL3); (· wtm_at "lk")) | ((with_reducible apply g_lenU3); (· wtm_at "lk")) | ((with_reducible apply g_tyL3); (· wtm_at "lk")) | ((with_reducible apply g_lenT); (· wtm_at "pv")) | wtm_at "tr" | with_reducible apply g_ET | with_reducible apply g_EF | with_reducible apply g_EnT | with_reducible apply g_EnF)
local macro_rules | `(tactic| wtm_at "pv") => `(tactic| first | exact rfl | assumption | omega | (simp; done) | (simp; omega))
local macro_rules | `(tactic| wtm_at "tr") => `(tactic| first | ((with_reducible apply g_Td); (· wtm_at "pv")) | ((with_reducible apply g_Fd); (· wtm_at "pv")) | ((with_reducible apply g_NTd); (· wtm_at "pv")) | ((with_reducible apply g_NFd); (· wtm_at "pv")) | ((with_reducible apply g_nTd); (· wtm_at "pv")) | ((with_reducible apply g_nFd); (· wtm_at "pv")) | ((with_reducible apply g_RTd); (· wtm_at "pv")) | ((with_reducible apply g_RFd); (· wtm_at "pv")))
local macro_rules | `(tactic| wtm_at "gx") => `(tactic| repeat wtm_at "gx1")
local macro_rules | `(tactic| wtm_at "unfS") => `(tactic| (try simp only [tSeq, tNext, tAsg, tFor_eq, C8.tCut, wipe, gName, tDrop, List.set_cons_zero, List.set_cons_succ, cx_K]))
local macro_rules | `(tactic| wtm_at "rd1") => `(tactic| first | exact rd_int | exact rd_str | exact rd_bl | exact rd_non | exact rda_nil | apply rda_cons | (with_reducible apply rd_tup; (· assumption)) | (with_reducible apply rd_lst; (· assumption)) | exact rd_dic (by assumption) | exact rd_var rfl (.int _) | exact rd_var rfl (.str _) | exact rd_var rfl (.bl _) | exact rd_var rfl (by assumption) | (with_reducible apply rd_cat; (· assumption)) | (with_reducible apply rd_rep2; (· assumption)) | (with_reducible apply rd_rev; (· assumption)) | (with_reducible apply rd_to; (· assumption)) | (with_reducible apply rd_from; (· assumption)) | (with_reducible apply rd_tupOf; (· assumption)) | (with_reducible apply rd_lstOf; (· assumption)) | with_reducible apply rd_lenL | with_reducible apply rd_lenT | with_reducible apply rd_I0 | with_reducible apply rd_I | with_reducible apply rd_U | with_reducible apply rd_eqI | with_reducible apply rd_ixL | with_reducible apply rd_ixT | exact atI_hd _ _ | exact ‹atI _ _ = some _›)
local macro_rules | `(tactic| wtm_at "rdl") => `(tactic| first | decide | omega | wtm_at "sc" | (simp only [List.length_append, List.length_cons, List.length_nil, List.length_map, List.length_take, List.length_drop, List.length_reverse, cutTo]; omega))
local macro_rules | `(tactic| wtm_at "rd") => `(tactic| ((repeat' wtm_at "rd1"); (all_goals wtm_at "rdl")))
local macro_rules | `(tactic| wtm_at "nc") => `(tactic| repeat' (first | assumption | exact nca_nil | exact nc_non | exact nc_bl | exact nc_dic | exact nc_tup0 | exact nc_lst0 | (refine nc_strS (by decide) (by decide)) | (refine nc_int (by omega)) | (refine nc_big (by decide +kernel)) | refine nca_app ?_ ?_ | refine nca_cons ?_ ?_ | refine nca_take ?_ | refine nca_drop ?_ | refine nca_cutTo ?_ | refine nca_rev ?_ | refine nc_tup (by decide) ?_ | refine nc_lst (by decide) ?_ | refine nc_lst (Nat.le_trans (show _ ≤ 45 by wtm_at "rdl") (by decide)) ?_ | refine nc_tup (Nat.le_trans (show _ ≤ 45 by wtm_at "rdl") (by decide)) ?_))

section
variable {P : Program} {w : World} {K : PySem.W.Frag} {mg : Str → Option Value} {base : Heap}
theorem walk_big {ds : List Nd} {i : Nat} {r : List PyData} (h : ds.length ≤ i) : walkP (some ds) (.int (i : Int) :: r) = true := by
  unfold walkP
  rw [if_pos (Int.natCast_nonneg i), Int.toNat_natCast, List.getElem?_eq_none_iff.mpr h]
theorem walk_neg {ds : List Nd} {i : Int} {r : List PyData} (h : i < 0) : walkP (some ds) (.int i :: r) = true := by
  unfold walkP
  rw [if_neg (by omega)]
theorem walk_none (r : List PyData) : walkP none r = true := by cases r <;> rfl
theorem walk_let {ds : List Nd} {i c : Nat} {r : List PyData} (h : ds[i]? = some (.let_ c)) : walkP (some ds) (.int (i : Int) :: r) = true := by
  unfold walkP
  rw [if_pos (Int.natCast_nonneg i), Int.toNat_natCast, h]
  exact walk_none r
theorem walk_br {ds es : List Nd} {i o : Nat} {r : List PyData} (h : ds[i]? = some (.br o es)) : walkP (some ds) (.int (i : Int) :: r) = walkP (some es) r := by
  conv => lhs; unfold walkP
  rw [if_pos (Int.natCast_nonneg i), Int.toNat_natCast, h]
theorem walk_x {ds : List Nd} {d : PyData} {r : List PyData} (h : ∀ i, d ≠ .int i) : walkP (some ds) (d :: r) = true := by
  cases d with
  | int i => exact absurd rfl (h i)
  | _ => rfl
theorem pb_tup {ds : List Nd} {p : PyData} {r : List PyData} (h : walkP (some ds) (p :: r) = true) : pathBad ds (.tuple (p :: r)) = true := h
theorem walk_deep : ∀ {r : List PyData} {ds : List Nd}, Nd.deeps ds < r.length → walkP (some ds) r = true
  | [], ds, h => absurd h (Nat.not_lt_zero _)
  | d :: r, ds, h => by
    by_cases hd : ∃ i, d = .int i
    · obtain ⟨i, rfl⟩ := hd
      by_cases h0 : 0 ≤ i
      · obtain ⟨k, rfl⟩ := Int.eq_ofNat_of_zero_le h0
        cases hk : ds[k]? with
        | none => exact walk_big (List.getElem?_eq_none_iff.mp hk)
        | some e =>
          cases e with
          | br o es =>
            rw [walk_br hk]
            have hdp := mem_deeps (List.mem_of_getElem? hk)
            rw [Nd.deep] at hdp
            rw [List.length_cons] at h
            exact walk_deep (by omega)
          | _ =>
            unfold walkP
            rw [if_pos (Int.natCast_nonneg k), Int.toNat_natCast, hk]
            exact walk_none r
      · exact walk_neg (by omega)
    · exact walk_x fun i e => hd ⟨i, e⟩
theorem th_int {i : Int} (h : i.natAbs < 10 ^ 100) : Th (.int i) 204 0 := ⟨by simp only [gd]; exact decide_eq_true h, Nat.le_refl _, Nat.le_refl _⟩
theorem th_nat {i : Nat} (h : i ≤ 10000000000) : Th (.int (i : Int)) 204 0 := th_int (Nat.lt_of_le_of_lt (show (i : Int).natAbs ≤ 10000000000 from h) (by decide))
theorem th_non : Th .none 204 0 := ⟨rfl, Nat.le_refl _, Nat.le_refl _⟩
theorem th_bl {b : Bool} : Th (.bool b) 204 0 := ⟨rfl, Nat.le_refl _, Nat.le_refl _⟩
theorem tha_rep {ds : List PyData} {w p : Nat} (h : ThA ds w p) (n : Nat) : ThA (List.replicate n ds).flatten (n * w) p := by
  induction n with
  | zero => exact ThA.nil
  | succ n ih => rw [List.replicate_succ, List.flatten_cons]; exact (h.app ih).mono (by rw [Nat.add_mul]; omega) (Nat.le_refl _)
def PbA (ds : List Nd) (es : List PyData) : Prop := ∀ e ∈ es, pathBad ds e = true ∧ Th e 200000 5
theorem pba_nil {ds : List Nd} : PbA ds [] := fun _ h => nomatch h
theorem pba_cons {ds : List Nd} {e : PyData} {es : List PyData} {w p : Nat} (h1 : pathBad ds e = true) (h2 : Th e w p) (h : PbA ds es) (hw : w ≤ 200000 := by decide) (hp : p ≤ 5 := by decide) : PbA ds (e :: es) := fun x hx => by
  rcases List.mem_cons.mp hx with rfl | hx
  · exact ⟨h1, h2.mono hw hp⟩
  · exact h x hx
theorem pba_app {ds : List Nd} {es fs : List PyData} (h : PbA ds es) (k : PbA ds fs) : PbA ds (es ++ fs) := fun x hx => by
  rcases List.mem_append.mp hx with hx | hx
  · exact h x hx
  · exact k x hx
/-! _law_bad_paths -/
def sp_law_bad_paths : Sp := fun vs H Q _ => ∃ (p : Addr) (P0 : Pt) (b : Addr) (xs : List V) (ds : List Nd) (A : List Addr), vs = [.ref p, .ref b] ∧ H p = some P0.o ∧ del [p] H b = some (.lst xs) ∧ TrIs (del [p] H) xs ds A ∧ ndOk ds ∧ (Nd.deeps ds ≤ 60 ∧ (txN ds).length ≤ 120) ∧
  ∀ (c : Addr) (ys : List V) (es : List PyData) (P1 : Pt) (H' : Hp), But p H H' → H' p = some P1.o → del [p] H' c = some (.lst ys) → DxAll (del [p] H') ys es → PbA ds es → es.length ≤ 20000 → Q (.ref c) H'
theorem ok_law_bad_paths (T : Facts K mg) : C8.Cal P w K mg base 3 "_law_bad_paths" sp_law_bad_paths [] := by
  refine calD T.f_law_bad_paths sc_law_bad_paths (fun vs H Q E h => ?_) (fun f cdv A outer s H vs Q E hr h => ?_)
  · obtain ⟨p, P0, b, xs, ds, A, rfl, hp, hb, ht, hk, ⟨hdp, hl⟩, q⟩ := h; rfl
  · obtain ⟨p, P0, b, xs, ds, A, rfl, hp, hb, ht, hk, ⟨hdp, hl⟩, q⟩ := h
    refine ⟨_, (pss_cons (ps_set (i := 2) sc_law_bad_paths.nd rfl (Or.inl rfl) (pe_callB call_lenL rfl T.b_len PySem.boot_len (pa_cons (pv 1) pa_nil)))
       (pss_cons (ps_set (i := 3) sc_law_bad_paths.nd rfl (Or.inl rfl) (pe_lst (pa_cons (pe_tup pa_nil) (pa_cons (pe_tup (pa_cons (pv 2) pa_nil)) (pa_cons (pe_tup (pa_cons (pe_un un_neg pe_int) pa_nil)) (pa_cons (pe_tup (pa_cons (pe_op op_add (pv 2) (pe_own (ok_law_take T) hr (by omega) rfl (pa_cons (pv 0) (pa_cons (pe_op op_pow pe_int pe_int) pa_nil)))) pa_nil)) (pa_cons (pe_lst (pa_cons pe_int pa_nil)) (pa_cons pe_non (pa_cons (pe_strS (l := [48]) (by decide +kernel)) (pa_cons pe_int pa_nil))))))))))
       (pss_cons (ps_set (i := 3) sc_law_bad_paths.nd rfl (Or.inl rfl) (pe_op op_cat (pv 3) (pe_lst (pa_cons (pe_tup (pa_cons pe_bl pa_nil)) (pa_cons (pe_tup (pa_cons (pe_strS (l := [48]) (by decide +kernel)) pa_nil)) (pa_cons (pe_tup (pa_cons pe_non pa_nil)) (pa_cons (pe_tup (pa_cons (pe_lst pa_nil) pa_nil)) pa_nil)))))))
       (pss_cons (ps_for PassesOwn.never rfl (pi_range1 rfl T.b_range (pa_cons (pv 2) pa_nil)) (pg_name (i := 4) sc_law_bad_paths.nd rfl (Or.inr rfl))
       (pss_one (ps_if (pt_val (pe_callB call_isi rfl T.b_isinstance (by decide +kernel) (pa_cons (pe_ix ix_list (pv 1) (pv 4) (fun _ _ => rfl)) (pa_cons (pe_bltn (v := .ty "tuple") rfl T.b_tuple (by decide +kernel) rfl) pa_nil))))
       (pss_cons (ps_set (i := 3) sc_law_bad_paths.nd rfl (Or.inl rfl) (pe_op op_cat (pv 3) (pe_lst (pa_cons (pe_tup (pa_cons (pv 4) (pa_cons (pe_callB call_lenL rfl T.b_len PySem.boot_len (pa_cons (pe_ix ix_seq (pe_ix ix_list (pv 1) (pv 4) (fun _ _ => rfl)) pe_int (fun _ _ => rfl)) pa_nil)) pa_nil))) (pa_cons (pe_tup (pa_cons (pv 4) (pa_cons (pe_un un_neg pe_int) pa_nil))) (pa_cons (pe_op op_repT (pe_tup (pa_cons (pv 4) (pa_cons pe_int (pa_cons pe_int (pa_cons pe_int pa_nil))))) pe_int) (pa_cons (pe_lst (pa_cons (pv 4) pa_nil)) (pa_cons (pe_tup (pa_cons (pv 4) (pa_cons pe_bl pa_nil))) pa_nil))))))))
       (pss_one (ps_set (i := 3) sc_law_bad_paths.nd rfl (Or.inl rfl) (pe_op op_cat (pv 3) (pe_lc (own := [("j", 5)]) (by rfl) sc_law_bad_paths.nd (pi_range1 rfl T.b_range (pa_cons (pe_callB call_lenL rfl T.b_len PySem.boot_len (pa_cons (pe_ix ix_seq (pe_ix ix_list (pv 1) (pv 4) (fun _ _ => rfl)) pe_int (fun _ _ => rfl)) pa_nil)) pa_nil)) (blkOk_by (own := [("j", 5)]) (N := N_law_bad_paths) (sc := defScope s_law_bad_paths) (by decide +kernel)) (fun _ _ _ _ _ => (pg_name (i := 5) sc_law_bad_paths.nd rfl (Or.inl rfl))) (fun _ _ _ _ _ => (pts_one (pt_val (pe_callB (r := rIsi K) call_isi rfl T.b_isinstance (by decide +kernel) (pa_cons (pe_ix (r := rIx K) ix_seq (pe_ix (r := rIx K) ix_seq (pe_ix (r := rIxL K) ix_list (pv 1) (pv 4) (fun _ _ => rfl)) pe_int (fun _ _ => rfl)) (pv 5) (fun _ _ => rfl)) (pa_cons (pe_bltn (v := .ty "str") rfl T.b_str (by decide +kernel) rfl) pa_nil)))))) (fun _ _ _ _ _ => (pe_tup (pa_cons (pv 4) (pa_cons (pv 5) pa_nil)))))))))
       (pss_one (ps_set (i := 3) sc_law_bad_paths.nd rfl (Or.inl rfl) (pe_op op_cat (pv 3) (pe_lst (pa_cons (pe_tup (pa_cons (pv 4) pa_nil)) (pa_cons (pe_tup (pa_cons (pv 4) (pa_cons pe_int pa_nil))) pa_nil)))))))))
       (pss_one (ps_ret (pv 3))))))), ?_⟩
    rw [st_law_bad_paths]
    wtm_at "unf"
    wtm_at "gx"
    obtain ⟨hb1, hbp0⟩ := del_un hb
    have hbp : b ≠ p := by simpa using hbp0
    have hxl := ht.len
    have hxs := nd_few hk
    have hp0 : Std [p] H := .cons hp .nil
    wtm_at "gx"
    refine g_tup (by show 0 ≤ 100000; decide) fun a1 H1 n1 s1 e1 => ?_
    wtm_at "gx"
    refine g_tup (by show 1 ≤ 100000; decide) fun a2 H2 n2 s2 e2 => ?_
    wtm_at "gx"
    refine g_tup (by show 1 ≤ 100000; decide) fun a3 H3 n3 s3 e3 => ?_
    have t3 := s1.trans (s2.trans s3)
    have eP3 := t3 _ _ hp
    wtm_at "gx"
    refine ⟨p, P0, 1000000000, rfl, eP3, by decide, by decide, fun r P1 H4 r0 r1 b4 e4 => ?_⟩
    obtain ⟨r, rfl⟩ := Int.eq_ofNat_of_zero_le r0
    wtm_at "gx"
    refine g_tup (by show 1 ≤ 100000; decide) fun a4 H5 n5 s5 e5 => ?_
    refine g_lst (by show 1 ≤ 100000; decide) fun a5 H6 n6 s6 e6 => ?_
    refine g_lst (by show 8 ≤ 100000; decide) fun a6 H7 n7 s7 e7 => ?_
    have B4 : But p H H4 := But.tr b4 (Same.toBut t3)
    have t7 := s5.trans (s6.trans s7)
    have B7 : But p H H7 := But.sa t7 B4
    have eP7 := t7 _ _ e4
    have k1 : a1 ≠ p := fun e => by rw [e, hp] at n1; cases n1
    have k2 : a2 ≠ p := fun e => by rw [e, s1 _ _ hp] at n2; cases n2
    have k3 : a3 ≠ p := fun e => by rw [e, s2 _ _ (s1 _ _ hp)] at n3; cases n3
    have k4 : a4 ≠ p := fun e => by rw [e, e4] at n5; cases n5
    have k5 : a5 ≠ p := fun e => by rw [e, s5 _ _ e4] at n6; cases n6
    have k6 : a6 ≠ p := fun e => by rw [e, s6 _ _ (s5 _ _ e4)] at n7; cases n7
    have x1 := t7 _ _ (b4 _ _ k1 (s3 _ _ (s2 _ _ e1)))
    have x2 := t7 _ _ (b4 _ _ k2 (s3 _ _ e2))
    have x3 := t7 _ _ (b4 _ _ k3 e3)
    have x4 := s7 _ _ (s6 _ _ e5)
    have x5 := s7 _ _ e6
    have cb : ∀ (vs : List V) (es : List PyData), DxAll (del [p] H7) vs es → True := fun _ _ _ => trivial
    obtain ⟨es7, hd7, hP7, hl7⟩ : ∃ es, DxAll (del [p] H7) [.ref a1, .ref a2, .ref a3, .ref a4, .ref a5, .non, Tx [48], .int 0] es ∧ PbA ds es ∧ es.length ≤ 8 := by
      refine ⟨[.tuple [], .tuple [.int (xs.length : Nat)], .tuple [.int (-1)], .tuple [.int ((xs.length : Int) + (r : Int))], .list [.int 0], .none, .str (S [48]), .int 0], ?_, ?_, Nat.le_refl 8⟩
      · exact .cons (.tup (del_get (by simpa using k1) x1) .nil) (.cons (.tup (del_get (by simpa using k2) x2) (.cons (.int _) .nil)) (.cons (.tup (del_get (by simpa using k3) x3) (.cons (.int _) .nil)) (.cons (.tup (del_get (by simpa using k4) x4) (.cons (.int _) .nil)) (.cons (.lst (del_get (by simpa using k5) x5) (.cons (.int _) .nil)) (.cons .non (.cons (.str _) (.cons (.int _) .nil)))))))
      · refine pba_cons rfl (ThA.nil (w := 0) (p := 0)).tup (pba_cons (pb_tup (walk_big (by omega))) (th_nat (by omega)).one.tup (pba_cons (pb_tup (walk_neg (by decide))) (th_int (by decide)).one.tup (pba_cons (pb_tup ?_) (th_int ?_).one.tup (pba_cons rfl (th_nat (i := 0) (by decide)).one.lst (pba_cons rfl th_non (pba_cons rfl (th_str (by decide) (by decide)) (pba_cons rfl (th_nat (i := 0) (by decide)) pba_nil)))))))
        · rw [show (xs.length : Int) + (r : Int) = ((xs.length + r : Nat) : Int) by omega]
          exact walk_big (by omega)
        · rw [show (xs.length : Int) + (r : Int) = ((xs.length + r : Nat) : Int) by omega]
          exact Nat.lt_of_le_of_lt (show xs.length + r ≤ 10000000000 by omega) (by decide)
    wtm_at "gx"
    refine g_tup (by show 1 ≤ 100000; decide) fun c1 K1 m1 u1 y1 => ?_
    refine g_tup (by show 1 ≤ 100000; decide) fun c2 K2 m2 u2 y2 => ?_
    refine g_tup (by show 1 ≤ 100000; decide) fun c3 K3 m3 u3 y3 => ?_
    refine g_lst (by show 0 ≤ 100000; decide) fun c4 K4 m4 u4 y4 => ?_
    refine g_tup (by show 1 ≤ 100000; decide) fun c5 K5 m5 u5 y5 => ?_
    refine g_lst (by show 4 ≤ 100000; decide) fun c6 K6 m6 u6 y6 => ?_
    have v6 := u1.trans (u2.trans (u3.trans (u4.trans (u5.trans u6))))
    refine g_cat (v6 _ _ e7) y6 (by show 8 + 4 ≤ 100000; decide) fun c7 K7 m7 u7 y7 => ?_
    have v7 := v6.trans u7
    have f1 := u1 _ _ eP7
    have f2 := u2 _ _ f1
    have f3 := u3 _ _ f2
    have f4 := u4 _ _ f3
    have f5 := u5 _ _ f4
    have f6 := u6 _ _ f5
    have f7 := u7 _ _ f6
    have c1p : c1 ≠ p := fun e => by rw [e, eP7] at m1; cases m1
    have c2p : c2 ≠ p := fun e => by rw [e, f1] at m2; cases m2
    have c3p : c3 ≠ p := fun e => by rw [e, f2] at m3; cases m3
    have c4p : c4 ≠ p := fun e => by rw [e, f3] at m4; cases m4
    have c5p : c5 ≠ p := fun e => by rw [e, f4] at m5; cases m5
    have c7p : c7 ≠ p := fun e => by rw [e, f6] at m7; cases m7
    have hd8 : DxAll (del [p] K7) [.ref c1, .ref c2, .ref c3, .ref c5] [.tuple [.bool true], .tuple [.str (S [48])], .tuple [.none], .tuple [.list []]] :=
      .cons (.tup (del_get (by simpa using c1p) (u7 _ _ (u6 _ _ (u5 _ _ (u4 _ _ (u3 _ _ (u2 _ _ y1))))))) (.cons (.bl _) .nil)) (.cons (.tup (del_get (by simpa using c2p) (u7 _ _ (u6 _ _ (u5 _ _ (u4 _ _ (u3 _ _ y2)))))) (.cons (.str _) .nil)) (.cons (.tup (del_get (by simpa using c3p) (u7 _ _ (u6 _ _ (u5 _ _ (u4 _ _ y3))))) (.cons .non .nil)) (.cons (.tup (del_get (by simpa using c5p) (u7 _ _ (u6 _ _ y5))) (.cons (.lst (del_get (by simpa using c4p) (u7 _ _ (u6 _ _ (u5 _ _ y4)))) .nil) .nil)) .nil)))
    have hP8 : PbA ds [.tuple [.bool true], .tuple [.str (S [48])], .tuple [.none], .tuple [.list []]] :=
      pba_cons rfl th_bl.one.tup (pba_cons rfl (th_str (by decide) (by decide)).one.tup (pba_cons rfl th_non.one.tup (pba_cons rfl (ThA.nil (w := 0) (p := 0)).lst.one.tup pba_nil)))
    have hd9 := dxa_app (hd7.sm v7) hd8
    have hP9 := pba_app hP7 hP8
    have hl9 : (es7 ++ [PyData.tuple [.bool true], .tuple [.str (S [48])], .tuple [.none], .tuple [.list []]]).length ≤ 12 := by rw [List.length_append]; show es7.length + 4 ≤ 12; omega
    generalize es7 ++ [PyData.tuple [.bool true], .tuple [.str (S [48])], .tuple [.none], .tuple [.list []]] = es9 at hd9 hP9 hl9
    have B9 : But p H K7 := But.sa v7 B7
    wtm_at "gx"
    refine ⟨_, rfl, by omega, by omega, for_rng (fun i σ G => ∃ (c : Addr) (ys : List V) (es : List PyData) (y z : Option V), σ = [some (V.ref p), some (V.ref b), some (V.int (xs.length : Nat)), some (V.ref c), y, z] ∧ But p H G ∧ G p = some P1.o ∧ del [p] G c = some (.lst ys) ∧ DxAll (del [p] G) ys es ∧ PbA ds es ∧ es.length ≤ 12 + 125 * i) ?_ (fun i σ G hi hv => ?_) (fun σ G hv => ?_)⟩
    · exact ⟨c7, _, es9, _, _, rfl, B9, f7, del_get (by simpa using c7p) y7, hd9, hP9, by omega⟩
    · obtain ⟨c, ys, es, y, z, rfl, bG, eG, hc, hdc, hPc, hlc⟩ := hv
      have hi' : i < xs.length := by omega
      rw [show (0 : Int) + (i : Int) = (i : Int) by omega]
      obtain ⟨x, hx⟩ : ∃ x, xs[i]? = some x := ⟨_, List.getElem?_eq_getElem hi'⟩
      have htG : TrIs (del [p] G) xs ds A := TrIs.same (del_but (by simp) bG) ht
      obtain ⟨d, A', hdi, htr, hA'⟩ := tri_get htG hx
      have hok := mem_ndOk (List.mem_of_getElem? hdi) hk
      have hbG := bG _ _ hbp hb1
      have hcG := (del_un hc).1
      have hyl := hdc.length
      have hcl : c ≠ p := by have := (del_un hc).2; simpa using this
      wtm_at "unf"
      wtm_at "gx"
      refine g_ixLn i (sq_of hbG) rfl hx ?_
      cases htr with
      | num z => simp [ndOk1] at hok
      | let_ l =>
        wtm_at "gx"
        refine g_tup (by show 1 ≤ 100000; decide) fun q1 K1 m1 u1 y1 => ?_
        wtm_at "gx"
        refine g_tup (by show 2 ≤ 100000; decide) fun q2 K2 m2 u2 y2 => ?_
        refine g_lst (by show 2 ≤ 100000; decide) fun q3 K3 m3 u3 y3 => ?_
        have v3 := u1.trans (u2.trans u3)
        refine g_cat (v3 _ _ hcG) y3 (by show ys.length + 2 ≤ 100000; omega) fun q4 K4 m4 u4 y4 => ?_
        have v4 := v3.trans u4
        have q1p : q1 ≠ p := fun e => by rw [e, eG] at m1; cases m1
        have q2p : q2 ≠ p := fun e => by rw [e, u1 _ _ eG] at m2; cases m2
        have q4p : q4 ≠ p := fun e => by rw [e, v3 _ _ eG] at m4; cases m4
        have hn : DxAll (del [p] K4) [.ref q1, .ref q2] [.tuple [.int (i : Nat)], .tuple [.int (i : Nat), .int 0]] :=
          .cons (.tup (del_get (by simpa using q1p) (u4 _ _ (u3 _ _ (u2 _ _ y1)))) (.cons (.int _) .nil)) (.cons (.tup (del_get (by simpa using q2p) (u4 _ _ (u3 _ _ y2))) (.cons (.int _) (.cons (.int _) .nil))) .nil)
        have ti : Th (.int (i : Nat)) 204 0 := th_nat (by omega)
        refine ⟨q4, _, _, _, _, rfl, But.sa v4 bG, v4 _ _ eG, del_get (by simpa using q4p) y4, dxa_app (hdc.sm v4) hn, pba_app hPc (pba_cons (pb_tup (walk_let hdi)) ti.one.tup (pba_cons (pb_tup (walk_let hdi)) (ti.one.app (th_nat (i := 0) (by decide)).one).tup pba_nil)), ?_⟩
        rw [List.length_append]
        show es.length + 2 ≤ _
        omega
      | @br t b' o xs' es' A2 h1 h2 h3 =>
        have h1' := (del_un h1).1
        have h2' := (del_un h2).1
        have hb'p : b' ≠ p := by have := (del_un h2).2; simpa using this
        have htp : t ≠ p := by have := (del_un h1).2; simpa using this
        rw [ndOk1] at hok
        have hxl' := h3.len
        have hxs' := nd_few hok.2
        obtain ⟨_, hsp⟩ := cut_at hdi
        have htl : (txN es').length ≤ 118 := by
          have h := congrArg (fun z => (txN z).length) hsp
          rw [txN_app, txN, txI, List.length_append, List.length_append, List.length_cons, List.length_append, List.length_singleton] at h
          omega
        wtm_at "gx"
        refine g_ixLn i (sq_of hbG) rfl hx ?_
        wtm_at "gx"
        refine g_tup (by show 2 ≤ 100000; decide) fun q1 K1 m1 u1 y1 => ?_
        wtm_at "gx"
        refine g_tup (by show 2 ≤ 100000; decide) fun q2 K2 m2 u2 y2 => ?_
        wtm_at "gx"
        refine g_tup (by show 4 ≤ 100000; decide) fun q3 K3 m3 u3 y3 => ?_
        refine ⟨q3, 20, _, rfl, rfl, st_of y3, by simp, by decide, by decide, by show 4 ≤ 1000; decide, fun q4 m4 => ?_⟩
        have u4 : Same K3 (upd K3 q4 (.tup (List.replicate (20 : Int).toNat [V.int (i : Nat), V.int 0, V.int 0, V.int 0]).flatten)) := Same.new m4
        have y4 : upd K3 q4 (.tup (List.replicate (20 : Int).toNat [V.int (i : Nat), V.int 0, V.int 0, V.int 0]).flatten) q4 = some (.tup (List.replicate 20 [V.int (i : Nat), V.int 0, V.int 0, V.int 0]).flatten) := upd_same
        generalize upd K3 q4 (.tup (List.replicate (20 : Int).toNat [V.int (i : Nat), V.int 0, V.int 0, V.int 0]).flatten) = K4 at u4 y4
        wtm_at "gx"
        refine g_lst (by show 1 ≤ 100000; decide) fun q5 K5 m5 u5 y5 => ?_
        wtm_at "gx"
        refine g_tup (by show 2 ≤ 100000; decide) fun q6 K6 m6 u6 y6 => ?_
        refine g_lst (by show 5 ≤ 100000; decide) fun q7 K7 m7 u7 y7 => ?_
        have v7 := u1.trans (u2.trans (u3.trans (u4.trans (u5.trans (u6.trans u7)))))
        refine g_cat (v7 _ _ hcG) y7 (by show ys.length + 5 ≤ 100000; omega) fun q8 K8 m8 u8 y8 => ?_
        have v8 := v7.trans u8
        have f1 := u1 _ _ eG
        have f2 := u2 _ _ f1
        have f3 := u3 _ _ f2
        have f4 := u4 _ _ f3
        have f5 := u5 _ _ f4
        have f6 := u6 _ _ f5
        have f7 := u7 _ _ f6
        have f8 := u8 _ _ f7
        have q1p : q1 ≠ p := fun e => by rw [e, eG] at m1; cases m1
        have q2p : q2 ≠ p := fun e => by rw [e, f1] at m2; cases m2
        have q4p : q4 ≠ p := fun e => by rw [e, f3] at m4; cases m4
        have q5p : q5 ≠ p := fun e => by rw [e, f4] at m5; cases m5
        have q6p : q6 ≠ p := fun e => by rw [e, f5] at m6; cases m6
        have q8p : q8 ≠ p := fun e => by rw [e, f7] at m8; cases m8
        have ti : Th (.int (i : Nat)) 204 0 := th_nat (by omega)
        have t0 : Th (.int 0) 204 0 := th_nat (i := 0) (by decide)
        have r4 : DxAll (del [p] K8) (List.replicate 20 [V.int (i : Nat), V.int 0, V.int 0, V.int 0]).flatten (List.replicate 20 [PyData.int (i : Nat), .int 0, .int 0, .int 0]).flatten := dxa_rep (.cons (.int _) (.cons (.int _) (.cons (.int _) (.cons (.int _) .nil))))
        have hn : DxAll (del [p] K8) [.ref q1, .ref q2, .ref q4, .ref q5, .ref q6] [.tuple [.int (i : Nat), .int (xs'.length : Nat)], .tuple [.int (i : Nat), .int (-1)], .tuple (List.replicate 20 [PyData.int (i : Nat), .int 0, .int 0, .int 0]).flatten, .list [.int (i : Nat)], .tuple [.int (i : Nat), .bool false]] :=
          .cons (.tup (del_get (by simpa using q1p) (u8 _ _ (u7 _ _ (u6 _ _ (u5 _ _ (u4 _ _ (u3 _ _ (u2 _ _ y1)))))))) (.cons (.int _) (.cons (.int _) .nil)))
            (.cons (.tup (del_get (by simpa using q2p) (u8 _ _ (u7 _ _ (u6 _ _ (u5 _ _ (u4 _ _ (u3 _ _ y2))))))) (.cons (.int _) (.cons (.int _) .nil)))
            (.cons (.tup (del_get (by simpa using q4p) (u8 _ _ (u7 _ _ (u6 _ _ (u5 _ _ y4))))) r4)
            (.cons (.lst (del_get (by simpa using q5p) (u8 _ _ (u7 _ _ (u6 _ _ y5)))) (.cons (.int _) .nil))
            (.cons (.tup (del_get (by simpa using q6p) (u8 _ _ (u7 _ _ y6))) (.cons (.int _) (.cons (.bl _) .nil))) .nil))))
        have hpd : pathBad ds (.tuple (List.replicate 20 [PyData.int (i : Nat), .int 0, .int 0, .int 0]).flatten) = true := by
          refine pb_tup (p := .int (i : Nat)) (r := .int 0 :: .int 0 :: .int 0 :: (List.replicate 19 [PyData.int (i : Nat), .int 0, .int 0, .int 0]).flatten) (walk_deep ?_)
          have : ((List.replicate 19 [PyData.int (i : Nat), .int 0, .int 0, .int 0]).flatten).length = 76 := rfl
          simp only [List.length_cons, this]
          omega
        have hPn : PbA ds [.tuple [.int (i : Nat), .int (xs'.length : Nat)], .tuple [.int (i : Nat), .int (-1)], .tuple (List.replicate 20 [PyData.int (i : Nat), .int 0, .int 0, .int 0]).flatten, .list [.int (i : Nat)], .tuple [.int (i : Nat), .bool false]] :=
          pba_cons (pb_tup (by rw [walk_br hdi]; exact walk_big (by omega))) (ti.one.app (th_nat (by omega)).one).tup
            (pba_cons (pb_tup (by rw [walk_br hdi]; exact walk_neg (by decide))) (ti.one.app (th_int (i := -1) (by decide)).one).tup
            (pba_cons hpd (tha_rep (ti.one.app (t0.one.app (t0.one.app t0.one))) 20).tup
            (pba_cons rfl ti.one.lst
            (pba_cons (pb_tup (by rw [walk_br hdi]; exact walk_x (fun _ h => by cases h))) (ti.one.app (th_bl (b := false)).one).tup pba_nil))))
        have hd8 := dxa_app (hdc.sm v8) hn
        have hP8 := pba_app hPc hPn
        have hl8 := congrArg List.length (rfl : es ++ [PyData.tuple [.int (i : Nat), .int (xs'.length : Nat)], .tuple [.int (i : Nat), .int (-1)], .tuple (List.replicate 20 [PyData.int (i : Nat), .int 0, .int 0, .int 0]).flatten, .list [.int (i : Nat)], .tuple [.int (i : Nat), .bool false]] = _)
        generalize hes : es ++ [PyData.tuple [.int (i : Nat), .int (xs'.length : Nat)], .tuple [.int (i : Nat), .int (-1)], .tuple (List.replicate 20 [PyData.int (i : Nat), .int 0, .int 0, .int 0]).flatten, .list [.int (i : Nat)], .tuple [.int (i : Nat), .bool false]] = es8 at hd8 hP8
        have hl8 : es8.length = es.length + 5 := by rw [← hes, List.length_append]; rfl
        have hyl8 := hd8.length
        have b8 := v8 _ _ hbG
        have b8' := v8 _ _ h2'
        have t8 := v8 _ _ h1'
        have B8 := But.sa v8 bG
        wtm_at "gx"
        refine g_ixLn i (sq_of b8) rfl hx ?_
        wtm_at "gx"
        refine ⟨_, rfl, by omega, by omega, lc_rng fun pa G0 npa s0 epa => ⟨fun j G => ∃ (ys2 : List V) (es2 : List PyData), G pa = some (.lst ys2) ∧ DxAll (del [pa, p] G) ys2 es2 ∧ PbA ds es2 ∧ es2.length ≤ j ∧ Same K8 G, ⟨[], [], epa, .nil, pba_nil, Nat.le_refl _, s0⟩, fun j G1 hj hw => ?_, fun G1 hw => ?_⟩⟩
        · obtain ⟨ys2, es2, eG1, hd2, hP2, hl2, sG1⟩ := hw
          rw [show (0 : Int) + (j : Int) = (j : Int) by omega]
          have hj' : j < xs'.length := by omega
          obtain ⟨x', hx'⟩ : ∃ x', xs'[j]? = some x' := ⟨_, List.getElem?_eq_getElem hj'⟩
          have h31 : TrIs (del [p] G1) xs' es' A2 := TrIs.same (del_same (v8.trans sG1)) h3
          obtain ⟨d', A3, hdi', htr', _⟩ := tri_get h31 hx'
          have hok' := mem_ndOk (List.mem_of_getElem? hdi') hok.2
          have hyl2 := hd2.length
          have b9 := sG1 _ _ b8
          have b9' := sG1 _ _ b8'
          have t9 := sG1 _ _ t8
          wtm_at "unf"
          refine ⟨rfl, ?_⟩
          wtm_at "gx"
          refine g_ixLn i (sq_of b9) rfl hx ?_
          wtm_at "gx"
          refine g_ixAL3 b9' (atI_of hx') ?_
          cases htr' with
          | num z => simp [ndOk1] at hok'
          | let_ l =>
            wtm_at "gx"
            refine g_tup (by show 2 ≤ 100000; decide) fun r1 G3 mr1 w1 z1 => ?_
            have r1a : r1 ≠ pa := fun e => by rw [e, eG1] at mr1; cases mr1
            have r1p : r1 ≠ p := fun e => by rw [e, sG1 _ _ f8] at mr1; cases mr1
            refine lc_put (w1 _ _ eG1) (by omega) fun G5 g5 eG5 => ?_
            have hn2 : Dx (del [pa, p] G5) (.ref r1) (.tuple [.int (i : Nat), .int (j : Nat)]) := .tup (del_get (by simpa using ⟨r1a, r1p⟩) (g5 _ _ r1a z1)) (.cons (.int _) (.cons (.int _) .nil))
            refine ⟨_, _, eG5, dxa_app ((hd2.sm w1).bt g5) (.cons hn2 .nil), pba_app hP2 (pba_cons (pb_tup (by rw [walk_br hdi]; exact walk_let hdi')) (ti.one.app (th_nat (i := j) (by omega)).one).tup pba_nil), ?_, Same.b0 g5 (sG1.trans w1) npa⟩
            rw [List.length_append]
            show es2.length + 1 ≤ _
            omega
          | br h1 h2 h3 =>
            have h1t := (del_un h1).1
            wtm_at "gx"
            exact ⟨ys2, es2, eG1, hd2, hP2, by omega, sG1⟩
        · obtain ⟨ys2, es2, eG1, hd2, hP2, hl2, sG1⟩ := hw
          have y8' := sG1 _ _ y8
          have f9 := sG1 _ _ f8
          wtm_at "gx"
          refine g_cat y8' eG1 (by show (ys ++ _).length + ys2.length ≤ 100000; rw [hyl8, hd2.length]; omega) fun q9 G2 m9 u9 y9 => ?_
          have q9p : q9 ≠ p := fun e => by rw [e, f9] at m9; cases m9
          refine ⟨q9, _, _, _, _, rfl, But.sa (sG1.trans u9) B8, u9 _ _ f9, del_get (by simpa using q9p) y9, dxa_app (hd8.sm (sG1.trans u9)) (hd2.tl.sm u9), pba_app hP8 hP2, ?_⟩
          rw [List.length_append]
          omega
    · obtain ⟨c, ys, es, y, z, rfl, bG, eG, hc, hdc, hPc, hlc⟩ := hv
      wtm_at "unf"
      wtm_at "gx"
      exact q c ys es P1 G bG eG hc hdc hPc (by omega)
theorem g_catA {K : PySem.W.Frag} {H : Hp} {Q : VK} {a b : Addr} {xs ys : List V} (ha : H a = some (.tup xs)) (hb : H b = some (.tup ys)) (hl : xs.length + ys.length ≤ 100000) (q : ∀ c H1, Same H H1 → H1 c = some (.tup (xs ++ ys)) → Q (.ref c) H1) : rCatA K (.ref a) (.ref b) H Q :=
  ⟨a, b, xs, ys, rfl, rfl, st_of ha, st_of hb, Nat.le_trans hl (by decide), fun h => q _ _ (Same.refl _) (by rw [h]; exact hb), fun _ h => q _ _ (Same.refl _) (by rw [h, List.append_nil]; exact ha), fun _ _ c nc => q _ _ (Same.new nc) upd_same⟩
theorem g_slA {K : PySem.W.Frag} {H : Hp} {Q : VK} {a : Addr} {xs : List V} {lo hi : Option Int} (ha : H a = some (.tup xs)) (q : ∀ c H1, Same H H1 → H1 c = some (.tup (cutV xs lo hi)) → Q (.ref c) H1) : rSlA K (.ref a) lo hi H Q := by
  refine ⟨a, xs, rfl, st_of ha, fun h => q _ _ (Same.refl _) ?_, fun _ c nc => q _ _ (Same.new nc) upd_same⟩
  unfold cutV
  rw [h.1, h.2, List.drop_zero, Nat.sub_zero, List.take_length]
  exact ha
def wayTo : List Nd → List Nat → Option (List Nd)
  | ds, [] => some ds
  | ds, k :: r => match ds[k]? with
    | some (.br _ es) => wayTo es r
    | _ => none
theorem way_cons {ds es : List Nd} {k o : Nat} {r : List Nat} (h : ds[k]? = some (.br o es)) : wayTo ds (k :: r) = wayTo es r := by
  conv => lhs; unfold wayTo
  rw [h]
theorem way_inv {ds es : List Nd} {k : Nat} {r : List Nat} (h : wayTo ds (k :: r) = some es) : ∃ o fs, ds[k]? = some (.br o fs) ∧ wayTo fs r = some es := by
  unfold wayTo at h
  split at h
  · rename_i o fs e; exact ⟨o, fs, e, h⟩
  · cases h
theorem way_more : ∀ {ks : List Nat} {ds es fs : List Nd} {k o : Nat}, wayTo ds ks = some es → es[k]? = some (.br o fs) → wayTo ds (ks ++ [k]) = some fs
  | [], ds, es, fs, k, o, h, e => by
    cases (show some ds = some es from h)
    rw [List.nil_append, way_cons e]
    rfl
  | j :: ks, ds, es, fs, k, o, h, e => by
    obtain ⟨o', gs, e', h'⟩ := way_inv h
    rw [List.cons_append, way_cons e']
    exact way_more h' e
def itP (ks : List Nat) : List PyData := ks.map fun k : Nat => PyData.int (k : Int)
def itV (ks : List Nat) : List V := ks.map fun k : Nat => V.int (k : Int)
theorem walk_way : ∀ {ks : List Nat} {ds es : List Nd} {r : List PyData}, wayTo ds ks = some es → walkP (some ds) (itP ks ++ r) = walkP (some es) r
  | [], ds, es, r, h => by cases (show some ds = some es from h); rfl
  | j :: ks, ds, es, r, h => by
    obtain ⟨o', gs, e', h'⟩ := way_inv h
    show walkP (some ds) (.int (j : Int) :: (itP ks ++ r)) = _
    rw [walk_br e']
    exact walk_way h'
theorem pb_l {ds : List Nd} {l : List PyData} (h : walkP (some ds) l = true) : pathBad ds (.tuple l) = true := by
  cases l with
  | nil => rfl
  | cons p r => exact h
theorem dxa_it {H : Hp} : ∀ ks : List Nat, DxAll H (itV ks) (itP ks)
  | [] => .nil
  | k :: ks => .cons (.int _) (dxa_it ks)
theorem tha_it : ∀ {ks : List Nat}, (∀ k ∈ ks, k ≤ 1000) → ThA (itP ks) (206 * ks.length) 0
  | [], _ => ThA.nil
  | k :: ks, h => by
    have h1 : Th (.int (k : Int)) 204 0 := th_nat (by have := h k (List.mem_cons_self ..); omega)
    exact (h1.one.app (tha_it fun x hx => h x (List.mem_cons_of_mem _ hx))).mono (by rw [List.length_cons]; omega) (Nat.le_refl _)
theorem itV_len (ks : List Nat) : (itV ks).length = ks.length := by unfold itV; rw [List.length_map]
/-- what a level makes of one thing, whatever comes behind -/
def Bd (es : List Nd) (d : PyData) : Prop := (∀ r, walkP (some es) (d :: r) = true) ∧ Th d 1000 2
def noB (es : List Nd) : Prop := ∀ (k o : Nat) (fs : List Nd), es[k]? ≠ some (Nd.br o fs)
theorem small_log {k : Nat} (h : k ≤ 120) : ((k : Int)).natAbs.log2 < 1920 := by
  have h2 : ∀ k, k ≤ 120 → Nat.log2 k < 1920 := by decide +kernel
  exact h2 k h
theorem th_shown {k : Nat} (h : k ≤ 120) : Th (.str (Str.ofString (toString (k : Int)))) 204 0 := by
  have h2 : ∀ k, k ≤ 120 → gd (.str (Str.ofString (toString ((k : Nat) : Int)))) = true := by decide +kernel
  exact ⟨h2 k h, Nat.le_refl _, Nat.le_refl _⟩
theorem no_br {es : List Nd} (hk : ndOk es) (h : noB es) {k : Nat} {r : List PyData} : walkP (some es) (.int (k : Int) :: r) = true := by
  cases e : es[k]? with
  | none => exact walk_big (List.getElem?_eq_none_iff.mp e)
  | some d =>
    cases d with
    | br o fs => exact absurd e (h k o fs)
    | let_ c => exact walk_let e
    | num i => have := mem_ndOk (List.mem_of_getElem? e) hk; simp [ndOk1] at this
theorem lc_pairs {K : PySem.W.Frag} {G0 : Hp} {Q : VK} {a0 a2 a3 a4 a5 a6 a7 a8 a9 a10 : Option V} {b : Addr} {xs : List V} {ds : List Nd} {A : List Addr} {n : Nat} (hb : G0 b = some (.lst xs)) (ht : TrIs G0 xs ds A) (hk : ndOk ds) (hn : n = xs.length) (hx : xs.length ≤ 1000)
    (q : ∀ (pr : Addr) (ps : List Nat) (H' : Hp), G0 pr = none → Same G0 H' → H' pr = some (.lst (itV ps)) → ps.length ≤ xs.length → (∀ k ∈ ps, ∃ o es, ds[k]? = some (.br o es)) → (ps = [] → noB ds) → Q (.ref pr) H') :
    LcR (Itr 0 n) (gName 10) (tB (tCB (rIsi K) (tCons (tOp (rIxL K) (tVar 1) (tVar 10)) (tCons (tC (V.ty "tuple")) tNil)))) (tVar 10) (List.map (fun x => x.snd) [(Str.ofString "k", 10)]) [a0, some (V.ref b), a2, a3, a4, a5, a6, a7, a8, a9, a10] G0 Q := by
  subst hn
  have hxl := ht.len
  refine lc_rng fun pa H2 npa s2 epa => ⟨fun i G => ∃ ps : List Nat, G pa = some (.lst (itV ps)) ∧ ps.length ≤ i ∧ (∀ k ∈ ps, ∃ o es, ds[k]? = some (.br o es)) ∧ (ps = [] → ∀ k o es, k < i → ds[k]? ≠ some (.br o es)) ∧ Same G0 G, ⟨[], epa, Nat.le_refl _, (fun _ h => nomatch h), (fun _ k _ _ h => absurd h (Nat.not_lt_zero k)), s2⟩, fun i G hi hv => ?_, fun G hv => ?_⟩
  · obtain ⟨ps, eG, hpl, hps, hp0, sG⟩ := hv
    have hx' : xs[i]? = some xs[i] := List.getElem?_eq_getElem hi
    obtain ⟨d, A', hdi, htr, hA'⟩ := tri_get (TrIs.same sG ht) hx'
    have hok := mem_ndOk (List.mem_of_getElem? hdi) hk
    rw [show (0 : Int) + (i : Int) = (i : Int) by omega]
    wtm_at "unf"
    refine ⟨rfl, ?_⟩
    wtm_at "gx"
    refine g_ixLn i (sq_of (sG _ _ hb)) rfl hx' ?_
    generalize xs[i] = vi at htr
    cases htr with
    | let_ c =>
      wtm_at "gx"
      refine ⟨ps, eG, by omega, hps, fun h k o es hki => ?_, sG⟩
      by_cases e : k = i
      · subst e; rw [hdi]; intro h; cases h
      · exact hp0 h k o es (by omega)
    | num z => simp [ndOk1] at hok
    | @br t b' o xs' ds' A2 h1 h2 h3 =>
      wtm_at "gx"
      refine lc_put eG (by rw [itV_len]; omega) fun G2 g2 e2 => ⟨ps ++ [i], by unfold itV; rw [List.map_append]; exact e2, by simp; omega, fun k hk' => ?_, fun h => absurd h (by simp), Same.b0 g2 sG npa⟩
      rcases List.mem_append.mp hk' with h | h
      · exact hps k h
      · rw [List.mem_singleton.mp h]; exact ⟨_, _, hdi⟩
  · obtain ⟨ps, eG, hpl, hps, hp0, sG⟩ := hv
    refine q pa ps G npa sG eG hpl hps fun h k o es e => ?_
    have := (List.getElem?_eq_some_iff.mp e).1
    exact hp0 h k o es (by omega) e
/-! _law_deep_paths -/
def sp_law_deep_paths : Sp := fun vs H Q _ => ∃ (p : Addr) (P0 : Pt) (b : Addr) (xs : List V) (ds : List Nd) (A : List Addr), vs = [.ref p, .ref b] ∧ H p = some P0.o ∧ del [p] H b = some (.lst xs) ∧ TrIs (del [p] H) xs ds A ∧ ndOk ds ∧ (Nd.deeps ds ≤ 60 ∧ (txN ds).length ≤ 120) ∧
  ∀ (c : Addr) (ys : List V) (es : List PyData) (P1 : Pt) (H' : Hp), But p H H' → H' p = some P1.o → del [p] H' c = some (.lst ys) → DxAll (del [p] H') ys es → PbA ds es → es.length ≤ 20000 → Q (.ref c) H'
theorem ok_law_deep_paths (T : Facts K mg) : C8.Cal P w K mg base 3 "_law_deep_paths" sp_law_deep_paths [] := by
  refine calD T.f_law_deep_paths sc_law_deep_paths (fun vs H Q E h => ?_) (fun f cdv A outer s H vs Q E hr h => ?_)
  · obtain ⟨p, P0, b, xs, ds, A, rfl, hp, hb, ht, hk, ⟨hdp, hl⟩, q⟩ := h; rfl
  · obtain ⟨p, P0, b, xs, ds, A, rfl, hp, hb, ht, hk, ⟨hdp, hl⟩, q⟩ := h
    refine ⟨_, (pss_cons (ps_set (i := 2) sc_law_deep_paths.nd rfl (Or.inr rfl) (pe_tup pa_nil))
       (pss_cons (ps_set (i := 3) sc_law_deep_paths.nd rfl (Or.inl rfl) (pe_lst pa_nil))
       (pss_cons (ps_set (i := 4) sc_law_deep_paths.nd rfl (Or.inl rfl) (pe_lst pa_nil))
       (pss_cons (ps_setLc (i := 5) (own := [("k", 10)]) (by rfl) sc_law_deep_paths.nd rfl rfl (sw_true rfl rfl rfl (by decide +kernel)) (pi_range1 rfl T.b_range (pa_cons (pe_callB call_lenL rfl T.b_len PySem.boot_len (pa_cons (pv 1) pa_nil)) pa_nil)) (blkOk_by (own := [("k", 10)]) (N := N_law_deep_paths) (sc := defScope s_law_deep_paths) (by decide +kernel)) (fun _ _ _ _ _ => (pg_name (i := 10) sc_law_deep_paths.nd rfl (Or.inl rfl))) (fun _ _ _ _ _ => (pts_one (pt_val (pe_callB (r := rIsi K) call_isi rfl T.b_isinstance (by decide +kernel) (pa_cons (pe_ix (r := rIxL K) ix_list (pv 1) (pv 10) (fun _ _ => rfl)) (pa_cons (pe_bltn (v := .ty "tuple") rfl T.b_tuple (by decide +kernel) rfl) pa_nil)))))) (fun _ _ _ _ _ => (pv 10)))
       (pss_cons (ps_while PassesOwn.never (pt_cmpR (op_neE hr.units) (pv 5) (pe_lst pa_nil) (nomark _))
       (pss_cons (ps_set (i := 6) sc_law_deep_paths.nd rfl (Or.inl rfl) (pe_ix ix_list (pv 5) (pe_own (ok_law_take T) hr (by omega) rfl (pa_cons (pv 0) (pa_cons (pe_callB call_lenL rfl T.b_len PySem.boot_len (pa_cons (pv 5) pa_nil)) pa_nil))) (fun _ _ => rfl)))
       (pss_cons (ps_set (i := 2) sc_law_deep_paths.nd rfl (Or.inr rfl) (pe_op op_catA (pv 2) (pe_tup (pa_cons (pv 6) pa_nil))))
       (pss_cons (ps_expr (pe_bm PySem.F.plainAttrs_list PySem.F.slot_list_append PySem.F.type_list_append mt_append (pv 3) (pa_cons (pe_callB call_lenL rfl T.b_len PySem.boot_len (pa_cons (pv 1) pa_nil)) pa_nil)))
       (pss_cons (ps_set (i := 1) sc_law_deep_paths.nd rfl (Or.inr rfl) (pe_ix ix_seq (pe_ix ix_list (pv 1) (pv 6) (fun _ _ => rfl)) pe_int (fun _ _ => rfl)))
       (pss_one (ps_setLc (i := 5) (own := [("k", 10)]) (by rfl) sc_law_deep_paths.nd rfl rfl (sw_true rfl rfl rfl (by decide +kernel)) (pi_range1 rfl T.b_range (pa_cons (pe_callB call_lenL rfl T.b_len PySem.boot_len (pa_cons (pv 1) pa_nil)) pa_nil)) (blkOk_by (own := [("k", 10)]) (N := N_law_deep_paths) (sc := defScope s_law_deep_paths) (by decide +kernel)) (fun _ _ _ _ _ => (pg_name (i := 10) sc_law_deep_paths.nd rfl (Or.inl rfl))) (fun _ _ _ _ _ => (pts_one (pt_val (pe_callB (r := rIsi K) call_isi rfl T.b_isinstance (by decide +kernel) (pa_cons (pe_ix (r := rIxL K) ix_list (pv 1) (pv 10) (fun _ _ => rfl)) (pa_cons (pe_bltn (v := .ty "tuple") rfl T.b_tuple (by decide +kernel) rfl) pa_nil)))))) (fun _ _ _ _ _ => (pv 10)))))))))
       (pss_cons (ps_for PassesOwn.never rfl (pi_enum rfl T.b_enumerate (pa_cons (pv 3) pa_nil)) (pg_tup rfl (pgs_cons (pg_name (i := 6) sc_law_deep_paths.nd rfl (Or.inl rfl)) (pgs_cons (pg_name (i := 7) sc_law_deep_paths.nd rfl (Or.inl rfl)) pgs_nil)))
       (pss_cons (ps_set (i := 8) sc_law_deep_paths.nd rfl (Or.inl rfl) (pe_ix ix_tup (pv 2) (pv 6) (fun _ _ => rfl)))
       (pss_one (ps_for PassesOwn.never rfl (pi_list (pe_lst (pa_cons (pe_un un_neg pe_int) (pa_cons (pe_op op_sub (pv 8) (pv 7)) (pa_cons (pv 7) (pa_cons (pe_op op_add (pv 8) (pv 7)) (pa_cons (pe_callTy call_str_int rfl T.b_str (by decide +kernel) (pa_cons (pv 8) pa_nil)) (pa_cons pe_non (pa_cons (pe_lst (pa_cons (pv 8) pa_nil)) (pa_cons (pe_tup (pa_cons (pv 8) pa_nil)) (pa_cons (pe_ix ix_list (pe_lst (pa_cons pe_bl (pa_cons pe_bl (pa_cons (pe_strS (l := [120]) (by decide +kernel)) pa_nil)))) (pe_callB (call_min2' rfl) rfl T.b_min (by decide +kernel) (pa_cons (pv 8) (pa_cons pe_int pa_nil))) (fun _ _ => rfl)) pa_nil))))))))))) (pg_name (i := 9) sc_law_deep_paths.nd rfl (Or.inl rfl))
       (pss_one (ps_expr (pe_bm PySem.F.plainAttrs_list PySem.F.slot_list_append PySem.F.type_list_append mt_append (pv 4) (pa_cons (pe_op op_catA (pe_op op_catA (pe_slice sl_tupA (pv 2) po_none (po_some (pv 6))) (pe_tup (pa_cons (pv 9) pa_nil))) (pe_slice sl_tupA (pv 2) (po_some (pe_op op_add (pv 6) pe_int)) po_none)) pa_nil))))))))
       (pss_cons (ps_expr (pe_bm PySem.F.plainAttrs_list PySem.F.slot_list_append PySem.F.type_list_append mt_append (pv 4) (pa_cons (pe_callTy (r := rListOf K) call_listOf rfl T.b_list (by decide +kernel) (pa_cons (pv 2) pa_nil)) pa_nil)))
       (pss_one (ps_ret (pe_op op_cat (pe_op op_cat (pv 4) (pe_lc (own := [("k", 10)]) (by rfl) sc_law_deep_paths.nd (pi_range1 rfl T.b_range (pa_cons (pe_op op_add (pe_callB call_lenL rfl T.b_len PySem.boot_len (pa_cons (pv 1) pa_nil)) pe_int) pa_nil)) (blkOk_by (own := [("k", 10)]) (N := N_law_deep_paths) (sc := defScope s_law_deep_paths) (by decide +kernel)) (fun _ _ _ _ _ => (pg_name (i := 10) sc_law_deep_paths.nd rfl (Or.inl rfl))) (fun _ _ _ _ _ => pts_nil) (fun _ _ _ _ _ => (pe_op (r := rCatA K) op_catA (pv 2) (pe_tup (pa_cons (pv 10) pa_nil)))))) (pe_lc (own := [("k", 10)]) (by rfl) sc_law_deep_paths.nd (pi_range1 rfl T.b_range (pa_cons (pe_callB call_lenL rfl T.b_len PySem.boot_len (pa_cons (pv 1) pa_nil)) pa_nil)) (blkOk_by (own := [("k", 10)]) (N := N_law_deep_paths) (sc := defScope s_law_deep_paths) (by decide +kernel)) (fun _ _ _ _ _ => (pg_name (i := 10) sc_law_deep_paths.nd rfl (Or.inl rfl))) (fun _ _ _ _ _ => pts_nil) (fun _ _ _ _ _ => (pe_op (r := rCatA K) op_catA (pv 2) (pe_tup (pa_cons (pv 10) (pa_cons pe_int pa_nil)))))))))))))))), ?_⟩
    rw [st_law_deep_paths]
    wtm_at "unf"
    wtm_at "gx"
    obtain ⟨hb1, hbp0⟩ := del_un hb
    have hbp : b ≠ p := by simpa using hbp0
    have hxl := ht.len
    have hxs := nd_few hk
    refine g_tup (by show 0 ≤ 100000; decide) fun pa0 H1 n1 s1 e1 => ?_
    refine g_lst (by show 0 ≤ 100000; decide) fun sz H2 n2 s2 e2 => ?_
    refine g_lst (by show 0 ≤ 100000; decide) fun fo H3 n3 s3 e3 => ?_
    have s23 := s2.trans s3
    have s123 := s1.trans s23
    have p1 := s1 _ _ hp
    have p2 := s2 _ _ p1
    have p3 := s3 _ _ p2
    have szp : sz ≠ p := fun e => by rw [e, p1] at n2; cases n2
    have fop : fo ≠ p := fun e => by rw [e, p2] at n3; cases n3
    have fosz : fo ≠ sz := fun e => by rw [e, e2] at n3; cases n3
    have hb3 := s123 _ _ hb1
    have nsz : H sz = none := s1.free n2
    have nfo : H fo = none := s1.free (s2.free n3)
    have D3 : ∀ a o, del [p] H a = some o → del [fo, sz, p] H3 a = some o := fun a o h => by
      have h1 := (del_un h).1
      have z1 : a ≠ sz := fun e => by rw [e, nsz] at h1; cases h1
      have z2 : a ≠ fo := fun e => by rw [e, nfo] at h1; cases h1
      have z3 : a ≠ p := by have := (del_un h).2; simpa using this
      exact del_get (by simp [z1, z2, z3]) (s23 _ _ (s1 _ _ h1))
    have ht3 := TrIs.same D3 ht
    wtm_at "gx"
    refine ⟨_, rfl, by omega, by omega, lc_pairs hb3 (TrIs.same (fun a o h => (del_un h).1) ht3) hk (by omega) (by omega) fun pr ps H4 n4 s4 e4 hpl hps hp0 => ?_⟩
    have p4 := s4 _ _ p3
    have prp : pr ≠ p := fun e => by rw [e, p3] at n4; cases n4
    have prsz : pr ≠ sz := fun e => by rw [e, s3 _ _ e2] at n4; cases n4
    refine g_while (fun m σ G => ∃ (b' pa pr : Addr) (xs' : List V) (es : List Nd) (A' : List Addr) (ks ps szs : List Nat) (P : Pt) (y6 y10 : Option V), σ = [some (V.ref p), some (V.ref b'), some (V.ref pa), some (V.ref sz), some (V.ref fo), some (V.ref pr), y6, none, none, none, y10] ∧ But p H G ∧ G p = some P.o ∧ del [fo, sz, p] G b' = some (.lst xs') ∧ TrIs (del [fo, sz, p] G) xs' es A' ∧ ndOk es ∧ Nd.deeps es + ks.length ≤ 60 ∧ (txN es).length ≤ 120 ∧ G pa = some (.tup (itV ks)) ∧ G sz = some (.lst (itV szs)) ∧ G fo = some (.lst []) ∧ G pr = some (.lst (itV ps)) ∧ pr ≠ p ∧ pr ≠ sz ∧ (∀ k ∈ ps, ∃ o fs, es[k]? = some (.br o fs)) ∧ (ps = [] → noB es) ∧ ps.length ≤ 120 ∧ wayTo ds ks = some es ∧ szs.length = ks.length ∧ (∀ at_, at_ < ks.length → ∃ fs k, wayTo ds (ks.take at_) = some fs ∧ szs[at_]? = some fs.length ∧ ks[at_]? = some k ∧ k < fs.length ∧ fs.length ≤ 120) ∧ m = Nd.deeps es) (Nd.deeps ds)
      ⟨b, pa0, pr, xs, ds, A, [], ps, [], P0, _, _, rfl, Same.toBut (s123.trans s4), p4, del_same s4 _ _ (D3 _ _ hb), TrIs.same (del_same s4) ht3, hk, by show _ + 0 ≤ 60; omega, hl, s4 _ _ (s23 _ _ e1), s4 _ _ (s3 _ _ e2), s4 _ _ e3, e4, prp, prsz, hps, hp0, by omega, rfl, rfl, fun _ h => absurd h (Nat.not_lt_zero _), rfl⟩ fun m σ G hv => ?_
    obtain ⟨b', pa, pr, xs', es, A', ks, ps, szs, P, y6, y10, rfl, bG, eG, hb', ht', hk', hdk, hl', epa, esz, efo, epr, prp, prsz, hps, hp0, hpl, hw, hsl, hat, rfl⟩ := hv
    have hbG := (del_un hb').1
    have hxl' := ht'.len
    have hxs' := nd_few hk'
    wtm_at "unf"
    wtm_at "gx"
    refine g_lst (by show 0 ≤ 100000; decide) fun em G1 nem s1 eem => ?_
    refine g_neE (sq_of (s1 _ _ epr)) eem ?_
    by_cases h0 : ps = []
    · subst h0
      refine ⟨false, rfl, ?_⟩
      rw [if_neg Bool.false_ne_true]
      have hnb := hp0 rfl
      wtm_at "unf"
      wtm_at "gx"
      have gb1 := s1 _ _ hbG
      have epa1 := s1 _ _ epa
      have esz1 := s1 _ _ esz
      have efo1 := s1 _ _ efo
      have eG1 := s1 _ _ eG
      have pafo : pa ≠ fo := fun e => by rw [e, efo] at epa; cases epa
      have B1 : But p H G1 := But.sa s1 bG
      have hks : ∀ k ∈ ks, k ≤ 1000 := by
        intro k hk1
        obtain ⟨j, hj⟩ := List.mem_iff_getElem?.mp hk1
        have hjl := (List.getElem?_eq_some_iff.mp hj).1
        obtain ⟨fs, k1, _, _, w3, w4, w5⟩ := hat j hjl
        rw [hj] at w3
        cases w3
        omega
      refine ⟨_, _, rfl, sq_of esz1, for_enum (itV szs) (fun pre σ G2 => ∃ (fs : List PyData) (ys : List V) (y6 y7 y8 y9 : Option V), σ = [some (V.ref p), some (V.ref b'), some (V.ref pa), some (V.ref sz), some (V.ref fo), some (V.ref pr), y6, y7, y8, y9, y10] ∧ But fo G1 G2 ∧ G2 fo = some (.lst ys) ∧ DxAll (del [fo, p] G2) ys fs ∧ PbA ds fs ∧ fs.length ≤ 9 * pre.length) ⟨[], [], _, _, _, _, rfl, But.refl, efo1, .nil, pba_nil, Nat.zero_le _⟩ (fun pre post σ G2 e hv => ?_) (fun pre x post σ G2 t G3 e hv nt st et => ?_) (fun σ G2 hv => ?_)⟩
      · obtain ⟨fs, ys, y6, y7, y8, y9, rfl, B2, _⟩ := hv
        exact sq_of (B2 _ _ fosz.symm esz1)
      · obtain ⟨fs, ys, y6, y7, y8, y9, rfl, B2, f2, hd2, hP2, hl2⟩ := hv
        have hpre : pre.length < ks.length := by
          have := congrArg List.length e
          rw [itV_len, List.length_append, List.length_cons] at this
          omega
        obtain ⟨es1, k, w1, w2, w3, w4, w5⟩ := hat pre.length hpre
        obtain rfl : x = V.int (es1.length : Nat) := by
          have h1 : (itV szs)[pre.length]? = some x := by rw [e, List.getElem?_append_right (Nat.le_refl _), Nat.sub_self]; rfl
          unfold itV at h1
          rw [List.getElem?_map, w2] at h1
          exact (Option.some.inj h1).symm
        wtm_at "unf"
        refine ⟨t, _, rfl, st_of et, rfl, _, _, rfl, _, _, rfl, rfl, ?_⟩
        wtm_at "gx"
        have epa3 := st _ _ (B2 _ _ pafo epa1)
        have efo3 := st _ _ f2
        have eG3 := st _ _ (B2 _ _ fop.symm eG1)
        have hkix : (itV ks)[pre.length]? = some (V.int (k : Nat)) := by unfold itV; rw [List.getElem?_map, w3]; rfl
        refine g_ixU3 epa3 (atI_of hkix) ?_
        wtm_at "gx"
        have hk5 : k ≤ 120 := by omega
        refine ⟨_, rfl, small_log hk5, ?_⟩
        wtm_at "gx"
        refine g_lst (by show 1 ≤ 100000; decide) fun l1 K1 m1 u1 z1 => ?_
        wtm_at "gx"
        refine g_tup (by show 1 ≤ 100000; decide) fun l2 K2 m2 u2 z2 => ?_
        refine g_lst (by show 3 ≤ 100000; decide) fun l3 K3 m3 u3 z3 => ?_
        wtm_at "gx"
        have fA := u1 _ _ efo3
        have fB := u2 _ _ fA
        have fC := u3 _ _ fB
        have gA := u1 _ _ eG3
        have gB := u2 _ _ gA
        have gC := u3 _ _ gB
        obtain ⟨j, vX, dX, hj, hvX, hdX, hBX⟩ : ∃ (j : Nat) (vX : V) (dX : PyData), min (k : Int) 2 = (j : Int) ∧ ([V.bl false, V.bl true, Tx [120]] : List V)[j]? = some vX ∧ (∀ H, Dx H vX dX) ∧ Bd es1 dX := by
          by_cases h0 : k = 0
          · exact ⟨0, _, .bool false, by omega, rfl, fun _ => .bl _, fun r => walk_x (fun _ h => by cases h), th_bl.mono (by decide) (by decide)⟩
          · by_cases h1 : k = 1
            · exact ⟨1, _, .bool true, by omega, rfl, fun _ => .bl _, fun r => walk_x (fun _ h => by cases h), th_bl.mono (by decide) (by decide)⟩
            · exact ⟨2, _, .str (S [120]), by omega, rfl, fun _ => .str _, fun r => walk_x (fun _ h => by cases h), (th_str (by decide) (by decide)).mono (by decide) (by decide)⟩
        refine g_ixLn j (sq_of z3) hj hvX ?_
        refine g_lst (by show 9 ≤ 100000; decide) fun la K4 m4 u4 z4 => ?_
        have fD := u4 _ _ fC
        have gD := u4 _ _ gC
        have U := u1.trans (u2.trans (u3.trans u4))
        have laf : la ≠ fo := fun e => by rw [e, fC] at m4; cases m4
        have l1f : l1 ≠ fo := fun e => by rw [e, efo3] at m1; cases m1
        have l1p : l1 ≠ p := fun e => by rw [e, eG3] at m1; cases m1
        have l2f : l2 ≠ fo := fun e => by rw [e, fA] at m2; cases m2
        have l2p : l2 ≠ p := fun e => by rw [e, gA] at m2; cases m2
        have epa4 := U _ _ epa3
        have tk : Th (.int (k : Nat)) 204 0 := th_nat (by omega)
        obtain ⟨vs9, ds9, hvs, hd9, hb9, hl9⟩ : ∃ (vs9 : List V) (ds9 : List PyData), [V.int (-1), V.int ((k : Int) - (es1.length : Int)), V.int (es1.length : Nat), V.int ((k : Int) + (es1.length : Int)), V.str (Str.ofString (toString (k : Int))), V.non, V.ref l1, V.ref l2, vX] = vs9 ∧ DxAll (del [fo, p] K4) vs9 ds9 ∧ (∀ d ∈ ds9, Bd es1 d) ∧ vs9.length = 9 := by
          refine ⟨_, [.int (-1), .int ((k : Int) - (es1.length : Int)), .int (es1.length : Nat), .int ((k : Int) + (es1.length : Int)), .str (Str.ofString (toString (k : Int))), .none, .list [.int (k : Nat)], .tuple [.int (k : Nat)], dX], rfl, .cons (.int _) (.cons (.int _) (.cons (.int _) (.cons (.int _) (.cons (.str _) (.cons .non (.cons (.lst (del_get (by simp [l1f, l1p]) (u4 _ _ (u3 _ _ (u2 _ _ z1)))) (.cons (.int _) .nil)) (.cons (.tup (del_get (by simp [l2f, l2p]) (u4 _ _ (u3 _ _ z2))) (.cons (.int _) .nil)) (.cons (hdX _) .nil)))))))), fun d hd => ?_, rfl⟩
          simp only [List.mem_cons, List.not_mem_nil, or_false] at hd
          rcases hd with rfl | rfl | rfl | rfl | rfl | rfl | rfl | rfl | rfl
          · exact ⟨fun r => walk_neg (by decide), (th_int (by decide)).mono (by decide) (by decide)⟩
          · exact ⟨fun r => walk_neg (by omega), (th_int (Nat.lt_of_le_of_lt (show ((k : Int) - (es1.length : Int)).natAbs ≤ 1000 by omega) (by decide))).mono (by decide) (by decide)⟩
          · exact ⟨fun r => walk_big (Nat.le_refl _), (th_nat (by omega)).mono (by decide) (by decide)⟩
          · refine ⟨fun r => ?_, (th_int (Nat.lt_of_le_of_lt (show ((k : Int) + (es1.length : Int)).natAbs ≤ 1000 by omega) (by decide))).mono (by decide) (by decide)⟩
            rw [show (k : Int) + (es1.length : Int) = ((k + es1.length : Nat) : Int) by omega]
            exact walk_big (by omega)
          · exact ⟨fun r => walk_x (fun _ h => by cases h), (th_shown hk5).mono (by decide) (by decide)⟩
          · exact ⟨fun r => walk_x (fun _ h => by cases h), th_non.mono (by decide) (by decide)⟩
          · exact ⟨fun r => walk_x (fun _ h => by cases h), tk.one.lst.mono (by decide) (by decide)⟩
          · exact ⟨fun r => walk_x (fun _ h => by cases h), tk.one.tup.mono (by decide) (by decide)⟩
          · exact hBX
        rw [hvs] at z4
        have hdI := hd2.sm (st.trans U)
        refine ⟨la, rfl, ⟨_, sq_of z4⟩, for_lst vs9 (fun pre2 σ G4 => ∃ (fs : List PyData) (ys : List V) (y9 : Option V), σ = [some (V.ref p), some (V.ref b'), some (V.ref pa), some (V.ref sz), some (V.ref fo), some (V.ref pr), some (V.int (pre.length : Nat)), some (V.int (es1.length : Nat)), some (V.int (k : Nat)), y9, y10] ∧ But fo K4 G4 ∧ G4 fo = some (.lst ys) ∧ DxAll (del [fo, p] G4) ys fs ∧ PbA ds fs ∧ fs.length ≤ 9 * pre.length + pre2.length) ⟨fs, ys, _, rfl, But.refl, fD, hdI, hP2, hl2⟩ (fun pre2 post2 σ G4 e2 hw => ?_) (fun pre2 x2 post2 σ G4 e2 hw => ?_) (fun σ G4 hw => ?_)⟩
        · obtain ⟨fs3, ys3, y9', rfl, b3, f3, hd3, hP3, hl3⟩ := hw
          exact sq_of (b3 _ _ laf z4)
        · obtain ⟨fs3, ys3, y9', rfl, b3, f3, hd3, hP3, hl3⟩ := hw
          obtain ⟨dx, hdx, hmx, _⟩ := dxa_turn hd9 e2
          obtain ⟨hw9, th9⟩ := hb9 dx hmx
          have hpl2 : pre2.length < 9 := by
            have := congrArg List.length e2
            rw [hl9, List.length_append, List.length_cons] at this
            omega
          have hyl3 := hd3.length
          have epa5 := b3 _ _ pafo epa4
          have g5 := b3 _ _ fop.symm gD
          wtm_at "unf"
          wtm_at "gx"
          refine g_slA epa5 fun c1 M1 u1 x1 => ?_
          rw [cut_to] at x1
          wtm_at "gx"
          refine g_tup (by show 1 ≤ 100000; decide) fun c2 M2 mm2 u2 x2' => ?_
          refine g_catA (u2 _ _ x1) x2' (by rw [List.length_take, itV_len]; show min _ _ + 1 ≤ 100000; omega) fun c3 M3 u3 x3 => ?_
          have v3 := u1.trans (u2.trans u3)
          wtm_at "gx"
          rw [show ((pre.length : Nat) : Int) + 1 = ((pre.length + 1 : Nat) : Int) by omega]
          refine g_slA (v3 _ _ epa5) fun c4 M4 u4 x4 => ?_
          rw [cut_from] at x4
          refine g_catA (u4 _ _ x3) x4 (by rw [List.length_append, List.length_take, List.length_drop, itV_len]; show min _ _ + 1 + _ ≤ 100000; omega) fun c5 M5 u5 x5 => ?_
          have v5 := v3.trans (u4.trans u5)
          have f5 := v5 _ _ f3
          have g6 := v5 _ _ g5
          have c5f : c5 ≠ fo := fun e => by rw [e, f5] at x5; cases x5
          have c5p : c5 ≠ p := fun e => by rw [e, g6] at x5; cases x5
          refine g_append1 f5 (by omega) fun M6 b6 x6 => ?_
          have hdx5 : Dx (del [fo, p] M6) x2 dx := ((dx_same (del_but (by simp) b3) hdx).sm v5).bt b6
          have ht1 : DxAll (del [fo, p] M6) ((itV ks).take pre.length) (itP (ks.take pre.length)) := by
            have := dxa_it (H := del [fo, p] M6) (ks.take pre.length)
            unfold itV at this ⊢
            rw [← List.map_take]
            exact this
          have ht2 : DxAll (del [fo, p] M6) ((itV ks).drop (pre.length + 1)) (itP (ks.drop (pre.length + 1))) := by
            have := dxa_it (H := del [fo, p] M6) (ks.drop (pre.length + 1))
            unfold itV at this ⊢
            rw [← List.map_drop]
            exact this
          refine ⟨_, _, _, rfl, But.tr b6 (But.sa v5 b3), x6, dxa_app ((hd3.sm v5).bt b6) (.cons (.tup (del_get (by simp [c5f, c5p]) (b6 _ _ c5f x5)) (dxa_app (dxa_app ht1 (.cons hdx5 .nil)) ht2)) .nil), pba_app hP3 (fun e he => ?_), ?_⟩
          · rw [List.mem_singleton.mp he]
            refine ⟨pb_l (by rw [List.append_assoc, walk_way w1]; exact hw9 _), ?_⟩
            have k1 := (tha_it (ks := ks.take pre.length) fun x hx => hks x (List.mem_of_mem_take hx)).mono (Nat.le_refl _) (Nat.zero_le 2)
            have k2 := (tha_it (ks := ks.drop (pre.length + 1)) fun x hx => hks x (List.mem_of_mem_drop hx)).mono (Nat.le_refl _) (Nat.zero_le 2)
            have k3 := List.length_take_le pre.length ks
            have k4 : (ks.drop (pre.length + 1)).length ≤ ks.length := by rw [List.length_drop]; omega
            exact ((k1.app th9.one).app k2).tup.mono (by omega) (by decide)
          · rw [List.length_append, List.length_append]
            show fs3.length + 1 ≤ 9 * pre.length + (pre2.length + 1)
            omega
        · obtain ⟨fs3, ys3, y9', rfl, b3, f3, hd3, hP3, hl3⟩ := hw
          wtm_at "unf"
          refine ⟨fs3, ys3, _, _, _, _, rfl, But.tr b3 (But.sa (st.trans U) B2), f3, hd3, hP3, ?_⟩
          rw [List.length_append]
          show fs3.length ≤ 9 * (pre.length + 1)
          omega
      · obtain ⟨fs, ys, y6, y7, y8, y9, rfl, B2, f2, hd2, hP2, hl2⟩ := hv
        rw [itV_len] at hl2
        have epa2 := B2 _ _ pafo epa1
        have hyl := hd2.length
        have eG2 := B2 _ _ fop.symm eG1
        have b'fo : b' ≠ fo := by have := (del_un hb').2; simp at this; exact this.1
        wtm_at "unf"
        wtm_at "gx"
        refine g_listOfT epa2 fun l1 G3 n3' s3' x3 => ?_
        have l1fo : l1 ≠ fo := fun e => by rw [e, f2] at n3'; cases n3'
        have l1p : l1 ≠ p := fun e => by rw [e, eG2] at n3'; cases n3'
        refine g_append1 (s3' _ _ f2) (by omega) fun G4 b4 x4 => ?_
        have epa4 := b4 _ _ pafo (s3' _ _ epa2)
        have eG4 := b4 _ _ fop.symm (s3' _ _ eG2)
        have hd4 : DxAll (del [fo, p] G4) (ys ++ [.ref l1]) (fs ++ [.list (itP ks)]) := dxa_app ((hd2.sm s3').bt b4) (.cons (.lst (del_get (by simpa using ⟨l1fo, l1p⟩) (b4 _ _ l1fo x3)) (dxa_it ks)) .nil)
        have hP4 : PbA ds (fs ++ [.list (itP ks)]) := pba_app hP2 (fun e he => by
          rw [List.mem_singleton.mp he]
          exact ⟨rfl, (tha_it hks).lst.mono (by omega) (by omega)⟩)
        have hyl4 := hd4.length
        wtm_at "gx"
        have gb4 := b4 _ _ b'fo (s3' _ _ (B2 _ _ b'fo gb1))
        refine ⟨_, rfl, by omega, by omega, lc_rng fun la K1 nla u1 ela => ⟨fun j G => ∃ (ys2 : List V) (es2 : List PyData), G la = some (.lst ys2) ∧ DxAll (del [la, fo, p] G) ys2 es2 ∧ PbA ds es2 ∧ es2.length ≤ j ∧ Same G4 G, ⟨[], [], ela, .nil, pba_nil, Nat.le_refl _, u1⟩, fun j G hj hw => ?_, fun G hw => ?_⟩⟩
        · obtain ⟨ys2, es2, f5, hd5, hP5, hl5, s5⟩ := hw
          rw [show (0 : Int) + (j : Int) = (j : Int) by omega]
          have hyl5 := hd5.length
          wtm_at "unf"
          refine ⟨rfl, ?_⟩
          wtm_at "gx"
          refine g_tup (by show 1 ≤ 100000; decide) fun c1 K2 m2 u2 z2 => ?_
          refine g_catA (u2 _ _ (s5 _ _ epa4)) z2 (by rw [itV_len]; show ks.length + 1 ≤ 100000; omega) fun c2 K3 u3 z3 => ?_
          have f3 := u3 _ _ (u2 _ _ f5)
          have g3 := u3 _ _ (u2 _ _ (s5 _ _ x4))
          have p3' := u3 _ _ (u2 _ _ (s5 _ _ eG4))
          have c2a : c2 ≠ la := fun e => by rw [e, f3] at z3; cases z3
          have c2f : c2 ≠ fo := fun e => by rw [e, g3] at z3; cases z3
          have c2p : c2 ≠ p := fun e => by rw [e, p3'] at z3; cases z3
          refine lc_put f3 (by omega) fun K4 b6 z4 => ?_
          refine ⟨_, _, z4, dxa_app ((hd5.sm (u2.trans u3)).bt b6) (.cons (.tup (del_get (by simp [c2a, c2f, c2p]) (b6 _ _ c2a z3)) (dxa_app (dxa_it ks) (.cons (.int _) .nil))) .nil), pba_app hP5 (fun e he => ?_), ?_, Same.b0 b6 (s5.trans (u2.trans u3)) nla⟩
          · rw [List.mem_singleton.mp he]
            refine ⟨pb_l (by rw [walk_way hw]; exact no_br hk' hnb), ((tha_it hks).app (th_nat (i := j) (by omega)).one).tup.mono (by omega) (by omega)⟩
          · rw [List.length_append]
            show es2.length + 1 ≤ _
            omega
        obtain ⟨ys2, es2, f5, hd5, hP5, hl5, s5⟩ := hw
        have hyl5 := hd5.length
        have laf : la ≠ fo := fun e => by rw [e, x4] at nla; cases nla
        refine g_cat (s5 _ _ x4) f5 (by rw [List.length_append]; show ys.length + 1 + ys2.length ≤ 100000; omega) fun ca K2 m2 u2 z2 => ?_
        have caf : ca ≠ fo := fun e => by rw [e, s5 _ _ x4] at m2; cases m2
        have cap : ca ≠ p := fun e => by rw [e, s5 _ _ eG4] at m2; cases m2
        have hdA : DxAll (del [fo, p] K2) (ys ++ [V.ref l1] ++ ys2) (fs ++ [.list (itP ks)] ++ es2) := dxa_app (hd4.sm (s5.trans u2)) (hd5.tl.sm u2)
        have hPA := pba_app hP4 hP5
        have hyA := hdA.length
        have hlA : (fs ++ [PyData.list (itP ks)] ++ es2).length ≤ 1000 := by
          rw [List.length_append, List.length_append]
          show fs.length + 1 + es2.length ≤ 1000
          omega
        generalize fs ++ [PyData.list (itP ks)] ++ es2 = esA at hdA hPA hyA hlA
        generalize ys ++ [V.ref l1] ++ ys2 = ysA at z2 hdA hyA
        have s52 := s5.trans u2
        have gbK := s52 _ _ gb4
        have epaK := s52 _ _ epa4
        have eGK := s52 _ _ eG4
        have x4K := s52 _ _ x4
        wtm_at "gx"
        refine ⟨_, rfl, by omega, by omega, lc_rng fun lb K1 nlb u1 elb => ⟨fun j G => ∃ (ys2 : List V) (es2 : List PyData), G lb = some (.lst ys2) ∧ DxAll (del [lb, fo, p] G) ys2 es2 ∧ PbA ds es2 ∧ es2.length ≤ j ∧ Same K2 G, ⟨[], [], elb, .nil, pba_nil, Nat.le_refl _, u1⟩, fun j G hj hw => ?_, fun G hw => ?_⟩⟩
        · obtain ⟨ys2, es2, f5, hd5, hP5, hl5, s5⟩ := hw
          rw [show (0 : Int) + (j : Int) = (j : Int) by omega]
          have hyl5 := hd5.length
          wtm_at "unf"
          refine ⟨rfl, ?_⟩
          wtm_at "gx"
          refine g_tup (by show 2 ≤ 100000; decide) fun c1 K2 m2 u2 z2 => ?_
          refine g_catA (u2 _ _ (s5 _ _ epaK)) z2 (by rw [itV_len]; show ks.length + 2 ≤ 100000; omega) fun c2 K3 u3 z3 => ?_
          have f3 := u3 _ _ (u2 _ _ f5)
          have g3 := u3 _ _ (u2 _ _ (s5 _ _ x4K))
          have p3' := u3 _ _ (u2 _ _ (s5 _ _ eGK))
          have c2a : c2 ≠ lb := fun e => by rw [e, f3] at z3; cases z3
          have c2f : c2 ≠ fo := fun e => by rw [e, g3] at z3; cases z3
          have c2p : c2 ≠ p := fun e => by rw [e, p3'] at z3; cases z3
          refine lc_put f3 (by omega) fun K4 b6 z4 => ?_
          refine ⟨_, _, z4, dxa_app ((hd5.sm (u2.trans u3)).bt b6) (.cons (.tup (del_get (by simp [c2a, c2f, c2p]) (b6 _ _ c2a z3)) (dxa_app (dxa_it ks) (.cons (.int _) (.cons (.int _) .nil)))) .nil), pba_app hP5 (fun e he => ?_), ?_, Same.b0 b6 (s5.trans (u2.trans u3)) nlb⟩
          · rw [List.mem_singleton.mp he]
            refine ⟨pb_l (by rw [walk_way hw]; exact no_br hk' hnb), ((tha_it hks).app ((th_nat (i := j) (by omega)).one.app (th_nat (i := 0) (by decide)).one)).tup.mono (by omega) (by omega)⟩
          · rw [List.length_append]
            show es2.length + 1 ≤ _
            omega
        obtain ⟨ys3, es3, f6, hd6, hP6, hl6, s6⟩ := hw
        have hyl6 := hd6.length
        refine g_cat (s6 _ _ z2) f6 (by omega) fun cb K3 m3 u3 z3 => ?_
        have cbp : cb ≠ p := fun e => by rw [e, s6 _ _ eGK] at m3; cases m3
        have sF := s6.trans u3
        refine q cb _ _ P K3 (But.sa (s52.trans sF) (But.but0 (But.sa s3' (But.but0 B1 B2 nfo)) b4 nfo)) (sF _ _ eGK) (del_get (by simpa using cbp) z3) (dxa_app ((hdA.tl).sm sF) ((hd6.tl.tl).sm u3)) (pba_app hPA hP6) ?_
        rw [List.length_append]
        omega
    have hne : ¬ itV ps = [] := fun h => h0 (List.map_eq_nil_iff.mp h)
    refine ⟨true, by rw [decide_eq_false hne]; rfl, ?_⟩
    rw [if_pos rfl]
    apply g_whb
    wtm_at "unf"
    wtm_at "gx"
    have hpsl : 0 < ps.length := List.length_pos_iff.mpr h0
    rw [itV_len]
    refine ⟨p, P, _, rfl, s1 _ _ eG, by omega, by omega, fun r P3 G2 q0 q1 b2 f2 => ?_⟩
    obtain ⟨z, rfl⟩ := Int.eq_ofNat_of_zero_le q0
    have hz : z < ps.length := by omega
    obtain ⟨k, hk0⟩ : ∃ k, ps[z]? = some k := ⟨_, List.getElem?_eq_getElem hz⟩
    obtain ⟨o, fs, hde⟩ := hps k (List.mem_of_getElem? hk0)
    refine g_ixLn z (sq_of (b2 _ _ prp (s1 _ _ epr))) rfl (by unfold itV; rw [List.getElem?_map, hk0]; rfl) ?_
    wtm_at "gx"
    have hP2 : But p H G2 := But.tr b2 (But.sa s1 bG)
    have pap : pa ≠ p := fun e => by rw [e, eG] at epa; cases epa
    have pasz : pa ≠ sz := fun e => by rw [e, esz] at epa; cases epa
    refine g_tup (by show 1 ≤ 100000; decide) fun t1 G3 n3' s3' x3 => ?_
    refine g_catA (s3' _ _ (b2 _ _ pap (s1 _ _ epa))) x3 (by rw [itV_len]; show ks.length + 1 ≤ 100000; omega) fun pa' G4 s4' x4 => ?_
    have szp' := szp
    have esz4 := s4' _ _ (s3' _ _ (b2 _ _ szp (s1 _ _ esz)))
    have eG4 := s4' _ _ (s3' _ _ f2)
    have efo4 := s4' _ _ (s3' _ _ (b2 _ _ fop (s1 _ _ efo)))
    have b'p : b' ≠ p := by have := (del_un hb').2; simp at this; exact this.2.2
    have b'sz : b' ≠ sz := by have := (del_un hb').2; simp at this; exact this.2.1
    have hb4 := s4' _ _ (s3' _ _ (b2 _ _ b'p (s1 _ _ hbG)))
    wtm_at "gx"
    refine g_append1 esz4 (by rw [itV_len]; omega) fun G5 b5 x5 => ?_
    have hb5 := b5 _ _ b'sz hb4
    have eG5 := b5 _ _ szp.symm eG4
    have pa'sz : pa' ≠ sz := fun e => by rw [e, esz4] at x4; cases x4
    have x45 := b5 _ _ pa'sz x4
    have efo5 := b5 _ _ fosz efo4
    have sH5 : But p H G5 := But.but0 (But.sa (s3'.trans s4') hP2) b5 nsz
    have E5 : ∀ a o, del [fo, sz, p] G a = some o → del [fo, sz, p] G5 a = some o := fun a o h => del_but (by simp) b5 _ _ (del_same (s3'.trans s4') _ _ (del_but (by simp) b2 _ _ (del_same s1 _ _ h)))
    have ht5 := TrIs.same E5 ht'
    obtain ⟨vk, hx⟩ : ∃ vk, xs'[k]? = some vk := ⟨_, List.getElem?_eq_getElem (by have := (List.getElem?_eq_some_iff.mp hde).1; omega)⟩
    obtain ⟨d0, A2, hdi, htr, hA2⟩ := tri_get ht5 hx
    rw [hde] at hdi
    have hdi := Option.some.inj hdi
    subst hdi
    have hok := mem_ndOk (List.mem_of_getElem? hde) hk'
    have hdp' := mem_deeps (List.mem_of_getElem? hde)
    rw [ndOk1] at hok
    rw [Nd.deep] at hdp'
    obtain ⟨e0, hsp⟩ := cut_at hde
    have htl : (txN fs).length ≤ 120 := by
      have h := congrArg (fun z => (txN z).length) hsp
      rw [txN_app, txN, txI, List.length_append, List.length_append, List.length_cons, List.length_append, List.length_singleton] at h
      omega
    have hkl := (List.getElem?_eq_some_iff.mp hde).1
    wtm_at "gx"
    refine g_ixLn k (sq_of hb5) rfl hx ?_
    cases htr with
    | @br tt b'' _ xs'' _ A3 h1 h2 h3 =>
    have h1' := (del_un h1).1
    have h2' := (del_un h2).1
    have hxl'' := h3.len
    have hxs'' := nd_few hok.2
    wtm_at "gx"
    refine ⟨_, rfl, by omega, by omega, lc_pairs h2' (TrIs.same (fun a o h => (del_un h).1) h3) hok.2 (by omega) (by omega) fun pr' ps' G6 n6 s6 e6 hpl' hps' hp0' => ?_⟩
    have pr'p : pr' ≠ p := fun e => by rw [e, eG5] at n6; cases n6
    have pr'sz : pr' ≠ sz := fun e => by rw [e, x5] at n6; cases n6
    refine ⟨Nd.deeps fs, by omega, b'', pa', pr', xs'', fs, A3, ks ++ [k], ps', szs ++ [xs'.length], P3, _, _, rfl, But.sa s6 sH5, s6 _ _ eG5, del_same s6 _ _ h2, TrIs.same (del_same s6) h3, hok.2, by rw [List.length_append]; show _ + (ks.length + 1) ≤ 60; omega, htl, ?_, ?_, s6 _ _ efo5, e6, pr'p, pr'sz, hps', hp0', by omega, way_more hw hde, by rw [List.length_append, List.length_append, hsl]; rfl, fun at_ h => ?_, rfl⟩
    · unfold itV; rw [List.map_append]; exact s6 _ _ x45
    · unfold itV; rw [List.map_append]; exact s6 _ _ x5
    · rw [List.length_append] at h
      by_cases hl2 : at_ < ks.length
      · obtain ⟨fs1, k1, w1, w2, w3, w4, w5⟩ := hat at_ hl2
        exact ⟨fs1, k1, by rw [List.take_append_of_le_length (by omega)]; exact w1, by rw [List.getElem?_append_left (by omega)]; exact w2, by rw [List.getElem?_append_left hl2]; exact w3, w4, w5⟩
      · have : at_ = ks.length := by have : [k].length = 1 := rfl; omega
        subst this
        refine ⟨es, k, by rw [List.take_left]; exact hw, ?_, by rw [List.getElem?_append_right (Nat.le_refl _), Nat.sub_self]; rfl, hkl, by omega⟩
        rw [List.getElem?_append_right (by omega), show ks.length - szs.length = 0 by omega, ← hxl']
        rfl
end
end K08

set_option maxHeartbeats 4000000
namespace K08
open PySem PySem.Spec PyProof.Rows L2 SX Ly
local macro_rules | `(tactic| wtm_at "unf") => `(tactic| (try simp only [tAlt, tMetX, tOwnX, tChain, tSeq, tNext, tBreak, tCont, tDrop, tRet, tRetN, tIfS, tAsg, tAug, tC, tOp, tUn, tNil, tCons, tOwn, tCB, tTest, tB, tAnd, tOr, tNot, tAndV, tOrV, tNotV, tIf, gName, gSub, tBM, tBM0, tM0, tM1, tSl, tPart_eq, tNoPart, tLst_eq, tTup_eq, tRevL_eq, tReplT, tRevS, tDGet_eq, sDPut_eq, tDNewT_eq, tMet, tMak, tFld_eq, sFld_eq, C8.tCut, wipe, tYes, gTup, gCons, gNil, List.set_cons_zero, List.set_cons_succ, if_true, if_false, Bool.false_eq_true, Bool.not_true, Bool.not_false, true_and, reduceIte, cx_K, tFor_eq, tLc_eq, iStr, iList, iTup, iRng1, iRng2, iRng3, iEnum, iZip, tLstRg, tRg1, gLst, RZ.iZipA, iEnumS, iZipS, tDNewK_eq, tDGet2, tDIn, tDNotIn, iKd]))
local macro_rules | `(tactic| wtm_at "unfA") => `(tactic| (try simp only [tAlt, tMetX, tOwnX, tChain, tSeq, tNext, tBreak, tCont, tDrop, tRet, tRetN, tIfS, tAsg, tAug, tC, tOp, tUn, tNil, tCons, tOwn, tCB, tTest, tB, tAnd, tOr, tNot, tIf, gName, gSub, tBM, tBM0, tM0, tM1, tSl, tPart_eq, tNoPart, tLst_eq, tTup_eq, tRevL_eq, tReplT, tRevS, tDGet_eq, sDPut_eq, tDNewT_eq, tMet, tMak, tFld_eq, sFld_eq, C8.tCut, wipe, tYes, gTup, gCons, gNil, List.set_cons_zero, List.set_cons_succ, if_true, if_false, Bool.false_eq_true, Bool.not_true, Bool.not_false, true_and, reduceIte, cx_K, tFor_eq, tLc_eq, iStr, iList, iTup, iRng1, iRng2, iRng3, iEnum, iZip, tLstRg, tRg1, gLst, RZ.iZipA, iEnumS, iZipS, tDNewK_eq, tDGet2, tDIn, tDNotIn, iKd]))
local macro_rules | `(tactic| wtm_at "ne") => `(tactic| first | assumption | (apply Ne.symm; assumption) | (apply ne_new; (· assumption); (· wtm_at "lk")) | (apply Ne.symm; apply ne_new; (· assumption); (· wtm_at "lk")))
local macro_rules | `(tactic| wtm_at "lk") => `(tactic| first | assumption | exact upd_same | (apply Same.get; (· assumption); (· wtm_at "lk")) | (apply But.get; (· assumption); (· wtm_at "ne"); (· wtm_at "lk")))
local macro_rules | `(tactic| wtm_at "sq") => `(tactic| first | assumption | (apply sq_of; wtm_at "lk") | (apply Same.seq; (· assumption); (· wtm_at "sq")) | (apply But.sq; (· assumption); (· wtm_at "ne"); (· wtm_at "sq")))
local macro_rules | `(tactic| wtm_at "fr") => `(tactic| first | assumption | (apply Same.fr; (· assumption); (· wtm_at "sm")) | (apply But.fr; (· assumption); (· wtm_at "sm"); (· wtm_at "ne")))
local macro_rules | `(tactic| wtm_at "sm") => `(tactic| first | exact Same.refl _ | exact But.refl | assumption | (apply Same.tr; (· assumption); (· wtm_at "sm")) | (apply Same.b0; (· assumption); (· wtm_at "sm"); (· wtm_at "fr")) | (apply But.sa; (· assumption); (· wtm_at "sm")) | (apply But.tr; (· assumption); (· wtm_at "sm")) | (apply But.b0; (· assumption); (· wtm_at "sm"); (· wtm_at "fr")) | (apply Same.toBut; wtm_at "sm"))
local macro_rules | `(tactic| wtm_at "sc") => `(tactic| first | exact Int.zero_lt_one | (show (0 : Int) < _; omega) | (show (0 : Int) < _; decide) | exact ⟨by omega, by omega⟩ | exact .inl ⟨by omega, by omega⟩ | exact .inr ⟨by omega, by omega⟩)
local macro_rules | `(tactic| wtm_at "go1") => `(tactic| first | ((with_reducible apply g_var); (· exact rfl)) | with_reducible apply g_I0 | ((with_reducible apply g_I); (· wtm_at "sc")) | with_reducible apply g_U | with_reducible apply g_ipI | ((with_reducible apply g_addT); (· first | omega | (simp; done) | (simp; omega))) | with_reducible apply g_inT | with_reducible apply g_ninT | ((with_reducible apply g_lenT); (· omega)) | with_reducible apply g_findT1 | with_reducible apply g_str | with_reducible apply g_part | with_reducible apply g_intB | ((with_reducible apply g_ixL); (· wtm_at "sq"); (· exact rfl)) | ((with_reducible apply g_setL); (· wtm_at "lk"); (· exact rfl)) | ((with_reducible apply g_eq); (· rfl)) | ((with_reducible apply g_ne); (· rfl)))
local macro_rules | `(tactic| wtm_at "go") => `(tactic| repeat wtm_at "go1")
local macro_rules | `(tactic| wtm_at "lp") => `(tactic| skip)
local macro_rules | `(tactic| wtm_at "om") => `(tactic| first | omega | (simp; done) | (simp; omega) | (simp at *; omega))
local macro_rules | `(tactic| wtm_at "ty") => `(tactic| first | exact ty_str | exact ty_int | exact ty_bl | exact ty_non | (apply ty_lst; wtm_at "lk") | (apply ty_tup; wtm_at "lk"))
local macro_rules | `(tactic| wtm_at "kb") => `(tactic| first | exact kb_str_str | exact kb_str_int | exact kb_str_bool | exact kb_str_list | exact kb_str_tuple | exact kb_int_str | exact kb_int_int | exact kb_int_bool | exact kb_int_list | exact kb_int_tuple | exact kb_bool_str | exact kb_bool_int | exact kb_bool_bool | exact kb_bool_list | exact kb_bool_tuple | exact kb_list_str | exact kb_list_int | exact kb_list_bool | exact kb_list_list | exact kb_list_tuple | exact kb_tuple_str | exact kb_tuple_int | exact kb_tuple_bool | exact kb_tuple_list | exact kb_tuple_tuple | exact kb_NoneType_str | exact kb_NoneType_int | exact kb_NoneType_bool | exact kb_NoneType_list | exact kb_NoneType_tuple | exact kb_dict_str | exact kb_dict_int | exact kb_dict_bool | exact kb_dict_list | exact kb_dict_tuple)
local macro_rules | `(tactic| wtm_at "gx1") => `(tactic| first | ((with_reducible apply g_eqS); (· exact rfl)) | ((with_reducible apply g_neS); (· exact rfl)) | wtm_at "go1" | with_reducible apply g_min2 | with_reducible apply g_max2 | with_reducible apply g_T | with_reducible apply g_F | with_reducible apply g_NT | with_reducible apply g_NF | with_reducible apply g_nT | with_reducible apply g_nF | with_reducible apply g_RT | with_reducible apply g_RF | ((with_reducible apply g_isi); (· wtm_at "ty"); (· wtm_at "kb")) | ((with_reducible apply g_ixAU3); (· wtm_at "lk"); (· exact rfl)) | ((with_reducible apply g_ixAL3); (· wtm_at "lk"); (· exact rfl)) | ((with_reducible apply g_ixU3); (· wtm_at "lk"); (· exact rfl)) | ((with_reducible apply g_lenL3); (· wtm_at "lk")) | ((with_reducible apply g_lenU3); (· wtm_at "lk")) | ((with_reducible apply g_tyL3); (· wtm_at "lk")) | ((with_reducible apply g_lenT); (· wtm_at "pv")) | wtm_at "tr" | with_reducible apply g_ET | with_reducible apply g_EF | with_reducible apply g_EnT | with_reducible apply g_EnF)
local macro_rules | `(tactic| wtm_at "pv") => `(tactic| first | exact rfl | assumption | omega | (simp; done) | (simp; omega))
local macro_rules | `(tactic| wtm_at "tr") => `(tactic| first | ((with_reducible apply g_Td); (· wtm_at "pv")) | ((with_reducible apply g_Fd); (· wtm_at "pv")) | ((with_reducible apply g_NTd); (· wtm_at "pv")) | ((with_reducible apply g_NFd); (· wtm_at "pv")) | ((with_reducible apply g_nTd); (· wtm_at "pv")) | ((with_reducible apply g_nFd); (· wtm_at "pv")) | ((with_reducible apply g_RTd); (· wtm_at "pv")) | ((with_reducible apply g_RFd); (· wtm_at "pv")))
local macro_rules | `(tactic| wtm_at "gx") => `(tactic| repeat wtm_at "gx1")
local macro_rules | `(tactic| wtm_at "unfS") => `(tactic| (try simp only [tSeq, tNext, tAsg, tFor_eq, C8.tCut, wipe, gName, tDrop, List.set_cons_zero, List.set_cons_succ, cx_K]))
local macro_rules | `(tactic| wtm_at "rd1") => `(tactic| first | exact rd_int | exact rd_str | exact rd_bl | exact rd_non | exact rda_nil | apply rda_cons | (with_reducible apply rd_tup; (· assumption)) | (with_reducible apply rd_lst; (· assumption)) | exact rd_dic (by assumption) | exact rd_var rfl (.int _) | exact rd_var rfl (.str _) | exact rd_var rfl (.bl _) | exact rd_var rfl (by assumption) | (with_reducible apply rd_cat; (· assumption)) | (with_reducible apply rd_rep2; (· assumption)) | (with_reducible apply rd_rev; (· assumption)) | (with_reducible apply rd_to; (· assumption)) | (with_reducible apply rd_from; (· assumption)) | (with_reducible apply rd_tupOf; (· assumption)) | (with_reducible apply rd_lstOf; (· assumption)) | with_reducible apply rd_lenL | with_reducible apply rd_lenT | with_reducible apply rd_I0 | with_reducible apply rd_I | with_reducible apply rd_U | with_reducible apply rd_eqI | with_reducible apply rd_ixL | with_reducible apply rd_ixT | exact atI_hd _ _ | exact ‹atI _ _ = some _›)
local macro_rules | `(tactic| wtm_at "rdl") => `(tactic| first | decide | omega | wtm_at "sc" | (simp only [List.length_append, List.length_cons, List.length_nil, List.length_map, List.length_take, List.length_drop, List.length_reverse, cutTo]; omega))
local macro_rules | `(tactic| wtm_at "rd") => `(tactic| ((repeat' wtm_at "rd1"); (all_goals wtm_at "rdl")))
local macro_rules | `(tactic| wtm_at "nc") => `(tactic| repeat' (first | assumption | exact nca_nil | exact nc_non | exact nc_bl | exact nc_dic | exact nc_tup0 | exact nc_lst0 | (refine nc_strS (by decide) (by decide)) | (refine nc_int (by omega)) | (refine nc_big (by decide +kernel)) | refine nca_app ?_ ?_ | refine nca_cons ?_ ?_ | refine nca_take ?_ | refine nca_drop ?_ | refine nca_cutTo ?_ | refine nca_rev ?_ | refine nc_tup (by decide) ?_ | refine nc_lst (by decide) ?_ | refine nc_lst (Nat.le_trans (show _ ≤ 45 by wtm_at "rdl") (by decide)) ?_ | refine nc_tup (Nat.le_trans (show _ ≤ 45 by wtm_at "rdl") (by decide)) ?_))

section
variable {P : Program} {w : World} {K : PySem.W.Frag} {mg : Str → Option Value} {base : Heap}
theorem ae_one {d : PyData} (h : isAE d = true) : isOne (S [97]) d = true := by
  unfold isAE at h
  split at h
  · rfl
  · rename_i z
    have : z = S [97] := of_decide_eq_true h
    subst this
    exact beq_self_eq_true _
  · cases h
theorem ae_list {d : PyData} (h : isAE d = true) : isT d .list = true := by
  unfold isAE at h
  split at h
  · rfl
  · rfl
  · cases h
def Okx (d : PyData) : Prop := Th d 7000000 184 ∧ (isN 60 d = false ∨ isAE d = true)
theorem undel {H : Hp} {p : List Addr} {v : V} {d : PyData} (h : Dx (del p H) v d) : Dx H v d := dx_same (fun b o e => (del_un e).1) h
theorem undelA {H : Hp} {p : List Addr} {vs : List V} {ds : List PyData} (h : DxAll (del p H) vs ds) : DxAll H vs ds := dxs_same (fun b o e => (del_un e).1) h
/-! law -/
def spLaw (K : PySem.W.Frag) : Sp := fun vs H Q _ => ∃ (a : Addr) (ns : List Int), vs = [.ref a] ∧ SqL K H a (ns.map V.int) ∧ ns.length ≤ 63 ∧ ∀ H', Q (.bl true) H'
theorem ok_law {f : Addr} {fd : FuncData} (T : Facts K mg) (F : FunD K "law" "law" (defArgs s_law) (defBody s_law) (defScope s_law) [] [] f fd) : FnG P w K mg base C8.CX0 68 f fd ["script"] (spLaw K) := by
  refine fnDG F sc_law (fun vs H Q E h => ?_) (fun cdv A outer s H vs Q E hr hgd h => ?_)
  · obtain ⟨a, ns, rfl, hS, hlen, q⟩ := h; rfl
  · obtain ⟨a, ns, rfl, hS, hlen, q⟩ := h
    refine ⟨_, (pss_cons (ps_for PassesOwn.never rfl (pi_enum rfl T.b_enumerate (pa_cons (pe_op op_cat (pe_slice sl_list (pv 0) po_none (po_some pe_int)) (pe_lst (pa_cons (pe_callB call_lenL rfl T.b_len PySem.boot_len (pa_cons (pv 0) pa_nil)) pa_nil))) pa_nil)) (pg_tup rfl (pgs_cons (pg_name (i := 1) sc_law.nd rfl (Or.inl rfl)) (pgs_cons (pg_name (i := 2) sc_law.nd rfl (Or.inl rfl)) pgs_nil)))
       (pss_cons (ps_set (i := 3) sc_law.nd rfl (Or.inl rfl) (pe_own (ok_law_pot T) hr (by omega) rfl (pa_cons (pv 2) pa_nil)))
       (pss_cons (ps_set (i := 4) sc_law.nd rfl (Or.inl rfl) (pe_own (ok_law_text T) hr (by omega) rfl (pa_cons (pv 3) (pa_cons (pe_own (ok_law_long T) hr (by omega) rfl (pa_cons (pv 3) (pa_cons (pv 1) pa_nil))) pa_nil))))
       (pss_cons (ps_ifC (PW.pt (pw_and (pt_not (pt_val (pe_own (ok_law_is_clean T) hr (by omega) rfl (pa_cons (pv 4) pa_nil)))) (pw_and1 (pt_not (pt_val (pe_ownG (ok_law_refused T) (by exact hgd) hr (by omega) rfl (pa_cons pe_int (pa_cons (pv 4) (pa_cons pe_non pa_nil)))))))))
       (pss_one (ps_ret pe_bl))
       pss_nil)
       (pss_cons (ps_set (i := 4) sc_law.nd rfl (Or.inl rfl) (pe_own (ok_law_clean T) hr (by omega) rfl (pa_cons (pv 3) (pa_cons (pe_own (ok_law_long T) hr (by omega) rfl (pa_cons (pv 3) (pa_cons (pv 1) pa_nil))) pa_nil))))
       (pss_cons (ps_set (i := 5) sc_law.nd rfl (Or.inl rfl) (pe_own (ok_law_nest T) hr (by omega) rfl (pa_cons (pv 4) pa_nil)))
       (pss_cons (ps_for PassesOwn.never rfl (pi_list (pe_lst (pa_cons (pe_own (ok_law_spoilt T 61) hr (by omega) rfl (pa_cons (pv 3) (pa_cons (pv 5) pa_nil))) (pa_cons (pe_own (ok_law_odd T) hr (by omega) rfl (pa_cons (pv 3) pa_nil)) (pa_cons (pe_own (ok_law_chain T) hr (by omega) rfl (pa_cons (pe_op op_add pe_int (pe_own (ok_law_take T) hr (by omega) rfl (pa_cons (pv 3) (pa_cons pe_int pa_nil)))) (pa_cons (pe_lst pa_nil) pa_nil))) (pa_cons (pe_callTy (r := rTupleOf K) call_tupleOf rfl T.b_tuple (by decide +kernel) (pa_cons (pv 5) pa_nil)) pa_nil)))))) (pg_name (i := 6) sc_law.nd rfl (Or.inl rfl))
       (pss_cons (ps_ifC (PW.pt (pw_and (pt_val (pe_callB call_isi rfl T.b_isinstance (by decide +kernel) (pa_cons (pv 6) (pa_cons (pe_bltn (v := .ty "list") rfl T.b_list (by decide +kernel) rfl) pa_nil)))) (pw_and1 (pt_cmpR (op_inAE hr.units) (pv 6) (pe_tup (pa_cons (pe_lst pa_nil) (pa_cons (pe_lst (pa_cons (pe_strS (l := [97]) (by decide +kernel)) pa_nil)) pa_nil))) (by rfl)))))
       (pss_one ps_continue)
       pss_nil)
       (pss_one (ps_if (pt_not (pt_val (pe_ownG (ok_law_refused T) (by exact hgd) hr (by omega) rfl (pa_cons pe_int (pa_cons (pv 6) (pa_cons pe_non pa_nil))))))
       (pss_one (ps_ret pe_bl))
       pss_nil))))
       (pss_cons (ps_for PassesOwn.never rfl (pi_list (pe_op op_cat (pe_own (ok_law_bad_paths T) hr (by omega) rfl (pa_cons (pv 3) (pa_cons (pv 5) pa_nil))) (pe_own (ok_law_deep_paths T) hr (by omega) rfl (pa_cons (pv 3) (pa_cons (pv 5) pa_nil))))) (pg_name (i := 7) sc_law.nd rfl (Or.inl rfl))
       (pss_one (ps_ifC (PW.pt (pw_or (pt_not (pt_val (pe_ownG (ok_law_refused T) (by exact hgd) hr (by omega) rfl (pa_cons pe_int (pa_cons (pv 5) (pa_cons (pv 7) pa_nil)))))) (pw_or1 (pt_cmpR (op_neW (Room.wide hr)) (pv 5) (pe_own (ok_law_nest T) hr (by omega) rfl (pa_cons (pv 4) pa_nil)) (nomark _)))))
       (pss_one (ps_ret pe_bl))
       pss_nil)))
       (pss_one (ps_ifC (PW.pt (pw_or (pt_not (pt_val (pe_ownG (ok_law_refused T) (by exact hgd) hr (by omega) rfl (pa_cons pe_int (pa_cons (pe_own (ok_law_chain T) hr (by omega) rfl (pa_cons pe_int (pa_cons (pe_lst (pa_cons (pe_strS (l := [97]) (by decide +kernel)) pa_nil)) pa_nil))) (pa_cons pe_non pa_nil)))))) (pw_or1 (pt_cmpR op_ne (pe_own (ok_text_of T) hr (by omega) rfl (pa_cons (pv 5) pa_nil)) (pv 4) (nomark _)))))
       (pss_one (ps_ret pe_bl))
       pss_nil))))))))))
       (pss_one (ps_ret (pe_and (pe_ownG (ok_law_refused T) (by exact hgd) hr (by omega) rfl (pa_cons pe_int (pa_cons (pe_strS (l := [40]) (by decide +kernel)) (pa_cons pe_non pa_nil)))) (pe_and (pe_ownG (ok_law_refused T) (by exact hgd) hr (by omega) rfl (pa_cons pe_int (pa_cons (pe_strS (l := [40]) (by decide +kernel)) (pa_cons pe_non pa_nil)))) (pe_one (pe_ownG (ok_law_refused T) (by exact hgd) hr (by omega) rfl (pa_cons pe_int (pa_cons (pe_lst pa_nil) (pa_cons (pe_tup (pa_cons pe_int pa_nil)) pa_nil)))))))))), ?_⟩
    rw [st_law]
    wtm_at "unf"
    wtm_at "gx"
    refine g_slL hS fun c1 H1 n1 s1 e1 => ?_
    obtain ⟨ms, ems, hms⟩ := cut_ints ns none (some 8)
    rw [ems] at e1
    wtm_at "gx"
    refine g_lenL (Same.seq s1 hS) ?_
    refine g_lst (by show 1 ≤ 100000; decide) fun c2 H2 n2 s2 e2 => ?_
    refine g_cat (s2 _ _ e1) e2 (by simp; omega) fun c3 H3 n3 s3 e3 => ?_
    obtain ⟨zs, ezs⟩ : ∃ zs : List Int, ms.map V.int ++ [V.int (ns.map V.int).length] = zs.map V.int := ⟨ms ++ [((ns.map V.int).length : Int)], by rw [List.map_append]; rfl⟩
    rw [ezs] at e3
    refine ⟨_, _, rfl, sq_of e3, for_enum (zs.map V.int) (fun pre σ H' => ∃ y1 y2 y3 y4 y5 y6 y7, σ = [some (V.ref a), y1, y2, y3, y4, y5, y6, y7] ∧ Same H3 H') ⟨_, _, _, _, _, _, _, rfl, Same.refl _⟩ (fun pre post σ H' e hv => ?_) (fun pre0 x post σ H' t H'' e hv nt st et => ?_) (fun σ H' hv => ?_)⟩
    · obtain ⟨y1, y2, y3, y4, y5, y6, y7, rfl, sH⟩ := hv
      exact sq_of (sH _ _ e3)
    · obtain ⟨y1, y2, y3, y4, y5, y6, y7, rfl, sH⟩ := hv
      obtain ⟨z, rfl⟩ : ∃ z, x = V.int z := by
        have hm : x ∈ zs.map V.int := by rw [e]; simp
        obtain ⟨z, _, hz⟩ := List.mem_map.mp hm
        exact ⟨z, hz.symm⟩
      wtm_at "unf"
      refine ⟨t, _, rfl, st_of et, rfl, _, _, rfl, _, _, rfl, rfl, ?_⟩
      wtm_at "gx"
      refine ⟨z, rfl, fun p P1 H5 np s5 e5 => ?_⟩
      wtm_at "gx"
      refine ⟨p, P1, _, rfl, e5, fun r P2 H6 hr b6 e6 => ?_⟩
      refine ⟨p, P2, r, rfl, e6, hr, fun l0 P3 H7 hl0 hs0 b7 e7 => ?_⟩
      wtm_at "gx"
      have t7 : But p H5 H7 := But.tr b7 b6
      refine g_ifH (b := false) (G := fun G1 => Same H7 G1) (fun Q' q' => ?_) (fun G1 s1 h => by cases h) (fun H8 s8 _ => ?_)
      · wtm_at "unf"
        wtm_at "gx"
        refine ⟨l0, rfl, by omega, fun H8 s8 => ?_⟩
        by_cases hc0 : clean l0
        · rw [decide_eq_true hc0]
          wtm_at "gx"
          exact q' _ s8
        · rw [decide_eq_false hc0]
          wtm_at "gx"
          refine ⟨0, Tx l0, .non, .str (S l0), .none, rfl, .str _, .non, rs_tx (by omega) (fun c h => sg_lt (hs0 c h)), .inl ⟨rfl, l0, rfl, by omega, hc0⟩, fun H9 s9 => ?_⟩
          wtm_at "gx"
          exact q' _ (s8.trans s9)
      have e8 := s8 _ _ e7
      wtm_at "unf"
      wtm_at "gx"
      refine ⟨p, P3, _, rfl, e8, fun r2 P4 H9 hr2 b9 e9 => ?_⟩
      refine ⟨p, P4, r2, rfl, e9, by omega, fun l P5 H10 hs hl hc b10 e10 => ?_⟩
      wtm_at "gx"
      refine ⟨l, rfl, by omega, hc, fun b xs A H11 s11 eb hT nd hfr => ?_⟩
      have hk := nest_ok hs
      have hdp := nest_deep hc
      have hhg := nest_hgt l
      have htx := tx_nest hc
      have e11 := s11 _ _ e10
      have pA : ∀ x ∈ b :: A, x ≠ p := fun x hx q => by have := hfr x hx; rw [q, e10] at this; cases this
      have hbp : b ≠ p := pA b (List.mem_cons_self ..)
      have hb11 : del [p] H11 b = some (.lst xs) := del_get (by simpa using hbp) eb
      have hT11 : TrIs (del [p] H11) xs (nestD l) A := tri_off hT e11 (fun h => pA p (List.mem_cons_of_mem _ h) rfl)
      have b11 : But p H5 H11 := But.sa s11 (But.tr b10 (But.tr b9 (But.sa s8 t7)))
      have t11 : Same H' H11 := Same.b0 b11 (st.trans s5) (st.free np)
      have hln : (txN (nestD l)).length ≤ 120 := by rw [htx]; omega
      have hxs2 := nd_few hk
      have thN : Th (.list (ndDs (nestD l))) 7000000 184 := (tha_nd hk).lst.mono (by omega) (by omega)
      wtm_at "gx"
      refine ⟨p, P5, b, xs, nestD l, A, rfl, e11, hb11, hT11, hk, by show _ ≤ 60; omega, by omega, fun v1 d1 P6 H12 b12 e12 hd1 th1 hL1 hN1 => ?_⟩
      wtm_at "gx"
      refine ⟨p, P6, rfl, e12, fun v2 d2 P7 H13 b13 e13 hd2 th2 bd2 top2 => ?_⟩
      wtm_at "gx"
      refine ⟨p, P7, 30, rfl, e13, by decide, by decide, fun r P8 H14 r0 r1 b14 e14 => ?_⟩
      obtain ⟨r, rfl⟩ := Int.eq_ofNat_of_zero_le r0
      wtm_at "gx"
      refine g_lst (by show 0 ≤ 100000; decide) fun q0 H15 nq0 s15 eq0 => ?_
      rw [show (61 : Int) + (r : Int) = ((61 + r : Nat) : Int) by omega]
      refine ⟨61 + r, .ref q0, .list [], 204, 1, rfl, .lst eq0 .nil, (ThA.nil (w := 0) (p := 0)).lst, rfl, by omega, fun v3 d3 H16 s16 hd3 th3 hL3 hm3 hj3 => ?_⟩
      have hb16 := s16 _ _ (s15 _ _ (b14 _ _ hbp (b13 _ _ hbp (b12 _ _ hbp eb))))
      wtm_at "gx"
      refine g_tupleOfL hb16 fun tu H17 ntu s17 etu => ?_
      refine g_lst (by show 4 ≤ 100000; decide) fun la H18 nla s18 ela => ?_
      have S18 := s15.trans (s16.trans (s17.trans s18))
      have B18 : But p H11 H18 := But.sa S18 (But.tr b14 (But.tr b13 b12))
      have e18 := S18 _ _ e14
      have hb18 : del [p] H18 b = some (.lst xs) := del_but (by simp) B18 _ _ hb11
      have hT18 : TrIs (del [p] H18) xs (nestD l) A := TrIs.same (del_but (by simp) B18) hT11
      have hTA : DxAll H18 xs (ndDs (nestD l)) := undelA (TrIs.dx hT18)
      have hL : DxAll H18 [v1, v2, v3, .ref tu] [d1, d2, d3, .tuple (ndDs (nestD l))] := .cons (undel (((hd1.bt b13).bt b14).sm S18)) (.cons (undel ((hd2.bt b14).sm S18)) (.cons (dx_same (s17.trans s18) hd3) (.cons (.tup (s18 _ _ etu) hTA) .nil)))
      have hOk : ∀ d ∈ [d1, d2, d3, .tuple (ndDs (nestD l))], Okx d := by
        intro d hd
        simp only [List.mem_cons, List.not_mem_nil, or_false] at hd
        rcases hd with rfl | rfl | rfl | rfl
        · exact ⟨th1.mono (by omega) (by omega), .inl (hN1 60)⟩
        · refine ⟨th2.mono (by omega) (by omega), ?_⟩
          unfold topB at top2
          rw [Bool.or_eq_true] at top2
          rcases top2 with h | h
          · exact .inl (by simpa using h)
          · exact .inr h
        · exact ⟨th3.mono (by omega) (by omega), .inl (hj3 60 (by omega))⟩
        · exact ⟨(tha_nd hk).tup.mono (by omega) (by omega), .inl (isN_not rfl)⟩
      refine ⟨la, rfl, ⟨_, sq_of ela⟩, for_lst [v1, v2, v3, .ref tu] (fun pre σ G => ∃ y6, σ = [some (V.ref a), some (V.int (pre0.length : Nat)), some (V.int z), some (V.ref p), some (Tx l), some (V.ref b), y6, y7] ∧ Same H18 G) ⟨_, rfl, Same.refl _⟩ (fun pre post σ G e hv => ?_) (fun pre x post σ G e hv => ?_) (fun σ G hv => ?_)⟩
      · obtain ⟨y6, rfl, sG⟩ := hv
        exact sq_of (sG _ _ ela)
      · obtain ⟨y6, rfl, sG⟩ := hv
        obtain ⟨dx, hdx, hmx, _⟩ := dxa_turn hL e
        obtain ⟨thx, hox⟩ := hOk dx hmx
        have hdxG := dx_same sG hdx
        wtm_at "unf"
        refine g_ifH (b := isOne (S [97]) dx && isT dx .list) (G := fun G1 => Same G G1) (fun Q' q' => ?_) (fun G1 s1 h => ?_) (fun G1 s1 h => ?_)
        · wtm_at "unf"
          wtm_at "gx"
          refine g_isL hdxG ?_
          cases hLd : isT dx .list with
          | false =>
            rw [hLd, Bool.and_false] at q'
            wtm_at "gx"
            exact q' _ (Same.refl _)
          | true =>
            rw [hLd, Bool.and_true] at q'
            wtm_at "gx"
            refine g_lst (by show 0 ≤ 100000; decide) fun q1 K1 m1 k1 x1 => ?_
            refine g_lst (by show 1 ≤ 100000; decide) fun q2 K2 m2 k2 x2 => ?_
            refine g_tup (by show 2 ≤ 100000; decide) fun q3 K3 m3 k3 x3 => ?_
            refine ⟨q3, q1, q2, dx, S [97], rfl, x3, k3 _ _ (k2 _ _ x1), k3 _ _ x2, dx_same (k1.trans (k2.trans k3)) hdxG, hLd, fun ad had => ?_, ?_⟩
            · obtain ⟨ac, xc, dcs, h1, h2, hac, _⟩ := isT_list hdxG hLd
              rw [had] at h1
              cases h1
              refine ⟨fun e => ?_, fun e => ?_⟩
              · rw [← e, hac] at m1; cases m1
              · rw [← e, k1 _ _ hac] at m2; cases m2
            · exact ⟨_, rfl, q' _ (k1.trans (k2.trans k3))⟩
        · wtm_at "unf"
          exact ⟨_, rfl, sG.trans s1⟩
        · have hN : isN 60 dx = false := by
            rcases hox with h1 | h1
            · exact h1
            · rw [ae_one h1, ae_list h1] at h
              cases h
          wtm_at "unf"
          wtm_at "gx"
          refine ⟨1, x, .non, dx, .none, rfl, dx_same s1 hdxG, .non, rs_two thx (th_non.mono (by decide) (by decide)), .inr (.inl ⟨rfl, hN, thx.g, Nat.le_trans thx.w (by decide)⟩), fun G2 s2 => ?_⟩
          wtm_at "gx"
          exact ⟨_, rfl, sG.trans (s1.trans s2)⟩
      obtain ⟨y6, rfl, sG⟩ := hv
      have hb20 := sG _ _ (del_un hb18).1
      have e20 := sG _ _ e18
      have hb20' := del_same sG _ _ hb18
      have hT20 := TrIs.same (del_same sG) hT18
      wtm_at "unf"
      wtm_at "gx"
      refine ⟨p, P8, b, xs, nestD l, A, rfl, e20, hb20', hT20, hk, ⟨by omega, hln⟩, fun c1 ys1 es1 P9 H21 b21 e21 hc1 hd21 hP21 hl21 => ?_⟩
      wtm_at "gx"
      have hb21' := del_but (p := [p]) (by simp) b21 _ _ hb20'
      have hT21 := TrIs.same (del_but (p := [p]) (by simp) b21) hT20
      refine ⟨p, P9, b, xs, nestD l, A, rfl, e21, hb21', hT21, hk, ⟨by omega, hln⟩, fun c2 ys2 es2 P10 H22 b22 e22 hc2 hd22 hP22 hl22 => ?_⟩
      have hc1' := del_but (p := [p]) (by simp) b22 _ _ hc1
      have hy1 := hd21.length
      have hy2 := hd22.length
      refine g_cat (del_un hc1').1 (del_un hc2).1 (by omega) fun cc H23 ncc s23 ecc => ?_
      have hb23' := del_same s23 _ _ (del_but (p := [p]) (by simp) b22 _ _ hb21')
      have hT23 := TrIs.same (del_same s23) (TrIs.same (del_but (p := [p]) (by simp) b22) hT21)
      have hbR := (del_un hb23').1
      have hTR : TrIs H23 xs (nestD l) A := TrIs.same (fun b o e => (del_un e).1) hT23
      have hR : DxAll H23 (ys1 ++ ys2) (es1 ++ es2) := undelA (dxa_app ((hd21.bt b22).sm s23) (hd22.sm s23))
      have hPR := pba_app hP21 hP22
      have b23 : But p H18 H23 := But.sa s23 (But.tr b22 (But.tr b21 (Same.toBut sG)))
      have t23 : Same H' H23 := Same.b0 (But.tr b23 B18) t11 (st.free np)
      refine ⟨cc, rfl, ⟨_, sq_of ecc⟩, for_lst (ys1 ++ ys2) (fun pre σ G => ∃ y7, σ = [some (V.ref a), some (V.int (pre0.length : Nat)), some (V.int z), some (V.ref p), some (Tx l), some (V.ref b), y6, y7] ∧ Same H23 G) ⟨_, rfl, Same.refl _⟩ (fun pre post σ G e hv => ?_) (fun pre x post σ G e hv => ?_) (fun σ G hv => ?_)⟩
      · obtain ⟨y7, rfl, sG⟩ := hv
        exact sq_of (sG _ _ ecc)
      · obtain ⟨y7, rfl, sG⟩ := hv
        obtain ⟨dx, hdx, hmx, _⟩ := dxa_turn hR e
        obtain ⟨hbad, thx⟩ := hPR dx hmx
        have hdxG := dx_same sG hdx
        have hbG := sG _ _ hbR
        have hTG := TrIs.same sG hTR
        wtm_at "unf"
        refine g_ifH (b := false) (G := fun G1 => Same G G1) (fun Q' q' => ?_) (fun G1 s1 h => by cases h) (fun G1 s1 _ => ?_)
        · wtm_at "unf"
          wtm_at "gx"
          refine ⟨2, .ref b, x, .list (ndDs (nestD l)), dx, rfl, .lst hbG (TrIs.dx hTG), hdxG, rs_two thN (thx.mono (by decide) (by decide)), .inr (.inr ⟨rfl, b, xs, nestD l, A, rfl, hbG, hTG, hk, hbad⟩), fun G2 s2 => ?_⟩
          wtm_at "gx"
          refine ⟨l, rfl, by omega, hc, fun b3 xs3 A3 G3 s3 eb3 hT3 nd3 hfr3 => ?_⟩
          refine g_neNest ((s2.trans s3) _ _ hbG) (TrIs.same (s2.trans s3) hTG) eb3 hT3 hk (by omega) ?_
          wtm_at "gx"
          exact q' _ (s2.trans s3)
        · wtm_at "unf"
          exact ⟨_, rfl, sG.trans s1⟩
      obtain ⟨y7, rfl, sG3⟩ := hv
      have hbG := sG3 _ _ hbR
      have hTG := TrIs.same sG3 hTR
      wtm_at "unf"
      refine g_ifH (b := false) (G := fun G1 => Same H23 G1) (fun Q' q' => ?_) (fun G1 s1 h => by cases h) (fun G1 s1 _ => ?_)
      · wtm_at "unf"
        wtm_at "gx"
        refine g_lst (by show 1 ≤ 100000; decide) fun q0 K1 m1 u1 x1 => ?_
        refine ⟨60, .ref q0, .list [.str (S [97])], 410, 1, rfl, .lst x1 (.cons (.str _) .nil), (th_str (by decide) (by decide)).one.lst, rfl, by decide, fun v3 d3 K2 u2 hd3 th3 hL3 hm3 hj3 => ?_⟩
        have th3' : Th d3 7000000 184 := th3.mono (by decide) (by decide)
        refine ⟨1, v3, .non, d3, .none, rfl, hd3, .non, rs_two th3' (th_non.mono (by decide) (by decide)), .inr (.inl ⟨rfl, hm3 0, th3'.g, Nat.le_trans th3'.w (by decide)⟩), fun K3 u3 => ?_⟩
        wtm_at "gx"
        have U := u1.trans (u2.trans u3)
        refine ⟨b, xs, nestD l, A, rfl, U _ _ hbG, TrIs.same U hTG, hk, by omega, by omega, by omega, fun K4 u4 => ?_⟩
        rw [htx]
        wtm_at "gx"
        exact q' _ (sG3.trans (U.trans u4))
      · wtm_at "unf"
        exact ⟨_, _, _, _, _, _, _, rfl, sH.trans (t23.trans s1)⟩
    · obtain ⟨y1, y2, y3, y4, y5, y6, y7, rfl, sH⟩ := hv
      wtm_at "unf"
      wtm_at "gx"
      refine ⟨0, Tx [40], .non, .str (S [40]), .none, rfl, .str _, .non, rs_tx (by decide) (by decide), .inl ⟨rfl, [40], rfl, by decide, by decide⟩, fun H9 s9 => ?_⟩
      wtm_at "gx"
      refine ⟨1, Tx [40], .non, .str (S [40]), .none, rfl, .str _, .non, rs_tx (by decide) (by decide), .inr (.inl ⟨rfl, rfl, by decide +kernel, by decide⟩), fun H10 s10 => ?_⟩
      wtm_at "gx"
      refine g_lst (by show 0 ≤ 100000; decide) fun q1 K1 m1 k1 x1 => ?_
      refine g_tup (by show 1 ≤ 100000; decide) fun q2 K2 m2 k2 x2 => ?_
      refine ⟨2, .ref q1, .ref q2, .list [], .tuple [.int 0], rfl, .lst (k2 _ _ x1) .nil, .tup x2 (.cons (.int _) .nil), rs_two ((ThA.nil (w := 0) (p := 0)).lst.mono (by decide) (by decide)) ((th_nat (i := 0) (by decide)).one.tup.mono (by decide) (by decide)), .inr (.inr ⟨rfl, q1, [], [], [], rfl, k2 _ _ x1, .nil, trivial, rfl⟩), fun H11 s11 => ?_⟩
      exact q _
end
end K08

set_option maxHeartbeats 0
namespace K08
open PySem PySem.Spec PyProof.Rows L2 SX Ly
open Top
theorem facts {K : PySem.W.Frag} {h : Heap} {mg : Str → Option Value} (X : K.In h) (G : h.Ns mainGlobals mg) (c : He.SaysD fa fn K) (cx : ex K = true) : Facts K mg where
  f_is_one_of := by
    obtain ⟨fd, F⟩ := c.def_ 0 (d := d_is_one_of) rfl
    exact ⟨_, fd, F, He.glo_ok X G (c.fact 0 (f := .glo "is_one_of") rfl), FunD.bindsN F fun _ _ _ _ _ _ us hl => match us, hl with | [_, _], _ => rfl⟩
  f_kind_of := by
    obtain ⟨fd, F⟩ := c.def_ 1 (d := d_kind_of) rfl
    exact ⟨_, fd, F, He.glo_ok X G (c.fact 1 (f := .glo "kind_of") rfl), FunD.bindsN F fun _ _ _ _ _ _ us hl => match us, hl with | [_], _ => rfl⟩
  f_other_side := by
    obtain ⟨fd, F⟩ := c.def_ 2 (d := d_other_side) rfl
    exact ⟨_, fd, F, He.glo_ok X G (c.fact 2 (f := .glo "other_side") rfl), FunD.bindsN F fun _ _ _ _ _ _ us hl => match us, hl with | [_], _ => rfl⟩
  f_partners := by
    obtain ⟨fd, F⟩ := c.def_ 3 (d := d_partners) rfl
    exact ⟨_, fd, F, He.glo_ok X G (c.fact 3 (f := .glo "partners") rfl), FunD.bindsN F fun _ _ _ _ _ _ us hl => match us, hl with | [_], _ => rfl⟩
  f_is_clean := by
    obtain ⟨fd, F⟩ := c.def_ 4 (d := d_is_clean) rfl
    exact ⟨_, fd, F, He.glo_ok X G (c.fact 4 (f := .glo "is_clean") rfl), FunD.bindsN F fun _ _ _ _ _ _ us hl => match us, hl with | [_], _ => rfl⟩
  f_is_nest_from := by
    obtain ⟨fd, F⟩ := c.def_ 5 (d := d_is_nest_from) rfl
    exact ⟨_, fd, F, He.glo_ok X G (c.fact 5 (f := .glo "is_nest_from") rfl), FunD.bindsN F fun _ _ _ _ _ _ us hl => match us, hl with | [_, _], _ => rfl⟩
  f_is_nest := by
    obtain ⟨fd, F⟩ := c.def_ 6 (d := d_is_nest) rfl
    exact ⟨_, fd, F, He.glo_ok X G (c.fact 6 (f := .glo "is_nest") rfl), FunD.bindsN F fun _ _ _ _ _ _ us hl => match us, hl with | [_], _ => rfl⟩
  f_nest_of := by
    obtain ⟨fd, F⟩ := c.def_ 7 (d := d_nest_of) rfl
    exact ⟨_, fd, F, He.glo_ok X G (c.fact 7 (f := .glo "nest_of") rfl), FunD.bindsN F fun _ _ _ _ _ _ us hl => match us, hl with | [_], _ => rfl⟩
  f_joined := by
    obtain ⟨fd, F⟩ := c.def_ 8 (d := d_joined) rfl
    exact ⟨_, fd, F, He.glo_ok X G (c.fact 8 (f := .glo "joined") rfl), FunD.bindsN F fun _ _ _ _ _ _ us hl => match us, hl with | [_], _ => rfl⟩
  f_text_of := by
    obtain ⟨fd, F⟩ := c.def_ 9 (d := d_text_of) rfl
    exact ⟨_, fd, F, He.glo_ok X G (c.fact 9 (f := .glo "text_of") rfl), FunD.bindsN F fun _ _ _ _ _ _ us hl => match us, hl with | [_], _ => rfl⟩
  f_copied := by
    obtain ⟨fd, F⟩ := c.def_ 10 (d := d_copied) rfl
    exact ⟨_, fd, F, He.glo_ok X G (c.fact 10 (f := .glo "copied") rfl), FunD.bindsN F fun _ _ _ _ _ _ us hl => match us, hl with | [_], _ => rfl⟩
  f_at_path := by
    obtain ⟨fd, F⟩ := c.def_ 11 (d := d_at_path) rfl
    exact ⟨_, fd, F, He.glo_ok X G (c.fact 11 (f := .glo "at_path") rfl), FunD.bindsN F fun _ _ _ _ _ _ us hl => match us, hl with | [_, _], _ => rfl⟩
  f_law_mixed := by
    obtain ⟨fd, F⟩ := c.def_ 12 (d := d_law_mixed) rfl
    exact ⟨_, fd, F, He.glo_ok X G (c.fact 12 (f := .glo "_law_mixed") rfl), FunD.bindsN F fun _ _ _ _ _ _ us hl => match us, hl with | [_, _], _ => rfl⟩
  f_law_pot := by
    obtain ⟨fd, F⟩ := c.def_ 13 (d := d_law_pot) rfl
    exact ⟨_, fd, F, He.glo_ok X G (c.fact 13 (f := .glo "_law_pot") rfl), FunD.bindsN F fun _ _ _ _ _ _ us hl => match us, hl with | [_], _ => rfl⟩
  f_law_take := by
    obtain ⟨fd, F⟩ := c.def_ 14 (d := d_law_take) rfl
    exact ⟨_, fd, F, He.glo_ok X G (c.fact 14 (f := .glo "_law_take") rfl), FunD.bindsN F fun _ _ _ _ _ _ us hl => match us, hl with | [_, _], _ => rfl⟩
  f_law_sign := by
    obtain ⟨fd, F⟩ := c.def_ 15 (d := d_law_sign) rfl
    exact ⟨_, fd, F, He.glo_ok X G (c.fact 15 (f := .glo "_law_sign") rfl), FunD.bindsN F fun _ _ _ _ _ _ us hl => match us, hl with | [_], _ => rfl⟩
  f_law_clean := by
    obtain ⟨fd, F⟩ := c.def_ 16 (d := d_law_clean) rfl
    exact ⟨_, fd, F, He.glo_ok X G (c.fact 16 (f := .glo "_law_clean") rfl), FunD.bindsN F fun _ _ _ _ _ _ us hl => match us, hl with | [_, _], _ => rfl⟩
  f_law_bent := by
    obtain ⟨fd, F⟩ := c.def_ 17 (d := d_law_bent) rfl
    exact ⟨_, fd, F, He.glo_ok X G (c.fact 17 (f := .glo "_law_bent") rfl), FunD.bindsN F fun _ _ _ _ _ _ us hl => match us, hl with | [_, _], _ => rfl⟩
  f_law_long := by
    obtain ⟨fd, F⟩ := c.def_ 18 (d := d_law_long) rfl
    exact ⟨_, fd, F, He.glo_ok X G (c.fact 18 (f := .glo "_law_long") rfl), FunD.bindsN F fun _ _ _ _ _ _ us hl => match us, hl with | [_, _], _ => rfl⟩
  f_law_text := by
    obtain ⟨fd, F⟩ := c.def_ 19 (d := d_law_text) rfl
    exact ⟨_, fd, F, He.glo_ok X G (c.fact 19 (f := .glo "_law_text") rfl), FunD.bindsN F fun _ _ _ _ _ _ us hl => match us, hl with | [_, _], _ => rfl⟩
  f_law_is_clean := by
    obtain ⟨fd, F⟩ := c.def_ 20 (d := d_law_is_clean) rfl
    exact ⟨_, fd, F, He.glo_ok X G (c.fact 20 (f := .glo "_law_is_clean") rfl), FunD.bindsN F fun _ _ _ _ _ _ us hl => match us, hl with | [_], _ => rfl⟩
  f_law_nest := by
    obtain ⟨fd, F⟩ := c.def_ 21 (d := d_law_nest) rfl
    exact ⟨_, fd, F, He.glo_ok X G (c.fact 21 (f := .glo "_law_nest") rfl), FunD.bindsN F fun _ _ _ _ _ _ us hl => match us, hl with | [_], _ => rfl⟩
  f_law_which := by
    obtain ⟨fd, F⟩ := c.def_ 22 (d := d_law_which) rfl
    exact ⟨_, fd, F, He.glo_ok X G (c.fact 22 (f := .glo "_law_which") rfl), FunD.bindsN F fun _ _ _ _ _ _ us hl => match us, hl with | [_], _ => rfl⟩
  f_law_refused := by
    obtain ⟨fd, F⟩ := c.def_ 23 (d := d_law_refused) rfl
    exact ⟨_, fd, F, He.glo_ok X G (c.fact 23 (f := .glo "_law_refused") rfl), FunD.bindsN F fun _ _ _ _ _ _ us hl => match us, hl with | [_, _, _], _ => rfl⟩
  f_law_odd := by
    obtain ⟨fd, F⟩ := c.def_ 24 (d := d_law_odd) rfl
    exact ⟨_, fd, F, He.glo_ok X G (c.fact 24 (f := .glo "_law_odd") rfl), FunD.bindsN F fun _ _ _ _ _ _ us hl => match us, hl with | [_], _ => rfl⟩
  f_law_spoilt := by
    obtain ⟨fd, F⟩ := c.def_ 25 (d := d_law_spoilt) rfl
    exact ⟨_, fd, F, He.glo_ok X G (c.fact 25 (f := .glo "_law_spoilt") rfl), FunD.bindsN F fun _ _ _ _ _ _ us hl => match us, hl with | [_, _], _ => rfl⟩
  f_law_chain := by
    obtain ⟨fd, F⟩ := c.def_ 26 (d := d_law_chain) rfl
    exact ⟨_, fd, F, He.glo_ok X G (c.fact 26 (f := .glo "_law_chain") rfl), FunD.bindsN F fun _ _ _ _ _ _ us hl => match us, hl with | [_, _], _ => rfl⟩
  f_law_bad_paths := by
    obtain ⟨fd, F⟩ := c.def_ 27 (d := d_law_bad_paths) rfl
    exact ⟨_, fd, F, He.glo_ok X G (c.fact 27 (f := .glo "_law_bad_paths") rfl), FunD.bindsN F fun _ _ _ _ _ _ us hl => match us, hl with | [_, _], _ => rfl⟩
  f_law_deep_paths := by
    obtain ⟨fd, F⟩ := c.def_ 28 (d := d_law_deep_paths) rfl
    exact ⟨_, fd, F, He.glo_ok X G (c.fact 28 (f := .glo "_law_deep_paths") rfl), FunD.bindsN F fun _ _ _ _ _ _ us hl => match us, hl with | [_, _], _ => rfl⟩
  c_LETTERS := by
    obtain ⟨t, e⟩ := He.str_ok X G (c.fact 30 (f := .str "LETTERS" (S LET)) rfl)
    exact ⟨_, e, ⟨t, rfl⟩⟩
  c_OPENING := by
    obtain ⟨t, e⟩ := He.str_ok X G (c.fact 31 (f := .str "OPENING" (S OPN)) rfl)
    exact ⟨_, e, ⟨t, rfl⟩⟩
  c_CLOSING := by
    obtain ⟨t, e⟩ := He.str_ok X G (c.fact 32 (f := .str "CLOSING" (S CLO)) rfl)
    exact ⟨_, e, ⟨t, rfl⟩⟩
  c_BRACKETS := by
    obtain ⟨t, e⟩ := He.str_ok X G (c.fact 33 (f := .str "BRACKETS" (S BRK)) rfl)
    exact ⟨_, e, ⟨t, rfl⟩⟩
  c_DEEPEST := by
    obtain ⟨t, e⟩ := He.int_ok X G (c.fact 34 (f := .int "DEEPEST" 60) rfl)
    exact ⟨_, e, ⟨t, rfl⟩⟩
  b_len := He.free_ok X G (c.fact 35 (f := .free "len") rfl)
  b_int := He.free_ok X G (c.fact 36 (f := .free "int") rfl)
  b_str := He.free_ok X G (c.fact 37 (f := .free "str") rfl)
  b_range := He.free_ok X G (c.fact 38 (f := .free "range") rfl)
  b_enumerate := He.free_ok X G (c.fact 39 (f := .free "enumerate") rfl)
  b_zip := He.free_ok X G (c.fact 40 (f := .free "zip") rfl)
  b_isinstance := He.free_ok X G (c.fact 41 (f := .free "isinstance") rfl)
  b_list := He.free_ok X G (c.fact 42 (f := .free "list") rfl)
  b_tuple := He.free_ok X G (c.fact 43 (f := .free "tuple") rfl)
  b_bool := He.free_ok X G (c.fact 44 (f := .free "bool") rfl)
  b_min := He.free_ok X G (c.fact 45 (f := .free "min") rfl)
  b_repr := He.free_ok X G (c.fact 46 (f := .free "repr") rfl)
  b_ValueError := He.free_ok X G (c.fact 47 (f := .free "ValueError") rfl)
  g_MendError := He.glo_ok X G (c.fact 48 (f := .glo "MendError") rfl)
  c_MendError := ⟨_, He.glo_ok X G (c.fact 48 (f := .glo "MendError") rfl), rfl⟩
  g_NoNest := He.glo_ok X G (c.fact 49 (f := .glo "NoNest") rfl)
  c_NoNest := ⟨_, He.glo_ok X G (c.fact 49 (f := .glo "NoNest") rfl), rfl⟩
  g_NoDeeds := He.glo_ok X G (c.fact 50 (f := .glo "NoDeeds") rfl)
  c_NoDeeds := ⟨_, He.glo_ok X G (c.fact 50 (f := .glo "NoDeeds") rfl), rfl⟩
  g_NoNumber := He.glo_ok X G (c.fact 51 (f := .glo "NoNumber") rfl)
  c_NoNumber := ⟨_, He.glo_ok X G (c.fact 51 (f := .glo "NoNumber") rfl), rfl⟩
  g_NoSign := He.glo_ok X G (c.fact 52 (f := .glo "NoSign") rfl)
  c_NoSign := ⟨_, He.glo_ok X G (c.fact 52 (f := .glo "NoSign") rfl), rfl⟩
  g_NoWriting := He.glo_ok X G (c.fact 53 (f := .glo "NoWriting") rfl)
  c_NoWriting := ⟨_, He.glo_ok X G (c.fact 53 (f := .glo "NoWriting") rfl), rfl⟩
  g_NoRow := He.glo_ok X G (c.fact 54 (f := .glo "NoRow") rfl)
  c_NoRow := ⟨_, He.glo_ok X G (c.fact 54 (f := .glo "NoRow") rfl), rfl⟩
  z_NoNest := errB_ok (all_at cx (i := 0) rfl)
  kv_NoNest := beq_iff_eq.mp (all_at cx (i := 1) rfl)
  kk_NoNest_NoNest := beq_iff_eq.mp (all_at cx (i := 2) rfl)
  kk_NoNest_NoDeeds := beq_iff_eq.mp (all_at cx (i := 3) rfl)
  kk_NoNest_NoNumber := beq_iff_eq.mp (all_at cx (i := 4) rfl)
  kk_NoNest_NoSign := beq_iff_eq.mp (all_at cx (i := 5) rfl)
  kk_NoNest_NoWriting := beq_iff_eq.mp (all_at cx (i := 6) rfl)
  kk_NoNest_NoRow := beq_iff_eq.mp (all_at cx (i := 7) rfl)
  z_NoDeeds := errB_ok (all_at cx (i := 8) rfl)
  kv_NoDeeds := beq_iff_eq.mp (all_at cx (i := 9) rfl)
  kk_NoDeeds_NoNest := beq_iff_eq.mp (all_at cx (i := 10) rfl)
  kk_NoDeeds_NoDeeds := beq_iff_eq.mp (all_at cx (i := 11) rfl)
  kk_NoDeeds_NoNumber := beq_iff_eq.mp (all_at cx (i := 12) rfl)
  kk_NoDeeds_NoSign := beq_iff_eq.mp (all_at cx (i := 13) rfl)
  kk_NoDeeds_NoWriting := beq_iff_eq.mp (all_at cx (i := 14) rfl)
  kk_NoDeeds_NoRow := beq_iff_eq.mp (all_at cx (i := 15) rfl)
  z_NoNumber := errB_ok (all_at cx (i := 16) rfl)
  kv_NoNumber := beq_iff_eq.mp (all_at cx (i := 17) rfl)
  kk_NoNumber_NoNest := beq_iff_eq.mp (all_at cx (i := 18) rfl)
  kk_NoNumber_NoDeeds := beq_iff_eq.mp (all_at cx (i := 19) rfl)
  kk_NoNumber_NoNumber := beq_iff_eq.mp (all_at cx (i := 20) rfl)
  kk_NoNumber_NoSign := beq_iff_eq.mp (all_at cx (i := 21) rfl)
  kk_NoNumber_NoWriting := beq_iff_eq.mp (all_at cx (i := 22) rfl)
  kk_NoNumber_NoRow := beq_iff_eq.mp (all_at cx (i := 23) rfl)
  z_NoSign := errB_ok (all_at cx (i := 24) rfl)
  kv_NoSign := beq_iff_eq.mp (all_at cx (i := 25) rfl)
  kk_NoSign_NoNest := beq_iff_eq.mp (all_at cx (i := 26) rfl)
  kk_NoSign_NoDeeds := beq_iff_eq.mp (all_at cx (i := 27) rfl)
  kk_NoSign_NoNumber := beq_iff_eq.mp (all_at cx (i := 28) rfl)
  kk_NoSign_NoSign := beq_iff_eq.mp (all_at cx (i := 29) rfl)
  kk_NoSign_NoWriting := beq_iff_eq.mp (all_at cx (i := 30) rfl)
  kk_NoSign_NoRow := beq_iff_eq.mp (all_at cx (i := 31) rfl)
  z_NoWriting := errB_ok (all_at cx (i := 32) rfl)
  kv_NoWriting := beq_iff_eq.mp (all_at cx (i := 33) rfl)
  kk_NoWriting_NoNest := beq_iff_eq.mp (all_at cx (i := 34) rfl)
  kk_NoWriting_NoDeeds := beq_iff_eq.mp (all_at cx (i := 35) rfl)
  kk_NoWriting_NoNumber := beq_iff_eq.mp (all_at cx (i := 36) rfl)
  kk_NoWriting_NoSign := beq_iff_eq.mp (all_at cx (i := 37) rfl)
  kk_NoWriting_NoWriting := beq_iff_eq.mp (all_at cx (i := 38) rfl)
  kk_NoWriting_NoRow := beq_iff_eq.mp (all_at cx (i := 39) rfl)
  z_NoRow := errB_ok (all_at cx (i := 40) rfl)
  kv_NoRow := beq_iff_eq.mp (all_at cx (i := 41) rfl)
  kk_NoRow_NoNest := beq_iff_eq.mp (all_at cx (i := 42) rfl)
  kk_NoRow_NoDeeds := beq_iff_eq.mp (all_at cx (i := 43) rfl)
  kk_NoRow_NoNumber := beq_iff_eq.mp (all_at cx (i := 44) rfl)
  kk_NoRow_NoSign := beq_iff_eq.mp (all_at cx (i := 45) rfl)
  kk_NoRow_NoWriting := beq_iff_eq.mp (all_at cx (i := 46) rfl)
  kk_NoRow_NoRow := beq_iff_eq.mp (all_at cx (i := 47) rfl)
theorem law_at {K : PySem.W.Frag} {h : Heap} {mg : Str → Option Value} {f : Addr} (X : K.In h) (G : h.Ns mainGlobals mg) (hfa : mg ("law" : Str) = some (.ref f)) (c : He.SaysD fa fn K) :
    ∃ fd : FuncData, (∀ (s : Shared) (v : Value), BindsTo s fd ⟨[v], []⟩ [("script", v)]) ∧ FunD K "law" "law" (defArgs s_law) (defBody s_law) (defScope s_law) [] [] f fd := by
  obtain ⟨fd, F⟩ := c.def_ 29 (d := d_law) rfl
  have e := hfa.symm.trans (He.glo_ok X G (c.fact 29 (f := .glo "law") rfl))
  cases e
  have b := FunD.bindsA (ps := ["script"]) F fun _ _ _ _ _ _ us hl => match us, hl with | [_], _ => rfl
  exact ⟨fd, fun s v => b s [v] rfl, F⟩

end K08
open PySem PySem.W PySem.Calls PyProof.Rows
theorem PySem.Challenge.cw_nestmend_k08_no_nests_holds : PySem.Challenge.rw_nestmend_k08_no_nests.Holds := by
  w_on; o_law
  refine HandSHeadRun.head_any (r := OpenLaw.row PySem.Challenge.rw_nestmend_k08_no_nests) (q := view (OpenLaw.row PySem.Challenge.rw_nestmend_k08_no_nests).prog [45]) (H := K08.Top.hk) (ob := K08.Top.ob) (M := 6000) (loose := K08.Top.loose) (d := HandSHeadRun.topDef (OpenLaw.row PySem.Challenge.rw_nestmend_k08_no_nests).prog 45) (kwd := []) K08.Top.ob_eq
    (by kernel_rfl) (fun s => by kernel_rfl) K08.Top.run (by kernel_rfl) (by kernel_rfl) (by kernel_rfl) (by rfl) (by first | assumption | decide +kernel) (by decide +kernel) ⟨rfl, rfl, rfl, rfl, rfl, by decide +kernel⟩ ?hw ?hc
  case hw => w_witness2
  case hc =>
    refine Ly.walkG (l := PySem.Challenge.rw_nestmend_k08_no_nests) (n := 63) (k := 68) (x := "script") rfl (by decide) (by kernel_rfl) ⟨rfl, by decide, by decide⟩ ?F
    intro w mg fa h Y G hmg0
    obtain ⟨K, KX, c, cx⟩ := Y
    have hmg : mg ("law" : PySem.Str) = some (.ref fa) := by
      have e : (HandSHeadRun.topDef (OpenLaw.row PySem.Challenge.rw_nestmend_k08_no_nests).prog 45).name = ("law" : PySem.Str) := by kernel_rfl
      rw [← e]
      exact hmg0
    obtain ⟨fd, hb, F⟩ := K08.law_at KX G hmg c
    exact ⟨K, fd, K08.spLaw K, KX, hb, fun H a ns hl _ hS => ⟨a, ns, rfl, hS, hl, fun _ => rfl⟩, fun base _ _ => K08.ok_law (K08.facts KX G c cx) F⟩
