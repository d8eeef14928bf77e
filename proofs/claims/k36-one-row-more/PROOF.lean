import PyProof.Rows.All
import Wide.All
import OpenK.AllK
import Wide.FinOn
import KE.KStateDown
import KE.KDictKeyed
import KE.SortData
import Lean
import HandS.ForMost
import HandS.More
import HandS.Deep
import HandS.IsInst
import HandS.TupAny
import HandS.Wide
import HandS.EndBits
import HandS.Defaults
import HandS.Head0
import HandS.Head1
import HandS.Head2
import HandS.HeadEnd
import HandS.HeadHook1
import HandS.HeadHook2
import PySem.Challenge.RW_eachalone_k36_whole_one_row_more
set_option Elab.async false
set_option linter.all false
set_option maxRecDepth 100000
set_option maxHeartbeats 4000000
namespace EA
open PySem PySem.Spec PyProof.Rows L2
def top (i : Nat) : Stmt := PySem.Challenge.pw_eachalone_k36_whole_one_row_more.main.body.getD i (.Pass ⟨0, 0, 0, 0⟩)
abbrev s7 : Stmt := top 7
abbrev s8 : Stmt := top 8
abbrev s9 : Stmt := top 9
abbrev s15 : Stmt := top 15
abbrev s16 : Stmt := top 16
abbrev s17 : Stmt := top 17
abbrev s18 : Stmt := top 18
abbrev s19 : Stmt := top 19
abbrev s20 : Stmt := top 20
abbrev s21 : Stmt := top 21
abbrev s26 : Stmt := top 26
abbrev s30 : Stmt := top 30
abbrev s31 : Stmt := top 31
abbrev s32 : Stmt := top 32
abbrev s33 : Stmt := top 33
abbrev s39 : Stmt := top 39
abbrev s42 : Stmt := top 42
abbrev s43 : Stmt := top 43
abbrev s44 : Stmt := top 44
abbrev s46 : Stmt := top 46
abbrev s47 : Stmt := top 47
abbrev s48 : Stmt := top 48
abbrev s50 : Stmt := top 50
abbrev s51 : Stmt := top 51
abbrev s52 : Stmt := top 52
abbrev s54 : Stmt := top 54
abbrev s55 : Stmt := top 55
abbrev s56 : Stmt := top 56
abbrev s57 : Stmt := top 57
abbrev s58 : Stmt := top 58
abbrev s59 : Stmt := top 59
abbrev s28_0 : Stmt := inClass (top 28) 0
abbrev s28_3 : Stmt := inClass (top 28) 3
abbrev s28_5 : Stmt := inClass (top 28) 5
abbrev s28_6 : Stmt := inClass (top 28) 6
abbrev s28_7 : Stmt := inClass (top 28) 7
abbrev s28_8 : Stmt := inClass (top 28) 8
abbrev s41_0 : Stmt := inClass (top 41) 0
abbrev s41_1 : Stmt := inClass (top 41) 1
abbrev s41_5 : Stmt := inClass (top 41) 5

/-! ### what the top's names hold -/
structure Tx (K : PySem.W.Frag) (mg : Str → Option Value) (C B : Addr) : Prop where
  f_isinstance : mg "isinstance" = none
  f_int : mg "int" = none
  f_bool : mg "bool" = none
  f_tuple : mg "tuple" = none
  f_str : mg "str" = none
  f_len : mg "len" = none
  f_all : mg "all" = none
  f_list : mg "list" = none
  f_sorted : mg "sorted" = none
  f_range : mg "range" = none
  f_any : mg "any" = none
  f_enumerate : mg "enumerate" = none
  f_min : mg "min" = none
  f_max : mg "max" = none
  i_MOST_PARTS : ∃ t, mg "MOST_PARTS" = some (.int 60 t)
  i_DEEPEST : ∃ t, mg "DEEPEST" = some (.int 12 t)
  i_MOST_WITHIN : ∃ t, mg "MOST_WITHIN" = some (.int 6 t)
  i_MOST_ROWS : ∃ t, mg "MOST_ROWS" = some (.int 4 t)
  i_MOST_WISHES : ∃ t, mg "MOST_WISHES" = some (.int 8 t)
  mgCase : mg "Case" = some (.ref C)
  mgBook : mg "Book" = some (.ref B)
  clCase : Cls K C
  clBook : Cls K B
  na_case_many : NoAttr K C "case_many"
  na_case_decision : NoAttr K C "case_decision"
  na_case_rows : NoAttr K C "case_rows"
  na_own_rows : NoAttr K B "own_rows"

/-! ### an own def, an own method, an own class, as callers want them -/
structure Own (P : Program) (w : World) (K : PySem.W.Frag) (mg : Str → Option Value) (base : Heap) (k : Nat) (x : Str) (ps : List Str) (dvs : List V) (sp : Sp) : Prop where
  ex : ∃ (f : Addr) (fd : FuncData) (ds : List Value), FnOk P w K mg base CX0 k f fd ps sp ∧ mg x = some (.ref f) ∧ PySem.W.keepIn K (.ref f) = true ∧ Binds K fd ps ds ∧ Vals dvs ds
structure OwnM (P : Program) (w : World) (K : PySem.W.Frag) (mg : Str → Option Value) (base : Heap) (k : Nat) (C : Addr) (m : Str) (ps : List Str) (sp : Sp) : Prop where
  ex : ∃ (f : Addr) (fd : FuncData), FnOk P w K mg base CX0 k f fd ps sp ∧ Meth K C m f ∧ Binds K fd ps []
structure OwnMk (P : Program) (w : World) (K : PySem.W.Frag) (mg : Str → Option Value) (base : Heap) (k : Nat) (C : Addr) (x : Str) (ps : List Str) (sp : Sp) : Prop where
  ex : ∃ (f : Addr) (fd : FuncData), FnOk P w K mg base CX0 k f fd ps sp ∧ mg x = some (.ref C) ∧ Mk K C f ∧ Binds K fd ps []
theorem Own.mono {P : Program} {w : World} {K : PySem.W.Frag} {mg : Str → Option Value} {base : Heap} {j k : Nat} {x : Str} {ps : List Str} {dvs : List V} {sp : Sp} (o : Own P w K mg base j x ps dvs sp) (h : j ≤ k) : Own P w K mg base k x ps dvs sp := by
  obtain ⟨f, fd, ds, F, r⟩ := o.ex
  exact ⟨f, fd, ds, F.mono h, r⟩
theorem hu65 {A : Around} {k : Nat} (hr : Room k A) : A.units + 65 < cLine := by have := hr.un; omega
section
variable {X : Cx} {k : Nat} {C : Addr} {ps : List Str} {dvs : List V} {sp : Sp} {x m : Str} {p pos apos : Pos} {e o : Expr} {es : List Expr} {ta : TE} {t : TA}
theorem pe_own (F : Own X.prog X.w X.K X.mg X.base k x ps dvs sp) (hr : Room k X.A) (hg : Gl X x) (ha : PA X (e :: es) t) (hdb : (x == ("__debug__" : Str)) = false := by decide)
    (he : starEach (e :: es) X.env = (false, eval e X.env) :: starEach es X.env := by rfl) (hpl : (backTo pos (starEach es X.env)).any (·.1) = false := by rfl) : PE X (.Call (.Name x p) (e :: es) [] pos) (tCall sp dvs E0 t) := by
  obtain ⟨f, fd, ds, F, m, kp, b, v⟩ := F.ex
  exact pe_call F hr hg m kp b v pass0 ha hdb he hpl
theorem pe_ownMk (F : OwnMk X.prog X.w X.K X.mg X.base k C x ps sp) (hr : Room (k + 1) X.A) (hg : Gl X x) (ha : PA X (e :: es) t) (hdb : (x == ("__debug__" : Str)) = false := by decide)
    (he : starEach (e :: es) X.env = (false, eval e X.env) :: starEach es X.env := by rfl) (hpl : (backTo pos (starEach es X.env)).any (·.1) = false := by rfl) : PE X (.Call (.Name x p) (e :: es) [] pos) (tMake C sp [] E0 t) := by
  obtain ⟨f, fd, F, m, M, b⟩ := F.ex
  exact pe_make M F hr hg m b .nil pass0 ha hdb he hpl
theorem pe_ownM {pl : Sem Bool} (F : OwnM X.prog X.w X.K X.mg X.base k C m ps sp) (c : Cls X.K C) (hr : Room k X.A) (he : PE X o ta) (ha : PA X (e :: es) t)
    (hst : starEach (e :: es) X.env = (false, eval e X.env) :: starEach es X.env := by rfl) (hpl : (backTo pos (starEach es X.env)).any (·.1) = false := by rfl)
    (ht : eval (.Call (.Attribute o m apos) (e :: es) [] pos) X.env = (do
      let ov ← eval o X.env
      standAt apos.atName
      let (f, first) ← holding [ov] (getMethod ov m pl)
      callWith pos f first (backTo pos (starEach (e :: es) X.env)) (backToKw pos (keywordEach [] X.env))) := by rfl) : PE X (.Call (.Attribute o m apos) (e :: es) [] pos) (tMeth C m sp [] E0 ta t) := by
  obtain ⟨f, fd, F, M, b⟩ := F.ex
  exact pe_meth he c M F hr b .nil pass0 ha hst hpl ht
theorem pe_ownM0 {pl : Sem Bool} (F : OwnM X.prog X.w X.K X.mg X.base k C m ps sp) (c : Cls X.K C) (hr : Room k X.A) (he : PE X o ta)
    (ht : eval (.Call (.Attribute o m apos) [] [] pos) X.env = (do
      let ov ← eval o X.env
      standAt apos.atName
      let (f, first) ← holding [ov] (getMethod ov m pl)
      callWith pos f first (backTo pos (starEach [] X.env)) (backToKw pos (keywordEach [] X.env))) := by rfl) : PE X (.Call (.Attribute o m apos) [] [] pos) (tMeth C m sp [] E0 ta tNil) := by
  obtain ⟨f, fd, F, M, b⟩ := F.ex
  exact pe_meth0 he c M F hr b .nil pass0 ht
/-- what is never reached; a module's int -/
theorem pe_never {e : Expr} : PE X e (fun _ _ _ => False) := ⟨fun _ _ _ _ _ _ h => h.elim⟩
theorem pe_gint {i : Int} (hm : ∃ t, X.mg x = some (.int i t)) (hg : Gl X x) (hd : (x == ("__debug__" : Str)) = false := by decide) : PE X (.Name x pos) (tC (.int i)) := by
  obtain ⟨t, hm⟩ := hm
  exact pe_glob hg hm ⟨t, rfl⟩ hd
end

/-! ### a def by its row of the head -/
section
variable {P : Program} {w : World} {K : PySem.W.Frag} {mg : Str → Option Value} {base : Heap} {x qual : Str} {params : Arguments} {body : List Stmt} {scope : Scope} {dvs : List V} {kws : List (Str × V)} {f : Addr} {fd : FuncData}
/-- no exception leaves: THE RULE -/
theorem ok0 {N ps : List Str} {k : Nat} {sp : Sp} (F : FunD K x qual params body scope dvs kws f fd) (S : FnScope N ps scope) (len : ∀ vs H Q E, sp vs H Q E → vs.length = ps.length)
    (hbody : ∀ (cdv : Value) (A : Around) (outer : List Env) (s : Shared) (H : Hp) (vs : List V) (Q : VK) (E : XK), Room k (A.deeper (envOfC qual scope s.heap.objs.size f cdv)) → sp vs H Q E →
      ∃ t, PSs (cxOf CX0 P w K mg base N qual scope f cdv A outer s H E).nox body t ∧ t { nx := fun _ H' => Q .non H', rt := Q } (start N vs) H) : FnOk P w K mg base CX0 (k + 1) f fd ps sp :=
  F.ok S len fun cdv A outer s H vs Q E hr h => let ⟨t, a, b⟩ := hbody cdv A outer s H vs Q E hr h; ⟨t, a.nox, b⟩
end

/-! ### heaps -/
/-- all tuples stay -/
def Tups (H H' : Hp) : Prop := ∀ b xs, H b = some (.tup xs) → H' b = some (.tup xs)
theorem Tups.refl (H : Hp) : Tups H H := fun _ _ h => h
theorem Tups.trans {H H1 H2 : Hp} (a : Tups H H1) (b : Tups H1 H2) : Tups H H2 := fun c o h => b c o (a c o h)
theorem tupsOf {H H' : Hp} (s : Same H H') : Tups H H' := fun b xs h => s b _ h
theorem same_new {H : Hp} {p : Addr} (h : H p = none) (o : HO) : Same H (upd H p o) := fun b u q => by rw [upd_ne (ne_of_none q h)]; exact q
/-- the new object is rewritten: what stood ahead of it stands -/
theorem same_upd {H0 H : Hp} {p : Addr} (s : Same H0 H) (h : H0 p = none) (o : HO) : Same H0 (upd H p o) := fun b u q => by rw [upd_ne (ne_of_none q h)]; exact s b u q
theorem tupOf {H H' : Hp} (s : Same H H') {a : Addr} {xs : List V} (h : H a = some (.tup xs)) : H' a = some (.tup xs) := s _ _ h
theorem pImp {α β : Type} {F G : α → β → Prop} : ∀ {l₁ : List α} {l₂ : List β}, Paired F l₁ l₂ → (∀ a b, F a b → G a b) → Paired G l₁ l₂
  | _, _, .nil, _ => .nil
  | _, _, .cons r t, f => .cons (f _ _ r) (pImp t f)
theorem pLen {α β : Type} {F : α → β → Prop} {l₁ : List α} {l₂ : List β} (h : Paired F l₁ l₂) : l₁.length = l₂.length := Paired.length h
theorem pApp {α β : Type} {F : α → β → Prop} : ∀ {l₁ : List α} {l₂ : List β} {r₁ : List α} {r₂ : List β}, Paired F l₁ l₂ → Paired F r₁ r₂ → Paired F (l₁ ++ r₁) (l₂ ++ r₂)
  | _, _, _, _, .nil, h => h
  | _, _, _, _, .cons a t, h => .cons a (pApp t h)
theorem pAt {α β : Type} {F : α → β → Prop} : ∀ {l₁ : List α} {l₂ : List β}, Paired F l₁ l₂ → ∀ {i : Nat} {a : α}, l₁[i]? = some a → ∃ b, l₂[i]? = some b ∧ F a b
  | _, _, .nil, i, a, h => by simp at h
  | _, _, .cons r t, 0, a, h => by simp at h; subst h; exact ⟨_, rfl, r⟩
  | _, _, .cons r t, i + 1, a, h => by
    obtain ⟨b, h1, h2⟩ := pAt t (i := i) (a := a) (by simpa using h)
    exact ⟨b, by simpa using h1, h2⟩
theorem pTk {α β : Type} {F : α → β → Prop} : ∀ {l₁ : List α} {l₂ : List β} (n : Nat), Paired F l₁ l₂ → Paired F (l₁.take n) (l₂.take n)
  | _, _, 0, _ => .nil
  | _, _, _ + 1, .nil => .nil
  | _, _, n + 1, .cons r t => .cons r (pTk n t)
theorem pDr {α β : Type} {F : α → β → Prop} : ∀ {l₁ : List α} {l₂ : List β} (n : Nat), Paired F l₁ l₂ → Paired F (l₁.drop n) (l₂.drop n)
  | _, _, 0, h => h
  | _, _, _ + 1, .nil => .nil
  | _, _, n + 1, .cons _ t => pDr n t
theorem take_more {α : Type} : ∀ {l : List α} {i : Nat} {x : α}, l[i]? = some x → l.take (i + 1) = l.take i ++ [x]
  | [], i, x, h => by simp at h
  | a :: l, 0, x, h => by
    have e : a = x := Option.some.inj h
    subst e
    rfl
  | a :: l, i + 1, x, h => by
    have ih := take_more (l := l) (i := i) (x := x) h
    show a :: l.take (i + 1) = a :: l.take i ++ [x]
    rw [ih]
    rfl
theorem small {n : Nat} (h : n ≤ 1000) : n ≤ sizeLine := Nat.le_of_lt (small1000 h)

/-! ### rows -/
abbrev Row := List Bool
def RowV (H : Hp) (v : V) (r : Row) : Prop := ∃ p, v = .ref p ∧ H p = some (.tup (r.map V.bl))
abbrev RowsV (H : Hp) : List V → List Row → Prop := Paired (RowV H)
theorem RowV.keep {H H' : Hp} {v : V} {r : Row} (k : Tups H H') (h : RowV H v r) : RowV H' v r := by
  obtain ⟨p, e, h⟩ := h
  exact ⟨p, e, k _ _ h⟩
theorem RowsV.keep {H H' : Hp} {vs : List V} {rs : List Row} (k : Tups H H') (h : RowsV H vs rs) : RowsV H' vs rs := pImp h fun _ _ q => q.keep k
def rowD (r : Row) : PyData := .tuple (r.map PyData.bool)
theorem dpAll_bl {K : PySem.W.Frag} {H : Hp} : ∀ r : Row, DpAll K H (r.map V.bl) (r.map PyData.bool)
  | [] => .nil
  | b :: r => .cons (.bl b) (dpAll_bl r)
theorem RowV.dp {K : PySem.W.Frag} {H : Hp} {v : V} {r : Row} (h : RowV H v r) : Dp K H v (rowD r) := by
  obtain ⟨p, rfl, h⟩ := h
  exact .tup (SqT.of h) (dpAll_bl r)
theorem RowsV.dps {K : PySem.W.Frag} {H : Hp} : ∀ {vs : List V} {rs : List Row}, RowsV H vs rs → DpAll K H vs (rs.map rowD)
  | _, _, .nil => .nil
  | _, _, .cons h t => .cons h.dp (RowsV.dps t)
theorem bl_lay : ∀ r : Row, PyData.canLayAll0 (r.map PyData.bool) = true
  | [] => by simp [PyData.canLayAll0]
  | b :: r => by simp [PyData.canLayAll0, PyData.canLay0, bl_lay r]
theorem bl_depth : ∀ r : Row, PyData.depthAll (r.map PyData.bool) ≤ 0
  | [] => by simp [PyData.depthAll]
  | b :: r => by
    have := bl_depth r
    simp only [List.map_cons, PyData.depthAll, PyData.depth]
    omega
theorem rowD_depth (r : Row) : (rowD r).depth ≤ 1 := by
  have := bl_depth r
  simp only [rowD, PyData.depth]
  omega
theorem rowD_lay (r : Row) : (rowD r).canLay0 = true := by simp [rowD, PyData.canLay0, bl_lay r]
theorem shaped_of {d : PyData} (h : d.canLay0 = true) (h2 : d.depth ≤ 64) : SeqAt.shaped d = true := by
  show (d.canLay0 && decide (d.depth ≤ 64)) = true
  rw [Bool.and_eq_true]
  exact ⟨h, decide_eq_true h2⟩
theorem rowD_shaped (r : Row) : SeqAt.shaped (rowD r) = true := shaped_of (rowD_lay r) (by have := rowD_depth r; omega)
theorem rowDs_lay : ∀ rs : List Row, PyData.canLayAll0 (rs.map rowD) = true
  | [] => by simp [PyData.canLayAll0]
  | r :: rs => by simp [PyData.canLayAll0, rowD_lay r, rowDs_lay rs]
theorem rowDs_depth : ∀ rs : List Row, PyData.depthAll (rs.map rowD) ≤ 1
  | [] => by simp [PyData.depthAll]
  | r :: rs => by
    have h1 := rowDs_depth rs
    have h2 := rowD_depth r
    simp only [List.map_cons, PyData.depthAll]
    omega
theorem rowDs_shaped (rs : List Row) : SeqAt.shaped (.list (rs.map rowD)) = true := by
  have h1 := rowDs_depth rs
  exact shaped_of (by simp only [PyData.canLay0]; exact rowDs_lay rs) (by simp only [PyData.depth]; omega)
theorem bools_eqv : ∀ r q : Row, PyData.eqvAll (r.map PyData.bool) (q.map PyData.bool) = decide (r = q)
  | [], [] => by simp [PyData.eqvAll]
  | [], _ :: _ => by simp [PyData.eqvAll]
  | _ :: _, [] => by simp [PyData.eqvAll]
  | a :: r, b :: q => by
    have ih := bools_eqv r q
    simp only [List.map_cons, PyData.eqvAll, PyData.eqv, ih]
    cases a <;> cases b <;> simp
theorem rowD_eqv (r q : Row) : PyData.eqv (rowD r) (rowD q) = decide (r = q) := by
  simp only [rowD, PyData.eqv, bools_eqv]
theorem rows_any (rs : List Row) (r : Row) : ((rs.map rowD).any fun z => PyData.eqv z (rowD r)) = decide (r ∈ rs) := by
  rw [List.any_map]
  have e : ((fun z => PyData.eqv z (rowD r)) ∘ rowD) = fun q => decide (q = r) := by
    funext q
    exact rowD_eqv q r
  rw [e]
  rw [Bool.eq_iff_iff, List.any_eq_true, decide_eq_true_iff]
  constructor
  · rintro ⟨x, hx, hd⟩
    rw [decide_eq_true_iff] at hd
    rw [← hd]
    exact hx
  · exact fun h => ⟨r, h, by simp⟩

/-! ### small words -/
def rTupleOf (K : PySem.W.Frag) : List V → Hp → VK → Prop := fun xs H Q => ∃ p ys, xs = [.ref p] ∧ ((SqL K H p ys ∧ ∀ l, H l = none → Q (.ref l) (upd H l (.tup ys))) ∨ (SqT K H p ys ∧ Q (.ref p) H))
theorem call_tupleOf {X : Cx} : CallR X (.type "tuple") (rTupleOf X.K) := call_tuple_of
theorem qb {Q : VK} {H : Hp} {b c : Bool} (e : b = c) (q : Q (.bl c) H) : Q (.bl b) H := by rw [e]; exact q
theorem qi {Q : VK} {H : Hp} {i j : Int} (e : i = j) (q : Q (.int j) H) : Q (.int i) H := by rw [e]; exact q
theorem iteD {c A B : Prop} [Decidable c] (hc : c) (h : A) : if decide c = true then A else B := by
  rw [decide_eq_true hc]
  exact iteT h
theorem iteDF {c A B : Prop} [Decidable c] (hc : ¬ c) (h : B) : if decide c = true then A else B := by
  rw [decide_eq_false hc]
  exact iteF h
theorem iteB {b c : Bool} {A B : Prop} (e : b = c) (h : if c = true then A else B) : if b = true then A else B := by
  rw [e]
  exact h
def rLenSeq (K : PySem.W.Frag) : List V → Hp → VK → Prop := fun xs H Q => ∃ p ys, xs = [.ref p] ∧ (SqL K H p ys ∨ SqT K H p ys) ∧ Q (.int ys.length) H
theorem call_lenSeq {X : Cx} : CallR X (.builtin "len") (rLenSeq X.K) := call_len_seq
end EA

set_option maxHeartbeats 4000000
namespace EA
open PySem PySem.Spec PyProof.Rows L2
/-! ### dicts whose keys are tuples of truths -/
def lf (b : Bool) : Leaf := .num (if b then 1 else 0)
theorem lf_inj {a b : Bool} (h : lf a = lf b) : a = b := by
  cases a <;> cases b <;> first | rfl | (exfalso; revert h; decide)
theorem lfs_inj : ∀ {a b : Row}, a.map lf = b.map lf → a = b
  | [], [], _ => rfl
  | [], _ :: _, h => by simp at h
  | _ :: _, [], h => by simp at h
  | x :: a, y :: b, h => by
    simp only [List.map_cons, List.cons.injEq] at h
    rw [lf_inj h.1, lfs_inj h.2]
theorem leaf_items {P : Program} {w : World} : ∀ {r : Row} {us : List Value}, Vals (r.map V.bl) us → ItemsAre (leafKind P w) (r.map lf) us
  | [], us, h => by
    rw [List.map_nil] at h
    cases h
    exact .nil
  | b :: r, us, h => by
    rw [List.map_cons] at h
    cases h with
    | cons h t =>
      cases h
      refine .cons ?_ (leaf_items t)
      show decide ((if b = true then 1 else 0) = (if b = true then (1 : Int) else 0)) = true
      exact decide_eq_true rfl
/-- the dict at d by its one object: its keys (with the tuples' addresses), in order -/
def BdO (P : Program) (w : World) (d : Addr) (ks : List (Row × Addr)) : HO := .ext fun h => ks.length ≤ sizeLine ∧ (d == sysModules) = false ∧
  ∃ xs : List (List Leaf × Addr × Value), xs.map (fun x => (x.1, x.2.1)) = ks.map (fun k => (k.1.map lf, k.2)) ∧
    ∃ o es ep, h.get? d = some o ∧ o.ExactDict ∧ o.data = .dict es ep ∧ es.toList = xs.map (entryOfKey (tupleKind (leafKind P w))) ∧ (xs.map (·.1)).Nodup
def BD (P : Program) (w : World) (H : Hp) (d : Addr) (ks : List (Row × Addr)) : Prop := H d = some (BdO P w d ks) ∧ ∀ k ∈ ks, H k.2 = some (.tup (k.1.map V.bl))
theorem BD.keep {P : Program} {w : World} {H H' : Hp} {d : Addr} {ks : List (Row × Addr)} (h : BD P w H d ks) (k : Tups H H') (hd : H' d = H d) : BD P w H' d ks := ⟨hd.trans h.1, fun x hx => k _ _ (h.2 x hx)⟩
section
variable {X : Cx} {pins : List (Addr × Obj)} {σ : L2.St} {H : Hp} {s : Shared} {d b : Addr} {ks : List (Row × Addr)} {r : Row}
theorem bkey (I : Inv X pins σ H s) (e : H b = some (.tup (r.map V.bl))) : (tupleKind (leafKind X.prog X.w)).is s.heap (r.map lf) b := by
  obtain ⟨_, its, rv, o, h1, h2, n, h3⟩ := (show ObjOk X.prog X.w H s.heap b (.tup (r.map V.bl)) from I.hok b _ e)
  exact ⟨o, its.toArray, n, h1, h2, h3, by simpa using leaf_items rv⟩
theorem bd_of (I : Inv X pins σ H s) (e : BD X.prog X.w H d ks) : ks.length ≤ sizeLine ∧ (d == sysModules) = false ∧ ∃ xs : List (List Leaf × Addr × Value), xs.map (fun x => (x.1, x.2.1)) = ks.map (fun k => (k.1.map lf, k.2)) ∧
    s.heap.DictOfH (tupleKind (leafKind X.prog X.w)) d xs := by
  obtain ⟨e1, e2⟩ := e
  obtain ⟨⟨z, y, xs, q, o, es, ep, h1, h2, h3, h4, h5⟩, _⟩ := I.hok d _ e1
  refine ⟨z, y, xs, q, o, es, ep, h1, h2, h3, h4, fun x hx => ?_, h5⟩
  have hm : (x.1, x.2.1) ∈ ks.map (fun k => (k.1.map lf, k.2)) := by
    rw [← q]
    exact List.mem_map.mpr ⟨x, hx, rfl⟩
  obtain ⟨k, hk, ek⟩ := List.mem_map.mp hm
  injection ek with k1 k2
  rw [← k1, ← k2]
  exact bkey I (e2 k hk)
theorem atKey_none {xs : List (List Leaf × Addr × Value)} (q : xs.map (fun x => (x.1, x.2.1)) = ks.map (fun k => (k.1.map lf, k.2))) : (atKey xs (r.map lf)).isSome = decide (r ∈ ks.map (·.1)) := by
  have e1 : (atKey xs (r.map lf)).isSome = decide (r.map lf ∈ xs.map (·.1)) := by
    unfold atKey
    rw [Option.isSome_map, Bool.eq_iff_iff, List.find?_isSome, decide_eq_true_iff, List.mem_map]
    constructor
    · rintro ⟨x, hx, hd⟩
      exact ⟨x, hx, of_decide_eq_true hd⟩
    · rintro ⟨x, hx, hd⟩
      exact ⟨x, hx, decide_eq_true hd⟩
  rw [e1, Bool.eq_iff_iff, decide_eq_true_iff, decide_eq_true_iff]
  have e2 : xs.map (·.1) = (ks.map (·.1)).map (List.map lf) := by
    have := congrArg (List.map (fun z : List Leaf × Addr => z.1)) q
    simpa [List.map_map, Function.comp_def] using this
  rw [e2, List.mem_map]
  constructor
  · rintro ⟨x, hx, hd⟩
    rw [← lfs_inj hd]
    exact hx
  · exact fun h => ⟨r, h, rfl⟩
end
section
variable {X : Cx} {pos : Pos}
def tDNewB (P : Program) (w : World) : TE := fun _ H Q => ∀ p, H p = none → Q (.ref p) (upd H p (BdO P w p []))
theorem bd_empty {P : Program} {w : World} {H : Hp} (h : Heap) (hb : sysModules < h.objs.size) : ObjOk P w H (h.push { cls := .type "dict", data := .dict #[] }) h.objs.size (BdO P w h.objs.size []) := by
  have hs : (h.objs.size == sysModules) = false := beq_eq_false_iff_ne.mpr (Ne.symm (Nat.ne_of_lt hb))
  have hg : (h.push { cls := .type "dict", data := .dict #[] }).get? h.objs.size = some { cls := .type "dict", data := .dict #[] } := Heap.get?_push_size _ rfl
  refine ⟨⟨Nat.zero_le _, hs, [], rfl, _, #[], 0, hg, ⟨rfl, rfl, rfl⟩, rfl, rfl, List.nodup_nil⟩, ⟨_, hg⟩, ?_⟩
  rintro h1 h2 ⟨z, y, xs, q, o, es, ep, e1, r⟩ k
  exact ⟨z, y, xs, q, o, es, ep, k o e1, r⟩
theorem pe_dnewB : PE X (.Dict [] [] pos) (tDNewB X.prog X.w) := ⟨fun pins s σ H Q I h =>
  wpAny_Dict_empty ⟨.ref s.heap.objs.size, _, I.laid (a := s.heap.objs.size) (o := BdO X.prog X.w s.heap.objs.size []) (t' := s.toks) (fun _ _ q => Heap.get?_push_of_some _ q) (Nat.le_refl _) (bd_empty s.heap (Inv.big I)), rfl, h _ (I.hok.fresh (Nat.le_refl _))⟩⟩
/-- row in d -/
def rInB (P : Program) (w : World) : R2 := fun x y H Q => ∃ (d b : Addr) (ks : List (Row × Addr)) (r : Row), x = .ref b ∧ H b = some (.tup (r.map V.bl)) ∧ y = .ref d ∧ BD P w H d ks ∧ Q (.bl (decide (r ∈ ks.map (·.1)))) H
theorem op_inB (hu : X.A.units + 1 < cLine) : OpR X (compareOp .In) (rInB X.prog X.w) := by
  intro pins s σ H x y v u Q I rx ry h
  obtain ⟨d, b, ks, r, rfl, hb, rfl, hd, q⟩ := h
  cases rx
  cases ry
  obtain ⟨z, hs, xs, e, dd⟩ := bd_of I hd
  refine wpAny_in_heap (tupleKind_room_in1 hu) (bkey I hb) hs dd ?_
  rw [atKey_none (r := r) e]
  exact ⟨.bl _, H, I.tok _, rfl, q⟩
/-- d[row] = v, a new row -/
def rSetB (P : Program) (w : World) : TSet := fun o i _ H Q => ∃ (d b : Addr) (ks : List (Row × Addr)) (r : Row), o = .ref d ∧ i = .ref b ∧ H b = some (.tup (r.map V.bl)) ∧ BD P w H d ks ∧ r ∉ ks.map (·.1) ∧ ks.length < sizeLine ∧ Q (upd H d (BdO P w d (ks ++ [(r, b)])))
theorem set_B (hu : X.A.units + 1 < cLine) : PSet X (rSetB X.prog X.w) := by
  intro pins s σ H o i v ov iv u Q I ro ri rv h
  obtain ⟨d, b, ks, r, rfl, rfl, hb, hd, hn, hl, q⟩ := h
  cases ro
  cases ri
  obtain ⟨z, hs, xs, e, dd⟩ := bd_of I hd
  have hlen : xs.length = ks.length := by
    have := congrArg List.length e
    simpa using this
  have hat : atKey xs (r.map lf) = none := by
    have h1 := atKey_none (r := r) e
    rw [decide_eq_false hn] at h1
    cases q : atKey xs (r.map lf) with
    | none => rfl
    | some p => rw [q] at h1; simp at h1
  refine wpAny_setItem_heap (hsz := by rw [hlen]; exact z) (tupleKind_room_in1 hu) (bkey I hb) dd fun h' dd' hsb => ?_
  rw [storedH_new hat] at dd'
  obtain ⟨ob, es, ep, hq, h2, h3, h4, _, h5⟩ := dd'
  refine ⟨_, I.write (x := d) (e := d) (t' := s.toks + (tupleKind (leafKind X.prog X.w)).draws (r.map lf)) (o := BdO X.prog X.w d (ks ++ [(r, b)])) (by rw [hd.1]; exact True.intro) (.inl rfl) (fun c w hc hw => (hsb.2 c hc).trans hw) ⟨ob, hq⟩ ?_, q⟩
  refine ⟨⟨?_, hs, _, ?_, ob, es, ep, hq, h2, h3, h4, h5⟩, ⟨ob, hq⟩, ?_⟩
  · rw [List.length_append, List.length_singleton]
    exact hl
  · rw [List.map_append, List.map_append, e]
    rfl
  · rintro h1 h2 ⟨z, y, xs, q, o, es, ep, e1, r⟩ k
    exact ⟨z, y, xs, q, o, es, ep, k o e1, r⟩
/-- list(d): the keys' own tuples -/
def rListB (P : Program) (w : World) : List V → Hp → VK → Prop := fun xs H Q => ∃ (d : Addr) (ks : List (Row × Addr)), xs = [.ref d] ∧ BD P w H d ks ∧ ∀ l, H l = none → Q (.ref l) (upd H l (.lst (ks.map fun k => .ref k.2)))
theorem refs_vals : ∀ as : List Addr, Vals (as.map V.ref) (as.map Value.ref)
  | [] => .nil
  | _ :: as => .cons rfl (refs_vals as)
theorem call_listB (hc : X.calm = true) : CallR X (.type "list") (rListB X.prog X.w) := by
  intro pins s σ H xs us Q I r h
  obtain ⟨d, ks, rfl, hd, q⟩ := h
  rw [Vals.ref1 r]
  obtain ⟨z, hs, ys, e, dd⟩ := bd_of I hd
  obtain ⟨o, es, ep, h1, h2, h3, h4, h5, h6⟩ := dd
  have hlen : ys.length = ks.length := by
    have := congrArg List.length e
    simpa using this
  have hes : es.size = ks.length := by rw [size_of_entries h4, hlen]
  have raw : s.heap.DictRaw d es ep := ⟨o, h1, h2, h3⟩
  refine PySem.W.kdl_call (PySem.KdlSrc.rawDict (prog := X.prog) (w := X.w) (es := es) (ep := ep) hs) (I.ok.hd hc) raw (by rw [hes]; exact z) fun h' tk acc' c' kp hS hacc => ?_
  have hitems : acc'.toList = (ks.map (·.2)).map Value.ref := by
    obtain ⟨a1, a2⟩ := hacc
    have e1 : es.toList.map (·.key) = (ks.map (·.2)).map Value.ref := by
      rw [h4, List.map_map]
      have : (ys.map fun x => (x.1, x.2.1)).map (fun x => Value.ref x.2) = (ks.map fun k => (k.1.map lf, k.2)).map (fun x => Value.ref x.2) := by rw [e]
      simpa [List.map_map, Function.comp_def, entryOfKey] using this
    rw [← e1]
    apply List.ext_getElem?
    intro i
    rw [List.getElem?_map, Array.getElem?_toList, Array.getElem?_toList]
    by_cases hi : i < es.size
    · have hv : acc'[i]? = some acc'[i] := Array.getElem?_eq_getElem (by omega)
      obtain ⟨hi', ev⟩ := a2 i _ hv
      rw [hv, ev, Array.getElem?_eq_getElem hi]
      rfl
    · rw [Array.getElem?_eq_none (by omega), Array.getElem?_eq_none (by omega)]
      rfl
  have hvals : Vals (ks.map fun k => V.ref k.2) acc'.toList := by
    rw [hitems]
    have := refs_vals (ks.map (·.2))
    rwa [List.map_map] at this
  refine ⟨.ref s.heap.objs.size, _, I.laid (a := s.heap.objs.size) (o := .lst (ks.map fun k => .ref k.2)) (t' := tk) kp (Nat.le_refl _) ⟨by rw [List.length_map]; exact z, acc'.toList, c', hvals, by simpa using hS⟩, rfl, q _ (I.hok.fresh (Nat.le_refl _))⟩
end
end EA

set_option maxHeartbeats 4000000
namespace EA
open PySem PySem.Spec PyProof.Rows L2
/-! ### sorted of a list of rows: some arrangement of it -/
theorem alike_bools : ∀ xs ys : Row, PySem.W.alikeAll (xs.map PyData.bool) (ys.map PyData.bool) = true
  | [], _ => by simp [PySem.W.alikeAll]
  | _ :: _, [] => by simp [PySem.W.alikeAll]
  | x :: xs, y :: ys => by
    show PySem.W.alikeAll (.bool x :: xs.map .bool) (.bool y :: ys.map .bool) = true
    rw [PySem.W.alikeAll, alike_bools xs ys]
    simp [PySem.W.alike]
theorem alike_rows (r q : Row) : PySem.W.alike (rowD r) (rowD q) = true := by
  have h := alike_bools r q
  simpa [rowD, PySem.W.alike] using h
def rSortedB (K : PySem.W.Frag) : List V → Hp → VK → Prop := fun vs H Q => ∃ (a : Addr) (L : List (Addr × Row)), vs = [V.ref a] ∧ SqL K H a (L.map fun x => V.ref x.1) ∧ (∀ x ∈ L, H x.1 = some (.tup (x.2.map V.bl)) ∧ x.2 ≠ []) ∧
  ∀ (L' : List (Addr × Row)) (p : Addr), L'.Perm L → H p = none → Q (.ref p) (upd H p (.lst (L'.map fun x => V.ref x.1)))
theorem each_refs {h : Heap} : ∀ {L : List (Addr × Row)} {us : List Value}, Vals (L.map fun x => V.ref x.1) us → PySem.W.EachIs (fun (v : Value) (b : Addr × Row) => v = Value.ref b.1) us L
  | [], us, r => by
    rw [List.map_nil] at r
    cases r
    exact .nil
  | x :: L, us, r => by
    rw [List.map_cons] at r
    cases r with
    | cons r t =>
      cases r
      exact .cons rfl (each_refs (h := h) t)
theorem vals_each : ∀ {L : List (Addr × Row)} {us : List Value}, PySem.W.EachIs (fun (v : Value) (b : Addr × Row) => v = Value.ref b.1) us L → Vals (L.map fun x => V.ref x.1) us
  | _, _, .nil => .nil
  | _, _, .cons h t => .cons h (vals_each t)
theorem each_reads {X : Cx} {pins : List (Addr × Obj)} {σ : L2.St} {H : Hp} {s : Shared} (I : Inv X pins σ H s) : ∀ {L : List (Addr × Row)} {us : List Value}, Vals (L.map fun x => V.ref x.1) us → (∀ x ∈ L, H x.1 = some (.tup (x.2.map V.bl)) ∧ x.2 ≠ []) →
    PySem.W.EachIs (fun (v : Value) (b : Addr × Row) => ∃ as, Reads s.heap v (rowD b.2) as) us L
  | [], us, r, _ => by
    rw [List.map_nil] at r
    cases r
    exact .nil
  | x :: L, us, r, h => by
    rw [List.map_cons] at r
    cases r with
    | cons r t =>
      refine .cons ?_ (each_reads I t fun y hy => h y (List.mem_cons_of_mem _ hy))
      have hx := (h x List.mem_cons_self).1
      exact Dp.reads I (rowD x.2) (.ref x.1) _ (RowV.dp ⟨x.1, rfl, hx⟩) r
section
variable {X : Cx}
theorem cr_sortedB {k : Nat} (hr : Room k X.A) : CallR X (.builtin "sorted") (rSortedB X.K) := by
  intro pins s σ H vs us Q I r h
  obtain ⟨a, L, rfl, hs, hL, q⟩ := h
  obtain ⟨its, rv, hl, hz⟩ := I.list hs
  rw [Vals.ref1 r]
  rw [List.length_map] at hz
  have hun := hr.un
  refine PySem.W.sorted_data (enc := fun b : Addr × Row => rowD b.2) (R := fun (v : Value) (b : Addr × Row) => v = Value.ref b.1) hl.isList (each_refs (h := s.heap) rv) (each_reads I rv hL) ?_ ?_ hz (fun b _ => ?_) fun out hlen ho => ?_
  · intro d hd d' hd'
    obtain ⟨b, _, rfl⟩ := List.mem_map.mp hd
    obtain ⟨b', _, rfl⟩ := List.mem_map.mp hd'
    exact alike_rows b.2 b'.2
  · refine .inl fun d hd => ?_
    obtain ⟨b, hb, rfl⟩ := List.mem_map.mp hd
    obtain ⟨_, hne⟩ := hL b hb
    cases e : b.2 with
    | nil => exact absurd e hne
    | cons x xs => exact ⟨.bool x, xs.map .bool, by simp [rowD, e]⟩
  · have := rowD_depth b.2
    omega
  · obtain ⟨ep, he'⟩ := PyProof.Rows.sortedAll_at s.heap its (List.toArray out)
    have hp : (L.mergeSort (PySem.W.dataLe false fun b : Addr × Row => rowD b.2)).Perm L := List.mergeSort_perm _ _
    refine ⟨.ref _, upd H (s.heap.objs.size + 1) (.lst ((L.mergeSort (PySem.W.dataLe false fun b : Addr × Row => rowD b.2)).map fun x => V.ref x.1)), I.laid (t' := s.toks) (fun _ _ => PyProof.Rows.sortedAll_old) (Nat.le_succ _) ⟨?_, out, ep, vals_each ho, by simpa using he'⟩, rfl, q _ _ hp (I.hok.fresh (Nat.le_succ _))⟩
    rw [List.length_map, hp.length_eq]
    exact hz
end
/-! ### len(book) by the class's own def -/
section
variable {X : Cx} {C : Addr} {k : Nat} {sp : Sp}
theorem call_lenOwn (F : OwnM X.prog X.w X.K X.mg X.base k C "__len__" ["self"] sp) (c : Cls X.K C) (hr : Room (k + 1) X.A) :
    CallR X (.builtin "len") (fun xs H Q => ∃ (a dx : Addr) (fs : List (Str × V)), xs = [.ref a] ∧ H a = some (.ins C dx fs) ∧ sp [.ref a] H (fun v H' => ∃ n : Int, v = .int n ∧ 0 ≤ n ∧ n < 2 ^ 63 ∧ Q (.int n) H') E0) := by
  intro pins s σ H xs us Q I r h
  obtain ⟨a, dx, fs, rfl, ha, hsp⟩ := h
  rw [Vals.ref1 r]
  obtain ⟨f, fd, F, M, b⟩ := F.ex
  obtain ⟨mA, O, _⟩ := ins_get I.hok ha
  obtain ⟨od, J, _⟩ := O.look
  obtain ⟨m, fr⟩ := I.fr
  refine PySem.W.len_K fr I.mod.kin J M.at_ M.fn ?_
  have hl : ([Value.ref a] ++ ([] : List Value)).length = (["self"] : List Str).length := rfl
  have r1 : Vals [V.ref a] [Value.ref a] := .cons rfl .nil
  refine wpAny_call (codeAny_mono (F.run X.A.in1 X.stack s H ⟨[Value.ref a], []⟩ [Value.ref a] [V.ref a] _ E0 hr.in1 I.env0.in1 (b s [Value.ref a] I.kIn hl) r1 hsp) fun r s' hq => ?_)
  cases r with
  | error e => exact (show False from hq).elim
  | ok fl =>
    cases fl with
    | ret u =>
      obtain ⟨v, H', I', rv, n, rfl, h0, h1, q⟩ := I.after hq
      obtain ⟨t, rfl⟩ := rv
      exact ⟨⟨h0, h1⟩, .int n, H', I'.tok _, ⟨_, rfl⟩, q⟩
    | next => exact False.elim hq
    | brk => exact False.elim hq
    | cont => exact False.elim hq
end
end EA

set_option maxHeartbeats 4000000
namespace EA
open PySem PySem.Spec PyProof.Rows L2
/-! ### whole numbers, rows -/
theorem isi_t {K : PySem.W.Frag} {H : Hp} {x : V} {S T : String} {b : Bool} {Q : VK} (ty : TyX K H x (.type S)) (h : kitB S T = some b) (q : Q (.bl b) H) : rIsi K [x, .ty T] H Q := ⟨x, .ty T, .type S, .type T, b, rfl, .ty T, ty, kit_ty h, q⟩
def spWhole : Sp := fun vs H Q _ => ∃ i : Int, vs = [.int i] ∧ Q (.bl true) H
def spWithin : Sp := fun vs H Q _ => ∃ i lo hi : Int, vs = [.int i, .int lo, .int hi] ∧ lo ≤ i ∧ i ≤ hi ∧ Q (.bl true) H
def spIsRow : Sp := fun vs H Q _ => ∃ (p : Addr) (r : Row), vs = [.ref p, .int (r.length : Nat)] ∧ r.length ≤ 8 ∧ H p = some (.tup (r.map V.bl)) ∧ ∀ H', Same H H' → Q (.bl true) H'
section
variable {P : Program} {w : World} {K : PySem.W.Frag} {mg : Str → Option Value} {base : Heap} {C B : Addr} {f : Addr} {fd : FuncData}
theorem sc7 : FnScope ["thing"] ["thing"] (defScope s7) := ⟨rfl, rfl, rfl, by decide +kernel, rfl, by decide +kernel, by decide +kernel⟩
theorem ok7 (T : Tx K mg C B) (F : FunD K "is_whole" "is_whole" (defArgs s7) (defBody s7) (defScope s7) [] [] f fd) : FnOk P w K mg base CX0 1 f fd ["thing"] spWhole := by
  refine ok0 F sc7 (fun vs H Q E h => ?_) (fun cdv A outer s H vs Q E hr h => ?_)
  · obtain ⟨i, rfl, _⟩ := h
    rfl
  · obtain ⟨i, rfl, q⟩ := h
    refine ⟨_, (pss_one (ps_ret (pe_and (pe_callB call_isi (by rfl) T.f_isinstance (by decide +kernel) (pa_cons (pv 0) (pa_cons (pe_bltn (v := .ty "int") (u := .type "int") (by rfl) T.f_int (by decide +kernel) rfl) pa_nil))) (pe_one (pe_not (pe_callB call_isi (by rfl) T.f_isinstance (by decide +kernel) (pa_cons (pv 0) (pa_cons (pe_bltn (v := .ty "bool") (u := .type "bool") (by rfl) T.f_bool (by decide +kernel) rfl) pa_nil)))))))), ?_⟩
    refine ⟨_, rfl, _, _, _, _, true, rfl, .ty _, .base (.int _), kit_ty (by decide +kernel), _, rfl, iteT ?_⟩
    exact ⟨_, rfl, _, _, _, _, false, rfl, .ty _, .base (.int _), kit_ty (by decide +kernel), _, rfl, q⟩
theorem sc8 : FnScope ["thing", "low", "high"] ["thing", "low", "high"] (defScope s8) := ⟨rfl, rfl, rfl, by decide +kernel, rfl, by decide +kernel, by decide +kernel⟩
theorem ok8 (T : Tx K mg C B) (F : FunD K "is_within" "is_within" (defArgs s8) (defBody s8) (defScope s8) [] [] f fd) (o_is_whole : Own P w K mg base 1 "is_whole" ["thing"] [] spWhole) : FnOk P w K mg base CX0 2 f fd ["thing", "low", "high"] spWithin := by
  refine ok0 F sc8 (fun vs H Q E h => ?_) (fun cdv A outer s H vs Q E hr h => ?_)
  · obtain ⟨i, lo, hi, rfl, _⟩ := h
    rfl
  · obtain ⟨i, lo, hi, rfl, h1, h2, q⟩ := h
    refine ⟨_, (pss_one (ps_ret (pe_and (pe_own o_is_whole (hr.mono (by omega)) rfl (pa_cons (pv 0) pa_nil)) (pe_one (pe_chain op_le op_le (pv 1) (pv 0) (pv 2)))))), ?_⟩
    refine ⟨_, rfl, i, rfl, _, rfl, iteT ?_⟩
    refine ⟨_, rfl, _, rfl, _, _, rfl, rfl, _, rfl, ?_⟩
    rw [decide_eq_true h1]
    exact iteT ⟨_, rfl, _, _, rfl, rfl, qb (Q := Q) (decide_eq_true h2) q⟩
theorem sc9 : FnScope ["thing", "many", "one"] ["thing", "many"] (defScope s9) := ⟨rfl, rfl, rfl, by decide +kernel, rfl, by decide +kernel, by decide +kernel⟩
theorem all_true : ∀ n : Nat, (List.replicate n true).all id = true
  | 0 => rfl
  | n + 1 => by rw [List.replicate_succ, List.all_cons, all_true n]; rfl
theorem ok9 (T : Tx K mg C B) (F : FunD K "is_row" "is_row" (defArgs s9) (defBody s9) (defScope s9) [] [] f fd) : FnOk P w K mg base CX0 1 f fd ["thing", "many"] spIsRow := by
  refine ok0 F sc9 (fun vs H Q E h => ?_) (fun cdv A outer s H vs Q E hr h => ?_)
  · obtain ⟨i, r, rfl, _⟩ := h
    rfl
  · obtain ⟨p, r, rfl, h8, hp, q⟩ := h
    have hlen : (r.map V.bl).length = r.length := List.length_map _
    refine ⟨_, (pss_one (ps_ret (pe_and (pe_callB call_isi (by rfl) T.f_isinstance (by decide +kernel) (pa_cons (pv 0) (pa_cons (pe_bltn (v := .ty "tuple") (u := .type "tuple") (by rfl) T.f_tuple (by decide +kernel) rfl) pa_nil))) (pe_and (pe_cmpR op_eq (pe_callB call_len_seq (by rfl) T.f_len (by decide +kernel) (pa_cons (pv 0) pa_nil)) (pv 1) (nomark _)) (pe_one (pe_callB (cr_all rfl) (by rfl) T.f_all (by decide +kernel) (pa_cons (pe_lc (own := [("one", 2)]) rfl sc9.nd (pi_tup (pv 0)) (blkOk_by (N := ["thing", "many", "one"]) (sc := defScope s9) (by decide +kernel)) (fun _ _ _ _ _ => (pg_name (i := 2) sc9.nd rfl (by first | exact Or.inl rfl | exact Or.inr rfl))) (fun _ _ _ _ _ => pts_nil) (fun _ _ _ _ _ => (pe_callB (r := rIsi K) call_isi (by rfl) T.f_isinstance (by decide +kernel) (pa_cons (pv 2) (pa_cons (pe_bltn (v := .ty "bool") (u := .type "bool") (by rfl) T.f_bool (by decide +kernel) rfl) pa_nil))))) pa_nil))))))), ?_⟩
    refine ⟨_, rfl, _, _, _, _, true, rfl, .ty _, .base (.tup hp), kit_ty (by decide +kernel), _, rfl, iteT ?_⟩
    refine ⟨_, rfl, p, _, rfl, .inr (SqT.of hp), _, rfl, rfl, _, rfl, ?_⟩
    rw [hlen, decide_eq_true rfl]
    refine iteT ?_
    refine ⟨_, rfl, p, rfl, ⟨_, SqT.of hp⟩, fun D hD => ?_⟩
    refine lc_tup (K := K) (a := p) (xs := r.map V.bl) (fun i H' => Same H H' ∧ H' D = some (.lst ((List.replicate i true).map V.bl))) ⟨same_new hD _, upd_same⟩ (fun i H' _ h => SqT.of (h.1 _ _ hp)) ?_ ?_
    · rintro i x H' hx ⟨s1, h1⟩
      obtain ⟨b, rfl⟩ : ∃ b, x = V.bl b := by
        rw [List.getElem?_map] at hx
        cases e : r[i]? with
        | none => rw [e] at hx; cases hx
        | some u => rw [e] at hx; exact ⟨u, (Option.some.inj hx).symm⟩
      have hi : i < r.length := by
        have := (List.getElem?_eq_some_iff.mp hx).1
        rwa [hlen] at this
      refine ⟨rfl, _, rfl, _, _, _, _, true, rfl, .ty _, .base (.bl _), kit_ty (by decide +kernel), _, h1, ?_, same_upd s1 hD _, ?_⟩
      · rw [List.length_map, List.length_replicate]
        exact small1000 (by omega)
      · rw [upd_same, List.replicate_succ', List.map_append]
        rfl
    · rintro H' ⟨s1, h1⟩
      refine ⟨D, _, rfl, SqL.of h1, ?_⟩
      rw [all_true]
      exact q _ s1
end
end EA

set_option maxHeartbeats 4000000
namespace EA
open PySem PySem.Spec PyProof.Rows L2
/-! ### decisions: where one stands, how many parts it has, what it answers -/
abbrev An := Row → Bool
def ladder : List ((Nat × An) × (Nat × An)) → An → Row → Bool
  | [], fl, r => fl r
  | x :: xs, fl, r => if x.1.2 r = true then x.2.2 r else ladder xs fl r
def DecAt (many : Nat) : Nat → Hp → V → Nat → An → Prop
  | 0, _, _, _, _ => False
  | n + 1, H, v, m, f => ∃ p, v = .ref p ∧ (
      (∃ i : Nat, H p = some (.tup [.str "wish", .int i]) ∧ i < many ∧ m = 1 ∧ f = fun r => r.getD i false) ∨
      (∃ s b, (s = "yes" ∧ b = true ∨ s = "no" ∧ b = false) ∧ H p = some (.tup [.str s]) ∧ m = 1 ∧ f = fun _ => b) ∨
      (∃ d m' f', H p = some (.tup [.str "not", d]) ∧ DecAt many n H d m' f' ∧ m = m' + 1 ∧ f = fun r => !f' r) ∨
      (∃ s b q ds, ∃ mfs : List (Nat × An), (s = "and" ∧ b = true ∨ s = "or" ∧ b = false) ∧ H p = some (.tup [.str s, .ref q]) ∧ H q = some (.tup ds) ∧ 1 ≤ ds.length ∧ ds.length ≤ 6 ∧ Paired (fun d mf => DecAt many n H d mf.1 mf.2) ds mfs ∧
        m = (mfs.map (·.1)).sum + 1 ∧ f = fun r => if b = true then mfs.all (fun mf => mf.2 r) else mfs.any (fun mf => mf.2 r)) ∨
      (∃ q last rs, ∃ ms : List ((Nat × An) × (Nat × An)), ∃ ml fl, H p = some (.tup [.str "cases", .ref q, last]) ∧ H q = some (.tup rs) ∧ 1 ≤ rs.length ∧ rs.length ≤ 4 ∧
        Paired (fun x mf => ∃ t a b, x = .ref t ∧ H t = some (.tup [a, b]) ∧ DecAt many n H a mf.1.1 mf.1.2 ∧ DecAt many n H b mf.2.1 mf.2.2) rs ms ∧ DecAt many n H last ml fl ∧ m = (ms.map (fun x => x.1.1 + x.2.1)).sum + ml + 1 ∧ f = ladder ms fl))
theorem DecAt.keep {many : Nat} : ∀ {n : Nat} {H H' : Hp} {v : V} {m : Nat} {f : An}, Tups H H' → DecAt many n H v m f → DecAt many n H' v m f
  | 0, _, _, _, _, _, _, h => h
  | n + 1, H, H', v, m, f, k, h => by
    obtain ⟨p, e, h⟩ := h
    refine ⟨p, e, ?_⟩
    rcases h with ⟨i, h1, h2⟩ | ⟨s, b, h0, h1, h2⟩ | ⟨d, m', f', h1, h2, h3⟩ | ⟨s, b, q, ds, mfs, h0, h1, h2, h3, h4, h5, h6⟩ | ⟨q, last, rs, ms, ml, fl, h1, h2, h3, h4, h5, h6, h7⟩
    · exact .inl ⟨i, k _ _ h1, h2⟩
    · exact .inr (.inl ⟨s, b, h0, k _ _ h1, h2⟩)
    · exact .inr (.inr (.inl ⟨d, m', f', k _ _ h1, h2.keep k, h3⟩))
    · exact .inr (.inr (.inr (.inl ⟨s, b, q, ds, mfs, h0, k _ _ h1, k _ _ h2, h3, h4, pImp h5 fun _ _ z => z.keep k, h6⟩)))
    · exact .inr (.inr (.inr (.inr ⟨q, last, rs, ms, ml, fl, k _ _ h1, k _ _ h2, h3, h4, pImp h5 fun _ _ ⟨t, a, b, z0, z1, z2, z3⟩ => ⟨t, a, b, z0, k _ _ z1, z2.keep k, z3.keep k⟩, h6.keep k, h7⟩)))
theorem DecAt.succ {many : Nat} : ∀ {n : Nat} {H : Hp} {v : V} {m : Nat} {f : An}, DecAt many n H v m f → DecAt many (n + 1) H v m f
  | 0, _, _, _, _, h => h.elim
  | n + 1, H, v, m, f, h => by
    obtain ⟨p, e, h⟩ := h
    refine ⟨p, e, ?_⟩
    rcases h with ⟨i, h1, h2⟩ | ⟨s, b, h0, h1, h2⟩ | ⟨d, m', f', h1, h2, h3⟩ | ⟨s, b, q, ds, mfs, h0, h1, h2, h3, h4, h5, h6⟩ | ⟨q, last, rs, ms, ml, fl, h1, h2, h3, h4, h5, h6, h7⟩
    · exact .inl ⟨i, h1, h2⟩
    · exact .inr (.inl ⟨s, b, h0, h1, h2⟩)
    · exact .inr (.inr (.inl ⟨d, m', f', h1, h2.succ, h3⟩))
    · exact .inr (.inr (.inr (.inl ⟨s, b, q, ds, mfs, h0, h1, h2, h3, h4, pImp h5 fun _ _ z => z.succ, h6⟩)))
    · exact .inr (.inr (.inr (.inr ⟨q, last, rs, ms, ml, fl, h1, h2, h3, h4, pImp h5 fun _ _ ⟨t, a, b, z0, z1, z2, z3⟩ => ⟨t, a, b, z0, z1, z2.succ, z3.succ⟩, h6.succ, h7⟩)))
theorem DecAt.mono {many : Nat} {n k : Nat} {H : Hp} {v : V} {m : Nat} {f : An} (h : DecAt many n H v m f) (hk : n ≤ k) : DecAt many k H v m f := by
  induction k with
  | zero =>
    have e : n = 0 := by omega
    rw [e] at h
    exact h
  | succ k ih =>
    by_cases e : n = k + 1
    · rw [← e]
      exact h
    · exact (ih (by omega)).succ
/-! ### the promises -/
abbrev RungAt (many n : Nat) (H : Hp) (x : V) (mf : (Nat × An) × (Nat × An)) : Prop := ∃ t a b, x = .ref t ∧ H t = some (.tup [a, b]) ∧ DecAt many n H a mf.1.1 mf.1.2 ∧ DecAt many n H b mf.2.1 mf.2.2
theorem RungAt.keep {many n : Nat} {H H' : Hp} {x : V} {mf : (Nat × An) × (Nat × An)} (k : Tups H H') (h : RungAt many n H x mf) : RungAt many n H' x mf := by
  obtain ⟨t, a, b, z0, z1, z2, z3⟩ := h
  exact ⟨t, a, b, z0, k _ _ z1, z2.keep k, z3.keep k⟩
def spAnswer (n : Nat) : Sp := fun vs H Q _ => ∃ (many : Nat) (v u : V) (m : Nat) (f : An) (r : Row), vs = [v, u] ∧ DecAt many n H v m f ∧ RowV H u r ∧ r.length = many ∧ ∀ H', Same H H' → Q (.bl (f r)) H'
def spLadder (n : Nat) : Sp := fun vs H Q _ => ∃ (many : Nat) (p q : Addr) (last u : V) (rs : List V) (ms : List ((Nat × An) × (Nat × An))) (ml : Nat) (fl : An) (r : Row), vs = [.ref p, u] ∧ H p = some (.tup [.str "cases", .ref q, last]) ∧ H q = some (.tup rs) ∧
  Paired (RungAt many n H) rs ms ∧ DecAt many n H last ml fl ∧ RowV H u r ∧ r.length = many ∧ ∀ H', Same H H' → Q (.bl (ladder ms fl r)) H'
theorem ladder_drop {ms : List ((Nat × An) × (Nat × An))} {fl : An} {r : Row} {i : Nat} {x : (Nat × An) × (Nat × An)} (h : ms[i]? = some x) : ladder (ms.drop i) fl r = if x.1.2 r = true then x.2.2 r else ladder (ms.drop (i + 1)) fl r := by
  obtain ⟨hi, e⟩ := List.getElem?_eq_some_iff.mp h
  rw [List.drop_eq_getElem_cons hi, e]
  rfl
section
variable {P : Program} {w : World} {K : PySem.W.Frag} {mg : Str → Option Value} {base : Heap} {C B : Addr} {f : Addr} {fd : FuncData}
theorem sc20 : FnScope ["decision", "row", "test", "told"] ["decision", "row"] (defScope s20) := ⟨rfl, rfl, rfl, by decide +kernel, rfl, by decide +kernel, by decide +kernel⟩
theorem ok20 {n : Nat} (T : Tx K mg C B) (F : FunD K "answer_cases" "answer_cases" (defArgs s20) (defBody s20) (defScope s20) [] [] f fd) (o_answer_decisions : Own P w K mg base (2 * n) "answer_decisions" ["decision", "row"] [] (spAnswer n)) :
    FnOk P w K mg base CX0 (2 * n + 1) f fd ["decision", "row"] (spLadder n) := by
  refine ok0 F sc20 (fun vs H Q E h => ?_) (fun cdv A outer s H vs Q E hr h => ?_)
  · obtain ⟨_, _, _, _, _, _, _, _, _, _, rfl, _⟩ := h
    rfl
  · obtain ⟨many, p, q, last, u, rs, ms, ml, fl, r, rfl, hp, hq, hrs, hl, hu, hlen, k⟩ := h
    refine ⟨_, (pss_cons (ps_for PassesOwn.never rfl (pi_tup (pe_ix ix_tup (pv 0) pe_int (fun _ _ => rfl))) (pg_tup rfl (pgs_cons (pg_name (i := 2) sc20.nd rfl (by first | exact Or.inl rfl | exact Or.inr rfl)) (pgs_cons (pg_name (i := 3) sc20.nd rfl (by first | exact Or.inl rfl | exact Or.inr rfl)) pgs_nil))) (pss_one (ps_if (pt_val (pe_own o_answer_decisions (hr.mono (by omega)) rfl (pa_cons (pv 2) (pa_cons (pv 1) pa_nil)))) (pss_one (ps_ret (pe_own o_answer_decisions (hr.mono (by omega)) rfl (pa_cons (pv 3) (pa_cons (pv 1) pa_nil))))) pss_nil)))
    (pss_one (ps_ret (pe_own o_answer_decisions (hr.mono (by omega)) rfl (pa_cons (pe_ix ix_tup (pv 0) pe_int (fun _ _ => rfl)) (pa_cons (pv 1) pa_nil)))))), ?_⟩
    refine ⟨_, rfl, _, _, _, _, rfl, rfl, SqT.of hp, rfl, q, rfl, ⟨_, SqT.of hq⟩, ?_⟩
    refine for_tup (K := K) (a := q) (xs := rs) (fun i σ H' => ∃ a b, σ = [some (.ref p), some u, a, b] ∧ Same H H' ∧ ladder ms fl r = ladder (ms.drop i) fl r) ⟨none, none, rfl, Same.refl _, rfl⟩ (fun i σ H' _ ⟨_, _, _, s1, _⟩ => SqT.of (s1 _ _ hq)) ?_ ?_
    · rintro i x σ H' hx ⟨a0, b0, rfl, s1, e⟩
      obtain ⟨mf, hmf, t, a, b, rfl, ht, ha, hb⟩ := pAt hrs hx
      have eL := ladder_drop (fl := fl) (r := r) hmf
      refine ⟨t, _, rfl, SqT.of (s1 _ _ ht), rfl, _, _, rfl, _, _, rfl, rfl, ?_⟩
      refine ⟨_, rfl, _, rfl, many, _, _, _, _, r, rfl, ha.keep (tupsOf s1), hu.keep (tupsOf s1), hlen, fun H2 s2 => ⟨_, rfl, ?_⟩⟩
      refine ite2 (fun c => ?_) (fun c => ?_)
      · rw [if_pos c] at eL
        refine ⟨_, rfl, _, rfl, many, _, _, _, _, r, rfl, hb.keep (tupsOf (s1.trans s2)), hu.keep (tupsOf (s1.trans s2)), hlen, fun H3 s3 => ?_⟩
        exact qb (Q := Q) (by rw [← eL, ← e]) (k _ ((s1.trans s2).trans s3))
      · rw [if_neg c] at eL
        exact ⟨_, _, rfl, s1.trans s2, e.trans eL⟩
    · rintro σ H' ⟨a0, b0, rfl, s1, e⟩
      have e2 : ms.drop rs.length = [] := List.drop_eq_nil_of_le (by rw [pLen hrs]; exact Nat.le_refl _)
      refine ⟨_, rfl, _, _, _, _, rfl, rfl, SqT.of (s1 _ _ hp), rfl, _, rfl, many, _, _, _, _, r, rfl, hl.keep (tupsOf s1), hu.keep (tupsOf s1), hlen, fun H2 s2 => ?_⟩
      exact qb (Q := Q) (by rw [e, e2]; rfl) (k _ (s1.trans s2))
end
end EA

set_option maxHeartbeats 4000000
namespace EA
open PySem PySem.Spec PyProof.Rows L2
theorem all_map {mfs : List (Nat × An)} {r : Row} : (mfs.map fun mf => mf.2 r).all id = mfs.all fun mf => mf.2 r := by
  rw [List.all_map]
  rfl
theorem any_map {mfs : List (Nat × An)} {r : Row} : (mfs.map fun mf => mf.2 r).any id = mfs.any fun mf => mf.2 r := by
  rw [List.any_map]
  rfl
theorem atI_row {r : Row} {i : Nat} (h : i < r.length) : atI (r.map V.bl) (i : Int) = some (.bl (r.getD i false)) := by
  refine atI_nat ?_
  rw [List.getElem?_map, List.getElem?_eq_getElem h, List.getD_eq_getElem?_getD, List.getElem?_eq_getElem h]
  rfl
section
variable {P : Program} {w : World} {K : PySem.W.Frag} {mg : Str → Option Value} {base : Heap} {C B : Addr} {f : Addr} {fd : FuncData}
theorem sc21 : FnScope ["decision", "row", "answers", "part"] ["decision", "row"] (defScope s21) := ⟨rfl, rfl, rfl, by decide +kernel, rfl, by decide +kernel, by decide +kernel⟩
theorem ok21 {n : Nat} (T : Tx K mg C B) (F : FunD K "answer" "answer" (defArgs s21) (defBody s21) (defScope s21) [] [] f fd) (o_answer_decisions : Own P w K mg base (2 * n) "answer_decisions" ["decision", "row"] [] (spAnswer n))
    (o_answer_cases : Own P w K mg base (2 * n + 1) "answer_cases" ["decision", "row"] [] (spLadder n)) : FnOk P w K mg base CX0 (2 * n + 2) f fd ["decision", "row"] (spAnswer (n + 1)) := by
  refine ok0 F sc21 (fun vs H Q E h => ?_) (fun cdv A outer s H vs Q E hr h => ?_)
  · obtain ⟨_, _, _, _, _, _, rfl, _⟩ := h
    rfl
  · obtain ⟨many, v, u, m, f, r, rfl, ⟨p, rfl, hd⟩, ⟨pr, rfl, hu⟩, hlen, k⟩ := h
    refine ⟨_, (pss_cons (ps_if (pt_cmpR op_eq (pe_ix ix_tup (pv 0) pe_int (fun _ _ => rfl)) pe_str (nomark _)) (pss_one (ps_ret (pe_own o_answer_cases (hr.mono (by omega)) rfl (pa_cons (pv 0) (pa_cons (pv 1) pa_nil))))) pss_nil)
    (pss_cons (ps_if (pt_cmpR op_eq (pe_ix ix_tup (pv 0) pe_int (fun _ _ => rfl)) pe_str (nomark _)) (pss_one (ps_ret (pe_ix ix_tup (pv 1) (pe_ix ix_tup (pv 0) pe_int (fun _ _ => rfl)) (fun _ _ => rfl)))) pss_nil)
    (pss_cons (ps_if (pt_cmpR op_eq (pe_ix ix_tup (pv 0) pe_int (fun _ _ => rfl)) pe_str (nomark _)) (pss_one (ps_ret (pe_not (pe_own o_answer_decisions (hr.mono (by omega)) rfl (pa_cons (pe_ix ix_tup (pv 0) pe_int (fun _ _ => rfl)) (pa_cons (pv 1) pa_nil)))))) pss_nil)
    (pss_cons (ps_if (pt_cmpR op_in_seq (pe_ix ix_tup (pv 0) pe_int (fun _ _ => rfl)) (pe_tup (pa_cons pe_str (pa_cons pe_str pa_nil))) (by with_unfolding_all rfl)) (pss_one (ps_ret (pe_cmpR op_eq (pe_ix ix_tup (pv 0) pe_int (fun _ _ => rfl)) pe_str (nomark _)))) pss_nil)
    (pss_cons (ps_setLc (i := 2) (own := [("part", 3)]) rfl sc21.nd rfl rfl (sw_true rfl rfl rfl (by decide +kernel)) (pi_tup (pe_ix ix_tup (pv 0) pe_int (fun _ _ => rfl))) (blkOk_by (N := ["decision", "row", "answers", "part"]) (sc := defScope s21) (by decide +kernel)) (fun _ _ _ _ _ => (pg_name (i := 3) sc21.nd rfl (by first | exact Or.inl rfl | exact Or.inr rfl))) (fun _ _ _ _ _ => pts_nil) (fun _ _ _ _ _ => (pe_own o_answer_decisions (hr.mono (by omega)) rfl (pa_cons (pv 3) (pa_cons (pv 1) pa_nil)))))
    (pss_cons (ps_if (pt_cmpR op_eq (pe_ix ix_tup (pv 0) pe_int (fun _ _ => rfl)) pe_str (nomark _)) (pss_one (ps_ret (pe_callB (cr_all rfl) (by rfl) T.f_all (by decide +kernel) (pa_cons (pv 2) pa_nil)))) pss_nil)
    (pss_one (ps_ret (pe_callB (cr_any rfl) (by rfl) T.f_any (by decide +kernel) (pa_cons (pv 2) pa_nil)))))))))), ?_⟩
    rcases hd with ⟨i, hp, hi, em, ef⟩ | ⟨s, b, hs, hp, em, ef⟩ | ⟨d, m', f', hp, hd', em, ef⟩ | ⟨s, b, q, ds, mfs, hs, hp, hq, l1, l2, hds, em, ef⟩ | ⟨q, last, rs, ms, ml, fl, hp, hq, l1, l2, hrs, hl, em, ef⟩
    · refine ⟨_, rfl, _, _, _, _, rfl, rfl, SqT.of hp, rfl, rfl, _, rfl, ?_⟩; refine iteDF (by decide +kernel) ?_
      refine ⟨_, rfl, _, _, _, _, rfl, rfl, SqT.of hp, rfl, rfl, _, rfl, ?_⟩; refine iteD (by decide +kernel) ?_
      refine ⟨_, rfl, _, rfl, _, _, _, _, rfl, rfl, SqT.of hp, rfl, _, _, _, _, rfl, rfl, SqT.of hu, atI_row (by omega), ?_⟩
      exact qb (Q := Q) (by rw [ef]) (k _ (Same.refl _))
    · rcases hs with ⟨rfl, rfl⟩ | ⟨rfl, rfl⟩
      · refine ⟨_, rfl, _, _, _, _, rfl, rfl, SqT.of hp, rfl, rfl, _, rfl, ?_⟩; refine iteDF (by decide +kernel) ?_
        refine ⟨_, rfl, _, _, _, _, rfl, rfl, SqT.of hp, rfl, rfl, _, rfl, ?_⟩; refine iteDF (by decide +kernel) ?_
        refine ⟨_, rfl, _, _, _, _, rfl, rfl, SqT.of hp, rfl, rfl, _, rfl, ?_⟩; refine iteDF (by decide +kernel) ?_
        refine ⟨_, rfl, _, _, _, _, rfl, rfl, SqT.of hp, rfl, (by show 2 ≤ sizeLine; decide), fun T1 hT1 => ⟨T1, _, rfl, .inr (SqT.of upd_same), rfl, rfl, _, rfl, ?_⟩⟩
        refine iteB (c := true) (by decide +kernel) (iteT ?_)
        refine ⟨_, rfl, _, _, _, _, rfl, rfl, SqT.of ((same_new hT1 _) _ _ hp), rfl, rfl, ?_⟩
        exact qb (Q := Q) (by rw [ef]; first | (show decide (V.str (Str.ofString "yes") = V.str (Str.ofString "yes")) = true; decide +kernel) | (show decide (V.str (Str.ofString "no") = V.str (Str.ofString "yes")) = false; decide +kernel)) (k _ (same_new hT1 _))
      · refine ⟨_, rfl, _, _, _, _, rfl, rfl, SqT.of hp, rfl, rfl, _, rfl, ?_⟩; refine iteDF (by decide +kernel) ?_
        refine ⟨_, rfl, _, _, _, _, rfl, rfl, SqT.of hp, rfl, rfl, _, rfl, ?_⟩; refine iteDF (by decide +kernel) ?_
        refine ⟨_, rfl, _, _, _, _, rfl, rfl, SqT.of hp, rfl, rfl, _, rfl, ?_⟩; refine iteDF (by decide +kernel) ?_
        refine ⟨_, rfl, _, _, _, _, rfl, rfl, SqT.of hp, rfl, (by show 2 ≤ sizeLine; decide), fun T1 hT1 => ⟨T1, _, rfl, .inr (SqT.of upd_same), rfl, rfl, _, rfl, ?_⟩⟩
        refine iteB (c := true) (by decide +kernel) (iteT ?_)
        refine ⟨_, rfl, _, _, _, _, rfl, rfl, SqT.of ((same_new hT1 _) _ _ hp), rfl, rfl, ?_⟩
        exact qb (Q := Q) (by rw [ef]; first | (show decide (V.str (Str.ofString "yes") = V.str (Str.ofString "yes")) = true; decide +kernel) | (show decide (V.str (Str.ofString "no") = V.str (Str.ofString "yes")) = false; decide +kernel)) (k _ (same_new hT1 _))
    · refine ⟨_, rfl, _, _, _, _, rfl, rfl, SqT.of hp, rfl, rfl, _, rfl, ?_⟩; refine iteDF (by decide +kernel) ?_
      refine ⟨_, rfl, _, _, _, _, rfl, rfl, SqT.of hp, rfl, rfl, _, rfl, ?_⟩; refine iteDF (by decide +kernel) ?_
      refine ⟨_, rfl, _, _, _, _, rfl, rfl, SqT.of hp, rfl, rfl, _, rfl, ?_⟩; refine iteD (by decide +kernel) ?_
      refine ⟨_, rfl, _, _, _, _, rfl, rfl, SqT.of hp, rfl, _, rfl, many, _, _, _, _, r, rfl, hd', ⟨pr, rfl, hu⟩, hlen, fun H2 s2 => ⟨_, rfl, ?_⟩⟩
      exact qb (Q := Q) (by rw [ef]) (k _ s2)
    · refine ⟨_, rfl, _, _, _, _, rfl, rfl, SqT.of hp, rfl, rfl, _, rfl, ?_⟩
      refine iteDF (by rcases hs with ⟨rfl, _⟩ | ⟨rfl, _⟩ <;> decide +kernel) ?_
      refine ⟨_, rfl, _, _, _, _, rfl, rfl, SqT.of hp, rfl, rfl, _, rfl, ?_⟩
      refine iteDF (by rcases hs with ⟨rfl, _⟩ | ⟨rfl, _⟩ <;> decide +kernel) ?_
      refine ⟨_, rfl, _, _, _, _, rfl, rfl, SqT.of hp, rfl, rfl, _, rfl, ?_⟩
      refine iteDF (by rcases hs with ⟨rfl, _⟩ | ⟨rfl, _⟩ <;> decide +kernel) ?_
      refine ⟨_, rfl, _, _, _, _, rfl, rfl, SqT.of hp, rfl, (by show 2 ≤ sizeLine; decide), fun T1 hT1 => ⟨T1, _, rfl, .inr (SqT.of upd_same), rfl, rfl, _, rfl, ?_⟩⟩
      refine iteB (c := false) (by rcases hs with ⟨rfl, _⟩ | ⟨rfl, _⟩ <;> decide +kernel) (iteF ?_)
      have s1 := same_new hT1 (.tup [V.str "yes", V.str "no"])
      refine ⟨_, rfl, _, _, _, _, rfl, rfl, SqT.of (s1 _ _ hp), rfl, q, rfl, ⟨_, SqT.of (s1 _ _ hq)⟩, fun D hD => ?_⟩
      have hD0 : H D = none := s1.free hD
      refine lc_tup (K := K) (a := q) (xs := ds) (fun i H' => Same H H' ∧ H' D = some (.lst (((mfs.take i).map fun mf => mf.2 r).map V.bl))) ⟨s1.trans (same_new hD _), upd_same⟩ (fun i H' _ h => SqT.of (h.1 _ _ hq)) ?_ ?_
      · rintro i x H' hx ⟨s2, h2⟩
        obtain ⟨mf, hmf, hm⟩ := pAt hds hx
        refine ⟨rfl, _, rfl, _, rfl, many, _, _, _, _, r, rfl, hm.keep (tupsOf s2), ⟨pr, rfl, s2 _ _ hu⟩, hlen, fun H3 s3 => ⟨_, s3 _ _ h2, ?_, same_upd (s2.trans s3) hD0 _, ?_⟩⟩
        · rw [List.length_map, List.length_map, List.length_take]
          have := (List.getElem?_eq_some_iff.mp hx).1
          exact small1000 (by omega)
        · rw [upd_same, take_more hmf, List.map_append, List.map_append]
          rfl
      · rintro H' ⟨s2, h2⟩
        rw [List.take_of_length_le (by rw [← pLen hds]; exact Nat.le_refl _)] at h2
        have hp2 := s2 _ _ hp
        refine ⟨_, rfl, _, _, _, _, rfl, rfl, SqT.of hp2, rfl, rfl, _, rfl, ?_⟩
        rcases hs with ⟨rfl, rfl⟩ | ⟨rfl, rfl⟩
        · refine iteD (by decide +kernel) ?_
          refine ⟨_, rfl, D, _, rfl, SqL.of h2, ?_⟩
          exact qb (Q := Q) (by rw [all_map, ef]; rfl) (k _ s2)
        · refine iteDF (by decide +kernel) ?_
          refine ⟨_, rfl, D, _, rfl, SqL.of h2, ?_⟩
          exact qb (Q := Q) (by rw [any_map, ef]; rfl) (k _ s2)
    · refine ⟨_, rfl, _, _, _, _, rfl, rfl, SqT.of hp, rfl, rfl, _, rfl, ?_⟩; refine iteD (by decide +kernel) ?_
      refine ⟨_, rfl, _, rfl, many, p, q, last, _, rs, ms, ml, fl, r, rfl, hp, hq, hrs, hl, ⟨pr, rfl, hu⟩, hlen, fun H2 s2 => ?_⟩
      exact qb (Q := Q) (by rw [ef]) (k _ s2)
end
end EA

set_option maxHeartbeats 4000000
namespace EA
open PySem PySem.Spec PyProof.Rows L2
/-! ### a decision as data -/
def Dpt (K : PySem.W.Frag) (H : Hp) (v : V) (k : Nat) : Prop := ∃ d, Dp K H v d ∧ d.canLay0 = true ∧ d.depth ≤ k
def Dpts (K : PySem.W.Frag) (H : Hp) (vs : List V) (k : Nat) : Prop := ∃ ds, DpAll K H vs ds ∧ PyData.canLayAll0 ds = true ∧ PyData.depthAll ds ≤ k
theorem Dpts.nil {K : PySem.W.Frag} {H : Hp} {k : Nat} : Dpts K H [] k := ⟨[], .nil, by simp [PyData.canLayAll0], by simp [PyData.depthAll]⟩
theorem Dpts.cons {K : PySem.W.Frag} {H : Hp} {k : Nat} {v : V} {vs : List V} (h : Dpt K H v k) (t : Dpts K H vs k) : Dpts K H (v :: vs) k := by
  obtain ⟨d, h1, h2, h3⟩ := h
  obtain ⟨ds, t1, t2, t3⟩ := t
  refine ⟨d :: ds, .cons h1 t1, by simp [PyData.canLayAll0, h2, t2], ?_⟩
  simp only [PyData.depthAll]
  omega
theorem Dpt.mono {K : PySem.W.Frag} {H : Hp} {k j : Nat} {v : V} (h : Dpt K H v k) (l : k ≤ j) : Dpt K H v j := by
  obtain ⟨d, h1, h2, h3⟩ := h
  exact ⟨d, h1, h2, by omega⟩
theorem Dpt.tup {K : PySem.W.Frag} {H : Hp} {k : Nat} {p : Addr} {vs : List V} (h : H p = some (.tup vs)) (t : Dpts K H vs k) : Dpt K H (.ref p) (k + 1) := by
  obtain ⟨ds, t1, t2, t3⟩ := t
  refine ⟨.tuple ds, .tup (SqT.of h) t1, by simp only [PyData.canLay0]; exact t2, ?_⟩
  simp only [PyData.depth]
  omega
theorem Dpt.str {K : PySem.W.Frag} {H : Hp} {k : Nat} {s : Str} (h : (PyData.str s).canLay0 = true) : Dpt K H (.str s) k := ⟨.str s, .str s, h, by simp [PyData.depth]⟩
theorem Dpt.int {K : PySem.W.Frag} {H : Hp} {k : Nat} {i : Int} : Dpt K H (.int i) k := ⟨.int i, .int i, by simp [PyData.canLay0], by simp [PyData.depth]⟩
theorem dpts_of {K : PySem.W.Frag} {H : Hp} {k : Nat} {α : Type} {F : V → α → Prop} (hF : ∀ v a, F v a → Dpt K H v k) : ∀ {vs : List V} {as : List α}, Paired F vs as → Dpts K H vs k
  | _, _, .nil => .nil
  | _, _, .cons h t => .cons (hF _ _ h) (dpts_of hF t)
theorem lay_tag (s : Str) (h : s = "wish" ∨ s = "yes" ∨ s = "no" ∨ s = "not" ∨ s = "and" ∨ s = "or" ∨ s = "cases") : (PyData.str s).canLay0 = true := by
  rcases h with rfl | rfl | rfl | rfl | rfl | rfl | rfl <;> decide +kernel
theorem DecAt.dpt {K : PySem.W.Frag} {many : Nat} : ∀ {n : Nat} {H : Hp} {v : V} {m : Nat} {f : An}, DecAt many n H v m f → Dpt K H v (3 * n)
  | 0, _, _, _, _, h => h.elim
  | n + 1, H, v, m, f, h => by
    obtain ⟨p, rfl, h⟩ := h
    rcases h with ⟨i, h1, h2⟩ | ⟨s, b, h0, h1, h2⟩ | ⟨d, m', f', h1, h2, h3⟩ | ⟨s, b, q, ds, mfs, h0, h1, h2, h3, h4, h5, h6⟩ | ⟨q, last, rs, ms, ml, fl, h1, h2, h3, h4, h5, h6, h7⟩
    · exact (Dpt.tup (k := 3 * n) h1 (.cons (.str (lay_tag _ (by simp))) (.cons .int .nil))).mono (by omega)
    · exact (Dpt.tup (k := 3 * n) h1 (.cons (.str (lay_tag _ (by rcases h0 with ⟨e, _⟩ | ⟨e, _⟩ <;> simp [e]))) .nil)).mono (by omega)
    · exact (Dpt.tup (k := 3 * n) h1 (.cons (.str (lay_tag _ (by simp))) (.cons h2.dpt .nil))).mono (by omega)
    · have a := Dpt.tup h2 (dpts_of (fun _ _ z => DecAt.dpt (n := n) (K := K) z) h5)
      exact (Dpt.tup (k := 3 * n + 1) h1 (.cons (.str (lay_tag _ (by rcases h0 with ⟨e, _⟩ | ⟨e, _⟩ <;> simp [e]))) (.cons a .nil))).mono (by omega)
    · have c := dpts_of (K := K) (H := H) (k := 3 * n + 1) (fun x mf (z : RungAt many n H x mf) => by
        obtain ⟨t, a, b, rfl, ht, ha, hb⟩ := z
        exact Dpt.tup ht (.cons ha.dpt (.cons hb.dpt .nil))) h5
      exact (Dpt.tup (k := 3 * n + 2) h1 (.cons (.str (lay_tag _ (by simp))) (.cons (Dpt.tup h2 c) (.cons (h6.dpt.mono (by omega)) .nil)))).mono (by omega)
/-! ### the promises -/
abbrev KidAt (many n : Nat) (H : Hp) (d : V) (mf : Nat × An) : Prop := DecAt many n H d mf.1 mf.2
def spInner : Sp := fun vs H Q _ => ∃ (many n : Nat) (v : V) (m : Nat) (f : An), vs = [v] ∧ DecAt many (n + 1) H v m f ∧
  ∀ (H' : Hp) (l : Addr) (ds : List V) (mfs : List (Nat × An)), Same H H' → H' l = some (.lst ds) → Paired (KidAt many n H') ds mfs → ds.length ≤ 9 → m = (mfs.map (·.1)).sum + 1 → Q (.ref l) H'
def spRungs : Sp := fun vs H Q _ => ∃ (q : Addr) (rs : List V), vs = [.ref q] ∧ H q = some (.tup rs) ∧ 1 ≤ rs.length ∧ rs.length ≤ 4 ∧ (∀ x ∈ rs, ∃ t a b, x = .ref t ∧ H t = some (.tup [a, b])) ∧ ∀ H', Same H H' → Q (.bl true) H'
def spForm : Sp := fun vs H Q _ => ∃ (many n : Nat) (v : V) (m : Nat) (f : An), vs = [v, .int many] ∧ DecAt many (n + 1) H v m f ∧ n ≤ 12 ∧ ∀ H', Same H H' → Q (.bl true) H'
def flat (ms : List ((Nat × An) × (Nat × An))) : List (Nat × An) := ms.flatMap fun x => [x.1, x.2]
theorem flat_snoc (ms : List ((Nat × An) × (Nat × An))) (x : (Nat × An) × (Nat × An)) : flat (ms ++ [x]) = flat ms ++ [x.1, x.2] := by
  unfold flat
  rw [List.flatMap_append]
  rfl
theorem flat_sum : ∀ ms : List ((Nat × An) × (Nat × An)), ((flat ms).map (·.1)).sum = (ms.map fun x => x.1.1 + x.2.1).sum
  | [] => rfl
  | x :: ms => by
    have ih := flat_sum ms
    unfold flat at ih ⊢
    rw [List.flatMap_cons, List.map_append, List.sum_append, ih]
    simp
section
variable {P : Program} {w : World} {K : PySem.W.Frag} {mg : Str → Option Value} {base : Heap} {C B : Addr} {f : Addr} {fd : FuncData}
theorem sc15 : FnScope ["decision", "found", "test", "told"] ["decision"] (defScope s15) := ⟨rfl, rfl, rfl, by decide +kernel, rfl, by decide +kernel, by decide +kernel⟩
theorem ok15 (T : Tx K mg C B) (F : FunD K "inner_parts" "inner_parts" (defArgs s15) (defBody s15) (defScope s15) [] [] f fd) : FnOk P w K mg base CX0 1 f fd ["decision"] spInner := by
  refine ok0 F sc15 (fun vs H Q E h => ?_) (fun cdv A outer s H vs Q E hr h => ?_)
  · obtain ⟨_, _, _, _, _, rfl, _⟩ := h
    rfl
  · obtain ⟨many, n, v, m, f, rfl, ⟨p, rfl, hd⟩, k⟩ := h
    refine ⟨_, (pss_cons (ps_if (pt_cmpR op_eq (pe_ix ix_tup (pv 0) pe_int (fun _ _ => rfl)) pe_str (nomark _)) (pss_one (ps_ret (pe_lst (pa_cons (pe_ix ix_tup (pv 0) pe_int (fun _ _ => rfl)) pa_nil)))) pss_nil)
    (pss_cons (ps_if (pt_cmpR op_in_seq (pe_ix ix_tup (pv 0) pe_int (fun _ _ => rfl)) (pe_tup (pa_cons pe_str (pa_cons pe_str pa_nil))) (by with_unfolding_all rfl)) (pss_one (ps_ret (pe_callTy call_list_of (by rfl) T.f_list (by decide +kernel) (pa_cons (pe_ix ix_tup (pv 0) pe_int (fun _ _ => rfl)) pa_nil)))) pss_nil)
    (pss_cons (ps_if (pt_cmpR op_eq (pe_ix ix_tup (pv 0) pe_int (fun _ _ => rfl)) pe_str (nomark _)) (pss_cons (ps_set (i := 1) sc15.nd rfl (by first | exact Or.inl rfl | exact Or.inr rfl) (pe_lst pa_nil))
    (pss_cons (ps_for PassesOwn.never rfl (pi_tup (pe_ix ix_tup (pv 0) pe_int (fun _ _ => rfl))) (pg_tup rfl (pgs_cons (pg_name (i := 2) sc15.nd rfl (by first | exact Or.inl rfl | exact Or.inr rfl)) (pgs_cons (pg_name (i := 3) sc15.nd rfl (by first | exact Or.inl rfl | exact Or.inr rfl)) pgs_nil))) (pss_one (ps_expr (pe_bm PySem.F.plainAttrs_list PySem.F.slot_list_extend PySem.F.type_list_extend mt_extend (pv 1) (pa_cons (pe_lst (pa_cons (pv 2) (pa_cons (pv 3) pa_nil))) pa_nil)))))
    (pss_one (ps_ret (pe_op op_cat (pv 1) (pe_lst (pa_cons (pe_ix ix_tup (pv 0) pe_int (fun _ _ => rfl)) pa_nil))))))) pss_nil)
    (pss_one (ps_ret (pe_lst pa_nil)))))), ?_⟩
    rcases hd with ⟨i, hp, hi, em, ef⟩ | ⟨s, b, hs, hp, em, ef⟩ | ⟨d, m', f', hp, hd', em, ef⟩ | ⟨s, b, q, ds, mfs, hs, hp, hq, l1, l2, hds, em, ef⟩ | ⟨q, last, rs, ms, ml, fl, hp, hq, l1, l2, hrs, hla, em, ef⟩
    · refine ⟨_, rfl, _, _, _, _, rfl, rfl, SqT.of hp, rfl, rfl, _, rfl, ?_⟩; refine iteDF (by decide +kernel) ?_
      refine ⟨_, rfl, _, _, _, _, rfl, rfl, SqT.of hp, rfl, (by show 2 ≤ sizeLine; decide), fun T1 hT1 => ⟨T1, _, rfl, .inr (SqT.of upd_same), rfl, rfl, _, rfl, ?_⟩⟩
      refine iteB (c := false) (by decide +kernel) (iteF ?_)
      have hp1 := (same_new hT1 (.tup [V.str "and", V.str "or"])) _ _ hp
      refine ⟨_, rfl, _, _, _, _, rfl, rfl, SqT.of hp1, rfl, rfl, _, rfl, ?_⟩; refine iteDF (by decide +kernel) ?_
      refine ⟨Nat.zero_le _, fun l hl => ?_⟩
      exact k _ l [] [] ((same_new hT1 _).trans (same_new hl _)) upd_same .nil (by simp) em
    · refine ⟨_, rfl, _, _, _, _, rfl, rfl, SqT.of hp, rfl, rfl, _, rfl, ?_⟩
      refine iteDF (by rcases hs with ⟨rfl, _⟩ | ⟨rfl, _⟩ <;> decide +kernel) ?_
      refine ⟨_, rfl, _, _, _, _, rfl, rfl, SqT.of hp, rfl, (by show 2 ≤ sizeLine; decide), fun T1 hT1 => ⟨T1, _, rfl, .inr (SqT.of upd_same), rfl, rfl, _, rfl, ?_⟩⟩
      refine iteB (c := false) (by rcases hs with ⟨rfl, _⟩ | ⟨rfl, _⟩ <;> decide +kernel) (iteF ?_)
      have hp1 := (same_new hT1 (.tup [V.str "and", V.str "or"])) _ _ hp
      refine ⟨_, rfl, _, _, _, _, rfl, rfl, SqT.of hp1, rfl, rfl, _, rfl, ?_⟩
      refine iteDF (by rcases hs with ⟨rfl, _⟩ | ⟨rfl, _⟩ <;> decide +kernel) ?_
      refine ⟨Nat.zero_le _, fun l hl => ?_⟩
      exact k _ l [] [] ((same_new hT1 _).trans (same_new hl _)) upd_same .nil (by simp) em
    · refine ⟨_, rfl, _, _, _, _, rfl, rfl, SqT.of hp, rfl, rfl, _, rfl, ?_⟩; refine iteD (by decide +kernel) ?_
      refine ⟨_, rfl, _, _, _, _, rfl, rfl, SqT.of hp, rfl, (by show 1 ≤ sizeLine; decide), fun l hl => ?_⟩
      exact k _ l [d] [(m', f')] (same_new hl _) upd_same (.cons (hd'.keep (tupsOf (same_new hl _))) .nil) (by simp) (by simpa using em)
    · refine ⟨_, rfl, _, _, _, _, rfl, rfl, SqT.of hp, rfl, rfl, _, rfl, ?_⟩
      refine iteDF (by rcases hs with ⟨rfl, _⟩ | ⟨rfl, _⟩ <;> decide +kernel) ?_
      refine ⟨_, rfl, _, _, _, _, rfl, rfl, SqT.of hp, rfl, (by show 2 ≤ sizeLine; decide), fun T1 hT1 => ⟨T1, _, rfl, .inr (SqT.of upd_same), rfl, rfl, _, rfl, ?_⟩⟩
      refine iteB (c := true) (by rcases hs with ⟨rfl, _⟩ | ⟨rfl, _⟩ <;> decide +kernel) (iteT ?_)
      have s1 := same_new hT1 (.tup [V.str "and", V.str "or"])
      refine ⟨_, rfl, _, _, _, _, rfl, rfl, SqT.of (s1 _ _ hp), rfl, q, ds, rfl, .inr (SqT.of (s1 _ _ hq)), fun l hl => ?_⟩
      have s2 := s1.trans (same_new hl (.lst ds))
      exact k _ l ds mfs s2 upd_same (pImp hds fun _ _ z => z.keep (tupsOf s2)) (by omega) em
    · refine ⟨_, rfl, _, _, _, _, rfl, rfl, SqT.of hp, rfl, rfl, _, rfl, ?_⟩; refine iteDF (by decide +kernel) ?_
      refine ⟨_, rfl, _, _, _, _, rfl, rfl, SqT.of hp, rfl, (by show 2 ≤ sizeLine; decide), fun T1 hT1 => ⟨T1, _, rfl, .inr (SqT.of upd_same), rfl, rfl, _, rfl, ?_⟩⟩
      refine iteB (c := false) (by decide +kernel) (iteF ?_)
      have s1 := same_new hT1 (.tup [V.str "and", V.str "or"])
      have hp1 := s1 _ _ hp
      refine ⟨_, rfl, _, _, _, _, rfl, rfl, SqT.of hp1, rfl, rfl, _, rfl, ?_⟩; refine iteD (by decide +kernel) ?_
      refine ⟨Nat.zero_le _, fun l hl => ?_⟩
      have s2 := s1.trans (same_new hl (.lst []))
      have hl0 : H l = none := s1.free hl
      refine ⟨_, rfl, _, _, _, _, rfl, rfl, SqT.of (s2 _ _ hp), rfl, q, rfl, ⟨_, SqT.of (s2 _ _ hq)⟩, ?_⟩
      refine for_tup (K := K) (a := q) (xs := rs) (fun i σ H' => ∃ a b ds, σ = [some (.ref p), some (.ref l), a, b] ∧ Same H H' ∧ H' l = some (.lst ds) ∧ ds.length = 2 * i ∧ Paired (KidAt many n H') ds (flat (ms.take i)))
        ⟨none, none, [], rfl, s2, upd_same, rfl, .nil⟩ (fun i σ H' _ ⟨_, _, _, _, s3, _⟩ => SqT.of (s3 _ _ hq)) ?_ ?_
      · rintro i x σ H' hx ⟨a0, b0, ds, rfl, s3, h3, e3, p3⟩
        obtain ⟨mf, hmf, t, a, b, rfl, ht, ha, hb⟩ := pAt hrs hx
        have hi : i < rs.length := (List.getElem?_eq_some_iff.mp hx).1
        refine ⟨t, _, rfl, SqT.of (s3 _ _ ht), rfl, _, _, rfl, _, _, rfl, rfl, ?_⟩
        refine ⟨_, rfl, .inl ⟨rfl, _, SqL.of h3⟩, _, rfl, _, rfl, (by show 2 ≤ sizeLine; decide), fun l2 hl2 => ?_⟩
        have s4 := s3.trans (same_new hl2 (.lst [a, b]))
        have h4 := (same_new hl2 (.lst [a, b])) _ _ h3
        refine ⟨l, l2, ds, [a, b], rfl, rfl, h4, upd_same, ?_, ?_⟩
        · exact small (by rw [e3]; show 2 * i + 2 ≤ 1000; omega)
        · have s5 := same_upd s4 hl0 (.lst (ds ++ [a, b]))
          refine ⟨_, _, ds ++ [a, b], rfl, s5, upd_same, ?_, ?_⟩
          · rw [List.length_append, e3]
            show 2 * i + 2 = _
            omega
          · rw [take_more hmf, flat_snoc]
            have tk : Tups H' (upd (upd H' l2 (.lst [a, b])) l (.lst (ds ++ [a, b]))) := by
              intro b' xs h'
              have q1 := (same_new hl2 (.lst [a, b])) _ _ h'
              rw [upd_ne (ne_of q1 h4 (fun z => nomatch z))]
              exact q1
            exact pApp (pImp p3 fun _ _ z => z.keep tk) (.cons (ha.keep (tupsOf s5)) (.cons (hb.keep (tupsOf s5)) .nil))
      · rintro σ H' ⟨a0, b0, ds, rfl, s3, h3, e3, p3⟩
        rw [List.take_of_length_le (by rw [← pLen hrs]; exact Nat.le_refl _)] at p3
        refine ⟨_, rfl, _, rfl, _, _, _, _, rfl, rfl, SqT.of (s3 _ _ hp), rfl, (by show 1 ≤ sizeLine; decide), fun l2 hl2 => ?_⟩
        have s4 := s3.trans (same_new hl2 (.lst [last]))
        refine ⟨l, l2, ds, [last], rfl, rfl, (same_new hl2 _) _ _ h3, upd_same, small (by rw [e3]; show 2 * rs.length + 1 ≤ 1000; omega), fun l3 hl3 => ?_⟩
        have s5 := s4.trans (same_new hl3 (.lst (ds ++ [last])))
        have s6 := (same_new hl2 (.lst [last])).trans (same_new hl3 (.lst (ds ++ [last])))
        refine k _ l3 (ds ++ [last]) (flat ms ++ [(ml, fl)]) s5 upd_same (pApp (pImp p3 fun _ _ z => z.keep (tupsOf s6)) (.cons (hla.keep (tupsOf s5)) .nil)) ?_ ?_
        · rw [List.length_append, e3]
          show 2 * rs.length + 1 ≤ 9
          omega
        · rw [List.map_append, List.sum_append, flat_sum, em]
          simp
theorem sc17 : FnScope ["thing", "row"] ["thing"] (defScope s17) := ⟨rfl, rfl, rfl, by decide +kernel, rfl, by decide +kernel, by decide +kernel⟩
theorem ok17 (T : Tx K mg C B) (F : FunD K "are_rows" "are_rows" (defArgs s17) (defBody s17) (defScope s17) [] [] f fd) : FnOk P w K mg base CX0 1 f fd ["thing"] spRungs := by
  refine ok0 F sc17 (fun vs H Q E h => ?_) (fun cdv A outer s H vs Q E hr h => ?_)
  · obtain ⟨_, _, rfl, _⟩ := h
    rfl
  · obtain ⟨q, rs, rfl, hq, l1, l2, hrs, k⟩ := h
    refine ⟨_, (pss_cons (ps_if (PW.pt (pw_or (pt_not (pt_val (pe_callB call_isi (by rfl) T.f_isinstance (by decide +kernel) (pa_cons (pv 0) (pa_cons (pe_bltn (v := .ty "tuple") (u := .type "tuple") (by rfl) T.f_tuple (by decide +kernel) rfl) pa_nil))))) (pw_or1 (pt_not (pt_chain op_le op_le pe_int (pe_callB call_len_seq (by rfl) T.f_len (by decide +kernel) (pa_cons (pv 0) pa_nil)) (pe_gint T.i_MOST_ROWS rfl)))))) (pss_one (ps_ret pe_bl)) pss_nil)
    (pss_one (ps_ret (pe_callB (cr_all rfl) (by rfl) T.f_all (by decide +kernel) (pa_cons (pe_lc (own := [("row", 1)]) rfl sc17.nd (pi_tup (pv 0)) (blkOk_by (N := ["thing", "row"]) (sc := defScope s17) (by decide +kernel)) (fun _ _ _ _ _ => (pg_name (i := 1) sc17.nd rfl (by first | exact Or.inl rfl | exact Or.inr rfl))) (fun _ _ _ _ _ => pts_nil) (fun _ _ _ _ _ => (pe_and (pe_callB (r := rIsi K) call_isi (by rfl) T.f_isinstance (by decide +kernel) (pa_cons (pv 1) (pa_cons (pe_bltn (v := .ty "tuple") (u := .type "tuple") (by rfl) T.f_tuple (by decide +kernel) rfl) pa_nil))) (pe_one (pe_cmpR op_eq (pe_callB (r := rLenSeq K) call_lenSeq (by rfl) T.f_len (by decide +kernel) (pa_cons (pv 1) pa_nil)) pe_int (nomark _)))))) pa_nil))))), ?_⟩
    refine ⟨_, rfl, _, _, _, _, true, rfl, .ty _, .base (.tup hq), kit_ty (by decide +kernel), _, rfl, ?_⟩
    refine iteF ?_
    refine ⟨_, rfl, q, _, rfl, .inr (SqT.of hq), _, _, rfl, rfl, _, rfl, ?_⟩
    refine iteD (by omega) ?_
    refine ⟨_, _, rfl, rfl, _, rfl, ?_⟩
    refine iteNS (by omega) ?_
    refine ⟨_, rfl, q, rfl, ⟨_, SqT.of hq⟩, fun D hD => ?_⟩
    refine lc_tup (K := K) (a := q) (xs := rs) (fun i H' => Same H H' ∧ H' D = some (.lst ((List.replicate i true).map V.bl))) ⟨same_new hD _, upd_same⟩ (fun i H' _ h => SqT.of (h.1 _ _ hq)) ?_ ?_
    · rintro i x H' hx ⟨s1, h1⟩
      obtain ⟨t, a, b, rfl, ht⟩ := hrs x (List.mem_of_getElem? hx)
      have hi := (List.getElem?_eq_some_iff.mp hx).1
      have ht1 := s1 _ _ ht
      refine ⟨rfl, _, rfl, _, _, _, _, true, rfl, .ty _, .base (.tup ht1), kit_ty (by decide +kernel), _, rfl, ?_⟩
      refine iteT ?_
      refine ⟨_, rfl, t, _, rfl, .inr (SqT.of ht1), rfl, _, h1, ?_, same_upd s1 hD _, ?_⟩
      · rw [List.length_map, List.length_replicate]
        exact small1000 (by omega)
      · rw [upd_same, List.replicate_succ', List.map_append]
        rfl
    · rintro H' ⟨s1, h1⟩
      refine ⟨D, _, rfl, SqL.of h1, ?_⟩
      rw [all_true]
      exact k _ s1
end
end EA

set_option maxHeartbeats 4000000
namespace EA
open PySem PySem.Spec PyProof.Rows L2
def spParts (n : Nat) : Sp := fun vs H Q _ => ∃ (many : Nat) (v : V) (m : Nat) (f : An) (room : Int), vs = [v, .int many, .int room] ∧ DecAt many n H v m f ∧ (n : Int) ≤ room ∧ n ≤ 13 ∧ m ≤ 60 ∧ ∀ H', Same H H' → Q (.int (m : Nat)) H'
def spIsDec : Sp := fun vs H Q _ => ∃ (many n : Nat) (v : V) (m : Nat) (f : An), vs = [v, .int many] ∧ DecAt many n H v m f ∧ n ≤ 12 ∧ m ≤ 60 ∧ ∀ H', Same H H' → Q (.bl true) H'
def Dpt1 (K : PySem.W.Frag) (H : Hp) (v : V) (k : Nat) : Prop := ∃ x r, Dp K H v (.tuple (x :: r)) ∧ (PyData.tuple (x :: r)).canLay0 = true ∧ (PyData.tuple (x :: r)).depth ≤ k
theorem Dpt1.tup {K : PySem.W.Frag} {H : Hp} {k j : Nat} {p : Addr} {v : V} {vs : List V} (h : H p = some (.tup (v :: vs))) (t : Dpts K H (v :: vs) k) (l : k + 1 ≤ j) : Dpt1 K H (.ref p) j := by
  obtain ⟨ds, t1, t2, t3⟩ := t
  cases t1 with
  | cons a b =>
    refine ⟨_, _, .tup (SqT.of h) (.cons a b), by simp only [PyData.canLay0]; exact t2, ?_⟩
    simp only [PyData.depth]
    omega
theorem DecAt.dpt1 {K : PySem.W.Frag} {many n : Nat} {H : Hp} {v : V} {m : Nat} {f : An} (h : DecAt many (n + 1) H v m f) : Dpt1 K H v (3 * n + 3) := by
  obtain ⟨p, rfl, h⟩ := h
  rcases h with ⟨i, h1, h2⟩ | ⟨s, b, h0, h1, h2⟩ | ⟨d, m', f', h1, h2, h3⟩ | ⟨s, b, q, ds, mfs, h0, h1, h2, h3, h4, h5, h6⟩ | ⟨q, last, rs, ms, ml, fl, h1, h2, h3, h4, h5, h6, h7⟩
  · exact .tup (k := 3 * n) h1 (.cons (.str (lay_tag _ (by simp))) (.cons .int .nil)) (by omega)
  · exact .tup (k := 3 * n) h1 (.cons (.str (lay_tag _ (by rcases h0 with ⟨e, _⟩ | ⟨e, _⟩ <;> simp [e]))) .nil) (by omega)
  · exact .tup (k := 3 * n) h1 (.cons (.str (lay_tag _ (by simp))) (.cons h2.dpt .nil)) (by omega)
  · have a := Dpt.tup h2 (dpts_of (fun _ _ z => DecAt.dpt (n := n) (K := K) z) h5)
    exact .tup (k := 3 * n + 1) h1 (.cons (.str (lay_tag _ (by rcases h0 with ⟨e, _⟩ | ⟨e, _⟩ <;> simp [e]))) (.cons a .nil)) (by omega)
  · have c := dpts_of (K := K) (H := H) (k := 3 * n + 1) (fun x mf (z : RungAt many n H x mf) => by
      obtain ⟨t, a, b, rfl, ht, ha, hb⟩ := z
      exact Dpt.tup ht (.cons ha.dpt (.cons hb.dpt .nil))) h5
    exact .tup (k := 3 * n + 2) h1 (.cons (.str (lay_tag _ (by simp))) (.cons (Dpt.tup h2 c) (.cons (h6.dpt.mono (by omega)) .nil))) (by omega)
theorem atI_hd {α : Type} {x : α} {xs : List α} : atI (x :: xs) 0 = some x := atI_nat (j := 0) rfl
theorem take_sum_le : ∀ (l : List Nat) (i : Nat), (l.take i).sum ≤ l.sum
  | [], i => by simp
  | a :: l, 0 => by simp
  | a :: l, i + 1 => by
    have := take_sum_le l i
    simp only [List.take_succ_cons, List.sum_cons]
    omega
section
variable {P : Program} {w : World} {K : PySem.W.Frag} {mg : Str → Option Value} {base : Heap} {C B : Addr} {f : Addr} {fd : FuncData}
theorem sc16 : FnScope ["thing", "many"] ["thing", "many"] (defScope s16) := ⟨rfl, rfl, rfl, by decide +kernel, rfl, by decide +kernel, by decide +kernel⟩
theorem ok16 (T : Tx K mg C B) (F : FunD K "is_form" "is_form" (defArgs s16) (defBody s16) (defScope s16) [] [] f fd) (o_is_within : Own P w K mg base 2 "is_within" ["thing", "low", "high"] [] spWithin)
    (o_are_rows : Own P w K mg base 1 "are_rows" ["thing"] [] spRungs) : FnOk P w K mg base CX0 3 f fd ["thing", "many"] spForm := by
  refine ok0 F sc16 (fun vs H Q E h => ?_) (fun cdv A outer s H vs Q E hr h => ?_)
  · obtain ⟨_, _, _, _, _, rfl, _⟩ := h
    rfl
  · obtain ⟨many, n, v, m, f, rfl, hdec, hn, k⟩ := h
    obtain ⟨p, rfl, hd⟩ := id hdec
    have hsx : ∃ s xs, H p = some (.tup (.str s :: xs)) := by
      rcases hd with ⟨i, hp, _⟩ | ⟨s, b, hs, hp, _⟩ | ⟨d, m', f', hp, _⟩ | ⟨s, b, q, ds, mfs, hs, hp, _⟩ | ⟨q, last, rs, ms, ml, fl, hp, _⟩ <;> exact ⟨_, _, hp⟩
    obtain ⟨s0, xs0, hp0⟩ := hsx
    refine ⟨_, (pss_cons (ps_if (PW.pt (pw_or (pt_not (pt_val (pe_callB call_isi (by rfl) T.f_isinstance (by decide +kernel) (pa_cons (pv 0) (pa_cons (pe_bltn (v := .ty "tuple") (u := .type "tuple") (by rfl) T.f_tuple (by decide +kernel) rfl) pa_nil))))) (pw_or (pt_cmpR (op_eqD hr.units) (pv 0) (pe_tup pa_nil) (nomark _)) (pw_or1 (pt_not (pt_val (pe_callB call_isi (by rfl) T.f_isinstance (by decide +kernel) (pa_cons (pe_ix ix_tup (pv 0) pe_int (fun _ _ => rfl)) (pa_cons (pe_bltn (v := .ty "str") (u := .type "str") (by rfl) T.f_str (by decide +kernel) rfl) pa_nil))))))))) (pss_one (ps_ret pe_bl)) pss_nil)
    (pss_cons (ps_if (pt_cmpR op_in_seq (pe_ix ix_tup (pv 0) pe_int (fun _ _ => rfl)) (pe_tup (pa_cons pe_str (pa_cons pe_str pa_nil))) (by with_unfolding_all rfl)) (pss_one (ps_ret (pe_cmpR op_eq (pe_callB call_len_seq (by rfl) T.f_len (by decide +kernel) (pa_cons (pv 0) pa_nil)) pe_int (nomark _)))) pss_nil)
    (pss_cons (ps_if (pt_cmpR op_eq (pe_ix ix_tup (pv 0) pe_int (fun _ _ => rfl)) pe_str (nomark _)) (pss_one (ps_ret (pe_and (pe_cmpR op_eq (pe_callB call_len_seq (by rfl) T.f_len (by decide +kernel) (pa_cons (pv 0) pa_nil)) pe_int (nomark _)) (pe_one (pe_own o_are_rows (hr.mono (by omega)) rfl (pa_cons (pe_ix ix_tup (pv 0) pe_int (fun _ _ => rfl)) pa_nil)))))) pss_nil)
    (pss_cons (ps_if (pt_cmpR op_ne (pe_callB call_len_seq (by rfl) T.f_len (by decide +kernel) (pa_cons (pv 0) pa_nil)) pe_int (nomark _)) (pss_one (ps_ret pe_bl)) pss_nil)
    (pss_cons (ps_if (pt_cmpR op_eq (pe_ix ix_tup (pv 0) pe_int (fun _ _ => rfl)) pe_str (nomark _)) (pss_one (ps_ret (pe_own o_is_within (hr.mono (by omega)) rfl (pa_cons (pe_ix ix_tup (pv 0) pe_int (fun _ _ => rfl)) (pa_cons pe_int (pa_cons (pe_op op_sub (pv 1) pe_int) pa_nil)))))) pss_nil)
    (pss_cons (ps_if (pt_cmpR op_eq (pe_ix ix_tup (pv 0) pe_int (fun _ _ => rfl)) pe_str (nomark _)) (pss_one (ps_ret pe_bl)) pss_nil)
    (pss_one (ps_ret (pe_and (pe_cmpR op_in_seq (pe_ix ix_tup (pv 0) pe_int (fun _ _ => rfl)) (pe_tup (pa_cons pe_str (pa_cons pe_str pa_nil))) (by with_unfolding_all rfl)) (pe_and (pe_callB call_isi (by rfl) T.f_isinstance (by decide +kernel) (pa_cons (pe_ix ix_tup (pv 0) pe_int (fun _ _ => rfl)) (pa_cons (pe_bltn (v := .ty "tuple") (u := .type "tuple") (by rfl) T.f_tuple (by decide +kernel) rfl) pa_nil))) (pe_one (pe_chain op_le op_le pe_int (pe_callB call_len_seq (by rfl) T.f_len (by decide +kernel) (pa_cons (pe_ix ix_tup (pv 0) pe_int (fun _ _ => rfl)) pa_nil)) (pe_gint T.i_MOST_WITHIN rfl))))))))))))), ?_⟩
    refine ⟨_, rfl, _, _, _, _, true, rfl, .ty _, .base (.tup hp0), kit_ty (by decide +kernel), _, rfl, ?_⟩
    refine iteF ?_
    refine ⟨_, rfl, Nat.zero_le _, fun T1 hT1 => ?_⟩
    have s1 := same_new hT1 (.tup [])
    obtain ⟨dy, dr', dq1, dq2, dq3⟩ := DecAt.dpt1 (K := K) (DecAt.keep (tupsOf s1) hdec)
    have hne : PyData.eqv (.tuple (dy :: dr')) (.tuple []) = false := by simp [PyData.eqv, PyData.eqvAll]
    refine ⟨_, _, dq1, .tup (SqT.of upd_same) .nil, shaped_of dq2 (by omega), by decide +kernel, _, rfl, ?_⟩
    rw [hne]
    refine iteF ?_
    refine ⟨_, rfl, _, _, _, _, rfl, rfl, SqT.of (s1 _ _ hp0), atI_hd, _, _, _, _, true, rfl, .ty _, .base (.str _), kit_ty (by decide +kernel), _, rfl, ?_⟩
    refine iteF ?_
    rcases hd with ⟨i, hp, hi, em, ef⟩ | ⟨s, b, hs, hp, em, ef⟩ | ⟨d, m', f', hp, hd', em, ef⟩ | ⟨s, b, q, ds, mfs, hs, hp, hq, l1, l2, hds, em, ef⟩ | ⟨q, last, rs, ms, ml, fl, hp, hq, l1, l2, hrs, hla, em, ef⟩
    · have hp1 := s1 _ _ hp
      refine ⟨_, rfl, _, _, _, _, rfl, rfl, SqT.of hp1, rfl, (by show 2 ≤ sizeLine; decide), fun T2 hT2 => ⟨T2, _, rfl, .inr (SqT.of upd_same), rfl, rfl, _, rfl, ?_⟩⟩
      refine iteB (c := false) (by decide +kernel) (iteF ?_)
      have s2 := s1.trans (same_new hT2 (.tup [V.str "yes", V.str "no"]))
      have hp2 := s2 _ _ hp
      refine ⟨_, rfl, _, _, _, _, rfl, rfl, SqT.of hp2, rfl, rfl, _, rfl, ?_⟩; refine iteDF (by decide +kernel) ?_
      refine ⟨_, rfl, p, _, rfl, .inr (SqT.of hp2), rfl, _, rfl, ?_⟩
      refine iteNS rfl ?_
      refine ⟨_, rfl, _, _, _, _, rfl, rfl, SqT.of hp2, rfl, rfl, _, rfl, ?_⟩; refine iteD (by decide +kernel) ?_
      refine ⟨_, rfl, _, _, _, _, rfl, rfl, SqT.of hp2, rfl, _, rfl, _, _, rfl, rfl, i, 0, many - 1, rfl, by omega, by omega, k _ s2⟩
    · have hp1 := s1 _ _ hp
      refine ⟨_, rfl, _, _, _, _, rfl, rfl, SqT.of hp1, rfl, (by show 2 ≤ sizeLine; decide), fun T2 hT2 => ⟨T2, _, rfl, .inr (SqT.of upd_same), rfl, rfl, _, rfl, ?_⟩⟩
      refine iteB (c := true) (by rcases hs with ⟨rfl, _⟩ | ⟨rfl, _⟩ <;> decide +kernel) (iteT ?_)
      have s2 := s1.trans (same_new hT2 (.tup [V.str "yes", V.str "no"]))
      have hp2 := s2 _ _ hp
      refine ⟨_, rfl, p, _, rfl, .inr (SqT.of hp2), rfl, ?_⟩
      exact qb (Q := Q) (decide_eq_true rfl) (k _ s2)
    · have hp1 := s1 _ _ hp
      refine ⟨_, rfl, _, _, _, _, rfl, rfl, SqT.of hp1, rfl, (by show 2 ≤ sizeLine; decide), fun T2 hT2 => ⟨T2, _, rfl, .inr (SqT.of upd_same), rfl, rfl, _, rfl, ?_⟩⟩
      refine iteB (c := false) (by decide +kernel) (iteF ?_)
      have s2 := s1.trans (same_new hT2 (.tup [V.str "yes", V.str "no"]))
      have hp2 := s2 _ _ hp
      refine ⟨_, rfl, _, _, _, _, rfl, rfl, SqT.of hp2, rfl, rfl, _, rfl, ?_⟩; refine iteDF (by decide +kernel) ?_
      refine ⟨_, rfl, p, _, rfl, .inr (SqT.of hp2), rfl, _, rfl, ?_⟩
      refine iteNS rfl ?_
      refine ⟨_, rfl, _, _, _, _, rfl, rfl, SqT.of hp2, rfl, rfl, _, rfl, ?_⟩; refine iteDF (by decide +kernel) ?_
      refine ⟨_, rfl, _, _, _, _, rfl, rfl, SqT.of hp2, rfl, rfl, _, rfl, ?_⟩; refine iteD (by decide +kernel) ?_
      exact k _ s2
    · have hp1 := s1 _ _ hp
      refine ⟨_, rfl, _, _, _, _, rfl, rfl, SqT.of hp1, rfl, (by show 2 ≤ sizeLine; decide), fun T2 hT2 => ⟨T2, _, rfl, .inr (SqT.of upd_same), rfl, rfl, _, rfl, ?_⟩⟩
      refine iteB (c := false) (by rcases hs with ⟨rfl, _⟩ | ⟨rfl, _⟩ <;> decide +kernel) (iteF ?_)
      have s2 := s1.trans (same_new hT2 (.tup [V.str "yes", V.str "no"]))
      have hp2 := s2 _ _ hp
      refine ⟨_, rfl, _, _, _, _, rfl, rfl, SqT.of hp2, rfl, rfl, _, rfl, ?_⟩
      refine iteDF (by rcases hs with ⟨rfl, _⟩ | ⟨rfl, _⟩ <;> decide +kernel) ?_
      refine ⟨_, rfl, p, _, rfl, .inr (SqT.of hp2), rfl, _, rfl, ?_⟩
      refine iteNS rfl ?_
      refine ⟨_, rfl, _, _, _, _, rfl, rfl, SqT.of hp2, rfl, rfl, _, rfl, ?_⟩
      refine iteDF (by rcases hs with ⟨rfl, _⟩ | ⟨rfl, _⟩ <;> decide +kernel) ?_
      refine ⟨_, rfl, _, _, _, _, rfl, rfl, SqT.of hp2, rfl, rfl, _, rfl, ?_⟩
      refine iteDF (by rcases hs with ⟨rfl, _⟩ | ⟨rfl, _⟩ <;> decide +kernel) ?_
      refine ⟨_, rfl, _, _, _, _, rfl, rfl, SqT.of hp2, rfl, (by show 2 ≤ sizeLine; decide), fun T3 hT3 => ⟨T3, _, rfl, .inr (SqT.of upd_same), rfl, rfl, _, rfl, ?_⟩⟩
      refine iteB (c := true) (by rcases hs with ⟨rfl, _⟩ | ⟨rfl, _⟩ <;> decide +kernel) (iteT ?_)
      have s3 := s2.trans (same_new hT3 (.tup [V.str "and", V.str "or"]))
      have hq3 := s3 _ _ hq
      refine ⟨_, rfl, _, _, _, _, rfl, rfl, SqT.of (s3 _ _ hp), rfl, _, _, _, _, true, rfl, .ty _, .base (.tup hq3), kit_ty (by decide +kernel), _, rfl, ?_⟩
      refine iteT ?_
      refine ⟨_, rfl, _, _, _, _, rfl, rfl, SqT.of (s3 _ _ hp), rfl, q, _, rfl, .inr (SqT.of hq3), _, _, rfl, rfl, _, rfl, ?_⟩
      refine iteD (by omega) ?_
      exact ⟨_, _, rfl, rfl, qb (Q := Q) (decide_eq_true (by omega)) (k _ s3)⟩
    · have hp1 := s1 _ _ hp
      refine ⟨_, rfl, _, _, _, _, rfl, rfl, SqT.of hp1, rfl, (by show 2 ≤ sizeLine; decide), fun T2 hT2 => ⟨T2, _, rfl, .inr (SqT.of upd_same), rfl, rfl, _, rfl, ?_⟩⟩
      refine iteB (c := false) (by decide +kernel) (iteF ?_)
      have s2 := s1.trans (same_new hT2 (.tup [V.str "yes", V.str "no"]))
      have hp2 := s2 _ _ hp
      refine ⟨_, rfl, _, _, _, _, rfl, rfl, SqT.of hp2, rfl, rfl, _, rfl, ?_⟩; refine iteD (by decide +kernel) ?_
      refine ⟨_, rfl, p, _, rfl, .inr (SqT.of hp2), rfl, _, rfl, ?_⟩
      refine iteD rfl ?_
      refine ⟨_, rfl, _, _, _, _, rfl, rfl, SqT.of hp2, rfl, q, rs, rfl, s2 _ _ hq, l1, l2, ?_, fun H3 s3 => k _ (s2.trans s3)⟩
      intro x hx
      obtain ⟨i, hi⟩ := List.mem_iff_getElem?.mp hx
      obtain ⟨mf, _, t, a, b, e, ht, _⟩ := pAt hrs hi
      exact ⟨t, a, b, e, s2 _ _ ht⟩
theorem sc18 : FnScope ["thing", "many", "room", "found", "part", "inner"] ["thing", "many", "room"] (defScope s18) := ⟨rfl, rfl, rfl, by decide +kernel, rfl, by decide +kernel, by decide +kernel⟩
theorem ok18 {n : Nat} (T : Tx K mg C B) (F : FunD K "parts_of" "parts_of" (defArgs s18) (defBody s18) (defScope s18) [] [] f fd) (o_is_form : Own P w K mg base 3 "is_form" ["thing", "many"] [] spForm) (o_inner_parts : Own P w K mg base 1 "inner_parts" ["decision"] [] spInner)
    (o_parts_of : Own P w K mg base (n + 4) "parts_of" ["thing", "many", "room"] [] (spParts n)) : FnOk P w K mg base CX0 (n + 5) f fd ["thing", "many", "room"] (spParts (n + 1)) := by
  refine ok0 F sc18 (fun vs H Q E h => ?_) (fun cdv A outer s H vs Q E hr h => ?_)
  · obtain ⟨_, _, _, _, _, rfl, _⟩ := h
    rfl
  · obtain ⟨many, v, m, f, room, rfl, hdec, hroom, hn, hm, k⟩ := h
    refine ⟨_, (pss_cons (ps_if (PW.pt (pw_or (pt_cmpR op_lt (pv 2) pe_int (nomark _)) (pw_or1 (pt_not (pt_val (pe_own o_is_form (hr.mono (by omega)) rfl (pa_cons (pv 0) (pa_cons (pv 1) pa_nil)))))))) (pss_one (ps_ret pe_non)) pss_nil)
    (pss_cons (ps_set (i := 3) sc18.nd rfl (by first | exact Or.inl rfl | exact Or.inr rfl) pe_int)
    (pss_cons (ps_for PassesOwn.never rfl (pi_list (pe_own o_inner_parts (hr.mono (by omega)) rfl (pa_cons (pv 0) pa_nil))) (pg_name (i := 4) sc18.nd rfl (by first | exact Or.inl rfl | exact Or.inr rfl)) (pss_cons (ps_set (i := 5) sc18.nd rfl (by first | exact Or.inl rfl | exact Or.inr rfl) (pe_own o_parts_of (hr.mono (by omega)) rfl (pa_cons (pv 4) (pa_cons (pv 1) (pa_cons (pe_op op_sub (pv 2) pe_int) pa_nil)))))
    (pss_cons (ps_if (PW.pt (pw_or (pt_cmpR op_isN (pv 5) pe_non (nomark _)) (pw_or1 (pt_cmpR op_gt (pe_op op_add (pv 3) (pv 5)) (pe_gint T.i_MOST_PARTS rfl) (nomark _))))) (pss_one (ps_ret pe_non)) pss_nil)
    (pss_one (ps_aug (i := 3) sc18.nd rfl (.inl rfl) (pv 5) ip_add)))))
    (pss_one (ps_ret (pv 3)))))), ?_⟩
    refine ⟨_, rfl, _, _, rfl, rfl, _, rfl, ?_⟩
    refine iteDF (by omega) ?_
    refine ⟨_, rfl, _, rfl, many, n, v, m, f, rfl, hdec, by omega, fun H1 s1 => ⟨_, rfl, ?_⟩⟩
    refine iteF ?_
    refine ⟨_, rfl, many, n, v, m, f, rfl, hdec.keep (tupsOf s1), fun H2 l ds mfs s2 hl hds hlen hsum => ⟨l, rfl, ⟨_, SqL.of hl⟩, ?_⟩⟩
    have s12 := s1.trans s2
    refine for_list (K := K) (a := l) (xs := ds) (fun i σ H' => ∃ a b c, σ = [some v, some (.int many), some (.int room), some (.int c), a, b] ∧ c = (((mfs.map (·.1)).take i).sum + 1 : Nat) ∧ Same H2 H')
      ⟨none, none, 1, rfl, rfl, Same.refl _⟩ (fun i σ H' _ ⟨_, _, _, _, _, s3⟩ => SqL.of (s3 _ _ hl)) ?_ ?_
    · rintro i x σ H' hx ⟨a0, b0, c, rfl, ec, s3⟩
      obtain ⟨mf, hmf, hmd⟩ := pAt hds hx
      have e1 : (mfs.map (·.1))[i]? = some mf.1 := by rw [List.getElem?_map, hmf]; rfl
      have e2 : ((mfs.map (·.1)).take (i + 1)).sum = ((mfs.map (·.1)).take i).sum + mf.1 := by rw [take_more e1, List.sum_append]; simp
      have e3 := take_sum_le (mfs.map (·.1)) (i + 1)
      refine ⟨_, rfl, _, rfl, _, rfl, _, _, rfl, rfl, many, x, mf.1, mf.2, room - 1, rfl, hmd.keep (tupsOf s3), by omega, by omega, by omega, fun H4 s4 => ?_⟩
      refine ⟨_, rfl, rfl, _, rfl, ?_⟩
      refine iteDF (fun z => nomatch z) ?_
      refine ⟨_, rfl, _, rfl, _, _, rfl, rfl, _, _, rfl, rfl, _, rfl, ?_⟩
      refine iteDF (by omega) ?_
      refine ⟨_, rfl, _, rfl, _, _, rfl, rfl, ?_⟩
      exact ⟨_, _, _, rfl, by dsimp only; rw [e2, ec]; omega, s3.trans s4⟩
    · rintro σ H' ⟨a0, b0, c, rfl, ec, s3⟩
      have e : (mfs.map (·.1)).take ds.length = mfs.map (·.1) := List.take_of_length_le (by rw [List.length_map, ← pLen hds]; exact Nat.le_refl _)
      refine ⟨_, rfl, ?_⟩
      exact qi (Q := Q) (by rw [ec, e, hsum]) (k _ (s12.trans s3))
theorem sc19 : FnScope ["thing", "many"] ["thing", "many"] (defScope s19) := ⟨rfl, rfl, rfl, by decide +kernel, rfl, by decide +kernel, by decide +kernel⟩
theorem ok19 (T : Tx K mg C B) (F : FunD K "is_decision" "is_decision" (defArgs s19) (defBody s19) (defScope s19) [.int 8] [] f fd) (o_parts_of : Own P w K mg base 16 "parts_of" ["thing", "many", "room"] [] (spParts 12)) :
    FnOk P w K mg base CX0 17 f fd ["thing", "many"] spIsDec := by
  refine ok0 F sc19 (fun vs H Q E h => ?_) (fun cdv A outer s H vs Q E hr h => ?_)
  · obtain ⟨_, _, _, _, _, rfl, _⟩ := h
    rfl
  · obtain ⟨many, n, v, m, f, rfl, hdec, hn, hm, k⟩ := h
    refine ⟨_, (pss_one (ps_ret (pe_cmpR op_notN (pe_own o_parts_of (hr.mono (by omega)) rfl (pa_cons (pv 0) (pa_cons (pv 1) (pa_cons (pe_gint T.i_DEEPEST rfl) pa_nil)))) pe_non (nomark _)))), ?_⟩
    refine ⟨_, rfl, _, rfl, many, v, m, f, 12, rfl, hdec.mono hn, by decide, by decide, hm, fun H1 s1 => ⟨rfl, ?_⟩⟩
    exact qb (Q := Q) (by simp) (k _ s1)
end
end EA

set_option maxHeartbeats 4000000
namespace EA
open PySem PySem.Spec PyProof.Rows L2
/-! ### cases -/
/-- all that is no list stays -/
def Most (H H' : Hp) : Prop := ∀ b o, (∀ xs, o ≠ .lst xs) → H b = some o → H' b = some o
theorem mostOf {H H' : Hp} (s : Same H H') : Most H H' := fun b o _ h => s b o h
theorem Most.trans {H H1 H2 : Hp} (a : Most H H1) (b : Most H1 H2) : Most H H2 := fun c o h q => b c o h (a c o h q)
theorem Most.tups {H H' : Hp} (s : Most H H') : Tups H H' := fun b xs h => s b _ (fun _ z => nomatch z) h
theorem for_enum {K : PySem.W.Frag} {a : Addr} {xs : List V} {g : TG} {tb : TS} {D : Ends} {σ : L2.St} {H : Hp} (Pv : Nat → L2.St → Hp → Prop) (h0 : Pv 0 σ H) (hl : ∀ i σ H, i ≤ xs.length → Pv i σ H → SqL K H a xs)
    (hs : ∀ (i : Nat) (x : V) (T : Addr) (σ : L2.St) (H : Hp), xs[i]? = some x → Pv i σ H → H T = none → g (.ref T) σ (upd H T (.tup [.int (i : Nat), x])) fun σ2 H2 => tb { D with nx := Pv (i + 1), ct := Pv (i + 1), bk := D.nx } σ2 H2) (hd : ∀ σ H, Pv xs.length σ H → D.nx σ H) :
    ∃ W : Nat → Nat → L2.St → Hp → Prop, (∃ m, W 0 m σ H) ∧ ∀ i m σ H, W i m σ H →
      ((Ite K a).stop i H ∧ D.nx σ H) ∨ ((Ite K a).go i H ∧ ∃ N : L2.St → Hp → Prop, (∀ σ' H', N σ' H' → ∃ m', m' < m ∧ W (i + 1) m' σ' H') ∧ ∀ v H', (Ite K a).yld i H v H' → g v σ H' fun σ2 H2 => tb { D with nx := N, ct := N, bk := D.nx } σ2 H2) := by
  refine ⟨fun i m σ H => m = xs.length - i ∧ i ≤ xs.length ∧ Pv i σ H, ⟨xs.length, by simp, Nat.zero_le _, h0⟩, ?_⟩
  rintro i m σ H ⟨rfl, hi, p⟩
  have q := hl i σ H hi p
  by_cases hlt : i < xs.length
  · refine .inr ⟨⟨xs, xs[i], q, by simp [hlt]⟩, Pv (i + 1), fun σ' H' p' => ⟨xs.length - (i + 1), by omega, rfl, hlt, p'⟩, fun v H' y => ?_⟩
    obtain ⟨T, x, rfl, hT, rfl, f⟩ := y
    exact hs i x T σ H (f xs q) p hT
  · have e : i = xs.length := by omega
    subst e
    exact .inl ⟨⟨xs, q, Nat.le_refl _⟩, hd σ H p⟩
theorem RowsV.dp {K : PySem.W.Frag} {H : Hp} {a : Addr} {vs : List V} {rs : List Row} (h : H a = some (.lst vs)) (r : RowsV H vs rs) : Dp K H (.ref a) (.list (rs.map rowD)) := .lst (SqL.of h) (RowsV.dps r)
theorem rows_ne_nil {rs : List Row} (h : rs ≠ []) : PyData.eqv (.list (rs.map rowD)) (.list []) = false := by
  cases rs with
  | nil => exact absurd rfl h
  | cons r rs => simp [PyData.eqv, PyData.eqvAll]
theorem rowsL {H : Hp} : ∀ {vs : List V} {rs : List Row}, RowsV H vs rs → ∃ L : List (Addr × Row), vs = L.map (fun x => V.ref x.1) ∧ rs = L.map (·.2) ∧ ∀ x ∈ L, H x.1 = some (.tup (x.2.map V.bl))
  | _, _, .nil => ⟨[], rfl, rfl, fun _ h => nomatch h⟩
  | _, _, .cons ⟨p, e, h⟩ t => by
    obtain ⟨L, e1, e2, e3⟩ := rowsL t
    subst e
    refine ⟨(p, _) :: L, by rw [e1]; rfl, by rw [e2]; rfl, fun x hx => ?_⟩
    rcases List.mem_cons.mp hx with rfl | hx
    · exact h
    · exact e3 x hx
theorem BD.most {P : Program} {w : World} {H H' : Hp} {d : Addr} {ks : List (Row × Addr)} (h : BD P w H d ks) (k : Most H H') : BD P w H' d ks := ⟨k _ _ (fun _ z => nomatch z) h.1, fun x hx => k.tups _ _ (h.2 x hx)⟩
/-- a case's attributes -/
def caseF (many : Nat) (dv : V) (d : Addr) : List (Str × V) := putF ("case_rows" : Str) (V.ref d) (putF ("case_decision" : Str) dv (putF ("case_many" : Str) (V.int many) []))
theorem caseF_many {many : Nat} {dv : V} {d : Addr} : (caseF many dv d).lookup ("case_many" : Str) = some (V.int many) := by
  unfold caseF
  rw [lookup_putF, if_neg (by decide +kernel), lookup_putF, if_neg (by decide +kernel), lookup_putF, if_pos rfl]
theorem caseF_dec {many : Nat} {dv : V} {d : Addr} : (caseF many dv d).lookup ("case_decision" : Str) = some dv := by
  unfold caseF
  rw [lookup_putF, if_neg (by decide +kernel), lookup_putF, if_pos rfl]
theorem caseF_rows {many : Nat} {dv : V} {d : Addr} : (caseF many dv d).lookup ("case_rows" : Str) = some (V.ref d) := by
  unfold caseF
  rw [lookup_putF, if_pos rfl]
theorem caseF_no {many : Nat} {dv : V} {d : Addr} {m : Str} (h1 : ¬ m = "case_rows") (h2 : ¬ m = "case_decision") (h3 : ¬ m = "case_many") : (caseF many dv d).lookup m = none := by
  unfold caseF
  rw [lookup_putF, if_neg h1, lookup_putF, if_neg h2, lookup_putF, if_neg h3]
  rfl
def CaseAt (P : Program) (w : World) (C : Addr) (H : Hp) (c : Addr) (many : Nat) (f : An) (ks : List (Row × Addr)) : Prop :=
  ∃ dx dv d m, H c = some (.ins C dx (caseF many dv d)) ∧ DecAt many 12 H dv m f ∧ BD P w H d ks ∧ 1 ≤ many ∧ many ≤ 8 ∧ (∀ k ∈ ks, k.1.length = many) ∧ ks.length ≤ 64 ∧ (ks.map (·.1)).Nodup
theorem CaseAt.most {P : Program} {w : World} {C : Addr} {H H' : Hp} {c : Addr} {many : Nat} {f : An} {ks : List (Row × Addr)} (h : CaseAt P w C H c many f ks) (k : Most H H') : CaseAt P w C H' c many f ks := by
  obtain ⟨dx, dv, d, m, h1, h2, h3, h4⟩ := h
  exact ⟨dx, dv, d, m, k _ _ (fun _ z => nomatch z) h1, h2.keep k.tups, h3.most k, h4⟩
theorem CaseAt.same {P : Program} {w : World} {C : Addr} {H H' : Hp} {c : Addr} {many : Nat} {f : An} {ks : List (Row × Addr)} (h : CaseAt P w C H c many f ks) (k : Same H H') : CaseAt P w C H' c many f ks := h.most (mostOf k)
/-! ### the promises -/
def spLookRows : Sp := fun vs H Q _ => ∃ (many : Nat) (a : Addr) (rvs : List V) (rs : List Row), vs = [.int many, .ref a] ∧ H a = some (.lst rvs) ∧ RowsV H rvs rs ∧ rs ≠ [] ∧ (∀ r ∈ rs, r.length = many) ∧ rs.Nodup ∧ many ≤ 8 ∧ rs.length ≤ 64 ∧ ∀ H', Same H H' → Q .non H'
def spCaseInit (P : Program) (w : World) (C : Addr) : Sp := fun vs H Q _ => ∃ (c dx : Addr) (many n : Nat) (dv : V) (m : Nat) (f : An) (a : Addr) (rvs : List V) (rs : List Row), vs = [.ref c, .int many, dv, .ref a] ∧ H c = some (.ins C dx []) ∧ DecAt many n H dv m f ∧ n ≤ 12 ∧ m ≤ 60 ∧ 1 ≤ many ∧ many ≤ 8 ∧
  H a = some (.lst rvs) ∧ RowsV H rvs rs ∧ rs ≠ [] ∧ (∀ r ∈ rs, r.length = many) ∧ rs.Nodup ∧ rs.length ≤ 64 ∧
  ∀ (H' : Hp) (ks : List (Row × Addr)), (∀ b o, b ≠ c → H b = some o → H' b = some o) → CaseAt P w C H' c many f ks → (ks.map (·.1)).Perm rs → Q .non H'
def spMany (P : Program) (w : World) (C : Addr) : Sp := fun vs H Q _ => ∃ c many f ks, vs = [.ref c] ∧ CaseAt P w C H c many f ks ∧ Q (.int many) H
def spRows (P : Program) (w : World) (C : Addr) : Sp := fun vs H Q _ => ∃ c many f ks, vs = [.ref c] ∧ CaseAt P w C H c many f ks ∧ ∀ (H' : Hp) (l : Addr), Same H H' → H l = none → H' l = some (.lst (ks.map fun k => .ref k.2)) → Q (.ref l) H'
def spLookRow (P : Program) (w : World) (C : Addr) : Sp := fun vs H Q _ => ∃ c many f ks v r, vs = [.ref c, v] ∧ CaseAt P w C H c many f ks ∧ RowV H v r ∧ r.length = many ∧ ∀ H', Same H H' → Q .non H'
def spCanBe (P : Program) (w : World) (C : Addr) : Sp := fun vs H Q _ => ∃ c many f ks v r, vs = [.ref c, v] ∧ CaseAt P w C H c many f ks ∧ RowV H v r ∧ r.length = many ∧ ∀ H', Same H H' → Q (.bl (decide (r ∈ ks.map (·.1)))) H'
def spCaseAns (P : Program) (w : World) (C : Addr) : Sp := fun vs H Q _ => ∃ c many f ks v r, vs = [.ref c, v] ∧ CaseAt P w C H c many f ks ∧ RowV H v r ∧ r.length = many ∧ ∀ H', Same H H' → Q (.bl (f r)) H'
section
variable {P : Program} {w : World} {K : PySem.W.Frag} {mg : Str → Option Value} {base : Heap} {C B : Addr} {f : Addr} {fd : FuncData}
theorem sc26 : FnScope ["many", "rows", "seen", "place", "row"] ["many", "rows"] (defScope s26) := ⟨rfl, rfl, rfl, by decide +kernel, rfl, by decide +kernel, by decide +kernel⟩
theorem ok26 (T : Tx K mg C B) (F : FunD K "look_at_rows" "look_at_rows" (defArgs s26) (defBody s26) (defScope s26) [] [] f fd) (o_is_row : Own P w K mg base 1 "is_row" ["thing", "many"] [] spIsRow) : FnOk P w K mg base CX0 2 f fd ["many", "rows"] spLookRows := by
  refine ok0 F sc26 (fun vs H Q E h => ?_) (fun cdv A outer s H vs Q E hr h => ?_)
  · obtain ⟨_, _, _, _, rfl, _⟩ := h
    rfl
  · obtain ⟨many, a, rvs, rs, rfl, ha, hrs, hne, hlen, hnd, h8, h64, k⟩ := h
    refine ⟨_, (pss_cons (ps_if (PW.pt (pw_or (pt_not (pt_val (pe_callB call_isi (by rfl) T.f_isinstance (by decide +kernel) (pa_cons (pv 1) (pa_cons (pe_bltn (v := .ty "list") (u := .type "list") (by rfl) T.f_list (by decide +kernel) rfl) pa_nil))))) (pw_or1 (pt_cmpR (op_eqD hr.units) (pv 1) (pe_lst pa_nil) (nomark _))))) (pss_one ps_never) pss_nil)
    (pss_cons (ps_set (i := 2) sc26.nd rfl (by first | exact Or.inl rfl | exact Or.inr rfl) pe_dnewB)
    (pss_one (ps_for PassesOwn.never rfl (pi_enum (by rfl) T.f_enumerate (pa_cons (pv 1) pa_nil)) (pg_tup rfl (pgs_cons (pg_name (i := 3) sc26.nd rfl (by first | exact Or.inl rfl | exact Or.inr rfl)) (pgs_cons (pg_name (i := 4) sc26.nd rfl (by first | exact Or.inl rfl | exact Or.inr rfl)) pgs_nil))) (pss_cons (ps_if (PW.pt (pw_or (pt_not (pt_val (pe_own o_is_row (hr.mono (by omega)) rfl (pa_cons (pv 4) (pa_cons (pv 0) pa_nil))))) (pw_or1 (pt_cmpR (op_inB (hu_of hr)) (pv 4) (pv 2) (by with_unfolding_all rfl))))) (pss_one ps_never) pss_nil)
    (pss_one (ps_asg pe_bl (pg_sub (pv 2) (pv 4) (set_B (hu_of hr)))))))))), ?_⟩
    refine ⟨_, rfl, _, _, _, _, true, rfl, .ty _, .base (.lst ha), kit_ty (by decide +kernel), _, rfl, ?_⟩
    refine iteF ?_
    refine ⟨_, rfl, Nat.zero_le _, fun T1 hT1 => ?_⟩
    have s1 := same_new hT1 (.lst [])
    refine ⟨_, _, RowsV.dp (s1 _ _ ha) (RowsV.keep (tupsOf s1) hrs), .lst (SqL.of upd_same) .nil, rowDs_shaped rs, by decide +kernel, _, rfl, ?_⟩
    refine iteB (rows_ne_nil hne) (iteF ?_)
    refine fun sd hsd => ?_
    have s2 := s1.trans (same_new hsd (BdO P w sd []))
    have hsd0 : H sd = none := s1.free hsd
    refine ⟨_, rfl, a, rvs, rfl, SqL.of (s2 _ _ ha), ?_⟩
    refine for_enum (K := K) (a := a) (xs := rvs) (fun i σ H' => ∃ x y ks, σ = [some (.int many), some (.ref a), some (.ref sd), x, y] ∧ Same H H' ∧ BD P w H' sd ks ∧ ks.map (·.1) = rs.take i)
      ⟨none, none, [], rfl, s2, ⟨upd_same, fun _ h => nomatch h⟩, rfl⟩ (fun i σ H' _ ⟨_, _, _, _, s3, _⟩ => SqL.of (s3 _ _ ha)) ?_ ?_
    · rintro i x T2 σ H' hx ⟨x0, y0, ks, rfl, s3, hb, hks⟩ hT2
      obtain ⟨r, hrx, p, rfl, hp⟩ := pAt hrs hx
      have hi : i < rs.length := (List.getElem?_eq_some_iff.mp hrx).1
      have hrm : r ∈ rs := List.mem_of_getElem? hrx
      have s4 := same_new hT2 (.tup [V.int (i : Nat), .ref p])
      have s34 := s3.trans s4
      refine ⟨T2, _, rfl, SqT.of upd_same, rfl, _, _, rfl, _, _, rfl, rfl, ?_⟩
      refine ⟨_, rfl, _, rfl, p, r, by rw [hlen r hrm]; rfl, by rw [hlen r hrm]; exact h8, s34 _ _ hp, fun H5 s5 => ⟨_, rfl, ?_⟩⟩
      refine iteF ?_
      have s35 := s34.trans s5
      have hb5 := hb.most (mostOf (s4.trans s5))
      have hnot : r ∉ ks.map (·.1) := by
        rw [hks]
        intro hm
        obtain ⟨j, hj⟩ := List.mem_iff_getElem?.mp hm
        have hj2 : j < i := by
          have := (List.getElem?_eq_some_iff.mp hj).1
          rw [List.length_take] at this
          omega
        rw [List.getElem?_take_of_lt hj2] at hj
        have := (List.getElem?_inj (by omega) hnd).mp (hj.trans hrx.symm)
        omega
      refine ⟨_, rfl, _, rfl, sd, p, ks, r, rfl, s35 _ _ hp, rfl, hb5, _, rfl, ?_⟩
      refine iteDF hnot ?_
      refine ⟨_, rfl, _, rfl, sd, p, ks, r, rfl, rfl, s35 _ _ hp, hb5, hnot, ?_, ?_⟩
      · have e := congrArg List.length hks
        rw [List.length_map, List.length_take] at e
        exact small1000 (by omega)
      · refine ⟨_, _, ks ++ [(r, p)], rfl, same_upd s35 hsd0 _, ⟨upd_same, fun z hz => ?_⟩, ?_⟩
        · have hz2 : H5 z.2 = some (.tup (z.1.map V.bl)) := by
            rcases List.mem_append.mp hz with hz | hz
            · exact hb5.2 z hz
            · rw [List.mem_singleton.mp hz]
              exact s35 _ _ hp
          rw [upd_ne (ne_of hz2 hb5.1 (fun z => nomatch z))]
          exact hz2
        · rw [List.map_append, hks, take_more hrx]
          rfl
    · rintro σ H' ⟨x0, y0, ks, rfl, s3, hb, hks⟩
      exact k _ s3
theorem sc28_3 : FnScope ["self"] ["self"] (defScope s28_3) := ⟨rfl, rfl, rfl, by decide +kernel, rfl, by decide +kernel, by decide +kernel⟩
theorem ok28_3 (T : Tx K mg C B) (F : FunD K "many" "Case.many" (defArgs s28_3) (defBody s28_3) (defScope s28_3) [] [] f fd) : FnOk P w K mg base CX0 1 f fd ["self"] (spMany P w C) := by
  refine ok0 F sc28_3 (fun vs H Q E h => ?_) (fun cdv A outer s H vs Q E hr h => ?_)
  · obtain ⟨_, _, _, _, rfl, _⟩ := h
    rfl
  · obtain ⟨c, many, f, ks, rfl, ⟨dx, dv, d, m, h1, h2, h3, h4⟩, k⟩ := h
    refine ⟨_, (pss_one (ps_ret (pe_fld (pv 0) rfl))), ?_⟩
    exact ⟨_, rfl, c, C, dx, _, _, rfl, h1, T.clCase, T.na_case_many, caseF_many, k⟩
theorem sc28_5 : FnScope ["self"] ["self"] (defScope s28_5) := ⟨rfl, rfl, rfl, by decide +kernel, rfl, by decide +kernel, by decide +kernel⟩
theorem ok28_5 (T : Tx K mg C B) (F : FunD K "rows" "Case.rows" (defArgs s28_5) (defBody s28_5) (defScope s28_5) [] [] f fd) : FnOk P w K mg base CX0 1 f fd ["self"] (spRows P w C) := by
  refine ok0 F sc28_5 (fun vs H Q E h => ?_) (fun cdv A outer s H vs Q E hr h => ?_)
  · obtain ⟨_, _, _, _, rfl, _⟩ := h
    rfl
  · obtain ⟨c, many, f, ks, rfl, ⟨dx, dv, d, m, h1, h2, h3, h4⟩, k⟩ := h
    refine ⟨_, (pss_one (ps_ret (pe_callTy (call_listB rfl) (by rfl) T.f_list (by decide +kernel) (pa_cons (pe_fld (pv 0) rfl) pa_nil)))), ?_⟩
    refine ⟨_, rfl, c, C, dx, _, _, rfl, h1, T.clCase, T.na_case_rows, caseF_rows, d, ks, rfl, h3, fun l hl => ?_⟩
    exact k _ l (same_new hl _) hl upd_same
theorem sc28_6 : FnScope ["self", "row"] ["self", "row"] (defScope s28_6) := ⟨rfl, rfl, rfl, by decide +kernel, rfl, by decide +kernel, by decide +kernel⟩
theorem ok28_6 (T : Tx K mg C B) (F : FunD K "look_at_row" "Case.look_at_row" (defArgs s28_6) (defBody s28_6) (defScope s28_6) [] [] f fd) (o_is_row : Own P w K mg base 1 "is_row" ["thing", "many"] [] spIsRow) : FnOk P w K mg base CX0 2 f fd ["self", "row"] (spLookRow P w C) := by
  refine ok0 F sc28_6 (fun vs H Q E h => ?_) (fun cdv A outer s H vs Q E hr h => ?_)
  · obtain ⟨_, _, _, _, _, _, rfl, _⟩ := h
    rfl
  · obtain ⟨c, many, f, ks, v, r, rfl, ⟨dx, dv, d, m, h1, h2, h3, h4, h8, h5⟩, ⟨p, rfl, hp⟩, hlen, k⟩ := h
    refine ⟨_, (pss_one (ps_if (pt_not (pt_val (pe_own o_is_row (hr.mono (by omega)) rfl (pa_cons (pv 1) (pa_cons (pe_fld (pv 0) rfl) pa_nil))))) (pss_one ps_never) pss_nil)), ?_⟩
    refine ⟨_, rfl, _, rfl, c, C, dx, _, _, rfl, h1, T.clCase, T.na_case_many, caseF_many, p, r, by rw [hlen]; rfl, by omega, hp, fun H' s' => ⟨_, rfl, ?_⟩⟩
    exact iteF (k _ s')
theorem sc28_7 : FnScope ["self", "row"] ["self", "row"] (defScope s28_7) := ⟨rfl, rfl, rfl, by decide +kernel, rfl, by decide +kernel, by decide +kernel⟩
theorem ok28_7 (T : Tx K mg C B) (F : FunD K "can_be" "Case.can_be" (defArgs s28_7) (defBody s28_7) (defScope s28_7) [] [] f fd) (o_Case_look_at_row : OwnM P w K mg base 2 C "look_at_row" ["self", "row"] (spLookRow P w C)) : FnOk P w K mg base CX0 3 f fd ["self", "row"] (spCanBe P w C) := by
  refine ok0 F sc28_7 (fun vs H Q E h => ?_) (fun cdv A outer s H vs Q E hr h => ?_)
  · obtain ⟨_, _, _, _, _, _, rfl, _⟩ := h
    rfl
  · obtain ⟨c, many, f, ks, v, r, rfl, hc, ⟨p, rfl, hp⟩, hlen, k⟩ := h
    refine ⟨_, (pss_cons (ps_expr (pe_ownM o_Case_look_at_row T.clCase (hr.mono (by omega)) (pv 0) (pa_cons (pv 1) pa_nil)))
    (pss_one (ps_ret (pe_cmpR (op_inB (hu_of hr)) (pv 1) (pe_fld (pv 0) rfl) (by with_unfolding_all rfl))))), ?_⟩
    obtain ⟨dx, dv, d, m, h1, h2, h3, h4⟩ := id hc
    refine ⟨_, rfl, c, dx, _, rfl, h1, caseF_no (by decide +kernel) (by decide +kernel) (by decide +kernel), _, rfl, c, many, f, ks, _, r, rfl, hc, ⟨p, rfl, hp⟩, hlen, fun H1 s1 => ?_⟩
    refine ⟨_, rfl, _, rfl, c, C, dx, _, _, rfl, s1 _ _ h1, T.clCase, T.na_case_rows, caseF_rows, d, p, ks, r, rfl, s1 _ _ hp, rfl, h3.most (mostOf s1), ?_⟩
    exact k _ s1
theorem sc28_8 : FnScope ["self", "row"] ["self", "row"] (defScope s28_8) := ⟨rfl, rfl, rfl, by decide +kernel, rfl, by decide +kernel, by decide +kernel⟩
theorem ok28_8 (T : Tx K mg C B) (F : FunD K "answer" "Case.answer" (defArgs s28_8) (defBody s28_8) (defScope s28_8) [] [] f fd) (o_Case_look_at_row : OwnM P w K mg base 2 C "look_at_row" ["self", "row"] (spLookRow P w C))
    (o_answer_decisions : Own P w K mg base 24 "answer_decisions" ["decision", "row"] [] (spAnswer 12)) : FnOk P w K mg base CX0 25 f fd ["self", "row"] (spCaseAns P w C) := by
  refine ok0 F sc28_8 (fun vs H Q E h => ?_) (fun cdv A outer s H vs Q E hr h => ?_)
  · obtain ⟨_, _, _, _, _, _, rfl, _⟩ := h
    rfl
  · obtain ⟨c, many, f, ks, v, r, rfl, hc, ⟨p, rfl, hp⟩, hlen, k⟩ := h
    refine ⟨_, (pss_cons (ps_expr (pe_ownM o_Case_look_at_row T.clCase (hr.mono (by omega)) (pv 0) (pa_cons (pv 1) pa_nil)))
    (pss_one (ps_ret (pe_own o_answer_decisions (hr.mono (by omega)) rfl (pa_cons (pe_fld (pv 0) rfl) (pa_cons (pv 1) pa_nil)))))), ?_⟩
    obtain ⟨dx, dv, d, m, h1, h2, h3, h4⟩ := id hc
    refine ⟨_, rfl, c, dx, _, rfl, h1, caseF_no (by decide +kernel) (by decide +kernel) (by decide +kernel), _, rfl, c, many, f, ks, _, r, rfl, hc, ⟨p, rfl, hp⟩, hlen, fun H1 s1 => ?_⟩
    refine ⟨_, rfl, c, C, dx, _, _, rfl, s1 _ _ h1, T.clCase, T.na_case_decision, caseF_dec, _, rfl, many, _, _, m, f, r, rfl, h2.keep (tupsOf s1), ⟨p, rfl, s1 _ _ hp⟩, hlen, fun H2 s2 => ?_⟩
    exact k _ (s1.trans s2)
end
end EA

set_option maxHeartbeats 4000000
namespace EA
open PySem PySem.Spec PyProof.Rows L2
/-- all but what stands at c stays -/
def But (c : Addr) (H H' : Hp) : Prop := ∀ b o, b ≠ c → H b = some o → H' b = some o
theorem butSame {c : Addr} {H H1 H2 : Hp} (a : But c H H1) (b : Same H1 H2) : But c H H2 := fun x o h q => b x o (a x o h q)
theorem butAt {c : Addr} {H H1 : Hp} (a : But c H H1) (o : HO) : But c H (upd H1 c o) := fun x u h q => by
  rw [upd_ne h]
  exact a x u h q
theorem butNew {c d : Addr} {H H1 : Hp} (a : But c H H1) (hd : H d = none) (o : HO) : But c H (upd H1 d o) := fun x u h q => by
  rw [upd_ne (ne_of_none q hd)]
  exact a x u h q
section
variable {P : Program} {w : World} {K : PySem.W.Frag} {mg : Str → Option Value} {base : Heap} {C B : Addr} {f : Addr} {fd : FuncData}
theorem sc28_0 : FnScope ["self", "many", "decision", "rows", "row"] ["self", "many", "decision", "rows"] (defScope s28_0) := ⟨rfl, rfl, rfl, by decide +kernel, rfl, by decide +kernel, by decide +kernel⟩
theorem ok28_0 (T : Tx K mg C B) {dfl : List V} (F : FunD K "__init__" "Case.__init__" (defArgs s28_0) (defBody s28_0) (defScope s28_0) dfl [] f fd) (o_is_within : Own P w K mg base 2 "is_within" ["thing", "low", "high"] [] spWithin)
    (o_is_decision : Own P w K mg base 17 "is_decision" ["thing", "many"] [] spIsDec) (o_look_at_rows_cases : Own P w K mg base 2 "look_at_rows_cases" ["many", "rows"] [] spLookRows)
    (o_answer_decisions : Own P w K mg base 24 "answer_decisions" ["decision", "row"] [] (spAnswer 12)) : FnOk P w K mg base CX0 25 f fd ["self", "many", "decision", "rows"] (spCaseInit P w C) := by
  refine ok0 F sc28_0 (fun vs H Q E h => ?_) (fun cdv A outer s H vs Q E hr h => ?_)
  · obtain ⟨_, _, _, _, _, _, _, _, _, _, rfl, _⟩ := h
    rfl
  · obtain ⟨c, dx, many, n, dv, m, f, a, rvs, rs, rfl, hc, hdec, hn, hm, h1, h8, ha, hrs, hne, hlen, hnd, h64, k⟩ := h
    refine ⟨_, (pss_cons (ps_if (pt_not (pt_val (pe_own o_is_within (hr.mono (by omega)) rfl (pa_cons (pv 1) (pa_cons pe_int (pa_cons (pe_gint T.i_MOST_WISHES rfl) pa_nil)))))) (pss_one ps_never) pss_nil)
    (pss_cons (ps_if (pt_not (pt_val (pe_own o_is_decision (hr.mono (by omega)) rfl (pa_cons (pv 2) (pa_cons (pv 1) pa_nil))))) (pss_one ps_never) pss_nil)
    (pss_cons (ps_if (pt_cmpR op_notN (pv 3) pe_non (nomark _)) (pss_one (ps_expr (pe_own o_look_at_rows_cases (hr.mono (by omega)) rfl (pa_cons (pv 1) (pa_cons (pv 3) pa_nil))))) pss_nil)
    (pss_cons (ps_fld (pv 0) (pv 1) rfl)
    (pss_cons (ps_fld (pv 0) (pv 2) rfl)
    (pss_cons (ps_fld (pv 0) pe_dnewB rfl)
    (pss_one (ps_for PassesOwn.never rfl (pi_list (pe_callB (cr_sortedB hr) (by rfl) T.f_sorted (by decide +kernel) (pa_cons (pe_ifExp (pt_cmpR op_isN (pv 3) pe_non (nomark _)) pe_never (pv 3)) pa_nil))) (pg_name (i := 4) sc28_0.nd rfl (by first | exact Or.inl rfl | exact Or.inr rfl)) (pss_one (ps_asg (pe_own o_answer_decisions (hr.mono (by omega)) rfl (pa_cons (pv 2) (pa_cons (pv 4) pa_nil))) (pg_sub (pe_fld (pv 0) rfl) (pv 4) (set_B (hu_of hr))))))))))))), ?_⟩
    refine ⟨_, rfl, many, 1, 8, rfl, by omega, by omega, _, rfl, ?_⟩
    refine iteF ?_
    refine ⟨_, rfl, _, rfl, many, n, dv, m, f, rfl, hdec, hn, hm, fun H1 s1 => ⟨_, rfl, ?_⟩⟩
    refine iteF ?_
    refine ⟨_, rfl, rfl, _, rfl, ?_⟩
    refine iteB (c := true) (by simp) (iteT ?_)
    refine ⟨_, rfl, _, rfl, many, a, rvs, rs, rfl, s1 _ _ ha, RowsV.keep (tupsOf s1) hrs, hne, hlen, hnd, h8, h64, fun H2 s2 => ?_⟩
    have s12 := s1.trans s2
    have b2 : But c H H2 := fun x o _ q => s12 x o q
    refine ⟨_, rfl, _, rfl, c, C, dx, _, rfl, s12 _ _ hc, T.clCase, T.na_case_many, (by show 0 < 1000; decide), ?_⟩
    refine ⟨_, rfl, _, rfl, c, C, dx, _, rfl, upd_same, T.clCase, T.na_case_decision, (by show 1 < 1000; decide), ?_⟩
    refine fun d hd => ?_
    rw [upd_upd] at hd
    have hdc : d ≠ c := fun z => by rw [z, upd_same] at hd; cases hd
    have hd0 : H d = none := by
      rw [upd_ne hdc] at hd
      exact s12.free hd
    refine ⟨_, rfl, c, C, dx, _, rfl, by rw [upd_upd, upd_ne hdc.symm, upd_same], T.clCase, T.na_case_rows, Nat.lt_of_le_of_lt (length_putF _ _ _) (by show 2 < 1000; decide), ?_⟩
    rw [upd_upd]
    have b3 : But c H (upd (upd (upd H2 c (.ins C dx (putF "case_decision" dv (putF "case_many" (.int many) [])))) d (BdO P w d [])) c (.ins C dx (caseF many dv d))) := butAt (butNew (butAt b2 _) hd0 _) _
    obtain ⟨L, rfl, rfl, hL⟩ := rowsL hrs
    have tupc : ∀ {H' : Hp}, But c H H' → Tups H H' := fun bb x xs q => bb x _ (ne_of q hc (fun z => nomatch z)) q
    have hac : a ≠ c := ne_of ha hc (fun z => nomatch z)
    refine ⟨_, rfl, rfl, _, rfl, ?_⟩
    refine iteDF (fun z => nomatch z) ?_
    refine ⟨_, rfl, a, L, rfl, SqL.of (b3 _ _ hac ha), fun x hx => ⟨tupc b3 _ _ (hL x hx), fun z => ?_⟩, fun L' lp hperm hlp => ?_⟩
    · have e := hlen x.2 (List.mem_map.mpr ⟨x, hx, rfl⟩)
      rw [z] at e
      simp at e
      omega
    have hlp0 : H lp = none := by
      by_cases e : lp = c
      · rw [e, upd_same] at hlp
        cases hlp
      · cases q : H lp with
        | none => rfl
        | some o =>
          have z := (b3 _ _ e q).symm.trans hlp
          cases z
    have hnd' : (L'.map (·.2)).Nodup := (hperm.map (·.2)).nodup_iff.mpr hnd
    have hlen' : L'.length = L.length := hperm.length_eq
    have h64' : L'.length ≤ 64 := by
      rw [hlen']
      simpa using h64
    refine ⟨lp, rfl, ⟨_, SqL.of upd_same⟩, ?_⟩
    refine for_list (K := K) (a := lp) (xs := L'.map fun x => V.ref x.1) (fun i σ H' => ∃ x, σ = [some (.ref c), some (.int many), some dv, some (.ref a), x] ∧ But c H H' ∧ H' lp = some (.lst (L'.map fun x => V.ref x.1)) ∧
      H' c = some (.ins C dx (caseF many dv d)) ∧ BD P w H' d ((L'.take i).map fun x => (x.2, x.1))) ⟨none, rfl, butNew b3 hlp0 _, upd_same, ?_, ?_⟩ (fun i σ H' _ ⟨_, _, _, h, _⟩ => SqL.of h) ?_ ?_
    · have : c ≠ lp := fun z => by rw [← z, upd_same] at hlp; cases hlp
      rw [upd_ne this, upd_same]
      rfl
    · refine ⟨?_, fun z hz => by simp at hz⟩
      have : d ≠ lp := fun z => by rw [← z, upd_ne hdc, upd_same] at hlp; cases hlp
      rw [upd_ne this, upd_ne hdc, upd_same]
      rfl
    · rintro i x σ H' hx ⟨x0, rfl, b4, h4, hc4, hb4⟩
      obtain ⟨y, hy, rfl⟩ : ∃ y, L'[i]? = some y ∧ x = V.ref y.1 := by
        rw [List.getElem?_map] at hx
        cases e : L'[i]? with
        | none => rw [e] at hx; cases hx
        | some u => rw [e] at hx; exact ⟨u, rfl, (Option.some.inj hx).symm⟩
      have hi : i < L'.length := (List.getElem?_eq_some_iff.mp hy).1
      have hyL : y ∈ L := hperm.mem_iff.mp (List.mem_of_getElem? hy)
      have hyt := tupc b4 _ _ (hL y hyL)
      have hyl := hlen y.2 (List.mem_map.mpr ⟨y, hyL, rfl⟩)
      refine ⟨_, rfl, _, rfl, many, dv, _, m, f, y.2, rfl, (hdec.mono hn).keep (tupc b4), ⟨y.1, rfl, hyt⟩, hyl, fun H5 s5 => ?_⟩
      have hb5 := hb4.most (mostOf s5)
      have hnot : y.2 ∉ ((L'.take i).map fun x => (x.2, x.1)).map (·.1) := by
        rw [List.map_map]
        intro hm
        obtain ⟨z, hz, ez⟩ := List.mem_map.mp hm
        obtain ⟨j, hj⟩ := List.mem_iff_getElem?.mp hz
        have hj2 : j < i := by
          have := (List.getElem?_eq_some_iff.mp hj).1
          rw [List.length_take] at this
          omega
        rw [List.getElem?_take_of_lt hj2] at hj
        have e1 : (L'.map (·.2))[j]? = some y.2 := by rw [List.getElem?_map, hj]; exact congrArg some ez
        have e2 : (L'.map (·.2))[i]? = some y.2 := by rw [List.getElem?_map, hy]; rfl
        have := (List.getElem?_inj (by rw [List.length_map]; omega) hnd').mp (e1.trans e2.symm)
        omega
      refine ⟨_, rfl, c, C, dx, _, _, rfl, s5 _ _ hc4, T.clCase, T.na_case_rows, caseF_rows, _, rfl, d, y.1, _, y.2, rfl, rfl, s5 _ _ hyt, hb5, hnot, ?_, ?_⟩
      · rw [List.length_map, List.length_take]
        exact small1000 (by omega)
      · have h4' := s5 _ _ h4
        have hc4' := s5 _ _ hc4
        refine ⟨_, rfl, butNew (butSame b4 s5) hd0 _, ?_, ?_, ?_, fun z hz => ?_⟩
        · rw [upd_ne (ne_of h4' hb5.1 (fun z => nomatch z))]
          exact h4'
        · rw [upd_ne (ne_of hc4' hb5.1 (fun z => nomatch z))]
          exact hc4'
        · rw [upd_same, take_more hy, List.map_append]
          rfl
        · rw [take_more hy, List.map_append] at hz
          have hz2 : H5 z.2 = some (.tup (z.1.map V.bl)) := by
            rcases List.mem_append.mp hz with hz | hz
            · exact hb5.2 z hz
            · rw [List.mem_singleton.mp hz]
              exact s5 _ _ hyt
          rw [upd_ne (ne_of hz2 hb5.1 (fun z => nomatch z))]
          exact hz2
    · rintro σ H' ⟨x0, rfl, b4, h4, hc4, hb4⟩
      rw [List.length_map, List.take_length] at hb4
      have hkeys : ((L'.map fun x => (x.2, x.1)).map (·.1)) = L'.map (·.2) := by
        rw [List.map_map]
        rfl
      refine k H' (L'.map fun x => (x.2, x.1)) b4 ⟨dx, dv, d, m, hc4, (hdec.mono hn).keep (tupc b4), hb4, h1, h8, fun z hz => ?_, ?_, ?_⟩ ?_
      · obtain ⟨y, hy, rfl⟩ := List.mem_map.mp hz
        exact hlen y.2 (List.mem_map.mpr ⟨y, hperm.mem_iff.mp hy, rfl⟩)
      · rw [List.length_map]
        exact h64'
      · rw [hkeys]
        exact hnd'
      · rw [hkeys]
        exact hperm.map (·.2)
end
end EA

set_option maxHeartbeats 4000000
namespace EA
open PySem PySem.Spec PyProof.Rows L2
/-! ### pairs: the plain functions -/
def flipAt (r : Row) (i : Nat) : Row := r.take i ++ [!r.getD i false] ++ r.drop (i + 1)
def twinOk (rs : List Row) (i : Nat) (r : Row) : Bool := !r.getD i false && decide (flipAt r i ∈ rs)
def twinsIn (rs : List Row) (i : Nat) (l : List Row) : List (Row × Row) := (l.filter (twinOk rs i)).map fun r => (r, flipAt r i)
def twinsOf (rs : List Row) (i : Nat) : List (Row × Row) := twinsIn rs i rs
def pairsOf (f : An) (rs : List Row) (i : Nat) : List (Row × Row) := (twinsOf rs i).filter fun p => !decide (f p.1 = f p.2)
theorem flipAt_length {r : Row} {i : Nat} (h : i < r.length) : (flipAt r i).length = r.length := by
  unfold flipAt
  rw [List.length_append, List.length_append, List.length_take, List.length_drop, List.length_singleton]
  omega
theorem twinsIn_snoc (rs : List Row) (i : Nat) (l : List Row) (r : Row) : twinsIn rs i (l ++ [r]) = twinsIn rs i l ++ (if twinOk rs i r = true then [(r, flipAt r i)] else []) := by
  unfold twinsIn
  rw [List.filter_append, List.map_append]
  congr 1
  by_cases h : twinOk rs i r = true
  · rw [if_pos h, List.filter_cons, if_pos h]
    rfl
  · rw [if_neg h, List.filter_cons, if_neg h]
    rfl
theorem twins_in {rs : List Row} {i : Nat} : ∀ {l : List Row} {p : Row × Row}, p ∈ twinsIn rs i l → p.1 ∈ l ∧ p.2 ∈ rs ∧ p.2 = flipAt p.1 i ∧ p.1.getD i false = false := by
  intro l p h
  unfold twinsIn at h
  obtain ⟨r, hr, rfl⟩ := List.mem_map.mp h
  obtain ⟨h1, h2⟩ := List.mem_filter.mp hr
  unfold twinOk at h2
  rw [Bool.and_eq_true] at h2
  exact ⟨h1, of_decide_eq_true h2.2, rfl, by simpa using h2.1⟩
/-- a tuple of two rows -/
def PairV (H : Hp) (v : V) (p : Row × Row) : Prop := ∃ t a b, v = .ref t ∧ H t = some (.tup [a, b]) ∧ RowV H a p.1 ∧ RowV H b p.2
theorem PairV.keep {H H' : Hp} {v : V} {p : Row × Row} (k : Tups H H') (h : PairV H v p) : PairV H' v p := by
  obtain ⟨t, a, b, e, h, ha, hb⟩ := h
  exact ⟨t, a, b, e, k _ _ h, ha.keep k, hb.keep k⟩
theorem tupsLst {H : Hp} {l : Addr} {xs : List V} (h : H l = some (.lst xs)) (o : HO) : Tups H (upd H l o) := fun b ys q => by
  rw [upd_ne (ne_of q h (fun z => nomatch z))]
  exact q
/-! ### the promises -/
def spLookWish (P : Program) (w : World) (C : Addr) : Sp := fun vs H Q _ => ∃ (c : Addr) (many : Nat) (f : An) (ks : List (Row × Addr)) (i : Nat), vs = [.ref c, .int i] ∧ CaseAt P w C H c many f ks ∧ i < many ∧ Q .non H
def spTurned : Sp := fun vs H Q _ => ∃ (p : Addr) (r : Row) (i : Nat), vs = [.ref p, .int i] ∧ H p = some (.tup (r.map V.bl)) ∧ i < r.length ∧ r.length ≤ 8 ∧ ∀ (H' : Hp) (q : Addr), Same H H' → H' q = some (.tup ((flipAt r i).map V.bl)) → Q (.ref q) H'
def spTwins (P : Program) (w : World) (C : Addr) : Sp := fun vs H Q _ => ∃ (c : Addr) (many : Nat) (f : An) (ks : List (Row × Addr)) (i : Nat), vs = [.ref c, .int i] ∧ CaseAt P w C H c many f ks ∧ i < many ∧
  ∀ (H' : Hp) (l : Addr) (ps : List V), Same H H' → H' l = some (.lst ps) → Paired (PairV H') ps (twinsOf (ks.map (·.1)) i) → Q (.ref l) H'
def spPairs (P : Program) (w : World) (C : Addr) : Sp := fun vs H Q _ => ∃ (c : Addr) (many : Nat) (f : An) (ks : List (Row × Addr)) (i : Nat), vs = [.ref c, .int i] ∧ CaseAt P w C H c many f ks ∧ i < many ∧
  ∀ (H' : Hp) (l : Addr) (ps : List V), Same H H' → H' l = some (.lst ps) → Paired (PairV H') ps (pairsOf f (ks.map (·.1)) i) → Q (.ref l) H'
section
variable {P : Program} {w : World} {K : PySem.W.Frag} {mg : Str → Option Value} {base : Heap} {C B : Addr} {f : Addr} {fd : FuncData}
theorem sc30 : FnScope ["case", "wish"] ["case", "wish"] (defScope s30) := ⟨rfl, rfl, rfl, by decide +kernel, rfl, by decide +kernel, by decide +kernel⟩
theorem ok30 (T : Tx K mg C B) (F : FunD K "look_at_wish" "look_at_wish" (defArgs s30) (defBody s30) (defScope s30) [] [] f fd) (o_is_within : Own P w K mg base 2 "is_within" ["thing", "low", "high"] [] spWithin) (o_Case_many : OwnM P w K mg base 1 C "many" ["self"] (spMany P w C)) :
    FnOk P w K mg base CX0 3 f fd ["case", "wish"] (spLookWish P w C) := by
  refine ok0 F sc30 (fun vs H Q E h => ?_) (fun cdv A outer s H vs Q E hr h => ?_)
  · obtain ⟨_, _, _, _, _, rfl, _⟩ := h
    rfl
  · obtain ⟨c, many, f, ks, i, rfl, hc, hi, k⟩ := h
    refine ⟨_, (pss_one (ps_if (pt_not (pt_val (pe_own o_is_within (hr.mono (by omega)) rfl (pa_cons (pv 1) (pa_cons pe_int (pa_cons (pe_op op_sub (pe_ownM0 o_Case_many T.clCase (hr.mono (by omega)) (pv 0)) pe_int) pa_nil)))))) (pss_one ps_never) pss_nil)), ?_⟩
    obtain ⟨dx, dv, d, m, h1, _⟩ := id hc
    refine ⟨_, rfl, _, rfl, c, dx, _, rfl, h1, caseF_no (by decide +kernel) (by decide +kernel) (by decide +kernel), c, many, f, ks, rfl, hc, _, _, rfl, rfl, i, 0, _, rfl, by omega, ?_, _, rfl, ?_⟩
    · omega
    · exact iteF k
theorem turn_rest {σ : L2.St} {H' : Hp} {Q : VK} {r : Row} {i : Nat} {p q : Addr} (h0 : σ[0]? = some (some (.ref p))) (h1 : σ[1]? = some (some (.int i))) (hi : i < r.length) (h8 : r.length ≤ 8) (hp : H' p = some (.tup (r.map V.bl))) (hq : H' q = some (.tup ((r.take i ++ [!r.getD i false]).map V.bl)))
    (k : ∀ (H2 : Hp) (q : Addr), Same H' H2 → H2 q = some (.tup ((flipAt r i).map V.bl)) → Q (.ref q) H2) : tSl (rSlT K) (tVar 0) (tPart (tOp (rI0 fun i j => .int (i + j)) (tVar 1) (tC (.int 1)))) tNoPart σ H' (fun y H2 => rCatA K (.ref q) y H2 Q) := by
  have hlen : (r.map V.bl).length = r.length := List.length_map _
  have e1 : HT.sIx r.length 0 (some ((i : Int) + 1)) = i + 1 := by
    have := HT.sIx_nat r.length 0 (i + 1)
    rw [show (((i + 1 : Nat) : Int)) = (i : Int) + 1 by omega] at this
    rw [this]
    omega
  have ecut : cutV (r.map V.bl) (some ((i : Int) + 1)) none = (r.drop (i + 1)).map V.bl := by
    unfold cutV
    rw [hlen, e1, HT.sIx_none, ← List.map_drop]
    apply List.take_of_length_le
    rw [List.length_map, List.length_drop]
    exact Nat.le_refl _
  refine ⟨_, h0, _, h1, _, _, rfl, rfl, _, rfl, p, _, rfl, SqT.of hp, ?_, fun p1 hp1 => ?_⟩
  · rintro ⟨z, _⟩
    rw [hlen, e1] at z
    omega
  · have s1 := same_new hp1 (.tup (cutV (r.map V.bl) (some ((fun i j => i + j) (i : Int) 1)) none))
    refine ⟨q, p1, _, _, rfl, rfl, SqT.of (s1 _ _ hq), SqT.of upd_same, ?_, fun z => ?_, fun _ z => ?_, fun _ _ p2 hp2 => ?_⟩
    · rw [ecut, List.length_map, List.length_map, List.length_append, List.length_take, List.length_drop, List.length_singleton]
      exact small (by omega)
    · simp at z
    · rw [ecut] at z
      refine k _ q s1 ?_
      rw [s1 _ _ hq]
      unfold flipAt
      rw [List.map_eq_nil_iff.mp z, List.append_nil]
    · refine k _ p2 (s1.trans (same_new hp2 _)) ?_
      rw [upd_same]
      rw [ecut, ← List.map_append]
      rfl
theorem sc31 : FnScope ["row", "wish"] ["row", "wish"] (defScope s31) := ⟨rfl, rfl, rfl, by decide +kernel, rfl, by decide +kernel, by decide +kernel⟩
theorem ok31 (T : Tx K mg C B) (F : FunD K "turned_about" "turned_about" (defArgs s31) (defBody s31) (defScope s31) [] [] f fd) : FnOk P w K mg base CX0 1 f fd ["row", "wish"] spTurned := by
  refine ok0 F sc31 (fun vs H Q E h => ?_) (fun cdv A outer s H vs Q E hr h => ?_)
  · obtain ⟨_, _, _, rfl, _⟩ := h
    rfl
  · obtain ⟨p, r, i, rfl, hp, hi, h8, k⟩ := h
    have hlen : (r.map V.bl).length = r.length := List.length_map _
    have e1 : HT.sIx r.length r.length (some (i : Int)) = i := by
      rw [HT.sIx_nat]
      omega
    have ecut : cutV (r.map V.bl) none (some (i : Int)) = (r.take i).map V.bl := by
      unfold cutV
      rw [hlen, e1, HT.sIx_none, List.drop_zero, Nat.sub_zero, ← List.map_take]
    refine ⟨_, (pss_one (ps_ret (pe_op op_catA (pe_op op_catA (pe_slice sl_tup (pv 0) po_none (po_some (pv 1))) (pe_tup (pa_cons (pe_not (pe_ix ix_tup (pv 0) (pv 1) (fun _ _ => rfl))) pa_nil))) (pe_slice sl_tup (pv 0) (po_some (pe_op op_add (pv 1) pe_int)) po_none)))), ?_⟩
    refine ⟨_, rfl, _, rfl, _, rfl, p, _, rfl, SqT.of hp, ?_, fun p1 hp1 => ?_⟩
    · rintro ⟨_, z⟩
      rw [hlen, e1] at z
      omega
    · have s1 := same_new hp1 (.tup (cutV (r.map V.bl) none (some (i : Int))))
      refine ⟨_, rfl, _, rfl, _, _, _, _, rfl, rfl, SqT.of (s1 _ _ hp), atI_row hi, _, rfl, (by show 1 ≤ sizeLine; decide), fun p2 hp2 => ?_⟩
      have s2 := s1.trans (same_new hp2 (.tup [V.bl (!r.getD i false)]))
      have h1 := (same_new hp2 (.tup [V.bl (!r.getD i false)])) _ _ (upd_same (H := H) (a := p1) (o := .tup (cutV (r.map V.bl) none (some (i : Int)))))
      refine ⟨p1, p2, _, _, rfl, rfl, SqT.of h1, SqT.of upd_same, ?_, fun z => ?_, fun _ z => ?_, fun _ _ p3 hp3 => ?_⟩
      · rw [ecut, List.length_map, List.length_take]
        exact small (by show min i r.length + 1 ≤ 1000; omega)
      · rw [ecut] at z
        refine turn_rest (K := K) (σ := L2.start ["row", "wish"] [.ref p, .int i]) rfl rfl hi h8 (s2 _ _ hp) ?_ (fun H2 q s3 hq => k H2 q (s2.trans s3) hq)
        rw [upd_same, List.map_eq_nil_iff.mp z]
        rfl
      · cases z
      · have s3 := s2.trans (same_new hp3 (.tup (cutV (r.map V.bl) none (some (i : Int)) ++ [V.bl (!r.getD i false)])))
        refine turn_rest (K := K) (σ := L2.start ["row", "wish"] [.ref p, .int i]) rfl rfl hi h8 (s3 _ _ hp) ?_ (fun H2 q s4 hq => k H2 q (s3.trans s4) hq)
        rw [upd_same, ecut, List.map_append]
        rfl
theorem sc32 : FnScope ["case", "wish", "found", "row", "other"] ["case", "wish"] (defScope s32) := ⟨rfl, rfl, rfl, by decide +kernel, rfl, by decide +kernel, by decide +kernel⟩
theorem ok32 (T : Tx K mg C B) (F : FunD K "twins" "twins" (defArgs s32) (defBody s32) (defScope s32) [] [] f fd) (o_Case_rows : OwnM P w K mg base 1 C "rows" ["self"] (spRows P w C)) (o_turned_about : Own P w K mg base 1 "turned_about" ["row", "wish"] [] spTurned)
    (o_Case_can_be : OwnM P w K mg base 3 C "can_be" ["self", "row"] (spCanBe P w C)) : FnOk P w K mg base CX0 4 f fd ["case", "wish"] (spTwins P w C) := by
  refine ok0 F sc32 (fun vs H Q E h => ?_) (fun cdv A outer s H vs Q E hr h => ?_)
  · obtain ⟨_, _, _, _, _, rfl, _⟩ := h
    rfl
  · obtain ⟨c, many, f, ks, i, rfl, hc, hi, k⟩ := h
    refine ⟨_, (pss_cons (ps_set (i := 2) sc32.nd rfl (by first | exact Or.inl rfl | exact Or.inr rfl) (pe_lst pa_nil))
    (pss_cons (ps_for PassesOwn.never rfl (pi_list (pe_ownM0 o_Case_rows T.clCase (hr.mono (by omega)) (pv 0))) (pg_name (i := 3) sc32.nd rfl (by first | exact Or.inl rfl | exact Or.inr rfl)) (pss_cons (ps_set (i := 4) sc32.nd rfl (by first | exact Or.inl rfl | exact Or.inr rfl) (pe_own o_turned_about (hr.mono (by omega)) rfl (pa_cons (pv 3) (pa_cons (pv 1) pa_nil))))
    (pss_one (ps_if (PW.pt (pw_and (pt_not (pt_val (pe_ix ix_tup (pv 3) (pv 1) (fun _ _ => rfl)))) (pw_and1 (pt_val (pe_ownM o_Case_can_be T.clCase (hr.mono (by omega)) (pv 0) (pa_cons (pv 4) pa_nil)))))) (pss_one (ps_expr (pe_bm PySem.F.plainAttrs_list PySem.F.slot_list_append PySem.F.type_list_append mt_append (pv 2) (pa_cons (pe_tup (pa_cons (pv 3) (pa_cons (pv 4) pa_nil))) pa_nil)))) pss_nil))))
    (pss_one (ps_ret (pv 2))))), ?_⟩
    obtain ⟨dx, dv, d, m, h1, h2, h3, hm1, hm8, hkl, hk64, hknd⟩ := id hc
    refine ⟨Nat.zero_le _, fun l hl => ?_⟩
    have s1 := same_new hl (.lst [])
    refine ⟨_, rfl, c, dx, _, rfl, s1 _ _ h1, caseF_no (by decide +kernel) (by decide +kernel) (by decide +kernel), c, many, f, ks, rfl, hc.same s1, fun H2 lr s2 hlr0 hlr => ⟨lr, rfl, ⟨_, SqL.of hlr⟩, ?_⟩⟩
    have s12 := s1.trans s2
    have hl2 := s2 _ _ (upd_same (H := H) (a := l) (o := .lst []))
    have hne : lr ≠ l := fun z => by rw [z, upd_same] at hlr0; cases hlr0
    have hrows : ∀ k ∈ ks, k.1.length = many := hkl
    refine for_list (K := K) (a := lr) (xs := ks.map fun k => V.ref k.2) (fun j σ H' => ∃ x y ps, σ = [some (.ref c), some (.int i), some (.ref l), x, y] ∧ Same H H' ∧ H' lr = some (.lst (ks.map fun k => V.ref k.2)) ∧ H' l = some (.lst ps) ∧ ps.length ≤ j ∧
      Paired (PairV H') ps (twinsIn (ks.map (·.1)) i ((ks.map (·.1)).take j))) ⟨none, none, [], rfl, s12, hlr, hl2, Nat.le_refl _, .nil⟩ (fun j σ H' _ ⟨_, _, _, _, _, h, _⟩ => SqL.of h) ?_ ?_
    · rintro j x σ H' hx ⟨x0, y0, ps, rfl, s3, hlr3, hl3, hpl, hps⟩
      obtain ⟨kk, hkk, rfl⟩ : ∃ y, ks[j]? = some y ∧ x = V.ref y.2 := by
        rw [List.getElem?_map] at hx
        cases e : ks[j]? with
        | none => rw [e] at hx; cases hx
        | some u => rw [e] at hx; exact ⟨u, rfl, (Option.some.inj hx).symm⟩
      have hj : j < ks.length := (List.getElem?_eq_some_iff.mp hkk).1
      have hmem : kk ∈ ks := List.mem_of_getElem? hkk
      have hkt := s3 _ _ (h3.2 kk hmem)
      have hkl1 := hkl kk hmem
      have hkr : (ks.map (·.1))[j]? = some kk.1 := by rw [List.getElem?_map, hkk]; rfl
      refine ⟨_, rfl, _, rfl, kk.2, kk.1, i, rfl, hkt, by omega, by omega, fun H4 q s4 hq => ?_⟩
      have s34 := s3.trans s4
      refine ⟨_, rfl, _, rfl, _, _, _, _, rfl, rfl, SqT.of (s4 _ _ hkt), atI_row (by omega), _, rfl, ?_⟩
      have done : ∀ (H5 : Hp) (s5 : Same H4 H5) (e : twinOk (ks.map (·.1)) i kk.1 = false), ∃ x y ps, [some (V.ref c), some (V.int i), some (V.ref l), some (V.ref kk.2), some (V.ref q)] = [some (V.ref c), some (V.int i), some (V.ref l), x, y] ∧ Same H H5 ∧ H5 lr = some (.lst (ks.map fun k => V.ref k.2)) ∧ H5 l = some (.lst ps) ∧ ps.length ≤ j + 1 ∧
          Paired (PairV H5) ps (twinsIn (ks.map (·.1)) i ((ks.map (·.1)).take (j + 1))) := fun H5 s5 e => by
        refine ⟨_, _, ps, rfl, s34.trans s5, (s4.trans s5) _ _ hlr3, (s4.trans s5) _ _ hl3, Nat.le_succ_of_le hpl, ?_⟩
        rw [take_more hkr, twinsIn_snoc, e]
        rw [if_neg (by decide), List.append_nil]
        exact pImp hps fun _ _ z => z.keep (tupsOf (s4.trans s5))
      refine ite2 (fun c1 => ?_) (fun c1 => ?_)
      · refine ⟨_, rfl, c, dx, _, rfl, s34 _ _ h1, caseF_no (by decide +kernel) (by decide +kernel) (by decide +kernel), _, rfl, c, many, f, ks, _, flipAt kk.1 i, rfl, hc.same s34, ⟨q, rfl, hq⟩, by rw [flipAt_length (by omega)]; exact hkl1, fun H5 s5 => ⟨_, rfl, ?_⟩⟩
        refine ite2 (fun c2 => ?_) (fun c2 => ?_)
        · have e : twinOk (ks.map (·.1)) i kk.1 = true := by
            unfold twinOk
            rw [Bool.and_eq_true]
            exact ⟨c1, c2⟩
          have hl5 := s5 _ _ (s4 _ _ hl3)
          refine ⟨_, rfl, .inl ⟨rfl, _, SqL.of hl5⟩, _, rfl, _, rfl, (by show 2 ≤ sizeLine; decide), fun t ht => ?_⟩
          have s6 := same_new ht (.tup [V.ref kk.2, V.ref q])
          have hl6 := s6 _ _ hl5
          have hlz : H l = none := hl
          refine ⟨l, ps, _, rfl, rfl, hl6, small1000 (by omega), ?_⟩
          have tk : Tups H5 (upd (upd H5 t (.tup [V.ref kk.2, V.ref q])) l (.lst (ps ++ [.ref t]))) := (tupsOf s6).trans (tupsLst hl6 _)
          refine ⟨_, _, ps ++ [.ref t], rfl, same_upd ((s34.trans s5).trans s6) hlz _, ?_, upd_same, ?_, ?_⟩
          · rw [upd_ne hne]
            exact s6 _ _ (s5 _ _ (s4 _ _ hlr3))
          · rw [List.length_append, List.length_singleton]
            omega
          · rw [take_more hkr, twinsIn_snoc, e, if_pos rfl]
            refine pApp (pImp hps fun _ _ z => z.keep ((tupsOf (s4.trans s5)).trans tk)) (.cons ⟨t, _, _, rfl, tupsLst hl6 _ _ _ upd_same, ⟨kk.2, rfl, tk _ _ (s5 _ _ (s4 _ _ hkt))⟩, ⟨q, rfl, tk _ _ (s5 _ _ hq)⟩⟩ .nil)
        · refine done H5 s5 ?_
          unfold twinOk
          rw [Bool.eq_false_iff.mpr c2, Bool.and_false]
      · refine done H4 (Same.refl _) ?_
        unfold twinOk
        rw [Bool.eq_false_iff.mpr c1, Bool.false_and]
    · rintro σ H' ⟨x0, y0, ps, rfl, s3, hlr3, hl3, hpl, hps⟩
      refine ⟨_, rfl, ?_⟩
      rw [List.length_map, List.take_of_length_le (by rw [List.length_map]; exact Nat.le_refl _)] at hps
      exact k H' l ps s3 hl3 hps
theorem sc33 : FnScope ["case", "wish", "one", "other"] ["case", "wish"] (defScope s33) := ⟨rfl, rfl, rfl, by decide +kernel, rfl, by decide +kernel, by decide +kernel⟩
theorem ok33 (T : Tx K mg C B) (F : FunD K "pairs" "pairs" (defArgs s33) (defBody s33) (defScope s33) [] [] f fd) (o_look_at_wish : Own P w K mg base 3 "look_at_wish" ["case", "wish"] [] (spLookWish P w C)) (o_twins : Own P w K mg base 4 "twins" ["case", "wish"] [] (spTwins P w C))
    (o_Case_answer : OwnM P w K mg base 25 C "answer" ["self", "row"] (spCaseAns P w C)) : FnOk P w K mg base CX0 26 f fd ["case", "wish"] (spPairs P w C) := by
  refine ok0 F sc33 (fun vs H Q E h => ?_) (fun cdv A outer s H vs Q E hr h => ?_)
  · obtain ⟨_, _, _, _, _, rfl, _⟩ := h
    rfl
  · obtain ⟨c, many, f, ks, i, rfl, hc, hi, k⟩ := h
    refine ⟨_, (pss_cons (ps_expr (pe_own o_look_at_wish (hr.mono (by omega)) rfl (pa_cons (pv 0) (pa_cons (pv 1) pa_nil))))
    (pss_one (ps_ret (pe_lc (g := gTup K 2 (gCons (gName 2) (gCons (gName 3) gNil))) (own := [("one", 2), ("other", 3)]) rfl sc33.nd (pi_list (pe_own o_twins (hr.mono (by omega)) rfl (pa_cons (pv 0) (pa_cons (pv 1) pa_nil)))) (blkOk_by (N := ["case", "wish", "one", "other"]) (sc := defScope s33) (by decide +kernel)) (fun _ _ _ _ _ => (pg_tup rfl (pgs_cons (pg_name (i := 2) sc33.nd rfl (by first | exact Or.inl rfl | exact Or.inr rfl)) (pgs_cons (pg_name (i := 3) sc33.nd rfl (by first | exact Or.inl rfl | exact Or.inr rfl)) pgs_nil)))) (fun _ _ _ _ _ => (pts_one (pt_cmpR op_ne (pe_ownM o_Case_answer T.clCase (hr.mono (by omega)) (pv 0) (pa_cons (pv 2) pa_nil)) (pe_ownM o_Case_answer T.clCase (hr.mono (by omega)) (pv 0) (pa_cons (pv 3) pa_nil)) (nomark _)))) (fun _ _ _ _ _ => (pe_tup (pa_cons (pv 2) (pa_cons (pv 3) pa_nil)))))))), ?_⟩
    obtain ⟨dx, dv, d, m, h1, h2, h3, hm1, hm8, hkl, hk64, hknd⟩ := id hc
    refine ⟨_, rfl, _, rfl, c, many, f, ks, i, rfl, hc, hi, ?_⟩
    refine ⟨_, rfl, _, rfl, c, many, f, ks, i, rfl, hc, hi, fun H1 lt ps s1 hlt hps => ⟨lt, rfl, ⟨_, SqL.of hlt⟩, fun D hD => ?_⟩⟩
    have s2 := s1.trans (same_new hD (.lst []))
    have hD0 : H D = none := s1.free hD
    have hltD : lt ≠ D := fun z => by rw [z, hD] at hlt; cases hlt
    refine lc_list (K := K) (a := lt) (xs := ps) (fun j H' => ∃ qs, Same H H' ∧ H' lt = some (.lst ps) ∧ H' D = some (.lst qs) ∧ qs.length ≤ j ∧ Paired (PairV H') ps (twinsOf (ks.map (·.1)) i) ∧ Paired (PairV H') qs (((twinsOf (ks.map (·.1)) i).take j).filter fun p => !decide (f p.1 = f p.2)))
      ⟨[], s2, (same_new hD _) _ _ hlt, upd_same, Nat.le_refl _, pImp hps fun _ _ z => z.keep (tupsOf (same_new hD _)), .nil⟩ (fun j H' _ ⟨_, _, h, _⟩ => SqL.of h) ?_ ?_
    · rintro j x H' hx ⟨qs, s3, hlt3, hD3, hql, hps3, hqs3⟩
      obtain ⟨p, hp, t, a, b, rfl, ht, ha, hb⟩ := pAt hps3 hx
      have hpm := twins_in (List.mem_of_getElem? hp)
      have hl1 : p.1.length = many := by
        obtain ⟨z, hz, ez⟩ := List.mem_map.mp hpm.1
        rw [← ez]
        exact hkl z hz
      have hl2 : p.2.length = many := by
        rw [hpm.2.2.1, flipAt_length (by omega)]
        exact hl1
      have hjl : j < ps.length := (List.getElem?_eq_some_iff.mp hx).1
      refine ⟨t, _, rfl, SqT.of ht, rfl, _, _, rfl, _, _, rfl, rfl, rfl, ?_⟩
      refine ⟨_, rfl, c, dx, _, rfl, s3 _ _ h1, caseF_no (by decide +kernel) (by decide +kernel) (by decide +kernel), _, rfl, c, many, f, ks, _, p.1, rfl, hc.same s3, ha, hl1, fun H4 s4 => ?_⟩
      refine ⟨_, rfl, c, dx, _, rfl, s4 _ _ (s3 _ _ h1), caseF_no (by decide +kernel) (by decide +kernel) (by decide +kernel), _, rfl, c, many, f, ks, _, p.2, rfl, hc.same (s3.trans s4), hb.keep (tupsOf s4), hl2, fun H5 s5 => ?_⟩
      refine ⟨rfl, _, rfl, ?_⟩
      have s45 := s4.trans s5
      have eb : (!decide (V.bl (f p.1) = V.bl (f p.2))) = !decide (f p.1 = f p.2) := by
        congr 1
        exact decide_eq_decide.mpr ⟨fun z => V.bl.inj z, fun z => by rw [z]⟩
      have efil : ((twinsOf (ks.map (·.1)) i).take (j + 1)).filter (fun p => !decide (f p.1 = f p.2)) = (((twinsOf (ks.map (·.1)) i).take j).filter fun p => !decide (f p.1 = f p.2)) ++ (if (!decide (f p.1 = f p.2)) = true then [p] else []) := by
        rw [take_more hp, List.filter_append]
        congr 1
        rw [List.filter_cons]
        rfl
      refine iteB eb (ite2 (fun c1 => ?_) (fun c1 => ?_))
      · refine ⟨_, rfl, _, rfl, (by show 2 ≤ sizeLine; decide), fun T1 hT1 => ?_⟩
        have s6 := same_new hT1 (.tup [a, b])
        have s46 := s45.trans s6
        have hD6 := s46 _ _ hD3
        have tk : Tups H' (upd (upd H5 T1 (.tup [a, b])) D (.lst (qs ++ [.ref T1]))) := (tupsOf s46).trans (tupsLst hD6 _)
        refine ⟨qs, hD6, small1000 ?_, qs ++ [.ref T1], same_upd (s3.trans s46) hD0 _, ?_, upd_same, ?_, pImp hps3 fun _ _ z => z.keep tk, ?_⟩
        · have e := pLen hps3
          have : ps.length ≤ 64 := by
            rw [e]
            unfold twinsOf twinsIn
            rw [List.length_map]
            refine Nat.le_trans (List.length_filter_le _ _) ?_
            rw [List.length_map]
            exact hk64
          omega
        · rw [upd_ne hltD]
          exact s46 _ _ hlt3
        · rw [List.length_append, List.length_singleton]
          omega
        · rw [efil, if_pos c1]
          exact pApp (pImp hqs3 fun _ _ z => z.keep tk) (.cons ⟨T1, a, b, rfl, tupsLst hD6 _ _ _ upd_same, ha.keep tk, hb.keep tk⟩ .nil)
      · refine ⟨qs, s3.trans s45, s45 _ _ hlt3, s45 _ _ hD3, Nat.le_succ_of_le hql, pImp hps3 fun _ _ z => z.keep (tupsOf s45), ?_⟩
        rw [efil, if_neg c1, List.append_nil]
        exact pImp hqs3 fun _ _ z => z.keep (tupsOf s45)
    · rintro H' ⟨qs, s3, hlt3, hD3, hql, hps3, hqs3⟩
      rw [List.take_of_length_le (by rw [← pLen hps3]; exact Nat.le_refl _)] at hqs3
      exact k H' D qs s3 hD3 hqs3
end
end EA

set_option maxHeartbeats 4000000
namespace EA
open PySem PySem.Spec PyProof.Rows L2
theorem not_in_take {α : Type} [BEq α] {rs : List α} {i : Nat} {r : α} (hnd : rs.Nodup) (h : rs[i]? = some r) : r ∉ rs.take i := by
  intro hm
  obtain ⟨j, hj⟩ := List.mem_iff_getElem?.mp hm
  have hi := (List.getElem?_eq_some_iff.mp h).1
  have hj2 : j < i := by
    have := (List.getElem?_eq_some_iff.mp hj).1
    rw [List.length_take] at this
    omega
  rw [List.getElem?_take_of_lt hj2] at hj
  have := (List.getElem?_inj (by omega) hnd).mp (hj.trans h.symm)
  omega
theorem pairsOf_length (f : An) (rs : List Row) (i : Nat) : (pairsOf f rs i).length ≤ rs.length := by
  unfold pairsOf twinsOf twinsIn
  refine Nat.le_trans (List.length_filter_le _ _) ?_
  rw [List.length_map]
  exact List.length_filter_le _ _
theorem pairs_in {f : An} {rs : List Row} {i : Nat} {p : Row × Row} (h : p ∈ pairsOf f rs i) : p.1 ∈ rs ∧ p.2 ∈ rs ∧ p.2 = flipAt p.1 i ∧ p.1.getD i false = false := by
  unfold pairsOf at h
  exact twins_in (List.mem_filter.mp h).1
def bothIn (rs : List Row) (p : Row × Row) : Bool := decide (p.1 ∈ rs) && decide (p.2 ∈ rs)
def shownW (f : An) (cr rs : List Row) (many : Nat) : List Nat := (List.range many).filter fun i => (pairsOf f cr i).any (bothIn rs)
theorem bookF_no {m : Str} {v : V} (h : ¬ m = "own_rows") : List.lookup m [(("own_rows" : Str), v)] = none := by
  have e := lookup_putF "own_rows" m v []
  rw [if_neg h] at e
  exact e
/-- a book with these rows stands at b -/
def BookAt (B : Addr) (H : Hp) (b : Addr) (rs : List Row) : Prop := ∃ dx l rvs, H b = some (.ins B dx [(("own_rows" : Str), V.ref l)]) ∧ H l = some (.lst rvs) ∧ RowsV H rvs rs ∧ rs.length ≤ 64
theorem BookAt.same {B : Addr} {H H' : Hp} {b : Addr} {rs : List Row} (h : BookAt B H b rs) (s : Same H H') : BookAt B H' b rs := by
  obtain ⟨dx, l, rvs, h1, h2, h3, h4⟩ := h
  exact ⟨dx, l, rvs, s _ _ h1, s _ _ h2, RowsV.keep (tupsOf s) h3, h4⟩
/-! ### the promises -/
def spLookBook (P : Program) (w : World) (C : Addr) : Sp := fun vs H Q _ => ∃ (c : Addr) (many : Nat) (f : An) (ks : List (Row × Addr)) (a : Addr) (rvs : List V) (rs : List Row), vs = [.ref c, .ref a] ∧ CaseAt P w C H c many f ks ∧ H a = some (.lst rvs) ∧ RowsV H rvs rs ∧ (∀ r ∈ rs, r ∈ ks.map (·.1)) ∧ rs.Nodup ∧ rs.length ≤ 64 ∧
  ∀ H', Same H H' → Q .non H'
def spBookInit (P : Program) (w : World) (C B : Addr) : Sp := fun vs H Q _ => ∃ (b dx : Addr) (c : Addr) (many : Nat) (f : An) (ks : List (Row × Addr)) (a : Addr) (rvs : List V) (rs : List Row), vs = [.ref b, .ref c, .ref a] ∧ H b = some (.ins B dx []) ∧ CaseAt P w C H c many f ks ∧ H a = some (.lst rvs) ∧ RowsV H rvs rs ∧ (∀ r ∈ rs, r ∈ ks.map (·.1)) ∧ rs.Nodup ∧ rs.length ≤ 64 ∧
  ∀ H', But b H H' → BookAt B H' b rs → Q .non H'
def spBookLen (B : Addr) : Sp := fun vs H Q _ => ∃ (b : Addr) (rs : List Row), vs = [.ref b] ∧ BookAt B H b rs ∧ Q (.int (rs.length : Nat)) H
def spBookRows (B : Addr) : Sp := fun vs H Q _ => ∃ (b : Addr) (rs : List Row), vs = [.ref b] ∧ BookAt B H b rs ∧ ∀ (H' : Hp) (l : Addr) (rvs : List V), Same H H' → H l = none → H' l = some (.lst rvs) → RowsV H' rvs rs → Q (.ref l) H'
def spPairsBy (P : Program) (w : World) (C : Addr) : Sp := fun vs H Q _ => ∃ (c : Addr) (many : Nat) (f : An) (ks : List (Row × Addr)) (i : Nat), vs = [.ref c, .int i, .bl false] ∧ CaseAt P w C H c many f ks ∧ i < many ∧
  ∀ (H' : Hp) (l : Addr) (ps : List V), Same H H' → H' l = some (.lst ps) → Paired (PairV H') ps (pairsOf f (ks.map (·.1)) i) → Q (.ref l) H'
def spHasPair : Sp := fun vs H Q _ => ∃ (l a : Addr) (ps : List V) (prs : List (Row × Row)) (rvs : List V) (rs : List Row), vs = [.ref l, .ref a] ∧ H l = some (.lst ps) ∧ Paired (PairV H) ps prs ∧ prs.length ≤ 64 ∧ H a = some (.lst rvs) ∧ RowsV H rvs rs ∧
  ∀ H', Same H H' → Q (.bl (prs.any (bothIn rs))) H'
def spShown (P : Program) (w : World) (C B : Addr) : Sp := fun vs H Q _ => ∃ (c b : Addr) (many : Nat) (f : An) (ks : List (Row × Addr)) (rs : List Row), vs = [.ref c, .ref b, .bl false] ∧ CaseAt P w C H c many f ks ∧ BookAt B H b rs ∧
  ∀ (H' : Hp) (l : Addr), Same H H' → H l = none → H' l = some (.lst ((shownW f (ks.map (·.1)) rs many).map fun (i : Nat) => V.int i)) → Q (.ref l) H'
section
variable {P : Program} {w : World} {K : PySem.W.Frag} {mg : Str → Option Value} {base : Heap} {C B : Addr} {f : Addr} {fd : FuncData}
theorem sc39 : FnScope ["case", "rows", "place", "row"] ["case", "rows"] (defScope s39) := ⟨rfl, rfl, rfl, by decide +kernel, rfl, by decide +kernel, by decide +kernel⟩
theorem ok39 (T : Tx K mg C B) (F : FunD K "look_at_rows" "look_at_rows" (defArgs s39) (defBody s39) (defScope s39) [] [] f fd) (o_is_row : Own P w K mg base 1 "is_row" ["thing", "many"] [] spIsRow) (o_Case_many : OwnM P w K mg base 1 C "many" ["self"] (spMany P w C))
    (o_Case_can_be : OwnM P w K mg base 3 C "can_be" ["self", "row"] (spCanBe P w C)) : FnOk P w K mg base CX0 4 f fd ["case", "rows"] (spLookBook P w C) := by
  refine ok0 F sc39 (fun vs H Q E h => ?_) (fun cdv A outer s H vs Q E hr h => ?_)
  · obtain ⟨_, _, _, _, _, _, _, rfl, _⟩ := h
    rfl
  · obtain ⟨c, many, f, ks, a, rvs, rs, rfl, hc, ha, hrs, hin, hnd, h64, k⟩ := h
    obtain ⟨dx, dv, d, m, h1, h2, h3, hm1, hm8, hkl, hk64, hknd⟩ := id hc
    refine ⟨_, (pss_cons (ps_if (pt_not (pt_val (pe_callB call_isi (by rfl) T.f_isinstance (by decide +kernel) (pa_cons (pv 1) (pa_cons (pe_bltn (v := .ty "list") (u := .type "list") (by rfl) T.f_list (by decide +kernel) rfl) pa_nil))))) (pss_one ps_never) pss_nil)
    (pss_one (ps_for PassesOwn.never rfl (pi_enum (by rfl) T.f_enumerate (pa_cons (pv 1) pa_nil)) (pg_tup rfl (pgs_cons (pg_name (i := 2) sc39.nd rfl (by first | exact Or.inl rfl | exact Or.inr rfl)) (pgs_cons (pg_name (i := 3) sc39.nd rfl (by first | exact Or.inl rfl | exact Or.inr rfl)) pgs_nil))) (pss_one (ps_if (PW.pt (pw_or (pt_not (pt_val (pe_own o_is_row (hr.mono (by omega)) rfl (pa_cons (pv 3) (pa_cons (pe_ownM0 o_Case_many T.clCase (hr.mono (by omega)) (pv 0)) pa_nil))))) (pw_or (pt_not (pt_val (pe_ownM o_Case_can_be T.clCase (hr.mono (by omega)) (pv 0) (pa_cons (pv 3) pa_nil)))) (pw_or1 (pt_cmpR (op_inD (hu65 hr)) (pv 3) (pe_slice sl_list (pv 1) po_none (po_some (pv 2))) (by with_unfolding_all rfl)))))) (pss_one ps_never) pss_nil))))), ?_⟩
    refine ⟨_, rfl, _, _, _, _, true, rfl, .ty _, .base (.lst ha), kit_ty (by decide +kernel), _, rfl, ?_⟩
    refine iteF ?_
    refine ⟨_, rfl, a, rvs, rfl, SqL.of ha, ?_⟩
    refine for_enum (K := K) (a := a) (xs := rvs) (fun i σ H' => ∃ x y, σ = [some (.ref c), some (.ref a), x, y] ∧ Same H H') ⟨none, none, rfl, Same.refl _⟩ (fun i σ H' _ ⟨_, _, _, s3⟩ => SqL.of (s3 _ _ ha)) ?_ ?_
    · rintro i x T2 σ H' hx ⟨x0, y0, rfl, s3⟩ hT2
      obtain ⟨r, hrx, p, rfl, hp⟩ := pAt hrs hx
      have hrm : r ∈ rs := List.mem_of_getElem? hrx
      have hrl : r.length = many := by
        obtain ⟨z, hz, ez⟩ := List.mem_map.mp (hin r hrm)
        rw [← ez]
        exact hkl z hz
      have s4 := s3.trans (same_new hT2 (.tup [V.int (i : Nat), .ref p]))
      refine ⟨T2, _, rfl, SqT.of upd_same, rfl, _, _, rfl, _, _, rfl, rfl, ?_⟩
      refine ⟨_, rfl, _, rfl, c, dx, _, rfl, s4 _ _ h1, caseF_no (by decide +kernel) (by decide +kernel) (by decide +kernel), c, many, f, ks, rfl, hc.same s4, p, r, by rw [hrl]; rfl, by omega, s4 _ _ hp, fun H5 s5 => ⟨_, rfl, ?_⟩⟩
      refine iteF ?_
      have s45 := s4.trans s5
      refine ⟨_, rfl, c, dx, _, rfl, s45 _ _ h1, caseF_no (by decide +kernel) (by decide +kernel) (by decide +kernel), _, rfl, c, many, f, ks, _, r, rfl, hc.same s45, ⟨p, rfl, s45 _ _ hp⟩, hrl, fun H6 s6 => ⟨_, rfl, ?_⟩⟩
      refine iteB (c := false) (by rw [decide_eq_true (hin r hrm)]; rfl) (iteF ?_)
      have s46 := s45.trans s6
      refine ⟨_, rfl, _, rfl, _, rfl, _, rfl, a, rvs, rfl, SqL.of (s46 _ _ ha), fun p2 hp2 => ?_⟩
      have ecut : cutV rvs none (some (i : Int)) = rvs.take i := by
        unfold cutV
        rw [HT.sIx_none, HT.sIx_nat, List.drop_zero, Nat.sub_zero]
        have := (List.getElem?_eq_some_iff.mp hx).1
        rw [Nat.min_eq_left (by omega)]
      have qcut : RowsV H (cutV rvs none (some (i : Int))) (rs.take i) := by
        rw [ecut]
        exact pTk i hrs
      have s7 := s46.trans (same_new hp2 (.lst (cutV rvs none (some (i : Int)))))
      refine ⟨_, _, RowV.dp ⟨p, rfl, s7 _ _ hp⟩, RowsV.dp (rs := rs.take i) upd_same (RowsV.keep (tupsOf s7) qcut), rowD_shaped r, rowDs_shaped _, _, rfl, ?_⟩
      refine iteB (c := false) ?_ (iteF ⟨_, _, rfl, s7⟩)
      rw [rows_any]
      exact decide_eq_false (not_in_take hnd hrx)
    · rintro σ H' ⟨x0, y0, rfl, s3⟩
      exact k _ s3
theorem sc41_0 : FnScope ["self", "case", "rows"] ["self", "case", "rows"] (defScope s41_0) := ⟨rfl, rfl, rfl, by decide +kernel, rfl, by decide +kernel, by decide +kernel⟩
theorem ok41_0 (T : Tx K mg C B) (F : FunD K "__init__" "Book.__init__" (defArgs s41_0) (defBody s41_0) (defScope s41_0) [] [] f fd) (o_look_at_rows_books : Own P w K mg base 4 "look_at_rows_books" ["case", "rows"] [] (spLookBook P w C)) :
    FnOk P w K mg base CX0 5 f fd ["self", "case", "rows"] (spBookInit P w C B) := by
  refine ok0 F sc41_0 (fun vs H Q E h => ?_) (fun cdv A outer s H vs Q E hr h => ?_)
  · obtain ⟨_, _, _, _, _, _, _, _, _, rfl, _⟩ := h
    rfl
  · obtain ⟨b, dx, c, many, f, ks, a, rvs, rs, rfl, hb, hc, ha, hrs, hin, hnd, h64, k⟩ := h
    refine ⟨_, (pss_cons (ps_expr (pe_own o_look_at_rows_books (hr.mono (by omega)) rfl (pa_cons (pv 1) (pa_cons (pv 2) pa_nil))))
    (pss_one (ps_fld (pv 0) (pe_callTy call_list_of (by rfl) T.f_list (by decide +kernel) (pa_cons (pv 2) pa_nil)) rfl))), ?_⟩
    refine ⟨_, rfl, _, rfl, c, many, f, ks, a, rvs, rs, rfl, hc, ha, hrs, hin, hnd, h64, fun H1 s1 => ?_⟩
    refine ⟨_, rfl, a, rvs, rfl, .inl (SqL.of (s1 _ _ ha)), fun l hl => ?_⟩
    have s2 := s1.trans (same_new hl (.lst rvs))
    refine ⟨_, rfl, b, B, dx, _, rfl, s2 _ _ hb, T.clBook, T.na_own_rows, (by show 0 < 1000; decide), ?_⟩
    have hlb : l ≠ b := fun z => by rw [z, s1 _ _ hb] at hl; cases hl
    refine k _ (butAt (fun x o _ q => s2 x o q) _) ⟨dx, l, rvs, upd_same, by rw [upd_ne hlb, upd_same], RowsV.keep (H := H) (fun x xs q => ?_) hrs, h64⟩
    rw [upd_ne (ne_of q hb (fun z => nomatch z))]
    exact s2 _ _ q
theorem sc41_1 : FnScope ["self"] ["self"] (defScope s41_1) := ⟨rfl, rfl, rfl, by decide +kernel, rfl, by decide +kernel, by decide +kernel⟩
theorem ok41_1 (T : Tx K mg C B) (F : FunD K "__len__" "Book.__len__" (defArgs s41_1) (defBody s41_1) (defScope s41_1) [] [] f fd) : FnOk P w K mg base CX0 1 f fd ["self"] (spBookLen B) := by
  refine ok0 F sc41_1 (fun vs H Q E h => ?_) (fun cdv A outer s H vs Q E hr h => ?_)
  · obtain ⟨_, _, rfl, _⟩ := h
    rfl
  · obtain ⟨b, rs, rfl, ⟨dx, l, rvs, h1, h2, h3, h4⟩, k⟩ := h
    refine ⟨_, (pss_one (ps_ret (pe_callB call_len_seq (by rfl) T.f_len (by decide +kernel) (pa_cons (pe_fld (pv 0) rfl) pa_nil)))), ?_⟩
    refine ⟨_, rfl, b, B, dx, _, _, rfl, h1, T.clBook, T.na_own_rows, (by simp [List.lookup]), l, rvs, rfl, .inl (SqL.of h2), ?_⟩
    exact qi (Q := Q) (by rw [pLen h3]) k
theorem sc41_5 : FnScope ["self"] ["self"] (defScope s41_5) := ⟨rfl, rfl, rfl, by decide +kernel, rfl, by decide +kernel, by decide +kernel⟩
theorem ok41_5 (T : Tx K mg C B) (F : FunD K "rows" "Book.rows" (defArgs s41_5) (defBody s41_5) (defScope s41_5) [] [] f fd) : FnOk P w K mg base CX0 1 f fd ["self"] (spBookRows B) := by
  refine ok0 F sc41_5 (fun vs H Q E h => ?_) (fun cdv A outer s H vs Q E hr h => ?_)
  · obtain ⟨_, _, rfl, _⟩ := h
    rfl
  · obtain ⟨b, rs, rfl, ⟨dx, l, rvs, h1, h2, h3, h4⟩, k⟩ := h
    refine ⟨_, (pss_one (ps_ret (pe_callTy call_list_of (by rfl) T.f_list (by decide +kernel) (pa_cons (pe_fld (pv 0) rfl) pa_nil)))), ?_⟩
    refine ⟨_, rfl, b, B, dx, _, _, rfl, h1, T.clBook, T.na_own_rows, (by simp [List.lookup]), l, rvs, rfl, .inl (SqL.of h2), fun l2 hl2 => ?_⟩
    exact k _ l2 rvs (same_new hl2 _) hl2 upd_same (RowsV.keep (tupsOf (same_new hl2 _)) h3)
theorem sc42 : FnScope ["case", "wish", "loosely"] ["case", "wish", "loosely"] (defScope s42) := ⟨rfl, rfl, rfl, by decide +kernel, rfl, by decide +kernel, by decide +kernel⟩
theorem ok42 (T : Tx K mg C B) (F : FunD K "pairs_by" "pairs_by" (defArgs s42) (defBody s42) (defScope s42) [] [] f fd) (o_pairs : Own P w K mg base 26 "pairs" ["case", "wish"] [] (spPairs P w C)) : FnOk P w K mg base CX0 27 f fd ["case", "wish", "loosely"] (spPairsBy P w C) := by
  refine ok0 F sc42 (fun vs H Q E h => ?_) (fun cdv A outer s H vs Q E hr h => ?_)
  · obtain ⟨_, _, _, _, _, rfl, _⟩ := h
    rfl
  · obtain ⟨c, many, f, ks, i, rfl, hc, hi, k⟩ := h
    refine ⟨_, (pss_cons (ps_if (pt_val (pv 2)) (pss_one ps_never) pss_nil)
    (pss_one (ps_ret (pe_own o_pairs (hr.mono (by omega)) rfl (pa_cons (pv 0) (pa_cons (pv 1) pa_nil)))))), ?_⟩
    refine ⟨_, rfl, _, rfl, ?_⟩
    refine iteF ?_
    exact ⟨_, rfl, _, rfl, c, many, f, ks, i, rfl, hc, hi, k⟩
theorem sc43 : FnScope ["some", "rows", "one", "other"] ["some", "rows"] (defScope s43) := ⟨rfl, rfl, rfl, by decide +kernel, rfl, by decide +kernel, by decide +kernel⟩
theorem ok43 (T : Tx K mg C B) (F : FunD K "has_pair" "has_pair" (defArgs s43) (defBody s43) (defScope s43) [] [] f fd) : FnOk P w K mg base CX0 1 f fd ["some", "rows"] spHasPair := by
  refine ok0 F sc43 (fun vs H Q E h => ?_) (fun cdv A outer s H vs Q E hr h => ?_)
  · obtain ⟨_, _, _, _, _, _, rfl, _⟩ := h
    rfl
  · obtain ⟨l, a, ps, prs, rvs, rs, rfl, hl, hps, h64, ha, hrs, k⟩ := h
    refine ⟨_, (pss_one (ps_ret (pe_callB (cr_any rfl) (by rfl) T.f_any (by decide +kernel) (pa_cons (pe_lc (g := gTup K 2 (gCons (gName 2) (gCons (gName 3) gNil))) (own := [("one", 2), ("other", 3)]) rfl sc43.nd (pi_list (pv 0)) (blkOk_by (N := ["some", "rows", "one", "other"]) (sc := defScope s43) (by decide +kernel)) (fun _ _ _ _ _ => (pg_tup rfl (pgs_cons (pg_name (i := 2) sc43.nd rfl (by first | exact Or.inl rfl | exact Or.inr rfl)) (pgs_cons (pg_name (i := 3) sc43.nd rfl (by first | exact Or.inl rfl | exact Or.inr rfl)) pgs_nil)))) (fun _ _ _ _ _ => pts_nil) (fun _ _ _ _ _ => (pe_and (pe_cmpR (r := rInD K) (op_inD (hu65 hr)) (pv 2) (pv 1) (by with_unfolding_all rfl)) (pe_one (pe_cmpR (r := rInD K) (op_inD (hu65 hr)) (pv 3) (pv 1) (by with_unfolding_all rfl)))))) pa_nil)))), ?_⟩
    refine ⟨_, rfl, l, rfl, ⟨_, SqL.of hl⟩, fun D hD => ?_⟩
    refine lc_list (K := K) (a := l) (xs := ps) (fun j H' => Same H H' ∧ H' D = some (.lst (((prs.take j).map (bothIn rs)).map V.bl))) ⟨same_new hD _, upd_same⟩ (fun j H' _ h => SqL.of (h.1 _ _ hl)) ?_ ?_
    · rintro j x H' hx ⟨s1, h1⟩
      obtain ⟨p, hp, t, x1, x2, rfl, ht, hx1, hx2⟩ := pAt hps hx
      have hj : j < ps.length := (List.getElem?_eq_some_iff.mp hx).1
      have e64 := pLen hps
      refine ⟨t, _, rfl, SqT.of (s1 _ _ ht), rfl, _, _, rfl, _, _, rfl, rfl, rfl, ?_⟩
      have dl := RowsV.dp (K := K) (s1 _ _ ha) (RowsV.keep (tupsOf s1) hrs)
      have size : ((List.map V.bl ((prs.take j).map (bothIn rs))).length) < sizeLine := by
        rw [List.length_map, List.length_map, List.length_take]
        exact small1000 (by omega)
      have fin : ∀ b : Bool, b = bothIn rs p → Same H (upd H' D (.lst (((prs.take j).map (bothIn rs)).map V.bl ++ [V.bl b]))) ∧ upd H' D (.lst (((prs.take j).map (bothIn rs)).map V.bl ++ [V.bl b])) D = some (.lst (((prs.take (j + 1)).map (bothIn rs)).map V.bl)) := by
        rintro b rfl
        refine ⟨same_upd s1 hD _, ?_⟩
        rw [upd_same, take_more hp, List.map_append, List.map_append]
        rfl
      refine ⟨_, rfl, _, rfl, _, _, RowV.dp (hx1.keep (tupsOf s1)), dl, rowD_shaped _, rowDs_shaped _, _, rfl, ?_⟩
      rw [rows_any]
      by_cases c1 : p.1 ∈ rs
      · refine iteD c1 ?_
        refine ⟨_, rfl, _, rfl, _, _, RowV.dp (hx2.keep (tupsOf s1)), dl, rowD_shaped _, rowDs_shaped _, ?_⟩
        rw [rows_any]
        refine ⟨_, h1, size, fin _ ?_⟩
        unfold bothIn
        rw [decide_eq_true c1, Bool.true_and]
      · refine iteDF c1 ⟨_, h1, size, fin _ ?_⟩
        unfold bothIn
        rw [decide_eq_false c1, Bool.false_and]
    · rintro H' ⟨s1, h1⟩
      rw [List.take_of_length_le (by rw [← pLen hps]; exact Nat.le_refl _)] at h1
      refine ⟨D, _, rfl, SqL.of h1, ?_⟩
      exact qb (Q := Q) (by rw [List.any_map]; rfl) (k _ s1)
theorem sc44 : FnScope ["case", "book", "loosely", "rows", "wish"] ["case", "book", "loosely"] (defScope s44) := ⟨rfl, rfl, rfl, by decide +kernel, rfl, by decide +kernel, by decide +kernel⟩
theorem ok44 (T : Tx K mg C B) (F : FunD K "shown_by" "shown_by" (defArgs s44) (defBody s44) (defScope s44) [.bl false] [] f fd) (o_Book_rows : OwnM P w K mg base 1 B "rows" ["self"] (spBookRows B)) (o_Case_many : OwnM P w K mg base 1 C "many" ["self"] (spMany P w C))
    (o_pairs_by : Own P w K mg base 27 "pairs_by" ["case", "wish", "loosely"] [] (spPairsBy P w C)) (o_has_pair : Own P w K mg base 1 "has_pair" ["some", "rows"] [] spHasPair) : FnOk P w K mg base CX0 28 f fd ["case", "book", "loosely"] (spShown P w C B) := by
  refine ok0 F sc44 (fun vs H Q E h => ?_) (fun cdv A outer s H vs Q E hr h => ?_)
  · obtain ⟨_, _, _, _, _, _, rfl, _⟩ := h
    rfl
  · obtain ⟨c, b, many, f, ks, rs, rfl, hc, hb, k⟩ := h
    obtain ⟨dx, dv, d, m, h1, h2, h3, hm1, hm8, hkl, hk64, hknd⟩ := id hc
    obtain ⟨dxb, lb, rvb, b1, _⟩ := id hb
    refine ⟨_, (pss_cons (ps_set (i := 3) sc44.nd rfl (by first | exact Or.inl rfl | exact Or.inr rfl) (pe_ownM0 o_Book_rows T.clBook (hr.mono (by omega)) (pv 1)))
    (pss_one (ps_ret (pe_lc (own := [("wish", 4)]) rfl sc44.nd (pi_range1 (by rfl) T.f_range (pa_cons (pe_ownM0 o_Case_many T.clCase (hr.mono (by omega)) (pv 0)) pa_nil)) (blkOk_by (N := ["case", "book", "loosely", "rows", "wish"]) (sc := defScope s44) (by decide +kernel)) (fun _ _ _ _ _ => (pg_name (i := 4) sc44.nd rfl (by first | exact Or.inl rfl | exact Or.inr rfl))) (fun _ _ _ _ _ => (pts_one (pt_val (pe_own o_has_pair (hr.mono (by omega)) rfl (pa_cons (pe_own o_pairs_by (hr.mono (by omega)) rfl (pa_cons (pv 0) (pa_cons (pv 4) (pa_cons (pv 2) pa_nil)))) (pa_cons (pv 3) pa_nil)))))) (fun _ _ _ _ _ => (pv 4)))))), ?_⟩
    refine ⟨_, rfl, b, dxb, _, rfl, b1, bookF_no (by decide +kernel), b, rs, rfl, hb, fun H1 lr rvs s1 hlr0 hlr hrs => ?_⟩
    refine ⟨_, rfl, c, dx, _, rfl, s1 _ _ h1, caseF_no (by decide +kernel) (by decide +kernel) (by decide +kernel), c, many, f, ks, rfl, hc.same s1, many, rfl, by omega, by omega, fun D hD => ?_⟩
    have hD0 : H D = none := s1.free hD
    refine lc_range (lo := 0) (n := many) (fun j H' => Same H1 H' ∧ Same H H' ∧ H' D = some (.lst (((List.range j).filter fun i => (pairsOf f (ks.map (·.1)) i).any (bothIn rs)).map fun (i : Nat) => V.int i))) ⟨same_new hD _, s1.trans (same_new hD _), upd_same⟩ ?_ ?_
    · rintro j H' hj ⟨s2, s02, h2D⟩
      refine ⟨rfl, ?_⟩
      refine ⟨_, rfl, _, rfl, _, rfl, c, many, f, ks, j, by rw [Int.zero_add]; rfl, hc.same s02, hj, fun H3 l ps s3 hl hps => ?_⟩
      have s23 := s2.trans s3
      have s03 := s02.trans s3
      refine ⟨_, rfl, l, lr, ps, _, rvs, rs, rfl, hl, hps, ?_, s23 _ _ hlr, RowsV.keep (tupsOf s23) hrs, fun H4 s4 => ⟨_, rfl, ?_⟩⟩
      · refine Nat.le_trans (pairsOf_length _ _ _) ?_
        rw [List.length_map]
        exact hk64
      · have s34 := s3.trans s4
        have hD4 := s34 _ _ h2D
        refine ite2 (fun c1 => ?_) (fun c1 => ?_)
        · refine ⟨_, rfl, _, hD4, ?_, same_upd (s2.trans s34) hD _, same_upd (s02.trans s34) hD0 _, ?_⟩
          · rw [List.length_map]
            refine small1000 ?_
            refine Nat.le_trans (List.length_filter_le _ _) ?_
            rw [List.length_range]
            omega
          · rw [upd_same, List.range_succ, List.filter_append, List.map_append, List.filter_cons, if_pos c1, Int.zero_add]
            rfl
        · refine ⟨s2.trans s34, s02.trans s34, ?_⟩
          rw [hD4, List.range_succ, List.filter_append, List.filter_cons, if_neg c1]
          simp
    · rintro H' ⟨s2, s02, h2D⟩
      exact k H' D s02 hD0 h2D
end
end EA

set_option maxHeartbeats 4000000
namespace EA
open PySem PySem.Spec PyProof.Rows L2
/-! ### rings by roots -/
def ringF : (Int → Int) → List (Int × Int) → Bool
  | _, [] => false
  | g, (a, b) :: t => if g a = g b then true else ringF (fun x => if g x = g a then g b else g x) t
/-- the dict's chains end at g -/
def Rep (kvs : List (Key × V)) (g : Int → Int) : Prop := ∃ rk : Int → Nat, (∀ x, valV kvs (.inl x) = none → g x = x) ∧ (∀ x y, valV kvs (.inl x) = some y → ∃ z, y = V.int z ∧ g z = g x ∧ rk z < rk x) ∧ ∀ x, valV kvs (.inl (g x)) = none
theorem Rep_nil : Rep [] id := by
  refine ⟨fun _ => 0, fun _ _ => rfl, fun x y (h : valV [] (.inl x) = some y) => ?_, fun _ => rfl⟩
  cases h
theorem Rep.join {kvs : List (Key × V)} {g : Int → Int} {a b : Int} (h : Rep kvs g) (n : ¬ g a = g b) : Rep (putK kvs (.inl (g a)) (V.int (g b))) (fun x => if g x = g a then g b else g x) := by
  obtain ⟨rk, h1, h2, h3⟩ := h
  have ga : g (g a) = g a := h1 _ (h3 a)
  have gb : g (g b) = g b := h1 _ (h3 b)
  refine ⟨fun x => if g x = g a then rk x + rk (g b) + 1 else rk x, fun x hx => ?_, fun x y hx => ?_, fun x => ?_⟩
  · rw [valV_put] at hx
    by_cases e : (Sum.inl x : Key) = Sum.inl (g a)
    · rw [if_pos e] at hx
      cases hx
    · rw [if_neg e] at hx
      have gx := h1 x hx
      show (if g x = g a then g b else g x) = x
      rw [if_neg (fun z => e (by rw [← z, gx])), gx]
  · rw [valV_put] at hx
    by_cases e : (Sum.inl x : Key) = Sum.inl (g a)
    · rw [if_pos e] at hx
      have ex : x = g a := Sum.inl.inj e
      cases hx
      refine ⟨g b, rfl, ?_, ?_⟩
      · show (if g (g b) = g a then g b else g (g b)) = (if g x = g a then g b else g x)
        rw [gb, if_neg (fun z => n z.symm), ex, ga, if_pos rfl]
      · show (if g (g b) = g a then rk (g b) + rk (g b) + 1 else rk (g b)) < (if g x = g a then rk x + rk (g b) + 1 else rk x)
        rw [gb, if_neg (fun z => n z.symm), ex, ga, if_pos rfl]
        omega
    · rw [if_neg e] at hx
      obtain ⟨z, e1, e2, e3⟩ := h2 x y hx
      refine ⟨z, e1, ?_, ?_⟩
      · show (if g z = g a then g b else g z) = (if g x = g a then g b else g x)
        rw [e2]
      · show (if g z = g a then rk z + rk (g b) + 1 else rk z) < (if g x = g a then rk x + rk (g b) + 1 else rk x)
        rw [e2]
        split <;> omega
  · show valV (putK kvs (.inl (g a)) (V.int (g b))) (.inl (if g x = g a then g b else g x)) = none
    rw [valV_put]
    by_cases c : g x = g a
    · rw [if_pos c, if_neg (fun z => n (Sum.inl.inj z).symm)]
      exact h3 b
    · rw [if_neg c, if_neg (fun z => c (Sum.inl.inj z))]
      exact h3 x
theorem ringF_drop {g : Int → Int} {es : List (Int × Int)} {i : Nat} {e : Int × Int} (h : es[i]? = some e) : ringF g (es.drop i) = if g e.1 = g e.2 then true else ringF (fun x => if g x = g e.1 then g e.2 else g x) (es.drop (i + 1)) := by
  obtain ⟨hi, ee⟩ := List.getElem?_eq_some_iff.mp h
  rw [List.drop_eq_getElem_cons hi, ee]
  rfl
abbrev Tie := Nat × Nat × Nat
def TieV (H : Hp) (v : V) (t : Tie) : Prop := ∃ a, v = .ref a ∧ H a = some (.tup [V.int t.1, V.int t.2.1, V.int t.2.2])
theorem TieV.keep {H H' : Hp} {v : V} {t : Tie} (k : Tups H H') (h : TieV H v t) : TieV H' v t := by
  obtain ⟨a, e, h⟩ := h
  exact ⟨a, e, k _ _ h⟩
def ends (ts : List Tie) : List (Int × Int) := ts.map fun t => ((t.2.1 : Int), (t.2.2 : Int))
def TieOk (f : An) (cr rs : List Row) (t : Tie) : Prop := ∃ p ∈ pairsOf f cr t.1, rs[t.2.1]? = some p.1 ∧ rs[t.2.2]? = some p.2
theorem first_at : ∀ {rs : List Row} {r : Row}, r ∈ rs → ∃ j : Nat, rs[j]? = some r ∧ ∀ (m : Nat) (z : Row), m < j → rs[m]? = some z → z ≠ r
  | [], r, h => by cases h
  | x :: rs, r, h => by
    by_cases e : x = r
    · exact ⟨0, by rw [e]; rfl, fun m z hm => absurd hm (Nat.not_lt_zero _)⟩
    · obtain ⟨j, h1, h2⟩ := first_at (rs := rs) (r := r) ((List.mem_cons.mp h).resolve_left (fun z => e z.symm))
      refine ⟨j + 1, h1, fun m z hm hz => ?_⟩
      cases m with
      | zero =>
        have : x = z := Option.some.inj hz
        rw [← this]
        exact e
      | succ m => exact h2 m z (by omega) hz
/-! ### the promises -/
def spGroup : Sp := fun vs H Q _ => ∃ (d : Addr) (kvs : List (Key × V)) (g : Int → Int) (x : Int), vs = [.ref d, .int x] ∧ H d = some (.dK kvs) ∧ Rep kvs g ∧ Q (.int (g x)) H
def spRing : Sp := fun vs H Q _ => ∃ (l : Addr) (tvs : List V) (ts : List Tie), vs = [.ref l] ∧ H l = some (.lst tvs) ∧ Paired (TieV H) tvs ts ∧ ts.length ≤ 64 ∧ ∀ H', Same H H' → Q (.bl (ringF id (ends ts))) H'
def spWeb (P : Program) (w : World) (C B : Addr) : Sp := fun vs H Q _ => ∃ (c b : Addr) (many : Nat) (f : An) (ks : List (Row × Addr)) (rs : List Row), vs = [.ref c, .ref b] ∧ CaseAt P w C H c many f ks ∧ BookAt B H b rs ∧
  ∀ (H' : Hp) (l : Addr) (tvs : List V) (ts : List Tie), Same H H' → H l = none → H' l = some (.lst tvs) → Paired (TieV H') tvs ts → ts.map (·.1) = shownW f (ks.map (·.1)) rs many → (∀ t ∈ ts, TieOk f (ks.map (·.1)) rs t) → Q (.ref l) H'
section
variable {P : Program} {w : World} {K : PySem.W.Frag} {mg : Str → Option Value} {base : Heap} {C B : Addr} {f : Addr} {fd : FuncData}
theorem sc47 : FnScope ["groups", "row"] ["groups", "row"] (defScope s47) := ⟨rfl, rfl, rfl, by decide +kernel, rfl, by decide +kernel, by decide +kernel⟩
theorem ok47 (T : Tx K mg C B) (F : FunD K "group_of" "group_of" (defArgs s47) (defBody s47) (defScope s47) [] [] f fd) : FnOk P w K mg base CX0 1 f fd ["groups", "row"] spGroup := by
  refine ok0 F sc47 (fun vs H Q E h => ?_) (fun cdv A outer s H vs Q E hr h => ?_)
  · obtain ⟨_, _, _, _, rfl, _⟩ := h
    rfl
  · obtain ⟨d, kvs, g, x0, rfl, hd, hrep, k⟩ := h
    obtain ⟨rk, r1, r2, r3⟩ := hrep
    refine ⟨_, (pss_cons (ps_while PassesOwn.never (pt_cmpR op_ne (pe_dget2 (hu_of hr) (pv 0) (pv 1) (pv 1) ⟨rfl, rfl, rfl, rfl⟩) (pv 1) (nomark _)) (pss_one (ps_set (i := 1) sc47.nd rfl (by first | exact Or.inl rfl | exact Or.inr rfl) (pe_dget (hu_of hr) (pv 0) (pv 1) (fun _ _ => rfl)))))
    (pss_one (ps_ret (pv 1)))), ?_⟩
    refine ⟨fun m σ H' => ∃ x : Int, σ = [some (.ref d), some (.int x)] ∧ H' = H ∧ g x = g x0 ∧ m = rk x, ⟨_, x0, rfl, rfl, rfl, rfl⟩, ?_⟩
    rintro m σ H1 ⟨x, rfl, eH, hg, rfl⟩
    obtain rfl := eH.symm
    cases e : valV kvs (Sum.inl x) with
    | none =>
      refine ⟨_, rfl, d, rfl, .inl ⟨kvs, .inl hd⟩, _, rfl, _, rfl, none, by rw [← e]; exact DGet.k (k := Sum.inl x) hd, _, rfl, rfl, _, rfl, ?_⟩
      refine iteB (c := false) (by simp) (iteF ?_)
      refine ⟨_, rfl, ?_⟩
      exact qi (Q := Q) (by rw [← hg, r1 x e]) k
    | some y =>
      obtain ⟨z, rfl, hz1, hz2⟩ := r2 x y e
      have hzx : z ≠ x := fun q => by rw [q] at hz2; omega
      refine ⟨_, rfl, d, rfl, .inl ⟨kvs, .inl hd⟩, _, rfl, _, rfl, some (.int z), by rw [← e]; exact DGet.k (k := Sum.inl x) hd, _, rfl, rfl, _, rfl, ?_⟩
      refine iteB (c := true) (by simp [hzx]) (iteT ?_)
      refine ⟨fun σ' H' => ∃ x' : Int, σ' = [some (.ref d), some (.int x')] ∧ H' = H ∧ g x' = g x0 ∧ rk x' < rk x, fun σ' H' ⟨x', e1, e2, e3, e4⟩ => ⟨rk x', e4, x', e1, e2, e3, rfl⟩, ?_⟩
      refine ⟨_, rfl, _, rfl, d, .int z, rfl, by rw [← e]; exact DGet.k (k := Sum.inl x) hd, z, rfl, rfl, hz1.trans hg, hz2⟩
theorem sc48 : FnScope ["ties", "groups", "wish", "one", "other", "first", "second"] ["ties"] (defScope s48) := ⟨rfl, rfl, rfl, by decide +kernel, rfl, by decide +kernel, by decide +kernel⟩
theorem ok48 (T : Tx K mg C B) (F : FunD K "has_ring" "has_ring" (defArgs s48) (defBody s48) (defScope s48) [] [] f fd) (o_group_of : Own P w K mg base 1 "group_of" ["groups", "row"] [] spGroup) : FnOk P w K mg base CX0 2 f fd ["ties"] spRing := by
  refine ok0 F sc48 (fun vs H Q E h => ?_) (fun cdv A outer s H vs Q E hr h => ?_)
  · obtain ⟨_, _, _, rfl, _⟩ := h
    rfl
  · obtain ⟨l, tvs, ts, rfl, hl, hts, h64, k⟩ := h
    refine ⟨_, (pss_cons (ps_set (i := 1) sc48.nd rfl (by first | exact Or.inl rfl | exact Or.inr rfl) pe_dnewK)
    (pss_cons (ps_for PassesOwn.never rfl (pi_list (pv 0)) (pg_tup rfl (pgs_cons (pg_name (i := 2) sc48.nd rfl (by first | exact Or.inl rfl | exact Or.inr rfl)) (pgs_cons (pg_name (i := 3) sc48.nd rfl (by first | exact Or.inl rfl | exact Or.inr rfl)) (pgs_cons (pg_name (i := 4) sc48.nd rfl (by first | exact Or.inl rfl | exact Or.inr rfl)) pgs_nil)))) (pss_cons (ps_set (i := 5) sc48.nd rfl (by first | exact Or.inl rfl | exact Or.inr rfl) (pe_own o_group_of (hr.mono (by omega)) rfl (pa_cons (pv 1) (pa_cons (pv 3) pa_nil))))
    (pss_cons (ps_set (i := 6) sc48.nd rfl (by first | exact Or.inl rfl | exact Or.inr rfl) (pe_own o_group_of (hr.mono (by omega)) rfl (pa_cons (pv 1) (pa_cons (pv 4) pa_nil))))
    (pss_cons (ps_if (pt_cmpR op_eq (pv 5) (pv 6) (nomark _)) (pss_one (ps_ret pe_bl)) pss_nil)
    (pss_one (ps_dput (hu_of hr) (pv 1) (pv 5) (pv 6) rfl))))))
    (pss_one (ps_ret pe_bl)))), ?_⟩
    refine fun d hd => ?_
    have s1 := same_new hd (.dK [])
    refine ⟨_, rfl, l, rfl, ⟨_, SqL.of (s1 _ _ hl)⟩, ?_⟩
    refine for_list (K := K) (a := l) (xs := tvs) (fun j σ H' => ∃ x1 x2 x3 x4 x5 kvs g, σ = [some (.ref l), some (.ref d), x1, x2, x3, x4, x5] ∧ Same H H' ∧ H' d = some (.dK kvs) ∧ Rep kvs g ∧ kvs.length ≤ j ∧ ringF id (ends ts) = ringF g ((ends ts).drop j))
      ⟨none, none, none, none, none, [], id, rfl, s1, upd_same, Rep_nil, Nat.le_refl _, rfl⟩ (fun j σ H' _ ⟨_, _, _, _, _, _, _, _, s2, _⟩ => SqL.of (s2 _ _ hl)) ?_ ?_
    · rintro j x σ H' hx ⟨x1, x2, x3, x4, x5, kvs, g, rfl, s2, hd2, hrep, hkl, er⟩
      obtain ⟨t, ht, a, rfl, ha⟩ := pAt hts hx
      have hj := (List.getElem?_eq_some_iff.mp ht).1
      have he : (ends ts)[j]? = some ((t.2.1 : Int), (t.2.2 : Int)) := by
        unfold ends
        rw [List.getElem?_map, ht]
        rfl
      have er2 := ringF_drop (g := g) he
      refine ⟨a, _, rfl, SqT.of (s2 _ _ ha), rfl, _, _, rfl, _, _, rfl, _, _, rfl, rfl, ?_⟩
      refine ⟨_, rfl, _, rfl, d, kvs, g, _, rfl, hd2, hrep, ?_⟩
      refine ⟨_, rfl, _, rfl, d, kvs, g, _, rfl, hd2, hrep, ?_⟩
      refine ⟨_, rfl, _, rfl, rfl, _, rfl, ?_⟩
      by_cases c1 : g (t.2.1 : Int) = g (t.2.2 : Int)
      · rw [if_pos c1] at er2
        refine iteD (by rw [c1]) ?_
        exact qb (Q := Q) (by rw [er, er2]) (k _ s2)
      · rw [if_neg c1] at er2
        refine iteDF (fun z => c1 (V.int.inj z)) ?_
        have hz : kvs.length < sizeLine := small1000 (by omega)
        refine ⟨_, rfl, _, rfl, _, rfl, d, _, rfl, DPut.k (k := Sum.inl (g (t.2.1 : Int))) hd2 hz, ?_⟩
        refine ⟨_, _, _, _, _, _, _, rfl, same_upd s2 hd _, upd_same, hrep.join c1, ?_, er.trans er2⟩
        have := length_putK kvs (Sum.inl (g (t.2.1 : Int)) : Key) (V.int (g (t.2.2 : Int)))
        omega
    · rintro σ H' ⟨x1, x2, x3, x4, x5, kvs, g, rfl, s2, hd2, hrep, hkl, er⟩
      have e2 : (ends ts).drop tvs.length = [] := List.drop_eq_nil_of_le (by unfold ends; rw [List.length_map, pLen hts]; exact Nat.le_refl _)
      exact qb (Q := Q) (by rw [er, e2]; rfl) (k _ s2)
end
end EA

set_option maxHeartbeats 4000000
namespace EA
open PySem PySem.Spec PyProof.Rows L2
/-- the test of a pair's two rows, as a comprehension over the pairs has it -/
theorem inside_end {f : An} {cr rs : List Row} {i : Nat} {H : Hp} {qs : List V} (h : Paired (PairV H) qs ((pairsOf f cr i).filter (bothIn rs))) (a : (pairsOf f cr i).any (bothIn rs) = true) : 0 < qs.length := by
  rw [pLen h]
  obtain ⟨p, hp, hb⟩ := List.any_eq_true.mp a
  exact List.length_pos_of_mem (List.mem_filter.mpr ⟨hp, hb⟩)
theorem tie_of {f : An} {cr rs : List Row} {i k : Nat} {H : Hp} {qs : List V} {v : V} (h : Paired (PairV H) qs ((pairsOf f cr i).filter (bothIn rs))) (hv : qs[k]? = some v) :
    ∃ (t : Addr) (a b : V) (p : Row × Row) (j1 j2 : Nat), v = .ref t ∧ H t = some (.tup [a, b]) ∧ RowV H a p.1 ∧ RowV H b p.2 ∧ TieOk f cr rs (i, j1, j2) ∧ rs[j1]? = some p.1 ∧ (∀ (m : Nat) (z : Row), m < j1 → rs[m]? = some z → z ≠ p.1) ∧ rs[j2]? = some p.2 ∧ (∀ (m : Nat) (z : Row), m < j2 → rs[m]? = some z → z ≠ p.2) := by
  obtain ⟨p, hp, t, a, b, e, ht, ha, hb⟩ := pAt h hv
  obtain ⟨hm, hbi⟩ := List.mem_filter.mp (List.mem_of_getElem? hp)
  unfold bothIn at hbi
  rw [Bool.and_eq_true, decide_eq_true_iff, decide_eq_true_iff] at hbi
  obtain ⟨j1, x1, x2⟩ := first_at hbi.1
  obtain ⟨j2, y1, y2⟩ := first_at hbi.2
  exact ⟨t, a, b, p, j1, j2, e, ht, ha, hb, ⟨p, hm, x1, y1⟩, x1, x2, y1, y2⟩
theorem ix_rows {K : PySem.W.Frag} {H : Hp} {a : Addr} {rvs : List V} {rs : List Row} {v : V} {r : Row} {j : Nat} (ha : H a = some (.lst rvs)) (hrs : RowsV H rvs rs) (hv : RowV H v r) (h1 : rs[j]? = some r) (h2 : ∀ (m : Nat) (z : Row), m < j → rs[m]? = some z → z ≠ r) :
    Dp K H (V.ref a) (.list (rs.map rowD)) ∧ Dp K H v (rowD r) ∧ SeqAt.shaped (.list (rs.map rowD)) = true ∧ SeqAt.shaped (rowD r) = true ∧ (rs.map rowD)[j]? = some (rowD r) ∧ PyData.eqv (rowD r) (rowD r) = true ∧ (∀ (m : Nat) (z' : PyData), m < j → (rs.map rowD)[m]? = some z' → PyData.eqv z' (rowD r) = false) := by
  refine ⟨RowsV.dp ha hrs, hv.dp, rowDs_shaped rs, rowD_shaped r, ?_, ?_, fun m z' hm hz => ?_⟩
  · rw [List.getElem?_map, h1]
    rfl
  · rw [rowD_eqv]
    simp
  · rw [List.getElem?_map] at hz
    cases e : rs[m]? with
    | none => rw [e] at hz; cases hz
    | some z =>
      rw [e] at hz
      cases hz
      rw [rowD_eqv]
      exact decide_eq_false (h2 m z hm e)
section
variable {P : Program} {w : World} {K : PySem.W.Frag} {mg : Str → Option Value} {base : Heap} {C B : Addr} {f : Addr} {fd : FuncData}
theorem sc46 : FnScope ["case", "book", "rows", "found", "wish", "one", "other", "pair"] ["case", "book"] (defScope s46) := ⟨rfl, rfl, rfl, by decide +kernel, rfl, by decide +kernel, by decide +kernel⟩
theorem ok46 (T : Tx K mg C B) (F : FunD K "web_of" "web_of" (defArgs s46) (defBody s46) (defScope s46) [] [] f fd) (o_Book_rows : OwnM P w K mg base 1 B "rows" ["self"] (spBookRows B)) (o_shown_by : Own P w K mg base 28 "shown_by" ["case", "book", "loosely"] [.bl false] (spShown P w C B))
    (o_pairs : Own P w K mg base 26 "pairs" ["case", "wish"] [] (spPairs P w C)) : FnOk P w K mg base CX0 29 f fd ["case", "book"] (spWeb P w C B) := by
  refine ok0 F sc46 (fun vs H Q E h => ?_) (fun cdv A outer s H vs Q E hr h => ?_)
  · obtain ⟨_, _, _, _, _, _, rfl, _⟩ := h
    rfl
  · obtain ⟨c, b, many, f, ks, rs, rfl, hc, hb, k⟩ := h
    obtain ⟨dx, dv, d, m, h1, h2, h3, hm1, hm8, hkl, hk64, hknd⟩ := id hc
    obtain ⟨dxb, lb, rvb, b1, _, _, b4⟩ := id hb
    refine ⟨_, (pss_cons (ps_set (i := 2) sc46.nd rfl (by first | exact Or.inl rfl | exact Or.inr rfl) (pe_ownM0 o_Book_rows T.clBook (hr.mono (by omega)) (pv 1)))
    (pss_cons (ps_set (i := 3) sc46.nd rfl (by first | exact Or.inl rfl | exact Or.inr rfl) (pe_lst pa_nil))
    (pss_cons (ps_for PassesOwn.never rfl (pi_list (pe_own o_shown_by (hr.mono (by omega)) rfl (pa_cons (pv 0) (pa_cons (pv 1) pa_nil)))) (pg_name (i := 4) sc46.nd rfl (by first | exact Or.inl rfl | exact Or.inr rfl)) (pss_cons (ps_asg (pe_ix ix_list (pe_lc (own := [("pair", 7)]) rfl sc46.nd (pi_list (pe_own o_pairs (hr.mono (by omega)) rfl (pa_cons (pv 0) (pa_cons (pv 4) pa_nil)))) (blkOk_by (N := ["case", "book", "rows", "found", "wish", "one", "other", "pair"]) (sc := defScope s46) (by decide +kernel)) (fun _ _ _ _ _ => (pg_name (i := 7) sc46.nd rfl (by first | exact Or.inl rfl | exact Or.inr rfl))) (fun _ _ _ _ _ => (pts_one (PW.pt (pw_and (pt_cmpR (r := rInD K) (op_inD (hu65 hr)) (pe_ix (r := rIxT K) ix_tup (pv 7) pe_int (fun _ _ => rfl)) (pv 2) (by with_unfolding_all rfl)) (pw_and1 (pt_cmpR (r := rInD K) (op_inD (hu65 hr)) (pe_ix (r := rIxT K) ix_tup (pv 7) pe_int (fun _ _ => rfl)) (pv 2) (by with_unfolding_all rfl))))))) (fun _ _ _ _ _ => (pv 7))) pe_int (fun _ _ => rfl)) (pg_tup rfl (pgs_cons (pg_name (i := 5) sc46.nd rfl (by first | exact Or.inl rfl | exact Or.inr rfl)) (pgs_cons (pg_name (i := 6) sc46.nd rfl (by first | exact Or.inl rfl | exact Or.inr rfl)) pgs_nil))))
    (pss_one (ps_expr (pe_bm PySem.F.plainAttrs_list PySem.F.slot_list_append PySem.F.type_list_append mt_append (pv 3) (pa_cons (pe_tup (pa_cons (pv 4) (pa_cons (pe_bm PySem.F.plainAttrs_list PySem.F.slot_list_index PySem.F.type_list_index (mt_indexD (hu65 hr)) (pv 2) (pa_cons (pv 5) pa_nil)) (pa_cons (pe_bm PySem.F.plainAttrs_list PySem.F.slot_list_index PySem.F.type_list_index (mt_indexD (hu65 hr)) (pv 2) (pa_cons (pv 6) pa_nil)) pa_nil)))) pa_nil))))))
    (pss_one (ps_ret (pv 3)))))), ?_⟩
    refine ⟨_, rfl, b, dxb, _, rfl, b1, bookF_no (by decide +kernel), b, rs, rfl, hb, fun H1 lr rvs s1 hlr0 hlr hrs => ?_⟩
    refine ⟨(by show 0 ≤ sizeLine; decide), fun lf hlf => ?_⟩
    have s2 := s1.trans (same_new hlf (.lst []))
    refine ⟨_, rfl, _, rfl, c, b, many, f, ks, rs, rfl, hc.same s2, hb.same s2, fun H3 l1 s3 _ hl1 => ?_⟩
    have hlf3 : H3 lf = some (.lst []) := s3 _ _ upd_same
    have s13 : Same H1 H3 := (same_new hlf (.lst [])).trans s3
    refine ⟨l1, rfl, ⟨_, SqL.of hl1⟩, ?_⟩
    refine for_list (K := K) (a := l1) (xs := (shownW f (ks.map (·.1)) rs many).map fun (i : Nat) => V.int i) (fun j σ H' => ∃ x4 x5 x6 x7 tvs ts, σ = [some (.ref c), some (.ref b), some (.ref lr), some (.ref lf), x4, x5, x6, x7] ∧ Same H1 H' ∧ H' l1 = some (.lst ((shownW f (ks.map (·.1)) rs many).map fun (i : Nat) => V.int i)) ∧
        H' lf = some (.lst tvs) ∧ Paired (TieV H') tvs ts ∧ ts.map (·.1) = (shownW f (ks.map (·.1)) rs many).take j ∧ ∀ t ∈ ts, TieOk f (ks.map (·.1)) rs t)
      ⟨none, none, none, none, [], [], rfl, s13, hl1, hlf3, .nil, rfl, fun t ht => by cases ht⟩ (fun j σ H' _ ⟨_, _, _, _, _, _, _, _, h, _⟩ => SqL.of h) ?_ ?_
    · rintro j x σ H' hx ⟨x4, x5, x6, x7, tvs, ts, rfl, s4, hl14, hlf4, hts, etk, hok⟩
      rw [List.getElem?_map] at hx
      cases ei : (shownW f (ks.map (·.1)) rs many)[j]? with
      | none => rw [ei] at hx; cases hx
      | some i =>
        rw [ei] at hx
        cases hx
        have him := List.mem_of_getElem? ei
        unfold shownW at him
        obtain ⟨him1, him2⟩ := List.mem_filter.mp him
        have hi : i < many := List.mem_range.mp him1
        have hne : l1 ≠ lf := by
          intro z
          rw [z, hlf3] at hl1
          have e := Option.some.inj hl1
          injection e with e
          have := congrArg List.length e
          rw [List.length_map] at this
          have := (List.getElem?_eq_some_iff.mp ei).1
          simp at *
          omega
        have s04 := s1.trans s4
        refine ⟨_, rfl, _, rfl, c, many, f, ks, i, rfl, hc.same s04, hi, fun H5 lp ps s5 hlp hps => ?_⟩
        have s15 := s4.trans s5
        refine ⟨lp, rfl, ⟨_, SqL.of hlp⟩, fun D hD => ?_⟩
        refine lc_list (K := K) (a := lp) (xs := ps) (fun j H' => ∃ qs, Same H5 H' ∧ H' D = some (.lst qs) ∧ qs.length ≤ j ∧ Paired (PairV H') qs (((pairsOf f (ks.map (·.1)) i).take j).filter (bothIn rs)))
          ⟨[], same_new hD _, upd_same, Nat.le_refl _, .nil⟩ (fun j H' _ ⟨_, h, _⟩ => SqL.of (h _ _ hlp)) ?_ ?_
        · rintro j2 x H6 hx ⟨qs, s6, hD6, hql, hqs⟩
          obtain ⟨p, hp, t, a, b', rfl, ht, ha, hb'⟩ := pAt hps hx
          have s16 := s15.trans s6
          have dl := RowsV.dp (K := K) (s16 _ _ hlr) (RowsV.keep (tupsOf s16) hrs)
          have hjl : j2 < ps.length := (List.getElem?_eq_some_iff.mp hx).1
          have hsz : qs.length < sizeLine := by
            refine small1000 ?_
            have e1 := pLen hps
            have e2 := pairsOf_length f (ks.map (·.1)) i
            rw [List.length_map] at e2
            omega
          have efil : ((pairsOf f (ks.map (·.1)) i).take (j2 + 1)).filter (bothIn rs) = (((pairsOf f (ks.map (·.1)) i).take j2).filter (bothIn rs)) ++ (if bothIn rs p = true then [p] else []) := by
            rw [take_more hp, List.filter_append]
            congr 1
            rw [List.filter_cons]
            rfl
          have finT : bothIn rs p = true → ∃ acc, H6 D = some (.lst acc) ∧ acc.length < sizeLine ∧ ∃ qs, Same H5 (upd H6 D (.lst (acc ++ [.ref t]))) ∧ (upd H6 D (.lst (acc ++ [.ref t]))) D = some (.lst qs) ∧ qs.length ≤ j2 + 1 ∧ Paired (PairV (upd H6 D (.lst (acc ++ [.ref t])))) qs (((pairsOf f (ks.map (·.1)) i).take (j2 + 1)).filter (bothIn rs)) := by
            intro c1
            rw [efil, if_pos c1]
            have tk := tupsLst hD6 (.lst (qs ++ [V.ref t]))
            refine ⟨qs, hD6, hsz, qs ++ [.ref t], same_upd s6 hD _, upd_same, ?_, ?_⟩
            · rw [List.length_append, List.length_singleton]
              omega
            · have tk2 : Tups H5 (upd H6 D (.lst (qs ++ [V.ref t]))) := (tupsOf s6).trans tk
              exact pApp (pImp hqs fun _ _ z => z.keep tk) (.cons ⟨t, a, b', rfl, tk2 _ _ ht, ha.keep tk2, hb'.keep tk2⟩ .nil)
          have finF : bothIn rs p = false → ∃ qs, Same H5 H6 ∧ H6 D = some (.lst qs) ∧ qs.length ≤ j2 + 1 ∧ Paired (PairV H6) qs (((pairsOf f (ks.map (·.1)) i).take (j2 + 1)).filter (bothIn rs)) := by
            intro c1
            rw [efil, if_neg (by rw [c1]; decide), List.append_nil]
            exact ⟨qs, s6, hD6, Nat.le_succ_of_le hql, hqs⟩
          refine ⟨rfl, ?_⟩
          refine ⟨_, rfl, t, _, _, _, rfl, rfl, SqT.of (s6 _ _ ht), rfl, _, rfl, ?_⟩
          refine ⟨_, _, RowV.dp (ha.keep (tupsOf s6)), dl, rowD_shaped _, rowDs_shaped _, ?_⟩
          rw [rows_any]
          refine ⟨_, rfl, ?_⟩
          by_cases c1 : p.1 ∈ rs
          · refine iteD c1 ?_
            refine ⟨_, rfl, t, _, _, _, rfl, rfl, SqT.of (s6 _ _ ht), rfl, _, rfl, ?_⟩
            refine ⟨_, _, RowV.dp (hb'.keep (tupsOf s6)), dl, rowD_shaped _, rowDs_shaped _, ?_⟩
            rw [rows_any]
            refine ⟨_, rfl, ?_⟩
            by_cases c2 : p.2 ∈ rs
            · exact iteD c2 ⟨_, rfl, finT (by unfold bothIn; rw [decide_eq_true c1, decide_eq_true c2]; rfl)⟩
            · exact iteDF c2 (finF (by unfold bothIn; rw [decide_eq_false c2, Bool.and_false]))
          · refine iteDF c1 (iteF ?_)
            exact finF (by unfold bothIn; rw [decide_eq_false c1, Bool.false_and])
        · rintro H6 ⟨qs, s6, hD6, hql, hqs⟩
          rw [List.take_of_length_le (by rw [← pLen hps]; exact Nat.le_refl _)] at hqs
          have hq0 := inside_end hqs him2
          have hq00 : qs[0]? = some qs[0] := List.getElem?_eq_getElem hq0
          obtain ⟨t, a, b', p, j1, j2, e1, ht, ha, hb', tok, y1, y2, z1, z2⟩ := tie_of hqs hq00
          have s16 := s15.trans s6
          have s46 := s5.trans s6
          refine ⟨D, qs, 0, qs[0], rfl, rfl, SqL.of hD6, atI_nat hq00, ?_⟩
          rw [e1]
          refine ⟨t, _, rfl, SqT.of ht, rfl, _, _, rfl, _, _, rfl, rfl, ?_⟩
          have hlf6 := s46 _ _ hlf4
          have isl : tyV K "list" (V.ref lr) H6 := .inl ⟨rfl, _, SqL.of (s16 _ _ hlr)⟩
          refine ⟨_, rfl, .inl ⟨rfl, _, SqL.of hlf6⟩, _, rfl, _, rfl, isl, _, rfl, ?_⟩
          obtain ⟨p1, p2, p3, p4, p5, p6, p7⟩ := ix_rows (K := K) (s16 _ _ hlr) (RowsV.keep (tupsOf s16) hrs) ha y1 y2
          refine ⟨lr, _, _, _, j1, _, rfl, rfl, p1, p2, p3, p4, p5, p6, p7, ?_⟩
          obtain ⟨q1, q2, q3, q4, q5, q6, q7⟩ := ix_rows (K := K) (s16 _ _ hlr) (RowsV.keep (tupsOf s16) hrs) hb' z1 z2
          refine ⟨_, rfl, isl, _, rfl, lr, _, _, _, j2, _, rfl, rfl, q1, q2, q3, q4, q5, q6, q7, ?_⟩
          refine ⟨(by show 3 ≤ sizeLine; decide), fun T1 hT1 => ?_⟩
          have s7 := same_new hT1 (.tup [V.int (i : Nat), V.int (j1 : Nat), V.int (j2 : Nat)])
          have hlf7 := s7 _ _ hlf6
          have hsz : tvs.length ≤ 8 := by
            have e := congrArg List.length etk
            rw [List.length_map, List.length_take] at e
            have e2 := pLen hts
            have e3 : (shownW f (ks.map (·.1)) rs many).length ≤ many := by
              unfold shownW
              refine Nat.le_trans (List.length_filter_le _ _) ?_
              rw [List.length_range]
              exact Nat.le_refl _
            omega
          refine ⟨lf, tvs, _, rfl, rfl, hlf7, small1000 (by omega), ?_⟩
          have tk := tupsLst hlf7 (.lst (tvs ++ [V.ref T1]))
          refine ⟨_, _, _, _, tvs ++ [.ref T1], ts ++ [(i, j1, j2)], rfl, same_upd (s16.trans s7) hlf _, ?_, upd_same, ?_, ?_, ?_⟩
          · rw [upd_ne hne]
            exact s7 _ _ (s46 _ _ hl14)
          · exact pApp (pImp hts fun _ _ z => z.keep ((tupsOf (s46.trans s7)).trans tk)) (.cons ⟨T1, rfl, tk _ _ upd_same⟩ .nil)
          · rw [take_more ei, List.map_append, etk]
            rfl
          · intro t' ht'
            rcases List.mem_append.mp ht' with z | z
            · exact hok t' z
            · rw [List.mem_singleton.mp z]
              exact tok
    · rintro σ H' ⟨x4, x5, x6, x7, tvs, ts, rfl, s4, hl14, hlf4, hts, etk, hok⟩
      refine ⟨_, rfl, ?_⟩
      refine k H' lf tvs ts (s1.trans s4) (s1.free hlf) hlf4 hts ?_ hok
      rw [etk, List.length_map, List.take_length]
end
end EA

set_option maxHeartbeats 4000000
namespace EA
open PySem PySem.Spec PyProof.Rows L2
theorem dpAll_int {K : PySem.W.Frag} {H : Hp} : ∀ r : List Int, DpAll K H (r.map V.int) (r.map PyData.int)
  | [] => .nil
  | b :: r => .cons (.int b) (dpAll_int r)
theorem int_lay : ∀ r : List Int, PyData.canLayAll0 (r.map PyData.int) = true
  | [] => by simp [PyData.canLayAll0]
  | b :: r => by simp [PyData.canLayAll0, PyData.canLay0, int_lay r]
theorem int_depth : ∀ r : List Int, PyData.depthAll (r.map PyData.int) ≤ 0
  | [] => by simp [PyData.depthAll]
  | b :: r => by
    have := int_depth r
    simp only [List.map_cons, PyData.depthAll, PyData.depth]
    omega
theorem ints_shaped (r : List Int) : SeqAt.shaped (.list (r.map PyData.int)) = true := by
  have := int_depth r
  exact shaped_of (by simp only [PyData.canLay0]; exact int_lay r) (by simp only [PyData.depth]; omega)
theorem ints_eqv : ∀ r q : List Int, PyData.eqvAll (r.map PyData.int) (q.map PyData.int) = decide (r = q)
  | [], [] => by simp [PyData.eqvAll]
  | [], _ :: _ => by simp [PyData.eqvAll]
  | _ :: _, [] => by simp [PyData.eqvAll]
  | a :: r, b :: q => by
    have ih := ints_eqv r q
    simp only [List.map_cons, PyData.eqvAll, PyData.eqv, ih]
    by_cases h : a = b <;> by_cases h2 : r = q <;> simp [h, h2]
theorem intsD_eqv (r q : List Int) : PyData.eqv (.list (r.map PyData.int)) (.list (q.map PyData.int)) = decide (r = q) := by
  simp only [PyData.eqv, ints_eqv]
theorem nilD_shaped : SeqAt.shaped (.list []) = true := by decide +kernel
def PoolAt (H : Hp) (p : Addr) : Prop := ∃ a b : Int, H p = some (.lst [.int a, .int b]) ∧ 0 ≤ a ∧ 0 ≤ b ∧ b < 2147483648
theorem PoolAt.ne {H : Hp} {p q : Addr} {o : HO} (h : PoolAt H p) (hq : H q = some o) (no : ∀ xs, o ≠ .lst xs) : q ≠ p := by
  rintro rfl
  obtain ⟨a, b, e, _⟩ := h
  rw [hq] at e
  exact no _ (Option.some.inj e)
theorem mostBut {H H' : Hp} {p : Addr} (h : PoolAt H p) (k : But p H H') : Most H H' := fun b o no q => k b o (h.ne q no) q
theorem tupsBut {H H' : Hp} {p : Addr} (h : PoolAt H p) (k : But p H H') : Tups H H' := fun b xs q => k b _ (h.ne q (fun _ z => nomatch z)) q
theorem butTrans {c : Addr} {H H1 H2 : Hp} (a : But c H H1) (b : But c H1 H2) : But c H H2 := fun x o h q => b x o h (a x o h q)
theorem butOf {c : Addr} {H H1 : Hp} (a : Same H H1) : But c H H1 := fun x o _ q => a x o q
theorem pos1 : (0 : Int) < 2147483647 := by decide
theorem pos2 : (0 : Int) < 2147483629 := by decide
theorem pos3 : (0 : Int) < 64 := by decide
theorem pos4 : (64 : Int) < 1073741824 := by decide
theorem pos5 : (0 : Int) < 1000003 := by decide
theorem pow18 : CPow 10 18 := ⟨by decide, by decide, by decide⟩
theorem pow36 : CPow 10 36 := ⟨by decide, by decide, by decide⟩
theorem div18 {c : Int} : CDivW c (10 ^ (18 : Int).toNat) := wide_div (b := 60) (by decide) (by decide) (by decide) (by decide)
theorem mul01 {c : Int} {b : Bool} : CMul c (if b then 1 else 0) := .inr (by cases b <;> exact ⟨by decide, by decide⟩)
theorem nn18 {c : Int} : 0 ≤ c * (if decide ((10 : Int) ^ (18 : Int).toNat ≤ c) = true then 1 else 0) := by
  by_cases h : (10 : Int) ^ (18 : Int).toNat ≤ c
  · rw [if_pos (decide_eq_true h)]
    have : (0 : Int) < (10 : Int) ^ (18 : Int).toNat := by decide
    omega
  · rw [if_neg (by rw [decide_eq_false h]; decide)]
    omega
theorem sqlSame {K : PySem.W.Frag} {H H' : Hp} {a : Addr} {xs : List V} (e : Same H H') (h : SqL K H a xs) : SqL K H' a xs := by
  rcases h with (h | ⟨o, h⟩) | h
  · exact .inl (.inl (e _ _ h))
  · exact .inl (.inr ⟨o, e _ _ h⟩)
  · exact .inr h
def spPool (K : PySem.W.Frag) : Sp := fun vs H Q _ => ∃ (a : Addr) (ns : List Int) (k : Nat), vs = [.ref a, .int k] ∧ SqL K H a (ns.map V.int) ∧ k < 1000 ∧ ∀ H' p, Same H H' → H p = none → PoolAt H' p → Q (.ref p) H'
def spTake : Sp := fun vs H Q _ => ∃ (p : Addr) (many : Int), vs = [.ref p, .int many] ∧ PoolAt H p ∧ 0 < many ∧ many < 1073741824 ∧ ∀ H' d, But p H H' → PoolAt H' p → 0 ≤ d → d < many → Q (.int d) H'
section
variable {P : Program} {w : World} {K : PySem.W.Frag} {mg : Str → Option Value} {base : Heap} {C B : Addr} {f : Addr} {fd : FuncData}
theorem sc51 : FnScope ["_law_pool_here", "_law_many", "_law_digit"] ["_law_pool_here", "_law_many"] (defScope s51) := ⟨rfl, rfl, rfl, by decide +kernel, rfl, by decide +kernel, by decide +kernel⟩
theorem ok51 (T : Tx K mg C B) (F : FunD K "_law_take" "_law_take" (defArgs s51) (defBody s51) (defScope s51) [] [] f fd) : FnOk P w K mg base CX0 1 f fd ["_law_pool_here", "_law_many"] spTake := by
  refine ok0 F sc51 (fun vs H Q E h => ?_) (fun cdv A outer s H vs Q E hr h => ?_)
  · obtain ⟨_, _, rfl, _⟩ := h
    rfl
  · obtain ⟨p, many, rfl, ⟨a, b, hp, ha, hb, hb2⟩, h0, h30, k⟩ := h
    refine ⟨_, (pss_cons (ps_if (pt_cmpR op_gt (pe_ix ix_list (pv 0) pe_int (fun _ _ => rfl)) pe_int (nomark _)) (pss_cons (ps_set (i := 2) sc51.nd rfl (by first | exact Or.inl rfl | exact Or.inr rfl) (pe_op op_mod (pe_ix ix_list (pv 0) pe_int (fun _ _ => rfl)) (pv 1)))
    (pss_cons (ps_asg (pe_op op_fdiv (pe_ix ix_list (pv 0) pe_int (fun _ _ => rfl)) (pv 1)) (pg_sub (pv 0) pe_int set_list))
    (pss_one (ps_ret (pv 2))))) pss_nil)
    (pss_cons (ps_asg (pe_op op_mod (pe_op op_add (pe_op op_mul (pe_ix ix_list (pv 0) pe_int (fun _ _ => rfl)) pe_int) pe_int) pe_int) (pg_sub (pv 0) pe_int set_list))
    (pss_one (ps_ret (pe_op op_mod (pe_op op_fdiv (pe_op op_mod (pe_op op_mul (pe_ix ix_list (pv 0) pe_int (fun _ _ => rfl)) (pe_ix ix_list (pv 0) pe_int (fun _ _ => rfl))) pe_int) pe_int) (pv 1)))))), ?_⟩
    refine ⟨_, rfl, p, _, _, _, rfl, rfl, SqL.of hp, rfl, _, _, rfl, rfl, _, rfl, ?_⟩
    refine ite2 (fun c1 => ?_) (fun c1 => ?_)
    · refine ⟨_, rfl, p, _, _, _, rfl, rfl, SqL.of hp, rfl, _, rfl, _, _, rfl, rfl, h0, ?_⟩
      refine ⟨_, rfl, p, _, _, _, rfl, rfl, SqL.of hp, rfl, _, rfl, _, _, rfl, rfl, ⟨h0, h30⟩, ?_⟩
      refine ⟨_, rfl, p, _, _, _, rfl, rfl, hp, rfl, ?_⟩
      refine ⟨_, rfl, ?_⟩
      exact k _ _ (butAt (fun _ _ _ q => q) _) ⟨_, _, upd_same, Int.ediv_nonneg ha (Int.le_of_lt h0), hb, hb2⟩ (Int.emod_nonneg _ (by omega)) (Int.emod_lt_of_pos _ h0)
    · refine ⟨_, rfl, p, _, _, _, rfl, rfl, SqL.of hp, rfl, _, _, rfl, rfl, .inr ⟨by decide, by decide⟩, _, _, rfl, rfl, _, _, rfl, rfl, pos1, ?_⟩
      refine ⟨_, rfl, p, _, _, _, rfl, rfl, hp, rfl, ?_⟩
      have n1 : 0 ≤ (b * 48271 + 11) % 2147483647 := Int.emod_nonneg _ (by decide)
      have n2 : (b * 48271 + 11) % 2147483647 < 2147483647 := Int.emod_lt_of_pos _ (by decide)
      refine ⟨_, rfl, p, _, _, _, rfl, rfl, SqL.of upd_same, rfl, _, rfl, p, _, _, _, rfl, rfl, SqL.of upd_same, rfl, _, _, rfl, rfl, .inl ⟨?_, ?_⟩, _, _, rfl, rfl, pos2, _, _, rfl, rfl, ⟨pos3, pos4⟩, _, rfl, _, _, rfl, rfl, h0, ?_⟩
      · show -(2 ^ 64) < (b * 48271 + 11) % 2147483647
        omega
      · show (b * 48271 + 11) % 2147483647 < 2 ^ 64
        omega
      · exact k _ _ (butAt (fun _ _ _ q => q) _) ⟨_, _, upd_same, ha, n1, by omega⟩ (Int.emod_nonneg _ (by omega)) (Int.emod_lt_of_pos _ h0)
theorem sc50 : FnScope ["_law_script", "_law_k", "_law_cell", "_law_seed"] ["_law_script", "_law_k"] (defScope s50) := ⟨rfl, rfl, rfl, by decide +kernel, rfl, by decide +kernel, by decide +kernel⟩
theorem ok50 (T : Tx K mg C B) (F : FunD K "_law_pool" "_law_pool" (defArgs s50) (defBody s50) (defScope s50) [] [] f fd) : FnOk P w K mg base CX0 1 f fd ["_law_script", "_law_k"] (spPool K) := by
  refine ok0 F sc50 (fun vs H Q E h => ?_) (fun cdv A outer s H vs Q E hr h => ?_)
  · obtain ⟨_, _, _, rfl, _⟩ := h
    rfl
  · obtain ⟨a, ns, k, rfl, ha, hk, kk⟩ := h
    refine ⟨_, (pss_cons (ps_set (i := 2) sc50.nd rfl (by first | exact Or.inl rfl | exact Or.inr rfl) pe_int)
    (pss_cons (ps_if (pt_cmpR (op_neD hr.units) (pv 0) (pe_lst pa_nil) (nomark _)) (pss_one (ps_set (i := 2) sc50.nd rfl (by first | exact Or.inl rfl | exact Or.inr rfl) (pe_ix ix_list (pv 0) (pe_op op_mod (pv 1) (pe_callB call_len_seq (by rfl) T.f_len (by decide +kernel) (pa_cons (pv 0) pa_nil))) (fun _ _ => rfl)))) pss_nil)
    (pss_cons (ps_if (pt_cmpR op_ge (pv 1) (pe_callB call_len_seq (by rfl) T.f_len (by decide +kernel) (pa_cons (pv 0) pa_nil)) (nomark _)) (pss_one (ps_set (i := 2) sc50.nd rfl (by first | exact Or.inl rfl | exact Or.inr rfl) (pe_ix ix_list (pe_lst (pa_cons (pe_op op_mod (pv 2) pe_int) (pa_cons (pe_op op_fdivW (pv 2) (pe_op op_pow pe_int pe_int)) pa_nil))) (pe_callTy call_int1 (by rfl) T.f_int (by decide +kernel) (pa_cons (pe_cmpR op_ge (pv 2) (pe_op op_pow pe_int pe_int) (nomark _)) pa_nil)) (fun _ _ => rfl)))) pss_nil)
    (pss_cons (ps_set (i := 3) sc50.nd rfl (by first | exact Or.inl rfl | exact Or.inr rfl) (pe_op op_mod (pe_op op_mul (pe_op op_add (pe_op op_add (pe_op op_mod (pv 2) pe_int) (pe_op op_mul pe_int (pv 1))) pe_int) pe_int) pe_int))
    (pss_one (ps_ret (pe_lst (pa_cons (pe_op op_mul (pv 2) (pe_callTy call_int1 (by rfl) T.f_int (by decide +kernel) (pa_cons (pe_cmpR op_ge (pv 2) (pe_op op_pow pe_int pe_int) (nomark _)) pa_nil))) (pa_cons (pv 3) pa_nil))))))))), ?_⟩
    refine ⟨_, rfl, (by show 0 ≤ sizeLine; decide), fun e1 he1 => ?_⟩
    have s1 := same_new he1 (.lst [])
    refine ⟨_, _, Dp.lst (sqlSame s1 ha) (dpAll_int ns), Dp.lst (SqL.of upd_same) .nil, ints_shaped ns, nilD_shaped, _, rfl, ?_⟩
    refine iteB (c := decide (ns ≠ [])) (by rw [show PyData.list [] = PyData.list (([] : List Int).map PyData.int) from rfl, intsD_eqv]; simp) ?_
    by_cases c1 : ns = []
    · subst c1
      refine iteDF (fun z => z rfl) ?_
      refine ⟨_, rfl, _, rfl, a, [], rfl, .inl (sqlSame s1 ha), _, _, rfl, rfl, _, rfl, ?_⟩
      refine iteD (Int.natCast_nonneg _) ?_
      refine ⟨_, rfl, _, _, rfl, rfl, pos5, _, rfl, _, _, rfl, rfl, pow18, _, _, rfl, rfl, div18, (by show 2 ≤ sizeLine; decide), fun e2 he2 => ?_⟩
      have s2 := s1.trans (same_new he2 (.lst [.int (0 % 1000003), .int (0 / 10 ^ (18 : Int).toNat)]))
      refine ⟨_, rfl, _, _, rfl, rfl, pow36, _, _, rfl, rfl, .inr ⟨_, rfl, e2, _, _, V.int (if decide ((10 : Int) ^ (36 : Int).toNat ≤ 0) = true then 0 / 10 ^ (18 : Int).toNat else 0 % 1000003), rfl, rfl, SqL.of upd_same, ?_, ?_⟩⟩
      · by_cases q : (10 : Int) ^ (36 : Int).toNat ≤ 0
        · rw [decide_eq_true q]
          rfl
        · rw [decide_eq_false q]
          rfl
      · refine ⟨_, rfl, _, _, rfl, rfl, pos2, _, rfl, _, _, rfl, rfl, .inl ⟨by decide, by decide⟩, _, _, rfl, rfl, _, _, rfl, rfl, _, _, rfl, rfl, .inr ⟨by decide, by decide⟩, _, _, rfl, rfl, pos1, ?_⟩
        refine ⟨_, rfl, _, rfl, _, _, rfl, rfl, pow18, _, _, rfl, rfl, .inr ⟨_, rfl, _, _, rfl, rfl, mul01, _, rfl, (by show 2 ≤ sizeLine; decide), fun p hp => ?_⟩⟩
        exact kk _ p (s2.trans (same_new hp _)) (s2.free hp) ⟨_, _, upd_same, nn18, Int.emod_nonneg _ (by decide), Int.lt_of_lt_of_le (Int.emod_lt_of_pos _ pos1) (by decide)⟩
    · refine iteD c1 ?_
      have hl : 0 < ns.length := List.length_pos_iff.mpr c1
      have hl2 : (0 : Int) < ((ns.map V.int).length : Nat) := by rw [List.length_map]; omega
      have hm : k % ns.length < ns.length := Nat.mod_lt _ hl
      have he : atI (ns.map V.int) ((k : Int) % ((ns.map V.int).length : Nat)) = some (V.int (cellOf ns (k % ns.length))) := by
        rw [List.length_map, show ((k : Int) % (ns.length : Nat)) = ((k % ns.length : Nat) : Int) from (Int.natCast_emod k ns.length).symm]
        exact atI_cell hm
      generalize cellOf ns (k % ns.length) = cc at he
      refine ⟨_, rfl, _, rfl, _, rfl, a, _, rfl, .inl (sqlSame s1 ha), _, _, rfl, rfl, hl2, a, _, _, _, rfl, rfl, sqlSame s1 ha, he, ?_⟩
      refine ⟨_, rfl, _, rfl, a, _, rfl, .inl (sqlSame s1 ha), _, _, rfl, rfl, _, rfl, ?_⟩
      refine ite2 (fun c2 => ?_) (fun c2 => ?_)
      · refine ⟨_, rfl, _, _, rfl, rfl, pos5, _, rfl, _, _, rfl, rfl, pow18, _, _, rfl, rfl, div18, (by show 2 ≤ sizeLine; decide), fun e2 he2 => ?_⟩
        have s2 := s1.trans (same_new he2 (.lst [.int (cc % 1000003), .int (cc / 10 ^ (18 : Int).toNat)]))
        refine ⟨_, rfl, _, _, rfl, rfl, pow36, _, _, rfl, rfl, .inr ⟨_, rfl, e2, _, _, V.int (if decide ((10 : Int) ^ (36 : Int).toNat ≤ cc) = true then cc / 10 ^ (18 : Int).toNat else cc % 1000003), rfl, rfl, SqL.of upd_same, ?_, ?_⟩⟩
        · by_cases q : (10 : Int) ^ (36 : Int).toNat ≤ cc
          · rw [decide_eq_true q]
            rfl
          · rw [decide_eq_false q]
            rfl
        · refine ⟨_, rfl, _, _, rfl, rfl, pos2, _, rfl, _, _, rfl, rfl, .inl ⟨by decide, by decide⟩, _, _, rfl, rfl, _, _, rfl, rfl, _, _, rfl, rfl, .inr ⟨by decide, by decide⟩, _, _, rfl, rfl, pos1, ?_⟩
          refine ⟨_, rfl, _, rfl, _, _, rfl, rfl, pow18, _, _, rfl, rfl, .inr ⟨_, rfl, _, _, rfl, rfl, mul01, _, rfl, (by show 2 ≤ sizeLine; decide), fun p hp => ?_⟩⟩
          exact kk _ p (s2.trans (same_new hp _)) (s2.free hp) ⟨_, _, upd_same, nn18, Int.emod_nonneg _ (by decide), Int.lt_of_lt_of_le (Int.emod_lt_of_pos _ pos1) (by decide)⟩
      · refine ⟨_, rfl, _, _, rfl, rfl, pos2, _, rfl, _, _, rfl, rfl, .inl ⟨by decide, by decide⟩, _, _, rfl, rfl, _, _, rfl, rfl, _, _, rfl, rfl, .inr ⟨by decide, by decide⟩, _, _, rfl, rfl, pos1, ?_⟩
        refine ⟨_, rfl, _, rfl, _, _, rfl, rfl, pow18, _, _, rfl, rfl, .inr ⟨_, rfl, _, _, rfl, rfl, mul01, _, rfl, (by show 2 ≤ sizeLine; decide), fun p hp => ?_⟩⟩
        exact kk _ p (s1.trans (same_new hp _)) (s1.free hp) ⟨_, _, upd_same, nn18, Int.emod_nonneg _ (by decide), Int.lt_of_lt_of_le (Int.emod_lt_of_pos _ pos1) (by decide)⟩
end
end EA

set_option maxHeartbeats 4000000
namespace EA
open PySem PySem.Spec PyProof.Rows L2
def spDec (n : Nat) : Sp := fun vs H Q _ => ∃ (p : Addr) (many : Nat) (room deep : Int), vs = [.ref p, .int many, .int room, .int deep] ∧ PoolAt H p ∧ 1 ≤ many ∧ many < 1000 ∧ 1 ≤ room ∧ 1 ≤ deep ∧ deep ≤ n ∧ ∀ H' v m f, But p H H' → PoolAt H' p → DecAt many n H' v m f → (m : Int) ≤ room → Q v H'
theorem PoolAt.keep {H H' : Hp} {p : Addr} (h : PoolAt H p) (s : Same H H') : PoolAt H' p := by
  obtain ⟨a, b, e, r⟩ := h
  exact ⟨a, b, s _ _ e, r⟩
theorem sum_le {mfs : List (Nat × An)} {c : Nat} (h : ∀ x ∈ mfs, x.1 ≤ c) : (mfs.map (·.1)).sum ≤ mfs.length * c := by
  induction mfs with
  | nil => simp
  | cons a t ih =>
    have h1 := h a (List.mem_cons_self ..)
    have h2 := ih fun x hx => h x (List.mem_cons_of_mem _ hx)
    simp only [List.map_cons, List.sum_cons, List.length_cons, Nat.succ_mul]
    omega
theorem sum_le2 {mfs : List ((Nat × An) × (Nat × An))} {c : Nat} (h : ∀ x ∈ mfs, x.1.1 ≤ c ∧ x.2.1 ≤ c) : (mfs.map (fun x => x.1.1 + x.2.1)).sum ≤ mfs.length * (2 * c) := by
  induction mfs with
  | nil => simp
  | cons a t ih =>
    have h1 := h a (List.mem_cons_self ..)
    have h2 := ih fun x hx => h x (List.mem_cons_of_mem _ hx)
    rw [List.map_cons, List.sum_cons, List.length_cons, Nat.succ_mul]
    exact Nat.le_trans (Nat.add_le_add (by omega : a.1.1 + a.2.1 ≤ 2 * c) h2) (by rw [Nat.add_comm]; exact Nat.le_refl _)
theorem gname_eq {n : Nat} {v u : V} {σ : L2.St} {H : Hp} {Q : L2.St → Hp → Prop} (e : v = u) (h : gName n u σ H Q) : gName n v σ H Q := by
  rw [e]
  exact h
section
variable {P : Program} {w : World} {K : PySem.W.Frag} {mg : Str → Option Value} {base : Heap} {C B : Addr} {f : Addr} {fd : FuncData}
theorem sc52 : FnScope ["_law_pool_here", "_law_many", "_law_room", "_law_deep", "_law_way", "_law_size", "_law_each", "_law_rows", "_law_k", "_law_some_here", "_law_test"] ["_law_pool_here", "_law_many", "_law_room", "_law_deep"] (defScope s52) := ⟨rfl, rfl, rfl, by decide +kernel, rfl, by decide +kernel, by decide +kernel⟩
theorem ok52 {n : Nat} (T : Tx K mg C B) (F : FunD K "_law_decision" "_law_decision" (defArgs s52) (defBody s52) (defScope s52) [] [] f fd) (o__law_take : Own P w K mg base 1 "_law_take" ["_law_pool_here", "_law_many"] [] spTake)
    (o__law_decision : Own P w K mg base (n + 1) "_law_decision" ["_law_pool_here", "_law_many", "_law_room", "_law_deep"] [] (spDec n)) : FnOk P w K mg base CX0 (n + 2) f fd ["_law_pool_here", "_law_many", "_law_room", "_law_deep"] (spDec (n + 1)) := by
  refine ok0 F sc52 (fun vs H Q E h => ?_) (fun cdv A outer s H vs Q E hr h => ?_)
  · obtain ⟨_, _, _, _, rfl, _⟩ := h
    rfl
  · obtain ⟨p, many, room, deep, rfl, hp, hm1, hm2, hr1, hd1, hd2, k⟩ := h
    refine ⟨_, (pss_cons (ps_set (i := 4) sc52.nd rfl (by first | exact Or.inl rfl | exact Or.inr rfl) (pe_own o__law_take (hr.mono (by omega)) rfl (pa_cons (pv 0) (pa_cons pe_int pa_nil))))
    (pss_cons (ps_if (PW.pt (pw_or (pt_cmpR op_lt (pv 2) pe_int (nomark _)) (pw_or (pt_cmpR op_lt (pv 3) pe_int (nomark _)) (pw_or1 (pt_cmpR op_eq (pv 4) pe_int (nomark _)))))) (pss_cons (ps_if (pt_cmpR op_eq (pe_own o__law_take (hr.mono (by omega)) rfl (pa_cons (pv 0) (pa_cons pe_int pa_nil))) pe_int (nomark _)) (pss_one (ps_ret (pe_ix ix_list (pe_lst (pa_cons (pe_tup (pa_cons pe_str pa_nil)) (pa_cons (pe_tup (pa_cons pe_str pa_nil)) pa_nil))) (pe_own o__law_take (hr.mono (by omega)) rfl (pa_cons (pv 0) (pa_cons pe_int pa_nil))) (fun _ _ => rfl)))) pss_nil)
    (pss_one (ps_ret (pe_tup (pa_cons pe_str (pa_cons (pe_own o__law_take (hr.mono (by omega)) rfl (pa_cons (pv 0) (pa_cons (pv 1) pa_nil))) pa_nil)))))) pss_nil)
    (pss_cons (ps_if (pt_cmpR op_lt (pv 4) pe_int (nomark _)) (pss_one (ps_ret (pe_tup (pa_cons pe_str (pa_cons (pe_own o__law_decision (hr.mono (by omega)) rfl (pa_cons (pv 0) (pa_cons (pv 1) (pa_cons (pe_op op_sub (pv 2) pe_int) (pa_cons (pe_op op_sub (pv 3) pe_int) pa_nil))))) pa_nil))))) pss_nil)
    (pss_cons (ps_if (pt_cmpR op_lt (pv 4) pe_int (nomark _)) (pss_cons (ps_set (i := 5) sc52.nd rfl (by first | exact Or.inl rfl | exact Or.inr rfl) (pe_op op_add pe_int (pe_own o__law_take (hr.mono (by omega)) rfl (pa_cons (pv 0) (pa_cons (pe_callB (call_min2 rfl) (by rfl) T.f_min (by decide +kernel) (pa_cons pe_int (pa_cons (pe_op op_sub (pv 2) pe_int) pa_nil))) pa_nil)))))
    (pss_cons (ps_setLc (i := 9) (own := [("_law_k", 8)]) rfl sc52.nd rfl rfl (sw_true rfl rfl rfl (by decide +kernel)) (pi_range1 (by rfl) T.f_range (pa_cons (pv 5) pa_nil)) (blkOk_by (N := ["_law_pool_here", "_law_many", "_law_room", "_law_deep", "_law_way", "_law_size", "_law_each", "_law_rows", "_law_k", "_law_some_here", "_law_test"]) (sc := defScope s52) (by decide +kernel)) (fun _ _ _ _ _ => (pg_name (i := 8) sc52.nd rfl (by first | exact Or.inl rfl | exact Or.inr rfl))) (fun _ _ _ _ _ => pts_nil) (fun _ _ _ _ _ => (pe_own o__law_decision (hr.mono (by omega)) rfl (pa_cons (pv 0) (pa_cons (pv 1) (pa_cons (pe_op op_fdiv (pe_op op_sub (pv 2) pe_int) (pv 5)) (pa_cons (pe_op op_sub (pv 3) pe_int) pa_nil)))))))
    (pss_one (ps_ret (pe_tup (pa_cons (pe_ix ix_list (pe_lst (pa_cons pe_str (pa_cons pe_str pa_nil))) (pe_op op_mod (pv 4) pe_int) (fun _ _ => rfl)) (pa_cons (pe_callTy call_tupleOf (by rfl) T.f_tuple (by decide +kernel) (pa_cons (pv 9) pa_nil)) pa_nil))))))) pss_nil)
    (pss_cons (ps_set (i := 5) sc52.nd rfl (by first | exact Or.inl rfl | exact Or.inr rfl) (pe_op op_add pe_int (pe_own o__law_take (hr.mono (by omega)) rfl (pa_cons (pv 0) (pa_cons (pe_callB (call_min2 rfl) (by rfl) T.f_min (by decide +kernel) (pa_cons pe_int (pa_cons (pe_op op_add (pe_op op_fdiv (pe_op op_sub (pv 2) pe_int) pe_int) pe_int) pa_nil))) pa_nil)))))
    (pss_cons (ps_set (i := 6) sc52.nd rfl (by first | exact Or.inl rfl | exact Or.inr rfl) (pe_op op_fdiv (pe_op op_sub (pv 2) pe_int) (pe_op op_add (pe_op op_mul pe_int (pv 5)) pe_int)))
    (pss_cons (ps_if (pt_cmpR op_lt (pv 6) pe_int (nomark _)) (pss_one (ps_ret (pe_tup (pa_cons pe_str (pa_cons (pe_own o__law_take (hr.mono (by omega)) rfl (pa_cons (pv 0) (pa_cons (pv 1) pa_nil))) pa_nil))))) pss_nil)
    (pss_cons (ps_set (i := 7) sc52.nd rfl (by first | exact Or.inl rfl | exact Or.inr rfl) (pe_lst pa_nil))
    (pss_cons (ps_for PassesOwn.never rfl (pi_range1 (by rfl) T.f_range (pa_cons (pv 5) pa_nil)) (pg_name (i := 8) sc52.nd rfl (by first | exact Or.inl rfl | exact Or.inr rfl)) (pss_cons (ps_set (i := 10) sc52.nd rfl (by first | exact Or.inl rfl | exact Or.inr rfl) (pe_own o__law_decision (hr.mono (by omega)) rfl (pa_cons (pv 0) (pa_cons (pv 1) (pa_cons (pv 6) (pa_cons (pe_op op_sub (pv 3) pe_int) pa_nil))))))
    (pss_one (ps_expr (pe_bm PySem.F.plainAttrs_list PySem.F.slot_list_append PySem.F.type_list_append mt_append (pv 7) (pa_cons (pe_tup (pa_cons (pv 10) (pa_cons (pe_own o__law_decision (hr.mono (by omega)) rfl (pa_cons (pv 0) (pa_cons (pv 1) (pa_cons (pv 6) (pa_cons (pe_op op_sub (pv 3) pe_int) pa_nil))))) pa_nil))) pa_nil))))))
    (pss_one (ps_ret (pe_tup (pa_cons pe_str (pa_cons (pe_callTy call_tupleOf (by rfl) T.f_tuple (by decide +kernel) (pa_cons (pv 7) pa_nil)) (pa_cons (pe_own o__law_decision (hr.mono (by omega)) rfl (pa_cons (pv 0) (pa_cons (pv 1) (pa_cons (pv 6) (pa_cons (pe_op op_sub (pv 3) pe_int) pa_nil))))) pa_nil))))))))))))))), ?_⟩
    refine ⟨_, rfl, p, _, rfl, hp, (by decide), (by decide), fun H1 way b1 hp1 hw0 hw9 => ?_⟩
    -- a leaf
    have leaf : ∀ (H2 : Hp) (d : Int), But p H H2 → PoolAt H2 p → 0 ≤ d → d < many → ∀ q, H2 q = none → Q (.ref q) (upd H2 q (.tup [.str "wish", .int d])) := by
      intro H2 d b2 hp2 h0 h9 q hq
      obtain ⟨i, rfl⟩ := Int.eq_ofNat_of_zero_le h0
      exact k _ _ 1 (fun r => r.getD i false) (butSame b2 (same_new hq _)) (hp2.keep (same_new hq _)) ⟨q, rfl, .inl ⟨i, upd_same, Int.ofNat_lt.mp h9, rfl, rfl⟩⟩ (by omega)
    have yn : ∀ (H2 : Hp) (q : Addr) (s : String) (b : Bool), (s = "yes" ∧ b = true ∨ s = "no" ∧ b = false) → But p H H2 → PoolAt H2 p → H2 q = some (.tup [.str s]) → Q (.ref q) H2 := by
      intro H2 q s b hs b2 hp2 hq
      exact k _ _ 1 (fun _ => b) b2 hp2 ⟨q, rfl, .inr (.inl ⟨s, b, hs, hq, rfl, rfl⟩)⟩ (by omega)
    refine ⟨_, rfl, _, _, rfl, rfl, _, rfl, ?_⟩
    refine ite2 (fun c1 => ?_) (fun c1 => ?_)
    · refine ⟨_, rfl, ?_⟩
      refine ⟨p, _, rfl, hp1, (by decide), (by decide), fun H2 d2 b2 hp2 h20 h29 => ?_⟩
      refine ⟨rfl, _, rfl, ?_⟩
      refine ite2 (fun c9 => ?_) (fun c9 => ?_)
      · refine ⟨(by show 1 ≤ sizeLine; decide), fun t1 ht1 => ⟨(by show 1 ≤ sizeLine; decide), fun t2 ht2 => ⟨(by show 2 ≤ sizeLine; decide), fun l hl => ?_⟩⟩⟩
        have s1 := same_new ht1 (.tup [.str "yes"])
        have s2 := same_new ht2 (.tup [.str "no"])
        have s3 := same_new hl (.lst [.ref t1, .ref t2])
        have hlp : l ≠ p := fun z => by
          obtain ⟨_, _, e, _⟩ := (hp2.keep s1).keep s2
          rw [z, e] at hl
          cases hl
        refine ⟨_, rfl, p, _, rfl, ((hp2.keep s1).keep s2).keep s3, (by decide), (by decide), fun H3 d3 b3 hp3 h30 h39 => ?_⟩
        have b03 := butTrans (butTrans b1 b2) (butTrans (butOf (s1.trans (s2.trans s3))) b3)
        have tk := tupsBut (((hp2.keep s1).keep s2).keep s3) b3
        have e3 : d3 = 0 ∨ d3 = 1 := by omega
        rcases e3 with rfl | rfl
        · exact ⟨l, _, _, V.ref t1, rfl, rfl, SqL.of (b3 _ _ hlp upd_same), rfl, yn _ t1 "yes" true (.inl ⟨rfl, rfl⟩) b03 hp3 (tk _ _ (s3 _ _ (s2 _ _ upd_same)))⟩
        · exact ⟨l, _, _, V.ref t2, rfl, rfl, SqL.of (b3 _ _ hlp upd_same), rfl, yn _ t2 "no" false (.inr ⟨rfl, rfl⟩) b03 hp3 (tk _ _ (s3 _ _ upd_same))⟩
      · refine ⟨_, rfl, _, rfl, p, _, rfl, hp2, (by omega), (by omega), fun H3 d3 b3 hp3 h30 h39 => ⟨(by show 2 ≤ sizeLine; decide), fun q hq => ?_⟩⟩
        exact leaf H3 d3 (butTrans (butTrans b1 b2) b3) hp3 h30 h39 q hq
    refine ⟨_, rfl, _, _, rfl, rfl, _, rfl, ?_⟩
    refine ite2 (fun c2 => ?_) (fun c2 => ?_)
    · refine ⟨_, rfl, ?_⟩
      refine ⟨p, _, rfl, hp1, (by decide), (by decide), fun H2 d2 b2 hp2 h20 h29 => ?_⟩
      refine ⟨rfl, _, rfl, ?_⟩
      refine ite2 (fun c9 => ?_) (fun c9 => ?_)
      · refine ⟨(by show 1 ≤ sizeLine; decide), fun t1 ht1 => ⟨(by show 1 ≤ sizeLine; decide), fun t2 ht2 => ⟨(by show 2 ≤ sizeLine; decide), fun l hl => ?_⟩⟩⟩
        have s1 := same_new ht1 (.tup [.str "yes"])
        have s2 := same_new ht2 (.tup [.str "no"])
        have s3 := same_new hl (.lst [.ref t1, .ref t2])
        have hlp : l ≠ p := fun z => by
          obtain ⟨_, _, e, _⟩ := (hp2.keep s1).keep s2
          rw [z, e] at hl
          cases hl
        refine ⟨_, rfl, p, _, rfl, ((hp2.keep s1).keep s2).keep s3, (by decide), (by decide), fun H3 d3 b3 hp3 h30 h39 => ?_⟩
        have b03 := butTrans (butTrans b1 b2) (butTrans (butOf (s1.trans (s2.trans s3))) b3)
        have tk := tupsBut (((hp2.keep s1).keep s2).keep s3) b3
        have e3 : d3 = 0 ∨ d3 = 1 := by omega
        rcases e3 with rfl | rfl
        · exact ⟨l, _, _, V.ref t1, rfl, rfl, SqL.of (b3 _ _ hlp upd_same), rfl, yn _ t1 "yes" true (.inl ⟨rfl, rfl⟩) b03 hp3 (tk _ _ (s3 _ _ (s2 _ _ upd_same)))⟩
        · exact ⟨l, _, _, V.ref t2, rfl, rfl, SqL.of (b3 _ _ hlp upd_same), rfl, yn _ t2 "no" false (.inr ⟨rfl, rfl⟩) b03 hp3 (tk _ _ (s3 _ _ upd_same))⟩
      · refine ⟨_, rfl, _, rfl, p, _, rfl, hp2, (by omega), (by omega), fun H3 d3 b3 hp3 h30 h39 => ⟨(by show 2 ≤ sizeLine; decide), fun q hq => ?_⟩⟩
        exact leaf H3 d3 (butTrans (butTrans b1 b2) b3) hp3 h30 h39 q hq
    refine ⟨_, rfl, rfl, _, rfl, ?_⟩
    refine ite2 (fun c3 => ?_) (fun c3 => ?_)
    · refine ⟨_, rfl, ?_⟩
      refine ⟨p, _, rfl, hp1, (by decide), (by decide), fun H2 d2 b2 hp2 h20 h29 => ?_⟩
      refine ⟨rfl, _, rfl, ?_⟩
      refine ite2 (fun c9 => ?_) (fun c9 => ?_)
      · refine ⟨(by show 1 ≤ sizeLine; decide), fun t1 ht1 => ⟨(by show 1 ≤ sizeLine; decide), fun t2 ht2 => ⟨(by show 2 ≤ sizeLine; decide), fun l hl => ?_⟩⟩⟩
        have s1 := same_new ht1 (.tup [.str "yes"])
        have s2 := same_new ht2 (.tup [.str "no"])
        have s3 := same_new hl (.lst [.ref t1, .ref t2])
        have hlp : l ≠ p := fun z => by
          obtain ⟨_, _, e, _⟩ := (hp2.keep s1).keep s2
          rw [z, e] at hl
          cases hl
        refine ⟨_, rfl, p, _, rfl, ((hp2.keep s1).keep s2).keep s3, (by decide), (by decide), fun H3 d3 b3 hp3 h30 h39 => ?_⟩
        have b03 := butTrans (butTrans b1 b2) (butTrans (butOf (s1.trans (s2.trans s3))) b3)
        have tk := tupsBut (((hp2.keep s1).keep s2).keep s3) b3
        have e3 : d3 = 0 ∨ d3 = 1 := by omega
        rcases e3 with rfl | rfl
        · exact ⟨l, _, _, V.ref t1, rfl, rfl, SqL.of (b3 _ _ hlp upd_same), rfl, yn _ t1 "yes" true (.inl ⟨rfl, rfl⟩) b03 hp3 (tk _ _ (s3 _ _ (s2 _ _ upd_same)))⟩
        · exact ⟨l, _, _, V.ref t2, rfl, rfl, SqL.of (b3 _ _ hlp upd_same), rfl, yn _ t2 "no" false (.inr ⟨rfl, rfl⟩) b03 hp3 (tk _ _ (s3 _ _ upd_same))⟩
      · refine ⟨_, rfl, _, rfl, p, _, rfl, hp2, (by omega), (by omega), fun H3 d3 b3 hp3 h30 h39 => ⟨(by show 2 ≤ sizeLine; decide), fun q hq => ?_⟩⟩
        exact leaf H3 d3 (butTrans (butTrans b1 b2) b3) hp3 h30 h39 q hq
    have g1 : 3 ≤ room := by
      rw [decide_eq_true_iff] at c1
      omega
    have g2 : 2 ≤ deep := by
      rw [decide_eq_true_iff] at c2
      omega
    -- not
    refine ⟨_, rfl, _, _, rfl, rfl, _, rfl, ?_⟩
    refine ite2 (fun c4 => ?_) (fun c4 => ?_)
    · refine ⟨_, rfl, _, rfl, _, rfl, _, _, rfl, rfl, _, rfl, _, _, rfl, rfl, p, many, room - 1, deep - 1, rfl, hp1, hm1, hm2, (by omega), (by omega), (by omega), fun H2 v2 m2 f2 b2 hp2 hd hm => ?_⟩
      refine ⟨(by show 2 ≤ sizeLine; decide), fun q hq => ?_⟩
      have s1 := same_new hq (.tup [.str "not", v2])
      exact k _ _ (m2 + 1) (fun r => !f2 r) (butSame (butTrans b1 b2) s1) (hp2.keep s1) ⟨q, rfl, .inr (.inr (.inl ⟨v2, m2, f2, upd_same, hd.keep (tupsOf s1), rfl, rfl⟩))⟩ (by omega)
    refine ⟨_, rfl, _, _, rfl, rfl, _, rfl, ?_⟩
    refine ite2 (fun c5 => ?_) (fun c5 => ?_)
    · have mn : 1 ≤ (if room - 1 < 6 then room - 1 else 6) ∧ (if room - 1 < 6 then room - 1 else 6) ≤ 6 ∧ (if room - 1 < 6 then room - 1 else 6) ≤ room - 1 := by
        split <;> omega
      refine ⟨_, rfl, _, rfl, _, _, rfl, rfl, _, _, rfl, p, _, rfl, hp1, (by omega), (by omega), fun H2 d b2 hp2 h20 h29 => ⟨_, _, rfl, rfl, ?_⟩⟩
      obtain ⟨sz, esz⟩ := Int.eq_ofNat_of_zero_le (show 0 ≤ 1 + d by omega)
      refine gname_eq (u := V.int (sz : Int)) (congrArg V.int esz) ?_
      have z1 : 1 ≤ sz := by omega
      have z6 : sz ≤ 6 := by omega
      have zr : (sz : Int) ≤ room - 1 := by omega
      have e1 : 1 ≤ (room - 1) / (sz : Int) := by
        have := Int.le_ediv_of_mul_le (c := (sz : Int)) (a := 1) (b := room - 1) (by omega) (by omega)
        exact this
      have e2 : (room - 1) / (sz : Int) * (sz : Int) ≤ room - 1 := Int.ediv_mul_le _ (by omega)
      generalize hE : (room - 1) / (sz : Int) = each at e1 e2
      obtain ⟨ne, hne⟩ := Int.eq_ofNat_of_zero_le (show 0 ≤ each by omega)
      refine ⟨_, rfl, (sz : Int), rfl, (by omega), (by omega), fun D hD => ?_⟩
      have hDp : D ≠ p := fun z => by
        obtain ⟨_, _, e, _⟩ := hp2
        rw [z, e] at hD
        cases hD
      refine lc_range (lo := 0) (n := sz) (fun j H' => But p H2 H' ∧ PoolAt H' p ∧ ∃ ds, ∃ mfs : List (Nat × An), H' D = some (.lst ds) ∧ ds.length = j ∧ Paired (fun d mf => DecAt many n H' d mf.1 mf.2) ds mfs ∧ ∀ x ∈ mfs, x.1 ≤ ne)
        ⟨butOf (same_new hD _), hp2.keep (same_new hD _), [], [], upd_same, rfl, .nil, fun x hx => by cases hx⟩ ?_ ?_
      · rintro j H3 hj ⟨b3, hp3, ds, mfs, hD3, hdl, hds, hle⟩
        refine ⟨rfl, _, rfl, _, rfl, _, rfl, _, _, rfl, rfl, _, rfl, _, _, rfl, rfl, ⟨(by omega), (by omega)⟩, _, rfl, _, _, rfl, rfl, ?_⟩
        refine ⟨p, many, (room - 1) / (sz : Int), deep - 1, rfl, hp3, hm1, hm2, (by rw [hE]; exact e1), (by omega), (by omega), fun H4 v4 m4 f4 b4 hp4 hd4 hm4 => ?_⟩
        rw [hE] at hm4
        have hD4 := b4 _ _ hDp hD3
        have tk := tupsLst hD4 (.lst (ds ++ [v4]))
        refine ⟨ds, hD4, small1000 (by omega), butNew (butTrans b3 b4) hD _, ?_, ds ++ [v4], mfs ++ [(m4, f4)], upd_same, by rw [List.length_append, hdl]; rfl, ?_, ?_⟩
        · obtain ⟨x1, x2, x3, x4⟩ := hp4
          exact ⟨x1, x2, by rw [upd_ne (fun z => hDp z.symm)]; exact x3, x4⟩
        · exact pApp (pImp hds fun _ _ z => z.keep ((tupsBut hp3 b4).trans tk)) (.cons (hd4.keep tk) .nil)
        · intro x hx
          rcases List.mem_append.mp hx with z | z
          · exact hle x z
          · rw [List.mem_singleton.mp z]
            show m4 ≤ ne
            omega
      · rintro H3 ⟨b3, hp3, ds, mfs, hD3, hdl, hds, hle⟩
        have hsum := sum_le hle
        rw [← pLen hds, hdl] at hsum
        have hsum2 : (((mfs.map (·.1)).sum : Nat) : Int) ≤ room - 1 := by
          have q1 : ((sz * ne : Nat) : Int) ≤ room - 1 := by
            rw [Int.natCast_mul, Int.mul_comm, ← hne]
            exact e2
          exact Int.le_trans (Int.ofNat_le.mpr hsum) q1
        refine ⟨(by show 2 ≤ sizeLine; decide), fun l hl => ?_⟩
        have s4 := same_new hl (.lst [.str "and", .str "or"])
        have done : ∀ (s : String) (b : Bool) (t q : Addr), (s = "and" ∧ b = true ∨ s = "or" ∧ b = false) → (upd H3 l (.lst [.str "and", .str "or"])) t = none → (upd (upd H3 l (.lst [.str "and", .str "or"])) t (.tup ds)) q = none → Q (.ref q) (upd (upd (upd H3 l (.lst [.str "and", .str "or"])) t (.tup ds)) q (.tup [.str s, .ref t])) := by
          intro s b t q hs ht hq
          have s5 := s4.trans ((same_new ht (.tup ds)).trans (same_new hq (.tup [.str s, .ref t])))
          exact k _ _ ((mfs.map (·.1)).sum + 1) (fun r => if b = true then mfs.all (fun mf => mf.2 r) else mfs.any (fun mf => mf.2 r)) (butSame (butTrans (butTrans b1 b2) b3) s5) (hp3.keep s5)
            ⟨q, rfl, .inr (.inr (.inr (.inl ⟨s, b, t, ds, mfs, hs, upd_same, (same_new hq _) _ _ upd_same, by omega, by omega, pImp hds fun _ _ z => z.keep (tupsOf s5), rfl, rfl⟩)))⟩ (by omega)
        have e9 : way % 2 = 0 ∨ way % 2 = 1 := by omega
        refine ⟨_, rfl, _, _, rfl, rfl, (by show (0 : Int) < 2; decide), ?_⟩
        rcases e9 with e9 | e9
        · refine ⟨l, _, _, V.str "and", rfl, rfl, SqL.of upd_same, by rw [e9]; rfl, ?_⟩
          refine ⟨_, rfl, D, ds, rfl, .inl ⟨SqL.of (s4 _ _ hD3), fun t ht => ⟨(by show 2 ≤ sizeLine; decide), fun q hq => done "and" true t q (.inl ⟨rfl, rfl⟩) ht hq⟩⟩⟩
        · refine ⟨l, _, _, V.str "or", rfl, rfl, SqL.of upd_same, by rw [e9]; rfl, ?_⟩
          refine ⟨_, rfl, D, ds, rfl, .inl ⟨SqL.of (s4 _ _ hD3), fun t ht => ⟨(by show 2 ≤ sizeLine; decide), fun q hq => done "or" false t q (.inr ⟨rfl, rfl⟩) ht hq⟩⟩⟩
    -- cases
    have mn : 1 ≤ (if (room - 2) / 2 + 1 < 4 then (room - 2) / 2 + 1 else 4) ∧ (if (room - 2) / 2 + 1 < 4 then (room - 2) / 2 + 1 else 4) ≤ 4 := by
      split <;> omega
    refine ⟨_, rfl, _, rfl, _, _, rfl, rfl, _, _, rfl, rfl, ⟨(by decide), (by decide)⟩, _, _, rfl, rfl, _, _, rfl, p, _, rfl, hp1, (by show 0 < (if (room - 2) / 2 + 1 < 4 then (room - 2) / 2 + 1 else 4); omega), (by show (if (room - 2) / 2 + 1 < 4 then (room - 2) / 2 + 1 else 4) < 1073741824; omega), fun H2 d b2 hp2 h20 h29 => ⟨_, _, rfl, rfl, ?_⟩⟩
    have h29 : d < (if (room - 2) / 2 + 1 < 4 then (room - 2) / 2 + 1 else 4) := h29
    obtain ⟨sz, esz⟩ := Int.eq_ofNat_of_zero_le (show 0 ≤ 1 + d by omega)
    refine gname_eq (u := V.int (sz : Int)) (congrArg V.int esz) ?_
    have z1 : 1 ≤ sz := by omega
    have z4 : sz ≤ 4 := by omega
    have e2 : (room - 1) / (2 * (sz : Int) + 1) * (2 * (sz : Int) + 1) ≤ room - 1 := Int.ediv_mul_le _ (by omega)
    refine ⟨_, rfl, _, _, rfl, rfl, _, rfl, _, _, rfl, rfl, .inl ⟨(by decide), (by decide)⟩, _, _, rfl, rfl, _, _, rfl, rfl, ⟨(by show 0 < 2 * (sz : Int) + 1; omega), (by show 2 * (sz : Int) + 1 < 1073741824; omega)⟩, ?_⟩
    refine gname_eq (u := V.int ((room - 1) / (2 * (sz : Int) + 1))) rfl ?_
    generalize (room - 1) / (2 * (sz : Int) + 1) = each at e2
    refine ⟨_, rfl, _, _, rfl, rfl, _, rfl, ?_⟩
    refine ite2 (fun c6 => ?_) (fun c6 => ?_)
    · refine ⟨_, rfl, _, rfl, p, _, rfl, hp2, (by omega), (by omega), fun H3 d3 b3 hp3 h30 h39 => ⟨(by show 2 ≤ sizeLine; decide), fun q hq => ?_⟩⟩
      exact leaf H3 d3 (butTrans (butTrans b1 b2) b3) hp3 h30 h39 q hq
    have g3 : 1 ≤ each := by
      rw [decide_eq_true_iff] at c6
      omega
    obtain ⟨ne, rfl⟩ := Int.eq_ofNat_of_zero_le (show 0 ≤ each by omega)
    refine ⟨(by show 0 ≤ sizeLine; decide), fun R hR => ?_⟩
    have hRp : R ≠ p := fun z => by
      obtain ⟨_, _, e, _⟩ := hp2
      rw [z, e] at hR
      cases hR
    have s3 := same_new hR (.lst [])
    refine ⟨_, rfl, (sz : Int), rfl, (by omega), (by omega), ?_⟩
    refine for_range (lo := 0) (n := sz) (fun j σ H' => ∃ x8 x10 rvs, ∃ ms : List ((Nat × An) × (Nat × An)), σ = [some (.ref p), some (.int many), some (.int room), some (.int deep), some (.int way), some (.int (sz : Int)), some (.int (ne : Int)), some (.ref R), x8, none, x10] ∧ But p H2 H' ∧ PoolAt H' p ∧
        H' R = some (.lst rvs) ∧ rvs.length = j ∧ Paired (RungAt many n H') rvs ms ∧ ∀ x ∈ ms, x.1.1 ≤ ne ∧ x.2.1 ≤ ne)
      ⟨none, none, [], [], rfl, butOf s3, hp2.keep s3, upd_same, rfl, .nil, fun x hx => by cases hx⟩ ?_ ?_
    · rintro j σ H3 hj ⟨x8, x10, rvs, ms, rfl, b3, hp3, hR3, hrl, hrs, hle⟩
      refine ⟨_, rfl, _, rfl, _, rfl, _, rfl, _, _, rfl, rfl, p, many, (ne : Int), deep - 1, rfl, hp3, hm1, hm2, g3, (by omega), (by omega), fun H4 v4 m4 f4 b4 hp4 hd4 hm4 => ?_⟩
      have hR4 := b4 _ _ hRp hR3
      refine ⟨_, rfl, .inl ⟨rfl, _, SqL.of hR4⟩, _, rfl, _, rfl, _, rfl, _, rfl, _, rfl, _, _, rfl, rfl, p, many, (ne : Int), deep - 1, rfl, hp4, hm1, hm2, g3, (by omega), (by omega), fun H5 v5 m5 f5 b5 hp5 hd5 hm5 => ?_⟩
      refine ⟨(by show 2 ≤ sizeLine; decide), fun t ht => ?_⟩
      have hR5 := b5 _ _ hRp hR4
      have s6 := same_new ht (.tup [v4, v5])
      have hR6 := s6 _ _ hR5
      have tk := tupsLst hR6 (.lst (rvs ++ [V.ref t]))
      have tk5 := (tupsOf s6).trans tk
      have tk4 := (tupsBut hp4 b5).trans tk5
      refine ⟨R, rvs, _, rfl, rfl, hR6, small1000 (by omega), _, _, rvs ++ [.ref t], ms ++ [((m4, f4), (m5, f5))], rfl, butNew (butSame (butTrans b3 (butTrans b4 b5)) s6) hR _, ?_, upd_same, by rw [List.length_append, hrl]; rfl, ?_, ?_⟩
      · obtain ⟨y1, y2, y3, y4⟩ := hp5.keep s6
        exact ⟨y1, y2, by rw [upd_ne (fun z => hRp z.symm)]; exact y3, y4⟩
      · exact pApp (pImp hrs fun _ _ z => z.keep ((tupsBut hp3 b4).trans tk4)) (.cons ⟨t, v4, v5, rfl, tk _ _ upd_same, hd4.keep tk4, hd5.keep tk5⟩ .nil)
      · intro x hx
        rcases List.mem_append.mp hx with z | z
        · exact hle x z
        · rw [List.mem_singleton.mp z]
          exact ⟨by show m4 ≤ ne; omega, by show m5 ≤ ne; omega⟩
    · rintro σ H3 ⟨x8, x10, rvs, ms, rfl, b3, hp3, hR3, hrl, hrs, hle⟩
      have hsum := sum_le2 hle
      rw [← pLen hrs, hrl] at hsum
      refine ⟨_, rfl, R, rvs, rfl, .inl ⟨SqL.of hR3, fun t ht => ?_⟩⟩
      have s4 := same_new ht (.tup rvs)
      refine ⟨_, rfl, _, rfl, _, rfl, _, rfl, _, _, rfl, rfl, p, many, (ne : Int), deep - 1, rfl, hp3.keep s4, hm1, hm2, g3, (by omega), (by omega), fun H4 v4 m4 f4 b4 hp4 hd4 hm4 => ?_⟩
      refine ⟨(by show 3 ≤ sizeLine; decide), fun q hq => ?_⟩
      have s5 := same_new hq (.tup [.str "cases", .ref t, v4])
      have tk := ((tupsOf s4).trans (tupsBut (hp3.keep s4) b4)).trans (tupsOf s5)
      have tk2 := (tupsBut (hp3.keep s4) b4).trans (tupsOf s5)
      refine k _ _ ((ms.map (fun x => x.1.1 + x.2.1)).sum + m4 + 1) (ladder ms f4) (butSame (butTrans (butTrans b1 b2) (butTrans b3 (butTrans (butOf s4) b4))) s5) (hp4.keep s5)
        ⟨q, rfl, .inr (.inr (.inr (.inr ⟨t, v4, rvs, ms, m4, f4, upd_same, tk2 _ _ upd_same, by omega, by omega, pImp hrs fun _ _ z => z.keep tk, hd4.keep (tupsOf s5), rfl, rfl⟩)))⟩ ?_
      have q1 : ((sz * (2 * ne) + ne : Nat) : Int) ≤ room - 1 := by
        have q2 : ((sz * (2 * ne) + ne : Nat) : Int) = (ne : Int) * (2 * (sz : Int) + 1) := by
          rw [show sz * (2 * ne) + ne = ne * (2 * sz + 1) by rw [Nat.mul_add, Nat.mul_one, Nat.mul_left_comm sz 2 ne, Nat.mul_left_comm ne 2 sz, Nat.mul_comm sz ne], Int.natCast_mul]
          rfl
        rw [q2]
        exact e2
      omega
end
end EA

set_option maxHeartbeats 4000000
namespace EA
open PySem PySem.Spec PyProof.Rows L2
def rowOf (many : Nat) (n : Int) : Row := (List.range many).map fun (k : Nat) => decide (V.int (Builtin.bitAnd (n / 2 ^ ((many : Int) - 1 - (0 + (k : Int))).toNat) 1) = V.int 1)
def allN (many : Nat) : Nat := ((1 : Int) * 2 ^ (many : Int).toNat).toNat
def allRows (many : Nat) : List Row := (List.range (allN many)).map fun (i : Nat) => rowOf many (0 + (i : Int))
def allOk (many : Nat) : Bool := decide ((allRows many).Nodup) && (allRows many).all (fun r => decide (r.length = many)) && decide ((allRows many).length ≤ 32) && decide (0 < (allRows many).length) && decide ((1 : Int) * 2 ^ (many : Int).toNat ≤ 32) && decide (0 ≤ (1 : Int) * 2 ^ (many : Int).toNat)
theorem allOk5 : allOk 1 = true ∧ allOk 2 = true ∧ allOk 3 = true ∧ allOk 4 = true ∧ allOk 5 = true := by decide +kernel
theorem all_ok {many : Nat} (h1 : 1 ≤ many) (h5 : many ≤ 5) : (allRows many).Nodup ∧ (∀ r ∈ allRows many, r.length = many) ∧ (allRows many).length ≤ 32 ∧ 0 < (allRows many).length ∧ (1 : Int) * 2 ^ (many : Int).toNat ≤ 32 ∧ 0 ≤ (1 : Int) * 2 ^ (many : Int).toNat := by
  have h : allOk many = true := by
    obtain ⟨a1, a2, a3, a4, a5⟩ := allOk5
    have : many = 1 ∨ many = 2 ∨ many = 3 ∨ many = 4 ∨ many = 5 := by omega
    rcases this with rfl | rfl | rfl | rfl | rfl <;> assumption
  unfold allOk at h
  simp only [Bool.and_eq_true, decide_eq_true_eq, List.all_eq_true] at h
  obtain ⟨⟨⟨⟨⟨a, b⟩, c⟩, d⟩, e⟩, g⟩ := h
  exact ⟨a, b, c, d, e, g⟩
def sc54o : Scope := match defBody s54 with
  | [.Return (some (.ListComp _ _ sc _)) _] => sc
  | _ => defScope s54
def spAll : Sp := fun vs H Q _ => ∃ (many : Nat), vs = [.int many] ∧ 1 ≤ many ∧ many ≤ 5 ∧ ∀ (H' : Hp) (l : Addr) (rvs : List V), Same H H' → H l = none → H' l = some (.lst rvs) → RowsV H' rvs (allRows many) → Q (.ref l) H'
section
variable {P : Program} {w : World} {K : PySem.W.Frag} {mg : Str → Option Value} {base : Heap} {C B : Addr} {f : Addr} {fd : FuncData}
theorem sc54 : FnScope ["_law_many", "_law_number", "_law_k"] ["_law_many"] (defScope s54) := ⟨rfl, rfl, rfl, by decide +kernel, rfl, by decide +kernel, by decide +kernel⟩
theorem ok54 (T : Tx K mg C B) (F : FunD K "_law_all_rows" "_law_all_rows" (defArgs s54) (defBody s54) (defScope s54) [] [] f fd) : FnOk P w K mg base CX0 1 f fd ["_law_many"] spAll := by
  refine ok0 F sc54 (fun vs H Q E h => ?_) (fun cdv A outer s H vs Q E hr h => ?_)
  · obtain ⟨_, rfl, _⟩ := h
    rfl
  · obtain ⟨many, rfl, h1, h5, k⟩ := h
    obtain ⟨hnd, hlen, h32, hpos, hn1, hn2⟩ := all_ok h1 h5
    refine ⟨_, (pss_one (ps_ret (pe_lc (own := [("_law_number", 1)]) rfl sc54.nd (pi_range1 (by rfl) T.f_range (pa_cons (pe_op op_shl pe_int (pv 0)) pa_nil)) (blkOk_by (N := ["_law_many", "_law_number", "_law_k"]) (sc := defScope s54) (by decide +kernel)) (fun _ _ _ _ _ => (pg_name (i := 1) sc54.nd rfl (by first | exact Or.inl rfl | exact Or.inr rfl))) (fun _ _ _ _ _ => pts_nil) (fun _ _ _ _ _ => (pe_callTy (r := rTupleOf K) call_tupleOf (by rfl) T.f_tuple (by decide +kernel) (pa_cons (pe_lc (own := [("_law_k", 2)]) rfl sc54.nd (pi_range1 (by rfl) T.f_range (pa_cons (pv 0) pa_nil)) (blkOk_by (N := ["_law_many", "_law_number", "_law_k"]) (sc := (relS sc54o (defScope s54))) (by decide +kernel)) (fun _ _ _ _ _ => (pg_name (i := 2) sc54.nd rfl (by first | exact Or.inl rfl | exact Or.inr rfl))) (fun _ _ _ _ _ => pts_nil) (fun _ _ _ _ _ => (pe_cmpR op_eq (pe_op op_and (pe_op op_shr (pv 1) (pe_op op_sub (pe_op op_sub (pv 0) pe_int) (pv 2))) pe_int) pe_int (nomark _)))) pa_nil)))))), ?_⟩
    refine ⟨_, rfl, _, _, rfl, rfl, ⟨(by omega), (by omega), (by decide)⟩, _, rfl, (by omega), (by omega), fun D hD => ?_⟩
    refine lc_range (lo := 0) (n := allN many) (fun j H' => Same H H' ∧ ∃ rvs, H' D = some (.lst rvs) ∧ rvs.length = j ∧ RowsV H' rvs ((List.range j).map fun (i : Nat) => rowOf many (0 + (i : Int)))) ⟨same_new hD _, [], upd_same, rfl, .nil⟩ ?_ ?_
    · rintro j H1 hj ⟨s1, rvs, hD1, hrl, hrs⟩
      refine ⟨rfl, _, rfl, (many : Int), rfl, (by omega), (by omega), fun D2 hD2 => ?_⟩
      have hj32 : j < 32 := by
        unfold allN at hj
        omega
      refine lc_range (lo := 0) (n := many) (fun i H' => Same H1 H' ∧ H' D2 = some (.lst (((List.range i).map fun (k : Nat) => decide (V.int (Builtin.bitAnd ((0 + (j : Int)) / 2 ^ ((many : Int) - 1 - (0 + (k : Int))).toNat) 1) = V.int 1)).map V.bl))) ⟨same_new hD2 _, upd_same⟩ ?_ ?_
      · rintro i H2 hi ⟨s2, hD22⟩
        refine ⟨rfl, _, rfl, _, rfl, _, _, rfl, rfl, _, rfl, _, _, rfl, rfl, _, _, rfl, rfl, ?_, _, _, rfl, rfl, rfl, ?_⟩
        · show 0 ≤ (many : Int) - 1 - (0 + (i : Int))
          omega
        refine ⟨_, hD22, small1000 ?_, same_upd s2 hD2 _, ?_⟩
        · rw [List.length_map, List.length_map, List.length_range]
          omega
        · rw [upd_same, List.range_succ, List.map_append, List.map_append]
          rfl
      · rintro H2 ⟨s2, hD22⟩
        refine ⟨D2, _, rfl, .inl ⟨SqL.of hD22, fun t ht => ?_⟩⟩
        have s3 := s2.trans (same_new ht (.tup ((rowOf many (0 + (j : Int))).map V.bl)))
        have hD3 := s3 _ _ hD1
        have tk := tupsLst hD3 (.lst (rvs ++ [V.ref t]))
        refine ⟨rvs, hD3, small1000 (by omega), same_upd (s1.trans s3) hD _, rvs ++ [.ref t], upd_same, by rw [List.length_append, hrl]; rfl, ?_⟩
        rw [List.range_succ, List.map_append]
        exact pApp (pImp hrs fun _ _ z => z.keep ((tupsOf s3).trans tk)) (.cons ⟨t, rfl, tk _ _ upd_same⟩ .nil)
    · rintro H1 ⟨s1, rvs, hD1, hrl, hrs⟩
      exact k H1 D rvs s1 hD hD1 hrs
end
end EA

set_option maxHeartbeats 4000000
namespace EA
open PySem PySem.Spec PyProof.Rows L2
def spRowsOf : Sp := fun vs H Q _ => ∃ (p : Addr) (many most : Nat), vs = [.ref p, .int many, .int most] ∧ PoolAt H p ∧ 1 ≤ many ∧ many ≤ 5 ∧ 1 ≤ most ∧ ∀ (H' : Hp) (l : Addr) (rvs : List V) (rs : List Row), But p H H' → PoolAt H' p → H l = none → H' l = some (.lst rvs) → RowsV H' rvs rs → rs.Nodup → (∀ r ∈ rs, r.length = many) → rs.length ≤ 32 → rs ≠ [] → Q (.ref l) H'
def St55 (p l0 : Addr) (many most : Nat) (way : Int) (H : Hp) (R : List Row → Prop) (σ : L2.St) (H' : Hp) : Prop := ∃ L rvs rs rvs0 x8, σ = [some (.ref p), some (.int many), some (.int most), some (.ref l0), some (.int way), some (.ref L), none, none, x8] ∧ But p H H' ∧ PoolAt H' p ∧ L ≠ p ∧ H' L = some (.lst rvs) ∧ RowsV H' rvs rs ∧ rs.Sublist (allRows many) ∧ l0 ≠ p ∧ H' l0 = some (.lst rvs0) ∧ RowsV H' rvs0 (allRows many) ∧ R rs
theorem PoolAt.put {H : Hp} {p D : Addr} (h : PoolAt H p) (n : D ≠ p) (o : HO) : PoolAt (upd H D o) p := by
  obtain ⟨a, b, e, r⟩ := h
  exact ⟨a, b, by rw [upd_ne (fun z => n z.symm)]; exact e, r⟩
theorem PoolAt.new {H : Hp} {p D : Addr} (h : PoolAt H p) (n : H D = none) : D ≠ p := by
  rintro rfl
  obtain ⟨a, b, e, r⟩ := h
  rw [n] at e
  cases e
theorem PoolAt.fresh {H H' : Hp} {p l : Addr} (h : PoolAt H' p) (b : But p H H') (n : H' l = none) : H l = none := by
  cases e : H l with
  | none => rfl
  | some o =>
    have := b l o (h.new n) e
    rw [n] at this
    cases this
theorem insert_perm {α : Type} (fs : List α) (i : Nat) (r : α) : (fs.take i ++ [r] ++ fs.drop i).Perm (fs ++ [r]) := by
  have h : (fs.take i ++ [r] ++ fs.drop i).Perm (fs.take i ++ fs.drop i ++ [r]) := by
    rw [List.append_assoc, List.append_assoc]
    exact List.Perm.append_left _ List.perm_append_comm
  rw [List.take_append_drop] at h
  exact h
theorem cut_most (xs : List V) (most : Nat) : cutV xs none (some (most : Int)) = xs.take (min most xs.length) := by
  unfold cutV
  rw [HT.sIx_none, HT.sIx_nat, List.drop_zero, Nat.sub_zero]
theorem row_last {r : Row} (h : 1 ≤ r.length) : ∃ b, atI (r.map V.bl) (-1) = some (.bl b) := by
  have hne : r ≠ [] := by
    rintro rfl
    simp at h
  refine ⟨r.getLast hne, ?_⟩
  have e := List.dropLast_concat_getLast hne
  have e2 : r.map V.bl = (r.dropLast).map V.bl ++ [V.bl (r.getLast hne)] := by
    conv => lhs; rw [← e]
    rw [List.map_append]
    rfl
  rw [e2]
  exact atI_last _ _
section
variable {P : Program} {w : World} {K : PySem.W.Frag} {mg : Str → Option Value} {base : Heap} {C B : Addr} {f : Addr} {fd : FuncData}
theorem sc55 : FnScope ["_law_pool_here", "_law_many", "_law_most", "_law_every", "_law_way", "_law_some_here", "_law_found", "_law_line", "_law_at"] ["_law_pool_here", "_law_many", "_law_most"] (defScope s55) := ⟨rfl, rfl, rfl, by decide +kernel, rfl, by decide +kernel, by decide +kernel⟩
theorem ok55 (T : Tx K mg C B) (F : FunD K "_law_rows_of" "_law_rows_of" (defArgs s55) (defBody s55) (defScope s55) [] [] f fd) (o__law_take : Own P w K mg base 1 "_law_take" ["_law_pool_here", "_law_many"] [] spTake)
    (o__law_all_rows : Own P w K mg base 1 "_law_all_rows" ["_law_many"] [] spAll) : FnOk P w K mg base CX0 2 f fd ["_law_pool_here", "_law_many", "_law_most"] spRowsOf := by
  refine ok0 F sc55 (fun vs H Q E h => ?_) (fun cdv A outer s H vs Q E hr h => ?_)
  · obtain ⟨_, _, _, rfl, _⟩ := h
    rfl
  · obtain ⟨p, many, most, rfl, hp, h1, h5, hm1, k⟩ := h
    obtain ⟨hnd, hlen, h32, hpos, _, _⟩ := all_ok h1 h5
    -- found, the loop, the cut
    have tailA : ∃ t, PSs (cxOf CX0 P w K mg base ["_law_pool_here", "_law_many", "_law_most", "_law_every", "_law_way", "_law_some_here", "_law_found", "_law_line", "_law_at"] "_law_rows_of" (defScope s55) f cdv A outer s H E).nox ((defBody s55).drop 7) t ∧ ∀ l0 way σ H', St55 p l0 many most way H (fun rs => rs ≠ []) σ H' → t { nx := fun _ H' => Q .non H', rt := Q } σ H' := by
      refine ⟨_, (pss_cons (ps_set (i := 6) sc55.nd rfl (by first | exact Or.inl rfl | exact Or.inr rfl) (pe_lst pa_nil))
    (pss_cons (ps_for PassesOwn.never rfl (pi_list (pv 5)) (pg_name (i := 7) sc55.nd rfl (by first | exact Or.inl rfl | exact Or.inr rfl)) (pss_one (ps_expr (pe_bm PySem.F.plainAttrs_list PySem.F.slot_list_insert PySem.F.type_list_insert mt_insert (pv 6) (pa_cons (pe_own o__law_take (hr.mono (by omega)) rfl (pa_cons (pv 0) (pa_cons (pe_op op_add (pe_callB call_len_seq (by rfl) T.f_len (by decide +kernel) (pa_cons (pv 6) pa_nil)) pe_int) pa_nil))) (pa_cons (pv 7) pa_nil))))))
    (pss_one (ps_ret (pe_slice sl_list (pv 6) po_none (po_some (pv 2))))))), ?_⟩
      rintro l0 way σ H2 ⟨L, rvs, rs, rvs0, x8, rfl, b2, hp2, hLp, hL, hrs, hsub, hl0p, hl0, hrs0, hne⟩
      refine ⟨(by show 0 ≤ sizeLine; decide), fun F hF => ?_⟩
      have s3 := same_new hF (.lst [])
      have hFp := hp2.new hF
      have hFL : L ≠ F := ne_of_none hL hF
      have rl : rs.length ≤ 32 := Nat.le_trans hsub.length_le h32
      refine ⟨_, rfl, L, rfl, ⟨_, SqL.of (s3 _ _ hL)⟩, ?_⟩
      refine for_list (K := K) (a := L) (xs := rvs) (fun j σ H' => ∃ x7 fvs fs, σ = [some (.ref p), some (.int many), some (.int most), some (.ref l0), some (.int way), some (.ref L), some (.ref F), x7, x8] ∧ But p H2 H' ∧ PoolAt H' p ∧ H' L = some (.lst rvs) ∧ H' F = some (.lst fvs) ∧ RowsV H' fvs fs ∧ fs.Perm (rs.take j))
        ⟨none, [], [], rfl, butOf s3, hp2.keep s3, s3 _ _ hL, upd_same, .nil, List.Perm.refl _⟩ (fun j σ H' _ ⟨_, _, _, _, _, _, h, _⟩ => SqL.of h) ?_ ?_
      · rintro j x σ H3 hx ⟨x7, fvs, fs, rfl, b3, hp3, hL3, hF3, hfs, hperm⟩
        obtain ⟨r, hrx, hxr⟩ := pAt hrs hx
        have hfl : fvs.length ≤ 32 := by
          rw [pLen hfs, hperm.length_eq, List.length_take]
          omega
        refine ⟨_, rfl, .inl ⟨rfl, _, SqL.of hF3⟩, _, rfl, _, rfl, F, _, rfl, .inl (SqL.of hF3), _, _, rfl, rfl, p, _, rfl, hp3, (by omega), (by omega), fun H4 d b4 hp4 h40 h49 => ?_⟩
        have hF4 := b4 _ _ hFp hF3
        have tk := tupsLst hF4 (.lst (fvs.take d.toNat ++ [x] ++ fvs.drop d.toNat))
        have tk3 := (tupsBut hp3 b4).trans tk
        refine ⟨_, rfl, F, fvs, d, x, rfl, rfl, hF4, small1000 (by omega), h40, (by omega), _, fvs.take d.toNat ++ [x] ++ fvs.drop d.toNat, fs.take d.toNat ++ [r] ++ fs.drop d.toNat, rfl, butNew (butTrans b3 b4) hF _, hp4.put hFp _, ?_, upd_same, ?_, ?_⟩
        · rw [upd_ne hFL]
          exact b4 _ _ hLp hL3
        · have q := RowsV.keep tk3 hfs
          exact pApp (pApp (pTk _ q) (.cons (hxr.keep ((tupsBut hp2 b3).trans tk3)) .nil)) (pDr _ q)
        · rw [take_more hrx]
          exact (insert_perm fs d.toNat r).trans (hperm.append_right _)
      · rintro σ H3 ⟨x7, fvs, fs, rfl, b3, hp3, hL3, hF3, hfs, hperm⟩
        rw [List.take_of_length_le (by rw [← pLen hrs]; exact Nat.le_refl _)] at hperm
        refine ⟨_, rfl, _, rfl, _, rfl, F, fvs, rfl, SqL.of hF3, fun l hl => ?_⟩
        have s4 := same_new hl (.lst (cutV fvs none (some (most : Int))))
        have hfnd : fs.Nodup := (hperm.nodup_iff).mpr (hnd.sublist hsub)
        have hfl : fs.length = rs.length := hperm.length_eq
        have hrl : 0 < rs.length := List.length_pos_iff.mpr hne
        refine k _ l _ (fs.take (min most fvs.length)) (butSame (butTrans b2 b3) s4) (hp3.keep s4) (hp3.fresh (butTrans b2 b3) hl) upd_same ?_ (hfnd.sublist (List.take_sublist _ _)) (fun r hr => ?_) ?_ ?_
        · rw [cut_most]
          exact RowsV.keep (tupsOf s4) (pTk _ hfs)
        · exact hlen r (hsub.subset (hperm.mem_iff.mp (List.mem_of_mem_take hr)))
        · rw [List.length_take]
          omega
        · refine List.ne_nil_of_length_pos ?_
          rw [List.length_take, pLen hfs]
          omega
    obtain ⟨tA, pA, hA⟩ := tailA
    -- if none is left: the first
    have tailB : ∃ t, PSs (cxOf CX0 P w K mg base ["_law_pool_here", "_law_many", "_law_most", "_law_every", "_law_way", "_law_some_here", "_law_found", "_law_line", "_law_at"] "_law_rows_of" (defScope s55) f cdv A outer s H E).nox ((defBody s55).drop 6) t ∧ ∀ l0 way σ H', St55 p l0 many most way H (fun _ => True) σ H' → t { nx := fun _ H' => Q .non H', rt := Q } σ H' := by
      refine ⟨_, (pss_cons (ps_if (pt_cmpR (op_eqD hr.units) (pv 5) (pe_lst pa_nil) (nomark _)) (pss_one (ps_set (i := 5) sc55.nd rfl (by first | exact Or.inl rfl | exact Or.inr rfl) (pe_slice sl_list (pv 3) po_none (po_some pe_int)))) pss_nil)
    pA), ?_⟩
      rintro l0 way σ H2 ⟨L, rvs, rs, rvs0, x8, rfl, b2, hp2, hLp, hL, hrs, hsub, hl0p, hl0, hrs0, _⟩
      refine ⟨_, rfl, (by show 0 ≤ sizeLine; decide), fun e he => ?_⟩
      have s3 := same_new he (.lst [])
      refine ⟨_, _, RowsV.dp (s3 _ _ hL) (RowsV.keep (tupsOf s3) hrs), Dp.lst (SqL.of upd_same) .nil, rowDs_shaped rs, nilD_shaped, _, rfl, ?_⟩
      have ed : PyData.eqv (.list (rs.map rowD)) (.list []) = decide (rs = []) := by
        cases rs <;> simp [PyData.eqv, PyData.eqvAll]
      refine iteB ed ?_
      by_cases c1 : rs = []
      · refine iteD c1 ?_
        refine ⟨_, rfl, _, rfl, l0, rvs0, rfl, SqL.of (s3 _ _ hl0), fun l hl => ?_⟩
        have s4 := s3.trans (same_new hl (.lst (cutV rvs0 none (some (1 : Int)))))
        have ec : cutV rvs0 none (some (1 : Int)) = rvs0.take (min 1 rvs0.length) := cut_most rvs0 1
        have hl4 := pLen hrs0
        refine hA l0 way _ _ ⟨l, cutV rvs0 none (some (1 : Int)), (allRows many).take (min 1 rvs0.length), rvs0, x8, rfl, butSame b2 s4, hp2.keep s4, (hp2.keep s3).new hl, upd_same, ?_, List.take_sublist _ _, hl0p, s4 _ _ hl0, RowsV.keep (tupsOf s4) hrs0, ?_⟩
        · rw [ec]
          exact RowsV.keep (tupsOf s4) (pTk _ hrs0)
        · refine List.ne_nil_of_length_pos ?_
          rw [List.length_take]
          omega
      · refine iteDF c1 ?_
        exact hA l0 way _ _ ⟨L, rvs, rs, rvs0, x8, rfl, butSame b2 s3, hp2.keep s3, hLp, s3 _ _ hL, RowsV.keep (tupsOf s3) hrs, hsub, hl0p, s3 _ _ hl0, RowsV.keep (tupsOf s3) hrs0, c1⟩
    obtain ⟨tB, pB, hB⟩ := tailB
    -- way 2
    have tailC : ∃ t, PSs (cxOf CX0 P w K mg base ["_law_pool_here", "_law_many", "_law_most", "_law_every", "_law_way", "_law_some_here", "_law_found", "_law_line", "_law_at"] "_law_rows_of" (defScope s55) f cdv A outer s H E).nox ((defBody s55).drop 5) t ∧ ∀ l0 way σ H', St55 p l0 many most way H (fun _ => True) σ H' → t { nx := fun _ H' => Q .non H', rt := Q } σ H' := by
      refine ⟨_, (pss_cons (ps_if (pt_cmpR op_eq (pv 4) pe_int (nomark _)) (pss_cons (ps_set (i := 8) sc55.nd rfl (by first | exact Or.inl rfl | exact Or.inr rfl) (pe_own o__law_take (hr.mono (by omega)) rfl (pa_cons (pv 0) (pa_cons (pv 1) pa_nil))))
    (pss_one (ps_setLc (i := 5) (own := [("_law_line", 7)]) rfl sc55.nd rfl rfl (sw_true rfl rfl rfl (by decide +kernel)) (pi_list (pv 5)) (blkOk_by (N := ["_law_pool_here", "_law_many", "_law_most", "_law_every", "_law_way", "_law_some_here", "_law_found", "_law_line", "_law_at"]) (sc := defScope s55) (by decide +kernel)) (fun _ _ _ _ _ => (pg_name (i := 7) sc55.nd rfl (by first | exact Or.inl rfl | exact Or.inr rfl))) (fun _ _ _ _ _ => (pts_one (PW.pt (pw_or (pt_cmpR op_eq (pe_ix (r := rIxT K) ix_tup (pv 7) (pv 8) (fun _ _ => rfl)) (pe_ix (r := rIxT K) ix_tup (pv 7) pe_int (fun _ _ => rfl)) (nomark _)) (pw_or1 (pt_val (pe_ix (r := rIxT K) ix_tup (pv 7) (pe_un un_neg pe_int) (fun _ _ => rfl)))))))) (fun _ _ _ _ _ => (pv 7))))) pss_nil)
    pB), ?_⟩
      rintro l0 way σ H2 ⟨L, rvs, rs, rvs0, x8, rfl, b2, hp2, hLp, hL, hrs, hsub, hl0p, hl0, hrs0, _⟩
      refine ⟨_, rfl, rfl, _, rfl, ?_⟩
      refine ite2 (fun c1 => ?_) (fun c1 => ?_)
      · refine ⟨_, rfl, _, rfl, p, _, rfl, hp2, (by omega), (by omega), fun H3 d b3 hp3 h30 h39 => ?_⟩
        obtain ⟨at', rfl⟩ := Int.eq_ofNat_of_zero_le h30
        have hL3 := b3 _ _ hLp hL
        refine ⟨_, rfl, L, rfl, ⟨_, SqL.of hL3⟩, fun D hD => ?_⟩
        have s4 := same_new hD (.lst [])
        have hDp := hp3.new hD
        have rl : rs.length ≤ 32 := Nat.le_trans hsub.length_le h32
        have hrs3 := RowsV.keep (tupsBut hp2 b3) hrs
        refine lc_list (K := K) (a := L) (xs := rvs) (fun j H' => Same H3 H' ∧ ∃ dvs ds, H' D = some (.lst dvs) ∧ RowsV H' dvs ds ∧ dvs.length ≤ j ∧ ds.Sublist (rs.take j)) ⟨s4, [], [], upd_same, .nil, Nat.le_refl _, List.Sublist.refl _⟩ (fun j H' _ h => SqL.of (h.1 _ _ hL3)) ?_ ?_
        · rintro j x H4 hx ⟨s5, dvs, ds, hD4, hds, hdl, hsd⟩
          obtain ⟨r, hrx, t, rfl, ht⟩ := pAt hrs3 hx
          have hrl : r.length = many := hlen r (hsub.subset (List.mem_of_getElem? hrx))
          have hjl : j < rvs.length := (List.getElem?_eq_some_iff.mp hx).1
          have hj32 : dvs.length ≤ 32 := by
            have := pLen hrs
            omega
          obtain ⟨bl, hbl⟩ := row_last (r := r) (by omega)
          have hno : Same H3 H4 ∧ ∃ dvs ds, H4 D = some (.lst dvs) ∧ RowsV H4 dvs ds ∧ dvs.length ≤ j + 1 ∧ ds.Sublist (rs.take (j + 1)) := by
            refine ⟨s5, dvs, ds, hD4, hds, Nat.le_succ_of_le hdl, hsd.trans ?_⟩
            rw [take_more hrx]
            exact List.sublist_append_left _ _
          have hyes : Same H3 (upd H4 D (.lst (dvs ++ [.ref t]))) ∧ ∃ dvs' ds, (upd H4 D (.lst (dvs ++ [.ref t]))) D = some (.lst dvs') ∧ RowsV (upd H4 D (.lst (dvs ++ [.ref t]))) dvs' ds ∧ dvs'.length ≤ j + 1 ∧ ds.Sublist (rs.take (j + 1)) := by
            have tk := tupsLst hD4 (.lst (dvs ++ [V.ref t]))
            refine ⟨same_upd s5 hD _, dvs ++ [.ref t], ds ++ [r], upd_same, pApp (RowsV.keep tk hds) (.cons ⟨t, rfl, tk _ _ (s5 _ _ ht)⟩ .nil), ?_, ?_⟩
            · rw [List.length_append, List.length_singleton]
              omega
            · rw [take_more hrx]
              exact hsd.append (List.Sublist.refl _)
          refine ⟨rfl, _, rfl, _, rfl, t, _, _, _, rfl, rfl, SqT.of (s5 _ _ ht), atI_row (by omega), _, rfl, t, _, _, _, rfl, rfl, SqT.of (s5 _ _ ht), atI_row (i := 0) (by omega), rfl, _, rfl, ?_⟩
          refine ite2 (fun c2 => ?_) (fun c2 => ?_)
          · exact ⟨_, rfl, dvs, hD4, small1000 (by omega), hyes⟩
          · refine ⟨_, rfl, _, rfl, t, _, _, _, rfl, rfl, SqT.of (s5 _ _ ht), hbl, _, rfl, ?_⟩
            refine ite2 (fun c3 => ?_) (fun c3 => ?_)
            · exact ⟨_, rfl, dvs, hD4, small1000 (by omega), hyes⟩
            · exact hno
        · rintro H4 ⟨s5, dvs, ds, hD4, hds, hdl, hsd⟩
          refine hB l0 way _ _ ⟨D, dvs, ds, rvs0, _, rfl, butSame (butTrans b2 b3) s5, hp3.keep s5, hDp, hD4, hds, (hsd.trans (List.take_sublist _ _)).trans hsub, hl0p, s5 _ _ (b3 _ _ hl0p hl0), RowsV.keep ((tupsBut hp2 b3).trans (tupsOf s5)) hrs0, trivial⟩
      · exact hB l0 way _ _ ⟨L, rvs, rs, rvs0, x8, rfl, b2, hp2, hLp, hL, hrs, hsub, hl0p, hl0, hrs0, trivial⟩
    obtain ⟨tC, pC, hC⟩ := tailC
    -- way 1
    have tail4 : ∃ t, PSs (cxOf CX0 P w K mg base ["_law_pool_here", "_law_many", "_law_most", "_law_every", "_law_way", "_law_some_here", "_law_found", "_law_line", "_law_at"] "_law_rows_of" (defScope s55) f cdv A outer s H E).nox ((defBody s55).drop 4) t ∧ ∀ l0 way σ H', St55 p l0 many most way H (fun _ => True) σ H' → t { nx := fun _ H' => Q .non H', rt := Q } σ H' := by
      refine ⟨_, (pss_cons (ps_if (pt_cmpR op_eq (pv 4) pe_int (nomark _)) (pss_one (ps_setLc (i := 5) (own := [("_law_line", 7)]) rfl sc55.nd rfl rfl (sw_true rfl rfl rfl (by decide +kernel)) (pi_list (pv 3)) (blkOk_by (N := ["_law_pool_here", "_law_many", "_law_most", "_law_every", "_law_way", "_law_some_here", "_law_found", "_law_line", "_law_at"]) (sc := defScope s55) (by decide +kernel)) (fun _ _ _ _ _ => (pg_name (i := 7) sc55.nd rfl (by first | exact Or.inl rfl | exact Or.inr rfl))) (fun _ _ _ _ _ => (pts_one (pt_cmpR op_eq (pe_own o__law_take (hr.mono (by omega)) rfl (pa_cons (pv 0) (pa_cons pe_int pa_nil))) pe_int (nomark _)))) (fun _ _ _ _ _ => (pv 7)))) pss_nil)
    pC), ?_⟩
      rintro l0 way σ H2 ⟨L, rvs, rs, rvs0, x8, rfl, b2, hp2, hLp, hL, hrs, hsub, hl0p, hl0, hrs0, _⟩
      refine ⟨_, rfl, rfl, _, rfl, ?_⟩
      refine ite2 (fun c1 => ?_) (fun _ => hC l0 way _ _ ⟨L, rvs, rs, rvs0, x8, rfl, b2, hp2, hLp, hL, hrs, hsub, hl0p, hl0, hrs0, trivial⟩)
      refine ⟨_, rfl, l0, rfl, ⟨_, SqL.of hl0⟩, fun D hD => ?_⟩
      have s4 := same_new hD (.lst [])
      have hDp := hp2.new hD
      refine lc_list (K := K) (a := l0) (xs := rvs0) (fun j H' => But p H2 H' ∧ PoolAt H' p ∧ ∃ dvs ds, H' D = some (.lst dvs) ∧ RowsV H' dvs ds ∧ dvs.length ≤ j ∧ ds.Sublist ((allRows many).take j)) ⟨butOf s4, hp2.keep s4, [], [], upd_same, .nil, Nat.le_refl _, List.Sublist.refl _⟩ (fun j H' _ h => SqL.of (h.1 _ _ hl0p hl0)) ?_ ?_
      · rintro j x H4 hx ⟨b5, hp5, dvs, ds, hD4, hds, hdl, hsd⟩
        obtain ⟨r, hrx, t, rfl, ht⟩ := pAt hrs0 hx
        have hjl : j < rvs0.length := (List.getElem?_eq_some_iff.mp hx).1
        have hj32 : dvs.length ≤ 32 := by
          have := pLen hrs0
          omega
        refine ⟨rfl, _, rfl, p, _, rfl, hp5, (by decide), (by decide), fun H6 d b6 hp6 h60 h69 => ?_⟩
        have hD6 := b6 _ _ hDp hD4
        have tk6 := tupsBut hp5 b6
        refine ⟨rfl, _, rfl, ?_⟩
        refine ite2 (fun c2 => ?_) (fun c2 => ?_)
        · have tk := tupsLst hD6 (.lst (dvs ++ [V.ref t]))
          refine ⟨_, rfl, dvs, hD6, small1000 (by omega), butNew (butTrans b5 b6) hD _, hp6.put hDp _, dvs ++ [.ref t], ds ++ [r], upd_same, pApp (RowsV.keep (tk6.trans tk) hds) (.cons ⟨t, rfl, tk _ _ (tk6 _ _ (tupsBut hp2 b5 _ _ ht))⟩ .nil), ?_, ?_⟩
          · rw [List.length_append, List.length_singleton]
            omega
          · rw [take_more hrx]
            exact hsd.append (List.Sublist.refl _)
        · refine ⟨butTrans b5 b6, hp6, dvs, ds, hD6, RowsV.keep tk6 hds, Nat.le_succ_of_le hdl, hsd.trans ?_⟩
          rw [take_more hrx]
          exact List.sublist_append_left _ _
      · rintro H4 ⟨b5, hp5, dvs, ds, hD4, hds, hdl, hsd⟩
        refine hC l0 way _ _ ⟨D, dvs, ds, rvs0, _, rfl, butTrans b2 b5, hp5, hDp, hD4, hds, hsd.trans (List.take_sublist _ _), hl0p, b5 _ _ hl0p hl0, RowsV.keep (tupsBut hp2 b5) hrs0, trivial⟩
    obtain ⟨t4, p4, h4⟩ := tail4
    have tail3 : ∃ t, PSs (cxOf CX0 P w K mg base ["_law_pool_here", "_law_many", "_law_most", "_law_every", "_law_way", "_law_some_here", "_law_found", "_law_line", "_law_at"] "_law_rows_of" (defScope s55) f cdv A outer s H E).nox ((defBody s55).drop 3) t ∧ ∀ (l0 : Addr) (way : Int) (rvs0 : List V) (H2 : Hp), But p H H2 → PoolAt H2 p → l0 ≠ p → H2 l0 = some (.lst rvs0) → RowsV H2 rvs0 (allRows many) →
        t { nx := fun _ H' => Q .non H', rt := Q } [some (.ref p), some (.int many), some (.int most), some (.ref l0), some (.int way), none, none, none, none] H2 := by
      refine ⟨_, (pss_cons (ps_setLc (i := 5) (own := [("_law_line", 7)]) rfl sc55.nd rfl rfl (sw_true rfl rfl rfl (by decide +kernel)) (pi_list (pv 3)) (blkOk_by (N := ["_law_pool_here", "_law_many", "_law_most", "_law_every", "_law_way", "_law_some_here", "_law_found", "_law_line", "_law_at"]) (sc := defScope s55) (by decide +kernel)) (fun _ _ _ _ _ => (pg_name (i := 7) sc55.nd rfl (by first | exact Or.inl rfl | exact Or.inr rfl))) (fun _ _ _ _ _ => (pts_one (pt_cmpR op_gt (pe_own o__law_take (hr.mono (by omega)) rfl (pa_cons (pv 0) (pa_cons pe_int pa_nil))) pe_int (nomark _)))) (fun _ _ _ _ _ => (pv 7)))
    p4), ?_⟩
      intro l0 way rvs0 H2 b2 hp2 hl0p hl0 hrs0
      refine ⟨_, rfl, l0, rfl, ⟨_, SqL.of hl0⟩, fun D hD => ?_⟩
      have s4 := same_new hD (.lst [])
      have hDp := hp2.new hD
      refine lc_list (K := K) (a := l0) (xs := rvs0) (fun j H' => But p H2 H' ∧ PoolAt H' p ∧ ∃ dvs ds, H' D = some (.lst dvs) ∧ RowsV H' dvs ds ∧ dvs.length ≤ j ∧ ds.Sublist ((allRows many).take j)) ⟨butOf s4, hp2.keep s4, [], [], upd_same, .nil, Nat.le_refl _, List.Sublist.refl _⟩ (fun j H' _ h => SqL.of (h.1 _ _ hl0p hl0)) ?_ ?_
      · rintro j x H4 hx ⟨b5, hp5, dvs, ds, hD4, hds, hdl, hsd⟩
        obtain ⟨r, hrx, t, rfl, ht⟩ := pAt hrs0 hx
        have hjl : j < rvs0.length := (List.getElem?_eq_some_iff.mp hx).1
        have hj32 : dvs.length ≤ 32 := by
          have := pLen hrs0
          omega
        refine ⟨rfl, _, rfl, p, _, rfl, hp5, (by decide), (by decide), fun H6 d b6 hp6 h60 h69 => ?_⟩
        have hD6 := b6 _ _ hDp hD4
        have tk6 := tupsBut hp5 b6
        refine ⟨_, _, rfl, rfl, _, rfl, ?_⟩
        refine ite2 (fun c2 => ?_) (fun c2 => ?_)
        · have tk := tupsLst hD6 (.lst (dvs ++ [V.ref t]))
          refine ⟨_, rfl, dvs, hD6, small1000 (by omega), butNew (butTrans b5 b6) hD _, hp6.put hDp _, dvs ++ [.ref t], ds ++ [r], upd_same, pApp (RowsV.keep (tk6.trans tk) hds) (.cons ⟨t, rfl, tk _ _ (tk6 _ _ (tupsBut hp2 b5 _ _ ht))⟩ .nil), ?_, ?_⟩
          · rw [List.length_append, List.length_singleton]
            omega
          · rw [take_more hrx]
            exact hsd.append (List.Sublist.refl _)
        · refine ⟨butTrans b5 b6, hp6, dvs, ds, hD6, RowsV.keep tk6 hds, Nat.le_succ_of_le hdl, hsd.trans ?_⟩
          rw [take_more hrx]
          exact List.sublist_append_left _ _
      · rintro H4 ⟨b5, hp5, dvs, ds, hD4, hds, hdl, hsd⟩
        refine h4 l0 way _ _ ⟨D, dvs, ds, rvs0, _, rfl, butTrans b2 b5, hp5, hDp, hD4, hds, hsd.trans (List.take_sublist _ _), hl0p, b5 _ _ hl0p hl0, RowsV.keep (tupsBut hp2 b5) hrs0, trivial⟩
    obtain ⟨t3, p3, h3⟩ := tail3
    refine ⟨_, (pss_cons (ps_set (i := 3) sc55.nd rfl (by first | exact Or.inl rfl | exact Or.inr rfl) (pe_own o__law_all_rows (hr.mono (by omega)) rfl (pa_cons (pv 1) pa_nil)))
    (pss_cons (ps_set (i := 4) sc55.nd rfl (by first | exact Or.inl rfl | exact Or.inr rfl) (pe_own o__law_take (hr.mono (by omega)) rfl (pa_cons (pv 0) (pa_cons pe_int pa_nil))))
    (pss_cons (ps_if (PW.pt (pw_and (pt_cmpR op_eq (pv 4) pe_int (nomark _)) (pw_and1 (pt_cmpR op_le (pe_callB call_len_seq (by rfl) T.f_len (by decide +kernel) (pa_cons (pv 3) pa_nil)) (pv 2) (nomark _))))) (pss_one (ps_ret (pv 3))) pss_nil)
    p3))), ?_⟩
    refine ⟨_, rfl, many, rfl, h1, h5, fun H1 l0 rvs0 s1 hl0n hl0 hrs0 => ?_⟩
    have hp1 := hp.keep s1
    have hl0p := hp.new hl0n
    refine ⟨_, rfl, p, _, rfl, hp1, (by decide), (by decide), fun H2 way b2 hp2 hw0 hw4 => ?_⟩
    have hl02 := b2 _ _ hl0p hl0
    have b02 := butTrans (butOf (c := p) s1) b2
    have hrs2 := RowsV.keep (tupsBut hp1 b2) hrs0
    refine ⟨_, rfl, rfl, _, rfl, ?_⟩
    refine ite2 (fun c1 => ?_) (fun _ => iteF (h3 l0 way rvs0 H2 b02 hp2 hl0p hl02 hrs2))
    refine ⟨_, rfl, l0, rvs0, rfl, .inl (SqL.of hl02), _, rfl, _, _, rfl, rfl, _, rfl, ?_⟩
    refine ite2 (fun c2 => ?_) (fun _ => h3 l0 way rvs0 H2 b02 hp2 hl0p hl02 hrs2)
    exact ⟨_, rfl, k H2 l0 rvs0 (allRows many) b02 hp2 hl0n hl02 hrs2 hnd hlen h32 (List.ne_nil_of_length_pos hpos)⟩
end
end EA

set_option maxHeartbeats 4000000
namespace EA
open PySem PySem.Spec PyProof.Rows L2
def spLCase : Sp := fun vs H Q _ => ∃ (p : Addr) (wishes most : Nat), vs = [.ref p, .int wishes, .int most] ∧ PoolAt H p ∧ 1 ≤ wishes ∧ wishes ≤ 5 ∧ 1 ≤ most ∧
  ∀ (H' : Hp) (l : Addr) (many : Nat) (dv : V) (m : Nat) (f : An) (rl : Addr) (rvs : List V) (rs : List Row), But p H H' → PoolAt H' p → H l = none → H' l = some (.lst [.int many, dv, .ref rl]) → 1 ≤ many → many ≤ 5 → DecAt many 6 H' dv m f → m ≤ 60 → H rl = none → H' rl = some (.lst rvs) → RowsV H' rvs rs → rs.Nodup → (∀ r ∈ rs, r.length = many) → rs.length ≤ 32 → rs ≠ [] → Q (.ref l) H'
def spSome : Sp := fun vs H Q _ => ∃ (p a : Addr) (rvs : List V) (rs : List Row), vs = [.ref p, .ref a] ∧ PoolAt H p ∧ a ≠ p ∧ H a = some (.lst rvs) ∧ RowsV H rvs rs ∧ rs.length ≤ 32 ∧
  ∀ (H' : Hp) (l : Addr) (fvs : List V) (fs ss : List Row), But p H H' → PoolAt H' p → H l = none → H' l = some (.lst fvs) → RowsV H' fvs fs → fs.Perm ss → ss.Sublist rs → Q (.ref l) H'
def spTies (P : Program) (w : World) (C : Addr) : Sp := fun vs H Q _ => ∃ (p c a l : Addr) (many : Nat) (f : An) (ks : List (Row × Addr)) (rvs : List V) (rs : List Row) (ws : List Nat), vs = [.ref p, .ref c, .ref a, .ref l] ∧ PoolAt H p ∧ CaseAt P w C H c many f ks ∧ a ≠ p ∧ H a = some (.lst rvs) ∧ RowsV H rvs rs ∧ rs.length ≤ 64 ∧
  l ≠ p ∧ H l = some (.lst (ws.map fun (i : Nat) => V.int i)) ∧ (∀ i ∈ ws, i < many ∧ (pairsOf f (ks.map (·.1)) i).any (bothIn rs) = true) ∧ ws.length ≤ 64 ∧
  ∀ (H' : Hp) (L : Addr) (tvs : List V) (ts : List Tie), But p H H' → PoolAt H' p → H L = none → H' L = some (.lst tvs) → Paired (TieV H') tvs ts → ts.map (·.1) = ws → (∀ t ∈ ts, TieOk f (ks.map (·.1)) rs t) → Q (.ref L) H'
theorem nat_of {d : Int} (h : 0 ≤ d) : ∃ n : Nat, d = (n : Int) := Int.eq_ofNat_of_zero_le h
section
variable {P : Program} {w : World} {K : PySem.W.Frag} {mg : Str → Option Value} {base : Heap} {C B : Addr} {f : Addr} {fd : FuncData}
theorem sc56 : FnScope ["_law_pool_here", "_law_wishes", "_law_most", "_law_many", "_law_decision_here"] ["_law_pool_here", "_law_wishes", "_law_most"] (defScope s56) := ⟨rfl, rfl, rfl, by decide +kernel, rfl, by decide +kernel, by decide +kernel⟩
theorem ok56 (T : Tx K mg C B) (F : FunD K "_law_case" "_law_case" (defArgs s56) (defBody s56) (defScope s56) [] [] f fd) (o__law_take : Own P w K mg base 1 "_law_take" ["_law_pool_here", "_law_many"] [] spTake)
    (o__law_decision : Own P w K mg base 7 "_law_decision" ["_law_pool_here", "_law_many", "_law_room", "_law_deep"] [] (spDec 6)) (o__law_rows_of : Own P w K mg base 2 "_law_rows_of" ["_law_pool_here", "_law_many", "_law_most"] [] spRowsOf) :
    FnOk P w K mg base CX0 8 f fd ["_law_pool_here", "_law_wishes", "_law_most"] spLCase := by
  refine ok0 F sc56 (fun vs H Q E h => ?_) (fun cdv A outer s H vs Q E hr h => ?_)
  · obtain ⟨_, _, _, rfl, _⟩ := h
    rfl
  · obtain ⟨p, wishes, most, rfl, hp, h1, h5, hm1, k⟩ := h
    refine ⟨_, (pss_cons (ps_set (i := 3) sc56.nd rfl (by first | exact Or.inl rfl | exact Or.inr rfl) (pe_op op_add pe_int (pe_own o__law_take (hr.mono (by omega)) rfl (pa_cons (pv 0) (pa_cons (pv 1) pa_nil)))))
    (pss_cons (ps_set (i := 4) sc56.nd rfl (by first | exact Or.inl rfl | exact Or.inr rfl) (pe_own o__law_decision (hr.mono (by omega)) rfl (pa_cons (pv 0) (pa_cons (pv 3) (pa_cons (pe_op op_add pe_int (pe_own o__law_take (hr.mono (by omega)) rfl (pa_cons (pv 0) (pa_cons pe_int pa_nil)))) (pa_cons (pe_op op_add pe_int (pe_own o__law_take (hr.mono (by omega)) rfl (pa_cons (pv 0) (pa_cons pe_int pa_nil)))) pa_nil))))))
    (pss_one (ps_ret (pe_lst (pa_cons (pv 3) (pa_cons (pv 4) (pa_cons (pe_own o__law_rows_of (hr.mono (by omega)) rfl (pa_cons (pv 0) (pa_cons (pv 3) (pa_cons (pv 2) pa_nil)))) pa_nil)))))))), ?_⟩
    refine ⟨_, rfl, _, rfl, p, _, rfl, hp, (by omega), (by omega), fun H1 d b1 hp1 h10 h19 => ⟨_, _, rfl, rfl, ?_⟩⟩
    obtain ⟨many, em⟩ := nat_of (show 0 ≤ 1 + d by omega)
    refine gname_eq (u := V.int (many : Int)) (congrArg V.int em) ?_
    refine ⟨_, rfl, _, rfl, _, rfl, p, _, rfl, hp1, (by decide), (by decide), fun H2 d2 b2 hp2 h20 h29 => ⟨_, _, rfl, rfl, ?_⟩⟩
    refine ⟨_, rfl, p, _, rfl, hp2, (by decide), (by decide), fun H3 d3 b3 hp3 h30 h39 => ⟨_, _, rfl, rfl, ?_⟩⟩
    refine ⟨p, many, 2 + d2, 2 + d3, rfl, hp3, (by omega), (by omega), (by omega), (by omega), (by show 2 + d3 ≤ 6; omega), fun H4 v m f b4 hp4 hd hm => ?_⟩
    refine ⟨_, rfl, _, rfl, _, rfl, _, rfl, _, rfl, p, many, most, rfl, hp4, (by omega), (by omega), hm1, fun H5 rl rvs rs b5 hp5 hrl0 hrl hrs hnd hlen h32 hne => ?_⟩
    refine ⟨(by show 3 ≤ sizeLine; decide), fun l hl => ?_⟩
    have s6 := same_new hl (.lst [V.int (many : Int), v, V.ref rl])
    have b04 := butTrans (butTrans b1 b2) (butTrans b3 b4)
    have b05 := butTrans b04 b5
    exact k _ l many v m f rl rvs rs (butSame b05 s6) (hp5.keep s6) (hp5.fresh b05 hl) upd_same (by omega) (by omega) (hd.keep ((tupsBut hp4 b5).trans (tupsOf s6))) (by omega) (hp4.fresh b04 hrl0) (s6 _ _ hrl) (RowsV.keep (tupsOf s6) hrs) hnd hlen h32 hne
theorem sc57 : FnScope ["_law_pool_here", "_law_rows", "_law_rare", "_law_found", "_law_line"] ["_law_pool_here", "_law_rows"] (defScope s57) := ⟨rfl, rfl, rfl, by decide +kernel, rfl, by decide +kernel, by decide +kernel⟩
theorem ok57 (T : Tx K mg C B) (F : FunD K "_law_some" "_law_some" (defArgs s57) (defBody s57) (defScope s57) [] [] f fd) (o__law_take : Own P w K mg base 1 "_law_take" ["_law_pool_here", "_law_many"] [] spTake) :
    FnOk P w K mg base CX0 2 f fd ["_law_pool_here", "_law_rows"] spSome := by
  refine ok0 F sc57 (fun vs H Q E h => ?_) (fun cdv A outer s H vs Q E hr h => ?_)
  · obtain ⟨_, _, _, _, rfl, _⟩ := h
    rfl
  · obtain ⟨p, a, rvs, rs, rfl, hp, hap, ha, hrs, h32, k⟩ := h
    refine ⟨_, (pss_cons (ps_set (i := 2) sc57.nd rfl (by first | exact Or.inl rfl | exact Or.inr rfl) (pe_op op_add pe_int (pe_own o__law_take (hr.mono (by omega)) rfl (pa_cons (pv 0) (pa_cons pe_int pa_nil)))))
    (pss_cons (ps_set (i := 3) sc57.nd rfl (by first | exact Or.inl rfl | exact Or.inr rfl) (pe_lst pa_nil))
    (pss_cons (ps_for PassesOwn.never rfl (pi_list (pv 1)) (pg_name (i := 4) sc57.nd rfl (by first | exact Or.inl rfl | exact Or.inr rfl)) (pss_one (ps_if (pt_cmpR op_lt (pe_own o__law_take (hr.mono (by omega)) rfl (pa_cons (pv 0) (pa_cons pe_int pa_nil))) (pv 2) (nomark _)) (pss_one (ps_expr (pe_bm PySem.F.plainAttrs_list PySem.F.slot_list_insert PySem.F.type_list_insert mt_insert (pv 3) (pa_cons (pe_own o__law_take (hr.mono (by omega)) rfl (pa_cons (pv 0) (pa_cons (pe_op op_add (pe_callB call_len_seq (by rfl) T.f_len (by decide +kernel) (pa_cons (pv 3) pa_nil)) pe_int) pa_nil))) (pa_cons (pv 4) pa_nil))))) pss_nil)))
    (pss_one (ps_ret (pv 3)))))), ?_⟩
    refine ⟨_, rfl, p, _, rfl, hp, (by decide), (by decide), fun H1 d b1 hp1 h10 h19 => ⟨_, _, rfl, rfl, ?_⟩⟩
    refine gname_eq (u := V.int (1 + d)) rfl ?_
    refine ⟨(by show 0 ≤ sizeLine; decide), fun F hF => ?_⟩
    have s2 := same_new hF (.lst [])
    have hFp := hp1.new hF
    have ha1 := b1 _ _ hap ha
    have haF : a ≠ F := ne_of_none ha1 hF
    have hrs1 := RowsV.keep (tupsBut hp b1) hrs
    refine ⟨_, rfl, a, rfl, ⟨_, SqL.of (s2 _ _ ha1)⟩, ?_⟩
    refine for_list (K := K) (a := a) (xs := rvs) (fun j σ H' => ∃ x4 fvs fs ss, σ = [some (.ref p), some (.ref a), some (.int (1 + d)), some (.ref F), x4] ∧ But p H1 H' ∧ PoolAt H' p ∧ H' a = some (.lst rvs) ∧ H' F = some (.lst fvs) ∧ RowsV H' fvs fs ∧ fs.Perm ss ∧ ss.Sublist (rs.take j))
      ⟨none, [], [], [], rfl, butOf s2, hp1.keep s2, s2 _ _ ha1, upd_same, .nil, List.Perm.refl _, List.Sublist.refl _⟩ (fun j σ H' _ ⟨_, _, _, _, _, _, _, h, _⟩ => SqL.of h) ?_ ?_
    · rintro j x σ H3 hx ⟨x4, fvs, fs, ss, rfl, b3, hp3, ha3, hF3, hfs, hperm, hsub⟩
      obtain ⟨r, hrx, hxr⟩ := pAt hrs1 hx
      have hfl : fvs.length ≤ 32 := by
        have h1 := hsub.length_le
        rw [pLen hfs, hperm.length_eq]
        rw [List.length_take] at h1
        omega
      refine ⟨_, rfl, p, _, rfl, hp3, (by decide), (by decide), fun H4 d4 b4 hp4 h40 h49 => ?_⟩
      have hF4 := b4 _ _ hFp hF3
      have ha4 := b4 _ _ hap ha3
      have hfs4 := RowsV.keep (tupsBut hp3 b4) hfs
      refine ⟨_, rfl, _, _, rfl, rfl, _, rfl, ?_⟩
      refine ite2 (fun c1 => ?_) (fun c1 => ?_)
      · refine ⟨_, rfl, .inl ⟨rfl, _, SqL.of hF4⟩, _, rfl, _, rfl, F, _, rfl, .inl (SqL.of hF4), _, _, rfl, rfl, p, _, rfl, hp4, (by omega), (by omega), fun H5 d b5 hp5 h50 h59 => ?_⟩
        have hF5 := b5 _ _ hFp hF4
        have tk := tupsLst hF5 (.lst (fvs.take d.toNat ++ [x] ++ fvs.drop d.toNat))
        have tk4 := (tupsBut hp4 b5).trans tk
        refine ⟨_, rfl, F, fvs, d, x, rfl, rfl, hF5, small1000 (by omega), h50, (by omega), _, fvs.take d.toNat ++ [x] ++ fvs.drop d.toNat, fs.take d.toNat ++ [r] ++ fs.drop d.toNat, ss ++ [r], rfl, butNew (butTrans b3 (butTrans b4 b5)) hF _, hp5.put hFp _, ?_, upd_same, ?_, ?_, ?_⟩
        · rw [upd_ne haF]
          exact b5 _ _ hap ha4
        · have q := RowsV.keep tk4 hfs4
          exact pApp (pApp (pTk _ q) (.cons (hxr.keep ((tupsBut hp1 b3).trans ((tupsBut hp3 b4).trans tk4))) .nil)) (pDr _ q)
        · exact (insert_perm fs d.toNat r).trans (hperm.append_right _)
        · rw [take_more hrx]
          exact hsub.append (List.Sublist.refl _)
      · refine ⟨_, fvs, fs, ss, rfl, butTrans b3 b4, hp4, ha4, hF4, hfs4, hperm, hsub.trans ?_⟩
        rw [take_more hrx]
        exact List.sublist_append_left _ _
    · rintro σ H3 ⟨x4, fvs, fs, ss, rfl, b3, hp3, ha3, hF3, hfs, hperm, hsub⟩
      exact ⟨_, rfl, k _ F fvs fs ss (butTrans b1 b3) hp3 (hp1.fresh b1 hF) hF3 hfs hperm (hsub.trans (List.take_sublist _ _))⟩
end
end EA

set_option maxHeartbeats 4000000
namespace EA
open PySem PySem.Spec PyProof.Rows L2
section
variable {P : Program} {w : World} {K : PySem.W.Frag} {mg : Str → Option Value} {base : Heap} {C B : Addr} {f : Addr} {fd : FuncData}
theorem sc58 : FnScope ["_law_pool_here", "_law_case_here", "_law_rows", "_law_wishes", "_law_found", "_law_wish", "_law_inside", "_law_one", "_law_other", "_law_pair"] ["_law_pool_here", "_law_case_here", "_law_rows", "_law_wishes"] (defScope s58) := ⟨rfl, rfl, rfl, by decide +kernel, rfl, by decide +kernel, by decide +kernel⟩
theorem ok58 (T : Tx K mg C B) (F : FunD K "_law_ties" "_law_ties" (defArgs s58) (defBody s58) (defScope s58) [] [] f fd) (o__law_take : Own P w K mg base 1 "_law_take" ["_law_pool_here", "_law_many"] [] spTake)
    (o_pairs : Own P w K mg base 26 "pairs" ["case", "wish"] [] (spPairs P w C)) : FnOk P w K mg base CX0 27 f fd ["_law_pool_here", "_law_case_here", "_law_rows", "_law_wishes"] (spTies P w C) := by
  refine ok0 F sc58 (fun vs H Q E h => ?_) (fun cdv A outer s H vs Q E hr h => ?_)
  · obtain ⟨_, _, _, _, _, _, _, _, _, _, rfl, _⟩ := h
    rfl
  · obtain ⟨p, c, a, l, many, f, ks, rvs, rs, ws, rfl, hp, hc, hap, ha, hrs, h64, hlp, hl, hws, hw64, k⟩ := h
    obtain ⟨dx, dv, d, m, h1, h2, h3, hm1, hm8, hkl, hk64, hknd⟩ := id hc
    refine ⟨_, (pss_cons (ps_set (i := 4) sc58.nd rfl (by first | exact Or.inl rfl | exact Or.inr rfl) (pe_lst pa_nil))
    (pss_cons (ps_for PassesOwn.never rfl (pi_list (pv 3)) (pg_name (i := 5) sc58.nd rfl (by first | exact Or.inl rfl | exact Or.inr rfl)) (pss_cons (ps_setLc (i := 6) (own := [("_law_pair", 9)]) rfl sc58.nd rfl rfl (sw_true rfl rfl rfl (by decide +kernel)) (pi_list (pe_own o_pairs (hr.mono (by omega)) rfl (pa_cons (pv 1) (pa_cons (pv 5) pa_nil)))) (blkOk_by (N := ["_law_pool_here", "_law_case_here", "_law_rows", "_law_wishes", "_law_found", "_law_wish", "_law_inside", "_law_one", "_law_other", "_law_pair"]) (sc := defScope s58) (by decide +kernel)) (fun _ _ _ _ _ => (pg_name (i := 9) sc58.nd rfl (by first | exact Or.inl rfl | exact Or.inr rfl))) (fun _ _ _ _ _ => (pts_one (PW.pt (pw_and (pt_cmpR (r := rInD K) (op_inD (hu65 hr)) (pe_ix (r := rIxT K) ix_tup (pv 9) pe_int (fun _ _ => rfl)) (pv 2) (by with_unfolding_all rfl)) (pw_and1 (pt_cmpR (r := rInD K) (op_inD (hu65 hr)) (pe_ix (r := rIxT K) ix_tup (pv 9) pe_int (fun _ _ => rfl)) (pv 2) (by with_unfolding_all rfl))))))) (fun _ _ _ _ _ => (pv 9)))
    (pss_cons (ps_asg (pe_ix ix_list (pv 6) (pe_own o__law_take (hr.mono (by omega)) rfl (pa_cons (pv 0) (pa_cons (pe_callB call_len_seq (by rfl) T.f_len (by decide +kernel) (pa_cons (pv 6) pa_nil)) pa_nil))) (fun _ _ => rfl)) (pg_tup rfl (pgs_cons (pg_name (i := 7) sc58.nd rfl (by first | exact Or.inl rfl | exact Or.inr rfl)) (pgs_cons (pg_name (i := 8) sc58.nd rfl (by first | exact Or.inl rfl | exact Or.inr rfl)) pgs_nil))))
    (pss_one (ps_expr (pe_bm PySem.F.plainAttrs_list PySem.F.slot_list_append PySem.F.type_list_append mt_append (pv 4) (pa_cons (pe_tup (pa_cons (pv 5) (pa_cons (pe_bm PySem.F.plainAttrs_list PySem.F.slot_list_index PySem.F.type_list_index (mt_indexD (hu65 hr)) (pv 2) (pa_cons (pv 7) pa_nil)) (pa_cons (pe_bm PySem.F.plainAttrs_list PySem.F.slot_list_index PySem.F.type_list_index (mt_indexD (hu65 hr)) (pv 2) (pa_cons (pv 8) pa_nil)) pa_nil)))) pa_nil)))))))
    (pss_one (ps_ret (pv 4))))), ?_⟩
    refine ⟨(by show 0 ≤ sizeLine; decide), fun L hL => ?_⟩
    have s2 := same_new hL (.lst [])
    have hLp := hp.new hL
    have hlL : l ≠ L := ne_of_none hl hL
    refine ⟨_, rfl, l, rfl, ⟨_, SqL.of (s2 _ _ hl)⟩, ?_⟩
    refine for_list (K := K) (a := l) (xs := ws.map fun (i : Nat) => V.int i) (fun j σ H' => ∃ x5 x6 x7 x8 x9 tvs ts, σ = [some (.ref p), some (.ref c), some (.ref a), some (.ref l), some (.ref L), x5, x6, x7, x8, x9] ∧ But p H H' ∧ PoolAt H' p ∧
        H' L = some (.lst tvs) ∧ Paired (TieV H') tvs ts ∧ ts.map (·.1) = ws.take j ∧ ∀ t ∈ ts, TieOk f (ks.map (·.1)) rs t)
      ⟨none, none, none, none, none, [], [], rfl, butOf s2, hp.keep s2, upd_same, .nil, rfl, fun t ht => by cases ht⟩ (fun j σ H' _ ⟨_, _, _, _, _, _, _, _, h, _⟩ => SqL.of (h _ _ hlp hl)) ?_ ?_
    · rintro j x σ H1 hx ⟨x5, x6, x7, x8, x9, tvs, ts, rfl, b1, hp1, hL1, hts, etk, hok⟩
      rw [List.getElem?_map] at hx
      cases ei : ws[j]? with
      | none => rw [ei] at hx; cases hx
      | some i =>
        rw [ei] at hx
        cases hx
        obtain ⟨hi, hany⟩ := hws i (List.mem_of_getElem? ei)
        have hjw := (List.getElem?_eq_some_iff.mp ei).1
        have hc1 := hc.most (mostBut hp b1)
        have ha1 := b1 _ _ hap ha
        have hrs1 := RowsV.keep (tupsBut hp b1) hrs
        refine ⟨_, rfl, _, rfl, c, many, f, ks, i, rfl, hc1, hi, fun H5 lp ps s5 hlp hps => ?_⟩
        refine ⟨lp, rfl, ⟨_, SqL.of hlp⟩, fun D hD => ?_⟩
        refine lc_list (K := K) (a := lp) (xs := ps) (fun j H' => ∃ qs, Same H5 H' ∧ H' D = some (.lst qs) ∧ qs.length ≤ j ∧ Paired (PairV H') qs (((pairsOf f (ks.map (·.1)) i).take j).filter (bothIn rs)))
          ⟨[], same_new hD _, upd_same, Nat.le_refl _, .nil⟩ (fun j H' _ ⟨_, h, _⟩ => SqL.of (h _ _ hlp)) ?_ ?_
        · rintro j2 x H6 hx ⟨qs, s6, hD6, hql, hqs⟩
          obtain ⟨p, hp, t, a', b', rfl, ht, ha', hb'⟩ := pAt hps hx
          have s16 := s5.trans s6
          have dl := RowsV.dp (K := K) (s16 _ _ ha1) (RowsV.keep (tupsOf s16) hrs1)
          have hjl : j2 < ps.length := (List.getElem?_eq_some_iff.mp hx).1
          have hsz : qs.length < sizeLine := by
            refine small1000 ?_
            have e1 := pLen hps
            have e2 := pairsOf_length f (ks.map (·.1)) i
            rw [List.length_map] at e2
            omega
          have efil : ((pairsOf f (ks.map (·.1)) i).take (j2 + 1)).filter (bothIn rs) = (((pairsOf f (ks.map (·.1)) i).take j2).filter (bothIn rs)) ++ (if bothIn rs p = true then [p] else []) := by
            rw [take_more hp, List.filter_append]
            congr 1
            rw [List.filter_cons]
            rfl
          have finT : bothIn rs p = true → ∃ acc, H6 D = some (.lst acc) ∧ acc.length < sizeLine ∧ ∃ qs, Same H5 (upd H6 D (.lst (acc ++ [.ref t]))) ∧ (upd H6 D (.lst (acc ++ [.ref t]))) D = some (.lst qs) ∧ qs.length ≤ j2 + 1 ∧ Paired (PairV (upd H6 D (.lst (acc ++ [.ref t])))) qs (((pairsOf f (ks.map (·.1)) i).take (j2 + 1)).filter (bothIn rs)) := by
            intro c1
            rw [efil, if_pos c1]
            have tk := tupsLst hD6 (.lst (qs ++ [V.ref t]))
            refine ⟨qs, hD6, hsz, qs ++ [.ref t], same_upd s6 hD _, upd_same, ?_, ?_⟩
            · rw [List.length_append, List.length_singleton]
              omega
            · have tk2 : Tups H5 (upd H6 D (.lst (qs ++ [V.ref t]))) := (tupsOf s6).trans tk
              exact pApp (pImp hqs fun _ _ z => z.keep tk) (.cons ⟨t, a', b', rfl, tk2 _ _ ht, ha'.keep tk2, hb'.keep tk2⟩ .nil)
          have finF : bothIn rs p = false → ∃ qs, Same H5 H6 ∧ H6 D = some (.lst qs) ∧ qs.length ≤ j2 + 1 ∧ Paired (PairV H6) qs (((pairsOf f (ks.map (·.1)) i).take (j2 + 1)).filter (bothIn rs)) := by
            intro c1
            rw [efil, if_neg (by rw [c1]; decide), List.append_nil]
            exact ⟨qs, s6, hD6, Nat.le_succ_of_le hql, hqs⟩
          refine ⟨rfl, ?_⟩
          refine ⟨_, rfl, t, _, _, _, rfl, rfl, SqT.of (s6 _ _ ht), rfl, _, rfl, ?_⟩
          refine ⟨_, _, RowV.dp (ha'.keep (tupsOf s6)), dl, rowD_shaped _, rowDs_shaped _, ?_⟩
          rw [rows_any]
          refine ⟨_, rfl, ?_⟩
          by_cases c1 : p.1 ∈ rs
          · refine iteD c1 ?_
            refine ⟨_, rfl, t, _, _, _, rfl, rfl, SqT.of (s6 _ _ ht), rfl, _, rfl, ?_⟩
            refine ⟨_, _, RowV.dp (hb'.keep (tupsOf s6)), dl, rowD_shaped _, rowDs_shaped _, ?_⟩
            rw [rows_any]
            refine ⟨_, rfl, ?_⟩
            by_cases c2 : p.2 ∈ rs
            · exact iteD c2 ⟨_, rfl, finT (by unfold bothIn; rw [decide_eq_true c1, decide_eq_true c2]; rfl)⟩
            · exact iteDF c2 (finF (by unfold bothIn; rw [decide_eq_false c2, Bool.and_false]))
          · refine iteDF c1 (iteF ?_)
            exact finF (by unfold bothIn; rw [decide_eq_false c1, Bool.false_and])
        · rintro H6 ⟨qs, s6, hD6, hql, hqs⟩
          rw [List.take_of_length_le (by rw [← pLen hps]; exact Nat.le_refl _)] at hqs
          have hq0 := inside_end hqs hany
          have s56 := s5.trans s6
          have hql : qs.length ≤ 64 := by
            refine Nat.le_trans hql ?_
            have e1 := pLen hps
            have e2 := pairsOf_length f (ks.map (·.1)) i
            rw [List.length_map] at e2
            omega
          have hp6 := hp1.keep s56
          refine ⟨_, rfl, _, rfl, _, rfl, D, qs, rfl, .inl (SqL.of hD6), p, _, rfl, hp6, (by omega), (by omega), fun H7 e b7 hp7 h70 h79 => ?_⟩
          obtain ⟨en, rfl⟩ := nat_of h70
          have hen : en < qs.length := by omega
          have hqn : qs[en]? = some qs[en] := List.getElem?_eq_getElem hen
          have hD7 := b7 _ _ (hp1.keep s5 |>.new hD) hD6
          have tk7 := tupsBut hp6 b7
          obtain ⟨t, a', b', pp, j1, j2, e1, ht, ha', hb', tok, y1, y2, z1, z2⟩ := tie_of (pImp hqs fun _ _ z => z.keep tk7) hqn
          refine ⟨D, qs, _, qs[en], rfl, rfl, SqL.of hD7, atI_nat hqn, ?_⟩
          rw [e1]
          refine ⟨t, _, rfl, SqT.of ht, rfl, _, _, rfl, _, _, rfl, rfl, ?_⟩
          have hL7 := b7 _ _ hLp (s56 _ _ hL1)
          have ha7 := b7 _ _ hap (s56 _ _ ha1)
          have hrs7 := RowsV.keep ((tupsOf s56).trans tk7) hrs1
          have isl : tyV K "list" (V.ref a) H7 := .inl ⟨rfl, _, SqL.of ha7⟩
          refine ⟨_, rfl, .inl ⟨rfl, _, SqL.of hL7⟩, _, rfl, _, rfl, isl, _, rfl, ?_⟩
          obtain ⟨p1, p2, p3, p4, p5, p6, p7⟩ := ix_rows (K := K) ha7 hrs7 ha' y1 y2
          refine ⟨a, _, _, _, j1, _, rfl, rfl, p1, p2, p3, p4, p5, p6, p7, ?_⟩
          obtain ⟨q1, q2, q3, q4, q5, q6, q7⟩ := ix_rows (K := K) ha7 hrs7 hb' z1 z2
          refine ⟨_, rfl, isl, _, rfl, a, _, _, _, j2, _, rfl, rfl, q1, q2, q3, q4, q5, q6, q7, ?_⟩
          refine ⟨(by show 3 ≤ sizeLine; decide), fun T1 hT1 => ?_⟩
          have s8 := same_new hT1 (.tup [V.int (i : Nat), V.int (j1 : Nat), V.int (j2 : Nat)])
          have hL8 := s8 _ _ hL7
          have hsz : tvs.length ≤ 64 := by
            have e := congrArg List.length etk
            rw [List.length_map, List.length_take] at e
            have e2 := pLen hts
            omega
          refine ⟨L, tvs, _, rfl, rfl, hL8, small1000 (by omega), ?_⟩
          have tk := tupsLst hL8 (.lst (tvs ++ [V.ref T1]))
          have tk1 := (tupsOf s56).trans (tk7.trans ((tupsOf s8).trans tk))
          refine ⟨_, _, _, _, _, tvs ++ [.ref T1], ts ++ [(i, j1, j2)], rfl, butNew (butSame (butTrans (butSame b1 s56) b7) s8) hL _, (hp7.keep s8).put hLp _, upd_same, ?_, ?_, ?_⟩
          · exact pApp (pImp hts fun _ _ z => z.keep tk1) (.cons ⟨T1, rfl, tk _ _ upd_same⟩ .nil)
          · rw [take_more ei, List.map_append, etk]
            rfl
          · intro t' ht'
            rcases List.mem_append.mp ht' with z | z
            · exact hok t' z
            · rw [List.mem_singleton.mp z]
              exact tok
    · rintro σ H1 ⟨x5, x6, x7, x8, x9, tvs, ts, rfl, b1, hp1, hL1, hts, etk, hok⟩
      refine ⟨_, rfl, ?_⟩
      refine k H1 L tvs ts b1 hp1 hL hL1 hts ?_ hok
      rw [etk, List.length_map, List.take_length]
end
end EA

set_option maxHeartbeats 4000000
namespace EA
open PySem PySem.Spec PyProof.Rows L2
theorem flipAt_get {r : Row} {i : Nat} (h : i < r.length) (k : Nat) : (flipAt r i)[k]? = if k = i then some (!r.getD i false) else r[k]? := by
  unfold flipAt
  rw [List.append_assoc, List.getElem?_append, List.length_take, Nat.min_eq_left (Nat.le_of_lt h)]
  by_cases c : k < i
  · rw [if_pos c, List.getElem?_take_of_lt c, if_neg (by omega)]
  · rw [if_neg c]
    by_cases e : k = i
    · subst e
      rw [if_pos rfl, Nat.sub_self]
      rfl
    · rw [if_neg e]
      obtain ⟨m, rfl⟩ : ∃ m, k = i + 1 + m := ⟨k - (i + 1), by omega⟩
      rw [show i + 1 + m - i = m + 1 by omega]
      show (r.drop (i + 1))[m]? = _
      rw [List.getElem?_drop]
theorem flipAt_at {r : Row} {i : Nat} (h : i < r.length) : (flipAt r i).getD i false = !r.getD i false := by
  rw [List.getD_eq_getElem?_getD, flipAt_get h, if_pos rfl]
  rfl
theorem flipAt_other {r : Row} {i k : Nat} (h : i < r.length) (n : k ≠ i) : (flipAt r i).getD k false = r.getD k false := by
  rw [List.getD_eq_getElem?_getD, flipAt_get h, if_neg n, ← List.getD_eq_getElem?_getD]
/-! ### plain: ties of unlike wishes make no ring -/
def Agree (rs : List Row) (g : Int → Int) (W : List Nat) : Prop := ∀ (a b : Nat) (ra rb : Row), rs[a]? = some ra → rs[b]? = some rb → g (a : Int) = g (b : Int) → ∀ k, k ∉ W → ra.getD k false = rb.getD k false
theorem tie_rows {f : An} {cr rs : List Row} {t : Tie} (h : TieOk f cr rs t) : ∃ pa pb, rs[t.2.1]? = some pa ∧ rs[t.2.2]? = some pb ∧ pa ∈ cr ∧ pb = flipAt pa t.1 ∧ pa.getD t.1 false = false := by
  obtain ⟨p, hp, h1, h2⟩ := h
  obtain ⟨m1, m2, e, z⟩ := pairs_in hp
  exact ⟨p.1, p.2, h1, h2, m1, e, z⟩
theorem no_ring {f : An} {cr rs : List Row} {many : Nat} (hl : ∀ r ∈ cr, r.length = many) : ∀ (ts : List Tie) (g : Int → Int) (W : List Nat), Agree rs g W → (∀ t ∈ ts, TieOk f cr rs t) → (∀ t ∈ ts, t.1 < many) → (ts.map (·.1)).Nodup → (∀ t ∈ ts, t.1 ∉ W) → ringF g (ends ts) = false
  | [], _, _, _, _, _, _, _ => rfl
  | t :: ts, g, W, hA, hT, hM, hN, hW => by
    obtain ⟨pa, pb, h1, h2, h3, h4, h5⟩ := tie_rows (hT t (List.mem_cons_self ..))
    have hlen : t.1 < pa.length := by
      rw [hl pa h3]
      exact hM t (List.mem_cons_self ..)
    have hb : pb.getD t.1 false = true := by
      rw [h4, flipAt_at hlen, h5]
      rfl
    have hne : ¬ g (t.2.1 : Int) = g (t.2.2 : Int) := fun e => by
      have := hA _ _ _ _ h1 h2 e t.1 (hW t (List.mem_cons_self ..))
      rw [h5, hb] at this
      cases this
    show (if g (t.2.1 : Int) = g (t.2.2 : Int) then true else ringF (fun x => if g x = g (t.2.1 : Int) then g (t.2.2 : Int) else g x) (ends ts)) = false
    rw [if_neg hne]
    rw [List.map_cons, List.nodup_cons] at hN
    have hab : ∀ k, k ≠ t.1 → pa.getD k false = pb.getD k false := fun k hk => by
      rw [h4, flipAt_other hlen hk]
    refine no_ring hl ts _ (t.1 :: W) ?_ (fun u hu => hT u (List.mem_cons_of_mem _ hu)) (fun u hu => hM u (List.mem_cons_of_mem _ hu)) hN.2 (fun u hu hw => ?_)
    · intro a b ra rb ha hb' e k hk
      have hk1 : k ≠ t.1 := fun z => hk (by rw [z]; exact List.mem_cons_self ..)
      have hk2 : k ∉ W := fun z => hk (List.mem_cons_of_mem _ z)
      have e : (if g (a : Int) = g (t.2.1 : Int) then g (t.2.2 : Int) else g (a : Int)) = (if g (b : Int) = g (t.2.1 : Int) then g (t.2.2 : Int) else g (b : Int)) := e
      by_cases c1 : g (a : Int) = g (t.2.1 : Int)
      · rw [if_pos c1] at e
        by_cases c2 : g (b : Int) = g (t.2.1 : Int)
        · exact hA a b ra rb ha hb' (c1.trans c2.symm) k hk2
        · rw [if_neg c2] at e
          exact ((hA a _ ra pa ha h1 c1 k hk2).trans (hab k hk1)).trans (hA _ b pb rb h2 hb' e k hk2)
      · rw [if_neg c1] at e
        by_cases c2 : g (b : Int) = g (t.2.1 : Int)
        · rw [if_pos c2] at e
          exact ((hA a _ ra pb ha h2 e k hk2).trans (hab k hk1).symm).trans (hA _ b pa rb h1 hb' c2.symm k hk2)
        · rw [if_neg c2] at e
          exact hA a b ra rb ha hb' e k hk2
    · rcases List.mem_cons.mp hw with z | z
      · exact hN.1 (List.mem_map.mpr ⟨u, hu, z⟩)
      · exact hW u (List.mem_cons_of_mem _ hu) z
theorem agree_id (rs : List Row) : Agree rs id [] := fun a b ra rb ha hb e k _ => by
  have e : a = b := Int.ofNat.inj e
  rw [e, hb] at ha
  rw [Option.some.inj ha]
theorem no_ring0 {f : An} {cr rs : List Row} {many : Nat} {ts : List Tie} (hl : ∀ r ∈ cr, r.length = many) (hT : ∀ t ∈ ts, TieOk f cr rs t) (hM : ∀ t ∈ ts, t.1 < many) (hN : (ts.map (·.1)).Nodup) : ringF id (ends ts) = false :=
  no_ring hl ts id [] (agree_id rs) hT hM hN fun _ _ z => by cases z
/-! ### plain: a tie twice is a ring -/
theorem ring_end : ∀ (es : List (Int × Int)) (g : Int → Int) (a b : Int), g a = g b → ringF g (es ++ [(a, b)]) = true
  | [], g, a, b, h => by
    show (if g a = g b then true else false) = true
    rw [if_pos h]
  | (c, d) :: es, g, a, b, h => by
    show (if g c = g d then true else ringF (fun x => if g x = g c then g d else g x) (es ++ [(a, b)])) = true
    by_cases e : g c = g d
    · rw [if_pos e]
    · rw [if_neg e]
      refine ring_end es _ a b ?_
      show (if g a = g c then g d else g a) = (if g b = g c then g d else g b)
      rw [h]
theorem ring_twice {ts : List Tie} (h : ts ≠ []) : ringF id (ends (ts ++ ts.take 1)) = true := by
  cases ts with
  | nil => exact absurd rfl h
  | cons t ts =>
    have e : ends (t :: ts ++ (t :: ts).take 1) = ((t.2.1 : Int), (t.2.2 : Int)) :: (ends ts ++ [((t.2.1 : Int), (t.2.2 : Int))]) := by
      unfold ends
      rw [List.map_append]
      rfl
    rw [e]
    show (if id (t.2.1 : Int) = id (t.2.2 : Int) then true else ringF (fun x => if id x = id (t.2.1 : Int) then id (t.2.2 : Int) else id x) (ends ts ++ [((t.2.1 : Int), (t.2.2 : Int))])) = true
    by_cases c : id (t.2.1 : Int) = id (t.2.2 : Int)
    · rw [if_pos c]
    · rw [if_neg c]
      refine ring_end _ _ _ _ ?_
      show (if id (t.2.1 : Int) = id (t.2.1 : Int) then id (t.2.2 : Int) else id (t.2.1 : Int)) = (if id (t.2.2 : Int) = id (t.2.1 : Int) then id (t.2.2 : Int) else id (t.2.2 : Int))
      rw [if_pos rfl]
      by_cases c2 : id (t.2.2 : Int) = id (t.2.1 : Int)
      · rw [if_pos c2]
      · rw [if_neg c2]
/-! ### plain: one row more than ties -/
theorem count {n : Nat} (hn : 0 < n) : ∀ (es : List (Int × Int)) (g : Int → Int), (∀ e ∈ es, ∃ a b : Nat, e = ((a : Int), (b : Int)) ∧ a < n ∧ b < n) → ringF g es = false → ∃ S : List Int, S.Nodup ∧ S.length = es.length + 1 ∧ ∀ x ∈ S, ∃ a : Nat, a < n ∧ x = g (a : Int)
  | [], g, _, _ => ⟨[g ((0 : Nat) : Int)], by simp, rfl, fun x hx => ⟨0, hn, List.mem_singleton.mp hx⟩⟩
  | e :: es, g, he, hr => by
    obtain ⟨a, b, rfl, ha, hb⟩ := he e (List.mem_cons_self ..)
    have hr : (if g (a : Int) = g (b : Int) then true else ringF (fun x => if g x = g (a : Int) then g (b : Int) else g x) es) = false := hr
    by_cases c : g (a : Int) = g (b : Int)
    · rw [if_pos c] at hr
      cases hr
    · rw [if_neg c] at hr
      obtain ⟨S, h1, h2, h3⟩ := count hn es _ (fun e h => he e (List.mem_cons_of_mem _ h)) hr
      refine ⟨g (a : Int) :: S, List.nodup_cons.mpr ⟨fun hm => ?_, h1⟩, by rw [List.length_cons, h2, List.length_cons], fun x hx => ?_⟩
      · obtain ⟨z, _, hz⟩ := h3 _ hm
        have hz : g (a : Int) = if g (z : Int) = g (a : Int) then g (b : Int) else g (z : Int) := hz
        by_cases c2 : g (z : Int) = g (a : Int)
        · rw [if_pos c2] at hz
          exact c hz
        · rw [if_neg c2] at hz
          exact c2 hz.symm
      · rcases List.mem_cons.mp hx with z | z
        · exact ⟨a, ha, z⟩
        · obtain ⟨y, hy, hz⟩ := h3 _ z
          have hz : x = if g (y : Int) = g (a : Int) then g (b : Int) else g (y : Int) := hz
          by_cases c2 : g (y : Int) = g (a : Int)
          · rw [if_pos c2] at hz
            exact ⟨b, hb, hz⟩
          · rw [if_neg c2] at hz
            exact ⟨y, hy, hz⟩
theorem below : ∀ (n : Nat) (S : List Int), S.Nodup → (∀ x ∈ S, ∃ a : Nat, a < n ∧ x = (a : Int)) → S.length ≤ n
  | 0, S, _, h => by
    cases S with
    | nil => exact Nat.le_refl _
    | cons x t =>
      obtain ⟨a, ha, _⟩ := h x (List.mem_cons_self ..)
      omega
  | n + 1, S, hN, h => by
    have h2 := below n (S.erase (n : Int)) (hN.erase _) fun x hx => by
      have hx2 := (hN.mem_erase_iff).mp hx
      obtain ⟨a, ha, e⟩ := h x hx2.2
      refine ⟨a, ?_, e⟩
      have : a ≠ n := fun z => hx2.1 (by rw [e, z])
      omega
    have h3 := List.length_erase (a := (n : Int)) (l := S)
    split at h3 <;> omega
theorem ties_exist {f : An} {cr rs : List Row} : ∀ (ws : List Nat), (∀ i ∈ ws, (pairsOf f cr i).any (bothIn rs) = true) → ∃ ts : List Tie, ts.map (·.1) = ws ∧ ∀ t ∈ ts, TieOk f cr rs t
  | [], _ => ⟨[], rfl, fun t h => by cases h⟩
  | i :: ws, h => by
    obtain ⟨ts, h1, h2⟩ := ties_exist ws fun j hj => h j (List.mem_cons_of_mem _ hj)
    obtain ⟨p, hp, hb⟩ := List.any_eq_true.mp (h i (List.mem_cons_self ..))
    unfold bothIn at hb
    rw [Bool.and_eq_true, decide_eq_true_iff, decide_eq_true_iff] at hb
    obtain ⟨j1, x1, _⟩ := first_at hb.1
    obtain ⟨j2, y1, _⟩ := first_at hb.2
    refine ⟨(i, j1, j2) :: ts, by rw [List.map_cons, h1], fun t ht => ?_⟩
    rcases List.mem_cons.mp ht with z | z
    · rw [z]
      exact ⟨p, hp, x1, y1⟩
    · exact h2 t z
theorem one_more {f : An} {cr rs : List Row} {many : Nat} {ws : List Nat} (hl : ∀ r ∈ cr, r.length = many) (hw : ∀ i ∈ ws, i < many ∧ (pairsOf f cr i).any (bothIn rs) = true) (hN : ws.Nodup) (hne : ws ≠ []) : ws.length + 1 ≤ rs.length := by
  obtain ⟨ts, h1, h2⟩ := ties_exist ws fun i hi => (hw i hi).2
  have hr := no_ring0 hl h2 (fun t ht => (hw t.1 (by rw [← h1]; exact List.mem_map.mpr ⟨t, ht, rfl⟩)).1) (by rw [h1]; exact hN)
  have hin : ∀ t ∈ ts, t.2.1 < rs.length ∧ t.2.2 < rs.length := fun t ht => by
    obtain ⟨p, _, e1, e2⟩ := h2 t ht
    exact ⟨(List.getElem?_eq_some_iff.mp e1).1, (List.getElem?_eq_some_iff.mp e2).1⟩
  have hn : 0 < rs.length := by
    cases ts with
    | nil => exact absurd h1.symm hne
    | cons t ts =>
      have := (hin t (List.mem_cons_self ..)).1
      omega
  obtain ⟨S, s1, s2, s3⟩ := count hn (ends ts) id (fun e he => by
    unfold ends at he
    obtain ⟨t, ht, e⟩ := List.mem_map.mp he
    exact ⟨t.2.1, t.2.2, e.symm, (hin t ht).1, (hin t ht).2⟩) hr
  have h4 := below rs.length S s1 s3
  have e1 : (ends ts).length = ts.length := by
    unfold ends
    rw [List.length_map]
  have e2 : ts.length = ws.length := by
    rw [← h1, List.length_map]
  omega
theorem shown_nodup (f : An) (cr rs : List Row) (many : Nat) : (shownW f cr rs many).Nodup := List.nodup_range.sublist List.filter_sublist
theorem shown_in {f : An} {cr rs : List Row} {many i : Nat} (h : i ∈ shownW f cr rs many) : i < many ∧ (pairsOf f cr i).any (bothIn rs) = true := by
  unfold shownW at h
  obtain ⟨h1, h2⟩ := List.mem_filter.mp h
  exact ⟨List.mem_range.mp h1, h2⟩
end EA

set_option maxHeartbeats 4000000
namespace EA
open PySem PySem.Spec PyProof.Rows L2
theorem and_no {c : Bool} {A B : Prop} (f : c = true → B → A) (h : B) : if c = true then A else B := by
  cases c
  · exact h
  · exact f rfl h
theorem pAtR {α β : Type} {F : α → β → Prop} : ∀ {l₁ : List α} {l₂ : List β}, Paired F l₁ l₂ → ∀ {i : Nat} {b : β}, l₂[i]? = some b → ∃ a, l₁[i]? = some a ∧ F a b
  | _, _, .nil, i, a, h => by simp at h
  | _, _, .cons r t, 0, a, h => by simp at h; subst h; exact ⟨_, rfl, r⟩
  | _, _, .cons r t, i + 1, a, h => by
    obtain ⟨b, h1, h2⟩ := pAtR t (i := i) (b := a) (by simpa using h)
    exact ⟨b, by simpa using h1, h2⟩
theorem natI (ws : List Nat) : (ws.map fun (i : Nat) => V.int i) = (ws.map fun (i : Nat) => (i : Int)).map V.int := by
  rw [List.map_map]
  rfl
theorem nats_dp {K : PySem.W.Frag} {H : Hp} {a : Addr} {ws : List Nat} (h : H a = some (.lst (ws.map fun (i : Nat) => V.int i))) : Dp K H (.ref a) (.list ((ws.map fun (i : Nat) => (i : Int)).map PyData.int)) := by
  rw [natI] at h
  exact Dp.lst (SqL.of h) (dpAll_int _)
def tieD (t : Tie) : PyData := .tuple [.int t.1, .int t.2.1, .int t.2.2]
theorem TieV.dp {K : PySem.W.Frag} {H : Hp} {v : V} {t : Tie} (h : TieV H v t) : Dp K H v (tieD t) := by
  obtain ⟨a, rfl, h⟩ := h
  exact .tup (SqT.of h) (.cons (.int _) (.cons (.int _) (.cons (.int _) .nil)))
theorem ties_dp {K : PySem.W.Frag} {H : Hp} : ∀ {vs : List V} {ts : List Tie}, Paired (TieV H) vs ts → DpAll K H vs (ts.map tieD)
  | _, _, .nil => .nil
  | _, _, .cons h t => .cons h.dp (ties_dp t)
theorem ties_lay : ∀ ts : List Tie, PyData.canLayAll0 (ts.map tieD) = true
  | [] => by simp [PyData.canLayAll0]
  | t :: ts => by simp [PyData.canLayAll0, PyData.canLay0, tieD, ties_lay ts]
theorem ties_depth : ∀ ts : List Tie, PyData.depthAll (ts.map tieD) ≤ 1
  | [] => by simp [PyData.depthAll]
  | t :: ts => by
    have h1 := ties_depth ts
    simp only [List.map_cons, PyData.depthAll, PyData.depth, tieD]
    omega
theorem ties_shaped (ts : List Tie) : SeqAt.shaped (.list (ts.map tieD)) = true := by
  have h1 := ties_depth ts
  exact shaped_of (by simp only [PyData.canLay0]; exact ties_lay ts) (by simp only [PyData.depth]; omega)
/-- a pair of rows as data -/
def pairD (p : Row × Row) : PyData := .tuple [rowD p.1, rowD p.2]
theorem PairV.dp {K : PySem.W.Frag} {H : Hp} {v : V} {p : Row × Row} (h : PairV H v p) : Dp K H v (pairD p) := by
  obtain ⟨t, a, b, rfl, h, ha, hb⟩ := h
  exact .tup (SqT.of h) (.cons ha.dp (.cons hb.dp .nil))
theorem pairs_dp {K : PySem.W.Frag} {H : Hp} : ∀ {vs : List V} {ps : List (Row × Row)}, Paired (PairV H) vs ps → DpAll K H vs (ps.map pairD)
  | _, _, .nil => .nil
  | _, _, .cons h t => .cons h.dp (pairs_dp t)
theorem pairD_lay (p : Row × Row) : (pairD p).canLay0 = true := by simp [pairD, PyData.canLay0, PyData.canLayAll0, rowD_lay]
theorem pairD_depth (p : Row × Row) : (pairD p).depth ≤ 2 := by
  have h1 := rowD_depth p.1
  have h2 := rowD_depth p.2
  simp only [pairD, PyData.depth, PyData.depthAll]
  omega
theorem pairD_shaped (p : Row × Row) : SeqAt.shaped (pairD p) = true := shaped_of (pairD_lay p) (by have := pairD_depth p; omega)
theorem pairs_lay : ∀ ps : List (Row × Row), PyData.canLayAll0 (ps.map pairD) = true
  | [] => by simp [PyData.canLayAll0]
  | p :: ps => by simp [PyData.canLayAll0, pairD_lay p, pairs_lay ps]
theorem pairs_depth : ∀ ps : List (Row × Row), PyData.depthAll (ps.map pairD) ≤ 2
  | [] => by simp [PyData.depthAll]
  | p :: ps => by
    have h1 := pairs_depth ps
    have h2 := pairD_depth p
    simp only [List.map_cons, PyData.depthAll]
    omega
theorem pairs_shaped (ps : List (Row × Row)) : SeqAt.shaped (.list (ps.map pairD)) = true := by
  have h1 := pairs_depth ps
  exact shaped_of (by simp only [PyData.canLay0]; exact pairs_lay ps) (by simp only [PyData.depth]; omega)
theorem pairD_eqv (p : Row × Row) : PyData.eqv (pairD p) (pairD p) = true := by
  simp [pairD, PyData.eqv, PyData.eqvAll, rowD_eqv]
theorem pair_any {ps : List (Row × Row)} {p : Row × Row} (h : p ∈ ps) : (!(ps.map pairD).any fun z => PyData.eqv z (pairD p)) = false := by
  have h1 : ((ps.map pairD).any fun z => PyData.eqv z (pairD p)) = true := List.any_eq_true.mpr ⟨pairD p, List.mem_map.mpr ⟨p, h, rfl⟩, pairD_eqv p⟩
  rw [h1]
  rfl
/-- the rows of a book to be -/
def RL (p : Addr) (H : Hp) (rs : List Row) (D : Addr) (v : V) : Prop := ∃ a rvs rr, v = .ref a ∧ a ≠ p ∧ a ≠ D ∧ H a = some (.lst rvs) ∧ RowsV H rvs rr ∧ rr.Nodup ∧ (∀ r ∈ rr, r ∈ rs) ∧ rr.length ≤ 32
theorem RL.but {p D : Addr} {H H' : Hp} {rs : List Row} {v : V} (h : RL p H rs D v) (hp : PoolAt H p) (b : But p H H') : RL p H' rs D v := by
  obtain ⟨a, rvs, rr, e, h1, h2, h3, h4, h5⟩ := h
  exact ⟨a, rvs, rr, e, h1, h2, b _ _ h1 h3, RowsV.keep (tupsBut hp b) h4, h5⟩
theorem RL.put {p D : Addr} {H : Hp} {rs : List Row} {v : V} (h : RL p H rs D v) {xs : List V} (hD : H D = some (.lst xs)) (o : HO) : RL p (upd H D o) rs D v := by
  obtain ⟨a, rvs, rr, e, h1, h2, h3, h4, h5⟩ := h
  exact ⟨a, rvs, rr, e, h1, h2, by rw [upd_ne h2]; exact h3, RowsV.keep (tupsLst hD o) h4, h5⟩
theorem sameBut {p : Addr} {H0 Ha Hb Hc : Hp} (s : Same H0 Ha) (n : Ha p = none) (t : Same Ha Hb) (b : But p Hb Hc) : Same H0 Hc := fun x o h => b x o (ne_of_none (s x o h) n) (t x o (s x o h))
def spLaw (K : PySem.W.Frag) : Sp := fun vs H Q _ => ∃ (a : Addr) (ns : List Int), vs = [.ref a] ∧ SqL K H a (ns.map V.int) ∧ ∀ H', Q (.bl true) H'
section
variable {P : Program} {w : World} {K : PySem.W.Frag} {mg : Str → Option Value} {base : Heap} {C B : Addr} {f : Addr} {fd : FuncData}
theorem sc59 : FnScope ["_law_script", "_law_k", "_law_pool_here", "_law_case_here", "_law_made", "_law_rows", "_law_book", "_law_wishes", "_law_web", "_law_turn", "_law_wish", "_law_one", "_law_other", "_law_tie"] ["_law_script"] (defScope s59) := ⟨rfl, rfl, rfl, by decide +kernel, rfl, by decide +kernel, by decide +kernel⟩
theorem ok59 (T : Tx K mg C B) (F : FunD K "law" "law" (defArgs s59) (defBody s59) (defScope s59) [] [] f fd) (o__law_pool : Own P w K mg base 1 "_law_pool" ["_law_script", "_law_k"] [] (spPool K)) (o__law_case : Own P w K mg base 8 "_law_case" ["_law_pool_here", "_law_wishes", "_law_most"] [] spLCase)
    (o_Case : OwnMk P w K mg base 25 C "Case" ["self", "many", "decision", "rows"] (spCaseInit P w C)) (o_Book : OwnMk P w K mg base 5 B "Book" ["self", "case", "rows"] (spBookInit P w C B)) (o_shown_by : Own P w K mg base 28 "shown_by" ["case", "book", "loosely"] [.bl false] (spShown P w C B))
    (o_Book_len : OwnM P w K mg base 1 B "__len__" ["self"] (spBookLen B)) (o_web_of : Own P w K mg base 29 "web_of" ["case", "book"] [] (spWeb P w C B)) (o_has_ring : Own P w K mg base 2 "has_ring" ["ties"] [] spRing) (o_pairs : Own P w K mg base 26 "pairs" ["case", "wish"] [] (spPairs P w C))
    (o__law_ties : Own P w K mg base 27 "_law_ties" ["_law_pool_here", "_law_case_here", "_law_rows", "_law_wishes"] [] (spTies P w C)) (o__law_some : Own P w K mg base 2 "_law_some" ["_law_pool_here", "_law_rows"] [] spSome) : FnOk P w K mg base CX0 30 f fd ["_law_script"] (spLaw K) := by
  refine ok0 F sc59 (fun vs H Q E h => ?_) (fun cdv A outer s H vs Q E hr h => ?_)
  · obtain ⟨_, _, rfl, _⟩ := h
    rfl
  · obtain ⟨a, ns, rfl, ha, k⟩ := h
    refine ⟨_, (pss_cons (ps_for PassesOwn.never rfl (pi_range1 (by rfl) T.f_range (pa_cons (pe_callB (call_max2 rfl) (by rfl) T.f_max (by decide +kernel) (pa_cons pe_int (pa_cons (pe_callB (call_min2 rfl) (by rfl) T.f_min (by decide +kernel) (pa_cons pe_int (pa_cons (pe_callB call_len_seq (by rfl) T.f_len (by decide +kernel) (pa_cons (pv 0) pa_nil)) pa_nil))) pa_nil))) pa_nil)) (pg_name (i := 1) sc59.nd rfl (by first | exact Or.inl rfl | exact Or.inr rfl)) (pss_cons (ps_set (i := 2) sc59.nd rfl (by first | exact Or.inl rfl | exact Or.inr rfl) (pe_own o__law_pool (hr.mono (by omega)) rfl (pa_cons (pv 0) (pa_cons (pv 1) pa_nil))))
    (pss_cons (ps_set (i := 3) sc59.nd rfl (by first | exact Or.inl rfl | exact Or.inr rfl) (pe_own o__law_case (hr.mono (by omega)) rfl (pa_cons (pv 2) (pa_cons pe_int (pa_cons pe_int pa_nil)))))
    (pss_cons (ps_set (i := 4) sc59.nd rfl (by first | exact Or.inl rfl | exact Or.inr rfl) (pe_ownMk o_Case (hr.mono (by omega)) rfl (pa_cons (pe_ix ix_list (pv 3) pe_int (fun _ _ => rfl)) (pa_cons (pe_ix ix_list (pv 3) pe_int (fun _ _ => rfl)) (pa_cons (pe_ix ix_list (pv 3) pe_int (fun _ _ => rfl)) pa_nil)))))
    (pss_one (ps_for PassesOwn.never rfl (pi_list (pe_op op_cat (pe_lst (pa_cons (pe_callTy call_list_of (by rfl) T.f_list (by decide +kernel) (pa_cons (pe_ix ix_list (pv 3) pe_int (fun _ _ => rfl)) pa_nil)) pa_nil)) (pe_lc (own := [("_law_turn", 9)]) rfl sc59.nd (pi_range1 (by rfl) T.f_range (pa_cons pe_int pa_nil)) (blkOk_by (N := ["_law_script", "_law_k", "_law_pool_here", "_law_case_here", "_law_made", "_law_rows", "_law_book", "_law_wishes", "_law_web", "_law_turn", "_law_wish", "_law_one", "_law_other", "_law_tie"]) (sc := defScope s59) (by decide +kernel)) (fun _ _ _ _ _ => (pg_name (i := 9) sc59.nd rfl (by first | exact Or.inl rfl | exact Or.inr rfl))) (fun _ _ _ _ _ => pts_nil) (fun _ _ _ _ _ => (pe_own o__law_some (hr.mono (by omega)) rfl (pa_cons (pv 2) (pa_cons (pe_ix (r := rIxL K) ix_list (pv 3) pe_int (fun _ _ => rfl)) pa_nil))))))) (pg_name (i := 5) sc59.nd rfl (by first | exact Or.inl rfl | exact Or.inr rfl)) (pss_cons (ps_set (i := 6) sc59.nd rfl (by first | exact Or.inl rfl | exact Or.inr rfl) (pe_ownMk o_Book (hr.mono (by omega)) rfl (pa_cons (pv 4) (pa_cons (pv 5) pa_nil))))
    (pss_cons (ps_set (i := 7) sc59.nd rfl (by first | exact Or.inl rfl | exact Or.inr rfl) (pe_own o_shown_by (hr.mono (by omega)) rfl (pa_cons (pv 4) (pa_cons (pv 6) pa_nil))))
    (pss_cons (ps_if (PW.pt (pw_and (pt_cmpR (op_neD hr.units) (pv 7) (pe_lst pa_nil) (nomark _)) (pw_and1 (pt_cmpR op_lt (pe_callB (call_lenOwn o_Book_len T.clBook (hr.mono (by omega))) (by rfl) T.f_len (by decide +kernel) (pa_cons (pv 6) pa_nil)) (pe_op op_add (pe_callB call_len_seq (by rfl) T.f_len (by decide +kernel) (pa_cons (pv 7) pa_nil)) pe_int) (nomark _))))) (pss_one (ps_ret pe_bl)) pss_nil)
    (pss_cons (ps_set (i := 8) sc59.nd rfl (by first | exact Or.inl rfl | exact Or.inr rfl) (pe_own o_web_of (hr.mono (by omega)) rfl (pa_cons (pv 4) (pa_cons (pv 6) pa_nil))))
    (pss_cons (ps_if (PW.pt (pw_or (pt_cmpR (op_neD hr.units) (pe_lc (own := [("_law_tie", 13)]) rfl sc59.nd (pi_list (pv 8)) (blkOk_by (N := ["_law_script", "_law_k", "_law_pool_here", "_law_case_here", "_law_made", "_law_rows", "_law_book", "_law_wishes", "_law_web", "_law_turn", "_law_wish", "_law_one", "_law_other", "_law_tie"]) (sc := defScope s59) (by decide +kernel)) (fun _ _ _ _ _ => (pg_name (i := 13) sc59.nd rfl (by first | exact Or.inl rfl | exact Or.inr rfl))) (fun _ _ _ _ _ => pts_nil) (fun _ _ _ _ _ => (pe_ix (r := rIxT K) ix_tup (pv 13) pe_int (fun _ _ => rfl)))) (pv 7) (nomark _)) (pw_or1 (pt_val (pe_own o_has_ring (hr.mono (by omega)) rfl (pa_cons (pv 8) pa_nil)))))) (pss_one (ps_ret pe_bl)) pss_nil)
    (pss_cons (ps_for PassesOwn.never rfl (pi_list (pv 8)) (pg_tup rfl (pgs_cons (pg_name (i := 10) sc59.nd rfl (by first | exact Or.inl rfl | exact Or.inr rfl)) (pgs_cons (pg_name (i := 11) sc59.nd rfl (by first | exact Or.inl rfl | exact Or.inr rfl)) (pgs_cons (pg_name (i := 12) sc59.nd rfl (by first | exact Or.inl rfl | exact Or.inr rfl)) pgs_nil)))) (pss_one (ps_if (pt_cmpR (op_notInD (hu65 hr)) (pe_tup (pa_cons (pe_ix ix_list (pv 5) (pv 11) (fun _ _ => rfl)) (pa_cons (pe_ix ix_list (pv 5) (pv 12) (fun _ _ => rfl)) pa_nil))) (pe_own o_pairs (hr.mono (by omega)) rfl (pa_cons (pv 4) (pa_cons (pv 10) pa_nil))) (by with_unfolding_all rfl)) (pss_one (ps_ret pe_bl)) pss_nil)))
    (pss_cons (ps_for PassesOwn.never rfl (pi_range1 (by rfl) T.f_range (pa_cons pe_int pa_nil)) (pg_name (i := 9) sc59.nd rfl (by first | exact Or.inl rfl | exact Or.inr rfl)) (pss_one (ps_if (pt_val (pe_own o_has_ring (hr.mono (by omega)) rfl (pa_cons (pe_own o__law_ties (hr.mono (by omega)) rfl (pa_cons (pv 2) (pa_cons (pv 4) (pa_cons (pv 5) (pa_cons (pv 7) pa_nil))))) pa_nil))) (pss_one (ps_ret pe_bl)) pss_nil)))
    (pss_one (ps_if (PW.pt (pw_and (pt_cmpR (op_neD hr.units) (pv 8) (pe_lst pa_nil) (nomark _)) (pw_and1 (pt_not (pt_val (pe_own o_has_ring (hr.mono (by omega)) rfl (pa_cons (pe_op op_cat (pv 8) (pe_slice sl_list (pv 8) po_none (po_some pe_int))) pa_nil))))))) (pss_one (ps_ret pe_bl)) pss_nil)))))))))))))))
    (pss_one (ps_ret pe_bl))), ?_⟩
    have nb : -(2 ^ 62) ≤ (if (if ((ns.map V.int).length : Int) < 8 then ((ns.map V.int).length : Int) else 8) > 1 then (if ((ns.map V.int).length : Int) < 8 then ((ns.map V.int).length : Int) else 8) else 1) ∧ (if (if ((ns.map V.int).length : Int) < 8 then ((ns.map V.int).length : Int) else 8) > 1 then (if ((ns.map V.int).length : Int) < 8 then ((ns.map V.int).length : Int) else 8) else 1) ≤ 8 := by
      split <;> split <;> omega
    refine ⟨_, rfl, a, _, rfl, .inl ha, _, _, rfl, _, _, rfl, _, rfl, nb.1, Int.lt_of_le_of_lt nb.2 (by decide), ?_⟩
    refine for_range (lo := 0) (fun j σ H' => ∃ x1 x2 x3 x4 x5 x6 x7 x8 x9 x10 x11 x12 x13, σ = [some (.ref a), x1, x2, x3, x4, x5, x6, x7, x8, x9, x10, x11, x12, x13] ∧ Same H H') ⟨none, none, none, none, none, none, none, none, none, none, none, none, none, rfl, Same.refl _⟩ ?_ ?_
    · rintro i σ H1 hi ⟨x1, x2, x3, x4, x5, x6, x7, x8, x9, x10, x11, x12, x13, rfl, s1⟩
      have hi8 : i < 8 := by omega
      refine ⟨_, rfl, _, rfl, a, ns, i, by rw [Int.zero_add]; rfl, sqlSame s1 ha, by omega, fun H2 p s2 hp0 hp2 => ?_⟩
      refine ⟨_, rfl, p, 5, 32, rfl, hp2, by decide, by decide, by decide, fun H3 l many dv m f rl rvs rs b3 hp3 hl0 hl hm1 hm5 hdec hm60 hrl0 hrl hrs hnd hlen h32 hne => ?_⟩
      have hlp := hp2.new hl0
      have hrlp := hp2.new hrl0
      refine ⟨_, rfl, l, _, 0, _, rfl, rfl, SqL.of hl, rfl, _, rfl, l, _, 1, _, rfl, rfl, SqL.of hl, rfl, _, rfl, l, _, 2, _, rfl, rfl, SqL.of hl, rfl, fun c dx hc0 hdx0 hnx => ?_⟩
      have sA : Same H3 (upd (upd H3 dx (.own c)) c (.ins C dx [])) := same_upd (same_new hdx0 _) hc0 _
      refine ⟨c, dx, many, 6, dv, m, f, rl, rvs, rs, rfl, upd_same, hdec.keep (tupsOf sA), (by decide), hm60, hm1, (by omega), sA _ _ hrl, RowsV.keep (tupsOf sA) hrs, hne, hlen, hnd, (by omega), fun H4 ks b4 hc4 hperm => ⟨rfl, ?_⟩⟩
      have s34 : Same H3 H4 := fun x o q => b4 x o (ne_of_none q hc0) (sA x o q)
      have hl4 := s34 _ _ hl
      have hrl4 := s34 _ _ hrl
      have hrs4 := RowsV.keep (tupsOf s34) hrs
      have hp4 := hp3.keep s34
      have hin : ∀ r ∈ rs, r ∈ ks.map (·.1) := fun r hr => hperm.mem_iff.mpr hr
      -- the lists of rows
      refine ⟨_, rfl, l, _, 2, _, rfl, rfl, SqL.of hl4, rfl, rl, rvs, rfl, .inl (SqL.of hrl4), fun a0 ha0 => ⟨(by show 1 ≤ sizeLine; decide), fun L1 hL1 => ?_⟩⟩
      have s5 : Same H4 (upd (upd H4 a0 (.lst rvs)) L1 (.lst [.ref a0])) := (same_new ha0 _).trans (same_new hL1 _)
      have hL15 : (upd (upd H4 a0 (.lst rvs)) L1 (.lst [.ref a0])) L1 = some (.lst [.ref a0]) := upd_same
      have ha05 : (upd (upd H4 a0 (.lst rvs)) L1 (.lst [.ref a0])) a0 = some (.lst rvs) := (same_new hL1 _) _ _ upd_same
      generalize hH5 : (upd (upd H4 a0 (.lst rvs)) L1 (.lst [.ref a0])) = H5 at s5 hL15 ha05
      have hp5 := hp4.keep s5
      have ha0p : a0 ≠ p := hp4.new ha0
      have hL1p : L1 ≠ p := (hp4.keep (same_new ha0 (.lst rvs))).new hL1
      refine ⟨5, rfl, (by decide), (by decide), fun D hD => ?_⟩
      have hDp := hp5.new hD
      have hL1D : L1 ≠ D := ne_of_none hL15 hD
      have ha0D : a0 ≠ D := ne_of_none ha05 hD
      refine lc_range (lo := 0) (n := 5) (fun j H' => But p H5 H' ∧ PoolAt H' p ∧ ∃ xs, H' D = some (.lst xs) ∧ xs.length = j ∧ ∀ x ∈ xs, RL p H' rs D x) ⟨butOf (same_new hD _), hp5.keep (same_new hD _), [], upd_same, rfl, fun x hx => by cases hx⟩ ?_ ?_
      · rintro j H6 hj ⟨b6, hp6, xs, hD6, hxl, hxs⟩
        have hl6 := b6 _ _ hlp (s5 _ _ hl4)
        have hrl6 := b6 _ _ hrlp (s5 _ _ hrl4)
        refine ⟨rfl, _, rfl, _, rfl, l, _, 2, _, rfl, rfl, SqL.of hl6, rfl, p, rl, rvs, rs, rfl, hp6, hrlp, hrl6, RowsV.keep ((tupsOf s5).trans (tupsBut hp5 b6)) hrs4, h32, fun H7 l7 fvs fs ss b7 hp7 hl70 hl7 hfs hfp hfsub => ?_⟩
        have hD7 := b7 _ _ hDp hD6
        have hlD : l7 ≠ D := fun z => by rw [z, hD6] at hl70; cases hl70
        refine ⟨xs, hD7, small1000 (by omega), butNew (butTrans b6 b7) hD _, hp7.put hDp _, xs ++ [.ref l7], upd_same, by rw [List.length_append, hxl]; rfl, fun x hx => ?_⟩
        refine RL.put ?_ hD7 _
        rcases List.mem_append.mp hx with z | z
        · exact (hxs x z).but hp6 b7
        · rw [List.mem_singleton.mp z]
          exact ⟨l7, fvs, fs, rfl, hp6.new hl70, hlD, hl7, hfs, (hfp.nodup_iff).mpr (hnd.sublist hfsub), fun r hr => hfsub.subset (hfp.mem_iff.mp hr), by rw [hfp.length_eq]; exact Nat.le_trans hfsub.length_le h32⟩
      · rintro H6 ⟨b6, hp6, xs, hD6, hxl, hxs⟩
        have hL16 := b6 _ _ hL1p hL15
        refine ⟨L1, D, [.ref a0], xs, rfl, rfl, hL16, hD6, (by show [V.ref a0].length + xs.length ≤ sizeLine; rw [hxl]; exact small (by show 1 + 5 ≤ 1000; decide)), fun LL hLL => ?_⟩
        have s7 := same_new hLL (.lst ([V.ref a0] ++ xs))
        have hLLp := hp6.new hLL
        have hp7 := hp6.keep s7
        have hall : ∀ x ∈ [V.ref a0] ++ xs, RL p (upd H6 LL (.lst ([V.ref a0] ++ xs))) rs D x := by
          intro x hx
          rcases List.mem_append.mp hx with z | z
          · rw [List.mem_singleton.mp z]
            exact ⟨a0, rvs, rs, rfl, ha0p, ha0D, s7 _ _ (b6 _ _ ha0p ha05), RowsV.keep ((tupsOf s5).trans ((tupsBut hp5 b6).trans (tupsOf s7))) hrs4, hnd, fun r hr => hr, h32⟩
          · exact (hxs x z).but hp6 (butOf s7)
        have hc7 : CaseAt P w C (upd H6 LL (.lst ([V.ref a0] ++ xs))) c many f ks := ((hc4.same s5).most (mostBut hp5 b6)).same s7
        have hLL7 : (upd H6 LL (.lst ([V.ref a0] ++ xs))) LL = some (.lst ([V.ref a0] ++ xs)) := upd_same
        have bk : But p H2 (upd H6 LL (.lst ([V.ref a0] ++ xs))) := butTrans b3 (butTrans (butOf s34) (butTrans (butOf s5) (butTrans b6 (butOf s7))))
        generalize hH7 : (upd H6 LL (.lst ([V.ref a0] ++ xs))) = H7 at s7 hp7 hall hc7 hLL7 bk
        refine ⟨LL, rfl, ⟨_, SqL.of hLL7⟩, ?_⟩
        refine for_list (K := K) (a := LL) (xs := [V.ref a0] ++ xs) (fun j σ H' => ∃ x5 x6 x7 x8 x9 x10 x11 x12 x13, σ = [some (.ref a), some (.int (0 + (i : Int))), some (.ref p), some (.ref l), some (.ref c), x5, x6, x7, x8, x9, x10, x11, x12, x13] ∧ But p H7 H' ∧ PoolAt H' p)
          ⟨_, _, _, _, _, _, _, _, _, rfl, butOf (Same.refl _), hp7⟩ (fun j σ H' _ ⟨_, _, _, _, _, _, _, _, _, _, h, _⟩ => SqL.of (h _ _ hLLp hLL7)) ?_ ?_
        · rintro j x σ H8 hx ⟨y5, y6, y7, y8, y9, y10, y11, y12, y13, rfl, b8, hp8⟩
          obtain ⟨ra, rv, rr, rfl, hrap, _, hra, hrr, hrnd, hrin, hr32⟩ := (hall x (List.mem_of_getElem? hx)).but hp7 b8
          have hc8 := hc7.most (mostBut hp7 b8)
          have hrk : ∀ r ∈ rr, r ∈ ks.map (·.1) := fun r hr => hin r (hrin r hr)
          obtain ⟨_, _, _, _, _, _, _, _, _, hkl, _, _⟩ := id hc8
          have hcl : ∀ r ∈ ks.map (·.1), r.length = many := fun r hr => by
            obtain ⟨z, hz, ez⟩ := List.mem_map.mp hr
            rw [← ez]
            exact hkl z hz
          -- the book
          refine ⟨_, rfl, _, rfl, fun b dxb hb0 hdxb0 hnb => ?_⟩
          have sB : Same H8 (upd (upd H8 dxb (.own b)) b (.ins B dxb [])) := same_upd (same_new hdxb0 _) hb0 _
          refine ⟨b, dxb, c, many, f, ks, ra, rv, rr, rfl, upd_same, hc8.same sB, sB _ _ hra, RowsV.keep (tupsOf sB) hrr, hrk, hrnd, (by omega), fun H9 b9 hb9 => ⟨rfl, ?_⟩⟩
          have s89 : Same H8 H9 := fun x o q => b9 x o (ne_of_none q hb0) (sB x o q)
          -- the wishes
          refine ⟨_, rfl, _, rfl, c, b, many, f, ks, rr, rfl, hc8.same s89, hb9, fun H10 lw s910 hlw0 hlw => ?_⟩
          have hshown := fun {i : Nat} (h : i ∈ shownW f (ks.map (·.1)) rr many) => shown_in h
          have hsnd := shown_nodup f (ks.map (·.1)) rr many
          generalize hws : shownW f (ks.map (·.1)) rr many = ws at hlw hshown hsnd
          have s810 := s89.trans s910
          have hlwp : lw ≠ p := (hp8.keep s89).new hlw0
          have hb10 := hb9.same s910
          have hws8 : ws.length ≤ 5 := by
            rw [← hws]
            refine Nat.le_trans (List.length_filter_le _ _) ?_
            rw [List.length_range]
            exact hm5
          refine ⟨_, rfl, (by show 0 ≤ sizeLine; decide), fun e1 he1 => ?_⟩
          have sE := same_new he1 (.lst [])
          refine ⟨_, _, nats_dp (sE _ _ hlw), Dp.lst (SqL.of upd_same) .nil, ints_shaped _, nilD_shaped, _, rfl, ?_⟩
          have s811 := s810.trans sE
          have hlw11 := sE _ _ hlw
          have hb11 := hb10.same sE
          generalize hH11 : upd H10 e1 (.lst []) = H11 at sE s811 hlw11 hb11
          have ews : (!PyData.eqv (.list ((ws.map fun (i : Nat) => (i : Int)).map PyData.int)) (.list [])) = decide (ws ≠ []) := by
            rw [show PyData.list [] = PyData.list (([] : List Int).map PyData.int) from rfl, intsD_eqv]
            cases ws <;> simp
          refine and_no (fun cw hB => ?_) (iteF ?_)
          · rw [ews] at cw
            have hm := one_more hcl (fun i hi => hshown hi) hsnd (of_decide_eq_true cw)
            obtain ⟨dxB, lB, rvB, hBb, _⟩ := id hb11
            refine ⟨_, rfl, b, dxB, _, rfl, hBb, b, rr, rfl, hb11, _, rfl, (by omega), (by omega), ?_⟩
            refine ⟨_, rfl, lw, _, rfl, .inl (SqL.of hlw11), _, _, rfl, rfl, _, _, rfl, rfl, _, rfl, ?_⟩
            rw [show decide ((rr.length : Int) < ((ws.map fun (i : Nat) => V.int i).length : Int) + 1) = false from decide_eq_false (by rw [List.length_map]; omega)]
            exact hB
          -- the web
          have hc11 := hc8.same s811
          refine ⟨_, rfl, _, rfl, c, b, many, f, ks, rr, rfl, hc11, hb11, fun H12 lweb tvs ts s12 hweb0 hweb hts etk hok => ?_⟩
          rw [hws] at etk
          have s812 := s811.trans s12
          have hlw12 := s12 _ _ hlw11
          have htl : ts.length ≤ 5 := by
            rw [← etk, List.length_map] at hws8
            exact hws8
          have hring := no_ring0 hcl hok (fun t ht => (hshown (by rw [← etk]; exact List.mem_map.mpr ⟨t, ht, rfl⟩)).1) (by rw [etk]; exact hsnd)
          refine ⟨_, rfl, lweb, rfl, ⟨_, SqL.of hweb⟩, fun D2 hD2 => ?_⟩
          refine lc_list (K := K) (a := lweb) (xs := tvs) (fun j H' => Same H12 H' ∧ H' D2 = some (.lst ((ts.take j).map fun t => V.int t.1))) ⟨same_new hD2 _, upd_same⟩ (fun j H' _ h => SqL.of (h.1 _ _ hweb)) ?_ ?_
          · rintro j2 x H13 hx ⟨s13, hD13⟩
            obtain ⟨t, ht, ta, rfl, hta⟩ := pAt hts hx
            refine ⟨rfl, _, rfl, ta, _, 0, _, rfl, rfl, SqT.of (s13 _ _ hta), rfl, _, hD13, ?_, same_upd s13 hD2 _, ?_⟩
            · rw [List.length_map, List.length_take]
              exact small1000 (by omega)
            · rw [upd_same, take_more ht, List.map_append]
              rfl
          · rintro H13 ⟨s13, hD13⟩
            rw [List.take_of_length_le (by rw [← pLen hts]; exact Nat.le_refl _)] at hD13
            have hD13' : H13 D2 = some (.lst (ws.map fun (i : Nat) => V.int i)) := by
              rw [hD13, ← etk, List.map_map]
              rfl
            have hlw13 := s13 _ _ hlw12
            refine ⟨_, rfl, _, _, nats_dp hD13', nats_dp hlw13, ints_shaped _, ints_shaped _, _, rfl, ?_⟩
            refine iteB (c := false) (by rw [intsD_eqv]; simp) (iteF ?_)
            have hts13 := pImp hts fun _ _ z => TieV.keep (tupsOf s13) z
            refine ⟨_, rfl, lweb, tvs, ts, rfl, s13 _ _ hweb, hts13, (by omega), fun H14 s14 => ⟨_, rfl, iteB (c := false) hring (iteF ?_)⟩⟩
            have s1214 := s13.trans s14
            have s814 := s812.trans s1214
            have hweb14 := s1214 _ _ hweb
            have hts14 := pImp hts fun _ _ z => TieV.keep (tupsOf s1214) z
            have hra14 := s814 _ _ hra
            have hrr14 := RowsV.keep (tupsOf s814) hrr
            have hc14 := hc8.same s814
            have hlw14 := s1214 _ _ hlw12
            have hp14 := hp8.keep s814
            refine ⟨_, rfl, lweb, rfl, ⟨_, SqL.of hweb14⟩, ?_⟩
            refine for_list (K := K) (a := lweb) (xs := tvs) (fun j σ H' => ∃ z9 z10 z11 z12 z13, σ = [some (.ref a), some (.int (0 + (i : Int))), some (.ref p), some (.ref l), some (.ref c), some (.ref ra), some (.ref b), some (.ref lw), some (.ref lweb), z9, z10, z11, z12, z13] ∧ Same H14 H')
              ⟨_, _, _, _, _, rfl, Same.refl _⟩ (fun j σ H' _ ⟨_, _, _, _, _, _, h⟩ => SqL.of (h _ _ hweb14)) ?_ ?_
            · rintro j2 x σ H15 hx ⟨z9, z10, z11, z12, z13, rfl, s15⟩
              obtain ⟨t, ht, ta, rfl, hta⟩ := pAt hts14 hx
              have htm := List.mem_of_getElem? ht
              obtain ⟨pp, hpp, g1, g2⟩ := hok t htm
              have hti := (hshown (by rw [← etk]; exact List.mem_map.mpr ⟨t, htm, rfl⟩)).1
              have hra15 := s15 _ _ hra14
              have hrr15 := RowsV.keep (tupsOf s15) hrr14
              obtain ⟨v1, hv1, hr1⟩ := pAtR hrr15 g1
              obtain ⟨v2, hv2, hr2⟩ := pAtR hrr15 g2
              refine ⟨ta, _, rfl, SqT.of (s15 _ _ hta), rfl, _, _, rfl, _, _, rfl, _, _, rfl, rfl, ?_⟩
              refine ⟨_, rfl, _, rfl, ra, _, _, v1, rfl, rfl, SqL.of hra15, atI_nat hv1, _, rfl, _, rfl, ra, _, _, v2, rfl, rfl, SqL.of hra15, atI_nat hv2, (by show 2 ≤ sizeLine; decide), fun tt htt => ?_⟩
              have s16 := same_new htt (.tup [v1, v2])
              have s1416 := s15.trans s16
              refine ⟨_, rfl, _, rfl, c, many, f, ks, t.1, rfl, hc14.same s1416, hti, fun H17 lp ps s17 hlp hps => ?_⟩
              have hpd : PairV H17 (.ref tt) pp := ⟨tt, v1, v2, rfl, s17 _ _ upd_same, hr1.keep (tupsOf (s16.trans s17)), hr2.keep (tupsOf (s16.trans s17))⟩
              refine ⟨_, _, hpd.dp, Dp.lst (SqL.of hlp) (pairs_dp hps), pairD_shaped _, pairs_shaped _, _, rfl, ?_⟩
              refine iteB (c := false) (pair_any hpp) (iteF ?_)
              exact ⟨_, _, _, _, _, rfl, s1416.trans s17⟩
            · rintro σ H15 ⟨z9, z10, z11, z12, z13, rfl, s15⟩
              have s815 := s814.trans s15
              have hp15 := hp14.keep s15
              refine ⟨3, rfl, (by decide), (by decide), ?_⟩
              refine for_range (lo := 0) (n := 3) (fun j σ H' => ∃ z9 z10 z11 z12 z13, σ = [some (.ref a), some (.int (0 + (i : Int))), some (.ref p), some (.ref l), some (.ref c), some (.ref ra), some (.ref b), some (.ref lw), some (.ref lweb), z9, z10, z11, z12, z13] ∧ But p H15 H' ∧ PoolAt H' p)
                ⟨_, _, _, _, _, rfl, butOf (Same.refl _), hp15⟩ ?_ ?_
              · rintro j2 σ H16 hj2 ⟨z9, z10, z11, z12, z13, rfl, b16, hp16⟩
                have hlw16 := b16 _ _ hlwp (s15 _ _ hlw14)
                have hra16 := b16 _ _ hrap (s15 _ _ hra14)
                have hrr16 := RowsV.keep ((tupsOf s15).trans (tupsBut hp15 b16)) hrr14
                have hc16 := (hc14.same s15).most (mostBut hp15 b16)
                refine ⟨_, rfl, _, rfl, _, rfl, _, rfl, p, c, ra, lw, many, f, ks, rv, rr, ws, rfl, hp16, hc16, hrap, hra16, hrr16, (by omega), hlwp, hlw16, (fun i hi => hshown hi), (by omega), fun H17 L tvs2 ts2 b17 hp17 hL0 hL hts2 etk2 hok2 => ?_⟩
                have hring2 := no_ring0 hcl hok2 (fun t ht => (hshown (by rw [← etk2]; exact List.mem_map.mpr ⟨t, ht, rfl⟩)).1) (by rw [etk2]; exact hsnd)
                have htl2 : ts2.length ≤ 5 := by
                  rw [← etk2, List.length_map] at hws8
                  exact hws8
                refine ⟨L, tvs2, ts2, rfl, hL, hts2, (by omega), fun H18 s18 => ⟨_, rfl, iteB (c := false) hring2 (iteF ?_)⟩⟩
                exact ⟨_, _, _, _, _, rfl, butSame (butTrans b16 b17) s18, hp17.keep s18⟩
              · rintro σ H16 ⟨z9, z10, z11, z12, z13, rfl, b16, hp16⟩
                have hwebp : lweb ≠ p := (hp8.keep s811).new hweb0
                have hweb16 := b16 _ _ hwebp (s15 _ _ hweb14)
                have hts16 := pImp hts14 fun _ _ z => TieV.keep ((tupsOf s15).trans (tupsBut hp15 b16)) z
                refine ⟨_, rfl, (by show 0 ≤ sizeLine; decide), fun e2 he2 => ?_⟩
                have s17 := same_new he2 (.lst [])
                have hts17 := pImp hts16 fun _ _ z => TieV.keep (tupsOf s17) z
                have hweb17 := s17 _ _ hweb16
                refine ⟨_, _, Dp.lst (SqL.of hweb17) (ties_dp hts17), Dp.lst (SqL.of upd_same) .nil, ties_shaped ts, nilD_shaped, _, rfl, ?_⟩
                have fin : ∀ H', Same (upd H16 e2 (.lst [])) H' → But p H7 H' ∧ PoolAt H' p := fun H' s' => ⟨butSame (butTrans (butTrans b8 (butOf s815)) b16) (s17.trans s'), hp16.keep (s17.trans s')⟩
                refine and_no (fun cw hB => ?_) (iteF ⟨_, _, _, _, _, _, _, _, _, rfl, fin _ (Same.refl _)⟩)
                have hne2 : ts ≠ [] := by
                  rintro rfl
                  simp [PyData.eqv, PyData.eqvAll] at cw
                refine ⟨_, rfl, _, rfl, _, rfl, lweb, tvs, rfl, SqL.of hweb17, fun l2 hl2 => ?_⟩
                have ecut : cutV tvs none (some (1 : Int)) = tvs.take (min 1 tvs.length) := cut_most tvs 1
                have tl5 : tvs.length ≤ 5 := by
                  rw [pLen hts]
                  exact htl
                have s18 := same_new hl2 (.lst (cutV tvs none (some (1 : Int))))
                have hweb18 := s18 _ _ hweb17
                refine ⟨lweb, l2, tvs, cutV tvs none (some (1 : Int)), rfl, rfl, hweb18, upd_same, ?_, fun l3 hl3 => ?_⟩
                · rw [ecut, List.length_take]
                  exact small (by omega)
                have s19 := same_new hl3 (.lst (tvs ++ cutV tvs none (some (1 : Int))))
                have hts19 := pImp hts17 fun _ _ z => TieV.keep (tupsOf (s18.trans s19)) z
                have aux : ∀ Hx, Paired (TieV Hx) tvs ts → Paired (TieV Hx) (cutV tvs none (some (1 : Int))) (ts.take 1) := by
                  intro Hx q
                  have h1 : min 1 ts.length = 1 := by
                    have := List.length_pos_iff.mpr hne2
                    omega
                  rw [ecut, pLen hts, h1]
                  exact pTk 1 q
                refine ⟨l3, tvs ++ cutV tvs none (some (1 : Int)), ts ++ ts.take 1, rfl, upd_same, ?_, ?_, fun H20 s20 => ⟨_, rfl, ?_⟩⟩
                · exact pApp hts19 (aux _ hts19)
                · rw [List.length_append, List.length_take]
                  omega
                · rw [ring_twice hne2]
                  exact iteF ⟨_, _, _, _, _, _, _, _, _, rfl, fin _ (s18.trans (s19.trans s20))⟩
        · rintro σ H8 ⟨y5, y6, y7, y8, y9, y10, y11, y12, y13, rfl, b8, hp8⟩
          exact ⟨_, _, _, _, _, _, _, _, _, _, _, _, _, rfl, sameBut s1 hp0 s2 (butTrans bk b8)⟩
    · rintro σ H1 ⟨x1, x2, x3, x4, x5, x6, x7, x8, x9, x10, x11, x12, x13, rfl, s1⟩
      exact k H1
end
end EA

set_option maxHeartbeats 0
namespace EA
open PySem PySem.Spec PyProof.Rows L2
def d7 : He.DefD := ⟨("is_whole", none), "is_whole", "is_whole", defArgs s7, defBody s7, defScope s7, [], []⟩
def d8 : He.DefD := ⟨("is_within", none), "is_within", "is_within", defArgs s8, defBody s8, defScope s8, [], []⟩
def d9 : He.DefD := ⟨("is_row", none), "is_row", "is_row", defArgs s9, defBody s9, defScope s9, [], []⟩
def d15 : He.DefD := ⟨("inner_parts", none), "inner_parts", "inner_parts", defArgs s15, defBody s15, defScope s15, [], []⟩
def d16 : He.DefD := ⟨("is_form", none), "is_form", "is_form", defArgs s16, defBody s16, defScope s16, [], []⟩
def d17 : He.DefD := ⟨("are_rows", none), "are_rows", "are_rows", defArgs s17, defBody s17, defScope s17, [], []⟩
def d18 : He.DefD := ⟨("parts_of", none), "parts_of", "parts_of", defArgs s18, defBody s18, defScope s18, [], []⟩
def d19 : He.DefD := ⟨("is_decision", none), "is_decision", "is_decision", defArgs s19, defBody s19, defScope s19, [.int 8], []⟩
def d20 : He.DefD := ⟨("answer_cases", none), "answer_cases", "answer_cases", defArgs s20, defBody s20, defScope s20, [], []⟩
def d21 : He.DefD := ⟨("answer_decisions", none), "answer", "answer", defArgs s21, defBody s21, defScope s21, [], []⟩
def d26 : He.DefD := ⟨("look_at_rows_cases", none), "look_at_rows", "look_at_rows", defArgs s26, defBody s26, defScope s26, [], []⟩
def d30 : He.DefD := ⟨("look_at_wish", none), "look_at_wish", "look_at_wish", defArgs s30, defBody s30, defScope s30, [], []⟩
def d31 : He.DefD := ⟨("turned_about", none), "turned_about", "turned_about", defArgs s31, defBody s31, defScope s31, [], []⟩
def d32 : He.DefD := ⟨("twins", none), "twins", "twins", defArgs s32, defBody s32, defScope s32, [], []⟩
def d33 : He.DefD := ⟨("pairs", none), "pairs", "pairs", defArgs s33, defBody s33, defScope s33, [], []⟩
def d39 : He.DefD := ⟨("look_at_rows_books", none), "look_at_rows", "look_at_rows", defArgs s39, defBody s39, defScope s39, [], []⟩
def d42 : He.DefD := ⟨("pairs_by", none), "pairs_by", "pairs_by", defArgs s42, defBody s42, defScope s42, [], []⟩
def d43 : He.DefD := ⟨("has_pair", none), "has_pair", "has_pair", defArgs s43, defBody s43, defScope s43, [], []⟩
def d44 : He.DefD := ⟨("shown_by", none), "shown_by", "shown_by", defArgs s44, defBody s44, defScope s44, [.bl false], []⟩
def d46 : He.DefD := ⟨("web_of", none), "web_of", "web_of", defArgs s46, defBody s46, defScope s46, [], []⟩
def d47 : He.DefD := ⟨("group_of", none), "group_of", "group_of", defArgs s47, defBody s47, defScope s47, [], []⟩
def d48 : He.DefD := ⟨("has_ring", none), "has_ring", "has_ring", defArgs s48, defBody s48, defScope s48, [], []⟩
def d50 : He.DefD := ⟨("_law_pool", none), "_law_pool", "_law_pool", defArgs s50, defBody s50, defScope s50, [], []⟩
def d51 : He.DefD := ⟨("_law_take", none), "_law_take", "_law_take", defArgs s51, defBody s51, defScope s51, [], []⟩
def d52 : He.DefD := ⟨("_law_decision", none), "_law_decision", "_law_decision", defArgs s52, defBody s52, defScope s52, [], []⟩
def d54 : He.DefD := ⟨("_law_all_rows", none), "_law_all_rows", "_law_all_rows", defArgs s54, defBody s54, defScope s54, [], []⟩
def d55 : He.DefD := ⟨("_law_rows_of", none), "_law_rows_of", "_law_rows_of", defArgs s55, defBody s55, defScope s55, [], []⟩
def d56 : He.DefD := ⟨("_law_case", none), "_law_case", "_law_case", defArgs s56, defBody s56, defScope s56, [], []⟩
def d57 : He.DefD := ⟨("_law_some", none), "_law_some", "_law_some", defArgs s57, defBody s57, defScope s57, [], []⟩
def d58 : He.DefD := ⟨("_law_ties", none), "_law_ties", "_law_ties", defArgs s58, defBody s58, defScope s58, [], []⟩
def d59 : He.DefD := ⟨("law", none), "law", "law", defArgs s59, defBody s59, defScope s59, [], []⟩
def d28_0 : He.DefD := ⟨("Case", some "__init__"), "__init__", "Case.__init__", defArgs s28_0, defBody s28_0, defScope s28_0, [.non], []⟩
def d28_3 : He.DefD := ⟨("Case", some "many"), "many", "Case.many", defArgs s28_3, defBody s28_3, defScope s28_3, [], []⟩
def d28_5 : He.DefD := ⟨("Case", some "rows"), "rows", "Case.rows", defArgs s28_5, defBody s28_5, defScope s28_5, [], []⟩
def d28_6 : He.DefD := ⟨("Case", some "look_at_row"), "look_at_row", "Case.look_at_row", defArgs s28_6, defBody s28_6, defScope s28_6, [], []⟩
def d28_7 : He.DefD := ⟨("Case", some "can_be"), "can_be", "Case.can_be", defArgs s28_7, defBody s28_7, defScope s28_7, [], []⟩
def d28_8 : He.DefD := ⟨("Case", some "answer"), "answer", "Case.answer", defArgs s28_8, defBody s28_8, defScope s28_8, [], []⟩
def d41_0 : He.DefD := ⟨("Book", some "__init__"), "__init__", "Book.__init__", defArgs s41_0, defBody s41_0, defScope s41_0, [], []⟩
def d41_1 : He.DefD := ⟨("Book", some "__len__"), "__len__", "Book.__len__", defArgs s41_1, defBody s41_1, defScope s41_1, [], []⟩
def d41_5 : He.DefD := ⟨("Book", some "rows"), "rows", "Book.rows", defArgs s41_5, defBody s41_5, defScope s41_5, [], []⟩
def fn : List He.DefD := [d7, d8, d9, d15, d16, d17, d18, d19, d20, d21, d26, d30, d31, d32, d33, d39, d42, d43, d44, d46, d47, d48, d50, d51, d52, d54, d55, d56, d57, d58, d59, d28_0, d28_3, d28_5, d28_6, d28_7, d28_8, d41_0, d41_1, d41_5]
def fa0 : List He.Fa := [.glo "is_whole", .glo "is_within", .glo "is_row", .glo "inner_parts", .glo "is_form", .glo "are_rows", .glo "parts_of", .glo "is_decision", .glo "answer_cases", .glo "answer_decisions", .glo "look_at_rows_cases", .glo "look_at_wish", .glo "turned_about", .glo "twins", .glo "pairs", .glo "look_at_rows_books", .glo "pairs_by", .glo "has_pair", .glo "shown_by", .glo "web_of", .glo "group_of", .glo "has_ring", .glo "_law_pool", .glo "_law_take", .glo "_law_decision", .glo "_law_all_rows", .glo "_law_rows_of", .glo "_law_case", .glo "_law_some", .glo "_law_ties"]
def fa1 : List He.Fa := [.glo "law", .glo "Case", .glo "Book", .free "isinstance", .free "int", .free "bool", .free "tuple", .free "str", .free "len", .free "all", .free "list", .free "sorted", .free "range", .free "any", .free "enumerate", .free "min", .free "max", .int "MOST_PARTS" 60, .int "DEEPEST" 12, .int "MOST_WITHIN" 6, .int "MOST_ROWS" 4, .int "MOST_WISHES" 8, .cls "Case", .cls "Book", .mkr "Case", .mkr "Book", .noat "Case" "case_many", .noat "Case" "case_decision", .noat "Case" "case_rows", .noat "Book" "own_rows"]
def fa2 : List He.Fa := [.meth "Case" "many", .meth "Case" "rows", .meth "Case" "look_at_row", .meth "Case" "can_be", .meth "Case" "answer", .meth "Book" "__len__", .meth "Book" "rows"]
def fa : List He.Fa := fa0 ++ fa1 ++ fa2
def lo0 : List Str := ["AloneError", "NoCase", "NoBook", "NoRow", "NoWish", "is_whole", "is_within", "is_row", "MOST_PARTS", "DEEPEST", "MOST_WITHIN", "MOST_ROWS", "inner_parts", "is_form", "are_rows", "parts_of", "is_decision", "answer_cases", "answer", "answer_decisions", "MOST_WISHES", "all_rows", "look_at_rows", "look_at_rows_cases", "Case", "look_at_wish", "turned_about", "twins", "pairs", "has_sway"]
def lo1 : List Str := ["loose_pairs", "shown_row", "look_at_rows_books", "Book", "pairs_by", "has_pair", "shown_by", "web_of", "group_of", "has_ring", "_law_pool", "_law_take", "_law_decision", "_law_answer", "_law_all_rows", "_law_rows_of", "_law_case", "_law_some", "_law_ties"]
def lo : List Str := lo0 ++ lo1
abbrev R : PySem.W.OpenRow := PySem.W.OpenLaw.row PySem.Challenge.rw_eachalone_k36_whole_one_row_more
abbrev hk : PySem.W.Hook := He.hookD 5 fa fn
def ob (s : PySem.W.SharedT) : He.AlD := He.obsDG 5 fa fn (HandSHeadRun.getT s)
theorem ob_eq (s : PySem.W.SharedT) : ob s = hk.obs s.abs := He.obsDG_eq (HandSHeadRun.getT_eq s)
theorem run (w : World) : HandSHeadRun.RunEq R (PySem.W.view R.prog [59]) hk ob 4000 lo w := by
  intro os
  kernel_rfl
end EA

set_option maxHeartbeats 4000000
namespace EA
open PySem PySem.Spec PyProof.Rows L2
theorem ok_none {P : Program} {w : World} {K : PySem.W.Frag} {mg : Str → Option Value} {base : Heap} {k : Nat} {f : Addr} {fd : FuncData} {ps : List Str} {sp : Sp} (h : ∀ vs H Q E, ¬ sp vs H Q E) : FnOk P w K mg base CX0 k f fd ps sp :=
  ⟨fun vs H Q E q => (h _ _ _ _ q).elim, fun A outer s H args us vs Q E _ _ _ _ q => (h _ _ _ _ q).elim⟩
section
variable {P : Program} {w : World} {K : PySem.W.Frag} {mg : Str → Option Value} {base : Heap} {x qual g : Str} {params : Arguments} {body : List Stmt} {scope : Scope} {dvs : List V} {kws : List (Str × V)} {f : Addr} {fd : FuncData} {k : Nat} {ps : List Str} {sp : Sp} {C : Addr} {m : Str}
theorem own_of (F : FunD K x qual params body scope [] kws f fd) (ok : FnOk P w K mg base CX0 k f fd ps sp) (hm : mg g = some (.ref f))
    (h : ∀ (kV doc pm : Value) (an : Option Addr) (cdv ct : Value) (us : List Value), us.length = ps.length → bindArgs (PySem.W.fnOf x qual params body scope .none kV doc pm an cdv ct) ⟨us, []⟩ = pure (ps.zip us)) : Own P w K mg base k g ps [] sp :=
  ⟨f, fd, [], ok, hm, F.kp, F.bindsN h, .nil⟩
theorem ownM_of (F : FunD K x qual params body scope [] kws f fd) (ok : FnOk P w K mg base CX0 k f fd ps sp) (M : Meth K C m f)
    (h : ∀ (kV doc pm : Value) (an : Option Addr) (cdv ct : Value) (us : List Value), us.length = ps.length → bindArgs (PySem.W.fnOf x qual params body scope .none kV doc pm an cdv ct) ⟨us, []⟩ = pure (ps.zip us)) : OwnM P w K mg base k C m ps sp :=
  ⟨f, fd, ok, M, F.bindsN h⟩
theorem binds_none {ds : List Value} (v : Vals [] ds) (b : Binds K fd ps ds) : Binds K fd ps [] := by
  cases v
  exact b
end
theorem facts {P : Program} {w : World} {K : PySem.W.Frag} {h : Heap} {mg : Str → Option Value} {f : Addr} (X : K.In h) (G : h.Ns mainGlobals mg) (hfa : mg ("law" : Str) = some (.ref f)) (c : He.SaysD fa fn K) :
    ∃ fd : FuncData, (∀ (s : Shared) (v : Value), BindsTo s fd ⟨[v], []⟩ [("_law_script", v)]) ∧ ∀ base : Heap, K.In base → base.Ns mainGlobals mg → FnOk P w K mg base CX0 30 f fd ["_law_script"] (spLaw K) := by
  obtain ⟨fd7, F7⟩ := c.def_ 0 (d := d7) rfl
  obtain ⟨fd8, F8⟩ := c.def_ 1 (d := d8) rfl
  obtain ⟨fd9, F9⟩ := c.def_ 2 (d := d9) rfl
  obtain ⟨fd15, F15⟩ := c.def_ 3 (d := d15) rfl
  obtain ⟨fd16, F16⟩ := c.def_ 4 (d := d16) rfl
  obtain ⟨fd17, F17⟩ := c.def_ 5 (d := d17) rfl
  obtain ⟨fd18, F18⟩ := c.def_ 6 (d := d18) rfl
  obtain ⟨fd19, F19⟩ := c.def_ 7 (d := d19) rfl
  obtain ⟨fd20, F20⟩ := c.def_ 8 (d := d20) rfl
  obtain ⟨fd21, F21⟩ := c.def_ 9 (d := d21) rfl
  obtain ⟨fd26, F26⟩ := c.def_ 10 (d := d26) rfl
  obtain ⟨fd30, F30⟩ := c.def_ 11 (d := d30) rfl
  obtain ⟨fd31, F31⟩ := c.def_ 12 (d := d31) rfl
  obtain ⟨fd32, F32⟩ := c.def_ 13 (d := d32) rfl
  obtain ⟨fd33, F33⟩ := c.def_ 14 (d := d33) rfl
  obtain ⟨fd39, F39⟩ := c.def_ 15 (d := d39) rfl
  obtain ⟨fd42, F42⟩ := c.def_ 16 (d := d42) rfl
  obtain ⟨fd43, F43⟩ := c.def_ 17 (d := d43) rfl
  obtain ⟨fd44, F44⟩ := c.def_ 18 (d := d44) rfl
  obtain ⟨fd46, F46⟩ := c.def_ 19 (d := d46) rfl
  obtain ⟨fd47, F47⟩ := c.def_ 20 (d := d47) rfl
  obtain ⟨fd48, F48⟩ := c.def_ 21 (d := d48) rfl
  obtain ⟨fd50, F50⟩ := c.def_ 22 (d := d50) rfl
  obtain ⟨fd51, F51⟩ := c.def_ 23 (d := d51) rfl
  obtain ⟨fd52, F52⟩ := c.def_ 24 (d := d52) rfl
  obtain ⟨fd54, F54⟩ := c.def_ 25 (d := d54) rfl
  obtain ⟨fd55, F55⟩ := c.def_ 26 (d := d55) rfl
  obtain ⟨fd56, F56⟩ := c.def_ 27 (d := d56) rfl
  obtain ⟨fd57, F57⟩ := c.def_ 28 (d := d57) rfl
  obtain ⟨fd58, F58⟩ := c.def_ 29 (d := d58) rfl
  obtain ⟨fd59, F59⟩ := c.def_ 30 (d := d59) rfl
  obtain ⟨fd28_0, F28_0⟩ := c.def_ 31 (d := d28_0) rfl
  obtain ⟨fd28_3, F28_3⟩ := c.def_ 32 (d := d28_3) rfl
  obtain ⟨fd28_5, F28_5⟩ := c.def_ 33 (d := d28_5) rfl
  obtain ⟨fd28_6, F28_6⟩ := c.def_ 34 (d := d28_6) rfl
  obtain ⟨fd28_7, F28_7⟩ := c.def_ 35 (d := d28_7) rfl
  obtain ⟨fd28_8, F28_8⟩ := c.def_ 36 (d := d28_8) rfl
  obtain ⟨fd41_0, F41_0⟩ := c.def_ 37 (d := d41_0) rfl
  obtain ⟨fd41_1, F41_1⟩ := c.def_ 38 (d := d41_1) rfl
  obtain ⟨fd41_5, F41_5⟩ := c.def_ 39 (d := d41_5) rfl
  obtain ⟨C, hC⟩ : ∃ C, He.ga K "Case" = C := ⟨_, rfl⟩
  obtain ⟨B, hB⟩ : ∃ B, He.ga K "Book" = B := ⟨_, rfl⟩
  have T : Tx K mg C B := {
    f_isinstance := He.free_ok X G (c.fact 33 (f := .free "isinstance") rfl)
    f_int := He.free_ok X G (c.fact 34 (f := .free "int") rfl)
    f_bool := He.free_ok X G (c.fact 35 (f := .free "bool") rfl)
    f_tuple := He.free_ok X G (c.fact 36 (f := .free "tuple") rfl)
    f_str := He.free_ok X G (c.fact 37 (f := .free "str") rfl)
    f_len := He.free_ok X G (c.fact 38 (f := .free "len") rfl)
    f_all := He.free_ok X G (c.fact 39 (f := .free "all") rfl)
    f_list := He.free_ok X G (c.fact 40 (f := .free "list") rfl)
    f_sorted := He.free_ok X G (c.fact 41 (f := .free "sorted") rfl)
    f_range := He.free_ok X G (c.fact 42 (f := .free "range") rfl)
    f_any := He.free_ok X G (c.fact 43 (f := .free "any") rfl)
    f_enumerate := He.free_ok X G (c.fact 44 (f := .free "enumerate") rfl)
    f_min := He.free_ok X G (c.fact 45 (f := .free "min") rfl)
    f_max := He.free_ok X G (c.fact 46 (f := .free "max") rfl)
    i_MOST_PARTS := He.int_ok X G (c.fact 47 (f := .int "MOST_PARTS" 60) rfl)
    i_DEEPEST := He.int_ok X G (c.fact 48 (f := .int "DEEPEST" 12) rfl)
    i_MOST_WITHIN := He.int_ok X G (c.fact 49 (f := .int "MOST_WITHIN" 6) rfl)
    i_MOST_ROWS := He.int_ok X G (c.fact 50 (f := .int "MOST_ROWS" 4) rfl)
    i_MOST_WISHES := He.int_ok X G (c.fact 51 (f := .int "MOST_WISHES" 8) rfl)
    mgCase := hC ▸ (He.glo_ok X G (c.fact 31 (f := .glo "Case") rfl))
    mgBook := hB ▸ (He.glo_ok X G (c.fact 32 (f := .glo "Book") rfl))
    clCase := hC ▸ He.cls_ok (c.fact 52 (f := .cls "Case") rfl)
    clBook := hB ▸ He.cls_ok (c.fact 53 (f := .cls "Book") rfl)
    na_case_many := hC ▸ He.noat_ok (c.fact 56 (f := .noat "Case" "case_many") rfl)
    na_case_decision := hC ▸ He.noat_ok (c.fact 57 (f := .noat "Case" "case_decision") rfl)
    na_case_rows := hC ▸ He.noat_ok (c.fact 58 (f := .noat "Case" "case_rows") rfl)
    na_own_rows := hB ▸ He.noat_ok (c.fact 59 (f := .noat "Book" "own_rows") rfl) }
  have M_Case_many : Meth K C "many" (He.fAd K d28_3.at_) := by subst hC; exact He.meth_ok (c.fact 60 (f := .meth "Case" "many") rfl)
  have M_Case_rows : Meth K C "rows" (He.fAd K d28_5.at_) := by subst hC; exact He.meth_ok (c.fact 61 (f := .meth "Case" "rows") rfl)
  have M_Case_look_at_row : Meth K C "look_at_row" (He.fAd K d28_6.at_) := by subst hC; exact He.meth_ok (c.fact 62 (f := .meth "Case" "look_at_row") rfl)
  have M_Case_can_be : Meth K C "can_be" (He.fAd K d28_7.at_) := by subst hC; exact He.meth_ok (c.fact 63 (f := .meth "Case" "can_be") rfl)
  have M_Case_answer : Meth K C "answer" (He.fAd K d28_8.at_) := by subst hC; exact He.meth_ok (c.fact 64 (f := .meth "Case" "answer") rfl)
  have M_Book___len__ : Meth K B "__len__" (He.fAd K d41_1.at_) := by subst hB; exact He.meth_ok (c.fact 65 (f := .meth "Book" "__len__") rfl)
  have M_Book_rows : Meth K B "rows" (He.fAd K d41_5.at_) := by subst hB; exact He.meth_ok (c.fact 66 (f := .meth "Book" "rows") rfl)
  have mk_Case : Mk K C (He.fAd K d28_0.at_) := by subst hC; exact He.mkr_ok (c.fact 54 (f := .mkr "Case") rfl)
  have mk_Book : Mk K B (He.fAd K d41_0.at_) := by subst hB; exact He.mkr_ok (c.fact 55 (f := .mkr "Book") rfl)
  have e := hfa.symm.trans (He.glo_ok X G (c.fact 30 (f := .glo "law") rfl))
  cases e
  have bl := FunD.bindsA (ps := ["_law_script"]) F59 (fun _ _ _ _ _ _ us hl => match us, hl with | [_], _ => rfl)
  refine ⟨fd59, fun s v => bl s [v] rfl, fun base _ _ => ?_⟩
  have o_is_whole : Own P w K mg base 1 "is_whole" ["thing"] [] spWhole := own_of F7 (ok7 T F7) (He.glo_ok X G (c.fact 0 (f := .glo "is_whole") rfl)) (fun _ _ _ _ _ _ us hl => match us, hl with | [_], _ => rfl)
  have o_is_within : Own P w K mg base 2 "is_within" ["thing", "low", "high"] [] spWithin := own_of F8 (ok8 T F8 o_is_whole) (He.glo_ok X G (c.fact 1 (f := .glo "is_within") rfl)) (fun _ _ _ _ _ _ us hl => match us, hl with | [_, _, _], _ => rfl)
  have o_is_row : Own P w K mg base 1 "is_row" ["thing", "many"] [] spIsRow := own_of F9 (ok9 T F9) (He.glo_ok X G (c.fact 2 (f := .glo "is_row") rfl)) (fun _ _ _ _ _ _ us hl => match us, hl with | [_, _], _ => rfl)
  have o_inner_parts : Own P w K mg base 1 "inner_parts" ["decision"] [] spInner := own_of F15 (ok15 T F15) (He.glo_ok X G (c.fact 3 (f := .glo "inner_parts") rfl)) (fun _ _ _ _ _ _ us hl => match us, hl with | [_], _ => rfl)
  have o_are_rows : Own P w K mg base 1 "are_rows" ["thing"] [] spRungs := own_of F17 (ok17 T F17) (He.glo_ok X G (c.fact 5 (f := .glo "are_rows") rfl)) (fun _ _ _ _ _ _ us hl => match us, hl with | [_], _ => rfl)
  have o_is_form : Own P w K mg base 3 "is_form" ["thing", "many"] [] spForm := own_of F16 (ok16 T F16 o_is_within o_are_rows) (He.glo_ok X G (c.fact 4 (f := .glo "is_form") rfl)) (fun _ _ _ _ _ _ us hl => match us, hl with | [_, _], _ => rfl)
  have oa18 : ∀ n, Own P w K mg base (n + 4) "parts_of" ["thing", "many", "room"] [] (spParts n) := by
    intro n
    induction n with
    | zero => exact own_of F18 (ok_none fun vs H Q E ⟨_, _, _, _, _, _, h, _⟩ => h) (He.glo_ok X G (c.fact 6 (f := .glo "parts_of") rfl)) (fun _ _ _ _ _ _ us hl => match us, hl with | [_, _, _], _ => rfl)
    | succ n ih => exact own_of F18 (ok18 T F18 o_is_form o_inner_parts ih) (He.glo_ok X G (c.fact 6 (f := .glo "parts_of") rfl)) (fun _ _ _ _ _ _ us hl => match us, hl with | [_, _, _], _ => rfl)
  have o_parts_of : Own P w K mg base 16 "parts_of" ["thing", "many", "room"] [] (spParts 12) := oa18 12
  obtain ⟨ds19, v19, b19⟩ := F19.binds1 (ps := ["thing", "many"]) 2 1 (fun z => by cases z) rfl (fun _ _ _ _ _ _ _ us its hu hi => match us, hu, its, hi with | [_, _], _, [_], _ => ⟨_, rfl, rfl⟩)
  have o_is_decision : Own P w K mg base 17 "is_decision" ["thing", "many"] [] spIsDec := ⟨_, fd19, [], (ok19 T F19 o_parts_of), (He.glo_ok X G (c.fact 7 (f := .glo "is_decision") rfl)), F19.kp, binds_none v19 b19, .nil⟩
  have oa21 : ∀ n, Own P w K mg base (2 * n) "answer_decisions" ["decision", "row"] [] (spAnswer n) := by
    intro n
    induction n with
    | zero => exact own_of F21 (ok_none fun vs H Q E ⟨_, _, _, _, _, _, _, h, _⟩ => h) (He.glo_ok X G (c.fact 9 (f := .glo "answer_decisions") rfl)) (fun _ _ _ _ _ _ us hl => match us, hl with | [_, _], _ => rfl)
    | succ n ih =>
      have oc : Own P w K mg base (2 * n + 1) "answer_cases" ["decision", "row"] [] (spLadder n) := own_of F20 (ok20 T F20 ih) (He.glo_ok X G (c.fact 8 (f := .glo "answer_cases") rfl)) (fun _ _ _ _ _ _ us hl => match us, hl with | [_, _], _ => rfl)
      exact own_of F21 (ok21 T F21 ih oc) (He.glo_ok X G (c.fact 9 (f := .glo "answer_decisions") rfl)) (fun _ _ _ _ _ _ us hl => match us, hl with | [_, _], _ => rfl)
  have o_answer_decisions : Own P w K mg base 24 "answer_decisions" ["decision", "row"] [] (spAnswer 12) := oa21 12
  have o_look_at_rows_cases : Own P w K mg base 2 "look_at_rows_cases" ["many", "rows"] [] spLookRows := own_of F26 (ok26 T F26 o_is_row) (He.glo_ok X G (c.fact 10 (f := .glo "look_at_rows_cases") rfl)) (fun _ _ _ _ _ _ us hl => match us, hl with | [_, _], _ => rfl)
  have o_Case_many : OwnM P w K mg base 1 C "many" ["self"] (spMany P w C) := ownM_of F28_3 (ok28_3 T F28_3) M_Case_many (fun _ _ _ _ _ _ us hl => match us, hl with | [_], _ => rfl)
  have o_Case_rows : OwnM P w K mg base 1 C "rows" ["self"] (spRows P w C) := ownM_of F28_5 (ok28_5 T F28_5) M_Case_rows (fun _ _ _ _ _ _ us hl => match us, hl with | [_], _ => rfl)
  have o_Case_look_at_row : OwnM P w K mg base 2 C "look_at_row" ["self", "row"] (spLookRow P w C) := ownM_of F28_6 (ok28_6 T F28_6 o_is_row) M_Case_look_at_row (fun _ _ _ _ _ _ us hl => match us, hl with | [_, _], _ => rfl)
  have o_Case_can_be : OwnM P w K mg base 3 C "can_be" ["self", "row"] (spCanBe P w C) := ownM_of F28_7 (ok28_7 T F28_7 o_Case_look_at_row) M_Case_can_be (fun _ _ _ _ _ _ us hl => match us, hl with | [_, _], _ => rfl)
  have o_Case_answer : OwnM P w K mg base 25 C "answer" ["self", "row"] (spCaseAns P w C) := ownM_of F28_8 (ok28_8 T F28_8 o_Case_look_at_row o_answer_decisions) M_Case_answer (fun _ _ _ _ _ _ us hl => match us, hl with | [_, _], _ => rfl)
  obtain ⟨ds28_0, v28_0, b28_0⟩ := F28_0.binds1 (ps := ["self", "many", "decision", "rows"]) 4 1 (fun z => by cases z) rfl (fun _ _ _ _ _ _ _ us its hu hi => match us, hu, its, hi with | [_, _, _, _], _, [_], _ => ⟨_, rfl, rfl⟩)
  have o_Case : OwnMk P w K mg base 25 C "Case" ["self", "many", "decision", "rows"] (spCaseInit P w C) := ⟨_, fd28_0, (ok28_0 T F28_0 o_is_within o_is_decision o_look_at_rows_cases o_answer_decisions), T.mgCase, mk_Case, binds_none v28_0 b28_0⟩
  have o_look_at_wish : Own P w K mg base 3 "look_at_wish" ["case", "wish"] [] (spLookWish P w C) := own_of F30 (ok30 T F30 o_is_within o_Case_many) (He.glo_ok X G (c.fact 11 (f := .glo "look_at_wish") rfl)) (fun _ _ _ _ _ _ us hl => match us, hl with | [_, _], _ => rfl)
  have o_turned_about : Own P w K mg base 1 "turned_about" ["row", "wish"] [] spTurned := own_of F31 (ok31 T F31) (He.glo_ok X G (c.fact 12 (f := .glo "turned_about") rfl)) (fun _ _ _ _ _ _ us hl => match us, hl with | [_, _], _ => rfl)
  have o_twins : Own P w K mg base 4 "twins" ["case", "wish"] [] (spTwins P w C) := own_of F32 (ok32 T F32 o_Case_rows o_turned_about o_Case_can_be) (He.glo_ok X G (c.fact 13 (f := .glo "twins") rfl)) (fun _ _ _ _ _ _ us hl => match us, hl with | [_, _], _ => rfl)
  have o_pairs : Own P w K mg base 26 "pairs" ["case", "wish"] [] (spPairs P w C) := own_of F33 (ok33 T F33 o_look_at_wish o_twins o_Case_answer) (He.glo_ok X G (c.fact 14 (f := .glo "pairs") rfl)) (fun _ _ _ _ _ _ us hl => match us, hl with | [_, _], _ => rfl)
  have o_look_at_rows_books : Own P w K mg base 4 "look_at_rows_books" ["case", "rows"] [] (spLookBook P w C) := own_of F39 (ok39 T F39 o_is_row o_Case_many o_Case_can_be) (He.glo_ok X G (c.fact 15 (f := .glo "look_at_rows_books") rfl)) (fun _ _ _ _ _ _ us hl => match us, hl with | [_, _], _ => rfl)
  have o_Book : OwnMk P w K mg base 5 B "Book" ["self", "case", "rows"] (spBookInit P w C B) := ⟨_, fd41_0, (ok41_0 T F41_0 o_look_at_rows_books), T.mgBook, mk_Book, F41_0.bindsN (fun _ _ _ _ _ _ us hl => match us, hl with | [_, _, _], _ => rfl)⟩
  have o_Book_len : OwnM P w K mg base 1 B "__len__" ["self"] (spBookLen B) := ownM_of F41_1 (ok41_1 T F41_1) M_Book___len__ (fun _ _ _ _ _ _ us hl => match us, hl with | [_], _ => rfl)
  have o_Book_rows : OwnM P w K mg base 1 B "rows" ["self"] (spBookRows B) := ownM_of F41_5 (ok41_5 T F41_5) M_Book_rows (fun _ _ _ _ _ _ us hl => match us, hl with | [_], _ => rfl)
  have o_pairs_by : Own P w K mg base 27 "pairs_by" ["case", "wish", "loosely"] [] (spPairsBy P w C) := own_of F42 (ok42 T F42 o_pairs) (He.glo_ok X G (c.fact 16 (f := .glo "pairs_by") rfl)) (fun _ _ _ _ _ _ us hl => match us, hl with | [_, _, _], _ => rfl)
  have o_has_pair : Own P w K mg base 1 "has_pair" ["some", "rows"] [] spHasPair := own_of F43 (ok43 T F43) (He.glo_ok X G (c.fact 17 (f := .glo "has_pair") rfl)) (fun _ _ _ _ _ _ us hl => match us, hl with | [_, _], _ => rfl)
  obtain ⟨ds44, v44, b44⟩ := F44.binds1 (ps := ["case", "book", "loosely"]) 2 0 (fun z => by cases z) rfl (fun _ _ _ _ _ _ _ us its hu hi => match us, hu, its, hi with | [_, _], _, [_], _ => ⟨_, rfl, rfl⟩)
  have o_shown_by : Own P w K mg base 28 "shown_by" ["case", "book", "loosely"] [.bl false] (spShown P w C B) := ⟨_, fd44, ds44, (ok44 T F44 o_Book_rows o_Case_many o_pairs_by o_has_pair), (He.glo_ok X G (c.fact 18 (f := .glo "shown_by") rfl)), F44.kp, b44, v44⟩
  have o_web_of : Own P w K mg base 29 "web_of" ["case", "book"] [] (spWeb P w C B) := own_of F46 (ok46 T F46 o_Book_rows o_shown_by o_pairs) (He.glo_ok X G (c.fact 19 (f := .glo "web_of") rfl)) (fun _ _ _ _ _ _ us hl => match us, hl with | [_, _], _ => rfl)
  have o_group_of : Own P w K mg base 1 "group_of" ["groups", "row"] [] spGroup := own_of F47 (ok47 T F47) (He.glo_ok X G (c.fact 20 (f := .glo "group_of") rfl)) (fun _ _ _ _ _ _ us hl => match us, hl with | [_, _], _ => rfl)
  have o_has_ring : Own P w K mg base 2 "has_ring" ["ties"] [] spRing := own_of F48 (ok48 T F48 o_group_of) (He.glo_ok X G (c.fact 21 (f := .glo "has_ring") rfl)) (fun _ _ _ _ _ _ us hl => match us, hl with | [_], _ => rfl)
  have o__law_pool : Own P w K mg base 1 "_law_pool" ["_law_script", "_law_k"] [] (spPool K) := own_of F50 (ok50 T F50) (He.glo_ok X G (c.fact 22 (f := .glo "_law_pool") rfl)) (fun _ _ _ _ _ _ us hl => match us, hl with | [_, _], _ => rfl)
  have o__law_take : Own P w K mg base 1 "_law_take" ["_law_pool_here", "_law_many"] [] spTake := own_of F51 (ok51 T F51) (He.glo_ok X G (c.fact 23 (f := .glo "_law_take") rfl)) (fun _ _ _ _ _ _ us hl => match us, hl with | [_, _], _ => rfl)
  have oa52 : ∀ n, Own P w K mg base (n + 1) "_law_decision" ["_law_pool_here", "_law_many", "_law_room", "_law_deep"] [] (spDec n) := by
    intro n
    induction n with
    | zero => exact own_of F52 (ok_none fun vs H Q E ⟨_, _, _, _, _, _, _, _, _, h1, h2, _⟩ => by omega) (He.glo_ok X G (c.fact 24 (f := .glo "_law_decision") rfl)) (fun _ _ _ _ _ _ us hl => match us, hl with | [_, _, _, _], _ => rfl)
    | succ n ih => exact own_of F52 (ok52 T F52 o__law_take ih) (He.glo_ok X G (c.fact 24 (f := .glo "_law_decision") rfl)) (fun _ _ _ _ _ _ us hl => match us, hl with | [_, _, _, _], _ => rfl)
  have o__law_decision : Own P w K mg base 7 "_law_decision" ["_law_pool_here", "_law_many", "_law_room", "_law_deep"] [] (spDec 6) := oa52 6
  have o__law_all_rows : Own P w K mg base 1 "_law_all_rows" ["_law_many"] [] spAll := own_of F54 (ok54 T F54) (He.glo_ok X G (c.fact 25 (f := .glo "_law_all_rows") rfl)) (fun _ _ _ _ _ _ us hl => match us, hl with | [_], _ => rfl)
  have o__law_rows_of : Own P w K mg base 2 "_law_rows_of" ["_law_pool_here", "_law_many", "_law_most"] [] spRowsOf := own_of F55 (ok55 T F55 o__law_take o__law_all_rows) (He.glo_ok X G (c.fact 26 (f := .glo "_law_rows_of") rfl)) (fun _ _ _ _ _ _ us hl => match us, hl with | [_, _, _], _ => rfl)
  have o__law_case : Own P w K mg base 8 "_law_case" ["_law_pool_here", "_law_wishes", "_law_most"] [] spLCase := own_of F56 (ok56 T F56 o__law_take o__law_decision o__law_rows_of) (He.glo_ok X G (c.fact 27 (f := .glo "_law_case") rfl)) (fun _ _ _ _ _ _ us hl => match us, hl with | [_, _, _], _ => rfl)
  have o__law_some : Own P w K mg base 2 "_law_some" ["_law_pool_here", "_law_rows"] [] spSome := own_of F57 (ok57 T F57 o__law_take) (He.glo_ok X G (c.fact 28 (f := .glo "_law_some") rfl)) (fun _ _ _ _ _ _ us hl => match us, hl with | [_, _], _ => rfl)
  have o__law_ties : Own P w K mg base 27 "_law_ties" ["_law_pool_here", "_law_case_here", "_law_rows", "_law_wishes"] [] (spTies P w C) := own_of F58 (ok58 T F58 o__law_take o_pairs) (He.glo_ok X G (c.fact 29 (f := .glo "_law_ties") rfl)) (fun _ _ _ _ _ _ us hl => match us, hl with | [_, _, _, _], _ => rfl)
  exact ok59 T F59 o__law_pool o__law_case o_Case o_Book o_shown_by o_Book_len o_web_of o_has_ring o_pairs o__law_ties o__law_some
end EA
open PySem PySem.W PySem.Calls PyProof.Rows
theorem PySem.Challenge.cw_eachalone_k36_whole_one_row_more_holds : PySem.Challenge.rw_eachalone_k36_whole_one_row_more.Holds := by
  w_on; o_law
  refine HandSHeadRun.head_any (r := OpenLaw.row PySem.Challenge.rw_eachalone_k36_whole_one_row_more) (q := view (OpenLaw.row PySem.Challenge.rw_eachalone_k36_whole_one_row_more).prog [59]) (H := EA.hk) (ob := EA.ob) (M := 4000) (loose := EA.lo) (d := HandSHeadRun.topDef (OpenLaw.row PySem.Challenge.rw_eachalone_k36_whole_one_row_more).prog 59) (kwd := []) EA.ob_eq
    (by kernel_rfl) (fun s => by kernel_rfl) EA.run (by kernel_rfl) (by kernel_rfl) (by kernel_rfl) (by rfl) (by first | assumption | decide +kernel) (by decide +kernel) ⟨rfl, rfl, rfl, rfl, rfl, by decide +kernel⟩ ?hw ?hc
  case hw => w_witness2
  case hc =>
    refine L2.walk_ofE (l := PySem.Challenge.rw_eachalone_k36_whole_one_row_more) (n := 63) (k := 30) (x := "_law_script") (CX := L2.CX0) rfl (by decide) (by kernel_rfl) ⟨rfl, by decide, by decide⟩ ?F (fun _ _ _ _ z => z)
    intro w mg fa h Y G hmg0
    obtain ⟨K, KX, c⟩ := Y
    have hmg : mg ("law" : PySem.Str) = some (.ref fa) := by
      have e : (HandSHeadRun.topDef (OpenLaw.row PySem.Challenge.rw_eachalone_k36_whole_one_row_more).prog 59).name = ("law" : PySem.Str) := by kernel_rfl
      rw [← e]
      exact hmg0
    obtain ⟨fd, hb, hF⟩ := EA.facts (P := (PySem.Challenge.rw_eachalone_k36_whole_one_row_more).prog) (w := w) KX G hmg c
    exact ⟨K, fd, EA.spLaw K, KX, hb, fun H a ns hl _ hS => ⟨a, ns, rfl, hS, fun _ => rfl⟩, hF⟩
