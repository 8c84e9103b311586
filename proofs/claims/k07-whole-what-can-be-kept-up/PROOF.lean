import PyProof.Rows.All
import Wide.All
import OpenK.AllK
import Wide.FinOn
import HandS.ForMost
import HandS.Exc
import HandS.WordsExc
import HandS.IsInst
import HandS.Flow
import HandS.Walk
import HandS.Lambda
import HandS.Deep
import HandS.Sort
import HandS.Conv
import HandS.NoneIn
import HandS.RaiseMore
import KE.GoesEnum
import KE.GoesMore
import KE.KExcSuper
import KE.KExcIs
import HandS.ExcIs
import HandS.ExcField
import HandS.TryMany
import PyProof.ExcBaseAll.LookupError
import KE.DataMinKey
import KE.LtData
import HandS.Comp
import HandS.DictComp
import HandS.Set
import HandS.SetBool
import KE.SortData
import HandS.Small
import HandS.TupLen
import HandS.SetFor
import HandS.Replace
import HandS.ExcOwn
import PyProof.StrLawsRepr
import HandS.Style
import HandS.Head0
import HandS.Head1
import HandS.Head2
import HandS.HeadEnd
import HandS.HeadHook1
import HandS.HeadHook2
import HandS.HeadHook3
import HandS.HeadHook4
import HandS.HeadWalk
import PySem.Challenge.RW_backinstep_k07_whole_what_can_be_kept_up
set_option Elab.async false
set_option linter.all false
set_option maxRecDepth 100000
set_option maxHeartbeats 4000000
section
/-! The text by places, callable defs, heaps that grow. -/
namespace Bk
open PySem L2 LamX
def top (i : Nat) : Stmt := PySem.Challenge.pw_backinstep_k07_whole_what_can_be_kept_up.main.body.getD i (.Pass ⟨0, 0, 0, 0⟩)

/-- a def of the top that keeps a promise, wherever it stands -/
def CalF (P : Program) (w : World) (K : PySem.W.Frag) (mg : Str → Option Value) (base : Heap) (CX : CXT) (k : Nat) (x : Str) (ps : List Str) (sp : Sp) : Prop :=
  ∃ f fd, FnOk P w K mg base CX k f fd ps sp ∧ mg x = some (.ref f) ∧ PySem.W.keepIn K (.ref f) = true ∧ Binds K fd ps []
theorem pe_cal {X : Cx} {CX : CXT} {k : Nat} {ps : List Str} {sp : Sp} {E : XK} {x : Str} {p pos : Pos} {e : Expr} {es : List Expr} {t : TA} (G : CalF X.prog X.w X.K X.mg X.base CX k x ps sp) (hr : Room k X.A) (ha : PA X (e :: es) t) (hx : Passes CX X E) (hg : Gl X x := by rfl)
    (hs : starEach (e :: es) X.env = (false, eval e X.env) :: starEach es X.env := by rfl) (hpl : (backTo pos (starEach es X.env)).any (·.1) = false := by rfl) (hdb : (x == ("__debug__" : Str)) = false := by decide) :
    PE X (.Call (.Name x p) (e :: es) [] pos) (tCall sp [] E t) := by
  obtain ⟨f, fd, F, hm, hk, hb⟩ := G
  exact pe_call F hr hg hm hk hb .nil hx ha (hdb := hdb) (he := hs) (hpl := hpl)
theorem CalF.mono {P : Program} {w : World} {K : PySem.W.Frag} {mg : Str → Option Value} {base : Heap} {CX : CXT} {j k : Nat} {x : Str} {ps : List Str} {sp : Sp} (G : CalF P w K mg base CX j x ps sp) (h : j ≤ k) : CalF P w K mg base CX k x ps sp := by
  obtain ⟨f, fd, F, hm, hk, hb⟩ := G
  exact ⟨f, fd, F.mono h, hm, hk, hb⟩

/-- the built-in names that the text uses are the built-in ones -/
structure Bt (mg : Str → Option Value) : Prop where
  isinstance : mg "isinstance" = none
  int : mg "int" = none
  bool : mg "bool" = none
  str : mg "str" = none
  list : mg "list" = none
  tuple : mg "tuple" = none
  len : mg "len" = none
  range : mg "range" = none
  enumerate : mg "enumerate" = none
  zip : mg "zip" = none
  sorted : mg "sorted" = none
  min : mg "min" = none
  max : mg "max" = none
  all : mg "all" = none
  any : mg "any" = none
  abs : mg "abs" = none
  repr : mg "repr" = none

/-! ### heaps that grow: all stays but the tables of code objects, which may grow -/
structure Gr (T : List (Addr × Str)) (H H' : Hp) : Prop where
  ext : ∀ b o, H b = some o → (∀ ps, o ≠ .tbl ps) → H' b = some o
  tab : Tabs T H → Tabs T H'
  dom : ∀ b, H' b = none → H b = none
section
variable {T : List (Addr × Str)} {H H' H1 H2 : Hp} {a b p : Addr} {o : HO} {K : PySem.W.Frag} {xs : List V}
theorem Gr.refl : Gr T H H := ⟨fun _ _ h _ => h, fun h => h, fun _ h => h⟩
theorem Gr.trans (g : Gr T H H1) (k : Gr T H1 H2) : Gr T H H2 := ⟨fun b o h n => k.ext b o (g.ext b o h n) n, fun h => k.tab (g.tab h), fun b h => g.dom b (k.dom b h)⟩
theorem Gr.of (h : ∀ b o, H b = some o → H' b = some o) : Gr T H H' := ⟨fun b o e _ => h b o e, fun t => t.ext h, fun b e => by
  cases q : H b with
  | none => rfl
  | some o => rw [h b o q] at e; cases e⟩
theorem Gr.new (h : H p = none) : Gr T H (upd H p o) := .of fun b u e => by
  rw [upd_ne (ne_of_none e h)]
  exact e
/-- an object that H does not know may change -/
theorem Gr.mut (g : Gr T H H') (h : H p = none) (e : H' p = some o) (no : ∀ ps, o ≠ .tbl ps) (nc : ∀ c q, o ≠ CodeO c q) {u : HO} : Gr T H (upd H' p u) := by
  refine ⟨fun b v e n => ?_, fun t q hq => ?_, fun b hb => ?_⟩
  · rw [upd_ne (ne_of_none e h)]
    exact g.ext b v e n
  · obtain ⟨ps, h1, h2, h3⟩ := g.tab t q hq
    have n1 : q.1 ≠ p := fun z => by rw [z, e] at h1; exact no ps (Option.some.inj h1)
    refine ⟨ps, by rw [upd_ne n1]; exact h1, h2, fun pos cv hc => ?_⟩
    obtain ⟨c, e1, e2⟩ := h3 pos cv hc
    have n2 : c ≠ p := fun z => by rw [z, e] at e2; exact nc _ _ (Option.some.inj e2)
    exact ⟨c, e1, by rw [upd_ne n2]; exact e2⟩
  · by_cases z : b = p
    · rw [z]; exact h
    · rw [upd_ne z] at hb
      exact g.dom b hb
theorem Gr.lst (g : Gr T H H') (h : H a = some (.lst xs)) : H' a = some (.lst xs) := g.ext _ _ h fun _ z => by cases z
theorem Gr.tup (g : Gr T H H') (h : H a = some (.tup xs)) : H' a = some (.tup xs) := g.ext _ _ h fun _ z => by cases z
theorem Gr.dK (g : Gr T H H') {kvs : List (Key × V)} (h : H a = some (.dK kvs)) : H' a = some (.dK kvs) := g.ext _ _ h fun _ z => by cases z
theorem Gr.dT (g : Gr T H H') {kvs : List (List Key × V)} (h : H a = some (.dT kvs)) : H' a = some (.dT kvs) := g.ext _ _ h fun _ z => by cases z
theorem Gr.ins (g : Gr T H H') {C dx : Addr} {fs : List (Str × V)} (h : H a = some (.ins C dx fs)) : H' a = some (.ins C dx fs) := g.ext _ _ h fun _ z => by cases z
theorem Gr.rng (g : Gr T H H') {lo hi : Int} (h : H a = some (.rng lo hi)) : H' a = some (.rng lo hi) := g.ext _ _ h fun _ z => by cases z
theorem Gr.frz (g : Gr T H H') {ob : Obj} {u : HO} (h : H a = some (.frz ob u)) : H' a = some (.frz ob u) := g.ext _ _ h fun _ z => by cases z
theorem Gr.sqL (g : Gr T H H') (h : SqL K H a xs) : SqL K H' a xs := by
  rcases h with (h | ⟨o, h⟩) | h
  · exact .inl (.inl (g.lst h))
  · exact .inl (.inr ⟨o, g.frz h⟩)
  · exact .inr h
theorem Gr.sqT (g : Gr T H H') (h : SqT K H a xs) : SqT K H' a xs := by
  rcases h with (h | ⟨o, h⟩) | h
  · exact .inl (.inl (g.tup h))
  · exact .inl (.inr ⟨o, g.frz h⟩)
  · exact .inr h
theorem Gr.ne (g : Gr T H H') (h : H a = some o) (h' : H' b = none) : a ≠ b := fun z => by
  rw [z, g.dom b h'] at h
  cases h
end

/-! ### the own objects of a def: at known places, unlike each other, unknown to the heap at its entry -/
def Plain (o : HO) : Prop := (∀ ps, o ≠ .tbl ps) ∧ ∀ φ, o ≠ .ext φ
theorem pl_lst {xs : List V} : Plain (.lst xs) := ⟨fun _ z => (by cases z), fun _ z => (by cases z)⟩
theorem pl_tup {xs : List V} : Plain (.tup xs) := ⟨fun _ z => (by cases z), fun _ z => (by cases z)⟩
theorem pl_dK {kvs : List (Key × V)} : Plain (.dK kvs) := ⟨fun _ z => (by cases z), fun _ z => (by cases z)⟩
theorem pl_dT {kvs : List (List Key × V)} : Plain (.dT kvs) := ⟨fun _ z => (by cases z), fun _ z => (by cases z)⟩
theorem pl_ins {C dx : Addr} {fs : List (Str × V)} : Plain (.ins C dx fs) := ⟨fun _ z => (by cases z), fun _ z => (by cases z)⟩
theorem pl_own {x : Addr} : Plain (.own x) := ⟨fun _ z => (by cases z), fun _ z => (by cases z)⟩
theorem pl_rng {lo hi : Int} : Plain (.rng lo hi) := ⟨fun _ z => (by cases z), fun _ z => (by cases z)⟩
theorem pl_frz {ob : Obj} {u : HO} : Plain (.frz ob u) := ⟨fun _ z => (by cases z), fun _ z => (by cases z)⟩
structure Loc (T : List (Addr × Str)) (H0 : Hp) (L : List (Addr × HO)) (H : Hp) : Prop where
  g : Gr T H0 H
  nd : (L.map (·.1)).Nodup
  fr : ∀ p ∈ L, H0 p.1 = none
  at_ : ∀ p ∈ L, H p.1 = some p.2
  pl : ∀ p ∈ L, Plain p.2
section
variable {T : List (Addr × Str)} {H0 H H' : Hp} {L : List (Addr × HO)} {a b p : Addr} {o u : HO}
theorem Loc.start : Loc T H [] H := ⟨.refl, List.nodup_nil, fun _ h => by simp at h, fun _ h => by simp at h, fun _ h => by simp at h⟩
theorem Loc.get (l : Loc T H0 L H) {i : Nat} (h : L[i]? = some (a, o)) : H a = some o := l.at_ (a, o) (List.mem_of_getElem? h)
theorem Loc.fresh (l : Loc T H0 L H) (h : H p = none) : H0 p = none := l.g.dom p h
theorem Loc.new (l : Loc T H0 L H) (h : H p = none) (pl : Plain o) : Loc T H0 ((p, o) :: L) (upd H p o) := by
  have np : ∀ q ∈ L, q.1 ≠ p := fun q hq z => by
    have := l.at_ q hq
    rw [z, h] at this
    cases this
  refine ⟨l.g.trans (.new h), ?_, fun q hq => ?_, fun q hq => ?_, fun q hq => ?_⟩
  · rw [List.map_cons]
    refine List.nodup_cons.mpr ⟨fun z => ?_, l.nd⟩
    obtain ⟨q, hq, e⟩ := List.mem_map.mp z
    exact np q hq e
  · rcases List.mem_cons.mp hq with e | hq
    · rw [e]; exact l.g.dom p h
    · exact l.fr q hq
  · rcases List.mem_cons.mp hq with e | hq
    · rw [e]; exact upd_same
    · rw [upd_ne (np q hq)]; exact l.at_ q hq
  · rcases List.mem_cons.mp hq with e | hq
    · rw [e]; exact pl
    · exact l.pl q hq
theorem Loc.set (l : Loc T H0 L H) {i : Nat} (h : L[i]? = some (a, o)) (pl : Plain u) : Loc T H0 (L.set i (a, u)) (upd H a u) := by
  have hi := (List.getElem?_eq_some_iff.mp h).1
  have ei := (List.getElem?_eq_some_iff.mp h).2
  have hm := List.mem_of_getElem? h
  have em : (L.set i (a, u)).map (·.1) = L.map (·.1) := by
    rw [List.map_set]
    refine List.ext_getElem? fun j => ?_
    by_cases z : j = i
    · subst z
      rw [List.getElem?_set_self (by simpa using hi), List.getElem?_map, h]
      rfl
    · rw [List.getElem?_set_ne (Ne.symm z)]
  have mem : ∀ q ∈ L.set i (a, u), q = (a, u) ∨ (q ∈ L ∧ q.1 ≠ a) := fun q hq => by
    obtain ⟨j, hj, e⟩ := List.mem_iff_getElem.mp hq
    by_cases z : j = i
    · subst z
      rw [List.getElem_set_self] at e
      exact .inl e.symm
    · rw [List.getElem_set_ne (Ne.symm z)] at e
      have hj' : j < L.length := by simpa using hj
      refine .inr ⟨List.mem_iff_getElem.mpr ⟨j, hj', e⟩, fun w => z ?_⟩
      refine (List.getElem_inj (xs := L.map (·.1)) (h₀ := by simpa using hj') (h₁ := by simpa using hi) l.nd).mp ?_
      simp only [List.getElem_map]
      rw [e, ei, w]
  have fa : H0 a = none := l.fr (a, o) hm
  refine ⟨l.g.mut fa (l.at_ _ hm) (l.pl _ hm).1 (fun c q => (l.pl _ hm).2 _), by rw [em]; exact l.nd, fun q hq => ?_, fun q hq => ?_, fun q hq => ?_⟩
  · rcases mem q hq with e | ⟨h1, _⟩
    · rw [e]; exact fa
    · exact l.fr q h1
  · rcases mem q hq with e | ⟨h1, h2⟩
    · rw [e]; exact upd_same
    · rw [upd_ne h2]; exact l.at_ q h1
  · rcases mem q hq with e | ⟨h1, _⟩
    · rw [e]; exact pl
    · exact l.pl q h1
theorem Loc.mono (l : Loc T H0 L H) (g : Gr T H H') : Loc T H0 L H' := ⟨l.g.trans g, l.nd, l.fr, fun p hp => g.ext _ _ (l.at_ p hp) (l.pl p hp).1, l.pl⟩
theorem Loc.sub (l : Loc T H0 L H) {M : List (Addr × HO)} (h : M.Sublist L) : Loc T H0 M H := ⟨l.g, l.nd.sublist (h.map _), fun p hp => l.fr p (h.subset hp), fun p hp => l.at_ p (h.subset hp), fun p hp => l.pl p (h.subset hp)⟩
end
end Bk
end
section
set_option autoImplicit false
/-! Tarjan's search, as the program does it: states, invariant, the four moves. Plain Lean, no program in sight. -/
namespace Bk
section Tarjan
variable {α : Type} [DecidableEq α]

def fup {β : Type} (f : α → β) (a : α) (b : β) : α → β := fun x => if x = a then b else f x
theorem fup_same {β : Type} (f : α → β) (a : α) (b : β) : fup f a b a = b := if_pos rfl
theorem fup_ne {β : Type} (f : α → β) {a x : α} (b : β) (h : x ≠ a) : fup f a b x = f x := if_neg h

inductive Reach (st : α → List α) : α → α → Prop
  | refl (a : α) : Reach st a a
  | step {a b c : α} : b ∈ st a → Reach st b c → Reach st a c
theorem Reach.trans {st : α → List α} {a b c : α} (h : Reach st a b) (k : Reach st b c) : Reach st a c := by
  induction h with
  | refl _ => exact k
  | step m _ ih => exact .step m (ih k)
theorem Reach.one {st : α → List α} {a b : α} (h : b ∈ st a) : Reach st a b := .step h (.refl b)
theorem Reach.snoc {st : α → List α} {a b c : α} (h : Reach st a b) (k : c ∈ st b) : Reach st a c := h.trans (.one k)

structure TarS (α : Type) where
  keys : List α
  num : α → Nat
  low : α → Nat
  stk : List α
  wait : α → Bool
  fnd : List (List α)

def Black (Gs : List (α × Nat)) (u : α) : Prop := ∀ g ∈ Gs, g.1 ≠ u
def Chain (st : α → List α) : List (α × Nat) → Prop
  | [] => True
  | [_] => True
  | c :: p :: r => (∃ a' : Nat, p.2 = a' + 1 ∧ (st p.1)[a']? = some c.1) ∧ Chain st (p :: r)

structure TarI (st : α → List α) (nodes : List α) (s : TarS α) (Gs : List (α × Nat)) (pend : Option α) : Prop where
  keysNd : s.keys.Nodup
  keysSub : ∀ x ∈ s.keys, x ∈ nodes
  numAt : ∀ (i : Nat) (x : α), s.keys[i]? = some x → s.num x = i
  stkSub : ∀ x ∈ s.stk, x ∈ s.keys
  stkOrd : s.stk.Pairwise (fun x y => s.num y < s.num x)
  part : ∀ x ∈ s.keys, x ∈ s.stk ∨ ∃ p ∈ s.fnd, x ∈ p
  fndKeys : ∀ p ∈ s.fnd, ∀ x ∈ p, x ∈ s.keys ∧ x ∉ s.stk
  fndNd : s.fnd.flatten.Nodup
  fndNe : ∀ p ∈ s.fnd, p ≠ []
  fndScc : ∀ p ∈ s.fnd, ∀ a ∈ p, ∀ b ∈ p, Reach st a b
  fndClosed : ∀ (i : Nat) (p : List α), s.fnd[i]? = some p → ∀ x ∈ p, ∀ y ∈ st x, ∃ (j : Nat) (q : List α), j ≤ i ∧ s.fnd[j]? = some q ∧ y ∈ q
  waitEq : ∀ x ∈ s.keys, s.wait x = decide (x ∈ s.stk)
  gStk : ∀ g ∈ Gs, g.1 ∈ s.stk
  gOrd : Gs.Pairwise (fun x y => s.num y.1 < s.num x.1)
  gAt : ∀ g ∈ Gs, g.2 ≤ (st g.1).length
  gLow : ∀ g ∈ Gs, s.low g.1 = s.num g.1
  gDone : ∀ g ∈ Gs, ∀ y ∈ (st g.1).take g.2, y ∈ s.keys ∨ pend = some y
  chain : Chain st Gs
  pendOk : ∀ y, pend = some y → y ∉ s.keys ∧ y ∈ nodes ∧ ∀ g r, Gs = g :: r → ∃ a' : Nat, g.2 = a' + 1 ∧ (st g.1)[a']? = some y
  bDone : ∀ u ∈ s.stk, Black Gs u → ∀ y ∈ st u, y ∈ s.keys
  gReach : ∀ g ∈ Gs, ∀ u ∈ s.stk, s.num g.1 ≤ s.num u → Reach st g.1 u
  bLow : ∀ u ∈ s.stk, Black Gs u → s.low u < s.num u ∧ ∃ w ∈ s.stk, s.num w = s.low u ∧ Reach st u w
  bEdge : ∀ u ∈ s.stk, Black Gs u → ∀ y ∈ st u, y ∈ s.stk → s.low u ≤ s.num y
  bNear : ∀ u ∈ s.stk, Black Gs u → ∃ g ∈ Gs, s.num g.1 < s.num u ∧ (∀ g' ∈ Gs, s.num g'.1 < s.num u → s.num g'.1 ≤ s.num g.1) ∧
    ∃ c ∈ s.stk, Black Gs c ∧ c ∈ (st g.1).take g.2 ∧ s.low c ≤ s.low u ∧ s.num c ≤ s.num u

variable {st : α → List α} {nodes : List α} {s : TarS α} {Gs : List (α × Nat)} {pend : Option α}

theorem TarI.num_lt (I : TarI st nodes s Gs pend) {x : α} (h : x ∈ s.keys) : s.num x < s.keys.length := by
  obtain ⟨i, hi, e⟩ := List.mem_iff_getElem.mp h
  have := I.numAt i x (List.getElem?_eq_some_iff.mpr ⟨hi, e⟩)
  omega
theorem TarI.inj (I : TarI st nodes s Gs pend) {x y : α} (hx : x ∈ s.keys) (hy : y ∈ s.keys) (e : s.num x = s.num y) : x = y := by
  obtain ⟨i, hi, ei⟩ := List.mem_iff_getElem.mp hx
  obtain ⟨j, hj, ej⟩ := List.mem_iff_getElem.mp hy
  have h1 := I.numAt i x (List.getElem?_eq_some_iff.mpr ⟨hi, ei⟩)
  have h2 := I.numAt j y (List.getElem?_eq_some_iff.mpr ⟨hj, ej⟩)
  have : i = j := by omega
  subst this
  exact ei.symm.trans ej

def TarS.start : TarS α := ⟨[], fun _ => 0, fun _ => 0, [], fun _ => false, []⟩
theorem TarI.start : TarI st nodes (TarS.start : TarS α) [] none := by
  constructor <;> simp [TarS.start, Chain]

/-- with no gray node the stack is empty -/
theorem TarI.stk_nil (I : TarI st nodes s [] pend) : s.stk = [] := by
  cases h : s.stk with
  | nil => rfl
  | cons u r =>
    obtain ⟨g, hg, _⟩ := I.bNear u (by rw [h]; exact List.mem_cons_self ..) (fun g hg => by simp at hg)
    simp at hg

/-- a new root is named -/
theorem TarI.root (I : TarI st nodes s [] none) {x : α} (hx : x ∉ s.keys) (hn : x ∈ nodes) : TarI st nodes s [] (some x) :=
  { I with
    gDone := fun g hg => by simp at hg
    pendOk := fun y e => by
      cases e
      exact ⟨hx, hn, fun g r z => by simp at z⟩ }

def TarS.disc (s : TarS α) (x : α) : TarS α :=
  { s with keys := s.keys ++ [x], num := fup s.num x s.keys.length, low := fup s.low x s.keys.length, stk := x :: s.stk, wait := fup s.wait x true }

/-- the pending node is met -/
theorem TarI.disc {x : α} (I : TarI st nodes s Gs (some x)) : TarI st nodes (s.disc x) ((x, 0) :: Gs) none := by
  obtain ⟨hx, hn, hp⟩ := I.pendOk x rfl
  have ne : ∀ {y : α}, y ∈ s.keys → y ≠ x := fun h e => hx (e ▸ h)
  have nk : ∀ {y : α}, y ∈ s.keys → (s.disc x).num y = s.num y := fun h => fup_ne _ _ (ne h)
  have lk : ∀ {y : α}, y ∈ s.keys → (s.disc x).low y = s.low y := fun h => fup_ne _ _ (ne h)
  have nx : (s.disc x).num x = s.keys.length := fup_same _ _ _
  have lx : (s.disc x).low x = s.keys.length := fup_same _ _ _
  have gk : ∀ {g : α × Nat}, g ∈ Gs → g.1 ∈ s.keys := fun h => I.stkSub _ (I.gStk _ h)
  have blk : ∀ {u : α}, Black ((x, 0) :: Gs) u → Black Gs u := fun b g hg => b g (List.mem_cons_of_mem _ hg)
  have stk_of : ∀ {u : α}, u ∈ (s.disc x).stk → Black ((x, 0) :: Gs) u → u ∈ s.stk := fun {u} h b => by
    rcases List.mem_cons.mp h with e | h
    · exact absurd e.symm (b (x, 0) (List.mem_cons_self ..))
    · exact h
  constructor
  · show (s.keys ++ [x]).Nodup
    refine List.nodup_append.mpr ⟨I.keysNd, by simp, fun a ha b hb => ?_⟩
    rw [List.mem_singleton.mp hb]
    exact ne ha
  · intro y hy
    rcases List.mem_append.mp hy with h | h
    · exact I.keysSub y h
    · rw [List.mem_singleton.mp h]; exact hn
  · intro i y e
    have e' : (s.keys ++ [x])[i]? = some y := e
    by_cases hi : i < s.keys.length
    · rw [List.getElem?_append_left hi] at e'
      rw [nk (List.mem_of_getElem? e')]
      exact I.numAt i y e'
    · rw [List.getElem?_append_right (by omega)] at e'
      have h1 : i - s.keys.length = 0 := by
        have := (List.getElem?_eq_some_iff.mp e').1
        simp at this
        omega
      rw [h1] at e'
      simp at e'
      subst e'
      rw [nx]
      omega
  · intro y hy
    show y ∈ s.keys ++ [x]
    rcases List.mem_cons.mp hy with e | h
    · rw [e]; simp
    · exact List.mem_append_left _ (I.stkSub y h)
  · show (x :: s.stk).Pairwise _
    refine List.pairwise_cons.mpr ⟨fun y hy => ?_, ?_⟩
    · rw [nx, nk (I.stkSub y hy)]
      exact I.num_lt (I.stkSub y hy)
    · refine I.stkOrd.imp_of_mem fun {a b} ha hb h => ?_
      rw [nk (I.stkSub _ ha), nk (I.stkSub _ hb)]
      exact h
  · intro y hy
    rcases List.mem_append.mp hy with h | h
    · rcases I.part y h with h | h
      · exact .inl (List.mem_cons_of_mem _ h)
      · exact .inr h
    · rw [List.mem_singleton.mp h]
      exact .inl (List.mem_cons_self ..)
  · intro p hp y hy
    obtain ⟨h1, h2⟩ := I.fndKeys p hp y hy
    refine ⟨List.mem_append_left _ h1, fun h => ?_⟩
    rcases List.mem_cons.mp h with e | h
    · exact ne h1 e
    · exact h2 h
  · exact I.fndNd
  · exact I.fndNe
  · exact I.fndScc
  · exact I.fndClosed
  · intro y hy
    show fup s.wait x true y = decide (y ∈ x :: s.stk)
    by_cases e : y = x
    · subst e
      rw [fup_same]
      simp
    · rw [fup_ne _ _ e]
      rcases List.mem_append.mp hy with h | h
      · rw [I.waitEq y h]
        simp [e]
      · exact absurd (List.mem_singleton.mp h) e
  · intro g hg
    rcases List.mem_cons.mp hg with e | h
    · rw [e]; exact List.mem_cons_self ..
    · exact List.mem_cons_of_mem _ (I.gStk g h)
  · refine List.pairwise_cons.mpr ⟨fun g hg => ?_, ?_⟩
    · rw [nx, nk (gk hg)]
      exact I.num_lt (gk hg)
    · refine I.gOrd.imp_of_mem fun {a b} ha hb h => ?_
      rw [nk (gk ha), nk (gk hb)]
      exact h
  · intro g hg
    rcases List.mem_cons.mp hg with e | h
    · rw [e]; exact Nat.zero_le _
    · exact I.gAt g h
  · intro g hg
    rcases List.mem_cons.mp hg with e | h
    · rw [e]
      show (s.disc x).low x = (s.disc x).num x
      rw [lx, nx]
    · rw [lk (gk h), nk (gk h)]
      exact I.gLow g h
  · intro g hg y hy
    rcases List.mem_cons.mp hg with e | h
    · rw [e] at hy
      simp at hy
    · refine .inl ?_
      show y ∈ s.keys ++ [x]
      rcases I.gDone g h y hy with h | h
      · exact List.mem_append_left _ h
      · cases h; simp
  · cases Gs with
    | nil => trivial
    | cons g r =>
      obtain ⟨a', e1, e2⟩ := hp g r rfl
      exact ⟨⟨a', e1, e2⟩, I.chain⟩
  · intro y e; cases e
  · intro u hu b y hy
    exact List.mem_append_left _ (I.bDone u (stk_of hu b) (blk b) y hy)
  · intro g hg u hu hle
    rcases List.mem_cons.mp hg with e | h
    · rw [e] at hle ⊢
      have hle : (s.disc x).num x ≤ (s.disc x).num u := hle
      rcases List.mem_cons.mp hu with e | h
      · rw [e]; exact .refl _
      · rw [nx, nk (I.stkSub u h)] at hle
        have := I.num_lt (I.stkSub u h)
        omega
    · rcases List.mem_cons.mp hu with e | h'
      · subst e
        -- g reaches the top gray, whose child is u
        cases Gs with
        | nil => simp at h
        | cons t r =>
          obtain ⟨a', _, e2⟩ := hp t r rfl
          have hle' : s.num g.1 ≤ s.num t.1 := by
            rcases List.mem_cons.mp h with e | h
            · rw [e]; exact Nat.le_refl _
            · exact Nat.le_of_lt ((List.pairwise_cons.mp I.gOrd).1 g h)
          exact (I.gReach g h t.1 (I.gStk t (List.mem_cons_self ..)) hle').snoc (List.mem_of_getElem? e2)
      · rw [nk (gk h), nk (I.stkSub u h')] at hle
        exact I.gReach g h u h' hle
  · intro u hu b
    have hu' := stk_of hu b
    obtain ⟨h1, w, hw, h2, h3⟩ := I.bLow u hu' (blk b)
    refine ⟨by rw [lk (I.stkSub u hu'), nk (I.stkSub u hu')]; exact h1, w, List.mem_cons_of_mem _ hw, ?_, h3⟩
    rw [lk (I.stkSub u hu'), nk (I.stkSub w hw)]
    exact h2
  · intro u hu b y hy hys
    have hu' := stk_of hu b
    rcases List.mem_cons.mp hys with e | h
    · rw [e, nx, lk (I.stkSub u hu')]
      have h1 := (I.bLow u hu' (blk b)).1
      have h2 := I.num_lt (I.stkSub u hu')
      omega
    · rw [lk (I.stkSub u hu'), nk (I.stkSub y h)]
      exact I.bEdge u hu' (blk b) y hy h
  · intro u hu b
    have hu' := stk_of hu b
    obtain ⟨g, hg, h1, h2, c, hc, bc, h3, h4, h5⟩ := I.bNear u hu' (blk b)
    have ku := I.stkSub u hu'
    have kc := I.stkSub c hc
    refine ⟨g, List.mem_cons_of_mem _ hg, by rw [nk (gk hg), nk ku]; exact h1, fun g' hg' => ?_, c, List.mem_cons_of_mem _ hc, fun g' hg' => ?_, h3, by rw [lk kc, lk ku]; exact h4, by rw [nk kc, nk ku]; exact h5⟩
    · rcases List.mem_cons.mp hg' with e | h
      · rw [e]
        intro q
        have q : (s.disc x).num x < (s.disc x).num u := q
        rw [nx, nk ku] at q
        have := I.num_lt ku
        omega
      · rw [nk (gk h), nk ku, nk (gk hg)]
        exact h2 g' h
    · rcases List.mem_cons.mp hg' with e | h
      · rw [e]; exact fun z => ne kc z.symm
      · exact bc g' h

/-- the top goes to its next step -/
theorem TarI.next {x : α} {a : Nat} {y : α} (I : TarI st nodes s ((x, a) :: Gs) none) (hy : (st x)[a]? = some y) (hn : y ∈ nodes) :
    TarI st nodes s ((x, a + 1) :: Gs) (if y ∈ s.keys then none else some y) := by
  have ha : a < (st x).length := (List.getElem?_eq_some_iff.mp hy).1
  have key : ∀ {P : α → Prop}, (∀ g ∈ (x, a) :: Gs, P g.1) → ∀ g ∈ (x, a + 1) :: Gs, P g.1 := fun h g hg => by
    rcases List.mem_cons.mp hg with e | hg
    · rw [e]; exact h (x, a) (List.mem_cons_self ..)
    · exact h g (List.mem_cons_of_mem _ hg)
  have key' : ∀ {P : α → Prop}, (∀ g ∈ (x, a + 1) :: Gs, P g.1) → ∀ g ∈ (x, a) :: Gs, P g.1 := fun h g hg => by
    rcases List.mem_cons.mp hg with e | hg
    · rw [e]; exact h (x, a + 1) (List.mem_cons_self ..)
    · exact h g (List.mem_cons_of_mem _ hg)
  have tk : (st x).take (a + 1) = (st x).take a ++ [y] := by
    rw [List.take_add_one, hy]
    rfl
  have blk : ∀ {u : α}, Black ((x, a + 1) :: Gs) u → Black ((x, a) :: Gs) u := fun b => key' (P := fun z => z ≠ _) b
  refine { I with gStk := key I.gStk, gOrd := ?_, gAt := ?_, gLow := key (P := fun z => s.low z = s.num z) I.gLow, gDone := ?_, chain := ?_, pendOk := ?_, bDone := fun u hu b => I.bDone u hu (blk b), gReach := key (P := fun z => ∀ u ∈ s.stk, s.num z ≤ s.num u → Reach st z u) I.gReach, bLow := fun u hu b => I.bLow u hu (blk b), bEdge := fun u hu b => I.bEdge u hu (blk b), bNear := fun u hu b => ?_ }
  · exact List.pairwise_cons.mpr (List.pairwise_cons.mp I.gOrd)
  · intro g hg
    rcases List.mem_cons.mp hg with e | hg
    · rw [e]; exact ha
    · exact I.gAt g (List.mem_cons_of_mem _ hg)
  · intro g hg z hz
    rcases List.mem_cons.mp hg with e | hg
    · rw [e] at hz
      have hz : z ∈ (st x).take (a + 1) := hz
      rw [tk] at hz
      rcases List.mem_append.mp hz with h | h
      · rcases I.gDone (x, a) (List.mem_cons_self ..) z h with h | h
        · exact .inl h
        · cases h
      · rw [List.mem_singleton.mp h]
        by_cases k : y ∈ s.keys
        · exact .inl k
        · exact .inr (if_neg k)
    · rcases I.gDone g (List.mem_cons_of_mem _ hg) z hz with h | h
      · exact .inl h
      · cases h
  · cases Gs with
    | nil => trivial
    | cons p r => exact I.chain
  · intro z e
    by_cases k : y ∈ s.keys
    · rw [if_pos k] at e; cases e
    · rw [if_neg k] at e
      cases e
      refine ⟨k, hn, fun g r e => ?_⟩
      injection e with e1 e2
      subst e1
      exact ⟨a, rfl, hy⟩
  · obtain ⟨g, hg, h1, h2, c, hc, bc, h3, h4, h5⟩ := I.bNear u hu (blk b)
    have bc' : Black ((x, a + 1) :: Gs) c := key (P := fun z => z ≠ c) bc
    rcases List.mem_cons.mp hg with e | hg
    · subst e
      refine ⟨(x, a + 1), List.mem_cons_self .., h1, key (P := fun z => s.num z < s.num u → s.num z ≤ s.num x) h2, c, hc, bc', ?_, h4, h5⟩
      show c ∈ (st x).take (a + 1)
      rw [tk]
      exact List.mem_append_left _ h3
    · exact ⟨g, List.mem_cons_of_mem _ hg, h1, key (P := fun z => s.num z < s.num u → s.num z ≤ s.num g.1) h2, c, hc, bc', h3, h4, h5⟩

/-! ### the top is done -/
def lowStep (s : TarS α) (x : α) (l : Nat) (w : α) : Nat := if s.wait w = true then (if w = x then l else min l (s.low w)) else l
def lowF (s : TarS α) (x : α) : Nat := (st x).foldl (lowStep s x) (s.low x)
theorem low_spec (x : α) : ∀ (ws : List α) (l : Nat), (ws.foldl (lowStep s x) l ≤ l) ∧ (∀ w ∈ ws, s.wait w = true → w ≠ x → ws.foldl (lowStep s x) l ≤ s.low w) ∧
    (ws.foldl (lowStep s x) l = l ∨ ∃ w ∈ ws, s.wait w = true ∧ w ≠ x ∧ ws.foldl (lowStep s x) l = s.low w)
  | [], l => ⟨Nat.le_refl _, fun w h => by simp at h, .inl rfl⟩
  | v :: ws, l => by
    obtain ⟨h1, h2, h3⟩ := low_spec x ws (lowStep s x l v)
    have hl : lowStep s x l v ≤ l := by
      unfold lowStep
      split
      · split
        · exact Nat.le_refl _
        · exact Nat.min_le_left _ _
      · exact Nat.le_refl _
    rw [List.foldl_cons]
    refine ⟨Nat.le_trans h1 hl, fun w hw ww wx => ?_, ?_⟩
    · rcases List.mem_cons.mp hw with e | hw
      · subst e
        refine Nat.le_trans h1 ?_
        unfold lowStep
        rw [if_pos ww, if_neg wx]
        exact Nat.min_le_right _ _
      · exact h2 w hw ww wx
    · rcases h3 with h3 | ⟨w, hw, ww, wx, e⟩
      · by_cases hv : s.wait v = true
        · by_cases vx : v = x
          · refine .inl (h3.trans ?_)
            unfold lowStep
            rw [if_pos hv, if_pos vx]
          · have e : lowStep s x l v = min l (s.low v) := by
              unfold lowStep
              rw [if_pos hv, if_neg vx]
            rw [e] at h3 ⊢
            rcases Nat.le_total l (s.low v) with q | q
            · exact .inl (by rw [h3]; exact Nat.min_eq_left q)
            · exact .inr ⟨v, List.mem_cons_self .., hv, vx, by rw [h3]; exact Nat.min_eq_right q⟩
        · refine .inl (h3.trans ?_)
          unfold lowStep
          rw [if_neg hv]
      · exact .inr ⟨w, List.mem_cons_of_mem _ hw, ww, wx, e⟩

section
variable {x : α} {a : Nat} {R : Nat}
/-- what is known of the top's low when it is done -/
structure Fin1 (st : α → List α) (s : TarS α) (x : α) (R : Nat) : Prop where
  le : R ≤ s.num x
  edge : ∀ w ∈ st x, w ∈ s.stk → R ≤ s.low w ∨ w = x
  or : R = s.num x ∨ ∃ w ∈ st x, w ∈ s.stk ∧ w ≠ x ∧ R = s.low w
theorem TarI.fin1 (I : TarI st nodes s ((x, a) :: Gs) none) (ha : (st x).length ≤ a) : Fin1 st s x (lowF (st := st) s x) := by
  obtain ⟨h1, h2, h3⟩ := low_spec (s := s) x (st x) (s.low x)
  have hx : s.low x = s.num x := I.gLow (x, a) (List.mem_cons_self ..)
  have wk : ∀ w ∈ st x, w ∈ s.keys := fun w hw => by
    rcases I.gDone (x, a) (List.mem_cons_self ..) w (by
      show w ∈ (st x).take a
      rw [List.take_of_length_le ha]
      exact hw) with h | h
    · exact h
    · cases h
  refine ⟨by rw [← hx]; exact h1, fun w hw hs => ?_, ?_⟩
  · by_cases e : w = x
    · exact .inr e
    · exact .inl (h2 w hw (by rw [I.waitEq w (wk w hw)]; exact decide_eq_true hs) e)
  · rcases h3 with h3 | ⟨w, hw, ww, wx, e⟩
    · exact .inl (h3.trans hx)
    · rw [I.waitEq w (wk w hw)] at ww
      exact .inr ⟨w, hw, of_decide_eq_true ww, wx, e⟩

theorem TarI.top_max (I : TarI st nodes s ((x, a) :: Gs) none) : ∀ g ∈ (x, a) :: Gs, s.num g.1 ≤ s.num x := fun g hg => by
  rcases List.mem_cons.mp hg with e | hg
  · rw [e]; exact Nat.le_refl _
  · exact Nat.le_of_lt ((List.pairwise_cons.mp I.gOrd).1 g hg)
theorem TarI.low_le (I : TarI st nodes s Gs pend) {w : α} (hw : w ∈ s.stk) : s.low w ≤ s.num w := by
  by_cases b : Black Gs w
  · exact Nat.le_of_lt (I.bLow w hw b).1
  · have : ∃ g ∈ Gs, g.1 = w := by
      by_cases h : ∃ g ∈ Gs, g.1 = w
      · exact h
      · exact absurd (fun g hg e => h ⟨g, hg, e⟩) b
    obtain ⟨g, hg, e⟩ := this
    rw [← e, I.gLow g hg]
    exact Nat.le_refl _
/-- those above the top gray have lows from its low on -/
theorem TarI.above (I : TarI st nodes s ((x, a) :: Gs) none) (F : Fin1 st s x R) {u : α} (hu : u ∈ s.stk) (hlt : s.num x < s.num u) :
    Black ((x, a) :: Gs) u ∧ R ≤ s.low u := by
  have b : Black ((x, a) :: Gs) u := fun g hg e => by
    have := I.top_max g hg
    rw [e] at this
    omega
  refine ⟨b, ?_⟩
  obtain ⟨g, hg, h1, h2, c, hc, bc, h3, h4, h5⟩ := I.bNear u hu b
  have q := h2 (x, a) (List.mem_cons_self ..) hlt
  have q2 := I.top_max g hg
  have gx : g.1 = x := I.inj (I.stkSub _ (I.gStk g hg)) (I.stkSub _ (I.gStk (x, a) (List.mem_cons_self ..))) (Nat.le_antisymm q2 q)
  rw [gx] at h3
  rcases F.edge c (List.mem_of_mem_take h3) hc with h | h
  · exact Nat.le_trans h h4
  · exact absurd h.symm (bc (x, a) (List.mem_cons_self ..))

theorem TarI.xkeys (I : TarI st nodes s ((x, a) :: Gs) none) (ha : (st x).length ≤ a) : ∀ y ∈ st x, y ∈ s.keys := fun w hw => by
  rcases I.gDone (x, a) (List.mem_cons_self ..) w (by
    show w ∈ (st x).take a
    rw [List.take_of_length_le ha]
    exact hw) with h | h
  · exact h
  · cases h

/-- the top is done and no root: it stays on the stack -/
theorem TarI.stay (I : TarI st nodes s ((x, a) :: Gs) none) (ha : (st x).length ≤ a) (F : Fin1 st s x R) (hR : R ≠ s.num x) :
    TarI st nodes { s with low := fup s.low x R } Gs none := by
  have xs : x ∈ s.stk := I.gStk (x, a) (List.mem_cons_self ..)
  have xk := I.stkSub x xs
  have hlt : R < s.num x := Nat.lt_of_le_of_ne F.le hR
  have gne : ∀ g ∈ Gs, g.1 ≠ x := fun g hg e => by
    have := (List.pairwise_cons.mp I.gOrd).1 g hg
    rw [e] at this
    exact Nat.lt_irrefl _ this
  have blk : ∀ {u : α}, u ≠ x → Black Gs u → Black ((x, a) :: Gs) u := fun h b g hg => by
    rcases List.mem_cons.mp hg with e | hg
    · rw [e]; exact fun z => h z.symm
    · exact b g hg
  have blk' : ∀ {u : α}, Black ((x, a) :: Gs) u → Black Gs u := fun b g hg => b g (List.mem_cons_of_mem _ hg)
  have bx : Black Gs x := gne
  have lx : fup s.low x R x = R := fup_same _ _ _
  have ln : ∀ {u : α}, u ≠ x → fup s.low x R u = s.low u := fun h => fup_ne _ _ h
  -- a parent
  obtain ⟨w0, hw0, w0s, w0x, eR⟩ : ∃ w ∈ st x, w ∈ s.stk ∧ w ≠ x ∧ R = s.low w := F.or.resolve_left hR
  have low_stk : ∃ w ∈ s.stk, s.num w = R ∧ Reach st x w := by
    by_cases b : Black ((x, a) :: Gs) w0
    · obtain ⟨_, w, hw, e, r⟩ := I.bLow w0 w0s b
      exact ⟨w, hw, by rw [e, eR], .step hw0 r⟩
    · have : ∃ g ∈ (x, a) :: Gs, g.1 = w0 := by
        by_cases h : ∃ g ∈ (x, a) :: Gs, g.1 = w0
        · exact h
        · exact absurd (fun g hg e => h ⟨g, hg, e⟩) b
      obtain ⟨g, hg, e⟩ := this
      refine ⟨w0, w0s, ?_, .one hw0⟩
      rw [eR, ← e, I.gLow g hg]
  obtain ⟨p, r, hG⟩ : ∃ p r, Gs = p :: r := by
    cases hG : Gs with
    | cons p r => exact ⟨p, r, rfl⟩
    | nil =>
      obtain ⟨w, hw, e, _⟩ := low_stk
      have wx : w ≠ x := fun z => by rw [z] at e; omega
      have bw : Black ((x, a) :: Gs) w := blk wx (by rw [hG]; exact fun g hg => by simp at hg)
      obtain ⟨g, hg, h1, _⟩ := I.bNear w hw bw
      have : s.num g.1 = s.num x := by
        rw [hG] at hg
        rw [List.mem_singleton.mp hg]
      omega
  have hpc : ∃ a', p.2 = a' + 1 ∧ (st p.1)[a']? = some x := by
    have := I.chain
    rw [hG] at this
    exact this.1
  have xtake : x ∈ (st p.1).take p.2 := by
    obtain ⟨a', e1, e2⟩ := hpc
    rw [e1, List.take_add_one, e2]
    simp
  have pm : p ∈ Gs := by rw [hG]; exact List.mem_cons_self ..
  have pmax : ∀ g' ∈ Gs, s.num g'.1 ≤ s.num p.1 := fun g' hg' => by
    have h := (List.pairwise_cons.mp I.gOrd).2
    rw [hG] at h hg'
    rcases List.mem_cons.mp hg' with e | hg'
    · rw [e]; exact Nat.le_refl _
    · exact Nat.le_of_lt ((List.pairwise_cons.mp h).1 g' hg')
  have plt : s.num p.1 < s.num x := (List.pairwise_cons.mp I.gOrd).1 p pm
  refine { I with gStk := fun g hg => I.gStk g (List.mem_cons_of_mem _ hg), gOrd := (List.pairwise_cons.mp I.gOrd).2, gAt := fun g hg => I.gAt g (List.mem_cons_of_mem _ hg), gLow := fun g hg => ?_, gDone := fun g hg => I.gDone g (List.mem_cons_of_mem _ hg), chain := ?_, pendOk := fun y e => (by cases e), bDone := fun u hu b y hy => ?_, gReach := fun g hg => I.gReach g (List.mem_cons_of_mem _ hg), bLow := fun u hu b => ?_, bEdge := fun u hu b y hy hys => ?_, bNear := fun u hu b => ?_ }
  · show fup s.low x R g.1 = s.num g.1
    rw [ln (gne g hg)]
    exact I.gLow g (List.mem_cons_of_mem _ hg)
  · have := I.chain
    rw [hG] at this ⊢
    exact this.2
  · by_cases e : u = x
    · subst e
      exact I.xkeys ha y hy
    · exact I.bDone u hu (blk e b) y hy
  · show fup s.low x R u < s.num u ∧ ∃ w ∈ s.stk, s.num w = fup s.low x R u ∧ Reach st u w
    by_cases e : u = x
    · subst e
      rw [lx]
      exact ⟨hlt, low_stk⟩
    · rw [ln e]
      exact I.bLow u hu (blk e b)
  · show fup s.low x R u ≤ s.num y
    by_cases e : u = x
    · subst e
      rw [lx]
      rcases F.edge y hy hys with h | h
      · exact Nat.le_trans h (I.low_le hys)
      · rw [h]; exact F.le
    · rw [ln e]
      exact I.bEdge u hu (blk e b) y hy hys
  · show ∃ g ∈ Gs, s.num g.1 < s.num u ∧ (∀ g' ∈ Gs, s.num g'.1 < s.num u → s.num g'.1 ≤ s.num g.1) ∧ ∃ c ∈ s.stk, Black Gs c ∧ c ∈ (st g.1).take g.2 ∧ fup s.low x R c ≤ fup s.low x R u ∧ s.num c ≤ s.num u
    by_cases e : u = x
    · subst e
      exact ⟨p, pm, plt, fun g' hg' _ => pmax g' hg', u, xs, bx, xtake, Nat.le_refl _, Nat.le_refl _⟩
    · rcases Nat.lt_trichotomy (s.num u) (s.num x) with q | q | q
      · obtain ⟨g, hg, h1, h2, c, hc, bc, h3, h4, h5⟩ := I.bNear u hu (blk e b)
        rcases List.mem_cons.mp hg with eg | hg
        · rw [eg] at h1
          have h1 : s.num x < s.num u := h1
          omega
        · have cx : c ≠ x := fun z => bc (x, a) (List.mem_cons_self ..) z.symm
          exact ⟨g, hg, h1, fun g' hg' => h2 g' (List.mem_cons_of_mem _ hg'), c, hc, blk' bc, h3, by rw [ln cx, ln e]; exact h4, h5⟩
      · exact absurd (I.inj (I.stkSub u hu) xk q) e
      · obtain ⟨_, h⟩ := I.above F hu q
        exact ⟨p, pm, by omega, fun g' hg' _ => pmax g' hg', x, xs, bx, xtake, by rw [lx, ln e]; exact h, Nat.le_of_lt q⟩

def TarS.pop (s : TarS α) (part rest p : List α) : TarS α :=
  { s with stk := rest, wait := fun y => if y ∈ part then false else s.wait y, fnd := s.fnd ++ [p] }

/-- the top is done and a root: what stands above it goes, as a part -/
theorem TarI.pop {ab rest p : List α} (I : TarI st nodes s ((x, a) :: Gs) none) (ha : (st x).length ≤ a) (F : Fin1 st s x R) (hR : R = s.num x) (hs : s.stk = ab ++ x :: rest) (hp : p.Perm (ab ++ [x])) :
    TarI st nodes (({ s with low := fup s.low x R } : TarS α).pop (ab ++ [x]) rest p) Gs none := by
  have xs : x ∈ s.stk := I.gStk (x, a) (List.mem_cons_self ..)
  have xk := I.stkSub x xs
  have low_eq : fup s.low x R = s.low := by
    funext u
    by_cases e : u = x
    · subst e
      rw [fup_same, hR]
      exact (I.gLow (u, a) (List.mem_cons_self ..)).symm
    · rw [fup_ne _ _ e]
  rw [low_eq]
  have ord := I.stkOrd
  rw [hs] at ord
  obtain ⟨oab, oxr, oc⟩ := List.pairwise_append.mp ord
  obtain ⟨ox, orest⟩ := List.pairwise_cons.mp oxr
  have restS : ∀ u ∈ rest, u ∈ s.stk := fun u hu => by rw [hs]; exact List.mem_append_right _ (List.mem_cons_of_mem _ hu)
  have abS : ∀ u ∈ ab, u ∈ s.stk := fun u hu => by rw [hs]; exact List.mem_append_left _ hu
  have inC : ∀ u, u ∈ ab ++ [x] ↔ u ∈ s.stk ∧ s.num x ≤ s.num u := fun u => by
    constructor
    · intro h
      rcases List.mem_append.mp h with h | h
      · exact ⟨abS u h, Nat.le_of_lt (oc u h x (List.mem_cons_self ..))⟩
      · rw [List.mem_singleton.mp h]; exact ⟨xs, Nat.le_refl _⟩
    · rintro ⟨h, hle⟩
      rw [hs] at h
      rcases List.mem_append.mp h with h | h
      · exact List.mem_append_left _ h
      · rcases List.mem_cons.mp h with e | h
        · rw [e]; simp
        · have := ox u h
          omega
  have inR : ∀ u, u ∈ rest ↔ u ∈ s.stk ∧ s.num u < s.num x := fun u => by
    constructor
    · intro h
      exact ⟨restS u h, ox u h⟩
    · rintro ⟨h, hlt⟩
      rw [hs] at h
      rcases List.mem_append.mp h with h | h
      · have := oc u h x (List.mem_cons_self ..)
        omega
      · rcases List.mem_cons.mp h with e | h
        · rw [e] at hlt; omega
        · exact h
  have inP : ∀ u, u ∈ p ↔ u ∈ s.stk ∧ s.num x ≤ s.num u := fun u => hp.mem_iff.trans (inC u)
  have gne : ∀ g ∈ Gs, g.1 ≠ x := fun g hg e => by
    have := (List.pairwise_cons.mp I.gOrd).1 g hg
    rw [e] at this
    exact Nat.lt_irrefl _ this
  have glt : ∀ g ∈ Gs, s.num g.1 < s.num x := fun g hg => (List.pairwise_cons.mp I.gOrd).1 g hg
  have blk : ∀ {u : α}, u ∈ rest → Black Gs u → Black ((x, a) :: Gs) u := fun h b g hg => by
    rcases List.mem_cons.mp hg with e | hg
    · rw [e]
      intro z
      have := ((inR _).mp h).2
      rw [← z] at this
      exact Nat.lt_irrefl _ this
    · exact b g hg
  -- x reaches each of the part
  have fwd : ∀ u, u ∈ p → Reach st x u := fun u hu => by
    obtain ⟨h1, h2⟩ := (inP u).mp hu
    exact I.gReach (x, a) (List.mem_cons_self ..) u h1 h2
  -- each of the part reaches x
  have bwd : ∀ n u, s.num u ≤ n → u ∈ p → Reach st u x := by
    intro n
    induction n with
    | zero =>
      intro u hn hu
      obtain ⟨h1, h2⟩ := (inP u).mp hu
      have : u = x := I.inj (I.stkSub u h1) xk (by omega)
      rw [this]; exact .refl _
    | succ n ih =>
      intro u hn hu
      obtain ⟨h1, h2⟩ := (inP u).mp hu
      by_cases e : u = x
      · rw [e]; exact .refl _
      · have hlt : s.num x < s.num u := Nat.lt_of_le_of_ne h2 fun z => e (I.inj (I.stkSub u h1) xk z.symm)
        obtain ⟨b, hl⟩ := I.above F h1 hlt
        obtain ⟨k1, w, hw, k2, k3⟩ := I.bLow u h1 b
        exact k3.trans (ih w (by omega) ((inP w).mpr ⟨hw, by omega⟩))
  -- no step leads from the part to what is left on the stack
  have closed : ∀ u, u ∈ p → ∀ y ∈ st u, y ∈ p ∨ ∃ q ∈ s.fnd, y ∈ q := fun u hu y hy => by
    obtain ⟨h1, h2⟩ := (inP u).mp hu
    by_cases e : u = x
    · subst e
      have yk := I.xkeys ha y hy
      rcases I.part y yk with h | h
      · refine .inl ((inP y).mpr ⟨h, ?_⟩)
        rcases F.edge y hy h with k | k
        · have := I.low_le h
          omega
        · rw [k]; exact Nat.le_refl _
      · exact .inr h
    · have hlt : s.num x < s.num u := Nat.lt_of_le_of_ne h2 fun z => e (I.inj (I.stkSub u h1) xk z.symm)
      obtain ⟨b, hl⟩ := I.above F h1 hlt
      have yk := I.bDone u h1 b y hy
      rcases I.part y yk with h | h
      · refine .inl ((inP y).mpr ⟨h, ?_⟩)
        have := I.bEdge u h1 b y hy h
        omega
      · exact .inr h
  have pNd : p.Nodup := by
    refine hp.nodup_iff.mpr ?_
    have h : (ab ++ [x]).Pairwise (fun x y => s.num y < s.num x) := by
      refine List.pairwise_append.mpr ⟨oab, by simp, fun u hu v hv => ?_⟩
      rw [List.mem_singleton.mp hv]
      exact oc u hu x (List.mem_cons_self ..)
    exact h.imp fun h e => by rw [e] at h; exact Nat.lt_irrefl _ h
  constructor
  · exact I.keysNd
  · exact I.keysSub
  · exact I.numAt
  · exact fun u hu => I.stkSub u (restS u hu)
  · exact orest
  · intro y hy
    show y ∈ rest ∨ ∃ q ∈ s.fnd ++ [p], y ∈ q
    rcases I.part y hy with h | ⟨q, hq, h⟩
    · by_cases hlt : s.num y < s.num x
      · exact .inl ((inR y).mpr ⟨h, hlt⟩)
      · exact .inr ⟨p, by simp, (inP y).mpr ⟨h, by omega⟩⟩
    · exact .inr ⟨q, List.mem_append_left _ hq, h⟩
  · intro q hq y hy
    show y ∈ s.keys ∧ y ∉ rest
    rcases List.mem_append.mp hq with hq | hq
    · obtain ⟨h1, h2⟩ := I.fndKeys q hq y hy
      exact ⟨h1, fun h => h2 (restS y h)⟩
    · rw [List.mem_singleton.mp hq] at hy
      obtain ⟨h1, h2⟩ := (inP y).mp hy
      refine ⟨I.stkSub y h1, fun h => ?_⟩
      have := ((inR y).mp h).2
      omega
  · show (s.fnd ++ [p]).flatten.Nodup
    rw [List.flatten_append]
    refine List.nodup_append.mpr ⟨I.fndNd, by simpa using pNd, fun u hu v hv e => ?_⟩
    subst e
    obtain ⟨q, hq, huq⟩ := List.mem_flatten.mp hu
    have hv : u ∈ p := by simpa using hv
    exact (I.fndKeys q hq u huq).2 ((inP u).mp hv).1
  · intro q hq
    rcases List.mem_append.mp hq with hq | hq
    · exact I.fndNe q hq
    · rw [List.mem_singleton.mp hq]
      intro z
      have : x ∈ p := (inP x).mpr ⟨xs, Nat.le_refl _⟩
      rw [z] at this
      simp at this
  · intro q hq u hu v hv
    rcases List.mem_append.mp hq with hq | hq
    · exact I.fndScc q hq u hu v hv
    · rw [List.mem_singleton.mp hq] at hu hv
      exact (bwd _ u (Nat.le_refl _) hu).trans (fwd v hv)
  · intro i q e u hu y hy
    have e : (s.fnd ++ [p])[i]? = some q := e
    show ∃ j q, j ≤ i ∧ (s.fnd ++ [p])[j]? = some q ∧ y ∈ q
    by_cases hi : i < s.fnd.length
    · rw [List.getElem?_append_left hi] at e
      obtain ⟨j, q', hj, ej, hy'⟩ := I.fndClosed i q e u hu y hy
      exact ⟨j, q', hj, by rw [List.getElem?_append_left (by omega)]; exact ej, hy'⟩
    · rw [List.getElem?_append_right (by omega)] at e
      have hi' : i = s.fnd.length := by
        have := (List.getElem?_eq_some_iff.mp e).1
        simp at this
        omega
      rw [hi'] at e ⊢
      simp at e
      subst e
      rcases closed u hu y hy with h | ⟨q, hq, h⟩
      · exact ⟨s.fnd.length, p, Nat.le_refl _, by simp, h⟩
      · obtain ⟨j, hj, ej⟩ := List.mem_iff_getElem.mp hq
        exact ⟨j, q, Nat.le_of_lt hj, by rw [List.getElem?_append_left hj]; exact List.getElem?_eq_some_iff.mpr ⟨hj, ej⟩, h⟩
  · intro y hy
    show (if y ∈ ab ++ [x] then false else s.wait y) = decide (y ∈ rest)
    by_cases h : y ∈ ab ++ [x]
    · rw [if_pos h]
      have := ((inC y).mp h).2
      exact (decide_eq_false fun z => by have := ((inR y).mp z).2; omega).symm
    · rw [if_neg h, I.waitEq y hy]
      by_cases k : y ∈ s.stk
      · have : y ∈ rest := (inR y).mpr ⟨k, by
          by_cases q : s.num y < s.num x
          · exact q
          · exact absurd ((inC y).mpr ⟨k, by omega⟩) h⟩
        rw [decide_eq_true k, decide_eq_true this]
      · rw [decide_eq_false k, decide_eq_false fun z => k (restS y z)]
  · exact fun g hg => (inR g.1).mpr ⟨I.gStk g (List.mem_cons_of_mem _ hg), glt g hg⟩
  · exact (List.pairwise_cons.mp I.gOrd).2
  · exact fun g hg => I.gAt g (List.mem_cons_of_mem _ hg)
  · exact fun g hg => I.gLow g (List.mem_cons_of_mem _ hg)
  · exact fun g hg => I.gDone g (List.mem_cons_of_mem _ hg)
  · have := I.chain
    cases Gs with
    | nil => trivial
    | cons g r => exact this.2
  · intro y e; cases e
  · exact fun u hu b => I.bDone u (restS u hu) (blk hu b)
  · exact fun g hg u hu => I.gReach g (List.mem_cons_of_mem _ hg) u (restS u hu)
  · intro u hu b
    obtain ⟨h1, w, hw, h2, h3⟩ := I.bLow u (restS u hu) (blk hu b)
    have := ((inR u).mp hu).2
    have h1 : s.low u < s.num u := h1
    have h2 : s.num w = s.low u := h2
    exact ⟨h1, w, (inR w).mpr ⟨hw, by omega⟩, h2, h3⟩
  · exact fun u hu b y hy hys => I.bEdge u (restS u hu) (blk hu b) y hy (restS y hys)
  · intro u hu b
    obtain ⟨g, hg, h1, h2, c, hc, bc, h3, h4, h5⟩ := I.bNear u (restS u hu) (blk hu b)
    have hux := ((inR u).mp hu).2
    have h1 : s.num g.1 < s.num u := h1
    have h5 : s.num c ≤ s.num u := h5
    rcases List.mem_cons.mp hg with e | hg
    · rw [e] at h1
      have h1 : s.num x < s.num u := h1
      omega
    · exact ⟨g, hg, h1, fun g' hg' => h2 g' (List.mem_cons_of_mem _ hg'), c, (inR c).mpr ⟨hc, by omega⟩, fun g' hg' => bc g' (List.mem_cons_of_mem _ hg'), h3, h4, h5⟩
end

/-! ### what the search ends in -/
structure Parts (st : α → List α) (nodes : List α) (fnd : List (List α)) : Prop where
  all : ∀ x, x ∈ nodes ↔ ∃ p ∈ fnd, x ∈ p
  nd : fnd.flatten.Nodup
  ne : ∀ p ∈ fnd, p ≠ []
  scc : ∀ p ∈ fnd, ∀ a ∈ p, ∀ b ∈ p, Reach st a b
  down : ∀ (i : Nat) (p : List α), fnd[i]? = some p → ∀ x ∈ p, ∀ y ∈ st x, ∃ (j : Nat) (q : List α), j ≤ i ∧ fnd[j]? = some q ∧ y ∈ q
theorem TarI.parts (I : TarI st nodes s [] none) (h : ∀ x ∈ nodes, x ∈ s.keys) : Parts st nodes s.fnd := by
  have e := I.stk_nil
  refine ⟨fun x => ⟨fun hx => ?_, fun ⟨p, hp, hx⟩ => ?_⟩, I.fndNd, I.fndNe, I.fndScc, I.fndClosed⟩
  · rcases I.part x (h x hx) with k | k
    · rw [e] at k; simp at k
    · exact k
  · exact I.keysSub x (I.fndKeys p hp x hx).1
end Tarjan
end Bk
end
section
/-! Nodes of a web: a state i is (i, i), a pair of states is (i, j); dicts whose keys are nodes. -/
namespace Bk
open PySem L2 LamX
inductive Kd where
  | st | pr
  deriving DecidableEq
abbrev Nd := Nat × Nat
def Okn (κ : Kd) (n : Nd) : Prop := κ = .st → n.2 = n.1
/-- the value v is the node n -/
def NV (κ : Kd) (H : Hp) (v : V) (n : Nd) : Prop := match κ with
  | .st => v = .int (n.1 : Int) ∧ n.2 = n.1
  | .pr => ∃ b, v = .ref b ∧ H b = some (.tup [.int (n.1 : Int), .int (n.2 : Int)])
theorem NV.ok {κ : Kd} {H : Hp} {v : V} {n : Nd} (h : NV κ H v n) : Okn κ n := fun e => by
  subst e
  exact h.2
theorem NV.gr {T : List (Addr × Str)} {κ : Kd} {H H' : Hp} {v : V} {n : Nd} (h : NV κ H v n) (g : Gr T H H') : NV κ H' v n := by
  cases κ with
  | st => exact h
  | pr =>
    obtain ⟨b, e, hb⟩ := h
    exact ⟨b, e, g.tup hb⟩
def kSt (n : Nd) : Key := .inl (n.1 : Int)
def kPr (n : Nd) : List Key := [.inl (n.1 : Int), .inl (n.2 : Int)]
/-- the dict with the keys of ks, in order, and the values of f -/
def FD (κ : Kd) (ks : List Nd) (f : Nd → V) : HO := match κ with
  | .st => .dK (ks.map fun n => (kSt n, f n))
  | .pr => .dT (ks.map fun n => (kPr n, f n))
theorem pl_FD {κ : Kd} {ks : List Nd} {f : Nd → V} : Plain (FD κ ks f) := by
  cases κ
  · exact pl_dK
  · exact pl_dT
theorem FD.congr {κ : Kd} {ks : List Nd} {f g : Nd → V} (h : ∀ n ∈ ks, f n = g n) : FD κ ks f = FD κ ks g := by
  cases κ
  · exact congrArg HO.dK (List.map_congr_left fun n hn => by rw [h n hn])
  · exact congrArg HO.dT (List.map_congr_left fun n hn => by rw [h n hn])
theorem kSt_inj {m n : Nd} (hm : m.2 = m.1) (hn : n.2 = n.1) (e : kSt m = kSt n) : m = n := by
  unfold kSt at e
  injection e with e
  have : m.1 = n.1 := Int.ofNat.inj e
  obtain ⟨a, b⟩ := m
  obtain ⟨c, d⟩ := n
  simp_all
theorem kPr_inj {m n : Nd} (e : kPr m = kPr n) : m = n := by
  unfold kPr at e
  injection e with e1 e2
  injection e2 with e2 _
  injection e1 with e1
  injection e2 with e2
  have h1 : m.1 = n.1 := Int.ofNat.inj e1
  have h2 : m.2 = n.2 := Int.ofNat.inj e2
  obtain ⟨a, b⟩ := m
  obtain ⟨c, d⟩ := n
  simp_all
section
variable {κ' : Type} [DecidableEq κ'] {k : Nd → κ'} {f : Nd → V} {n : Nd}
theorem valV_keys : ∀ {ks : List Nd}, (∀ m ∈ ks, k m = k n → m = n) → valV (ks.map fun m => (k m, f m)) (k n) = if n ∈ ks then some (f n) else none
  | [], _ => by simp [valV_nil]
  | m :: r, h => by
    rw [List.map_cons]
    by_cases e : m = n
    · subst e
      rw [valV_pos rfl, if_pos (List.mem_cons_self ..)]
    · rw [valV_neg (fun z => e (h m (List.mem_cons_self ..) z)), valV_keys fun m hm => h m (List.mem_cons_of_mem _ hm)]
      have : (n ∈ m :: r) ↔ n ∈ r := by
        simp only [List.mem_cons]
        exact ⟨fun z => z.resolve_left fun q => e q.symm, .inr⟩
      simp only [this]
theorem putK_keys {ks : List Nd} {x : V} (h : ∀ m ∈ ks, k m = k n → m = n) : putK (ks.map fun m => (k m, f m)) (k n) x = (if n ∈ ks then ks else ks ++ [n]).map fun m => (k m, fup f n x m) := by
  have hv := valV_keys (k := k) (f := f) h
  by_cases e : n ∈ ks
  · rw [if_pos e] at hv ⊢
    unfold putK
    rw [valV_any, hv]
    rw [if_pos (by rfl), List.map_map]
    refine List.map_congr_left fun m hm => ?_
    show (if k m = k n then (k m, x) else (k m, f m)) = (k m, fup f n x m)
    by_cases q : m = n
    · subst q
      rw [if_pos rfl, fup_same]
    · rw [if_neg fun z => q (h m hm z), fup_ne _ _ q]
  · rw [if_neg e] at hv ⊢
    rw [putK_new _ hv, List.map_append]
    refine congr (congrArg _ ?_) ?_
    · refine List.map_congr_left fun m hm => ?_
      rw [fup_ne _ _ fun (z : m = n) => e (z ▸ hm)]
    · simp [fup_same]
end
section
variable {κ : Kd} {H : Hp} {d : Addr} {ks : List Nd} {f : Nd → V} {v x : V} {n : Nd}
theorem fd_get (hd : Rd H d (FD κ ks f)) (hk : ∀ m ∈ ks, Okn κ m) (hv : NV κ H v n) : DGet H d v (if n ∈ ks then some (f n) else none) := by
  cases κ with
  | st =>
    obtain ⟨e, hn⟩ := hv
    exact .inl ⟨_, kSt n, hd, e, (valV_keys fun m hm z => kSt_inj (hk m hm rfl) hn z).symm⟩
  | pr =>
    obtain ⟨b, e, hb⟩ := hv
    exact .inr ⟨_, kPr n, b, hd, e, hb, (valV_keys fun m hm z => kPr_inj z).symm⟩
theorem fd_has (hd : Rd H d (FD κ ks f)) (hk : ∀ m ∈ ks, Okn κ m) (hv : NV κ H v n) (hn : n ∈ ks) : DGet H d v (some (f n)) := by
  have := fd_get hd hk hv
  rw [if_pos hn] at this
  exact this
theorem fd_put (hd : H d = some (FD κ ks f)) (hk : ∀ m ∈ ks, Okn κ m) (hv : NV κ H v n) (hl : ks.length < sizeLine) : DPut H d v x (upd H d (FD κ (if n ∈ ks then ks else ks ++ [n]) (fup f n x))) := by
  cases κ with
  | st =>
    obtain ⟨e, hn⟩ := hv
    refine .inl ⟨_, kSt n, hd, e, by rw [List.length_map]; exact hl, ?_⟩
    rw [putK_keys fun m hm z => kSt_inj (hk m hm rfl) hn z]
    rfl
  | pr =>
    obtain ⟨b, e, hb⟩ := hv
    refine .inr ⟨_, kPr n, b, hd, e, hb, by rw [List.length_map]; exact hl, ?_⟩
    rw [putK_keys fun m hm z => kPr_inj z]
    rfl
theorem fd_isD (hd : Rd H d (FD κ ks f)) : IsD H d := by
  cases κ with
  | st => exact .inl ⟨_, hd⟩
  | pr => exact .inr ⟨_, hd⟩
end
/-- {} whose keys will be nodes -/
def tDNewN (κ : Kd) : TE := fun _ H Q => ∀ p, H p = none → Q (.ref p) (upd H p (FD κ [] fun _ => .non))
theorem pe_dnewN {X : Cx} {pos : Pos} (κ : Kd) : PE X (.Dict [] [] pos) (tDNewN κ) := by
  cases κ
  · exact pe_dnewK
  · exact pe_dnewT
/-! ### nodes as data -/
def ndD (κ : Kd) (n : Nd) : PyData := match κ with
  | .st => .int (n.1 : Int)
  | .pr => .tuple [.int (n.1 : Int), .int (n.2 : Int)]
theorem NV.dp {K : PySem.W.Frag} {κ : Kd} {H : Hp} {v : V} {n : Nd} (h : NV κ H v n) : Dp K H v (ndD κ n) := by
  cases κ with
  | st =>
    obtain ⟨e, _⟩ := h
    subst e
    exact .int _
  | pr =>
    obtain ⟨b, e, hb⟩ := h
    subst e
    exact .tup (SqT.of hb) (.cons (.int _) (.cons (.int _) .nil))
theorem ndD_shaped (κ : Kd) (n : Nd) : SeqAt.shaped (ndD κ n) = true := by
  cases κ <;> rfl
theorem ndD_eqv {κ : Kd} {m n : Nd} (hm : Okn κ m) (hn : Okn κ n) : PyData.eqv (ndD κ m) (ndD κ n) = decide (m = n) := by
  obtain ⟨a, b⟩ := m
  obtain ⟨c, d⟩ := n
  cases κ with
  | st =>
    have h1 : b = a := hm rfl
    have h2 : d = c := hn rfl
    subst h1 h2
    show ((b : Int) == (d : Int)) = decide ((b, b) = (d, d))
    by_cases e : b = d
    · subst e; simp
    · have : ¬ (b : Int) = (d : Int) := fun z => e (Int.ofNat.inj z)
      simp [e, this]
  | pr =>
    show (((a : Int) == (c : Int)) && (((b : Int) == (d : Int)) && true)) = decide ((a, b) = (c, d))
    by_cases e : a = c
    · by_cases e2 : b = d
      · subst e e2; simp
      · have : ¬ (b : Int) = (d : Int) := fun z => e2 (Int.ofNat.inj z)
        simp [e2, this]
    · have : ¬ (a : Int) = (c : Int) := fun z => e (Int.ofNat.inj z)
      simp [e, this]
end Bk
end
section
/-! Rules that the layer lacks: in over tuples of data, extend by a tuple, repr of data, stores by place with an operator, range objects, methods called by keywords alone, None among tuple keys. -/
namespace Bk
open PySem L2 LamX PySem.Spec PyProof.Rows
section
variable {X : Cx}
/-! ### x in a list or a tuple of data -/
def rInX (K : PySem.W.Frag) (neg : Bool) : R2 := fun x y H Q => ∃ d ds, Dp K H x d ∧ (Dp K H y (.list ds) ∨ Dp K H y (.tuple ds)) ∧ SeqAt.shaped d = true ∧ PyData.canLayAll0 ds = true ∧ Q (.bl (if neg = true then !(ds.any fun z => PyData.eqv z d) else ds.any fun z => PyData.eqv z d)) H
theorem op_inX (hu : X.A.units + 65 < cLine) : OpR X (compareOp .In) (rInX X.K false) := by
  intro pins s σ H x y v u Q I rx ry ⟨d, ds, hd, he, sd, se, q⟩
  obtain ⟨as, r1⟩ := Dp.reads I d x v hd rx
  rcases he with he | he
  · obtain ⟨bs, r2⟩ := Dp.reads I (.list ds) y u he ry
    exact SeqAt.in_list_reads r2 r1 se (SeqAt.canLay_of_shaped sd) (room_in_shaped sd hu) ⟨.bl _, H, I, rfl, q⟩
  · obtain ⟨bs, r2⟩ := Dp.reads I (.tuple ds) y u he ry
    exact SeqAt.in_tuple_reads r2 r1 se (SeqAt.canLay_of_shaped sd) (room_in_shaped sd hu) ⟨.bl _, H, I, rfl, q⟩
theorem op_notInX (hu : X.A.units + 65 < cLine) : OpR X (compareOp .NotIn) (rInX X.K true) := by
  intro pins s σ H x y v u Q I rx ry ⟨d, ds, hd, he, sd, se, q⟩
  obtain ⟨as, r1⟩ := Dp.reads I d x v hd rx
  rcases he with he | he
  · obtain ⟨bs, r2⟩ := Dp.reads I (.list ds) y u he ry
    exact SeqAt.notIn_list_reads r2 r1 se (SeqAt.canLay_of_shaped sd) (room_in_shaped sd hu) ⟨.bl _, H, I, rfl, q⟩
  · obtain ⟨bs, r2⟩ := Dp.reads I (.tuple ds) y u he ry
    exact SeqAt.notIn_tuple_reads r2 r1 se (SeqAt.canLay_of_shaped sd) (room_in_shaped sd hu) ⟨.bl _, H, I, rfl, q⟩
/-! ### list.extend by a tuple -/
def rExtT (K : PySem.W.Frag) : V → List V → Hp → VK → Prop := fun x vs H Q => ∃ l b xs zs, x = .ref l ∧ vs = [.ref b] ∧ H l = some (.lst xs) ∧ H b = some (.tup zs) ∧ xs.length + zs.length ≤ sizeLine ∧ Q .non (upd H l (.lst (xs ++ zs)))
theorem ext_tup (l : Addr) (items : Array Value) (n : Nat) (b : Addr) (items2 : Array Value) (n2 : Nat) (od : Option Addr) (sl : Array (Option Value)) (hs0 : ¬(!items.isEmpty && Builtin.List.listTooLong (items.size + items2.size)) = true) (hs1 : items.size ≤ sizeLine) (hs2 : items.size + items2.size ≤ sizeLine + 1) :
    Meets (Builtin.«list.extend» ⟨[.ref l, .ref b], []⟩) (fun _ R s => s.heap.get? l = some { cls := .type "list", data := .seq items n } ∧ s.heap.get? b = some ⟨.type "tuple", od, .seq items2 n2, sl⟩ ∧
      R (.ok (.ret Value.none)) { s with heap := s.heap.update l (Obj.mapSeq fun x => x ++ items2) }) := .of_wp fun prog w A R s h => by
  obtain ⟨hp, g, d, tk, os⟩ := s
  obtain ⟨hl, hb, k⟩ := h
  have f1 := AutoSeq1.idx_int
  have f2 := AutoSeq1.sub_tuple_tuple
  have f3 := AutoSeq1.sub_list_list
  have f4 := AutoSeq1.sub_tuple_list
  have f5 := AutoSeq1.sub_list_tuple
  have hz' : (items ++ items2).size ≤ sizeLine + 1 := by rw [Array.size_append]; exact hs2
  wp_walk using (wpAny_updateSeq hl rfl (hz := hs1) (_hz' := hz')), AutoSeq1.wpAny_loadPart' hl, AutoSeq1.wpAny_loadPart' hb
  exact ⟨_, rfl, k⟩
theorem mt_extT : MtM X "list.extend" (rExtT X.K) := by
  intro pins s σ H x vs v us Q I rx rv ⟨l, b, xs, zs, ex, ev, hH, hB, hz, q⟩
  subst ex ev
  cases rx
  obtain ⟨u, rfl, ru⟩ := rv.one
  cases ru
  obtain ⟨z, its, n, r, hl, e⟩ := I.lstM hH
  obtain ⟨its2, r2, ⟨o, eo, oc, n2, od⟩, _⟩ := I.tuple (SqT.of (K := X.K) hB)
  obtain ⟨oc', od', odt, osl⟩ := o
  simp only at oc od
  subst oc od
  have l2 := r2.length
  have hsz : its.toArray.size + its2.toArray.size ≤ sizeLine := by rw [List.size_toArray, List.size_toArray]; omega
  have hlong : ¬ (!its.toArray.isEmpty && Builtin.List.listTooLong (its.toArray.size + its2.toArray.size)) = true := by
    rw [notLongL hsz, Bool.and_false]
    exact Bool.false_ne_true
  refine call_meets F.slot_list_extend ⟨_, e, rfl⟩ F.entry_list_extend (F.args_list_extend_2 _ _) (ext_tup l its.toArray n b its2.toArray n2 od' osl hlong (by rw [List.size_toArray]; omega) (by omega)) ⟨e, eo, ?_⟩
  refine ⟨.non, _, I.lset (its' := its ++ its2) hH e (by simp) (r.append r2) ?_, rfl, q⟩
  rw [List.length_append]
  omega
/-! ### repr of data, where no repr is under way -/
def rRepr (K : PySem.W.Frag) : List V → Hp → VK → Prop := fun xs H Q => ∃ x d, xs = [x] ∧ Dp K H x d ∧ d.showable = true ∧ d.hasDict = false ∧ d.depth ≤ 60 ∧ d.shown.length ≤ sizeLine ∧ Q (.str d.shown) H
theorem cr_repr (hg : X.A.guards = some []) (hu : X.A.units + 64 < cLine) : CallR X (.builtin "repr") (rRepr X.K) := by
  intro pins s σ H xs us Q I r ⟨x, d, ex, hd, sh, nd, dp, sz, q⟩
  subst ex
  obtain ⟨u, rfl, ru⟩ := vals1 r
  obtain ⟨as, rd⟩ := Dp.reads I d x u hd ru
  cases hd with
  | non => cases ru; exact PySem.P.repr_of_none ⟨.str _, H, I.tok _, ⟨_, rfl⟩, q⟩
  | bl b => cases ru; exact PySem.P.repr_of_bool ⟨.str _, H, I.tok _, ⟨_, rfl⟩, q⟩
  | int i => obtain ⟨t, rfl⟩ := ru; exact PySem.P.repr_of_int (by simpa [PyData.showable] using sh) ⟨.str _, H, I.tok _, ⟨_, rfl⟩, q⟩
  | str z => obtain ⟨t, rfl⟩ := ru; exact PySem.P.repr_of_str ⟨.str _, H, I.tok _, ⟨_, rfl⟩, q⟩ sz
  | lst h1 h2 => cases ru; exact repr_of_reads' rd sh (fun z => by rw [nd] at z; cases z) hg (by omega) (fun _ _ h => h) (fun h' u tk k => ⟨.str _, H, I.kept (t' := tk) k, ⟨_, rfl⟩, q⟩) sz
  | tup h1 h2 => cases ru; exact repr_of_reads' rd sh (fun z => by rw [nd] at z; cases z) hg (by omega) (fun _ _ h => h) (fun h' u tk k => ⟨.str _, H, I.kept (t' := tk) k, ⟨_, rfl⟩, q⟩) sz
end
end Bk
end
section
namespace Bk
open PySem L2 LamX PySem.Spec PyProof.Rows
/-! ### None looked up among keys that are pairs of small numbers -/
def noneHash : Int := reduceHash 0xFCA86420
def smN (n : Nd) : Prop := n.1 < 5 ∧ n.2 < 5
theorem small_hash : ∀ a : Fin 5, ∀ b : Fin 5, reduceHash (Builtin.Tuple.tupleHashOf [hashInt (a.1 : Int), hashInt (b.1 : Int)]) ≠ noneHash := by decide +kernel
theorem kPr_hash (P : Program) (w : World) {n : Nd} (h : smN n) : (tupleKind (mixKind P w)).hash (kPr n) ≠ noneHash := by
  have := small_hash ⟨n.1, h.1⟩ ⟨n.2, h.2⟩
  exact this
section
variable {prog : Program} {w : World} {A : Around} {E : Value → Shared → Prop} {s : Shared}
theorem find_no {d : Addr} {o : Obj} {es : Array DictEntry} {ep : Nat} {h : Int} {Q : Option Nat → Shared → Prop} (ho : s.heap.get? d = some o) (hd : o.data = .dict es ep) (hn : ∀ e ∈ es, e.hash ≠ h) (hQ : Q none s) :
    wpAny (model prog w) A (dictFind d .none h) Q E s := by
  have hp : placesWithHash es.size (fun i => es[i]?.map (·.hash)) h = [] := by
    rw [placesWithHash]
    refine List.filter_eq_nil_iff.mpr fun i hi q => ?_
    cases e : es[i]? with
    | none => rw [e] at q; simp at q
    | some x =>
      rw [e] at q
      exact hn x (Array.mem_of_getElem? e) (by simpa using q)
  unfold dictFind
  try with_reducible refine wpAny_holding ?_
  refine wpAny_bind (wpAny_dictEntries ho hd ?_)
  dsimp only
  rw [hp]
  rw [if_pos (by rfl)]
  exact wpAny_pure hQ
theorem none_in {d : Addr} {xs : List (List Key × Addr × Value)} {Q : Value → Shared → Prop} (hd : (d == sysModules) = false) (hm : s.heap.DictOfH (tupleKind (mixKind prog w)) d xs)
    (hn : ∀ x ∈ xs, (tupleKind (mixKind prog w)).hash x.1 ≠ noneHash) (h : ∀ t, Q (.bool false) { s with toks := t }) : wpAny (model prog w) A (compareOp .In .none (.ref d)) Q E s := by
  show wpAny _ _ (do return .bool (← contains (.ref d) .none)) Q E s
  refine wpAny_bind ?_
  unfold contains
  try with_reducible refine wpAny_holding ?_
  refine wpAny_bind (wpAny_specialOf hm.typeIs slot_dict_contains.lookup ?_)
  show wpAny _ _ (if (some (Value.builtin "dict.__contains__") == some Value.none) = true then _ else _) _ E s
  rw [if_neg (by rw [beq_builtin_none]; exact Bool.false_ne_true)]
  refine wpAny_bind (wpAny_callSpecialUnlessNone?_slot (name := Str.ofString "__contains__") hm.typeIs slot_dict_contains
    (wpAny_call_entry slot_dict_contains hm.typeIs entry_dict_contains ?_ (args_dict_contains _ _)))
  show wpAny _ _ (dictGet d .none >>= _) _ _ s
  refine wpAny_bind ?_
  obtain ⟨o, es, ep, ho, hx, hdt, he, his, hnd⟩ := hm
  unfold dictGet
  try with_reducible refine wpAny_holding ?_
  refine wpAny_bind ((noneKind prog w).pyHash (k := none) rfl ?_)
  refine wpAny_bind (find_no (h := noneHash) ho hdt (fun e hin => ?_) ?_)
  · have : e ∈ xs.map (entryOfKey (tupleKind (mixKind prog w))) := he ▸ Array.mem_toList_iff.mpr hin
    obtain ⟨x, hx, rfl⟩ := List.mem_map.mp this
    exact hn x hx
  · refine wpAny_pure ?_
    show wpAny _ _ (Builtin.Dict.pendingKey? d .none >>= _) _ _ _
    exact wpAny_bind (wpAny_pendingKey_other hd (wpAny_pure ⟨_, rfl, wpAny_truthy_bool (wpAny_pure (h _))⟩))
end
/-- y in d, d a dict of nodes, y a node or None -/
def NVo (κ : Kd) (H : Hp) (v : V) : Option Nd → Prop
  | some n => NV κ H v n
  | none => v = .non
theorem NVo.gr {T : List (Addr × Str)} {κ : Kd} {H H' : Hp} {v : V} {o : Option Nd} (h : NVo κ H v o) (g : Gr T H H') : NVo κ H' v o := by
  cases o with
  | none => exact h
  | some n => exact NV.gr h g
def tDInO (κ : Kd) (ty td : TE) : TE := fun σ H Q => ty σ H fun y H1 => td σ H1 fun x H2 => ∃ d ks f o, x = .ref d ∧ Rd H2 d (FD κ ks f) ∧ (∀ m ∈ ks, Okn κ m ∧ smN m) ∧ NVo κ H2 y o ∧ Q (.bl (match o with | some n => decide (n ∈ ks) | none => false)) H2
section
variable {X : Cx} {o i : Expr} {td ty : TE}
theorem pc_dinO (κ : Kd) (hu : X.A.units + 1 < cLine) (hi : PE X i ty) (ho : PE X o td) : PC X .In i o (tDInO κ ty td) := by
  refine ⟨fun pins s σ H Q I h => ?_⟩
  refine thn (hi.run pins s σ H _ I h) fun iv s1 ⟨y, H1, I1, ry, q1⟩ => thn (ho.run pins s1 σ H1 _ I1 q1) fun u s2 ⟨x, H2, I2, rx, d, ks, f, oo, ex, hd, hk, hv, q⟩ => ?_
  subst ex
  obtain rfl : u = Value.ref d := rx
  cases oo with
  | some n =>
    have g := fd_get hd (fun m hm => (hk m hm).1) hv
    refine d_in hu I2 g ry fun s3 I3 => ⟨.bl _, H2, I3, rfl, ?_⟩
    have e : (if n ∈ ks then some (f n) else none).isSome = decide (n ∈ ks) := by
      by_cases h : n ∈ ks <;> simp [h]
    rw [e]
    exact q
  | none =>
    obtain rfl : y = .non := hv
    obtain rfl : iv = Value.none := ry
    cases κ with
    | st => exact d_inNone I2 hd fun s3 I3 => ⟨.bl false, H2, I3, rfl, q⟩
    | pr =>
      obtain ⟨_, hs, xs, kt, dd⟩ := dt_rd I2.hok hd
      refine none_in hs dd (fun x hx => ?_) fun t => ⟨.bl false, H2, I2.tok t, rfl, q⟩
      have all : ∀ {l : List (List Key × V)} {m : List (List Key × Addr × Value)}, KT H2 l m → ∀ x ∈ m, x.1 ∈ l.map (·.1) := by
        intro l m q
        induction q with
        | nil => intro x hx; simp at hx
        | @cons p q ps qs hq t ih =>
          intro x hx
          rcases List.mem_cons.mp hx with e | hx
          · rw [e, ← hq.1]; simp
          · exact List.mem_cons_of_mem _ (ih x hx)
      have := all kt x hx
      rw [List.map_map] at this
      obtain ⟨m, hm, e⟩ := List.mem_map.mp this
      have e : kPr m = x.1 := e
      rw [← e]
      exact kPr_hash _ _ (hk m hm).2
end
/-! ### xs[i] op= e -/
def gtL (K : PySem.W.Frag) : V → V → Hp → VK → Prop := fun o i H Q => ∃ p xs k v, o = .ref p ∧ i = .int k ∧ SqL K H p xs ∧ 0 ≤ k ∧ atI xs k = some v ∧ Q v H
section
variable {X : Cx}
theorem get_list : PGet X (gtL X.K) := by
  intro pins s σ H o i ov iv Q I ro ri ⟨p, xs, k, v, e1, e2, hq, h0, he, q⟩
  subst e1 e2
  cases ro
  obtain ⟨t, rfl⟩ := ri
  obtain ⟨its, r, pl, hz⟩ := I.list hq
  obtain ⟨j, h1, h2, h3, h4, h5⟩ := atI_get he
  obtain ⟨w, ew, rw'⟩ := r.get h2
  have hl := r.length
  have hj : k.toNat = j := by
    rw [seqIndex_of h0 h5] at h1
    exact Option.some.inj h1
  have hn := line63
  exact wpAny_getItem_list pl.isList h0 (by omega) (by rw [hj]; simpa using ew) ⟨v, H, I, rw', q⟩
/-! ### range objects held by a name -/
theorem cr_range1 : CallR X (.type "range") (fun vs H Q => ∃ j, vs = [V.int j] ∧ ∀ p, H p = none → Q (.ref p) (upd H p (.rng 0 j))) := by
  intro pins s σ H vs us Q I r ⟨j, e, q⟩
  subst e
  obtain ⟨u, rfl, t, rfl⟩ := vals1 r
  refine call_range_1 ?_
  exact ⟨.ref s.heap.objs.size, upd H s.heap.objs.size (.rng 0 j), I.laid (t' := s.toks + 1 + 1) (fun b o e => Heap.get?_push_of_some _ e) (Nat.le_refl _) ⟨s.toks, t, s.toks + 1, Heap.get?_push_size _ rfl⟩, rfl, q _ (I.hok.fresh (Nat.le_refl _))⟩
def iRngV (te : TE) : TI := fun σ H R => te σ H fun x H1 => ∃ a lo hi, x = .ref a ∧ H1 a = some (.rng lo hi) ∧ -(2 ^ 62) ≤ lo ∧ lo < 2 ^ 62 ∧ -(2 ^ 62) ≤ hi ∧ hi < 2 ^ 62 ∧ R (Itr lo (hi - lo).toNat) H1
theorem pi_rngV {tg e : Expr} {te : TE} (he : PE X e te) : PI X tg e (iRngV te) := by
  refine ⟨fun pins s σ H R I h => ?_⟩
  refine thn (he.run pins s σ H _ I h) fun v s1 ⟨x, H1, I1, r1, a, lo, hi, ex, ha, b1, b2, b3, b4, q⟩ => ?_
  subst ex
  cases r1
  obtain ⟨t, u, w', ho⟩ := I1.hok a _ ha
  refine wpAny_pyIter_range (show IsRange s1.heap a lo hi 1 t u w' from ho) (small_one b1 b2 b3 b4) ?_
  have I2 : Inv X pins σ H1 { s1 with heap := s1.heap.push { cls := .type "range_iterator", data := .fields #[rawInt lo, rawInt (Builtin.Range.rangeSize lo hi 1), rawInt 1] } } := I1.kept (t' := s1.toks) fun b o e => Heap.get?_push_of_some _ e
  refine ⟨s1.heap.objs.size, [s1.heap.objs.size], _, _, H1, rfl, I2, turn_range _ lo (hi - lo).toNat, ?_, fun b hb => ?_, q⟩
  · have e1 : lo + ((0 : Nat) : Int) * 1 = lo := by simp
    have e2 : (((hi - lo).toNat : Nat) : Int) - ((0 : Nat) : Int) = Builtin.Range.rangeSize lo hi 1 := by rw [rangeSize_one]; split <;> omega
    show IsRangeIter _ _ (lo + ((0 : Nat) : Int) * 1) ((((hi - lo).toNat : Nat) : Int) - ((0 : Nat) : Int)) 1
    rw [e1, e2]
    exact Heap.get?_push_size _ rfl
  · have e : b = s1.heap.objs.size := by simpa using hb
    subst e
    exact I1.fpOk (Nat.le_refl _) (I1.hok.fresh (Nat.le_refl _))
/-- tuple(r) of such -/
theorem cr_tupleRng (hc : X.calm = true) : CallR X (.type "tuple") (fun vs H Q => ∃ a lo hi, vs = [V.ref a] ∧ H a = some (.rng lo hi) ∧ RgOk lo hi ∧ ∀ p, H p = none → Q (.ref p) (upd H p (.tup (rgV lo hi)))) := by
  intro pins s σ H vs us Q I r ⟨a, lo, hi, e, ha, ok, q⟩
  subst e
  obtain ⟨u, rfl, ru⟩ := vals1 r
  cases ru
  obtain ⟨t, u, w', ho⟩ := I.hok a _ ha
  obtain ⟨o1, o2, o3, o4, o5⟩ := ok
  refine call_tuple_range (n := (hi - lo).toNat) (I.ok.hd hc) (show IsRange s.heap a lo hi 1 t u w' from ho) (small_one o1 o2 o3 o4) (rangeSize_nat lo hi) o5 fun h' tk acc k hi' => ?_
  have J : Inv X pins σ H { s with heap := h', toks := tk } := I.kept k
  refine ⟨.ref h'.objs.size, upd H h'.objs.size (.tup (rgV lo hi)), J.laid (t' := tk) (fun c o e => Heap.get?_push_of_some _ e) (Nat.le_refl _) (show ObjOk X.prog X.w _ _ _ (.tup (rgV lo hi)) from ⟨?_, acc.toList, vals_rg hi', ?_⟩), rfl, q _ (J.hok.fresh (Nat.le_refl _))⟩
  · rw [rgV_length, sizeLine_eq]
    omega
  · rw [Array.toArray_toList]
    exact IsTup.new _ _
end
end Bk
end
section
/-! enumerate over a tuple or a text, zip of a text and a list: what a for walks. -/
namespace Bk
open PySem L2 LamX PySem.Spec PyProof.Rows
section
variable {X : Cx} {pins : List (Addr × Obj)} {σ : L2.St} {H : Hp} {s : Shared} {h' : Heap}
theorem turnedL {t' : Nat} {ch : List Addr} (I : Inv X pins σ H s) (k : ∀ b o, b ∉ ch → s.heap.get? b = some o → h'.get? b = some o) (hf : ∀ b ∈ ch, FpOk X pins H b) : Inv X pins σ H { s with heap := h', toks := t' } := by
  have nit : ∀ b u, H b = some u → b ∉ ch := fun b u e z => by
    rw [(hf b z).1] at e
    cases e
  refine I.step (g' := s.gens) (d' := s.drawn) (ch := ch) (fun b hb => ?_) (fun b o _ _ hc e _ => k b o hc e) (fun b o _ _ hc e _ => ⟨o.slots, k b o hc e⟩) (fun _ _ _ _ n => n) (fun b o hc e => ⟨o, k b o hc e⟩)
    (fun _ _ e => e) (fun _ _ _ e => e) (fun b ps e => ⟨#[], by rw [e]; simp⟩) (fun m hm => ?_) (fun b u e => ?_) I.bare
  · obtain ⟨a1, a2, a3, a4, a5, a6⟩ := hf b hb
    exact ⟨a4, a2, a5, a6⟩
  · obtain ⟨o, es, ep, ho, r⟩ := hm
    exact ⟨o, es, ep, k _ o (fun z => (hf _ z).2.1 rfl) ho, r⟩
  · refine (I.hok b u e).stay (fun c v hc q => k c v ?_ q) (fun _ q => q) fun _ _ q => q
    rcases hc with z | z
    · rw [z]; exact nit b u e
    · exact nit c _ z
end
/-- pairs told by YY, n of them, while S stands -/
def ItT (n : Nat) (S : Hp → Prop) (YY : Nat → V → V → Prop) : It :=
  ⟨fun i H => i < n ∧ S H, fun i H v H' => ∃ T x y, v = .ref T ∧ H T = none ∧ H' = upd H T (.tup [x, y]) ∧ YY i x y, fun i H => i = n ∧ S H⟩
theorem walk_T {n : Nat} {S : Hp → Prop} {YY : Nat → V → V → Prop} : Walk (ItT n S YY) n S (fun i H v H' => ∃ T x y, v = .ref T ∧ H T = none ∧ H' = upd H T (.tup [x, y]) ∧ YY i x y) :=
  ⟨fun i H hi q => ⟨hi, q⟩, fun H q => ⟨rfl, q⟩, fun i H x H' _ _ y => y⟩
theorem turn_T {P : Program} {w : World} {K : PySem.W.Frag} {elts : List Expr} {kk : Nat} {tpos : Pos} {n : Nat} {I : Addr} {fpo wr fp : List Addr} {ι : Type} {Pt : ι → Nat → Array Value → Prop} {St : ι → Nat → Heap → Prop} {Mid : ι → Nat → Addr → Heap → Prop}
    {own : Nat → Heap → Prop} {src : ι → Heap → Prop} {S : Hp → Prop} {YY : Nat → V → V → Prop}
    (W : ∀ (c : ι) (A : Around), A.handled = none → WalksT P w A I fp wr n (Pt c) (St c) (Mid c)) (hst : ∀ c i h, St c i h ↔ own i h ∧ src c h)
    (hsrc : ∀ (X : Cx) pins σ H s, X.prog = P → X.w = w → X.K = K → Inv X pins σ H s → S H → ∃ c, src c s.heap ∧ ∀ i vals, i < n → Pt c i vals → ∃ x y u1 u2, vals = #[u1, u2] ∧ RelV x u1 ∧ RelV y u2 ∧ YY i x y)
    (hI : I ∈ fpo) (hwr : ∀ b ∈ wr, b ∈ fpo) (hobj : ∀ i h, own i h → ∀ b ∈ fpo, ∃ o, h.get? b = some o ∧ ∀ v, o.data ≠ .cell v) (hkeep : ∀ i h h', own i h → (∀ b ∈ fpo, ∀ o, h.get? b = some o → h'.get? b = some o) → own i h')
    (hself : ∀ (A : Around) (i : Nat) (s : Shared) (Q : Value → Shared → Prop) (E : Value → Shared → Prop), own i s.heap → Q (.ref I) s → wpAny (model P w) A (pyIter (.ref I)) Q E s) :
    Turn P w K (.Tuple elts kk tpos) (ItT n S YY) fpo I own where
  mem := hI
  obj := hobj
  keep := hkeep
  item := by
    intro X hP hw hK hc i pins s σ H E J hf st ⟨hi, hg⟩
    obtain ⟨c, hs, hy⟩ := hsrc X pins σ H s hP hw hK J hg
    subst hP hw hK
    refine (W c X.A (J.ok.hd hc)).item i s _ _ hi ((hst c i _).mpr ⟨st, hs⟩) fun T vals h' tk hp hT hTup hMid hk => ⟨_, rfl, ?_⟩
    refine (W c X.A (J.ok.hd hc)).go elts kk tpos i T _ _ _ hMid fun h2 st2 hk2 => ?_
    obtain ⟨x, y, u1, u2, ev, r1, r2, yy⟩ := hy i vals hi hp
    have nT : T ∉ wr := (W c X.A (J.ok.hd hc)).apart i T _ hMid
    obtain ⟨o, eo, oc, m, od⟩ := hTup
    have e2 : h2.get? T = some o := hk2 T o nT eo
    have new : ObjOk X.prog X.w (upd H T (.tup [x, y])) h2 T (.tup [x, y]) := ⟨by show 2 ≤ sizeLine; decide, [u1, u2], .cons r1 (.cons r2 .nil), ⟨o, e2, oc, m, by rw [od, ev]⟩⟩
    have J1 : Inv X pins σ (upd H T (.tup [x, y])) { s with heap := h2, toks := tk } := J.turnedNew (ch := wr) (fun b ob hb q => hk2 b ob hb (hk b ob hb q)) (fun b hb => hf b (hwr b hb)) hT new
    refine ⟨.ref T, _, J1, rfl, ⟨T, x, y, rfl, J.hok.fresh hT, rfl, yy⟩, ((hst c _ _).mp st2).1, fun b hb => ?_⟩
    obtain ⟨ob, hob, _⟩ := hobj i _ st b hb
    rw [upd_ne (Nat.ne_of_lt (Nat.lt_of_lt_of_le (Heap.lt_size hob) hT))]
    exact (hf b hb).1
  done := by
    intro X hP hw hK hc i pins s σ H E J hf st ⟨hi, hg⟩
    obtain ⟨c, hs, hy⟩ := hsrc X pins σ H s hP hw hK J hg
    subst hP hw hK
    subst hi
    exact (W c X.A (J.ok.hd hc)).done s _ _ ((hst c _ _).mpr ⟨st, hs⟩) fun h' tk hk => ⟨rfl, turnedL (ch := wr) J hk fun b hb => hf b (hwr b hb)⟩
  self := hself
theorem meets_enum1 {v : Value} {o : Obj} {H : Heap → Prop} (B : Begins v o H) :
    Meets (Builtin.«enumerate.__new__» ⟨[.type "enumerate", v], []⟩) (fun _ R s => H s.heap ∧
      R (.ok (.ret (.ref (s.heap.push o).objs.size))) { s with heap := (s.heap.push o).push { cls := .type "enumerate", data := .fields #[.none, .bool false, .ref s.heap.objs.size, rawInt 0, .none, .none] } }) := .of_wp fun prog w A R s ⟨h1, h⟩ => by
  obtain ⟨hp, g, d, tk, os⟩ := s
  have hsub := sub_enumerate
  have q1 : ∀ {A' : Around} {E : Value → Shared → Prop} {Q : Value → Shared → Prop}, Q (.ref hp.objs.size) ⟨hp.push o, g, d, tk, os⟩ → wpAny (model prog w) A' (pyIter v) Q E ⟨hp, g, d, tk, os⟩ :=
    fun q => B.iter prog w _ _ ⟨hp, g, d, tk, os⟩ _ h1 q
  wp_walk using q1
  refine wpAny_stack_any fun st => wpAny_pure ?_
  split
  · rename_i c _ _ _ _ _
    cases (c == Value.type "enumerate")
    all_goals
      wp_walk using q1
      exact ⟨_, rfl, h⟩
  · wp_walk using q1
    exact ⟨_, rfl, h⟩
theorem enum_begins1 {prog : Program} {w : World} {A : Around} {E : Value → Shared → Prop} {s : Shared} {v : Value} {o : Obj} {H : Heap → Prop} {Q : Value → Shared → Prop} (B : Begins v o H) (h1 : H s.heap)
    (h : ∀ h', IsEnum h' (s.heap.objs.size + 1) s.heap.objs.size 0 .none → h'.get? s.heap.objs.size = some o → (∀ b o, s.heap.get? b = some o → h'.get? b = some o) → Q (.ref (s.heap.objs.size + 1)) { s with heap := h' }) :
    wpAny (model prog w) A (call (.type "enumerate") [v]) Q E s := by
  refine callType_new F.called_enumerate (by decide) (F.typeCall_enumerate_1 _) (F.newCall_enumerate_1 _) (fun obj => F.args_object_init_2 obj _) F.entry_enumerate_new (meets_enum1 B) ⟨h1, ?_⟩
  have hz : (s.heap.push o).objs.size = s.heap.objs.size + 1 := Heap.size_push ..
  show _ ∧ _
  rw [hz]
  have he : IsEnum ((s.heap.push o).push { cls := .type "enumerate", data := .fields #[.none, .bool false, .ref s.heap.objs.size, rawInt 0, .none, .none] }) (s.heap.objs.size + 1) s.heap.objs.size 0 .none := by
    have z := Heap.get?_push_size (s.heap.push o) (o := { cls := .type "enumerate", data := .fields #[.none, .bool false, .ref s.heap.objs.size, rawInt 0, .none, .none] }) rfl
    rw [hz] at z
    exact z
  exact ⟨⟨_, he, rfl⟩, h _ he (Heap.get?_push_of_some _ (Heap.get?_push_size _ B.free)) fun b o x => Heap.get?_push_of_some _ (Heap.get?_push_of_some _ x)⟩
/-- the enumerate object and what it draws from, a tuple's iterator -/
theorem turn_enumT {P : Program} {w : World} {K : PySem.W.Frag} {elts : List Expr} {kk : Nat} {tpos : Pos} (a e it : Addr) (xs : List V) (hei : e ≠ it) (hea : e ≠ a) (hia : a ≠ it) :
    Turn P w K (.Tuple elts kk tpos) (ItT xs.length (fun H => SqT K H a xs) fun i x y => x = .int (i : Nat) ∧ xs[i]? = some y) [e, it] e (fun i h => (∃ old, IsEnum h e it ((i : Nat) : Int) old) ∧ h.IsTupleIter it a i) := by
  refine turn_T (ι := { its : List Value // its.length = xs.length }) (wr := [e, it]) (fp := e :: [it, a]) (src := fun c h => h.IsTuple a c.1.toArray)
    (Pt := fun c i vals => ∃ t x, c.1.toArray[i]? = some x ∧ vals = #[.int (0 + (i : Int)) t, x]) (St := fun c i h => (∃ old, IsEnum h e it (0 + (i : Int)) old) ∧ h.IsTupleIter it a i ∧ h.IsTuple a c.1.toArray)
    (Mid := fun c i T h => (∃ x, IsEnumOut h e it (0 + (i : Int) + 1) x T) ∧ (h.IsTupleIter it a (i + 1) ∧ h.IsTuple a c.1.toArray) ∧ T ≠ e ∧ T ≠ it) (fun c A hA => ?_) (fun c i h => ?_) (fun X pins σ H s hP hw hK J hg => ?_) (by simp) (fun b hb => hb) (fun i h st b hb => ?_) (fun i h h' st k => ?_) (fun A i s Q E st hQ => ?_)
  · have W := WalksT.enumFrom (prog := P) (w := w) (A := A) 0 (Draws.tuple (A := A.in1) hA it a hia c.1.toArray) e hei (by simp [hei, hea]) (by simp)
    have z : c.1.toArray.size = xs.length := by rw [List.size_toArray]; exact c.2
    rw [z] at W
    exact W
  · simp only [Int.zero_add]
    constructor
    · rintro ⟨h1, h2, h3⟩
      exact ⟨⟨h1, h2⟩, h3⟩
    · rintro ⟨⟨h1, h2⟩, h3⟩
      exact ⟨h1, h2, h3⟩
  · subst hK
    obtain ⟨its, rv, pt, _⟩ := J.tuple hg
    refine ⟨⟨its, rv.length.symm⟩, pt, fun i vals hi ⟨t, x, hx, ev⟩ => ?_⟩
    obtain ⟨y, hy⟩ : ∃ y, xs[i]? = some y := ⟨xs[i], by simp [hi]⟩
    obtain ⟨u, hu, ru⟩ := rv.get hy
    have hx : its[i]? = some x := by simpa using hx
    rw [hu] at hx
    cases hx
    exact ⟨.int (i : Nat), y, _, _, ev, ⟨t, by rw [Int.zero_add]⟩, ru, rfl, hy⟩
  · obtain ⟨⟨old, he⟩, ⟨o, ho, hc, hd⟩⟩ := st
    have e' : b = e ∨ b = it := by simpa using hb
    rcases e' with z | z
    · rw [z]; exact ⟨_, he, fun v q => nomatch q⟩
    · rw [z]; exact ⟨o, ho, fun v q => by rw [hd] at q; cases q⟩
  · obtain ⟨⟨old, he⟩, hi⟩ := st
    exact ⟨⟨old, k e (by simp) _ he⟩, hi.at fun o q => k it (by simp) o q⟩
  · obtain ⟨⟨old, he⟩, _⟩ := st
    exact wpAny_pyIter_enum he hQ
/-- .. a text's iterator -/
theorem turn_enumS {P : Program} {w : World} {K : PySem.W.Frag} {elts : List Expr} {kk : Nat} {tpos : Pos} (z : Str) (t0 : Tok) (e it : Addr) (hei : e ≠ it) :
    Turn P w K (.Tuple elts kk tpos) (ItT z.cps.size (fun _ => True) fun i x y => x = .int (i : Nat) ∧ ∃ c, z.cps[i]? = some c ∧ y = .str ⟨#[c]⟩) [e, it] e (fun i h => (∃ old, IsEnum h e it ((i : Nat) : Int) old) ∧ h.IsStrIter it (strIterType z) z t0 i) := by
  refine turn_T (ι := Unit) (wr := [e, it]) (fp := e :: [it]) (src := fun _ _ => True)
    (Pt := fun _ i vals => ∃ t x, (∃ c u, z.cps[i]? = some c ∧ x = .str ⟨#[c]⟩ u) ∧ vals = #[.int (0 + (i : Int)) t, x]) (St := fun _ i h => (∃ old, IsEnum h e it (0 + (i : Int)) old) ∧ h.IsStrIter it (strIterType z) z t0 i)
    (Mid := fun _ i T h => (∃ x, IsEnumOut h e it (0 + (i : Int) + 1) x T) ∧ h.IsStrIter it (strIterType z) z t0 (i + 1) ∧ T ≠ e ∧ T ≠ it) (fun c A hA => ?_) (fun c i h => ?_) (fun X pins σ H s hP hw hK J hg => ?_) (by simp) (fun b hb => hb) (fun i h st b hb => ?_) (fun i h h' st k => ?_) (fun A i s Q E st hQ => ?_)
  · exact WalksT.enumFrom (prog := P) (w := w) (A := A) 0 (Draws.text (A := A.in1) hA it z t0) e hei (by simp [hei]) (by simp)
  · simp only [Int.zero_add, and_true]
  · refine ⟨(), trivial, fun i vals hi ⟨t, x, ⟨c, u, hc, ex⟩, ev⟩ => ?_⟩
    subst ex
    exact ⟨.int (i : Nat), .str ⟨#[c]⟩, _, _, ev, ⟨t, by rw [Int.zero_add]⟩, ⟨u, rfl⟩, rfl, c, hc, rfl⟩
  · obtain ⟨⟨old, he⟩, ⟨o, ho, hc, hd⟩⟩ := st
    have e' : b = e ∨ b = it := by simpa using hb
    rcases e' with z | z
    · rw [z]; exact ⟨_, he, fun v q => nomatch q⟩
    · rw [z]; exact ⟨o, ho, fun v q => by rw [hd] at q; cases q⟩
  · obtain ⟨⟨old, he⟩, hi⟩ := st
    obtain ⟨o, ho, r⟩ := hi
    exact ⟨⟨old, k e (by simp) _ he⟩, o, k it (by simp) o ho, r⟩
  · obtain ⟨⟨old, he⟩, _⟩ := st
    exact wpAny_pyIter_enum he hQ
/-- zip of a text and a list that stands still -/
theorem turn_zipSL {P : Program} {w : World} {K : PySem.W.Frag} {elts : List Expr} {kk : Nat} {tpos : Pos} (z : Str) (t0 : Tok) (l : Addr) (ys : List V) {q TI TO i1 i2 : Addr} (hl2 : l ≠ i2) (S : ZipSep2 q TI TO i1 i2 [i1] [i2, l]) :
    Turn P w K (.Tuple elts kk tpos) (ItT (min z.cps.size ys.length) (fun H => SqL K H l ys) fun i x y => (∃ c, z.cps[i]? = some c ∧ x = .str ⟨#[c]⟩) ∧ ys[i]? = some y) [q, TI, TO, i1, i2] q
      (fun i h => IsZip h q TI TO .none ∧ IsTupOf2 h TI (.ref i1) (.ref i2) ∧ (∃ a1 a2, IsTupOf2 h TO a1 a2) ∧ h.IsStrIter i1 (strIterType z) z t0 i ∧ h.IsListIter i2 l i) := by
  refine turn_T (ι := { its : List Value // its.length = ys.length }) (wr := [q, TO, i1, i2]) (fp := q :: TI :: TO :: ([i1] ++ [i2, l])) (src := fun c h => h.IsList l c.1.toArray)
    (Pt := fun c i vals => ∃ x1 x2, (∃ cc u, z.cps[i]? = some cc ∧ x1 = .str ⟨#[cc]⟩ u) ∧ c.1.toArray[i]? = some x2 ∧ vals = #[x1, x2])
    (St := fun c i h => IsZip h q TI TO .none ∧ IsTupOf2 h TI (.ref i1) (.ref i2) ∧ (∃ a1 a2, IsTupOf2 h TO a1 a2) ∧ h.IsStrIter i1 (strIterType z) z t0 i ∧ h.IsListIter i2 l i ∧ h.IsList l c.1.toArray)
    (Mid := fun c i T h => IsZip h q TI TO (rawInt T) ∧ IsTupOf2 h TI (.ref i1) (.ref i2) ∧ (∃ a1 a2, IsTupOf2 h TO a1 a2) ∧ h.IsStrIter i1 (strIterType z) z t0 (i + 1) ∧ (h.IsListIter i2 l (i + 1) ∧ h.IsList l c.1.toArray) ∧ T ≠ q ∧ T ≠ TO ∧ T ≠ i1 ∧ T ≠ i2)
    (fun c A hA => ?_) (fun c i h => ?_) (fun X pins σ H s hP hw hK J hg => ?_) (by simp) (fun b hb => ?_) (fun i h st b hb => ?_) (fun i h h' st k => ?_) (fun A i s Q E st hQ => ?_)
  · have W := WalksT.zipD2 S (Draws.text (prog := P) (w := w) (A := A.in1) hA i1 z t0) (Draws.list (prog := P) (w := w) (A := A.in1) hA i2 l hl2 c.1.toArray)
    have e : c.1.toArray.size = ys.length := by rw [List.size_toArray]; exact c.2
    rw [e] at W
    exact W
  · constructor
    · rintro ⟨h1, h2, h3, h4, h5, h6⟩
      exact ⟨⟨h1, h2, h3, h4, h5⟩, h6⟩
    · rintro ⟨⟨h1, h2, h3, h4, h5⟩, h6⟩
      exact ⟨h1, h2, h3, h4, h5, h6⟩
  · subst hK
    obtain ⟨its, rv, pt, _⟩ := J.list hg
    refine ⟨⟨its, rv.length.symm⟩, pt.isList, fun i vals hi ⟨x1, x2, ⟨c, u, hc, ex⟩, hx, ev⟩ => ?_⟩
    subst ex
    obtain ⟨y, hy⟩ : ∃ y, ys[i]? = some y := ⟨ys[i]'(by omega), by simp [show i < ys.length by omega]⟩
    obtain ⟨v, hv, rv'⟩ := rv.get hy
    have hx : its[i]? = some x2 := by simpa using hx
    rw [hv] at hx
    cases hx
    exact ⟨.str ⟨#[c]⟩, y, _, _, ev, ⟨u, rfl⟩, rv', ⟨c, hc, rfl⟩, hy⟩
  · have e' : b = q ∨ b = TO ∨ b = i1 ∨ b = i2 := by simpa using hb
    simp only [List.mem_cons, List.not_mem_nil, or_false]
    rcases e' with e | e | e | e <;> simp [e]
  · obtain ⟨h1, h2, ⟨a1, a2, h3⟩, ⟨o, h4, _, h4d⟩, ⟨o', h5, _, h5d⟩⟩ := st
    have e' : b = q ∨ b = TI ∨ b = TO ∨ b = i1 ∨ b = i2 := by simpa using hb
    rcases e' with e | e | e | e | e
    · rw [e]; exact ⟨_, h1, fun v q => nomatch q⟩
    · rw [e]; exact ⟨_, h2, fun v q => nomatch q⟩
    · rw [e]; exact ⟨_, h3, fun v q => nomatch q⟩
    · rw [e]; exact ⟨o, h4, fun v q => by rw [h4d] at q; cases q⟩
    · rw [e]; exact ⟨o', h5, fun v q => by rw [h5d] at q; cases q⟩
  · obtain ⟨h1, h2, ⟨a1, a2, h3⟩, ⟨o, h4, h4d⟩, ⟨o', h5, h5d⟩⟩ := st
    exact ⟨k q (by simp) _ h1, k TI (by simp) _ h2, ⟨a1, a2, k TO (by simp) _ h3⟩, ⟨o, k i1 (by simp) _ h4, h4d⟩, ⟨o', k i2 (by simp) _ h5, h5d⟩⟩
  · exact wpAny_pyIter_zip st.1 hQ
section
variable {X : Cx} {e e2 : Expr} {ta : TA} {p pos tpos : Pos} {elts : List Expr} {kk : Nat}
/-! ### enumerate(tuple) -/
def iEnumT (K : PySem.W.Frag) (ta : TA) : L2.TI := fun σ H R => ta σ H fun vs H1 => ∃ a xs, vs = [.ref a] ∧ SqT K H1 a xs ∧ R (ItT xs.length (fun H => SqT K H a xs) fun i x y => x = .int (i : Nat) ∧ xs[i]? = some y) H1
theorem pi_enumT (hg : Gl X "enumerate") (hm : X.mg "enumerate" = none) (ha : PA X [e] ta) (hs : starEach [e] X.env = [(false, eval e X.env)] := by rfl) : PI X (.Tuple elts kk tpos) (.Call (.Name "enumerate" p) [e] [] pos) (iEnumT X.K ta) := by
  refine ⟨fun pins s σ H R I h => ?_⟩
  refine Call_ (ld_blt I hg hm boot_enumerate (PyProof.Rows.callWith_type1 (thn (ha.run pos pins s σ H _ I h) fun us s1 ⟨vs, H1, I1, r1, a, xs, ex, hq, q⟩ => ?_) hs rfl))
  subst ex
  cases r1 with
  | cons r rr =>
    cases rr
    cases r
    obtain ⟨its, rv, pt, hz⟩ := I1.tuple hq
    have hal : a < s1.heap.objs.size := by
      obtain ⟨o, ho, _⟩ := pt
      exact Heap.lt_size ho
    refine enum_begins1 (begins_tuple a its.toArray) (show s1.heap.IsTuple a its.toArray from pt) fun h' he hit hk => wpAny_pyIter_enum he ?_
    have I2 : Inv X pins σ H1 { s1 with heap := h' } := I1.kept (t' := s1.toks) hk
    have ne1 : s1.heap.objs.size + 1 ≠ s1.heap.objs.size := Nat.succ_ne_self _
    refine ⟨s1.heap.objs.size + 1, [s1.heap.objs.size + 1, s1.heap.objs.size], _, _, H1, rfl, I2, turn_enumT a (s1.heap.objs.size + 1) s1.heap.objs.size xs ne1 (Nat.ne_of_gt (Nat.lt_succ_of_lt hal)) (Nat.ne_of_lt hal), ⟨⟨.none, he⟩, ⟨_, hit, rfl, rfl⟩⟩, fun b hb => ?_, q⟩
    have e' : b = s1.heap.objs.size + 1 ∨ b = s1.heap.objs.size := by simpa using hb
    have hle : s1.heap.objs.size ≤ b := by
      rcases e' with z | z
      · rw [z]; exact Nat.le_succ _
      · rw [z]; exact Nat.le_refl _
    exact I1.fpOk hle (I1.hok.fresh hle)
/-! ### enumerate(text) -/
def iEnumS (ta : TA) : L2.TI := fun σ H R => ta σ H fun vs H1 => ∃ z, vs = [.str z] ∧ R (ItT z.cps.size (fun _ => True) fun i x y => x = .int (i : Nat) ∧ ∃ c, z.cps[i]? = some c ∧ y = .str ⟨#[c]⟩) H1
theorem pi_enumS (hg : Gl X "enumerate") (hm : X.mg "enumerate" = none) (ha : PA X [e] ta) (hs : starEach [e] X.env = [(false, eval e X.env)] := by rfl) : PI X (.Tuple elts kk tpos) (.Call (.Name "enumerate" p) [e] [] pos) (iEnumS ta) := by
  refine ⟨fun pins s σ H R I h => ?_⟩
  refine Call_ (ld_blt I hg hm boot_enumerate (PyProof.Rows.callWith_type1 (thn (ha.run pos pins s σ H _ I h) fun us s1 ⟨vs, H1, I1, r1, z, ex, q⟩ => ?_) hs rfl))
  subst ex
  cases r1 with
  | cons r rr =>
    cases rr
    obtain ⟨t, rfl⟩ := r
    refine call_enumerate_str fun h' he hit hsz hk => wpAny_pyIter_enum he ?_
    have I2 : Inv X pins σ H1 { s1 with heap := h' } := I1.kept (t' := s1.toks) hk
    refine ⟨s1.heap.objs.size + 1, [s1.heap.objs.size + 1, s1.heap.objs.size], _, _, H1, rfl, I2, turn_enumS z t (s1.heap.objs.size + 1) s1.heap.objs.size (Nat.succ_ne_self _), ⟨⟨.none, he⟩, hit⟩, fun b hb => ?_, q⟩
    have e' : b = s1.heap.objs.size + 1 ∨ b = s1.heap.objs.size := by simpa using hb
    have hle : s1.heap.objs.size ≤ b := by
      rcases e' with z | z
      · rw [z]; exact Nat.le_succ _
      · rw [z]; exact Nat.le_refl _
    exact I1.fpOk hle (I1.hok.fresh hle)
/-! ### zip(text, list) -/
def iZipSL (K : PySem.W.Frag) (ta : TA) : L2.TI := fun σ H R => ta σ H fun vs H1 => ∃ z l ys, vs = [.str z, .ref l] ∧ SqL K H1 l ys ∧ R (ItT (min z.cps.size ys.length) (fun H => SqL K H l ys) fun i x y => (∃ c, z.cps[i]? = some c ∧ x = .str ⟨#[c]⟩) ∧ ys[i]? = some y) H1
theorem pi_zipSL (hg : Gl X "zip") (hm : X.mg "zip" = none) (ha : PA X [e, e2] ta) (hs : starEach [e, e2] X.env = (false, eval e X.env) :: starEach [e2] X.env := by rfl) (hpl : (backTo pos (starEach [e2] X.env)).any (·.1) = false := by rfl) :
    PI X (.Tuple elts kk tpos) (.Call (.Name "zip" p) [e, e2] [] pos) (iZipSL X.K ta) := by
  refine ⟨fun pins s σ H R I h => ?_⟩
  refine Call_ (ld_blt I hg hm boot_zip (PyProof.Rows.callWith_type1 (thn (ha.run pos pins s σ H _ I h) fun us s1 ⟨vs, H1, I1, r1, z, l, ys, ex, hq, q⟩ => ?_) hs hpl))
  subst ex
  cases r1 with
  | cons r rr =>
    cases rr with
    | cons r2 rr2 =>
      cases rr2
      obtain ⟨t, rfl⟩ := r
      cases r2
      obtain ⟨its, rv, pt, hz⟩ := I1.list hq
      have hll : l < s1.heap.objs.size := by
        obtain ⟨o, ho, _⟩ := pt.isList
        exact Heap.lt_size ho
      refine zip_begins2 (begins_text z t) (begins_list l its.toArray) trivial pt.isList fun h' hz hTI hTO h1 h2 hsz hk => wpAny_pyIter_zip hz ?_
      have I2 : Inv X pins σ H1 { s1 with heap := h' } := I1.kept (t' := s1.toks) hk
      have S := zip_sep2 (N := s1.heap.objs.size) (fp1 := []) (fp2 := [l]) (fun b hb => by simp at hb) (fun b hb => by rw [List.mem_singleton.mp hb]; exact hll)
      refine ⟨s1.heap.objs.size + 4, [s1.heap.objs.size + 4, s1.heap.objs.size + 2, s1.heap.objs.size + 3, s1.heap.objs.size, s1.heap.objs.size + 1], _, _, H1, rfl, I2, turn_zipSL z t l ys (Nat.ne_of_lt (Nat.lt_succ_of_lt hll)) S, ⟨hz, hTI, ⟨_, _, hTO⟩, ⟨_, h1, rfl, rfl⟩, ⟨_, h2, rfl, rfl⟩⟩, fun b hb => ?_, q⟩
      have hle : s1.heap.objs.size ≤ b := by
        have e' : b = s1.heap.objs.size + 4 ∨ b = s1.heap.objs.size + 2 ∨ b = s1.heap.objs.size + 3 ∨ b = s1.heap.objs.size ∨ b = s1.heap.objs.size + 1 := by simpa using hb
        rcases e' with z | z | z | z | z <;> rw [z] <;> first | exact Nat.le_add_right _ _ | exact Nat.le_refl _
      exact I1.fpOk hle (I1.hok.fresh hle)
end
end Bk
end
section
/-! Defs that are called where no repr is under way; methods called by keywords alone. -/
namespace Bk
open PySem L2 LamX PySem.Spec PyProof.Rows
structure FnG (P : Program) (w : World) (K : PySem.W.Frag) (mg : Str → Option Value) (base : Heap) (CX : CXT) (k : Nat) (f : Addr) (fd : FuncData) (ps : List Str) (sp : Sp) : Prop where
  len : ∀ vs H Q E, sp vs H Q E → vs.length = ps.length
  run : ∀ (A : Around) (outer : List Env) (s : Shared) (H : Hp) (args : Args) (us : List Value) (vs : List V) (Q : VK) (E : XK), Room k A → A.guards = some [] → Env0 P w K mg base A outer s H → BindsTo s fd args (ps.zip us) → Vals vs us → sp vs H Q E →
    codeAny (model P w) A (.call (.ref f) args) (CR CX outer P w H s Q E) s
section
variable {P : Program} {w : World} {K : PySem.W.Frag} {mg : Str → Option Value} {base : Heap}
theorem Fun_okG {x qual : Str} {st : Stmt} {f : Addr} {fd : FuncData} {N ps : List Str} {k : Nat} {sp : Sp} (F : Fun K x qual st f fd) (S : FnScope N ps (defScope st)) (len : ∀ vs H Q E, sp vs H Q E → vs.length = ps.length)
    (hbody : ∀ (cdv : Value) (A : Around) (outer : List Env) (s : Shared) (H : Hp) (vs : List V) (Q : VK) (E : XK), Room k (A.deeper (envOfC qual (defScope st) s.heap.objs.size f cdv)) → A.guards = some [] → sp vs H Q E →
      ∃ t, PSs (cxOf CX0 P w K mg base N qual (defScope st) f cdv A outer s H E).nox (defBody st) t ∧ t { nx := fun _ H' => Q .non H', rt := Q } (start N vs) H) : FnG P w K mg base CX0 (k + 1) f fd ps sp := by
  obtain ⟨oc, od, kV, doc, pm, an, cdv, ct, osl, rfl, lk, hcd⟩ := F.ex
  refine ⟨len, fun A outer s H args us vs Q E hr hg e0 hb r hsp => ?_⟩
  have hl := len _ _ _ _ hsp
  have KX : K.In s.heap := e0.mod.kin.keeps fun b o e => (e0.bs b o e).1
  have lim : s.heap.NoLimit := e0.mod.nolimit.keeps fun b o e => (e0.bs b o e).1
  have hkind : ∀ y ∈ ps.zip us, (defScope st).names.lookup y.1 = some .local ∨ ((defScope st).names.lookup y.1 = some .cell ∧ ((cellsFrom (s.heap.objs.size + 1) (defScope st).names []).lookup y.1).isSome = true) := fun ⟨n, v⟩ hy => by
    rcases S.par n (List.of_mem_zip hy).1 with q | q
    · exact .inl q
    · exact .inr ⟨q, PySem.W.cellsFrom_some _ _ _ (.inl q)⟩
  refine codeAny_call_function hr.depth (KX _ _ lk) rfl S.co S.gen rfl (PySem.W.codeRec_of KX hcd) (hb _ _ _ _ ?_)
  refine wpAny_newFunctionEnv_cells S.kind hkind fun env he s1 x => ?_
  subst he
  refine ⟨lim.keeps x.toInCall.keep, codeAny_func ?_⟩
  obtain ⟨t, ht, hq⟩ := hbody cdv A outer s H vs Q E (hr.deeper _) hg hsp
  have I : Inv (cxOf CX0 P w K mg base N qual (defScope st) f cdv A outer s H E) [] (start N vs) H s1 := inv_start S hr.hd e0 hl r x
  refine wpAny_mono (ht.nox.run [] s1 (start N vs) H _ I hq) (fun fl s' hs => ?_) fun e s' hs => hs
  have fin : ∀ {σ' : L2.St} {H' : Hp} {v : V} {u : Value}, Inv (cxOf CX0 P w K mg base N qual (defScope st) f cdv A outer s H E) [] σ' H' s' → RelV v u → Q v H' → CE outer P w H s Q u s' :=
    fun J rv q => ⟨_, _, J.os, J.bare, J.base, J.hok, rv, q⟩
  cases fl with
  | ret u =>
    obtain ⟨v, σ', H', J, rv, q⟩ := hs
    exact fin J rv q
  | next =>
    obtain ⟨σ', H', J, q⟩ := hs
    exact fin (v := V.non) (u := Value.none) J rfl q
  | brk => exact (hs.choose_spec.choose_spec.2 : False).elim
  | cont => exact (hs.choose_spec.choose_spec.2 : False).elim
end
def CalG (P : Program) (w : World) (K : PySem.W.Frag) (mg : Str → Option Value) (base : Heap) (CX : CXT) (k : Nat) (x : Str) (ps : List Str) (sp : Sp) : Prop :=
  ∃ f fd, FnG P w K mg base CX k f fd ps sp ∧ mg x = some (.ref f) ∧ PySem.W.keepIn K (.ref f) = true ∧ Binds K fd ps []
theorem pe_calG {X : Cx} {CX : CXT} {k : Nat} {ps : List Str} {sp : Sp} {E : XK} {x : Str} {p pos : Pos} {e : Expr} {es : List Expr} {t : TA} (G : CalG X.prog X.w X.K X.mg X.base CX k x ps sp) (hr : Room k X.A) (hgd : X.A.guards = some []) (ha : PA X (e :: es) t) (hx : Passes CX X E) (hg : Gl X x := by rfl)
    (hs : starEach (e :: es) X.env = (false, eval e X.env) :: starEach es X.env := by rfl) (hpl : (backTo pos (starEach es X.env)).any (·.1) = false := by rfl) (hdb : (x == ("__debug__" : Str)) = false := by decide) :
    PE X (.Call (.Name x p) (e :: es) [] pos) (tCall sp [] E t) := by
  obtain ⟨f, fd, F, hm, hk, hb⟩ := G
  refine ⟨fun pins s σ H Q I h => ?_⟩
  refine wpAny_Call_Name_kw (ld_glob I hg hm ?_ hdb)
  refine PySem.W.callWith_K (h₀ := X.base) I.ok.mod.kin hk (thn (ha.run pos pins s σ H _ I h) fun us s1 ⟨vs, H1, I1, r, q⟩ => ⟨I1.kIn, ?_⟩) hs hpl
  have q : sp (vs ++ []) H1 Q E := q
  rw [List.append_nil] at q
  have hl : us.length = ps.length := by rw [← r.length]; exact F.len _ _ _ _ q
  have hbt := hb s1 us I1.kIn (by rw [List.append_nil]; exact hl)
  rw [List.append_nil] at hbt
  show wpAny _ _ (call (Value.ref f) us) _ _ _
  refine wpAny_call (codeAny_mono (F.run X.A X.stack s1 H1 ⟨us, []⟩ us vs Q E hr hgd I1.env0 hbt r q) fun r s' hq => ?_)
  cases r with
  | error e => exact hx pins σ H1 s1 e s' I1 hq
  | ok fl =>
    cases fl with
    | ret u => exact I1.after hq
    | _ => exact False.elim hq
/-! ### o.m(k = v, ..) -/
/-- the keywords in the parameters' order behind self -/
theorem kb_self {K : PySem.W.Frag} {fd : FuncData} {ks : List Str} (h : ∀ us ws : List Value, us.length = 1 → ws.length = ks.length → bindArgs fd ⟨us, ks.zip ws⟩ = pure ((("self" : Str) :: ks).zip (us ++ ws))) :
    ∀ (s : Shared) (u : Value) (ws : List Value), ws.length = ks.length → BindsTo s fd ⟨[u], ks.zip ws⟩ ((("self" : Str) :: ks).zip ([u] ++ ws)) := fun s u ws hl => .of_eq (h [u] ws rfl hl)
def tMethK (C : Addr) (m : Str) (sp : Sp) (E : XK) (ta : TE) (tk : TA) : TE := fun σ H Q => ta σ H fun x H1 => ∃ a dx fs, x = .ref a ∧ H1 a = some (.ins C dx fs) ∧ fs.lookup m = none ∧ tk σ H1 fun vs H2 => sp (x :: vs) H2 Q E
section
variable {X : Cx} {CX : CXT} {k : Nat} {f C : Addr} {fd : FuncData} {ps ks : List Str} {sp : Sp} {E : XK} {m : Str} {pos apos : Pos} {o : Expr} {kws : List Keyword} {ta : TE} {tk : TA}
theorem pe_methK {pl : Sem Bool} (he : PE X o ta) (c : Cls X.K C) (hm : Meth X.K C m f) (F : FnOk X.prog X.w X.K X.mg X.base CX k f fd (("self" : Str) :: ks) sp) (hr : Room k X.A)
    (hb : ∀ (s : Shared) (u : Value) (ws : List Value), ws.length = ks.length → BindsTo s fd ⟨[u], ks.zip ws⟩ ((("self" : Str) :: ks).zip ([u] ++ ws))) (hx : Passes CX X E) (hkw : PK X kws tk)
    (hall : (backToKw pos (keywordEach kws X.env)).all (·.1.isSome) = true := by rfl) (hks : (backToKw pos (keywordEach kws X.env)).filterMap (·.1) = ks := by rfl)
    (hpl : ((backTo pos (starEach [] X.env)).any (·.1) || (backToKw pos (keywordEach kws X.env)).any (·.1.isNone)) = false := by rfl)
    (ht : eval (.Call (.Attribute o m apos) [] kws pos) X.env = (do
      let ov ← eval o X.env
      standAt apos.atName
      let (f, first) ← holding [ov] (getMethod ov m pl)
      callWith pos f first (backTo pos (starEach [] X.env)) (backToKw pos (keywordEach kws X.env))) := by rfl) :
    PE X (.Call (.Attribute o m apos) [] kws pos) (tMethK C m sp E ta tk) := by
  refine ⟨fun pins s σ H Q I h => ?_⟩
  refine PySem.W.methodCall_KW (pl := pl) (thn (he.run pins s σ H _ I h) fun u s1 ⟨x, H1, I1, rx, a, dx, fs, ex, ea, l, q⟩ => ?_) ht
  subst ex
  obtain rfl : u = Value.ref a := rx
  refine getmeth_ok I1 ea c hm l ?_
  refine PySem.W.callWith_KW0 (first := [.ref a]) (h₀ := X.base) I.ok.mod.kin hm.kp hall (thn (hkw.run pos pins s1 σ H1 _ I1 q) fun ws s2 ⟨zs, H2, I2, rz, q2⟩ => ⟨I2.kIn, ?_⟩) hpl
  rw [hks, List.append_nil]
  have r2 : Vals (.ref a :: zs) (.ref a :: ws) := .cons rfl rz
  have hl : ws.length = ks.length := by
    have h1 := F.len _ _ _ _ q2
    have h2 := rz.length
    simp at h1
    omega
  refine wpAny_call (codeAny_mono (F.run X.A X.stack s2 H2 ⟨[.ref a], ks.zip ws⟩ (.ref a :: ws) (.ref a :: zs) Q E hr I2.env0 (hb s2 (.ref a) ws hl) r2 q2) fun r s' hq => ?_)
  cases r with
  | error e => exact hx pins σ H2 s2 e s' I2 hq
  | ok fl =>
    cases fl with
    | ret u => exact I2.after hq
    | _ => exact False.elim hq
end
end Bk
end
section
/-! Own errors whose __init__ says super().__init__(text) and keeps one field, under any built-in error. -/
namespace PySem
namespace Bk
open PySem.W PySem.Calls PyProof.Rows PySem.HandSPX
def eA (n : Str) (p1 p2 : Pos) : Arguments := { posonlyargs := [], args := [{ arg := "self", annotation := none, pos := p1 }, { arg := n, annotation := none, pos := p2 }], vararg := none, kwonlyargs := [], kw_defaults := [], kwarg := none, defaults := [] }
def eB (n msg : Str) (q0 q1 q2 q3 q4 q5 q6 q7 q8 q9 : Pos) : List Stmt := [.Expr (.Call (.Attribute (.Call (.Name "super" q0) [] [] q1) "__init__" q2) [.Constant (.str msg) 0 q3] [] q4) q5, .Assign [.Attribute (.Name "self" q6) n q7] (.Name n q8) q9]
def eS (n : Str) : Scope := { kind := .function, names := [("self", .local), (n, .local), ("__class__", .free), ("super", .globalImplicit)], isGenerator := false, isCoroutine := false, more := [] }
/-- what an error's own __init__ needs of the built-in one -/
structure IniF (initId B : String) : Prop where
  kind : builtinKind initId = some .slot
  row : Manifest.signature? initId = some ⟨.positional, "*", B, .self, [⟨"args", .varPos, false⟩]⟩
  star : (B != "*") = true
  plain : plainId initId = true
  entry : entryFor table initId = some Builtin.«BaseException.__init__»
theorem iniF_V : IniF "ValueError.__init__" "ValueError" := ⟨F.excCall_ValueError.initKind, F.excCall_ValueError.initRow, F.excCall_ValueError.noStar, F.excCall_ValueError.init.plain, F.excCall_ValueError.initEntry⟩
theorem iniF_K : IniF "KeyError.__init__" "KeyError" := ⟨excClass_KeyError.initKind, excClass_KeyError.initSig, excClass_KeyError.notStar, excClass_KeyError.init.plain, excClass_KeyError.initEntry⟩
theorem kxs_K : KxsFacts "KeyError" "KeyError.__init__" := ⟨by show builtinType _ = _; rw [builtinType_eq_fast]; kernel_rfl, by first | kernel_rfl | rfl⟩
/-- the mro behind the own class -/
structure TailF (OB B : String) (bm : List Value) : Prop where
  hOB : bm.contains (.type OB) = true
  noA : bm.contains (.type "AttributeError") = false
  noN : bm.contains (.type "NameError") = false
  hO : bm.contains (.type "object") = true
  pass : ∀ self : Value, refuseLoop self "__setattr__" bm = pure ()
/-- super().__init__(msg) is a call of a method, its name and its ( on one line -/
def SupAt (msg : Str) (q0 q1 q2 q3 q4 : Pos) : Prop := ∃ pl : Sem Bool, ∀ env : Env, eval (.Call (.Attribute (.Call (.Name "super" q0) [] [] q1) "__init__" q2) [.Constant (.str msg) 0 q3] [] q4) env = (do
  let ov ← attributeBase (.Call (.Name "super" q0) [] [] q1) "__init__" env (eval (.Call (.Name "super" q0) [] [] q1) env)
  standAt q2.atName
  let (f, first) ← holding [ov] (getMethod ov "__init__" pl)
  callWith q4 f first (backTo q4 (starEach [.Constant (.str msg) 0 q3] env)) [])
/-- what the written part says of an own error -/
structure ErrT (P : Program) (K : Frag) (mg : Str → Option Value) (OB newId B initId : String) (x n : Str) (C fI : Addr) : Prop where
  gC : mg x = some (.ref C)
  cls : ∃ nm q N bs bm sn sub ab col dd k0 k1 k2 k3 k5, K.lookup C = some (excClassObj nm q C N bs bm true sn sub ab col dd k0 k1 k2 k3 k5 newId) ∧ TailF OB B bm
  sup : ks_superIn K C C "__init__" = some (some (.builtin initId))
  sa : findIn K (.ref C) "__setattr__" = some (some (.builtin "object.__setattr__"))
  noN : findIn K (.ref C) n = some none
  iC : findIn K (.ref C) "__init__" = some (some (.ref fI))
  tC : typeIn K (.ref fI) = some (.type "function")
  kC : keepIn K (.ref C) = true
  exC : subIn K (.ref C) (.type "BaseException") = some true
  tyC : typeIn K (.ref C) = some (.type "type")
  hdC : hasDictIn K C = true
  subB : subIn K (.ref C) (.type B) = some true
  subC : mroIn K C (.ref C) = some true
  any : nsIn K cStatics "thirdparty.any" = some none
  topS : (P.main.scope.names.lookup ("super" : Str)).isSome = false
  mS : mg "super" = none
  bS : bootBuiltins "super" = some (.type "super")
  fn : ∃ (oc : Value) (od : Option Addr) (qual : Str) (doc pm : Value) (an : Option Addr) (cda : Addr) (ct : Value) (cc : Addr) (osl : Array (Option Value)) (msg : Str) (p1 p2 q0 q1 q2 q3 q4 q5 q6 q7 q8 q9 : Pos),
    K.lookup fI = some ⟨oc, od, .func (ksFn "__init__" qual (eA n p1 p2) (eB n msg q0 q1 q2 q3 q4 q5 q6 q7 q8 q9) (eS n) .none .none doc pm an (.ref cda) ct cc), osl⟩ ∧ codeIn K (.ref cda) qual = true ∧
    (∃ ccl cdd vs ccs file tf, K.lookup cda = some ⟨ccl, cdd, .fields vs, ccs⟩ ∧ vs[2]? = some (.str file tf) ∧ ((P.main.file : Str) == file) = true) ∧
    (∃ cl cld csl, K.lookup cc = some ⟨cl, cld, .cell (some (.ref C)), csl⟩) ∧ SupAt msg q0 q1 q2 q3 q4
  nn : n = "at" ∨ n = "state" ∨ n = "pair"
section
variable {M : Model} {A : Around} {E : Value → Shared → Prop} {h : Heap} {g : Array GenState} {d : Drawn} {t : Nat} {os : OsState}
variable {nm q : Str} {C N : Addr} {bs bm bmO : List Value} {hdct : Bool} {sn : List Str} {sub : List Value} {ab : Bool} {col : Option Bool} {dd : Option Addr} {k0 k1 k2 k3 k5 : Option Value} {OB B newId iO initId : String}
theorem cb_ini (FI : IniF initId B) {e : Addr} {oe : Obj} {rest : List Value} {Q : Unit → Shared → Prop} (hC : h.get? C = some (excClassObj nm q C N bs bm hdct sn sub ab col dd k0 k1 k2 k3 k5 newId)) (he : h.get? e = some oe) (hcls : oe.cls = .ref C)
    (hq : Q () ⟨h, g, d, t, os⟩) : wpAny M A (checkBoundCall initId ⟨.ref e :: rest, []⟩) Q E ⟨h, g, d, t, os⟩ := by
  have st := FI.star
  simp only [checkBoundCall, FI.kind, FI.row]
  repeat (first
    | (with_reducible refine wpAny_loadPart_at he ?_
       rw [hcls])
    | with_reducible refine wpAny_loadPart_at hC ?_
    | wp_step)
  refine wpAny_onRaise ?_
  have z : ∀ (a b : String) (n : Nat), Bind.check ⟨.positional, "*", B, .self, [⟨"args", .varPos, false⟩]⟩ a b n (List.map (fun x => x.fst) ({ pos := Value.ref e :: rest } : Args).kw) = pure () := fun a b n => check_star_args _ _ _ _ _ _
  rw [z]
  exact wpAny_pure hq
theorem cn_own (FO : ExcBaseFacts OB newId iO bmO) (T : TailF OB B bm) {rest : List Value} {Q : Unit → Shared → Prop} (hC : h.get? C = some (excClassObj nm q C N bs bm hdct sn sub ab col dd k0 k1 k2 k3 k5 newId)) (hq : Q () ⟨h, g, d, t, os⟩) :
    wpAny M A (checkBuiltinCall newId ⟨.ref C :: rest, []⟩) Q E ⟨h, g, d, t, os⟩ := by
  have hin : (Value.ref C :: bm).contains (.type OB) = true := by
    rw [List.contains_cons, T.hOB, Bool.or_true]
  have st := FO.noStar
  simp only [checkBuiltinCall, FO.newKind, FO.newSplit, FO.newRow]
  repeat (first
    | refine wpAny_loadPart_at hC ?_
    | (refine wpAny_isSubtype_exc hC ?_
       rw [hin])
    | refine wpAny_staticBase_exc hC ?_
    | refine wpAny_madeBy_exc hC ?_
    | simp only [bne_self_eq_false, Bool.false_eq_true, if_false]
    | wp_step)
  exact hq
end
section
variable {prog : Program} {w : World} {A : Around} {E : Value → Shared → Prop} {R : Result → Shared → Prop} {h : Heap} {g : Array GenState} {d : Drawn} {t : Nat} {os : OsState}
variable {nm q : Str} {C N : Addr} {bs bm bmO : List Value} {hdct : Bool} {sn : List Str} {sub : List Value} {ab : Bool} {col : Option Bool} {dd : Option Addr} {k0 k1 k2 k3 k5 : Option Value} {OB B newId iO initId : String}
theorem nw_own (FO : ExcBaseFacts OB newId iO bmO) (T : TailF OB B bm) {rest : List Value} (hC : h.get? C = some (excClassObj nm q C N bs bm hdct sn sub ab col dd k0 k1 k2 k3 k5 newId))
    (hq : R (.ok (.ret (.ref (h.objs.size + 1)))) ⟨(h.push (W.kdv_tup rest)).push (excO C h.objs.size), g, d, t, os⟩) (hrest : rest.length ≤ sizeLine) : codeAny (model prog w) A (.builtin newId ⟨.ref C :: rest, []⟩) R ⟨h, g, d, t, os⟩ := by
  have en := FO.ends
  have hin : (Value.ref C :: bm).contains (.type OB) = true := by
    rw [List.contains_cons, T.hOB, Bool.or_true]
  have hiA : (Value.ref C :: bm).contains (.type "AttributeError") = false := by
    rw [List.contains_cons, T.noA]
    rfl
  have hiN : (Value.ref C :: bm).contains (.type "NameError") = false := by
    rw [List.contains_cons, T.noN]
    rfl
  refine codeAny_builtinAt FO.entry ?_
  unfold Builtin.«BaseException.__new__»
  refine wpAt_bind ?_
  show wpAt _ _ _ (stack >>= _) _ _ _
  refine wpAt_bind (wpAt_stack fun p below => wpAt_of_wpAny ?_)
  wp_walk
  refine wpAt_of_wpAny ?_
  rw [FO.owner]
  repeat (first
    | with_reducible refine wpAny_madeHere_exc FO.canon hC ?_
    | with_reducible refine wpAny_loadPart_at hC ?_
    | (with_reducible refine wpAny_isSubtype_exc hC ?_
       first | rw [hin] | rw [hiA] | rw [hiN])
    | wp_step)
  show R _ _
  rw [Heap.size_push]
  exact hq
theorem tc_own (FO : ExcBaseFacts OB newId iO bmO) (T : TailF OB B bm) {rest : List Value} {fI : Addr} {Q : Fin → Shared → Prop} (hC : h.get? C = some (excClassObj nm q C N bs bm hdct sn sub ab col dd k0 k1 k2 k3 k5 newId))
    (hi : W.Looks (model prog w) h (typeLookup (.ref C) "__init__") (some (.ref fI))) (hb : ∀ self, W.Looks (model prog w) h (bindSpecial (.ref fI) self) (.ref fI, [self])) (hrest : rest.length ≤ sizeLine)
    (hq : codeAny (model prog w) A (.call (.ref fI) ⟨.ref (h.objs.size + 1) :: rest, []⟩) (fun r s' => match r with | .ok (.ret v) => v = .none ∧ Q (.done (.ret (.ref (h.objs.size + 1)))) s' | .ok _ => False | .error e => E e s') ⟨(h.push (W.kdv_tup rest)).push (excO C h.objs.size), g, d, t, os⟩) :
    wpAny (model prog w) A (Builtin.«type.__call__» ⟨.ref C :: rest, []⟩) Q E ⟨h, g, d, t, os⟩ := by
  repeat (first
    | with_reducible refine wpAny_loadPart_at hC ?_
    | with_reducible refine wpAny_madeBy_exc hC ?_
    | wp_step)
  refine codeAny_call_builtin_code (Code.quiet_builtin _ FO.quiet) (cn_own FO T hC ?_)
  refine nw_own FO T hC ?_ hrest
  show wpAny _ _ _ _ _ _
  have kk : ∀ b o, h.get? b = some o → ((h.push (W.kdv_tup rest)).push (excO C h.objs.size)).get? b = some o := fun b o e => Heap.get?_push_of_some _ (Heap.get?_push_of_some _ e)
  have hC1 := kk _ _ hC
  have hg1 : ((h.push (W.kdv_tup rest)).push (excO C h.objs.size)).get? (h.objs.size + 1) = some (excO C h.objs.size) := by
    heap_get
  have hCC : (Value.ref C :: bm).contains (.ref C) = true := by simp
  have i1 := hi.keeps kk
  have b1 := (hb (.ref (h.objs.size + 1))).keeps kk
  unfold isInstance
  repeat (first
    | with_reducible refine wpAny_loadPart_at hg1 ?_
    | (with_reducible refine wpAny_isSubtype_exc hC1 ?_
       rw [hCC])
    | wp_step)
  show wpAny _ _ (typeLookup (.ref C) _) _ _ _
  refine i1.at ?_
  refine wpAny_holding (wpAny_bind (b1.at ?_))
  refine wpAny_bind (wpAny_call (codeAny_mono hq fun r s' z => ?_))
  rcases r with e | (v | _ | _ | _) <;> first | exact z | exact z.elim | skip
  obtain ⟨rfl, z⟩ := z
  first
    | exact wpAny_pure (wpAny_pure z)
    | (wp_walk
       exact z)
theorem call_err (FO : ExcBaseFacts OB newId iO bmO) (T : TailF OB B bm) {rest : List Value} {fI : Addr} (hC : h.get? C = some (excClassObj nm q C N bs bm hdct sn sub ab col dd k0 k1 k2 k3 k5 newId))
    (hi : W.Looks (model prog w) h (typeLookup (.ref C) "__init__") (some (.ref fI))) (hb : ∀ self, W.Looks (model prog w) h (bindSpecial (.ref fI) self) (.ref fI, [self])) (hrest : rest.length ≤ sizeLine)
    (hq : codeAny (model prog w) (A.under (.builtin "type.__call__" ⟨.ref C :: rest, []⟩)) (.call (.ref fI) ⟨.ref (h.objs.size + 1) :: rest, []⟩) (W.InitBack (h.objs.size + 1) R) ⟨(h.push (W.kdv_tup rest)).push (excO C h.objs.size), g, d, t, os⟩) :
    codeAny (model prog w) A (.call (.ref C) ⟨rest, []⟩) R ⟨h, g, d, t, os⟩ := by
  have f1 := tc_lookup
  have f2 := tc_bind (.ref C)
  have hTy : (⟨h, g, d, t, os⟩ : Shared).TypeIs (.ref C) "type" := ⟨_, hC, rfl⟩
  refine codeAny_of_tree ?_
  show wpAny _ _ (callAny (.ref C) _) _ _ _
  repeat (any_goals (first
    | assumption
    | with_reducible refine wpAny_loadPart_at hC ?_
    | wp_step))
  refine ⟨rfl, ?_⟩
  refine codeAny_call_builtin_at (Code.quiet_builtin _ (by decide +kernel)) entry_typeCall (wpAny_check_type_call_sub hC (tc_own FO T hC hi hb hrest ?_))
  refine codeAny_mono hq fun r s' z => ?_
  rcases r with e | (v | _ | _ | _) <;> exact z
end
section
open Builtin Builtin.ObjectAttr
variable {prog : Program} {w : World} {A : Around} {E : Value → Shared → Prop} {R : Result → Shared → Prop} {hp : Heap} {g : Array GenState} {d : Drawn} {t : Nat} {os : OsState}
theorem ini_call {nm q : Str} {C N : Addr} {bs bm : List Value} {hdct : Bool} {sn : List Str} {sub : List Value} {ab : Bool} {col : Option Bool} {dd : Option Addr} {k0 k1 k2 k3 k5 : Option Value} {B newId initId : String} (FI : IniF initId B) {u e t0 : Addr} {rest : List Value} {Q : Value → Shared → Prop}
    (hC : hp.get? C = some (excClassObj nm q C N bs bm hdct sn sub ab col dd k0 k1 k2 k3 k5 newId)) (he : hp.get? e = some (excO C t0)) (hu : hp.get? u = some (kxs_mw initId e)) (hrest : rest.length ≤ sizeLine)
    (hq : ∀ h' t1, (∀ b o, b ≠ e → hp.get? b = some o → h'.get? b = some o) → h'.get? e = some (excO C t1) → Q .none ⟨h', g, d, t, os⟩) :
    wpAny (model prog w) A (call (.ref u) rest) Q E ⟨hp, g, d, t, os⟩ := by
  refine wpAny_call (codeAny_of_tree ?_)
  show wpAny _ A.in1 (callAny (.ref u) ⟨rest, []⟩) _ _ _
  simp only [callAny]
  refine wpAny_bind (wpAny_load hu ?_)
  simp only [kxs_mw, show (Value.type "method-wrapper" == Value.type "method" || Value.type "method-wrapper" == Value.type "builtin_function_or_method" || Value.type "method-wrapper" == Value.type "method-wrapper") = true by decide, if_true]
  refine KFB.if_so (by decide) ?_
  refine wpAny_bind (cb_ini FI hC he rfl ?_)
  refine wpAny_bind (wpAny_pure (wpAny_pure ?_))
  refine ⟨plainId_quiet FI.plain _, codeAny_builtin FI.entry ?_⟩
  exact exc_init_tree (cls := .ref C) (t0 := t0) (dv := none) (c2 := .none) (c3 := .none) (b4 := .bool false) he hrest fun h' k e' _ => hq h' _ k e'
/-- self.n = v on an error that has no dict yet -/
theorem osa_err {K : W.Frag} {name : Str} {tk : Tok} {v : Value} {x C : Addr} {fv : Array Value} {cd : ClassData} {bm : List Value} (X : K.In hp) (hx : hp.get? x = some { cls := .ref C, data := .fields fv }) (hcd : W.clsIn K C = some cd) (hm : cd.mro = .ref C :: bm)
    (hO : bm.contains (.type "object") = true) (hpass : ∀ self : Value, refuseLoop self "__setattr__" bm = pure ()) (hh : cd.hasDict = true) (ha : W.findIn K (.ref C) name = some none)
    (hq : ∀ h' tk' dx, (∀ b o, b ≠ x → hp.get? b = some o → h'.get? b = some o) → hp.objs.size ≤ dx → dx ≠ x → h'.get? x = some { cls := .ref C, dict := some dx, data := .fields fv } → h'.Ns1 dx (fun y => if y = name then some v else none) →
      R (.ok (.ret .none)) ⟨h', g, d, tk', os⟩) :
    codeAny (model prog w) A (.call (.builtin "object.__setattr__") ⟨[.ref x, .str name tk, v], []⟩) R ⟨hp, g, d, t, os⟩ := by
  have I : W.InstAt hp x { cls := .ref C, data := .fields fv } C none := ⟨hx, rfl, rfl, trivial⟩
  have SF := F.store_object
  have hob : cd.mro.contains (.type "object") = true := by
    rw [hm, List.contains_cons, hO, Bool.or_true]
  have hxs : x ≠ hp.objs.size := Nat.ne_of_lt (Heap.lt_size hx)
  have hmi : W.mroIn K C (.type "object") = some true := by
    unfold W.mroIn
    rw [hcd, Option.bind_some, if_neg (by rw [hm]; exact Bool.false_ne_true), hob]
  have sub : W.Looks (model prog w) hp (isInstance (.ref x) (.type "object")) true := I.type.andThen (W.looks_mroIn X hmi)
  refine codeAny_call_builtin SF.slot.plain SF.entry (@W.check_slot (model prog w) _ _ ⟨hp, g, d, t, os⟩ "object.__setattr__" "object" "__setattr__" (.ref x) [.str name tk, v] [] _ SF.kind SF.split sub (SF.args (.ref x) (.str name tk) v) ?_)
  have hmr : W.Looks (model prog w) hp (mroOf (.ref C)) cd.mro := (W.looks_clsIn X hcd).andThen .now
  have L3 : W.Looks (model prog w) hp (storeTaker? none) none := .now
  have hcls : W.Looks (model prog w) hp (classData C) cd := W.looks_clsIn X hcd
  rw [W.osa_eq, refuse_eq]
  refine wpAny_bind (wpAny_bind (I.type.at (wpAny_bind (hmr.at ?_))))
  rw [hm, refuseLoop_ref, hpass]
  refine wpAny_pure (wpAny_bind (I.type.at (wpAny_bind ((W.looks_findIn X ha).at (wpAny_bind (L3.at ?_))))))
  show wpAny _ _ (storeInOwnDict (.ref x) (.ref C) (.str name tk) name v false) _ _ _
  obtain ⟨nm, bs, mro, ns, qn, hd, sn, sb, ab, col, del⟩ := cd
  dsimp only at hh
  subst hh
  unfold storeInOwnDict ownDictForStores
  repeat (first
    | with_reducible refine store_in_new ?_ ?_
    | with_reducible refine wpAny_loadPart_at hx ?_
    | with_reducible refine hcls.at ?_
    | wp_step)
  · exact ⟨_, #[], _, (Heap.get?_update_ne _ _ _ _ hxs.symm).trans (Heap.get?_push_at rfl rfl), rfl, fun e he => absurd he (by simp), fun _ => rfl⟩
  · intro h' tk' hn' hs
    have hx1 : (hp.push { cls := .type "dict", data := .dict #[] }).get? x = some { cls := .ref C, data := .fields fv } := Heap.get?_push_of_some _ hx
    refine hq h' tk' hp.objs.size (fun b o hb ho => ?_) (Nat.le_refl _) hxs.symm ?_ hn'
    · exact (hs.2 b (Nat.ne_of_lt (Heap.lt_size ho))).trans ((Heap.get?_update_ne _ _ _ _ hb).trans (Heap.get?_push_of_some _ ho))
    · exact (hs.2 x hxs).trans (Heap.get?_update_self _ hx1 rfl)
end
/-- what __init__ leaves of a fresh error at x -/
structure ErEnd (h h' : Heap) (x C dx t1 : Addr) (n : Str) (v : Value) : Prop where
  keep : ∀ b o, b ≠ x → h.get? b = some o → h'.get? b = some o
  obj : h'.get? x = some { cls := .ref C, dict := some dx, data := .fields #[.ref t1, .none, .none, .none, .bool false, .none] }
  dbig : h.objs.size ≤ dx
  dne : dx ≠ x
  ns : h'.Ns1 dx (fun y => if y = n then some v else none)
/-- a made error -/
structure ErMade (h h' : Heap) (e C d : Addr) (n : Str) (v : Value) : Prop where
  keep : ∀ b o, h.get? b = some o → h'.get? b = some o
  new : h.objs.size ≤ e
  obj : ∃ oe vs, h'.get? e = some oe ∧ oe.cls = .ref C ∧ oe.dict = some d ∧ oe.data = .fields vs ∧ vs[1]? = some .none
  dbig : h.objs.size ≤ d
  dne : d ≠ e
  ns : h'.Ns1 d (fun y => if y = n then some v else none)
section
variable {P : Program} {w : World} {A : Around} {E : Value → Shared → Prop} {R : Result → Shared → Prop} {s : Shared} {K : Frag} {mg mb : Str → Option Value} {OB newId B initId : String} {xn n : Str} {C fI : Addr}
theorem er_init (T : ErrT P K mg OB newId B initId xn n C fI) (KF : KxsFacts B initId) (FI : IniF initId B) {x t0 : Addr} {v : Value} (X : K.In s.heap) (hg : s.heap.Ns mainGlobals mg) (hb : s.heap.Ns builtinsNs mb) (hbs : mb "super" = some (.type "super")) (hlim : s.heap.NoLimit)
    (hx : s.heap.get? x = some (excO C t0)) (hnx : K.lookup x = none) (hroom : A.depth < recursionLimit) (hq : ∀ h' tk dx t1, ErEnd s.heap h' x C dx t1 n v → R (.ok (.ret .none)) { s with heap := h', toks := tk }) :
    codeAny (model P w) A (.call (.ref fI) ⟨[.ref x, v], []⟩) R s := by
  obtain ⟨oc, od, qual, doc, pm, an, cda, ct, cc, osl, msg, p1, p2, q0, q1, q2, q3, q4, q5, q6, q7, q8, q9, ho, hcd, ⟨ccl, cdd, vs, ccs, file, tf, hcda, hvs, hfile⟩, ⟨cl, cld, csl, hcc⟩, pl, he⟩ := T.fn
  obtain ⟨nm, q, N, bs, bm, sn, sub, ab, col, dd, k0, k1, k2, k3, k5, hC, tl⟩ := T.cls
  have hcl : clsIn K C = some { name := nm, bases := bs, mro := .ref C :: bm, ns := N, qualname := q, hasDict := true, slotNames := sn, subclasses := sub, abstract := ab, collection := col, hasDel := false } := by
    unfold clsIn
    rw [hC]
  have ls : ∀ y ∈ [(("self" : Str), Value.ref x), (n, v)], (eS n).names.lookup y.1 = some .local := by
    rcases T.nn with e | e | e <;> subst e <;> (intro y hy; rcases List.mem_cons.mp hy with e | hy; · (subst e; rfl)) <;> (rcases List.mem_cons.mp hy with e | hy; · (subst e; rfl)) <;> cases hy
  have lu : (eS n).names.lookup ("super" : Str) = some .globalImplicit := by
    rcases T.nn with e | e | e <;> subst e <;> rfl
  have lc : (eS n).names.lookup ("__class__" : Str) = some .free := by
    rcases T.nn with e | e | e <;> subst e <;> rfl
  have nc : ∀ y ∈ (eS n).names, y.2 ≠ .cell := by
    rcases T.nn with e | e | e <;> subst e <;> decide
  have nd : (n == ("__debug__" : Str)) = false := by
    rcases T.nn with e | e | e <;> subst e <;> decide
  refine ks_codeAny_call_defAt (binds := [("self", .ref x), (n, v)]) hroom (X _ _ ho) rfl hlim (codeRec_of X hcd) rfl (BindsTo.of_eq (by rcases T.nn with e | e | e <;> subst e <;> rfl)) nc ls fun h0 hns hk => ?_
  have rs : List.lookup ("self" : Str) [(("self" : Str), Value.ref x), (n, v)].reverse = some (.ref x) := by
    rcases T.nn with e | e | e <;> subst e <;> rfl
  have rn : List.lookup n [(("self" : Str), Value.ref x), (n, v)].reverse = some v := by
    rcases T.nn with e | e | e <;> subst e <;> rfl
  obtain ⟨hh, gg, dr, tk, os⟩ := s
  have X0 : K.In h0 := X.keeps hk
  have hx0 := hk _ _ hx
  have ne0 : hh.objs.size ≠ x := Nat.ne_of_gt (Heap.lt_size hx)
  refine ks_wpAt_execs_cons (ks_wpAt_Expr_any (ks_wpAt_MethodCall (he := he _) (ks_wpAt_super_base (f := fI) (cc := cda) lu lc (by decide) rfl (X0 _ _ ho) rfl rfl rfl (X0 _ _ hcda) rfl hvs hfile T.topS ?_)))
  refine ks_loadName_global rfl lu (loadGlobal_builtin (env := callEnv _ _ _) (hg.keeps hk) T.mS (hb.keeps hk) hbs ⟨rfl, ?_⟩)
  refine wpAny_loadName_free rfl lc rfl ⟨_, X0 _ _ hcc, rfl⟩ ?_
  refine wpAny_loadName_local rfl (ls _ List.mem_cons_self) hns rs ?_
  refine ks_wpAny_isType_cls (X0 _ _ hC) rfl ⟨rfl, ?_⟩
  refine ks_wpAny_call_super (X0 _ _ hC) rfl hx0 rfl (fun c e => by cases e) (looks_mroIn X0 T.subC) (fun h1 hso k1 => ?_)
  have X1 : K.In h1 := X0.keeps k1
  have hx1 := k1 _ _ hx0
  have I1 : InstAt h1 x (excO C t0) C none := ⟨hx1, rfl, rfl, trivial⟩
  have hal : alongIn K "__init__" bm = some (some (.builtin initId)) := by
    have z := T.sup
    unfold ks_superIn at z
    rw [hcl] at z
    simpa [List.dropWhile] using z
  refine kxs_getMethod KF hso (looks_opaque X1 T.any) (l₀ := .ref C :: bm) (l := bm) ((looks_clsIn X1 hcl).andThen .now) (by simp [List.dropWhile]) X1 hal (I1.type.andThen (looks_subIn X1 T.subB)) (ks_ne X1 I1 hcl) (by decide) ?_
  have hmw : (h1.push (kxs_mw initId x)).get? h1.objs.size = some (kxs_mw initId x) := Heap.get?_push_at rfl rfl
  have k2 : ∀ b o, h1.get? b = some o → (h1.push (kxs_mw initId x)).get? b = some o := fun b o e => Heap.get?_push_of_some _ e
  refine kxs_callWith (i := initId) (x := x) rfl (evalArgs_plain (spliced_cons (wpAny_Constant_str (k := 0) (pos := q3) (spliced_nil ⟨hmw, ?_⟩))))
  refine ini_call FI (k2 _ _ (k1 _ _ (hk _ _ (X _ _ hC)))) (k2 _ _ hx1) hmw (by rw [sizeLine_eq]; exact (by decide : 1 ≤ 16777216)) fun h2 t1 k3 hx2 => ?_
  have k13 : ∀ b o, b ≠ x → h0.get? b = some o → h2.get? b = some o := fun b o hb e => k3 b o hb (k2 _ _ (k1 _ _ e))
  have hns2 : h2.Ns hh.objs.size (fun y => [(("self" : Str), Value.ref x), (n, v)].reverse.lookup y) := hns.at fun o e => k13 _ _ ne0 e
  have X2 : K.In h2 := fun b o e => by
    by_cases hb : b = x
    · rw [hb, hnx] at e
      cases e
    · exact k13 _ _ hb (X0 _ _ e)
  refine ks_wpAt_execs_cons (wpAt_of_wpAny (plainObj_wpAny_Assign_Attribute ?_))
  refine wpAny_Name (wpAny_loadName_local rfl (ls _ (List.mem_cons_of_mem _ List.mem_cons_self)) hns2 rn ?_) nd
  refine wpAny_Name (wpAny_loadName_local rfl (ls _ List.mem_cons_self) hns2 rs ?_)
  refine set_plain X2 (ox := excO C t1) (od := none) ⟨hx2, rfl, rfl, trivial⟩ T.sa ?_
  refine osa_err X2 hx2 hcl rfl tl.hO tl.pass rfl T.noN (fun h3 tk3 dx k4 dn dne hx3 hn3 => ?_)
  refine wpAt_of_wpAny (wpAny_execs_nil (hq h3 tk3 dx t1 ⟨fun b o hb e => k4 b o hb (k13 b o hb (hk b o e)), hx3, Nat.le_trans ?_ dn, dne, hn3⟩))
  exact Nat.le_of_lt hns2.lt
theorem er_made {iO : String} {bmO : List Value} (T : ErrT P K mg OB newId B initId xn n C fI) (FO : ExcBaseFacts OB newId iO bmO) (KF : KxsFacts B initId) (FI : IniF initId B) {v : Value} (X : K.In s.heap) (hg : s.heap.Ns mainGlobals mg) (hb : s.heap.Ns builtinsNs mb)
    (hbs : mb "super" = some (.type "super")) (hlim : s.heap.NoLimit) (hroom : A.depth + 1 < recursionLimit) (hq : ∀ h' tk e d, ErMade s.heap h' e C d n v → R (.ok (.ret (.ref e))) { s with heap := h', toks := tk }) :
    codeAny (model P w) A (.call (.ref C) ⟨[v], []⟩) R s := by
  obtain ⟨nm, q, N, bs, bm, sn, sub, ab, col, dd, k0, k1, k2, k3, k5, hC, tl⟩ := T.cls
  obtain ⟨hp, g, dr, tk, os⟩ := s
  have kk : ∀ b o, hp.get? b = some o → ((hp.push (kdv_tup [v])).push (excO C hp.objs.size)).get? b = some o := fun b o e => Heap.get?_push_of_some _ (Heap.get?_push_of_some _ e)
  have hge : ((hp.push (kdv_tup [v])).push (excO C hp.objs.size)).get? (hp.objs.size + 1) = some (excO C hp.objs.size) := by
    heap_get
  have hnx : K.lookup (hp.objs.size + 1) = none := by
    cases e : K.lookup (hp.objs.size + 1) with
    | none => rfl
    | some o =>
      have z : hp.get? (hp.objs.size + 1) = some o := X _ _ e
      exact absurd (Nat.lt_of_succ_lt (Heap.lt_size z)) (Nat.lt_irrefl _)
  refine call_err FO tl (X _ _ hC) (looks_findIn X T.iC) (fun self => bind_fn X self T.tC) (by rw [sizeLine_eq]; exact (by decide : 1 ≤ 16777216)) ?_
  refine er_init (s := ⟨(hp.push (kdv_tup [v])).push (excO C hp.objs.size), g, dr, tk, os⟩) T KF FI (X.keeps kk) (hg.keeps kk) (hb.keeps kk) hbs (hlim.keeps kk) hge hnx hroom fun h' tk' dx t1 ⟨k', hx, dn, dne, hns⟩ => ?_
  have old : ∀ b o, hp.get? b = some o → h'.get? b = some o := fun b o e => k' b o (Nat.ne_of_lt (Nat.lt_succ_of_lt (Heap.lt_size e))) (kk b o e)
  have z : hp.objs.size + 1 + 1 ≤ dx := by
    rw [Heap.size_push, Heap.size_push] at dn
    exact dn
  exact ⟨rfl, hq h' tk' (hp.objs.size + 1) dx ⟨old, Nat.le_succ _, ⟨_, _, hx, rfl, rfl, rfl, rfl⟩, Nat.le_trans (Nat.le_trans (Nat.le_succ _) (Nat.le_succ _)) z, dne, hns⟩⟩
end
end Bk
end PySem
namespace Bk
open PySem L2 LamX PySem.Spec PyProof.Rows
theorem relO_one {n : Str} {v : V} {u : Value} (r : RelV v u) (f : Str) : RelO (List.lookup f [(n, v)]) (if f = n then some u else none) := by
  by_cases e : f = n
  · subst e
    rw [if_pos rfl, List.lookup_cons, show (f == f) = true by simp]
    exact r
  · have z : (f == n) = false := by simpa using e
    rw [if_neg e, List.lookup_cons, z]
    trivial
section
variable {X : Cx} {OB newId B initId iO : String} {bmO : List Value} {x n : Str} {C fI : Addr}
/-- C(e): a new error of the class at C, its field n -/
def tMkE (C : Addr) (n : Str) (ta : TA) : L2.St → Hp → XK → Prop := fun σ H Q => ta σ H fun vs H1 => ∃ v, vs = [v] ∧ ∀ d, H1 d = none → Q (.ref C) (some d) (upd H1 d (.xd [(n, v)]))
theorem pmk_err {a : Expr} {ta : TA} {p pos : Pos} {k : Nat} (T : PySem.Bk.ErrT X.prog X.K X.mg OB newId B initId x n C fI) (FO : ExcBaseFacts OB newId iO bmO) (KF : PySem.W.KxsFacts B initId) (FI : PySem.Bk.IniF initId B) (hr : Room k X.A) (ha : PA X [a] ta) (hg : Gl X x := by rfl)
    (hdb : (x == ("__debug__" : Str)) = false := by decide) (he : starEach (a :: []) X.env = (false, eval a X.env) :: starEach [] X.env := by rfl) (hpl : (backTo pos (starEach [] X.env)).any (·.1) = false := by rfl) :
    PMk X (.Call (.Name x p) [a] [] pos) (tMkE C n ta) := by
  intro pins s σ H Q I h
  refine wpAny_Call_Name_kw (ld_glob I hg T.gC ?_ hdb)
  refine PySem.W.callWith_K (h₀ := X.base) I.ok.mod.kin T.kC (thn (ha.run pos pins s σ H _ I h) fun us s1 hh => ?_) he hpl
  obtain ⟨vs, H1, I1, r1, v, ev, q1⟩ := hh
  subst ev
  refine ⟨I1.kIn, ?_⟩
  cases r1 with
  | @cons _ u _ us rv rn =>
    cases rn
    show wpAny _ _ (call (.ref C) [u]) _ _ _
    obtain ⟨mb, hmb, hbo⟩ := I1.ok.mod.blt
    have kb : ∀ b o, X.base.get? b = some o → s1.heap.get? b = some o := fun b o e => (I1.env0.bs b o e).1
    have hlim := I1.nolimit
    obtain ⟨hp, g, dr, tk, os⟩ := s1
    refine wpAny_call (PySem.Bk.er_made T FO KF FI I1.kIn (I1.ok.mod.glob.keeps kb) (hmb.keeps kb) ((hbo _ (by decide)).trans T.bS) hlim (by have := hr.dp; omega) fun h' tk' e d M => ?_)
    show MkP X pins σ Q (.ref e) ⟨h', g, dr, tk', os⟩
    obtain ⟨oe, fv, hoe, hc, hd, hdat, h1⟩ := M.obj
    have hns := M.ns
    obtain ⟨G, gs, gn⟩ := restrict h' fun b => decide (b ≠ e)
    have gk : ∀ b, b ≠ e → G.get? b = h'.get? b := fun b hb => gs b (decide_eq_true hb)
    have ge : G.get? e = none := gn e (by simp)
    have old : ∀ b o, hp.get? b = some o → G.get? b = some o := fun b o q => (gk b (Nat.ne_of_lt (Nat.lt_of_lt_of_le (Heap.lt_size q) M.new))).trans (M.keep b o q)
    have ob : ObjOk X.prog X.w (upd H1 d (.xd [(n, v)])) G d (.xd [(n, v)]) := ⟨_, hns.at (fun o q => (gk d M.dne).trans q), fun f => relO_one rv f⟩
    have J : L2.Inv X pins σ (upd H1 d (.xd [(n, v)])) ⟨G, g, dr, tk', os⟩ := I1.laid (t' := tk') old M.dbig ob
    refine ⟨e, oe, fv, ⟨G, g, dr, tk', os⟩, _, .ref C, some d, rfl, J, fun b o q => ?_, ge, hoe, ⟨hc, hd⟩, hdat, h1, ?_, rfl, I1.bare, raises_own T.exC T.tyC, q1 d (I1.hok.fresh M.dbig)⟩
    · by_cases hb : b = e
      · have q' : G.get? b = some o := q
        rw [hb, ge] at q'
        cases q'
      · exact (gk b hb).symm.trans q
    · rw [upd_ne (Ne.symm M.dne)]
      exact I1.hok.fresh M.new
end
/-! ### isinstance(e, c), e the caught error with a dict -/
structure ExcD (K : PySem.W.Frag) (D : Addr) : Prop where
  hc : (PySem.W.clsIn K D).isSome = true
  hg : PySem.W.findIn K (.ref D) "__getattribute__" = some (some (.builtin "BaseException.__getattribute__"))
  hk : PySem.W.findIn K (.ref D) "__getattr__" = some none
  hs : PySem.W.subIn K (.ref D) (.type "BaseException") = some true
  ha : PySem.W.findIn K (.ref D) "__class__" = some (some (.builtin "object.__class__"))
  hn : PySem.W.specialIn K (.builtin "object.__class__") "__get__" = some (some (.builtin "getset_descriptor.__get__"))
  ht : PySem.W.takesIn K (.builtin "object.__class__") = some true
  hm : PySem.W.mroIn K D (.type "object") = some true
def rIsD (K : PySem.W.Frag) (D a dd : Addr) : List V → Hp → VK → Prop := fun xs H Q => ∃ (c : V) (cv : Value) (b : Bool) (fs : List (Str × V)), xs = [.ref a, c] ∧ (∀ u, RelV c u → u = cv) ∧ PySem.W.kitOne K (.ref D) cv = some b ∧ H dd = some (.xd fs) ∧ Q (.bl b) H
theorem call_isD {X : Cx} {a D dd : Addr} {oe : Obj} {pn : List (Addr × Obj)} (C : ExcD X.K D) (hz : Zc (.ref D) (some dd) oe) (hf : ∃ vs, oe.data = .fields vs) : CallR (X.suite a ((a, oe) :: pn)) (.builtin "isinstance") (rIsD X.K D a dd) := by
  intro pins s σ H xs us Q I r h
  obtain ⟨c, cv, b, fs, rfl, hcv, e, hd, q⟩ := h
  cases r with
  | cons rx rr =>
    cases rr with
    | cons rt rr =>
      cases rr
      cases rx
      have ec := hcv _ rt
      subst ec
      obtain ⟨hget, _⟩ := I.pin (a, oe) (List.mem_append.mpr (.inl List.mem_cons_self))
      obtain ⟨vs, hv⟩ := hf
      have hx : ObjOk X.prog X.w H s.heap dd (.xd fs) := I.hok dd _ hd
      obtain ⟨mA, hns, _⟩ := hx
      obtain ⟨od, ho, _⟩ := lookIn_ns hns
      have J : PySem.W.InstAt s.heap a oe D (some od) := ⟨hget, hz.1, by unfold PySem.W.notCls; rw [hv] <;> rfl, by rw [hz.2]; exact ho⟩
      exact PySem.W.kia_one (PySem.W.kitx_exc C.hc C.hg C.hk C.hs C.ha C.hn C.ht C.hm) I.kIn J e (fun z => nomatch z) fun tk => ⟨.bl b, H, I.kept (t' := tk) fun _ _ z => z, rfl, q⟩
end Bk
end
section
/-! min(xs, key=lambda one: ..), the lambda reading names of the def that makes it. -/
namespace Bk
open PySem L2 LamX PySem.Spec PyProof.Rows
section
variable {X : Cx} {pins : List (Addr × Obj)} {σ : L2.St} {H : Hp} {s : Shared}
theorem updN {H : Hp} {a b : Addr} {o : HO} (e : upd H a o b = none) : H b = none := by
  by_cases q : b = a
  · rw [q, upd_same] at e
    cases e
  · rw [upd_ne q] at e
    exact e
/-- a lambda is made: what it is, and that the heap grows -/
theorem lam_mk {T : List (Addr × Str)} {c P : Addr} {params : Arguments} {body : Expr} {scope : Scope} {pos : Pos} {E : Value → Shared → Prop} {Q : Value → Shared → Prop} (I : L2.Inv X pins σ H s) (TB : TabB X.base X.mg c P) (hcode : X.env.code = .ref c)
    (hm : (P, X.env.qual ++ "<lambda>") ∈ T) (hu : ∀ p ∈ T, p.1 = P → p.2 = X.env.qual ++ "<lambda>") (hT : Tabs T H) (hdef : defaultsOf params X.env = ([], [])) (hfree : ∀ y ∈ scope.names, y.2 = .free → ∃ c, X.env.cells.lookup y.1 = some c)
    (h : ∀ (f c' : Addr) (pm ctv : Value) (H1 : Hp) (s' : Shared), L2.Inv X pins σ H1 s' → Gr T H H1 → Tabs T H1 → s'.heap.get? f = some (PySem.W.kla_obj "<lambda>" (X.env.qual ++ "<lambda>") params body scope (cloFrom X.env.cells scope.names []) pm c' ctv) → H1 f = none → f ∉ frs X.stack →
      H1 c' = some (CodeO c' (X.env.qual ++ "<lambda>")) → Q (.ref f) s') : wpAny (model X.prog X.w) X.A (eval (.Lambda params body scope pos) X.env) Q E s := by
  obtain ⟨ps, hP, ht, ha⟩ := hT _ hm
  refine PySem.W.kla_eval hdef ?_
  have bP : s.heap.BuiltinsAt X.mg P := TB.bm.keeps I.bk
  have hPo : s.heap.get? P = some { cls := .none, data := .fields ps } := I.hok P _ hP
  have nofr : ∀ f, s.heap.objs.size ≤ f → f ∉ frs X.stack := fun f hf z => by
    rcases List.mem_cons.mp (I.stkSub _ z) with e | e
    · exact Nat.lt_irrefl _ (Nat.lt_of_lt_of_le (e ▸ I.lt) hf)
    · exact I.nofs hf e
  cases hc : codeAmong pos ps.toList with
  | some cv =>
    obtain ⟨c', e, hco⟩ := ha pos cv hc
    subst e
    refine PySem.W.kla_makeFunctionHit (mg := X.mg) (c := c) (P := P) (ps := ps) (closure_ok hfree) I.ok.glob (I.mod.glob.keeps I.bk) hcode (TB.code.keeps I.bk) hPo ht hc bP fun ctv h' tk hx hsz => ?_
    have I1 : L2.Inv X pins σ H { s with heap := h'.push (PySem.W.kla_obj "<lambda>" (X.env.qual ++ "<lambda>") params body scope (cloFrom X.env.cells scope.names []) ((X.mg "__name__").getD .none) c' ctv), toks := tk } := I.kept fun b o e => Heap.get?_push_of_some _ (hx b o e)
    exact h h'.objs.size c' ((X.mg "__name__").getD .none) ctv H _ I1 .refl hT (Heap.get?_push_size _ rfl) (I.hok.fresh hsz) (nofr _ hsz) hco
  | none =>
    refine PySem.W.kla_makeFunction (mg := X.mg) (c := c) (P := P) (ps := ps) (closure_ok hfree) I.ok.glob (I.mod.glob.keeps I.bk) hcode (TB.code.keeps I.bk) hPo ht hc TB.gP bP fun c' ctv h' tk hx hge hlt hrec htb => ?_
    obtain ⟨c2, oc, vs, t, e2, hoc, hd, hv⟩ := hrec
    cases e2
    have hsz : s.heap.objs.size ≤ h'.objs.size := Nat.le_trans hge (Nat.le_of_lt hlt)
    have nC : H c' = none := I.hok.fresh hge
    have I1 := inv_table (t' := tk) (more := #[rawInt pos.line, rawInt pos.col, .ref c']) (h' := h'.push (PySem.W.kla_obj "<lambda>" (X.env.qual ++ "<lambda>") params body scope (cloFrom X.env.cells scope.names []) ((X.mg "__name__").getD .none) c' ctv)) I hP
      (fun b o hb e => Heap.get?_push_of_some _ (hx b o hb e)) (Heap.get?_push_of_some _ htb) hge ⟨oc, vs, t, Heap.get?_push_of_some _ hoc, hd, hv⟩
    have hE : ∀ b o, H b = some o → (∀ ps, o ≠ .tbl ps) → (upd (upd H P (.tbl (ps ++ #[rawInt pos.line, rawInt pos.col, .ref c']))) c' (CodeO c' (X.env.qual ++ "<lambda>"))) b = some o := fun b o e n => by
      rw [upd_ne (ne_of_none e nC), upd_ne (fun z => n ps (Option.some.inj (e.symm.trans (by rw [z]; exact hP))))]
      exact e
    have eL : (ps ++ #[rawInt pos.line, rawInt pos.col, .ref c']).toList = ps.toList ++ [rawInt pos.line, rawInt pos.col, .ref c'] := by simp
    have tabs : Tabs T (upd (upd H P (.tbl (ps ++ #[rawInt pos.line, rawInt pos.col, .ref c']))) c' (CodeO c' (X.env.qual ++ "<lambda>"))) := fun p hp => by
      by_cases hb : p.1 = P
      · rw [hu p hp hb, hb]
        refine ⟨_, by rw [upd_ne (ne_of_none hP nC), upd_same], by rw [eL]; exact PySem.TriplesOk_snoc _ _ _ _ ht, fun p' cv hcv => ?_⟩
        rw [eL] at hcv
        rcases among_app _ ht hcv with z | z
        · obtain ⟨c0, e1, e2⟩ := ha p' cv z
          exact ⟨c0, e1, hE _ _ e2 codeO_ne⟩
        · exact ⟨c', z, upd_same⟩
      · obtain ⟨ps', a1, a2, a3⟩ := hT p hp
        refine ⟨ps', by rw [upd_ne (ne_of_none a1 nC), upd_ne hb]; exact a1, a2, fun p' cv hcv => ?_⟩
        obtain ⟨c0, e1, e2⟩ := a3 p' cv hcv
        exact ⟨c0, e1, hE _ _ e2 codeO_ne⟩
    refine h h'.objs.size c' ((X.mg "__name__").getD .none) ctv _ _ I1 ⟨hE, fun _ => tabs, fun b e => updN (updN e)⟩ tabs (Heap.get?_push_size _ rfl) ?_ (nofr _ hsz) upd_same
    rw [upd_ne (Nat.ne_of_gt hlt), upd_ne (Nat.ne_of_gt (Nat.lt_of_lt_of_le (Heap.lt_size hPo) hsz))]
    exact I.hok.fresh hsz
end
/-! ### the lambda's names: one parameter, captured ones, globals -/
structure LamP (X : Cx) (a : Str) (scope : Scope) : Prop where
  kind : scope.kind = .function
  co : scope.isCoroutine = false
  gen : scope.isGenerator = false
  par : scope.names.lookup a = some .local
  own : ∀ y ∈ scope.names, y.2 ≠ .cell ∧ (y.2 = .local → y.1 = a)
  free : ∀ y ∈ scope.names, y.2 = .free → X.env.scope.names.lookup y.1 = some .cell ∨ X.env.scope.names.lookup y.1 = some .free
  new : a ∉ X.N
theorem LamP.has {X : Cx} {a : Str} {scope : Scope} (L : LamP X a scope) (ok : X.Ok) : ∀ y ∈ scope.names, y.2 = .free → ∃ c, X.env.cells.lookup y.1 = some c := fun y hy e => (L.free y hy e).elim (fun k => ok.has _ (.inl k)) fun k => ok.has _ (.inr k)
/-- the context of its body, entered at s -/
def lamC1 (X : Cx) (A : Around) (s : Shared) (H : Hp) (scope : Scope) (f c' : Addr) (a : Str) : Cx where
  prog := X.prog
  w := X.w
  K := X.K
  mg := X.mg
  base := X.base
  A := A.deeper (lamEnv X scope s.heap.objs.size f c')
  N := X.N ++ [a]
  s_0 := s
  H_0 := H
  env := lamEnv X scope s.heap.objs.size f c'
  outer := X.stack
  stack := lamEnv X scope s.heap.objs.size f c' :: X.stack
  ex := []
  fn := fun _ => false
  calm := true
  pn := []
  xe := fun _ _ => False
section
variable {X : Cx} {pins : List (Addr × Obj)} {σ : L2.St} {H : Hp} {s s1 : Shared} {a : Str} {scope : Scope} {f c' : Addr} {v : V} {u : Value}
theorem lam_in {A : Around} {h1 : Heap} {tk : Nat} (I : L2.Inv X pins σ H s) (L : LamP X a scope) (e0 : Env0 X.prog X.w X.K X.mg X.base A X.stack s H) (hd : A.handled = none) (rv : RelV v u)
    (hns : h1.Ns s.heap.objs.size fun y => ([(a, u)] : List (Str × Value)).reverse.lookup y) (kp : ∀ b o, s.heap.get? b = some o → h1.get? b = some o) :
    L2.Inv (lamC1 X A s H scope f c' a) [] (σ ++ [some v]) H { s with heap := h1, toks := tk } := by
  have hfree := L.has I.ok
  have cm : ∀ {y c}, (cloFrom X.env.cells scope.names []).lookup y = some c → X.env.cells.lookup y = some c := fun {y c} e => by
    rcases cloFrom_mem (PySem.mem_of_lookup e) with hm | ⟨h1, h2⟩
    · cases hm
    · obtain ⟨c1, hc⟩ := hfree _ h1 rfl
      have hc : X.env.cells.lookup y = some c1 := hc
      have e2 : c = c1 := by
        rw [h2, hc] <;> rfl
      rw [e2]
      exact hc
  have look : ∀ {y}, scope.names.lookup y = some .free → ∃ c, (cloFrom X.env.cells scope.names []).lookup y = some c := fun {y} hl => mem_lookup (cloFrom_has (cells := X.env.cells) (acc := []) (PySem.mem_of_lookup hl))
  have cellK : ∀ {c : Addr} {v : Option Value}, s.heap.IsCell c v → h1.IsCell c v := fun {c v} ⟨o, ho, hd⟩ => ⟨o, kp _ _ ho, hd⟩
  have noA : ∀ b : Addr, b ∉ (lamC1 X A s H scope f c' a).ex := fun b z => nomatch (show b ∈ ([] : List Addr) from z)
  have len : σ.length = X.N.length := I.len
  refine ⟨⟨e0.mod, L.kind, rfl, rfl, Nat.le_refl _, fun y z c e1 e2 => I.ok.inj y z c (cm e1) (cm e2), fun y hy => ?_, fun y c z _ => ?_, fun _ => hd, Around.frames_deeper e0.frames, .inr ⟨rfl, rfl⟩, fun b z => absurd z (noA b), e0.bs, e0.bsz, fun b _ _ => noA b,
      fun b z => absurd z (noA b), e0.funs, e0.frf⟩,
    rfl, e0.bare, Un.kept kp, ⟨_, hns, fun i y v' e1 e2 e3 => ?_⟩, fun y c e => ?_, e0.hok.fresh (Nat.le_refl _), fun y c e => I.freeC y c (cm e), fun q hq => absurd (show q ∈ ([] : List (Addr × Obj)) ++ [] from hq) (by simp), e0.hok.kept kp, ?_⟩
  · have hy : scope.names.lookup y = some .cell ∨ scope.names.lookup y = some .free := hy
    rcases hy with hy | hy
    · exact absurd rfl (L.own _ (PySem.mem_of_lookup hy)).1
    · exact look hy
  · have z : false = true := z
    cases z
  · have e1 : (X.N ++ [a])[i]? = some y := e1
    have e3 : Vis scope y := e3
    by_cases hi : i < X.N.length
    · rw [List.getElem?_append_left hi] at e1
      rw [List.getElem?_append_left (by omega)] at e2
      have yN : y ∈ X.N := List.mem_of_getElem? e1
      rcases e3 with k | k | k
      · exact absurd ((L.own _ (PySem.mem_of_lookup k)).2 rfl ▸ yN) L.new
      · exact absurd rfl (L.own _ (PySem.mem_of_lookup k)).1
      · obtain ⟨m, hn, hl⟩ := I.loc
        have hvis : Vis X.env.scope y := (L.free _ (PySem.mem_of_lookup k) rfl).elim (fun k => .inr (.inl k)) (fun k => .inr (.inr k))
        obtain ⟨w', r, q⟩ := hl i y v' e1 e2 hvis
        obtain ⟨c2, h2⟩ := look k
        refine ⟨w', r, .inr ⟨.inr k, c2, h2, ?_⟩⟩
        have c1 := cm h2
        rcases q with ⟨k', _⟩ | ⟨_, c3, e', z⟩
        · have k' : X.env.scope.names.lookup y = some .local := k'
          rcases L.free _ (PySem.mem_of_lookup k) rfl with k2 | k2 <;> rw [show X.env.scope.names.lookup y = _ from k2] at k' <;> cases k'
        · rw [c1] at e'
          cases e'
          exact cellK z
    · rw [List.getElem?_append_right (by omega)] at e1 e2
      have i0 : i - X.N.length = 0 := by
        have z := (List.getElem?_eq_some_iff.mp e1).1
        simp at z
        omega
      rw [i0] at e1
      rw [show i - σ.length = 0 by omega] at e2
      obtain rfl : a = y := by simpa using e1
      obtain rfl : v = v' := by simpa using e2
      exact ⟨u, rv, .inl ⟨L.par, by simp⟩⟩
  · obtain ⟨w', z⟩ := I.cell y c (cm e)
    exact ⟨w', cellK z⟩
  · show (σ ++ [some v]).length = (X.N ++ [a]).length
    rw [List.length_append, List.length_append, len]
    rfl
/-- the lambda called: its body's evaluation leaves the abstract heap; KV: what is known of the answer -/
theorem lam_run {A : Around} {params : Arguments} {body : Expr} {pm ctv : Value} {k : Nat} {KV : Value → Shared → Prop} (I : L2.Inv X pins σ H s) (L : LamP X a scope) (hA : A.frames = X.A.frames) (hr : Room (k + 1) A)
    (hf : s.heap.get? f = some (PySem.W.kla_obj "<lambda>" (X.env.qual ++ "<lambda>") params body scope (cloFrom X.env.cells scope.names []) pm c' ctv)) (hco : H c' = some (CodeO c' (X.env.qual ++ "<lambda>")))
    (hbind : ∀ u : Value, bindArgs (PySem.W.kla_fn "<lambda>" (X.env.qual ++ "<lambda>") params body scope (cloFrom X.env.cells scope.names []) pm (.ref c') ctv) ⟨[u], []⟩ = pure [(a, u)]) (rv : RelV v u)
    (hbody : ∀ s0 : Shared, Room k (A.deeper (lamEnv X scope s.heap.objs.size f c')) → L2.Inv (lamC1 X A s H scope f c' a) [] (σ ++ [some v]) H s0 → (∀ b o, s.heap.get? b = some o → s0.heap.get? b = some o) →
      wpAny (model X.prog X.w) (A.deeper (lamEnv X scope s.heap.objs.size f c')) (eval body (lamEnv X scope s.heap.objs.size f c')) (fun k s' => L2.Inv (lamC1 X A s H scope f c' a) [] (σ ++ [some v]) H s' ∧ KV k s') (fun _ _ => False) s0)
    {Q : Value → Shared → Prop} {E : Value → Shared → Prop} (hq : ∀ kx s', L2.Inv X pins σ H s' → Un (frs X.stack) [] H H s.heap s'.heap → KV kx s' → Q kx s') :
    wpAny (model X.prog X.w) A (call (.ref f) [u]) Q E s := by
  have e0 : Env0 X.prog X.w X.K X.mg X.base A X.stack s H := ⟨hA.trans I.env0.frames, I.env0.mod, I.env0.bs, I.env0.bsz, I.env0.funs, I.env0.frf, I.env0.hok, I.env0.bare⟩
  obtain ⟨⟨oc, vs, t, hoc, hdc, hvc⟩, _, _⟩ := I.hok c' _ hco
  refine wpAny_call (PySem.W.kla_callFunE hr.depth hf rfl L.co L.gen rfl ⟨c', oc, vs, t, rfl, hoc, hdc, hvc⟩ ?_)
  rw [hbind]
  refine wpAny_pure (wpAny_newFunctionEnv (fun y hy => (L.own y hy).1) (fun y hy => ?_) (fun h1 hns hsb => ⟨I.nolimit.fresh _ hsb, ?_⟩) L.kind)
  · rcases List.mem_cons.mp hy with e | hy
    · rw [e]
      exact L.par
    · cases hy
  · show codeAny _ _ (.expr body (lamEnv X scope s.heap.objs.size f c')) _ _
    have kp : ∀ b o, s.heap.get? b = some o → h1.get? b = some o := fun b o e => hsb.extBut b o (Nat.ne_of_lt (Heap.lt_size e)) (Heap.get?_push_of_some _ e)
    have J : L2.Inv (lamC1 X A s H scope f c' a) [] (σ ++ [some v]) H { s with heap := h1, toks := s.toks + ([(a, u)] : List (Str × Value)).length } := lam_in I L e0 hr.hd rv hns kp
    refine PySem.W.kla_codeExpr (wpAny_mono (hbody _ (hr.deeper _) J kp) (fun kx s' hq' => ?_) fun e s' z => z.elim)
    obtain ⟨J', kv⟩ := hq'
    have un : Un (frs X.stack) [] H H s.heap s'.heap := J'.base
    exact hq kx s' (I.call' (ch := []) J'.os un J'.hok J'.bare fun b z => nomatch z) un kv
end
/-! ### a list walked, its items known by what they stand for -/
theorem walks_lst {P : Program} {w : World} {A : Around} (hh : A.handled = none) (it l : Addr) (hne : l ≠ it) (xs : List V) :
    WalksS P w A it [it, l] [it] (fun a b => b = a) xs.length (fun i v => ∃ x, xs[i]? = some x ∧ RelV x v) (fun i s => s.heap.IsListIter it l i ∧ ∃ its : List Value, Vals xs its ∧ s.heap.IsList l its.toArray) := by
  have W : ∀ its : List Value, WalksS P w A it [it, l] [it] (fun a b => b = a) its.toArray.size (fun i v => its.toArray[i]? = some v) (fun i s => s.heap.IsListIter it l i ∧ s.heap.IsList l its.toArray) := fun its => (Walks.list (A := A) hh it l hne its.toArray).toS
  refine ⟨fun b hb => by rw [List.mem_singleton.mp hb]; exact List.mem_cons_self, fun _ => rfl, fun _ _ _ h1 h2 => h2.trans h1, fun i s h' tk st hk hb => ?_, fun i s Q E hi st hQ => ?_, fun s Q E st hQ => ?_, fun i s Q E st hQ => ?_⟩
  · obtain ⟨a, its, r, b⟩ := st
    obtain ⟨a', b'⟩ := (W its).frame i s h' tk ⟨a, b⟩ hk hb
    exact ⟨a', its, r, b'⟩
  · obtain ⟨a, its, r, b⟩ := st
    have hl := r.length
    refine (W its).item i s Q E (by rw [List.size_toArray]; omega) ⟨a, b⟩ fun v s' hv st' m => hQ v s' ?_ ⟨st'.1, its, r, st'.2⟩ m
    obtain ⟨x, hx⟩ : ∃ x, xs[i]? = some x := ⟨_, List.getElem?_eq_getElem hi⟩
    obtain ⟨u, hu, ru⟩ := r.get hx
    have hv' : its[i]? = some v := by simpa using hv
    rw [hu] at hv'
    cases hv'
    exact ⟨x, hx, ru⟩
  · obtain ⟨a, its, r, b⟩ := st
    have hl := r.length
    exact (W its).done s Q E (by rw [List.size_toArray, ← hl]; exact ⟨a, b⟩) fun s' m => hQ s' m
  · obtain ⟨a, its, r, b⟩ := st
    exact (W its).self i s Q E ⟨a, b⟩ hQ
/-! ### keys: a value that stands in the heap; or a fresh pair of an int and a text -/
inductive KD where
  | val (v : V) (d : PyData)
  | pair (n : Int) (r : Str)
def KD.d : KD → PyData
  | .val _ d => d
  | .pair n r => .tuple [.int n, .str r]
def KeyV (X : Cx) (H : Hp) (z : Nat) : KD → Value → Heap → Prop
  | .val v d, k, _ => RelV v k ∧ Dp X.K H v d
  | .pair n r, k, h => ∃ (p : Addr) (o : Obj) (t t' : Tok) (m : Nat), k = .ref p ∧ z ≤ p ∧ H p = none ∧ p ∉ frs X.stack ∧ h.get? p = some o ∧ o.cls = .type "tuple" ∧ o.data = .seq #[.int n t, .str r t'] m
theorem KeyV.keep {X : Cx} {H : Hp} {z : Nat} {kd : KD} {k : Value} {h h' : Heap} (kv : KeyV X H z kd k h) (hk : ∀ b o, z ≤ b → H b = none → b ∉ frs X.stack → h.get? b = some o → h'.get? b = some o) : KeyV X H z kd k h' := by
  cases kd with
  | val v d => exact kv
  | pair n r =>
    obtain ⟨p, o, t, t', m, e, hz, hn, hf, ho, hc, hd⟩ := kv
    exact ⟨p, o, t, t', m, e, hz, hn, hf, hk p o hz hn hf ho, hc, hd⟩
theorem KeyV.low {X : Cx} {H : Hp} {z y : Nat} {kd : KD} {k : Value} {h : Heap} (kv : KeyV X H z kd k h) (hy : y ≤ z) : KeyV X H y kd k h := by
  cases kd with
  | val v d => exact kv
  | pair n r =>
    obtain ⟨p, o, t, t', m, e, hz, hr⟩ := kv
    exact ⟨p, o, t, t', m, e, Nat.le_trans hy hz, hr⟩
theorem KeyV.reads {X : Cx} {pins : List (Addr × Obj)} {σ : L2.St} {H : Hp} {s : Shared} {z : Nat} {kd : KD} {k : Value} (I : L2.Inv X pins σ H s) (kv : KeyV X H z kd k s.heap) : ∃ as, Reads s.heap k kd.d as := by
  cases kd with
  | val v d => exact Dp.reads I d v k kv.2 kv.1
  | pair n r =>
    obtain ⟨p, o, t, t', m, e, hz, hn, hf, ho, hc, hd⟩ := kv
    subst e
    exact ⟨_, .tuple ho hc hd (.cons (.int n t) (.cons (.str r t') .nil))⟩
/-- the keys compare -/
def KDs (n : Nat) (kd : Nat → KD) : Prop := ∀ i j, i < n → j < n → PySem.W.alike (kd i).d (kd j).d = true ∧ (kd i).d ≠ .none ∧ (kd i).d.depth ≤ 60
def btK (kd : Nat → KD) (i j : Nat) : Bool := PySem.W.dataLt (kd i).d (kd j).d
section
variable {X : Cx} {pins : List (Addr × Obj)} {σ : L2.St} {H : Hp} {s : Shared} {a : Str} {scope : Scope} {f c' : Addr}
/-- min(l, key=the lambda at f) -/
theorem min_lam {params : Arguments} {body : Expr} {pm ctv : Value} {k : Nat} {l : Addr} {xs : List V} {kd : Nat → KD} {Q : VK} (hc : X.calm = true) (I : L2.Inv X pins σ H s) (L : LamP X a scope) (hr : Room (k + 2) X.A) (hl : SqL X.K H l xs) (hne : xs ≠ [])
    (hf : s.heap.get? f = some (PySem.W.kla_obj "<lambda>" (X.env.qual ++ "<lambda>") params body scope (cloFrom X.env.cells scope.names []) pm c' ctv)) (hfn : H f = none) (hff : f ∉ frs X.stack) (hco : H c' = some (CodeO c' (X.env.qual ++ "<lambda>")))
    (hbind : ∀ u : Value, bindArgs (PySem.W.kla_fn "<lambda>" (X.env.qual ++ "<lambda>") params body scope (cloFrom X.env.cells scope.names []) pm (.ref c') ctv) ⟨[u], []⟩ = pure [(a, u)]) (hk : KDs xs.length kd)
    (hbody : ∀ (i : Nat) (y : V) (s' s0 : Shared), xs[i]? = some y → (∀ b o, s.heap.get? b = some o → ∃ o', s'.heap.get? b = some o') → Room k (X.A.in1.deeper (lamEnv X scope s'.heap.objs.size f c')) → L2.Inv (lamC1 X X.A.in1 s' H scope f c' a) [] (σ ++ [some y]) H s0 → (∀ b o, s'.heap.get? b = some o → s0.heap.get? b = some o) →
      wpAny (model X.prog X.w) (X.A.in1.deeper (lamEnv X scope s'.heap.objs.size f c')) (eval body (lamEnv X scope s'.heap.objs.size f c')) (fun kx s'' => L2.Inv (lamC1 X X.A.in1 s' H scope f c' a) [] (σ ++ [some y]) H s'' ∧ KeyV X H s'.heap.objs.size (kd i) kx s''.heap) (fun _ _ => False) s0)
    (hQ : ∀ (i : Nat) (y : V), xs[i]? = some y → Q y H) : wpAny (model X.prog X.w) X.A (call (.builtin "min") [.ref l] [(Str.ofString "key", .ref f)]) (EP X pins σ Q) X.xe s := by
  have hh : X.A.handled = none := I.ok.hd hc
  obtain ⟨its, r, pl, hz⟩ := I.list hl
  have hls : l < s.heap.objs.size := by
    obtain ⟨o, ho, _⟩ := pl.isList
    exact Heap.lt_size ho
  have hfs : f < s.heap.objs.size := Heap.lt_size hf
  have hn : 0 < xs.length := List.length_pos_iff.mpr hne
  have frNe : ∀ {b : Addr}, FpOk X pins H b → b ∉ frs X.stack := fun {b} fp z => by
    rcases List.mem_cons.mp (I.stkSub _ z) with e | e
    · exact fp.2.1 e
    · exact fp.2.2.1 e
  refine call_min_walkK (wpAny_pyIter_list pl.isList ?_)
  have fpI : FpOk X pins H s.heap.objs.size := I.fpOk (Nat.le_refl _) (I.hok.fresh (Nat.le_refl _))
  have fpS : FpOk X pins H (s.heap.objs.size + 1) := I.fpOk (Nat.le_succ _) (I.hok.fresh (Nat.le_succ _))
  have I2 : L2.Inv X pins σ H { s with heap := s.heap.push { cls := .type "list_iterator", data := .fields #[.ref l, .int 0 0] } } := I.kept (t' := s.toks) fun b o e => Heap.get?_push_of_some _ e
  have szS : ({ s with heap := s.heap.push { cls := .type "list_iterator", data := .fields #[.ref l, .int 0 0] } } : Shared).heap.objs.size = s.heap.objs.size + 1 := Heap.size_push ..
  refine ⟨s.heap.objs.size, [s.heap.objs.size, l], [s.heap.objs.size], fun a b => b = a, xs.length, _, _, fun s' => L2.Inv X pins σ H s' ∧ s'.heap.get? f = some (PySem.W.kla_obj "<lambda>" (X.env.qual ++ "<lambda>") params body scope (cloFrom X.env.cells scope.names []) pm c' ctv) ∧ (∀ b o, s.heap.get? b = some o → ∃ o', s'.heap.get? b = some o'),
    fun i kx s' => i < xs.length ∧ KeyV X H (s.heap.objs.size + 2) (kd i) kx s'.heap, btK kd, rfl, walks_lst (A := X.A.in1) hh s.heap.objs.size l (Nat.ne_of_lt hls) xs, ⟨⟨_, Heap.get?_push_size _ rfl, rfl, rfl⟩, its, r, pl.isList.push _⟩, fun b hb => ?_, hn, ?_, ⟨I2, Heap.get?_push_of_some _ hf, fun b o e => ⟨o, Heap.get?_push_of_some _ e⟩⟩, fun v s' hP hJ => ?_⟩
  · rw [szS]
    rcases List.mem_cons.mp hb with e | hb
    · rw [e]; exact Nat.lt_succ_self _
    · rw [List.mem_singleton.mp hb]
      exact Nat.lt_succ_of_lt hls
  · rw [szS]
    have mv : ∀ {s' s'' : Shared}, L2.Inv X pins σ H s' → Moved ((s.heap.objs.size + 1) :: [s.heap.objs.size]) (fun a b => b = a) s' s'' → L2.Inv X pins σ H s'' := fun {s' s''} J m => by
      obtain ⟨m1, m2, m3, m4, m5⟩ := m
      obtain ⟨h2, g2, d2, t2, o2⟩ := s''
      obtain rfl : g2 = s'.gens := m2
      obtain rfl : d2 = s'.drawn := m3
      obtain rfl : o2 = s'.os := m4
      refine turnedL (h' := h2) (t' := t2) (ch := (s.heap.objs.size + 1) :: [s.heap.objs.size]) J m1 fun b hb => ?_
      rcases List.mem_cons.mp hb with e | hb
      · rw [e]; exact fpS
      · rw [List.mem_singleton.mp hb]; exact fpI
    have old : ∀ {b : Addr}, b < s.heap.objs.size → b ∉ (s.heap.objs.size + 1) :: [s.heap.objs.size] := fun {b} hb z => by
      rcases List.mem_cons.mp z with e | z
      · exact Nat.lt_irrefl _ (Nat.lt_trans (Nat.lt_succ_self _) (show s.heap.objs.size + 1 < s.heap.objs.size from e ▸ hb))
      · exact Nat.lt_irrefl _ (show s.heap.objs.size < s.heap.objs.size from List.mem_singleton.mp z ▸ hb)
    refine ⟨fun s' s'' J m => ⟨mv J.1 m, m.heap _ _ (old hfs) J.2.1, fun b o e => ?_⟩, fun i kx s' s'' kv m => ⟨kv.1, kv.2.keep fun b o hb _ _ e => m.heap b o ?_ e⟩, fun i v s' o Q' E' hi hP hJ hst hS hq => ?_, fun i j ki kj s' Q' E' hJ vi vj hq => ?_⟩
    · obtain ⟨o', e'⟩ := J.2.2 b o e
      exact ⟨o', m.heap _ _ (old (Heap.lt_size e)) e'⟩
    · intro z
      rcases List.mem_cons.mp z with e | z
      · exact Nat.lt_irrefl _ (show s.heap.objs.size + 2 ≤ s.heap.objs.size + 1 from e ▸ hb)
      · exact Nat.lt_irrefl _ (Nat.lt_of_succ_lt (show s.heap.objs.size + 2 ≤ s.heap.objs.size from List.mem_singleton.mp z ▸ hb))
    · obtain ⟨J, hf', ho'⟩ := hJ
      obtain ⟨y, hy, rv⟩ := hP
      have hsz : s.heap.objs.size + 2 ≤ s'.heap.objs.size := Heap.lt_size hS
      refine lam_run (A := X.A.in1) (KV := fun kx s'' => KeyV X H s'.heap.objs.size (kd i) kx s''.heap) J L rfl hr.in1 hf' hco hbind rv (fun s0 hr' J0 kp => hbody i y s' s0 hy ho' hr' J0 kp) fun kx s'' J'' un kv => hq kx s'' ⟨J'', un.keep _ _ hf' hfn hff (by simp), fun b o e => ?_⟩ ⟨?_, ?_⟩ (un.keep _ _ hS fpS.1 (frNe fpS) (by simp)) ⟨hi, kv.low hsz⟩ fun j k' kv' => ⟨kv'.1, kv'.2.keep fun b o hb hn hfr e => un.keep _ _ e hn hfr (by simp)⟩
      · obtain ⟨o', e'⟩ := ho' b o e
        exact un.there b o' e' (by simp)
      · obtain ⟨oi, hoi, hci, hdi⟩ := hst.1
        exact ⟨oi, un.keep _ _ hoi fpI.1 (frNe fpI) (by simp), hci, hdi⟩
      · obtain ⟨its', r', pl', _⟩ := J''.list hl
        exact ⟨its', r', pl'.isList⟩
    · obtain ⟨J, _⟩ := hJ
      obtain ⟨as1, r1⟩ := vi.2.reads J
      obtain ⟨as2, r2⟩ := vj.2.reads J
      obtain ⟨al, nn, dp⟩ := hk i j vi.1 vj.1
      refine PySem.W.rcLt_alike _ _ X.A.in1 s' ki kj as1 as2 r1 r2 al nn ?_ X.prog X.w E' Q' hq
      have hu := hr.un
      have hm := Nat.min_le_left (kd i).d.depth (kd j).d.depth
      show X.A.units + 1 + min (kd i).d.depth (kd j).d.depth < cLine
      omega
  · obtain ⟨y, hy, rv⟩ := hP
    exact ⟨y, H, hJ.1, rv, hQ _ y hy⟩
/-- the whole call: e, then the lambda, then min -/
theorem min_call {T : List (Addr × Str)} {c P : Addr} {e : Expr} {ta : TE} {params : Arguments} {body : Expr} {p lpos kpos pos : Pos} {k : Nat} {Q : VK} (hc : X.calm = true) (hg : Gl X "min") (hm : X.mg "min" = none) (TB : TabB X.base X.mg c P) (hcode : X.env.code = .ref c) (hmT : (P, X.env.qual ++ "<lambda>") ∈ T)
    (hu : ∀ p ∈ T, p.1 = P → p.2 = X.env.qual ++ "<lambda>") (hr : Room (k + 2) X.A) (L : LamP X a scope) (hdef : defaultsOf params X.env = ([], [])) (ha : PE X e ta)
    (hbind : ∀ (q : Str) (cl : List (Str × Addr)) (pm cv ctv u : Value), bindArgs (PySem.W.kla_fn "<lambda>" q params body scope cl pm cv ctv) ⟨[u], []⟩ = pure [(a, u)]) (I : L2.Inv X pins σ H s)
    {R : V → Hp → Prop} (h : ta σ H R) (hR : ∀ x H1, R x H1 → ∃ (l : Addr) (xs : List V), x = .ref l ∧ SqL X.K H1 l xs ∧ xs ≠ [] ∧ Tabs T H1 ∧ ∀ H2, Gr T H1 H2 → Tabs T H2 → ∃ kd : Nat → KD, KDs xs.length kd ∧ (∀ (i : Nat) (y : V), xs[i]? = some y → Q y H2) ∧
      ∀ (i : Nat) (y : V), xs[i]? = some y → ∀ (f c' : Addr) (s' s0 : Shared), Room k (X.A.in1.deeper (lamEnv X scope s'.heap.objs.size f c')) → L2.Inv (lamC1 X X.A.in1 s' H2 scope f c' a) [] (σ ++ [some y]) H2 s0 → (∀ b o, s'.heap.get? b = some o → s0.heap.get? b = some o) → (∀ b, b ∈ frs X.stack → b < s'.heap.objs.size) →
        wpAny (model X.prog X.w) (X.A.in1.deeper (lamEnv X scope s'.heap.objs.size f c')) (eval body (lamEnv X scope s'.heap.objs.size f c')) (fun kx s'' => L2.Inv (lamC1 X X.A.in1 s' H2 scope f c' a) [] (σ ++ [some y]) H2 s'' ∧ KeyV X H2 s'.heap.objs.size (kd i) kx s''.heap) (fun _ _ => False) s0)
    (he : backTo pos (starEach [e] X.env) = (false, eval e X.env) :: backTo pos (starEach [] X.env)) (hpl : (backTo pos (starEach [e] X.env)).any (·.1) = false) :
    wpAny (model X.prog X.w) X.A (eval (.Call (.Name "min" p) [e] [⟨some "key", .Lambda params body scope lpos, kpos⟩] pos) X.env) (EP X pins σ Q) X.xe s := by
  refine wpAny_Call_Name_kw (ld_blt I hg hm (by first | exact PyProof.Rows.Boot.min | decide +kernel) ?_ (by decide) (by decide))
  refine PyProof.Rows.callWith_kw ?_ he hpl (by rfl) (by rfl)
  rw [he]
  refine Calls.spliced_cons (thn (ha.run pins s σ H _ I h) fun u s1 ⟨x, H1, I1, r1, hRx⟩ => Calls.spliced_nil ?_)
  obtain ⟨l, xs, ex, hl, hne, hT, q⟩ := hR x H1 hRx
  subst ex
  obtain rfl : u = Value.ref l := r1
  show wpAny _ _ (evalAll ((do let v ← eval (.Lambda params body scope lpos) X.env; standAt pos; pure v) :: (backToKw pos (keywordEach [] X.env)).map (·.2))) _ _ s1
  refine wpAny_evalAll_cons (wpAny_bind (lam_mk I1 TB hcode hmT hu hT hdef (L.has I.ok) fun f c' pm ctv H2 s2 I2 g T2 hf hfn hff hco => wpAny_bind (wpAny_standAt (wpAny_pure (wpAny_evalAll_nil ?_)))))
  obtain ⟨kd, hk, hq, hb⟩ := q H2 g T2
  refine min_lam hc I2 L hr (g.sqL hl) hne hf hfn hff hco (fun u => hbind _ _ _ _ _ u) hk (fun i y s' s0 hy ho hr' J kp => hb i y hy f c' s' s0 hr' J kp fun b hb => ?_) hq
  have fr : ∃ o, s2.heap.get? b = some o := by
    rcases List.mem_cons.mp (I2.stkSub _ hb) with e | e
    · obtain ⟨m, ⟨o, es, ep, ho, _⟩, _⟩ := I2.loc
      exact ⟨o, by rw [e]; exact ho⟩
    · obtain ⟨_, o, ho, _⟩ := I2.funs.mem e
      exact ⟨o, ho⟩
  obtain ⟨o, e⟩ := fr
  obtain ⟨o', e'⟩ := ho b o e
  exact Heap.lt_size e'
end
/-- min(e, key=lambda a: body), body's value standing in the heap -/
def tMinV (T : List (Addr × Str)) (K : PySem.W.Frag) (ta tb : TE) : TE := fun σ H Q => ta σ H fun x H1 => ∃ (l : Addr) (xs : List V), x = .ref l ∧ SqL K H1 l xs ∧ xs ≠ [] ∧ Tabs T H1 ∧ ∀ H2, Gr T H1 H2 → Tabs T H2 → ∃ (kv : Nat → V) (kd : Nat → PyData),
  (∀ i j, i < xs.length → j < xs.length → PySem.W.alike (kd i) (kd j) = true ∧ kd i ≠ .none ∧ (kd i).depth ≤ 60) ∧ (∀ (i : Nat) (y : V), xs[i]? = some y → tb (σ ++ [some y]) H2 (fun w H' => w = kv i ∧ H' = H2) ∧ Dp K H2 (kv i) (kd i)) ∧ ∀ (i : Nat) (y : V), xs[i]? = some y → Q y H2
/-- .. body a pair of an int and a text -/
def tMinP (T : List (Addr × Str)) (K : PySem.W.Frag) (ta t1 t2 : TE) : TE := fun σ H Q => ta σ H fun x H1 => ∃ (l : Addr) (xs : List V), x = .ref l ∧ SqL K H1 l xs ∧ xs ≠ [] ∧ Tabs T H1 ∧ ∀ H2, Gr T H1 H2 → Tabs T H2 → ∃ (kn : Nat → Int) (kr : Nat → Str),
  (∀ (i : Nat) (y : V), xs[i]? = some y → t1 (σ ++ [some y]) H2 (fun w H' => w = .int (kn i) ∧ H' = H2) ∧ t2 (σ ++ [some y]) H2 (fun w H' => w = .str (kr i) ∧ H' = H2)) ∧ ∀ (i : Nat) (y : V), xs[i]? = some y → Q y H2
section
variable {X : Cx} {a : Str} {scope : Scope} {T : List (Addr × Str)} {c P : Addr} {e e1 e2 : Expr} {ta tb t1 t2 : TE} {params : Arguments} {body : Expr} {p lpos kpos pos tpos : Pos} {k j : Nat}
theorem pe_minV (hc : X.calm = true) (hm : X.mg "min" = none) (TB : TabB X.base X.mg c P) (hcode : X.env.code = .ref c) (hmT : (P, X.env.qual ++ "<lambda>") ∈ T) (hu : ∀ p ∈ T, p.1 = P → p.2 = X.env.qual ++ "<lambda>") (hr : Room (k + 2) X.A) (L : LamP X a scope) (ha : PE X e ta)
    (hbody : ∀ (A : Around) (s : Shared) (H : Hp) (f c' : Addr), Room k (A.deeper (lamEnv X scope s.heap.objs.size f c')) → PE (lamC1 X A s H scope f c' a) body tb) (hdef : defaultsOf params X.env = ([], []) := by rfl)
    (hbind : ∀ (q : Str) (cl : List (Str × Addr)) (pm cv ctv u : Value), bindArgs (PySem.W.kla_fn "<lambda>" q params body scope cl pm cv ctv) ⟨[u], []⟩ = pure [(a, u)] := by intros; rfl) (hg : Gl X "min" := by rfl) (he : backTo pos (starEach [e] X.env) = (false, eval e X.env) :: backTo pos (starEach [] X.env) := by rfl)
    (hpl : (backTo pos (starEach [e] X.env)).any (·.1) = false := by rfl) : PE X (.Call (.Name "min" p) [e] [⟨some "key", .Lambda params body scope lpos, kpos⟩] pos) (tMinV T X.K ta tb) := by
  refine ⟨fun pins s σ H Q I h => min_call (k := k) hc hg hm TB hcode hmT hu hr L hdef ha hbind I h (fun x H1 hx => ?_) he hpl⟩
  obtain ⟨l, xs, ex, hl, hne, hT, q⟩ := hx
  refine ⟨l, xs, ex, hl, hne, hT, fun H2 g T2 => ?_⟩
  obtain ⟨kv, kd, hk, hb, hq⟩ := q H2 g T2
  refine ⟨fun i => .val (kv i) (kd i), hk, hq, fun i y hy f c' s' s0 hr' J kp _ => ?_⟩
  obtain ⟨h1, h2⟩ := hb i y hy
  refine wpAny_mono ((hbody _ s' H2 f c' hr').run [] s0 _ H2 _ J h1) (fun kx s'' ⟨v, H', J', rv, e1, e2⟩ => ?_) fun _ _ z => z
  subst e1 e2
  exact ⟨J', rv, h2⟩
theorem pe_minP (hc : X.calm = true) (hm : X.mg "min" = none) (TB : TabB X.base X.mg c P) (hcode : X.env.code = .ref c) (hmT : (P, X.env.qual ++ "<lambda>") ∈ T) (hu : ∀ p ∈ T, p.1 = P → p.2 = X.env.qual ++ "<lambda>") (hr : Room (k + 2) X.A) (L : LamP X a scope) (ha : PE X e ta)
    (hb1 : ∀ (A : Around) (s : Shared) (H : Hp) (f c' : Addr), Room k (A.deeper (lamEnv X scope s.heap.objs.size f c')) → PE (lamC1 X A s H scope f c' a) e1 t1) (hb2 : ∀ (A : Around) (s : Shared) (H : Hp) (f c' : Addr), Room k (A.deeper (lamEnv X scope s.heap.objs.size f c')) → PE (lamC1 X A s H scope f c' a) e2 t2)
    (hs1 : ∀ env, starEach [e1, e2] env = (false, eval e1 env) :: starEach [e2] env := by intro _; rfl) (hs2 : ∀ env, starEach [e2] env = (false, eval e2 env) :: starEach [] env := by intro _; rfl) (hdef : defaultsOf params X.env = ([], []) := by rfl)
    (hbind : ∀ (q : Str) (cl : List (Str × Addr)) (pm cv ctv u : Value), bindArgs (PySem.W.kla_fn "<lambda>" q params (.Tuple [e1, e2] j tpos) scope cl pm cv ctv) ⟨[u], []⟩ = pure [(a, u)] := by intros; rfl) (hg : Gl X "min" := by rfl) (he : backTo pos (starEach [e] X.env) = (false, eval e X.env) :: backTo pos (starEach [] X.env) := by rfl)
    (hpl : (backTo pos (starEach [e] X.env)).any (·.1) = false := by rfl) :
    PE X (.Call (.Name "min" p) [e] [⟨some "key", .Lambda params (.Tuple [e1, e2] j tpos) scope lpos, kpos⟩] pos) (tMinP T X.K ta t1 t2) := by
  refine ⟨fun pins s σ H Q I h => min_call (k := k) hc hg hm TB hcode hmT hu hr L hdef ha hbind I h (fun x H1 hx => ?_) he hpl⟩
  obtain ⟨l, xs, ex, hl, hne, hT, q⟩ := hx
  refine ⟨l, xs, ex, hl, hne, hT, fun H2 g T2 => ?_⟩
  obtain ⟨kn, kr, hb, hq⟩ := q H2 g T2
  refine ⟨fun i => .pair (kn i) (kr i), fun i j _ _ => ⟨rfl, (fun z => by cases z), (by show PyData.depth (.tuple [.int (kn i), .str (kr i)]) ≤ 60; simp [PyData.depth, PyData.depthAll])⟩, hq, fun i y hy f c' s' s0 hr' J kp hfr => ?_⟩
  obtain ⟨h1, h2⟩ := hb i y hy
  refine wpAny_Tuple_spliced ?_
  show wpAny _ _ (spliced (backTo tpos (starEach [e1, e2] (lamEnv X scope s'.heap.objs.size f c')))) _ _ s0
  rw [hs1, hs2]
  refine Calls.spliced_cons (wpAny_mono ((hb1 _ s' H2 f c' hr').run [] s0 _ H2 _ J h1) (fun k1 s1 ⟨v, H', J1, rv, ev, eH⟩ => ?_) fun _ _ z => z)
  subst ev
  rw [eH] at J1
  obtain ⟨tk1, rfl⟩ := rv
  refine Calls.spliced_cons (wpAny_mono ((hb2 _ s' H2 f c' hr').run [] s1 _ H2 _ J1 h2) (fun k2 s2 ⟨v2, H', J2, rv2, ev2, eH2⟩ => ?_) fun _ _ z => z)
  subst ev2
  rw [eH2] at J2
  obtain ⟨tk2, rfl⟩ := rv2
  refine Calls.spliced_nil ⟨by rw [sizeLine_eq]; exact (by decide : 2 ≤ 16777216), ?_⟩
  refine ⟨J2.kept (t' := s2.toks) fun b o e => Heap.get?_push_of_some _ e, s2.heap.objs.size, _, tk1, tk2, _, rfl, ?_, J2.hok.fresh (Nat.le_refl _), fun z => ?_, Heap.get?_push_size _ rfl, rfl, rfl⟩
  · have z : s'.heap.objs.size ≤ s2.heap.objs.size := J2.sz
    exact z
  · have z1 := hfr _ z
    have z2 : s'.heap.objs.size ≤ s2.heap.objs.size := J2.sz
    exact Nat.lt_irrefl _ (Nat.lt_of_lt_of_le z1 z2)
end
end Bk
end
section
/-! Comprehensions of any kind of gatherer: what a turn does to it is an act, told by its own reading. -/
namespace Bk
open PySem L2 LamX PySem.Spec PyProof.Rows
/-- what one turn of the clause j of e does -/
def ClauseOk (e : Expr) (j : Nat) (tg iter : Expr) (ifs : List Expr) (act : Value → Env → Sem PySem.Fin → Sem PySem.Fin) : Prop := ∀ (it acc : Value) (env : Env), compTurn e j it acc env = (do
  standAt iter.pos
  match ← pyNext it with
  | none => pure (.done .next)
  | some v =>
    letOwnedTupleGo tg it v
    assign tg env v
    let mut ok := true
    for c in ifs do
      if ok then ok ← isTrue c env (eval c env)
    if ok then
      act acc env (again (.compLoop e j it acc env))
    else again (.compLoop e j it acc env))
/-- e is a comprehension that gathers in its maker's frame -/
structure Gath (e : Expr) : Prop where
  uL : ∀ (A : Around) (j : Nat) (it acc : Value) (env : Env), A.under (.compLoop e j it acc env) = A
  dL : ∀ (P : Program) (w : World) (j : Nat) (it acc : Value) (env : Env), (model P w).den (.compLoop e j it acc env) = (compTurn e j it acc env).onRaise (fun x => do noteFrame x env; theTreesLotGoes x)
  uS : ∀ (A : Around) (j : Nat) (it acc : Value) (env : Env), A.under (.compStart e j it acc env) = A
  dS : ∀ (P : Program) (w : World) (j : Nat) (it acc : Value) (env : Env), (model P w).den (.compStart e j it acc env) = (compStart e j it acc env).onRaise (fun x => do noteFrame x env; standAt theWindowsPlace)
theorem gath_set {elt : Expr} {gs : List Comprehension} {scope : Scope} {pos : Pos} : Gath (.SetComp elt gs scope pos) := ⟨fun _ _ _ _ _ => rfl, fun _ _ _ _ _ _ => rfl, fun _ _ _ _ _ => rfl, fun _ _ _ _ _ _ => rfl⟩
theorem gath_dict {k v : Expr} {gs : List Comprehension} {scope : Scope} {pos : Pos} : Gath (.DictComp k v gs scope pos) := ⟨fun _ _ _ _ _ => rfl, fun _ _ _ _ _ _ => rfl, fun _ _ _ _ _ => rfl, fun _ _ _ _ _ _ => rfl⟩
/-- an act, ahead of what comes behind it, and its reading -/
structure PAc (Y : Cx) (m : Sem PySem.Fin → Sem PySem.Fin) (t : L2.St → Hp → (Hp → Prop) → Prop) : Prop where
  run : ∀ (pins : List (Addr × Obj)) (s : Shared) (σ : L2.St) (H : Hp) (Q : Hp → Prop) (k : Sem PySem.Fin) (R : PySem.Fin → Shared → Prop) (E : Value → Shared → Prop), L2.Inv Y pins σ H s → t σ H Q → (∀ s' H', L2.Inv Y pins σ H' s' → Q H' → wpAny (model Y.prog Y.w) Y.A k R E s') →
    wpAny (model Y.prog Y.w) Y.A (m k) R E s
abbrev TAc := L2.St → Hp → (Hp → Prop) → Prop
/-- the reading of a clause's loop from H on; vs: the slots that a turn may fill -/
def Lp (J : It) (g : TG) (tt : TT) (ta : TAc) (vs : List Nat) (σ : L2.St) (H0 : Hp) (Q : Hp → Prop) : Prop := ∃ W : Nat → Nat → Hp → Prop, (∃ m, W 0 m H0) ∧ ∀ i m H, W i m H → (J.stop i H ∧ Q H) ∨
  (J.go i H ∧ ∃ Nx : Hp → Prop, (∀ H', Nx H' → ∃ m', m' < m ∧ W (i + 1) m' H') ∧ ∀ x H', J.yld i H x H' → g x (wipe σ vs) H' fun σ2 H2 => wipe σ2 vs = wipe σ vs ∧ tt σ2 H2 fun b H3 => if b = true then ta σ2 H3 Nx else Nx H3)
section
variable {Y : Cx} {e tg iter : Expr} {ifs : List Expr} {j : Nat} {act : Value → Env → Sem PySem.Fin → Sem PySem.Fin} {acc : Value} {R : Result → Shared → Prop} {pins : List (Addr × Obj)} {fp : List Addr} {it : Addr} {tn : Nat → Heap → Prop} {J : It} {g : TG} {tt : TT} {ta : TAc} {vs : List Nat} {σ : L2.St} {H0 : Hp} {s0 : Shared} {Q : Hp → Prop}
theorem loop_ok (G : Gath e) (C : ClauseOk e j tg iter ifs act) (hc : Y.calm = true) (hxe : Y.xe = fun _ _ => False) (T : Turn Y.prog Y.w Y.K tg J fp it tn) (pg : PG Y tg g) (pt : PTs Y ifs tt) (pa : PAc Y (act acc Y.env) ta)
    (hfp : ∀ H' : Hp, (∀ b ∈ fp, H' b = none) → ∀ b ∈ fp, FpOk Y pins H' b) (I : L2.Inv Y pins (wipe σ vs) H0 s0) (st : tn 0 s0.heap) (nf : ∀ b ∈ fp, H0 b = none) (h : Lp J g tt ta vs σ H0 Q)
    (done : ∀ H' s', L2.Inv Y pins (wipe σ vs) H' s' → Q H' → R (.ok .next) s') : codeAny (model Y.prog Y.w) Y.A (.compLoop e j (.ref it) acc Y.env) R s0 := by
  obtain ⟨W, ⟨m0, w0⟩, turn⟩ := h
  refine codeAny_loop rfl (fun n s' => ∃ i H', L2.Inv Y pins (wipe σ vs) H' s' ∧ tn i s'.heap ∧ (∀ b ∈ fp, H' b = none) ∧ W i n H') (fun n s' hI => ?_) m0 ⟨0, H0, I, st, nf, w0⟩
  obtain ⟨i, H1, I1, st1, n1, w1⟩ := hI
  rw [G.uL, G.dL]
  refine wpAny_noted ?_
  rw [C]
  refine wpAny_bind (wpAny_standAt (wpAny_bind ?_))
  rcases turn i n H1 w1 with ⟨stop, q⟩ | ⟨go, Nx, hNx, step⟩
  · refine thnF (T.done Y rfl rfl rfl hc i pins s' _ H1 (fun _ _ => False) I1 (hfp H1 n1) st1 stop) fun r s2 ⟨hr, I2⟩ => ?_
    subst hr
    exact wpAny_pure (done H1 s2 I2 q)
  · refine thnF (T.item Y rfl rfl rfl hc i pins s' _ H1 (fun _ _ => False) I1 (hfp H1 n1) st1 go) fun r s2 ⟨u, hr, h2⟩ => ?_
    subst hr
    refine wpAny_bind (thnF h2 fun _ s3 ⟨x, H3, I3, r3, y3, st3, n3⟩ => ?_)
    have I3' := I3.pinned (hfp H3 n3) (T.obj _ _ st3)
    have pgr := pg.run _ s3 _ H3 x u _ I3' r3 (step x H3 y3)
    rw [hxe] at pgr
    refine wpAny_bind (thnF pgr fun _ s4 ⟨σ4, H4, I4, hw, q4⟩ => ?_)
    have ptr := pt.run _ s4 σ4 H4 _ I4 q4
    rw [hxe] at ptr
    refine wpAny_bind (thnF ptr fun b s5 ⟨H5, I5, q5⟩ => ?_)
    have fin : ∀ (H' : Hp) (s6 : Shared), L2.Inv Y (pins ++ pinsAt fp s3.heap) σ4 H' s6 → Nx H' → ∃ m, m < n ∧ ∃ i H', L2.Inv Y pins (wipe σ vs) H' s6 ∧ tn i s6.heap ∧ (∀ b ∈ fp, H' b = none) ∧ W i m H' := fun H' s6 I6 nx => by
      obtain ⟨m', hm, w'⟩ := hNx H' nx
      have held : ∀ b ∈ fp, ∀ o, s3.heap.get? b = some o → s6.heap.get? b = some o ∧ H' b = none := fun b hb o eo => by
        have z := I6.pin (b, o) (List.mem_append_right _ (List.mem_append_right _ (mem_pinsAt hb eo)))
        exact ⟨z.1, z.2.1⟩
      have len : (wipe σ vs).length = σ4.length := by rw [← hw, wipe_length]
      refine ⟨m', hm, i + 1, H', I6.unpinned.weak len (fun k v ek => ?_), T.keep _ _ _ st3 fun b hb o eo => (held b hb o eo).1, fun b hb => ?_, w'⟩
      · rw [← hw] at ek
        exact (wipe_some ek).1
      · obtain ⟨o, eo, _⟩ := T.obj _ _ st3 b hb
        exact (held b hb o eo).2
    cases b with
    | false =>
      simp only [Bool.false_eq_true, if_false] at q5 ⊢
      exact wpAny_pure ⟨rfl, fin H5 s5 I5 q5⟩
    | true =>
      simp only [if_true] at q5 ⊢
      exact pa.run _ s5 σ4 H5 Nx _ _ _ I5 q5 fun s6 H6 I6 q6 => wpAny_pure ⟨rfl, fin H6 s6 I6 q6⟩
/-- a clause begins: its iterator is asked for its iterator -/
theorem start_ok (G : Gath e) (hcl : ∃ cl, (clausesOf e)[j]? = some cl ∧ cl.is_async = 0) {A : Around} {P : Program} {w : World} {env : Env} (h : ∀ s1 : Shared, s1 = s0 → codeAny (model P w) A (.compLoop e j (.ref it) acc env) R s1)
    (self : ∀ (Q : Value → Shared → Prop) (E : Value → Shared → Prop), Q (.ref it) s0 → wpAny (model P w) A (pyIter (.ref it)) Q E s0) : codeAny (model P w) A (.compStart e j (.ref it) acc env) R s0 := by
  obtain ⟨cl, e1, e2⟩ := hcl
  refine codeAny_of_tree ?_
  rw [G.uS, G.dS]
  refine wpAny_notedAt ?_
  unfold compStart
  rw [e1]
  simp only [Option.elim, e2, bne_self_eq_false, Bool.false_eq_true, if_false]
  show wpAny _ _ (ask >>= _) _ _ s0
  refine wpAny_bind (wpAny_askSetting (wpAny_ite ?_))
  split
  · first
      | exact wpAny_bind (wpAny_pure (wpAny_pure ⟨rfl, h _ rfl⟩))
      | exact wpAny_pure ⟨rfl, h _ rfl⟩
  · refine wpAny_bind (wpAny_rule ?_)
    first
      | exact wpAny_bind (wpAny_standAt (wpAny_bind (self _ _ (wpAny_pure ⟨rfl, h _ rfl⟩))))
      | exact wpAny_standIf (wpAny_bind (self _ _ (wpAny_pure ⟨rfl, h _ rfl⟩)))
end
/-! ### a further clause within a turn -/
def forAct (e : Expr) (j : Nat) (iter : Expr) (acc : Value) (env : Env) (k : Sem PySem.Fin) : Sem PySem.Fin := do
  let x ← eval iter env
  standAt iter.pos
  let x ← foldedSetIterable iter env x
  let _ ← runOwn (.compStart e j (← holding [x] (pyIter x)) acc env) env
  k
section
variable {Y : Cx} {e tg iter : Expr} {ifs : List Expr} {j : Nat} {act : Value → Env → Sem PySem.Fin → Sem PySem.Fin} {acc : Value} {wi : TI} {g : TG} {tt : TT} {ta : TAc} {vs : List Nat}
theorem pac_for (G : Gath e) (C : ClauseOk e j tg iter ifs act) (hcl : ∃ cl, (clausesOf e)[j]? = some cl ∧ cl.is_async = 0) (hc : Y.calm = true) (hxe : Y.xe = fun _ _ => False) (hi : PI Y tg iter wi) (pg : PG Y tg g) (pt : PTs Y ifs tt) (pa : PAc Y (act acc Y.env) ta)
    (hs : ∀ x, foldedSetIterable iter Y.env x = pure x) : PAc Y (forAct e j iter acc Y.env) (fun σ H Q => wipe σ vs = σ ∧ wi σ H fun J H1 => Lp J g tt ta vs σ H1 Q) := by
  refine ⟨fun pins s σ H Q k R E I h hk => ?_⟩
  obtain ⟨hw, h⟩ := h
  have hir := hi.run pins s σ H _ I h
  rw [hxe] at hir
  refine wpAny_bind (thnF hir fun xv s1 hx => wpAny_bind (wpAny_standAt (wpAny_bind (wpAny_of_eq (hs xv) ?_))))
  refine wpAny_bind (wpAny_holding (thnF hx fun itv s2 h2 => ?_))
  obtain ⟨it, fp, tn, J, H2, ei, I2, T, st2, f2, hl⟩ := h2
  subst ei
  refine wpAny_bind (wpAny_runOwn ?_)
  rw [Around.mark_none]
  refine start_ok G hcl (fun s3 e3 => ?_) fun Q' E' q => T.self Y.A 0 _ _ _ st2 q
  subst e3
  refine loop_ok G C hc hxe T pg pt pa (fun H' n b hb => ⟨n b hb, (f2 b hb).2⟩) (by rw [hw]; exact I2) st2 (fun b hb => (f2 b hb).1) hl fun H' s4 I4 q => ?_
  rw [hw] at I4
  exact hk s4 H' I4 q
end
/-! ### the whole comprehension -/
def tGa (wi : TI) (o0 : Addr → HO) (g : TG) (tt : TT) (ta : Addr → TAc) (vs : List Nat) : TE := fun σ H Q => wi σ H fun J H1 => ∀ D, H1 D = none → Lp J g tt (ta D) vs σ (upd H1 D (o0 D)) (Q (.ref D))
section
variable {X : Cx} {e tg iter : Expr} {ifs : List Expr} {act : Value → Env → Sem PySem.Fin → Sem PySem.Fin} {scope : Scope} {own : List (Str × Nat)} {pos' : Pos} {wi : TI} {g : TG} {tt : TT} {ta : Addr → TAc} {O : Obj} {o0 : Addr → HO} {new : Sem Value}
theorem ga_core {gs : List Comprehension} (hgs : clausesOf e = ⟨tg, iter, ifs, 0⟩ :: gs) (G : Gath e) (C : ClauseOk e 0 tg iter ifs act) (hc : X.calm = true) (hN : X.N.Nodup) (hi : PI X tg iter wi) (ok : BlkOk X.N X.env.scope scope own)
    (hnew : ∀ (s : Shared) (Q : Value → Shared → Prop) (E : Value → Shared → Prop), Q (.ref s.heap.objs.size) { s with heap := s.heap.push O } → wpAny (model X.prog X.w) X.A new Q E s)
    (hob : ∀ (H : Hp) (h : Heap), HOk X.prog X.w H h → sysModules < h.objs.size → ObjOk X.prog X.w (upd H h.objs.size (o0 h.objs.size)) (h.push O) h.objs.size (o0 h.objs.size))
    (hg : ∀ (s : Shared) (H : Hp) (C : Addr) (cl : List (Str × Addr)) (fp : List Addr), PG (X.blk s H scope (compEnvC scope cl C X.env) fp) tg g) (ht : ∀ (s : Shared) (H : Hp) (C : Addr) (cl : List (Str × Addr)) (fp : List Addr), PTs (X.blk s H scope (compEnvC scope cl C X.env) fp) ifs tt)
    (ha : ∀ (s : Shared) (H : Hp) (C : Addr) (cl : List (Str × Addr)) (fp : List Addr) (D : Addr), PAc (X.blk s H scope (compEnvC scope cl C X.env) fp) (act (.ref D) (compEnvC scope cl C X.env)) (ta D)) (hs : ∀ x, foldedSetIterable iter X.env x = pure x)
    {pins : List (Addr × Obj)} {s : Shared} {σ : L2.St} {H : Hp} {Q : VK} {use : Option (Value → Sem Unit)} {Qf : Value → Shared → Prop} (I : L2.Inv X pins σ H s) (h : tGa wi o0 g tt ta (own.map (·.2)) σ H Q)
    (hend : ∀ D C s' m H', L2.Inv X pins σ H' s' → Q (.ref D) H' → s'.heap.Ns C m → FpOk X pins H' C → compPost (model X.prog X.w) X.A X.xe use Qf (.ref D) C (.ok .next) s') :
    wpAny (model X.prog X.w) X.A (comprehension e scope X.env pos' new false (eval iter X.env) use) Qf X.xe s := by
  have hfree : ∀ y ∈ scope.names, y.2 = .free → ∃ c, X.env.cells.lookup y.1 = some c := fun y hy e => (ok.free y hy e).elim (fun k => I.ok.has _ (.inl k)) fun k => I.ok.has _ (.inr k)
  refine wpAny_comprehension_free (use := use) hgs hs (closure_ok hfree) ok.kind (fun y hy e => by rw [ok.uniq y hy, e]) (thn (hi.run pins s σ H _ I h) fun xv s1 hx => thn hx fun itv s2 h2 => ?_)
  obtain ⟨it, fp, tn, J, H2, ei, I2, T, st2, f2, hl⟩ := h2
  subst ei
  refine hnew s2 _ _ (newEnv_comp ?_)
  have hDn : H2 s2.heap.objs.size = none := I2.hok.fresh (Nat.le_refl _)
  have hL := hl s2.heap.objs.size hDn
  have I3 : L2.Inv X pins σ (upd H2 s2.heap.objs.size (o0 s2.heap.objs.size)) { s2 with heap := s2.heap.push O } := I2.laid (t' := s2.toks) (fun b o eo => Heap.get?_push_of_some _ eo) (Nat.le_refl _) (hob H2 s2.heap I2.hok I2.big)
  have low : ∀ b ∈ fp, b < s2.heap.objs.size := fun b hb => by
    obtain ⟨o, eo, _⟩ := T.obj _ _ st2 b hb
    exact Heap.lt_size eo
  have szP : (s2.heap.push O).objs.size = s2.heap.objs.size + 1 := Heap.size_push ..
  have f3 : ∀ b ∈ fp, FpOk X pins (upd H2 s2.heap.objs.size (o0 s2.heap.objs.size)) b ∧ b < ({ s2 with heap := s2.heap.push O } : Shared).heap.objs.size := fun b hb => by
    refine ⟨⟨?_, (f2 b hb).2⟩, ?_⟩
    · rw [upd_ne (Nat.ne_of_lt (low b hb))]
      exact (f2 b hb).1
    · show b < (s2.heap.push O).objs.size
      rw [szP]
      exact Nat.lt_succ_of_lt (low b hb)
  have I4 := block_start I3 ok hN f3
  have st4 := T.keep _ _ (pushCells ((s2.heap.push O).push { cls := .type "dict", data := .dict #[] }) scope.names) st2 fun b _ o eo => pushCells_keeps _ _ _ _ (Heap.get?_push_of_some _ (Heap.get?_push_of_some _ eo))
  have nf : ∀ b ∈ fp, (upd H2 s2.heap.objs.size (o0 s2.heap.objs.size)) b = none := fun b hb => (f3 b hb).1.1
  generalize hB : X.blk { s2 with heap := s2.heap.push O } (upd H2 s2.heap.objs.size (o0 s2.heap.objs.size)) scope (compEnvC scope (cellsFrom ((s2.heap.push O).objs.size + 1) scope.names (cloFrom X.env.cells scope.names [])) (s2.heap.push O).objs.size X.env) fp = B at I4
  have pgB : PG B tg g := hB ▸ hg _ _ _ _ _
  have ptB : PTs B ifs tt := hB ▸ ht _ _ _ _ _
  have eB : B.env = compEnvC scope (cellsFrom ((s2.heap.push O).objs.size + 1) scope.names (cloFrom X.env.cells scope.names [])) (s2.heap.push O).objs.size X.env := by subst hB; rfl
  have paB : PAc B (act (.ref s2.heap.objs.size) B.env) (ta s2.heap.objs.size) := by
    rw [eB]
    subst hB
    exact ha _ _ _ _ _ _
  have hb1 : B.prog = X.prog ∧ B.w = X.w ∧ B.K = X.K ∧ B.A = X.A ∧ B.calm = true := by subst hB; exact ⟨rfl, rfl, rfl, rfl, hc⟩
  obtain ⟨b1, b2, b3, b4, b5⟩ := hb1
  have loop : ∀ s1 : Shared, s1 = { s2 with heap := pushCells ((s2.heap.push O).push { cls := .type "dict", data := .dict #[] }) scope.names } → codeAny (model B.prog B.w) B.A (.compLoop e 0 (.ref it) (.ref s2.heap.objs.size) B.env) (compPost (model X.prog X.w) X.A X.xe use Qf (.ref s2.heap.objs.size) (s2.heap.push O).objs.size) s1 := fun s1 e1 => by
    subst e1
    refine loop_ok G C b5 (by subst hB; rfl) (b1 ▸ b2 ▸ b3 ▸ T) pgB ptB paB (pins := []) (fun H' n b hb => ?_) I4 st4 nf hL fun H' s5 I5 q => ?_
    · refine ⟨n b hb, (I4.ok.exf b ?_).1, I4.ok.exfs b ?_, .inl ?_, fun x c e => (I4.ok.exf b ?_).2 x c e, fun p hp => ?_⟩
      all_goals first | (subst hB; exact hb) | (subst hB; exact absurd (show p ∈ ([] : List (Addr × Obj)) ++ [] from hp) (by simp))
    · subst hB
      have I6 : L2.Inv X pins σ H' s5 := I3.call' (ch := fp) I5.os I5.base I5.hok I5.bare fun b hb => ⟨(f3 b hb).1.2.2.2.1, (f3 b hb).1.2.1, (f3 b hb).1.2.2.2.2.1, (f3 b hb).1.2.2.2.2.2⟩
      have nC : H' (s2.heap.push O).objs.size = none := I5.free
      obtain ⟨m, hn, _⟩ := I5.loc
      exact hend _ _ s5 m H' I6 q hn (I3.fpOk (Nat.le_refl (s2.heap.push O).objs.size) nC)
  subst hB
  exact start_ok G ⟨_, by rw [hgs]; rfl, rfl⟩ loop fun Q' E' q => T.self X.A 0 _ _ _ st4 q
/-- as a value -/
theorem ga_pe {gs : List Comprehension} (hgs : clausesOf e = ⟨tg, iter, ifs, 0⟩ :: gs) (G : Gath e) (C : ClauseOk e 0 tg iter ifs act) (hc : X.calm = true) (hN : X.N.Nodup) (hi : PI X tg iter wi) (ok : BlkOk X.N X.env.scope scope own)
    (hnew : ∀ (s : Shared) (Q : Value → Shared → Prop) (E : Value → Shared → Prop), Q (.ref s.heap.objs.size) { s with heap := s.heap.push O } → wpAny (model X.prog X.w) X.A new Q E s)
    (hob : ∀ (H : Hp) (h : Heap), HOk X.prog X.w H h → sysModules < h.objs.size → ObjOk X.prog X.w (upd H h.objs.size (o0 h.objs.size)) (h.push O) h.objs.size (o0 h.objs.size))
    (hg : ∀ (s : Shared) (H : Hp) (C : Addr) (cl : List (Str × Addr)) (fp : List Addr), PG (X.blk s H scope (compEnvC scope cl C X.env) fp) tg g) (ht : ∀ (s : Shared) (H : Hp) (C : Addr) (cl : List (Str × Addr)) (fp : List Addr), PTs (X.blk s H scope (compEnvC scope cl C X.env) fp) ifs tt)
    (ha : ∀ (s : Shared) (H : Hp) (C : Addr) (cl : List (Str × Addr)) (fp : List Addr) (D : Addr), PAc (X.blk s H scope (compEnvC scope cl C X.env) fp) (act (.ref D) (compEnvC scope cl C X.env)) (ta D)) (hs : ∀ x, foldedSetIterable iter X.env x = pure x)
    (hev : eval e X.env = comprehension e scope X.env pos' new false (eval iter X.env)) : PE X e (tGa wi o0 g tt ta (own.map (·.2))) := by
  refine ⟨fun pins s σ H Q I h => ?_⟩
  rw [hev]
  refine ga_core hgs G C hc hN hi ok hnew hob hg ht ha hs I h fun D C s' m H' I' q hn f => ⟨m, hn, fun h'' sb => ?_⟩
  obtain ⟨f0, f1, f2, f3, f4, f5⟩ := f
  exact ⟨.ref D, H', I'.turned (t' := s'.toks) (fun b o hb eo => (sb.2 b hb).trans eo) f0 f1 f3 f4 f5, rfl, q⟩
/-- y = e on one line, y a local -/
theorem ga_ps {gs : List Comprehension} {i : Nat} {y : Str} {py spos : Pos} (hgs : clausesOf e = ⟨tg, iter, ifs, 0⟩ :: gs) (G : Gath e) (C : ClauseOk e 0 tg iter ifs act) (hc : X.calm = true) (hN : X.N.Nodup) (hy : X.N[i]? = some y) (hyl : X.env.scope.names.lookup y = some .local)
    (hsw : swapsWith e (some (.Name y py)) spos.line X.env = pure true) (hi : PI X tg iter wi) (ok : BlkOk X.N X.env.scope scope own)
    (hnew : ∀ (s : Shared) (Q : Value → Shared → Prop) (E : Value → Shared → Prop), Q (.ref s.heap.objs.size) { s with heap := s.heap.push O } → wpAny (model X.prog X.w) X.A new Q E s)
    (hob : ∀ (H : Hp) (h : Heap), HOk X.prog X.w H h → sysModules < h.objs.size → ObjOk X.prog X.w (upd H h.objs.size (o0 h.objs.size)) (h.push O) h.objs.size (o0 h.objs.size))
    (hg : ∀ (s : Shared) (H : Hp) (C : Addr) (cl : List (Str × Addr)) (fp : List Addr), PG (X.blk s H scope (compEnvC scope cl C X.env) fp) tg g) (ht : ∀ (s : Shared) (H : Hp) (C : Addr) (cl : List (Str × Addr)) (fp : List Addr), PTs (X.blk s H scope (compEnvC scope cl C X.env) fp) ifs tt)
    (ha : ∀ (s : Shared) (H : Hp) (C : Addr) (cl : List (Str × Addr)) (fp : List Addr) (D : Addr), PAc (X.blk s H scope (compEnvC scope cl C X.env) fp) (act (.ref D) (compEnvC scope cl C X.env)) (ta D)) (hs : ∀ x, foldedSetIterable iter X.env x = pure x)
    (hev : ∀ use, evalThenUse e X.env use = (do let _ ← comprehension e scope X.env pos' new false (eval iter X.env) (some use))) : PS X (.Assign [.Name y py] e spos) (tAsg (tGa wi o0 g tt ta (own.map (·.2))) (gName i)) := by
  refine ⟨fun pins s σ H D I h => ?_⟩
  rw [exec_Assign_Name_used _ _ _ _ hsw]
  refine wpAny_bind (wpAny_standAt (wpAny_bind ?_))
  rw [hev]
  have h : tGa wi o0 g tt ta (own.map (·.2)) σ H (fun x H1 => gName i x σ H1 D.nx) := h
  refine wpAny_bind (thn (ga_core (Qf := fun _ s' => SP X pins D .next s') hgs G C hc hN hi ok hnew hob hg ht ha hs I h fun L C s' m H' I' q hn f => ?_) fun _ s' hq => wpAny_pure (wpAny_pure hq))
  show wpAny _ _ (assign (.Name y py) X.env (.ref L)) _ _ _
  refine wpAny_assign_Name (store_ok2 (v := V.ref L) I' hN hy (.inl hyl) rfl (fun s2 I2 ⟨a, sb, ha⟩ => ?_) (.inr hyl))
  obtain ⟨f0, f1, f2, f3, f4, f5⟩ := f
  have haC : C ≠ a := ha.elim (fun z => by rw [z]; exact f1) fun z e => f4 y a z e.symm
  exact ⟨m, hn.sameBut sb haC, fun h3 sb3 => ⟨_, H', I2.turned (t' := s2.toks) (fun b o hb eo => (sb3.2 b hb).trans eo) f0 f1 f3 f4 f5, q⟩⟩
end
/-! ### dicts -/
def dcEmit (k v : Expr) (acc : Value) (env : Env) : Sem Unit := do
  let kv ← eval k env
  let vv ← holding [kv] (eval v env)
  match acc with
  | .ref d => do
    standAt { k.pos with endLine := v.pos.endLine, endCol := v.pos.endCol }
    holding [kv, vv] (dictSet d kv vv)
  | _ => unsupported "internal:dictcomp"
def dcAct (k v : Expr) (acc : Value) (env : Env) (m : Sem PySem.Fin) : Sem PySem.Fin := do
  let _ ← dcEmit k v acc env
  m
theorem cl_dc1 {k v tg iter : Expr} {ifs : List Expr} {scope : Scope} {pos : Pos} : ClauseOk (.DictComp k v [⟨tg, iter, ifs, 0⟩] scope pos) 0 tg iter ifs (dcAct k v) := fun _ _ _ => rfl
theorem cl_dc2 {k v tg iter tg1 iter1 : Expr} {ifs ifs1 : List Expr} {scope : Scope} {pos : Pos} : ClauseOk (.DictComp k v [⟨tg, iter, ifs, 0⟩, ⟨tg1, iter1, ifs1, 0⟩] scope pos) 0 tg iter ifs (forAct (.DictComp k v [⟨tg, iter, ifs, 0⟩, ⟨tg1, iter1, ifs1, 0⟩] scope pos) 1 iter1) := fun _ _ _ => rfl
theorem cl_dc3 {k v tg iter tg1 iter1 : Expr} {ifs ifs1 : List Expr} {scope : Scope} {pos : Pos} : ClauseOk (.DictComp k v [⟨tg, iter, ifs, 0⟩, ⟨tg1, iter1, ifs1, 0⟩] scope pos) 1 tg1 iter1 ifs1 (dcAct k v) := fun _ _ _ => rfl
section
variable {Y : Cx} {D : Addr} {k v : Expr} {tk tv : TE}
/-- d[y] = z where the machine stores it by itself -/
theorem d_dput {pins : List (Addr × Obj)} {σ : L2.St} {H H' : Hp} {s : Shared} {A : Around} {E : Value → Shared → Prop} {a : Addr} {y v : V} {u r : Value} {Q : Unit → Shared → Prop} (hu : A.units < cLine) (I : L2.Inv Y pins σ H s) (g : DPut H a y v H') (ry : RelV y u) (rv : RelV v r)
    (h : ∀ s', L2.Inv Y pins σ H' s' → Q () s') : wpAny (model Y.prog Y.w) A (dictSet a u r) Q E s := by
  rcases g with ⟨kvs, k, e, ey, l, eH⟩ | ⟨kvs, k, b, e, ey, eb, l, eH⟩
  · subst ey eH
    obtain ⟨z, hd, vs, rel, dd⟩ := dk_of I.hok e
    have hl := length_putK kvs k v
    refine wpAny_dictSet_pairs (hsz := by rw [← rel.length]; exact z) (kV_is ry) dd fun h1 d1 sb => h _ ?_
    obtain ⟨q, es, ep, hq, _⟩ := id d1
    exact d_write I (by rw [e]; exact True.intro) sb ⟨q, hq⟩ (dk_new (by omega) hd (rel.put k rv) d1)
  · subst ey eH
    obtain rfl : u = Value.ref b := ry
    obtain ⟨z, hd, xs, rel, dd⟩ := dt_of I.hok e
    have hl := length_putK kvs k v
    refine wpAny_dictSet_heap (hsz := by rw [← Paired.length rel]; exact z) (show (tupleKind (mixKind Y.prog Y.w)).room A from hu) (key_of I.hok eb) dd fun h1 d1 sb => h _ ?_
    obtain ⟨q, es, ep, hq, h2, h3, h4, _, h5⟩ := d1
    refine d_write I (by rw [e]; exact True.intro) sb ⟨q, hq⟩ ⟨by omega, hd, _, (rel.put k eb rv).keeps fun c ys ec => ?_, q, es, ep, hq, h2, h3, h4, h5⟩
    rw [upd_ne (ne_of ec e fun z => nomatch z)]
    exact ec
def tDcA (D : Addr) (tk tv : TE) : TAc := fun σ H Q => tk σ H fun y H1 => tv σ H1 fun z H2 => ∃ H3, DPut H2 D y z H3 ∧ Q H3
theorem pac_dc (hu : Y.A.units < cLine) (hxe : Y.xe = fun _ _ => False) (hk : PE Y k tk) (hv : PE Y v tv) : PAc Y (dcAct k v (.ref D) Y.env) (tDcA D tk tv) := by
  refine ⟨fun pins s σ H Q m R E I h hm => ?_⟩
  have hr := hk.run pins s σ H _ I h
  rw [hxe] at hr
  refine wpAny_bind (wpAny_bind (thnF hr fun u s1 ⟨y, H1, I1, r1, q1⟩ => ?_))
  have hr2 := hv.run pins s1 σ H1 _ I1 q1
  rw [hxe] at hr2
  refine wpAny_bind (wpAny_holding (thnF hr2 fun r s2 ⟨z, H2, I2, r2, H3, dp, q2⟩ => ?_))
  exact wpAny_bind (wpAny_standAt (wpAny_holding (d_dput hu I2 dp r1 r2 fun s3 I3 => hm s3 H3 I3 q2)))
end
/-- a clause over something that is walked -/
theorem lp_it {J : It} {n : Nat} {S : Hp → Prop} {Yv : Nat → Hp → V → Hp → Prop} (w : Walk J n S Yv) {g : TG} {tt : TT} {ta : TAc} {vs : List Nat} {σ : L2.St} {H0 : Hp} {Q : Hp → Prop} (Pv : Nat → Hp → Prop) (h0 : Pv 0 H0) (hS : ∀ i H, i ≤ n → Pv i H → S H)
    (hs : ∀ i x H H', i < n → Pv i H → Yv i H x H' → g x (wipe σ vs) H' fun σ2 H2 => wipe σ2 vs = wipe σ vs ∧ tt σ2 H2 fun b H3 => if b = true then ta σ2 H3 (Pv (i + 1)) else Pv (i + 1) H3) (hd : ∀ H, Pv n H → Q H) : Lp J g tt ta vs σ H0 Q := by
  refine ⟨fun i m H => m = n - i ∧ i ≤ n ∧ Pv i H, ⟨n, by simp, Nat.zero_le _, h0⟩, fun i m H ⟨em, hi, p⟩ => ?_⟩
  subst em
  have q := hS i H hi p
  by_cases lt : i < n
  · exact .inr ⟨w.goes i H lt q, Pv (i + 1), fun H' p' => ⟨n - (i + 1), by omega, rfl, lt, p'⟩, fun x H' y => hs i x H H' lt p (w.yields i H x H' lt q y)⟩
  · obtain rfl : i = n := by omega
    exact .inl ⟨w.stops H q, hd H p⟩
theorem fd_new {P : Program} {w : World} (κ : Kd) (H : Hp) (h : Heap) (hb : sysModules < h.objs.size) : ObjOk P w H (h.push { cls := .type "dict", data := .dict #[] }) h.objs.size (FD κ [] fun _ => .non) := by
  cases κ
  · exact dk_empty h hb
  · exact dt_empty h hb
/-! ### {k: v for ..} with nodes (or, κ = st, numbers) as keys -/
section
variable {X : Cx} {k v tg iter tg1 iter1 : Expr} {ifs ifs1 : List Expr} {scope : Scope} {own : List (Str × Nat)} {vs1 : List Nat} {pos spos py : Pos} {i : Nat} {y : Str} {wi wi1 : TI} {g g1 : TG} {tt tt1 : TT} {tk tv : TE}
theorem pe_gdc (κ : Kd) (hu : X.A.units < cLine) (hc : X.calm = true) (hN : X.N.Nodup) (hi : PI X tg iter wi) (ok : BlkOk X.N X.env.scope scope own)
    (hg : ∀ (s : Shared) (H : Hp) (C : Addr) (cl : List (Str × Addr)) (fp : List Addr), PG (X.blk s H scope (compEnvC scope cl C X.env) fp) tg g) (ht : ∀ (s : Shared) (H : Hp) (C : Addr) (cl : List (Str × Addr)) (fp : List Addr), PTs (X.blk s H scope (compEnvC scope cl C X.env) fp) ifs tt)
    (hk : ∀ (s : Shared) (H : Hp) (C : Addr) (cl : List (Str × Addr)) (fp : List Addr), PE (X.blk s H scope (compEnvC scope cl C X.env) fp) k tk) (hv : ∀ (s : Shared) (H : Hp) (C : Addr) (cl : List (Str × Addr)) (fp : List Addr), PE (X.blk s H scope (compEnvC scope cl C X.env) fp) v tv)
    (hs : ∀ x, foldedSetIterable iter X.env x = pure x := by intro _; rfl) : PE X (.DictComp k v [⟨tg, iter, ifs, 0⟩] scope pos) (tGa wi (fun _ => FD κ [] fun _ => .non) g tt (fun D => tDcA D tk tv) (own.map (·.2))) :=
  ga_pe (e := .DictComp k v [⟨tg, iter, ifs, 0⟩] scope pos) (gs := []) (pos' := firstIterPos [⟨tg, iter, ifs, 0⟩] pos) (new := newDict) (act := dcAct k v) rfl gath_dict cl_dc1 hc hN hi ok (fun s Q E h => wpAny_newObj_type h) (fun H h _ hb => fd_new κ _ h hb) hg ht
    (fun s H C cl fp D => pac_dc (Y := X.blk s H scope (compEnvC scope cl C X.env) fp) hu rfl (hk s H C cl fp) (hv s H C cl fp)) hs rfl
theorem ps_gdc (κ : Kd) (hu : X.A.units < cLine) (hc : X.calm = true) (hN : X.N.Nodup) (hy : X.N[i]? = some y) (hyl : X.env.scope.names.lookup y = some .local) (hi : PI X tg iter wi) (ok : BlkOk X.N X.env.scope scope own)
    (hg : ∀ (s : Shared) (H : Hp) (C : Addr) (cl : List (Str × Addr)) (fp : List Addr), PG (X.blk s H scope (compEnvC scope cl C X.env) fp) tg g) (ht : ∀ (s : Shared) (H : Hp) (C : Addr) (cl : List (Str × Addr)) (fp : List Addr), PTs (X.blk s H scope (compEnvC scope cl C X.env) fp) ifs tt)
    (hi1 : ∀ (s : Shared) (H : Hp) (C : Addr) (cl : List (Str × Addr)) (fp : List Addr), PI (X.blk s H scope (compEnvC scope cl C X.env) fp) tg1 iter1 wi1)
    (hg1 : ∀ (s : Shared) (H : Hp) (C : Addr) (cl : List (Str × Addr)) (fp : List Addr), PG (X.blk s H scope (compEnvC scope cl C X.env) fp) tg1 g1) (ht1 : ∀ (s : Shared) (H : Hp) (C : Addr) (cl : List (Str × Addr)) (fp : List Addr), PTs (X.blk s H scope (compEnvC scope cl C X.env) fp) ifs1 tt1)
    (hk : ∀ (s : Shared) (H : Hp) (C : Addr) (cl : List (Str × Addr)) (fp : List Addr), PE (X.blk s H scope (compEnvC scope cl C X.env) fp) k tk) (hv : ∀ (s : Shared) (H : Hp) (C : Addr) (cl : List (Str × Addr)) (fp : List Addr), PE (X.blk s H scope (compEnvC scope cl C X.env) fp) v tv)
    (hsw : swapsWith (.DictComp k v [⟨tg, iter, ifs, 0⟩, ⟨tg1, iter1, ifs1, 0⟩] scope pos) (some (.Name y py)) spos.line X.env = pure true) (hs : ∀ x, foldedSetIterable iter X.env x = pure x := by intro _; rfl) (hs1 : ∀ env x, foldedSetIterable iter1 env x = pure x := by intro _ _; rfl) :
    PS X (.Assign [.Name y py] (.DictComp k v [⟨tg, iter, ifs, 0⟩, ⟨tg1, iter1, ifs1, 0⟩] scope pos) spos)
      (tAsg (tGa wi (fun _ => FD κ [] fun _ => .non) g tt (fun D σ H Q => wipe σ vs1 = σ ∧ wi1 σ H fun J H1 => Lp J g1 tt1 (tDcA D tk tv) vs1 σ H1 Q) (own.map (·.2))) (gName i)) :=
  ga_ps (e := .DictComp k v [⟨tg, iter, ifs, 0⟩, ⟨tg1, iter1, ifs1, 0⟩] scope pos) (gs := [⟨tg1, iter1, ifs1, 0⟩]) (pos' := firstIterPos [⟨tg, iter, ifs, 0⟩, ⟨tg1, iter1, ifs1, 0⟩] pos) (new := newDict) (act := forAct (.DictComp k v [⟨tg, iter, ifs, 0⟩, ⟨tg1, iter1, ifs1, 0⟩] scope pos) 1 iter1) rfl gath_dict cl_dc2 hc hN hy hyl hsw hi ok
    (fun s Q E h => wpAny_newObj_type h) (fun H h _ hb => fd_new κ _ h hb) hg ht (fun s H C cl fp D => pac_for (Y := X.blk s H scope (compEnvC scope cl C X.env) fp) gath_dict cl_dc3 ⟨_, rfl, rfl⟩ hc rfl (hi1 s H C cl fp) (hg1 s H C cl fp) (ht1 s H C cl fp)
      (pac_dc (Y := X.blk s H scope (compEnvC scope cl C X.env) fp) hu rfl (hk s H C cl fp) (hv s H C cl fp)) (fun x => hs1 _ x)) hs fun use => rfl
theorem pe_gdc2 (κ : Kd) (hu : X.A.units < cLine) (hc : X.calm = true) (hN : X.N.Nodup) (hi : PI X tg iter wi) (ok : BlkOk X.N X.env.scope scope own)
    (hg : ∀ (s : Shared) (H : Hp) (C : Addr) (cl : List (Str × Addr)) (fp : List Addr), PG (X.blk s H scope (compEnvC scope cl C X.env) fp) tg g) (ht : ∀ (s : Shared) (H : Hp) (C : Addr) (cl : List (Str × Addr)) (fp : List Addr), PTs (X.blk s H scope (compEnvC scope cl C X.env) fp) ifs tt)
    (hi1 : ∀ (s : Shared) (H : Hp) (C : Addr) (cl : List (Str × Addr)) (fp : List Addr), PI (X.blk s H scope (compEnvC scope cl C X.env) fp) tg1 iter1 wi1)
    (hg1 : ∀ (s : Shared) (H : Hp) (C : Addr) (cl : List (Str × Addr)) (fp : List Addr), PG (X.blk s H scope (compEnvC scope cl C X.env) fp) tg1 g1) (ht1 : ∀ (s : Shared) (H : Hp) (C : Addr) (cl : List (Str × Addr)) (fp : List Addr), PTs (X.blk s H scope (compEnvC scope cl C X.env) fp) ifs1 tt1)
    (hk : ∀ (s : Shared) (H : Hp) (C : Addr) (cl : List (Str × Addr)) (fp : List Addr), PE (X.blk s H scope (compEnvC scope cl C X.env) fp) k tk) (hv : ∀ (s : Shared) (H : Hp) (C : Addr) (cl : List (Str × Addr)) (fp : List Addr), PE (X.blk s H scope (compEnvC scope cl C X.env) fp) v tv)
    (hs : ∀ x, foldedSetIterable iter X.env x = pure x := by intro _; rfl) (hs1 : ∀ env x, foldedSetIterable iter1 env x = pure x := by intro _ _; rfl) :
    PE X (.DictComp k v [⟨tg, iter, ifs, 0⟩, ⟨tg1, iter1, ifs1, 0⟩] scope pos) (tGa wi (fun _ => FD κ [] fun _ => .non) g tt (fun D σ H Q => wipe σ vs1 = σ ∧ wi1 σ H fun J H1 => Lp J g1 tt1 (tDcA D tk tv) vs1 σ H1 Q) (own.map (·.2))) :=
  ga_pe (e := .DictComp k v [⟨tg, iter, ifs, 0⟩, ⟨tg1, iter1, ifs1, 0⟩] scope pos) (gs := [⟨tg1, iter1, ifs1, 0⟩]) (pos' := firstIterPos [⟨tg, iter, ifs, 0⟩, ⟨tg1, iter1, ifs1, 0⟩] pos) (new := newDict) (act := forAct (.DictComp k v [⟨tg, iter, ifs, 0⟩, ⟨tg1, iter1, ifs1, 0⟩] scope pos) 1 iter1) rfl gath_dict cl_dc2 hc hN hi ok
    (fun s Q E h => wpAny_newObj_type h) (fun H h _ hb => fd_new κ _ h hb) hg ht (fun s H C cl fp D => pac_for (Y := X.blk s H scope (compEnvC scope cl C X.env) fp) gath_dict cl_dc3 ⟨_, rfl, rfl⟩ hc rfl (hi1 s H C cl fp) (hg1 s H C cl fp) (ht1 s H C cl fp)
      (pac_dc (Y := X.blk s H scope (compEnvC scope cl C X.env) fp) hu rfl (hk s H C cl fp) (hv s H C cl fp)) (fun x => hs1 _ x)) hs rfl
end
end Bk
end
section
/-! Sets of texts, gathered by a comprehension and sorted; lists of data sorted. -/
namespace Bk
open PySem L2 LamX PySem.Spec PyProof.Rows PySem.W
/-! ### a set of texts -/
def keyT (e : Int × Value) : Str := match e.2 with
  | .str k _ => k
  | _ => ⟨#[]⟩
def GoodT (w : World) (e : Int × Value) : Prop := ∃ k tk, e.2 = Value.str k tk ∧ e.1 = hashStr w k
/-- at a: the set of the texts of l -/
def SetT (w : World) (h : Heap) (a : Addr) (l : List Str) : Prop := ∃ o es ep t, h.get? a = some o ∧ o.ExactSet ∧ o.data = .set es ep t ∧ (∀ e ∈ es.toList, GoodT w e) ∧ (es.toList.map keyT).Perm l ∧ l.Nodup ∧ es.size < scanBound ∧ t.fits es.size = true ∧ Ris t.place.toList ∧
  (w.params.followText "set-order" = true ∨ t.led = true)
section
variable {P : Program} {w : World} {h h' : Heap} {a : Addr} {l : List Str}
theorem SetT.at (R : SetT w h a l) (k : ∀ o, h.get? a = some o → h'.get? a = some o) : SetT w h' a l := by
  obtain ⟨o, es, ep, t, ho, r⟩ := R
  exact ⟨o, es, ep, t, k o ho, r⟩
theorem goodT_elems {es : List (Int × Value)} (g : ∀ e ∈ es, GoodT w e) : ElemsOf (PySem.strKind P w) es := fun e he => by
  obtain ⟨k, tk, h1, h2⟩ := g e he
  refine ⟨⟨k, ?_, h2⟩, ?_⟩
  · rw [h1]
    show Value.isStrOf k (.str k tk) = true
    simp [Value.isStrOf]
  · rw [h1] <;> rfl
theorem goodT_is {e : Int × Value} (g : GoodT w e) (k : Str) : (PySem.strKind P w).is k e.2 = true ↔ keyT e = k := by
  obtain ⟨k0, tk, h1, _⟩ := g
  unfold keyT
  rw [h1]
  show Value.isStrOf k (.str k0 tk) = true ↔ k0 = k
  simp only [Value.isStrOf, beq_iff_eq]
end
section
variable {P : Program} {w : World} {A : Around} {E : Value → Shared → Prop} {s : Shared} {a : Addr} {l : List Str}
theorem put_at {h : Heap} {a : Addr} {o : Obj} {es es' : Array (Int × Value)} {ep : Nat} {t t' : SetTable} (ho : h.get? a = some o) (hd : o.data = .set es ep t) : (h.update a (Obj.putSet es' t')).get? a = some { o with data := .set es' (ep + 1) t' } := by
  have q := Heap.get?_update_self (Obj.putSet es' t') ho (by rw [putSet_of es' t' hd]; rfl)
  rwa [putSet_of es' t' hd] at q
/-- the table behind a new text: laid anew where it is full -/
theorem tx_lay {g : Bool → Sem Unit} (hg : ∀ (b : Bool) (s1 : Shared) (Q' : Unit → Shared → Prop), Q' () s1 → wpAny (model P w) A (g b) Q' E s1) {o : Obj} {es es1 : Array (Int × Value)} {ep : Nat} {t t2 : SetTable} (ho : s.heap.get? a = some o) (hex : o.ExactSet) (hd : o.data = .set es ep t)
    (g1 : ∀ e ∈ es1.toList, GoodT w e) (p1 : (es1.toList.map keyT).Perm l) (nd : l.Nodup) (hb : es1.size < scanBound) (hf : t2.fits es1.size = true) (hr : Ris t2.place.toList) (hl : w.params.followText "set-order" = true ∨ t2.led = true) {dm : Bool} {R : Option Bool → Shared → Prop}
    (hR : ∀ h', Heap.SameBut a s.heap h' → SetT w h' a l → R (some true) { s with heap := h' }) :
    wpAny (model P w) A (do
      storeSet a es1 t2
      if (!dm && t2.tooFull) = true then do
        g (relayAll t2 es1 (SetTable.grown es1.size)).2.2
        storeSet a (relayAll t2 es1 (SetTable.grown es1.size)).1 (relayAll t2 es1 (SetTable.grown es1.size)).2.1
        pure (some true)
      else pure (some true)) R E s := by
  refine wpAny_bind (wpAny_storeSet_of ho hd ?_ (fits_of_scanBound hb))
  have o1 := put_at (es' := es1) (t' := t2) ho hd
  have b1 := Heap.SameBut.update s.heap a (Obj.putSet es1 t2)
  by_cases full : (!dm && t2.tooFull) = true
  · rw [if_pos full]
    have q1 := relayAll_perm t2 es1 (SetTable.grown es1.size)
    have q2 := relayAll_fits t2 es1 (SetTable.grown es1.size)
    have q3 := relayAll_ris t2 es1 (SetTable.grown es1.size)
    have q4 := relayAll_led t2 es1 (SetTable.grown es1.size)
    generalize relayAll t2 es1 (SetTable.grown es1.size) = Z at q1 q2 q3 q4 ⊢
    obtain ⟨es2, t3, gv⟩ := Z
    dsimp only at q1 q2 q3 q4 ⊢
    have sz : es2.size = es1.size := by
      rw [← Array.length_toList, q1.length_eq, Array.length_toList]
    have hb2 : es2.size < scanBound := sz ▸ hb
    refine wpAny_bind (hg _ _ _ (wpAny_bind (wpAny_storeSet_of o1 rfl ?_ (fits_of_scanBound hb2))))
    have o2 := put_at (es' := es2) (t' := t3) o1 rfl
    exact wpAny_pure (hR _ (b1.trans (Heap.SameBut.update _ a _)) ⟨_, es2, _, t3, o2, hex, rfl, fun e he => g1 e (q1.mem_iff.mp he), (q1.map keyT).trans p1, nd, hb2, q2, q3, hl.imp id fun z => by rw [q4]; exact z⟩)
  · rw [if_neg full]
    exact wpAny_pure (hR _ b1 ⟨_, es1, _, t2, o1, hex, rfl, g1, p1, nd, hb, hf, hr, hl⟩)
theorem tx_hashed {k : Str} {tk : Tok} {Q : Bool → Shared → Prop} (R : SetT w s.heap a l) (room : l.length + 1 < scanBound) (hQ : ∀ b h', Heap.SameBut a s.heap h' → SetT w h' a (if k ∈ l then l else k :: l) → Q b { s with heap := h' }) :
    wpAny (model P w) A (setAddHashed a (.str k tk) (hashStr w k)) Q E s := by
  obtain ⟨o, es, ep, t, ho, hex, hd, g, pm0, nd, hb, hf, hr, hl⟩ := R
  have is1 : (PySem.strKind P w).is k (.str k tk) = true := by
    show Value.isStrOf k (.str k tk) = true
    simp [Value.isStrOf]
  have sc : (Value.str k tk).scannable = true := rfl
  have el : ElemsOf (PySem.strKind P w) es.toList := goodT_elems g
  unfold setAddHashed setAddHashedIn
  refine wpAny_holding (wpAny_bind (wpAny_setState_of ho hd hf ?_))
  dsimp only
  rw [byScan_of sc hb el]
  simp only [↓reduceIte]
  unfold setAddByScan
  refine wpAny_bind (wpAny_bind (wpAny_rule (wpAny_bind (wpAny_setScan_of (knd := PySem.strKind P w) is1 ho hd hf el ?_))))
  cases hfi : List.findIdx? (fun e => (PySem.strKind P w).is k e.2) es.toList with
  | some j =>
    dsimp only
    obtain ⟨hj, pj, _⟩ := List.findIdx?_eq_some_iff_getElem.mp hfi
    have mem : k ∈ l := pm0.mem_iff.mp (List.mem_map.mpr ⟨_, List.getElem_mem hj, (goodT_is (g _ (List.getElem_mem hj)) k).mp pj⟩)
    have q := hQ false s.heap (Heap.SameBut.refl a s.heap)
    rw [if_pos mem] at q
    exact wpAny_pure (wpAny_pure (q ⟨o, es, ep, t, ho, hex, hd, g, pm0, nd, hb, hf, hr, hl⟩))
  | none =>
    dsimp only
    have nm : k ∉ l := fun z => by
      obtain ⟨e, he, ek⟩ := List.mem_map.mp (pm0.mem_iff.mpr z)
      have c := List.findIdx?_eq_none_iff.mp hfi e he
      rw [(goodT_is (g e he) k).mpr ek] at c
      cases c
    have give : ∀ (b : Bool) {s1 : Shared} {Q' : Unit → Shared → Prop}, Q' () s1 → wpAny (model P w) A (match b with | true => rule "set.scan.the-table-gave-way" | false => pure ()) Q' E s1 := fun b s1 Q' q => by
      cases b
      · exact wpAny_pure q
      · exact wpAny_rule q
    have q1 := layNew_perm t es ((PySem.strKind P w).hash k) (.str k tk)
    have q2 := layNew_fits t es ((PySem.strKind P w).hash k) (.str k tk)
    have q3 := layNew_ris t es ((PySem.strKind P w).hash k) (.str k tk) hr
    have q4 := layNew_led t es ((PySem.strKind P w).hash k) (.str k tk)
    show wpAny _ _ _ _ _ _
    have eh : hashStr w k = (PySem.strKind P w).hash k := rfl
    rw [eh]
    generalize layNew t es ((PySem.strKind P w).hash k) (.str k tk) = Z at q1 q2 q3 q4 ⊢
    obtain ⟨es1, t1, dm, gv⟩ := Z
    dsimp only at q1 q2 q3 q4 ⊢
    rw [Array.toList_push] at q1
    have qc : es1.toList.Perm (((PySem.strKind P w).hash k, Value.str k tk) :: es.toList) := q1.trans (List.perm_append_singleton _ _)
    have qk : (es1.toList.map keyT).Perm (k :: l) := (qc.map keyT).trans (List.Perm.cons k pm0)
    have g1 : ∀ e ∈ es1.toList, GoodT w e := fun e he => by
      rcases List.mem_cons.mp (qc.mem_iff.mp he) with z | z
      · rw [z]
        exact ⟨k, tk, rfl, rfl⟩
      · exact g e z
    have sz : es1.size = l.length + 1 := by
      have z := qk.length_eq
      rw [List.length_map, Array.length_toList, List.length_cons] at z
      exact z
    have hb1 : es1.size < scanBound := by rw [sz]; exact room
    have led : w.params.followText "set-order" = true ∨ t1.led = true := hl.imp id fun z => by rw [q4]; exact z
    have fin : ∀ h', Heap.SameBut a s.heap h' → SetT w h' a (k :: l) → Q true { s with heap := h' } := fun h' sb r => by
      have q := hQ true h' sb
      rw [if_neg nm] at q
      exact q r
    refine wpAny_bind (give _ ?_)
    split
    · refine wpAny_bind ?_
      rw [hashByValue_scannable 8 sc]
      refine wpAny_pure (tx_lay ?_ ho hex hd g1 qk (List.nodup_cons.mpr ⟨nm, nd⟩) hb1 ?_ ?_ ?_ fun h' sb r => ?_)
      · exact fun b s1 Q' q => give b q
      · first | (split <;> first | exact q2 | exact SetTable.fits_plain_off q2) | exact q2
      · first | (split <;> exact q3) | exact q3
      · first | (split <;> exact led) | exact led
      · exact wpAny_pure (fin h' sb r)
    · refine wpAny_bind (wpAny_pure ?_)
      simp only [↓reduceIte]
      exact tx_lay (fun b s1 Q' q => give b q) ho hex hd g1 qk (List.nodup_cons.mpr ⟨nm, nd⟩) hb1 q2 q3 led fun h' sb r => wpAny_pure (fin h' sb r)
theorem SetT.typeIs (R : SetT w s.heap a l) : s.TypeIs (.ref a) "set" := by
  obtain ⟨o, es, ep, t, ho, hex, _⟩ := R
  exact ⟨o, ho, hex.1⟩
/-- set.add(k) -/
theorem tx_add {k : Str} {tk : Tok} {Q : Value → Shared → Prop} (R : SetT w s.heap a l) (room : l.length + 1 < scanBound) (hQ : ∀ h' t', Heap.SameBut a s.heap h' → SetT w h' a (if k ∈ l then l else k :: l) → Q .none { s with heap := h', toks := t' }) :
    wpAny (model P w) A (call (.builtin "set.add") [.ref a, .str k tk]) Q E s := by
  refine wpAny_call_entry F.slot_set_add R.typeIs F.entry_set_add ?_ (F.args_set_add_2 _ _)
  unfold Builtin.«set.add» Builtin.Frozenset.oneOther
  simp only [List.isEmpty_nil, bind_assoc]
  unfold Builtin.Frozenset.addrOf setAdd
  refine wpAny_bind (wpAny_pure ?_)
  try dsimp only
  refine wpAny_bind (wpAny_pure ?_)
  try dsimp only
  have is1 : (PySem.strKind P w).is k (.str k tk) = true := by
    show Value.isStrOf k (.str k tk) = true
    simp [Value.isStrOf]
  refine wpAny_bind (wpAny_holding (wpAny_bind ((PySem.strKind P w).pyHash is1 ?_)))
  refine tx_hashed (s := { s with toks := s.toks + 1 }) R room fun b h' sb r => ?_
  show wpAny _ _ (ret Value.none) _ _ _
  exact wpAny_pure ⟨_, rfl, hQ h' _ sb r⟩
theorem tx_fresh {h : Heap} (w : World) : SetT w (h.push { cls := .type "set", dict := none, data := .set #[] 0 (.fresh 0 0 (!w.params.followText "set-order")) }) h.objs.size [] :=
  ⟨_, #[], 0, _, Heap.get?_push_size _ rfl, ⟨rfl, rfl, rfl⟩, rfl, (fun e he => by simp at he), .refl _, List.nodup_nil, (by decide), (by rfl), List.Pairwise.nil, by
    show _ ∨ (!w.params.followText "set-order") = true
    cases w.params.followText "set-order"
    · exact .inr rfl
    · exact .inl rfl⟩
end
/-- tracked -/
def SetTO (w : World) (a : Addr) (l : List Str) : HO := .ext fun h => SetT w h a l
theorem setTO_new {w : World} {P : Program} {H : Hp} {h : Heap} {a : Addr} {l : List Str} (R : SetT w h a l) : ObjOk P w H h a (SetTO w a l) := by
  have ⟨o, _, _, _, ho, _⟩ := R
  exact ⟨R, ⟨o, ho⟩, fun h1 h2 p k => SetT.at p k⟩
/-! ### {elt for tg in iter if ..}, elt a text -/
def scEmit (elt : Expr) (acc : Value) (env : Env) : Sem Unit := do
  let v ← eval elt env
  standAt elt.pos
  let _ ← call (.builtin "set.add") [acc, v]
def scAct (elt : Expr) (acc : Value) (env : Env) (m : Sem PySem.Fin) : Sem PySem.Fin := do
  let _ ← scEmit elt acc env
  m
theorem cl_sc {elt tg iter : Expr} {ifs : List Expr} {scope : Scope} {pos : Pos} : ClauseOk (.SetComp elt [⟨tg, iter, ifs, 0⟩] scope pos) 0 tg iter ifs (scAct elt) := fun _ _ _ => rfl
def tScA (w : World) (D : Addr) (te : TE) : TAc := fun σ H Q => te σ H fun y H1 => ∃ k l, y = .str k ∧ H1 D = some (SetTO w D l) ∧ l.length + 1 < scanBound ∧ Q (upd H1 D (SetTO w D (if k ∈ l then l else k :: l)))
theorem pac_sc {Y : Cx} {elt : Expr} {te : TE} {D : Addr} (hxe : Y.xe = fun _ _ => False) (he : PE Y elt te) : PAc Y (scAct elt (.ref D) Y.env) (tScA Y.w D te) := by
  refine ⟨fun pins s σ H Q m R E I h hm => ?_⟩
  have hr := he.run pins s σ H _ I h
  rw [hxe] at hr
  refine wpAny_bind (wpAny_bind (thnF hr fun u s1 ⟨y, H1, I1, r1, k, l, ey, hD, hz, q⟩ => wpAny_bind (wpAny_standAt (wpAny_bind ?_))))
  subst ey
  obtain ⟨tk, rfl⟩ := r1
  have R1 : SetT Y.w s1.heap D l := (I1.hok D _ hD).1
  refine tx_add R1 hz fun h' t' sb R2 => wpAny_pure (hm _ _ (I1.write (e := D) (t' := t') (by rw [hD]; trivial) (.inl rfl) (fun b u hb hu => (sb.2 b hb).trans hu) ?_ (setTO_new R2)) q)
  have ⟨o, _, _, _, ho, _⟩ := R2
  exact ⟨o, ho⟩
section
variable {X : Cx} {elt tg iter : Expr} {ifs : List Expr} {scope : Scope} {own : List (Str × Nat)} {pos : Pos} {wi : TI} {g : TG} {tt : TT} {te : TE}
theorem pe_gsc (hc : X.calm = true) (hN : X.N.Nodup) (hi : PI X tg iter wi) (ok : BlkOk X.N X.env.scope scope own)
    (hg : ∀ (s : Shared) (H : Hp) (C : Addr) (cl : List (Str × Addr)) (fp : List Addr), PG (X.blk s H scope (compEnvC scope cl C X.env) fp) tg g) (ht : ∀ (s : Shared) (H : Hp) (C : Addr) (cl : List (Str × Addr)) (fp : List Addr), PTs (X.blk s H scope (compEnvC scope cl C X.env) fp) ifs tt)
    (he : ∀ (s : Shared) (H : Hp) (C : Addr) (cl : List (Str × Addr)) (fp : List Addr), PE (X.blk s H scope (compEnvC scope cl C X.env) fp) elt te) (hs : ∀ x, foldedSetIterable iter X.env x = pure x := by intro _; rfl) :
    PE X (.SetComp elt [⟨tg, iter, ifs, 0⟩] scope pos) (tGa wi (fun D => SetTO X.w D []) g tt (fun D => tScA X.w D te) (own.map (·.2))) :=
  ga_pe (e := .SetComp elt [⟨tg, iter, ifs, 0⟩] scope pos) (gs := []) (pos' := firstIterPos [⟨tg, iter, ifs, 0⟩] pos) (new := newSet (.type "set")) (act := scAct elt) rfl gath_set cl_sc hc hN hi ok (fun s Q E h => PpSet.newSet_ok h) (fun H h _ hb => setTO_new (tx_fresh X.w)) hg ht
    (fun s H C cl fp D => pac_sc (Y := X.blk s H scope (compEnvC scope cl C X.env) fp) rfl (he s H C cl fp)) hs rfl
end
/-! ### sorted -/
def leT (a b : Str) : Bool := decide (a.cps.toList ≤ b.cps.toList)
/-- texts in order -/
def sortT (l : List Str) : List Str := l.mergeSort leT
theorem leT_trans (a b c : Str) (h1 : leT a b = true) (h2 : leT b c = true) : leT a c = true := decide_eq_true (List.le_trans (of_decide_eq_true h1) (of_decide_eq_true h2))
theorem leT_total (a b : Str) : (leT a b || leT b a) = true := by
  rcases List.le_total a.cps.toList b.cps.toList with h | h
  · simp [leT, h]
  · simp [leT, h]
theorem leT_anti (a b : Str) (h1 : leT a b = true) (h2 : leT b a = true) : a = b := by
  have := List.le_antisymm (of_decide_eq_true h1) (of_decide_eq_true h2)
  obtain ⟨x⟩ := a
  obtain ⟨y⟩ := b
  simp at this
  rw [this]
theorem sortT_perm (l : List Str) : (sortT l).Perm l := List.mergeSort_perm _ _
theorem sortT_pair (l : List Str) : (sortT l).Pairwise (fun a b => leT a b = true) := List.pairwise_mergeSort leT_trans leT_total l
/-- what is in order and holds the same is the same -/
theorem sortT_uniq {l m : List Str} (hp : l.Perm m) (hs : l.Pairwise (fun a b => leT a b = true)) : l = sortT m := List.Perm.eq_of_pairwise (le := fun a b => leT a b = true) (fun a b _ _ h1 h2 => leT_anti a b h1 h2) hs (sortT_pair m) (hp.trans (sortT_perm m).symm)
theorem sortT_congr {l m : List Str} (hp : l.Perm m) : sortT l = sortT m := sortT_uniq ((sortT_perm l).trans hp) (sortT_pair l)
theorem each_of {R : V → Value → Prop} {β : Type} {S : V → β → Prop} : ∀ {us : List Value} {bs : List β}, EachIs (fun u b => ∃ x, R x u ∧ S x b) us bs → ∃ xs : List V, Paired R xs us ∧ EachIs S xs bs
  | _, _, .nil => ⟨[], .nil, .nil⟩
  | _, _, .cons ⟨x, r, s⟩ t => by
    obtain ⟨xs, a, b⟩ := each_of t
    exact ⟨x :: xs, .cons r a, .cons s b⟩
theorem each_len {α β : Type} {S : α → β → Prop} : ∀ {as : List α} {bs : List β}, EachIs S as bs → as.length = bs.length
  | _, _, .nil => rfl
  | _, _, .cons _ t => by rw [List.length_cons, List.length_cons, each_len t]
theorem each_to {β : Type} {S : V → β → Prop} {T : Value → β → Prop} : ∀ {xs : List V} {us : List Value} {bs : List β}, EachIs S xs bs → Paired RelV xs us → (∀ x u b, RelV x u → S x b → T u b) → EachIs T us bs
  | _, _, _, .nil, .nil, _ => .nil
  | _, _, _, .cons s t, .cons r rr, h => .cons (h _ _ _ r s) (each_to t rr h)
theorem each_txt : ∀ {ys : List V} {m : List Str}, EachIs (fun x b => x = V.str b) ys m → ys = m.map V.str
  | _, _, .nil => rfl
  | _, _, .cons h t => by rw [h, each_txt t]; rfl
/-- sorted(l): l a list whose items read as the data enc b; the new list holds them in the order of the data; S: what is known of the items -/
def rSortedD (K : PySem.W.Frag) {β : Type} (enc : β → PyData) : List V → Hp → VK → Prop := fun xs H Q => ∃ (a : Addr) (vs : List V) (bs : List β) (S : V → β → Prop), xs = [.ref a] ∧ SqL K H a vs ∧ EachIs S vs bs ∧ (∀ v b, S v b → Dp K H v (enc b)) ∧
  AllAlike (bs.map enc) ∧ Sortable (bs.map enc) ∧ (∀ b ∈ bs, (enc b).depth ≤ 60) ∧ ∀ out, EachIs S out (bs.mergeSort (dataLe false enc)) → ∀ p, H p = none → Q (.ref p) (upd H p (.lst out))
section
variable {X : Cx}
theorem cr_sortedD {β : Type} (enc : β → PyData) (hu : X.A.units + 70 < cLine) : CallR X (.builtin "sorted") (rSortedD X.K enc) := by
  intro pins s σ H xs us Q I r ⟨a, vs, bs, S, ex, hl, hS, hD, al, so, dp, q⟩
  subst ex
  obtain ⟨u, rfl, ru⟩ := vals1 r
  cases ru
  obtain ⟨its, rv, pl, hz⟩ := I.list hl
  have len := each_len hS
  have e1 : EachIs (fun u b => ∃ x, RelV x u ∧ S x b) its bs := each_to hS rv fun x u b r s => ⟨x, r, s⟩
  refine sorted_data (R := fun u b => ∃ x, RelV x u ∧ S x b) pl.isList e1 (e1.mono fun u b ⟨x, r, s⟩ => Dp.reads I _ x u (hD x b s) r) al so (by omega) (fun b hb => by have := dp b hb; omega) fun out ho eo => ?_
  obtain ⟨ys, r2, s2⟩ := each_of eo
  obtain ⟨c, hcc⟩ := sortedAll_at s.heap its out.toArray
  have l2 : ys.length ≤ sizeLine := by rw [Paired.length r2, ho]; omega
  exact ⟨.ref _, upd H (s.heap.objs.size + 1) (.lst ys), I.laid (t' := s.toks) (fun _ _ => sortedAll_old) (Nat.le_succ _) ⟨l2, out, c, r2, hcc⟩, rfl, q ys s2 _ (I.hok.fresh (Nat.le_succ _))⟩
/-- sorted(a set of texts) -/
def rSortedS (w : World) : List V → Hp → VK → Prop := fun xs H Q => ∃ a l, xs = [.ref a] ∧ H a = some (SetTO w a l) ∧ ∀ p, H p = none → Q (.ref p) (upd H p (.lst ((sortT l).map V.str)))
theorem cr_sortedS (hc : X.calm = true) (hu : X.A.units + 70 < cLine) : CallR X (.builtin "sorted") (rSortedS X.w) := by
  intro pins s σ H xs us Q I r ⟨a, l, ex, ha, q⟩
  subst ex
  obtain ⟨u, rfl, ru⟩ := vals1 r
  cases ru
  obtain ⟨o, es, ep, t, ho, hex, hd, g, pm0, nd, hb, hf, hr, hl⟩ := (show SetT X.w s.heap a l from (I.hok a _ ha).1)
  have hh := I.ok.hd hc
  refine Calls.call_function_entry kind_sorted plain_sorted entry_sorted (args_sorted1 _) ?_
  unfold Builtin.«sorted»
  refine wpAny_bind (m := checkCount "sorted" 1 1 _) (wpAny_pure ?_)
  refine wpAny_bind (collect_set (A := X.A.in1) hh ⟨o, ho, hex.1, hd⟩ hf hb hr hl fun s1 vs k1 hz g1 o1 pm => ?_)
  have hvl : vs.length ≤ sizeLine := by
    rw [pm.length_eq, List.length_map, Array.length_toList]
    exact fits_of_scanBound hb
  have sh : ∀ v ∈ vs, ∃ k tk, v = Value.str k tk := fun v hv => by
    obtain ⟨e, he, q⟩ := List.mem_map.mp (pm.mem_iff.mp hv)
    obtain ⟨k, tk, h1, _⟩ := g e he
    exact ⟨k, tk, by rw [← q]; exact h1⟩
  obtain ⟨bs, eb, pb⟩ : ∃ bs : List Str, EachIs (fun v b => ∃ tk, v = Value.str b tk) vs bs ∧ bs.Perm l := by
    have e : ∀ ws : List Value, (∀ v ∈ ws, ∃ k tk, v = Value.str k tk) → EachIs (fun v b => ∃ tk, v = Value.str b tk) ws (ws.map fun v => keyT (0, v)) := by
      intro ws
      induction ws with
      | nil => intro _; exact .nil
      | cons v r ih =>
        intro h
        obtain ⟨k, tk, e⟩ := h v List.mem_cons_self
        subst e
        exact .cons ⟨tk, rfl⟩ (ih fun u hu => h u (List.mem_cons_of_mem _ hu))
    refine ⟨_, e vs sh, ?_⟩
    have z := pm.map fun v => keyT (0, v)
    rw [List.map_map] at z
    exact z.trans pm0
  refine wpAny_bind (wpAny_newList ?_ hvl)
  have hoL : (s1.heap.push (seqObj "list" vs.toArray 0)).get? s1.heap.objs.size = some (seqObj "list" vs.toArray 0) := Heap.get?_push_size _ rfl
  have er : ∀ h : Heap, EachIs (fun v b => ∃ as, Reads h v (PyData.str b) as) vs bs := fun h => eb.mono fun v b ⟨tk, e⟩ => ⟨[], by rw [e]; exact .str b tk⟩
  have al : AllAlike (bs.map PyData.str) := AllAlike.of fun b b' => rfl
  refine wpAny_bind (wpAny_holding (wpAny_call_entry slot_list_sort ⟨_, hoL, rfl⟩ entry_list_sort (list_sort_vals (s := { s1 with heap := s1.heap.push (seqObj "list" vs.toArray 0) }) hoL (SortsAt.data (ds := bs.map PyData.str) (each_map (R := fun v d => ∃ as, Reads _ v d as) PyData.str (er _)) al (Sortable.others (enc := PyData.str) (bs := bs) fun b => ⟨(fun z => nomatch z), (fun xs z => nomatch z)⟩) (fun d hd => ?_)) hvl ⟨_, rfl, ?_⟩) (args_list_sort _)))
  · obtain ⟨b, _, rfl⟩ := List.mem_map.mp hd
    show X.A.units + 1 + 1 + 0 < cLine
    omega
  · have eo := sortVals_data (h' := sortingHeap (s1.heap.push (seqObj "list" vs.toArray 0)) s1.heap.objs.size vs) (R := fun v b => ∃ x, RelV x v ∧ x = V.str b) (enc := PyData.str) false (eb.mono fun v b ⟨tk, e⟩ => ⟨V.str b, ⟨tk, e⟩, rfl⟩) (er _) al
    obtain ⟨ys, r2, s2⟩ := each_of eo
    have ey : ys = (sortT l).map V.str := by
      have z : bs.mergeSort (dataLe false PyData.str) = sortT l := by
        rw [show (dataLe false PyData.str) = leT from dataLe_str id]
        exact sortT_congr pb
      rw [z] at s2
      exact each_txt s2
    subst ey
    obtain ⟨c, hcc⟩ := sortedHeap_at (vs := vs) (out := (sortVals (dataKind (sortingHeap (s1.heap.push (seqObj "list" vs.toArray 0)) s1.heap.objs.size vs) (bs.map PyData.str)) false vs vs).toArray) hoL
    have l2 : ((sortT l).map V.str).length ≤ sizeLine := by
      rw [List.length_map, (sortT_perm l).length_eq, ← pb.length_eq, ← each_len eb]
      exact hvl
    have I1 : L2.Inv X pins σ H s1 := I.call' (ch := []) o1 (Un.kept k1) (I.hok.kept k1) (by rw [g1]; exact I.bare) fun _ z => nomatch z
    refine wpAny_pure ⟨_, rfl, ⟨.ref s1.heap.objs.size, _, I1.laid (o := .lst ((sortT l).map V.str)) (t' := s1.toks) (fun b u e => ?_) (Nat.le_refl _) ⟨l2, _, c, r2, hcc⟩, rfl, q _ (I1.hok.fresh (Nat.le_refl _))⟩⟩
    have lt := Heap.lt_size e
    rw [sortedHeap_old (Nat.ne_of_lt lt) (by rw [size_push']; exact Nat.lt_succ_of_lt lt)]
    exact Heap.get?_push_of_some _ e
end
end Bk
end
section
namespace Bk
open PySem L2 LamX PySem.Spec PyProof.Rows
/-! ### {k: v} with one pair, k a node (or a number) -/
def tDisp1 (κ : Kd) (tk tv : TE) : TE := fun σ H Q => ∀ p, H p = none → tk σ (upd H p (FD κ [] fun _ => .non)) fun y H1 => tv σ H1 fun z H2 => ∃ H3, DPut H2 p y z H3 ∧ Q (.ref p) H3
theorem pe_disp1 {X : Cx} {k v : Expr} {tk tv : TE} {pos : Pos} (κ : Kd) (hu : X.A.units < cLine) (hk : PE X k tk) (hv : PE X v tv)
    (hs : (evalEachOpt [some k] X.env).zip ((evalEach [v] X.env).map fun v => do let x ← v; standAt pos; pure x) = [(eval k X.env, do let x ← eval v X.env; standAt pos; pure x)].map fun p => (some p.1, p.2) := by rfl) : PE X (.Dict [some k] [v] pos) (tDisp1 κ tk tv) := by
  refine ⟨fun pins s σ H Q I h => ?_⟩
  rw [arm_eval_Dict, hs, dictDisplay_pairs _ (by simp) (by simp)]
  refine wpAny_bind (wpAny_standAt (wpAny_bind ?_))
  unfold subDict
  refine wpAny_bind (wpAny_alloc (wpAny_bind (wpAny_holding ?_)))
  rw [if_pos (by simp)]
  have I1 : L2.Inv X pins σ (upd H s.heap.objs.size (FD κ [] fun _ => .non)) { s with heap := s.heap.push { cls := .type "dict", data := .dict #[] } } := I.laid (t' := s.toks) (fun b o e => Heap.get?_push_of_some _ e) (Nat.le_refl _) (fd_new κ _ s.heap I.big)
  have q := h s.heap.objs.size (I.hok.fresh (Nat.le_refl _))
  refine wpAny_bind (evalPairs_cons (thn (hk.run pins _ σ _ _ I1 q) fun u s1 ⟨y, H1, I2, r1, q1⟩ => wpAny_bind (thn (hv.run pins s1 σ H1 _ I2 q1) fun r s2 ⟨z, H2, I3, r2, H3, dp, q2⟩ => wpAny_bind (wpAny_standAt (wpAny_pure (evalPairs_nil ?_))))))
  refine wpAny_holding (wpAny_bind ?_)
  rw [List.forIn_cons]
  refine wpAny_bind (wpAny_bind (d_dput hu I3 dp r1 r2 fun s3 I4 => wpAny_pure ?_))
  dsimp only
  rw [List.forIn_nil]
  refine wpAny_pure (wpAny_pure (wpAny_pure (wpAny_pure ⟨.ref s.heap.objs.size, H3, I4, rfl, q2⟩)))
end Bk
end
section
/-! Helpers for readings: walks over known items; list comprehensions as filterMap; texts as lists of code points. -/
namespace Bk
open PySem L2 LamX PySem.Spec PyProof.Rows TL
/-! ### texts -/
def tx (l : List Nat) : Str := ⟨l.toArray⟩
theorem tx_tl (l : List Nat) : (tx l).cps.toList = l := by simp [tx]
theorem tx_sz (l : List Nat) : (tx l).cps.size = l.length := by simp [tx]
theorem tx_len (l : List Nat) : (tx l).length = l.length := by simp [tx, Str.length]
theorem tx_of (z : Str) : tx z.cps.toList = z := by
  obtain ⟨a⟩ := z
  simp [tx]
theorem tx_inj {l m : List Nat} (h : tx l = tx m) : l = m := by
  have := congrArg (fun z : Str => z.cps.toList) h
  simpa [tx_tl] using this
theorem tx_app (l m : List Nat) : tx l ++ tx m = tx (l ++ m) := by
  refine ext_tl ?_
  rw [tl_append]
  simp [tl, tx_tl]
/-- a sign as a text -/
def sgn (c : Nat) : Str := ⟨#[c]⟩
theorem sgn_tx (c : Nat) : sgn c = tx [c] := rfl
theorem join_sgn (l : List Nat) : Txt.join ⟨#[]⟩ (l.map sgn) = tx l := by
  rw [join_eq]
  refine ext_tl ?_
  rw [tl_join]
  show joinL [] _ = (tx l).cps.toList
  rw [tx_tl, List.map_map]
  have e : ∀ m : List Nat, joinL [] (m.map (tl ∘ sgn)) = m := by
    intro m
    induction m with
    | nil => rfl
    | cons a r ih =>
      cases r with
      | nil => rfl
      | cons b t =>
        show [a] ++ ([] ++ joinL [] ((b :: t).map (tl ∘ sgn))) = a :: b :: t
        rw [ih]
        rfl
  exact e l
theorem take_snoc {α : Type} {xs : List α} {i : Nat} {x : α} (h : xs[i]? = some x) : xs.take (i + 1) = xs.take i ++ [x] := by
  rw [List.take_add_one, h]
  rfl
/-! ### a list comprehension as a filterMap: the items are l's, told by ι -/
def FmP {α : Type} (T : List (Addr × Str)) (H0 : Hp) (L : List (Addr × HO)) (D : Addr) (F : α → Option V) (l : List α) (i : Nat) (H : Hp) : Prop := Loc T H0 ((D, .lst ((l.take i).filterMap F)) :: L) H
section
variable {α : Type} {T : List (Addr × Str)} {H0 H H1 : Hp} {L : List (Addr × HO)} {D : Addr} {F : α → Option V} {l : List α} {i : Nat} {a : α} {y : V}
theorem FmP.gr (p : FmP T H0 L D F l i H) (g : Gr T H H1) : FmP T H0 L D F l i H1 := Loc.mono p g
/-- one more item in the new list; what was there stays -/
theorem fm_add (hD : H1 D = none) (g : Gr T H1 H) (p : FmP T H0 L D F l i H) (hx : l[i]? = some a) (hF : F a = some y) (hz : l.length < sizeLine) :
    ∃ acc, H D = some (.lst acc) ∧ acc.length < sizeLine ∧ (Gr T H1 (upd H D (.lst (acc ++ [y]))) ∧ FmP T H0 L D F l (i + 1) (upd H D (.lst (acc ++ [y])))) := by
  have hd : H D = some (.lst ((l.take i).filterMap F)) := Loc.get (i := 0) p rfl
  refine ⟨_, hd, ?_, g.mut hD hd (fun _ z => by cases z) (fun _ _ z => by cases z), ?_⟩
  · have h1 := List.length_filterMap_le F (l.take i)
    rw [List.length_take] at h1
    omega
  · have z := Loc.set (i := 0) p rfl (u := .lst ((l.take i).filterMap F ++ [y])) pl_lst
    unfold FmP
    rw [take_snoc hx, List.filterMap_append]
    simp only [List.filterMap_cons, hF, List.filterMap_nil]
    exact z
theorem fm_skip (g : Gr T H1 H) (p : FmP T H0 L D F l i H) (hx : l[i]? = some a) (hF : F a = none) : Gr T H1 H ∧ FmP T H0 L D F l (i + 1) H := by
  refine ⟨g, ?_⟩
  unfold FmP
  rw [take_snoc hx, List.filterMap_append]
  simp only [List.filterMap_cons, hF, List.filterMap_nil, List.append_nil]
  exact p
/-- the reading of a list comprehension -/
theorem lc_fm {J : It} {S : Hp → Prop} {ι : α → V} (w : Walk J l.length S (YAt (l.map ι))) {g : TG} {tt : TT} {te : TE} {vs : List Nat} {σ : L2.St} {Qd : Hp → Prop} (p0 : Loc T H0 L H1) (hD : H1 D = none) (hS : ∀ H, Gr T H1 H → S H)
    (hs : ∀ i a H, l[i]? = some a → Gr T H1 H → FmP T H0 L D F l i H → g (ι a) (wipe σ vs) H fun σ2 H2 => wipe σ2 vs = wipe σ vs ∧ tt σ2 H2 fun b H3 =>
      if b = true then te σ2 H3 fun y H4 => ∃ acc, H4 D = some (.lst acc) ∧ acc.length < sizeLine ∧ (Gr T H1 (upd H4 D (.lst (acc ++ [y]))) ∧ FmP T H0 L D F l (i + 1) (upd H4 D (.lst (acc ++ [y])))) else Gr T H1 H3 ∧ FmP T H0 L D F l (i + 1) H3)
    (hd : ∀ H, Gr T H1 H → Loc T H0 ((D, .lst (l.filterMap F)) :: L) H → Qd H) :
    ∃ W : Nat → Nat → Hp → Prop, (∃ m, W 0 m (upd H1 D (.lst []))) ∧ ∀ i m H, W i m H →
      (J.stop i H ∧ Qd H) ∨ (J.go i H ∧ ∃ Nx : Hp → Prop, (∀ H', Nx H' → ∃ m', m' < m ∧ W (i + 1) m' H') ∧ ∀ x H', J.yld i H x H' → g x (wipe σ vs) H' fun σ2 H2 => wipe σ2 vs = wipe σ vs ∧ tt σ2 H2 fun b H3 =>
        if b = true then te σ2 H3 fun y H4 => ∃ acc, H4 D = some (.lst acc) ∧ acc.length < sizeLine ∧ Nx (upd H4 D (.lst (acc ++ [y]))) else Nx H3) :=
  lc_it w (fun i H => Gr T H1 H ∧ FmP T H0 L D F l i H) ⟨Gr.new hD, p0.new hD pl_lst⟩ (fun i H _ p => hS H p.1) (fun i x H H' hi p y => by
    obtain ⟨e, hx⟩ := y
    subst e
    rw [List.getElem?_map] at hx
    obtain ⟨a, ha, rfl⟩ := Option.map_eq_some_iff.mp hx
    exact hs i a _ ha p.1 p.2) fun H p => hd H p.1 (by
      have z := p.2
      unfold FmP at z
      rwa [List.take_length] at z)
end
theorem hu70 {k : Nat} {A : Around} (r : Room k A) : A.units + 70 < cLine := by have := r.un; omega
theorem hu0 {k : Nat} {A : Around} (r : Room k A) : A.units < cLine := by have := r.un; omega
theorem hu1 {k : Nat} {A : Around} (r : Room k A) : A.units + 1 < cLine := by have := r.un; omega
theorem hu65 {k : Nat} {A : Around} (r : Room k A) : A.units + 65 < cLine := by have := r.un; omega
theorem lt_line {n : Nat} (h : n ≤ 1000000) : n < sizeLine := by rw [sizeLine_eq]; omega
theorem walk_strL {l : List Nat} : Walk (Its (tx l)) l.length (fun _ => True) (YAt (l.map fun c => V.str (sgn c))) := by
  have w := walk_str (z := tx l)
  rw [tx_sz] at w
  refine w.mono (fun _ h => h) fun i H x H' hi _ ⟨e1, c, hc, ex⟩ => ⟨e1, ?_⟩
  rw [List.getElem?_map, ex]
  have : l[i]? = some c := by
    have z : (tx l).cps.toList[i]? = some c := by simpa using hc
    rwa [tx_tl] at z
  rw [this]
  rfl
theorem walk_rgL {lo : Int} {n : Nat} : Walk (Itr lo n) (List.range n).length (fun _ => True) (YAt ((List.range n).map fun (i : Nat) => V.int (lo + i))) := by
  have w := walk_range (lo := lo) (n := n)
  rw [List.length_range]
  refine w.mono (fun _ h => h) fun i H x H' hi _ ⟨e1, ex⟩ => ⟨e1, ?_⟩
  subst ex
  rw [List.getElem?_map, List.getElem?_range hi]
  rfl
theorem walk_listL {α : Type} {K : PySem.W.Frag} {a : Addr} {l : List α} {ι : α → V} : Walk (Itl K a) l.length (fun H => SqL K H a (l.map ι)) (YAt (l.map ι)) := by
  have w := walk_list (K := K) (a := a) (xs := l.map ι)
  rwa [List.length_map] at w
theorem walk_tupL {α : Type} {K : PySem.W.Frag} {a : Addr} {l : List α} {ι : α → V} : Walk (Itt K a) l.length (fun H => SqT K H a (l.map ι)) (YAt (l.map ι)) := by
  have w := walk_tup (K := K) (a := a) (xs := l.map ι)
  rwa [List.length_map] at w
end Bk
end
section
namespace Bk
open PySem L2 LamX
abbrev sIsInteger : Stmt := top 12
abbrev sIsNumber : Stmt := top 13
abbrev sIsText : Stmt := top 14
abbrev sIsSequence : Stmt := top 15
/-- kinds of values that are looked at: a type, known -/
def isIntV : V → Bool
  | .int _ => true
  | _ => false
def isNumV : V → Bool
  | .int i => decide (0 ≤ i)
  | _ => false
def isStrV : V → Bool
  | .str _ => true
  | _ => false
/-- a looked-at value: an int, a text, None, a tuple, a list; its type -/
inductive Lk (K : PySem.W.Frag) (H : Hp) : V → String → Prop where
  | int (i : Int) : Lk K H (.int i) "int"
  | str (z : Str) : Lk K H (.str z) "str"
  | non : Lk K H .non "NoneType"
  | tup {a : Addr} {xs : List V} (h : H a = some (.tup xs)) : Lk K H (.ref a) "tuple"
  | lst {a : Addr} {xs : List V} (h : H a = some (.lst xs)) : Lk K H (.ref a) "list"
theorem Lk.mono {T : List (Addr × Str)} {K : PySem.W.Frag} {H H' : Hp} {v : V} {t : String} (l : Lk K H v t) (g : Gr T H H') : Lk K H' v t := by
  cases l with
  | int i => exact .int i
  | str z => exact .str z
  | non => exact .non
  | tup h => exact .tup (g.tup h)
  | lst h => exact .lst (g.lst h)
section
variable {P : Program} {w : World} {K : PySem.W.Frag} {mg : Str → Option Value} {base : Heap} {H : Hp} {v : V} {t : String}
theorem Lk.ty (l : Lk K H v t) : TyX K H v (.type t) := by
  cases l with
  | int i => exact .base (by constructor)
  | str z => exact .base (by constructor)
  | non => exact .base (by constructor)
  | tup h => exact .base (by constructor; exact h)
  | lst h => exact .base (by constructor; exact h)
theorem Lk.kit (l : Lk K H v t) {n : String} (hn : n = "int" ∨ n = "bool" ∨ n = "str" ∨ n = "list" ∨ n = "tuple") : PySem.W.kitOne K (.type t) (.type n) = some (decide (t = n)) := by
  cases l <;> rcases hn with rfl | rfl | rfl | rfl | rfl <;> exact kit_ty (by decide +kernel)
theorem Lk.int_ (l : Lk K H v t) : decide (t = "int") = isIntV v := by cases l <;> rfl
theorem Lk.str_ (l : Lk K H v t) : decide (t = "str") = isStrV v := by cases l <;> rfl
theorem Lk.bool_ (l : Lk K H v t) : decide (t = "bool") = false := by cases l <;> rfl
/-! is_integer -/
def spIsInteger (K : PySem.W.Frag) : Sp := fun vs H Q _ => ∃ v t, vs = [v] ∧ Lk K H v t ∧ Q (.bl (isIntV v)) H
theorem scIsInteger : FnScope ["value"] ["value"] (defScope sIsInteger) := ⟨rfl, rfl, rfl, by decide +kernel, rfl, by decide +kernel, by decide +kernel⟩
theorem ok_isInteger {f : Addr} {fd : FuncData} (F : Fun K "is_integer" "is_integer" sIsInteger f fd) (B : Bt mg) : FnOk P w K mg base CX0 1 f fd ["value"] (spIsInteger K) := by
  refine F.ok scIsInteger (fun vs H Q E h => ?_) (fun cdv A outer s H vs Q E hr h => ?_)
  · obtain ⟨v, t, rfl, _⟩ := h
    rfl
  · obtain ⟨v, t, rfl, l, k⟩ := h
    refine ⟨_, pss_one (ps_ret (pe_and (pe_callB call_isi (by rfl) B.isinstance (by decide +kernel) (pa_cons (pv 0) (pa_cons (pe_bltn (v := .ty "int") (by rfl) B.int (by decide +kernel) rfl) pa_nil)))
      (pe_one (pe_not (pe_callB call_isi (by rfl) B.isinstance (by decide +kernel) (pa_cons (pv 0) (pa_cons (pe_bltn (v := .ty "bool") (by rfl) B.bool (by decide +kernel) rfl) pa_nil))))))), ?_⟩
    refine ⟨_, rfl, _, _, _, _, _, rfl, .ty _, l.ty, l.kit (by simp), _, rfl, ?_⟩
    rw [l.int_]
    cases e : isIntV v with
    | true =>
      refine iteT ⟨_, rfl, _, _, _, _, _, rfl, .ty _, l.ty, l.kit (by simp), _, rfl, ?_⟩
      rw [l.bool_]
      rw [e] at k
      exact k
    | false =>
      refine iteF ?_
      rw [e] at k
      exact k
/-! is_number -/
def spIsNumber (K : PySem.W.Frag) : Sp := fun vs H Q _ => ∃ v t, vs = [v] ∧ Lk K H v t ∧ Q (.bl (isNumV v)) H
theorem scIsNumber : FnScope ["value"] ["value"] (defScope sIsNumber) := ⟨rfl, rfl, rfl, by decide +kernel, rfl, by decide +kernel, by decide +kernel⟩
theorem ok_isNumber {f : Addr} {fd : FuncData} (F : Fun K "is_number" "is_number" sIsNumber f fd) (G : CalF P w K mg base CX0 1 "is_integer" ["value"] (spIsInteger K)) : FnOk P w K mg base CX0 2 f fd ["value"] (spIsNumber K) := by
  refine F.ok scIsNumber (fun vs H Q E h => ?_) (fun cdv A outer s H vs Q E hr h => ?_)
  · obtain ⟨v, t, rfl, _⟩ := h
    rfl
  · obtain ⟨v, t, rfl, l, k⟩ := h
    refine ⟨_, pss_one (ps_ret (pe_and (pe_cal G hr (pa_cons (pv 0) pa_nil) pass0) (pe_one (pe_cmpR op_ge (pv 0) pe_int (nomark _))))), ?_⟩
    refine ⟨_, rfl, v, t, rfl, l, _, rfl, ?_⟩
    cases l with
    | int i => exact iteT ⟨_, rfl, i, 0, rfl, rfl, k⟩
    | _ => exact iteF k
/-! is_text -/
def spIsText (K : PySem.W.Frag) : Sp := fun vs H Q _ => ∃ v t, vs = [v] ∧ Lk K H v t ∧ Q (.bl (isStrV v)) H
theorem scIsText : FnScope ["value"] ["value"] (defScope sIsText) := ⟨rfl, rfl, rfl, by decide +kernel, rfl, by decide +kernel, by decide +kernel⟩
theorem ok_isText {f : Addr} {fd : FuncData} (F : Fun K "is_text" "is_text" sIsText f fd) (B : Bt mg) : FnOk P w K mg base CX0 1 f fd ["value"] (spIsText K) := by
  refine F.ok scIsText (fun vs H Q E h => ?_) (fun cdv A outer s H vs Q E hr h => ?_)
  · obtain ⟨v, t, rfl, _⟩ := h
    rfl
  · obtain ⟨v, t, rfl, l, k⟩ := h
    refine ⟨_, pss_one (ps_ret (pe_callB call_isi (by rfl) B.isinstance (by decide +kernel) (pa_cons (pv 0) (pa_cons (pe_bltn (v := .ty "str") (by rfl) B.str (by decide +kernel) rfl) pa_nil)))), ?_⟩
    refine ⟨_, rfl, _, _, _, _, _, rfl, .ty _, l.ty, l.kit (by simp), ?_⟩
    rw [l.str_]
    exact k
/-! is_sequence: asked of lists and tuples alone -/
def spIsSequence (T : List (Addr × Str)) (K : PySem.W.Frag) : Sp := fun vs H Q _ => ∃ v t, vs = [v] ∧ Lk K H v t ∧ (t = "list" ∨ t = "tuple") ∧ ∀ H', Gr T H H' → Q (.bl true) H'
theorem scIsSequence : FnScope ["value"] ["value"] (defScope sIsSequence) := ⟨rfl, rfl, rfl, by decide +kernel, rfl, by decide +kernel, by decide +kernel⟩
theorem ok_isSequence {T : List (Addr × Str)} {f : Addr} {fd : FuncData} (F : Fun K "is_sequence" "is_sequence" sIsSequence f fd) (B : Bt mg) : FnOk P w K mg base CX0 1 f fd ["value"] (spIsSequence T K) := by
  refine F.ok scIsSequence (fun vs H Q E h => ?_) (fun cdv A outer s H vs Q E hr h => ?_)
  · obtain ⟨v, t, rfl, _⟩ := h
    rfl
  · obtain ⟨v, t, rfl, l, ht, k⟩ := h
    refine ⟨_, pss_one (ps_ret (pe_callB call_isiT (by rfl) B.isinstance (by decide +kernel) (pa_cons (pv 0) (pa_cons (pe_tup (pa_cons (pe_bltn (v := .ty "list") (by rfl) B.list (by decide +kernel) rfl) (pa_cons (pe_bltn (v := .ty "tuple") (by rfl) B.tuple (by decide +kernel) rfl) pa_nil))) pa_nil)))), ?_⟩
    refine ⟨_, rfl, (by show 2 ≤ sizeLine; decide), fun p hp => ?_⟩
    have g : Gr T H (upd H p (.tup [.ty "list", .ty "tuple"])) := Gr.new hp
    refine ⟨v, p, _, _, _, true, rfl, upd_same, .cons (.ty _) (.cons (.ty _) .nil), (l.mono g).ty, ?_, k _ g⟩
    refine kitAny_cons (l.kit (by simp)) (fun e1 => kitAny_cons (l.kit (by simp)) (fun e2 => ?_) fun _ => rfl) fun _ => rfl
    rcases ht with e | e
    · rw [e] at e1; simp at e1
    · rw [e] at e2; simp at e2
end
end Bk
end
section
/-! is_lot_of, lot_within, greatest_lots. -/
namespace Bk
open PySem L2 LamX PySem.Spec PyProof.Rows
abbrev sIsLotOf : Stmt := top 16
abbrev sLotWithin : Stmt := top 17
abbrev sGreatest : Stmt := top 18
section
variable {P : Program} {w : World} {K : PySem.W.Frag} {mg : Str → Option Value} {base : Heap} {T : List (Addr × Str)}
/-! is_lot_of -/
def isLotV (sg : List Nat) : V → Bool
  | .str y => decide (y = tx (sg.filter fun c => decide (c ∈ y.cps.toList)))
  | _ => false
def spIsLotOf (T : List (Addr × Str)) (K : PySem.W.Frag) : Sp := fun vs H Q _ => ∃ v t sg, vs = [v, .str (tx sg)] ∧ Lk K H v t ∧ sg.length ≤ 100 ∧ ∀ H', Gr T H H' → Q (.bl (isLotV sg v)) H'
theorem scIsLotOf : FnScope ["value", "signals", "signal"] ["value", "signals"] (defScope sIsLotOf) := ⟨rfl, rfl, rfl, by decide +kernel, rfl, by decide +kernel, by decide +kernel⟩
theorem fm_if {p : Nat → Prop} [DecidablePred p] : ∀ l : List Nat, (l.filterMap fun c => if p c then some (V.str (sgn c)) else none) = ((l.filter fun c => decide (p c)).map sgn).map V.str
  | [] => rfl
  | a :: r => by
    rw [List.filterMap_cons, List.filter_cons]
    by_cases h : p a
    · simp only [if_pos h, decide_eq_true h, if_true, List.map_cons, fm_if r]
    · simp only [if_neg h, decide_eq_false h, Bool.false_eq_true, if_false, fm_if r]
theorem sum_sgn : ∀ m : List Nat, ((m.map sgn).map (·.length)).sum = m.length
  | [] => rfl
  | a :: r => by
    rw [List.map_cons, List.map_cons, List.sum_cons, sum_sgn r, List.length_cons]
    show 1 + _ = _
    omega
theorem ok_isLotOf {f : Addr} {fd : FuncData} (F : Fun K "is_lot_of" "is_lot_of" sIsLotOf f fd) (G : CalF P w K mg base CX0 1 "is_text" ["value"] (spIsText K)) : FnOk P w K mg base CX0 2 f fd ["value", "signals"] (spIsLotOf T K) := by
  refine F.ok scIsLotOf (fun vs H Q E h => ?_) (fun cdv A outer s H vs Q E hr h => ?_)
  · obtain ⟨v, t, sg, rfl, _⟩ := h
    rfl
  · obtain ⟨v, t, sg, rfl, l, hz, k⟩ := h
    refine ⟨_, pss_one (ps_ret (pe_and (pe_cal G hr (pa_cons (pv 0) pa_nil) pass0) (pe_one (pe_cmpR op_eq (pv 0) (pe_join pe_str
      (pe_lc (own := [("signal", 2)]) (g := gName 2) rfl scIsLotOf.nd (pi_str (pv 1)) (blkOk_by (N := ["value", "signals", "signal"]) (sc := defScope sIsLotOf) (by decide +kernel)) (fun _ _ _ _ _ => pg_name (i := 2) scIsLotOf.nd rfl (Or.inl rfl))
        (fun _ _ _ _ _ => pts_one (pt_cmpR op_in_sign (pv 2) (pv 0) rfl)) (fun _ _ _ _ _ => pv 2))) (nomark _))))), ?_⟩
    refine ⟨_, rfl, v, t, rfl, l, _, rfl, ?_⟩
    cases l with
    | str z =>
      refine iteT ⟨_, rfl, ⟨_, rfl⟩, _, rfl, _, rfl, fun D hD => ?_⟩
      have nsz : sg.length < sizeLine := lt_line (by omega)
      refine lc_fm (T := T) (L := []) (F := fun c => if c ∈ z.cps.toList then some (V.str (sgn c)) else none) walk_strL .start hD (fun _ _ => trivial) (fun i c H2 hc g fm => ?_) fun H2 g fm => ?_
      · refine ⟨rfl, _, rfl, _, rfl, c, z, rfl, rfl, _, rfl, ?_⟩
        refine ite2 (fun hm => ?_) fun hm => ?_
        · exact ⟨_, rfl, fm_add hD g fm hc (if_pos (of_decide_eq_true hm)) nsz⟩
        · exact fm_skip g fm hc (if_neg fun q => hm (decide_eq_true q))
      · have e : (sg.filterMap fun c => if c ∈ z.cps.toList then some (V.str (sgn c)) else none) = ((sg.filter fun c => decide (c ∈ z.cps.toList)).map sgn).map V.str := fm_if sg
        rw [e] at fm
        refine ⟨_, D, (sg.filter fun c => decide (c ∈ z.cps.toList)).map sgn, rfl, rfl, .inl (SqL.of (fm.get (i := 0) rfl)), ?_, ?_⟩
        · have h2 := List.length_filter_le (fun c => decide (c ∈ z.cps.toList)) sg
          rw [sum_sgn]
          show _ + _ * 0 ≤ _
          omega
        · refine ⟨rfl, ?_⟩
          show Q (.bl (decide (V.str z = V.str (Txt.join ⟨#[]⟩ _)))) H2
          rw [join_sgn]
          have z1 := k H2 g
          have e2 : decide (V.str z = V.str (tx (sg.filter fun c => decide (c ∈ z.cps.toList)))) = isLotV sg (.str z) := by
            unfold isLotV
            simp
          rw [e2]
          exact z1
    | _ => exact iteF (k H .refl)
/-! lot_within -/
def within (l m : List Nat) : Bool := l.all fun c => decide (c ∈ m)
def spLotWithin (T : List (Addr × Str)) : Sp := fun vs H Q _ => ∃ l m, vs = [.str (tx l), .str (tx m)] ∧ l.length ≤ 100 ∧ ∀ H', Gr T H H' → Q (.bl (within l m)) H'
theorem scLotWithin : FnScope ["lot", "other", "signal"] ["lot", "other"] (defScope sLotWithin) := ⟨rfl, rfl, rfl, by decide +kernel, rfl, by decide +kernel, by decide +kernel⟩
theorem ok_lotWithin {f : Addr} {fd : FuncData} (F : Fun K "lot_within" "lot_within" sLotWithin f fd) (B : Bt mg) : FnOk P w K mg base CX0 1 f fd ["lot", "other"] (spLotWithin T) := by
  refine F.ok scLotWithin (fun vs H Q E h => ?_) (fun cdv A outer s H vs Q E hr h => ?_)
  · obtain ⟨l, m, rfl, _⟩ := h
    rfl
  · obtain ⟨l, m, rfl, hz, k⟩ := h
    refine ⟨_, pss_one (ps_ret (pe_callB (cr_all rfl) (by rfl) B.all (by decide +kernel) (pa_cons
      (pe_lc (own := [("signal", 2)]) (g := gName 2) (tt := tYes) rfl scLotWithin.nd (pi_str (pv 0)) (blkOk_by (N := ["lot", "other", "signal"]) (sc := defScope sLotWithin) (by decide +kernel)) (fun _ _ _ _ _ => pg_name (i := 2) scLotWithin.nd rfl (Or.inl rfl))
        (fun _ _ _ _ _ => pts_nil) (fun _ _ _ _ _ => pe_cmpR op_in_sign (pv 2) (pv 1) rfl)) pa_nil))), ?_⟩
    refine ⟨_, rfl, _, rfl, fun D hD => ?_⟩
    have nsz : l.length < sizeLine := lt_line (by omega)
    refine lc_fm (T := T) (L := []) (F := fun c => some (V.bl (decide (c ∈ m)))) walk_strL .start hD (fun _ _ => trivial) (fun i c H2 hc g fm => ?_) fun H2 g fm => ?_
    · refine ⟨rfl, _, rfl, _, rfl, c, tx m, rfl, rfl, ?_⟩
      exact fm_add hD g fm hc (by rw [tx_tl]) nsz
    · have e : (l.filterMap fun c => some (V.bl (decide (c ∈ m)))) = (l.map fun c => decide (c ∈ m)).map V.bl := by
        rw [List.map_map, List.filterMap_eq_map']
        rfl
      rw [e] at fm
      refine ⟨D, _, rfl, SqL.of (fm.get (i := 0) rfl), ?_⟩
      have e2 : (l.map fun c => decide (c ∈ m)).all id = within l m := by simp [within, List.all_map]
      rw [e2]
      exact k H2 g
end
end Bk
end
section
/-! greatest_lots. -/
namespace Bk
open PySem L2 LamX PySem.Spec PyProof.Rows
section
variable {P : Program} {w : World} {K : PySem.W.Frag} {mg : Str → Option Value} {base : Heap} {T : List (Addr × Str)}
section
variable {X : Cx}
theorem pi_listK {K : PySem.W.Frag} {tg l : Expr} {tl : TE} (hl : PE X l tl) (hK : X.K = K := by rfl) : PI X tg l (iList K tl) := hK ▸ pi_list hl
theorem cr_anyK {K : PySem.W.Frag} (hc : X.calm = true) (hK : X.K = K := by rfl) : CallR X (.builtin "any") (rAny K) := hK ▸ cr_any hc
theorem cr_allK {K : PySem.W.Frag} (hc : X.calm = true) (hK : X.K = K := by rfl) : CallR X (.builtin "all") (rAll K) := hK ▸ cr_all hc
end
def scG1 : Scope := match defBody sGreatest with
  | [_, .Return (some (.Call _ [.ListComp _ _ s _] _ _)) _] => s
  | _ => defScope sGreatest
/-- z lies in m -/
def inS (z m : Str) : Bool := within z.cps.toList m.cps.toList
def Grt (zs out : List Str) : Prop := out.Pairwise (fun a b => leT a b = true) ∧ out.Nodup ∧ ∀ z, z ∈ out ↔ (z ∈ zs ∧ ∀ m ∈ zs, inS z m = true → z = m)
def spGreatest (T : List (Addr × Str)) (K : PySem.W.Frag) : Sp := fun vs H Q _ => ∃ (a : Addr) (zs : List Str), vs = [.ref a] ∧ SqL K H a (zs.map V.str) ∧ zs.length ≤ 4000 ∧ (∀ z ∈ zs, z.cps.toList.length ≤ 100) ∧ ∀ (out : List Str) (p : Addr) (H' : Hp), Grt zs out → Gr T H H' → H p = none → H' p = some (.tup (out.map V.str)) → Q (.ref p) H'
theorem scGreatest : FnScope ["lots", "unlike", "lot", "more"] ["lots"] (defScope sGreatest) := ⟨rfl, rfl, rfl, by decide +kernel, rfl, by decide +kernel, by decide +kernel⟩
theorem fm_not (p : Str → Bool) : ∀ l : List Str, (l.filterMap fun z => if p z then none else some (V.str z)) = (l.filter fun z => !p z).map V.str
  | [] => rfl
  | a :: r => by
    rw [List.filterMap_cons, List.filter_cons]
    cases p a with
    | true => simpa using fm_not p r
    | false => simpa using fm_not p r
theorem ok_greatest {f : Addr} {fd : FuncData} (F : Fun K "greatest_lots" "greatest_lots" sGreatest f fd) (B : Bt mg) (G : CalF P w K mg base CX0 1 "lot_within" ["lot", "other"] (spLotWithin T)) : FnOk P w K mg base CX0 2 f fd ["lots"] (spGreatest T K) := by
  refine F.ok scGreatest (fun vs H Q E h => ?_) (fun cdv A outer s H vs Q E hr h => ?_)
  · obtain ⟨a, zs, rfl, _⟩ := h
    rfl
  · obtain ⟨a, zs, rfl, hl, hz, hzl, k⟩ := h
    refine ⟨_, pss_cons (ps_set (i := 1) scGreatest.nd rfl (Or.inr rfl) (pe_callB (cr_sortedS rfl (hu70 hr)) (by rfl) B.sorted (by decide +kernel) (pa_cons
          (pe_gsc (own := [("lot", 2)]) (g := gName 2) (tt := tYes) rfl scGreatest.nd (pi_list (pv 0)) (blkOk_by (N := ["lots", "unlike", "lot", "more"]) (sc := defScope sGreatest) (by decide +kernel)) (fun _ _ _ _ _ => pg_name (i := 2) scGreatest.nd rfl (Or.inl rfl)) (fun _ _ _ _ _ => pts_nil) (fun _ _ _ _ _ => pv 2)) pa_nil)))
        (pss_one (ps_ret (pe_callTy call_tuple_of (by rfl) B.tuple (by decide +kernel) (pa_cons 
          (pe_lc (own := [("lot", 2)]) (g := gName 2) rfl scGreatest.nd (pi_listK (K := K) (pv 1)) (blkOk_by (N := ["lots", "unlike", "lot", "more"]) (sc := defScope sGreatest) (by decide +kernel)) (fun _ _ _ _ _ => pg_name (i := 2) scGreatest.nd rfl (Or.inr rfl)) 
          (fun _ _ _ _ _ => pts_one (pt_not (pt_val (by exact (pe_callB (cr_anyK (K := K) rfl) (by rfl) B.any (by decide +kernel) (pa_cons (by exact 
             (pe_lc (own := [("more", 3)]) (g := gName 3) (tt := tYes) rfl scGreatest.nd (pi_listK (K := K) (pv 1)) (blkOk_by (N := ["lots", "unlike", "lot", "more"]) (sc := relS scG1 (defScope sGreatest)) (by decide +kernel)) (fun _ _ _ _ _ => pg_name (i := 3) scGreatest.nd rfl (Or.inl rfl)) (fun _ _ _ _ _ => pts_nil) (fun _ _ _ _ _ => by exact (pe_and (pe_cmpR op_ne (pv 2) (pv 3) (nomark _)) (pe_one (pe_cal G hr (pa_cons (pv 2) (pa_cons (pv 3) pa_nil)) pass0)))))) pa_nil)))))) (fun _ _ _ _ _ => pv 2)) pa_nil)))), ?_⟩
    have wl : Walk (Itl K a) zs.length (fun H => SqL K H a (zs.map V.str)) (YAt (zs.map V.str)) := walk_listL
    refine ⟨_, rfl, a, rfl, ⟨_, hl⟩, fun D hD => ?_⟩
    refine lp_it wl (fun i H2 => ∃ l, H2 = upd H D (SetTO w D l) ∧ l.Nodup ∧ (∀ z, z ∈ l ↔ z ∈ zs.take i) ∧ l.length ≤ i) ⟨[], rfl, List.nodup_nil, fun z => by simp, Nat.le_refl _⟩ (fun i H2 hi hp => ?_) (fun i x H2 H3 hi hp hy => ?_) fun H2 hp => ?_
    · obtain ⟨l, rfl, _⟩ := hp
      exact (Gr.new (T := T) hD).sqL hl
    · obtain ⟨l, rfl, nd, hm, hle⟩ := hp
      obtain ⟨rfl, hx⟩ := hy
      rw [List.getElem?_map] at hx
      obtain ⟨z, hz1, rfl⟩ := Option.map_eq_some_iff.mp hx
      refine ⟨rfl, _, rfl, z, l, rfl, upd_same, by show _ < 4096; omega, _, upd_upd, ?_, fun y => ?_, ?_⟩
      · split
        · exact nd
        · exact List.nodup_cons.mpr ⟨by assumption, nd⟩
      · rw [take_snoc hz1, List.mem_append, List.mem_singleton, ← hm y]
        split
        · next h => exact ⟨.inl, fun q => q.elim id fun e => e ▸ h⟩
        · rw [List.mem_cons]
          exact ⟨fun q => q.symm, fun q => q.symm⟩
      · split
        · omega
        · rw [List.length_cons]
          omega
    · obtain ⟨l, rfl, nd, hm, hle⟩ := hp
      rw [List.take_length] at hm
      refine ⟨D, l, rfl, upd_same, fun p hp => ?_⟩
      have gr1 : Gr T H (upd (upd H D (SetTO w D l)) p (.lst ((sortT l).map V.str))) := (Gr.new hD).trans (.new hp)
      have hP : (upd (upd H D (SetTO w D l)) p (.lst ((sortT l).map V.str))) p = some (.lst ((sortT l).map V.str)) := upd_same
      generalize (upd (upd H D (SetTO w D l)) p (.lst ((sortT l).map V.str))) = H1 at gr1 hP
      have hlen : (sortT l).length = l.length := (sortT_perm l).length_eq
      have hmem : ∀ z, z ∈ sortT l ↔ z ∈ zs := fun z => ((sortT_perm l).mem_iff).trans (hm z)
      have nds : (sortT l).Nodup := (sortT_perm l).nodup_iff.mpr nd
      have prs := sortT_pair l
      generalize sortT l = us at hP hlen hmem nds prs
      have hsz : us.length < sizeLine := lt_line (by omega)
      have wu : Walk (Itl K p) us.length (fun H => SqL K H p (us.map V.str)) (YAt (us.map V.str)) := walk_listL
      refine ⟨_, rfl, p, rfl, ⟨_, SqL.of hP⟩, fun D1 hD1 => ?_⟩
      refine lc_fm (T := T) (L := []) (F := fun z => if us.any (fun m => decide (z ≠ m) && inS z m) then none else some (V.str z)) wu .start hD1 (fun H' g => g.sqL (SqL.of hP)) (fun i z H2 hz1 g fm => ?_) fun H2 g fm => ?_
      · refine ⟨rfl, _, rfl, p, rfl, ⟨_, g.sqL (SqL.of hP)⟩, fun D2 hD2 => ?_⟩
        have p2 := fm
        refine lc_fm (T := T) (L := [(D1, .lst ((us.take i).filterMap fun z => if us.any (fun m => decide (z ≠ m) && inS z m) then none else some (V.str z)))]) (F := fun m => some (V.bl (decide (z ≠ m) && inS z m))) wu p2 hD2 (fun H' g' => (g.trans g').sqL (SqL.of hP)) (fun j m H3 hm1 g3 fm3 => ?_) fun H3 g3 fm3 => ?_
        · have hzm : z ∈ zs := (hmem z).mp (List.mem_of_getElem? hz1)
          refine ⟨rfl, _, rfl, _, rfl, rfl, _, rfl, ite2 (fun e => ?_) fun e => ?_⟩
          · have ne : z ≠ m := by
              intro q
              subst q
              simp at e
            refine ⟨_, rfl, _, rfl, z.cps.toList, m.cps.toList, ?_, hzl z hzm, fun H4 g4 => ?_⟩
            · rw [tx_of, tx_of]
              rfl
            · exact fm_add hD2 (g3.trans g4) (fm3.gr g4) hm1 (by rw [decide_eq_true ne]; rfl) hsz
          · have ne : z = m := by
              by_cases q : z = m
              · exact q
              · simp [q] at e
            exact fm_add hD2 g3 fm3 hm1 (by subst ne; simp) hsz
        · have e : (us.filterMap fun m => some (V.bl (decide (z ≠ m) && inS z m))) = (us.map fun m => decide (z ≠ m) && inS z m).map V.bl := by
            rw [List.map_map, List.filterMap_eq_map']
            rfl
          rw [e] at fm3
          refine ⟨D2, _, rfl, SqL.of (fm3.get (i := 0) rfl), ?_⟩
          have e2 : (us.map fun m => decide (z ≠ m) && inS z m).any id = us.any (fun m => decide (z ≠ m) && inS z m) := by rw [List.any_map]; rfl
          rw [e2]
          have fm' : FmP T H1 [] D1 (fun z => if us.any (fun m => decide (z ≠ m) && inS z m) then none else some (V.str z)) us i H3 := fm.gr g3
          cases hb : us.any (fun m => decide (z ≠ m) && inS z m) with
          | true => exact ⟨_, rfl, fm_skip (g.trans g3) fm' hz1 (if_pos hb)⟩
          | false => exact ⟨_, rfl, _, rfl, fm_add hD1 (g.trans g3) fm' hz1 (if_neg (by rw [hb]; exact Bool.false_ne_true)) hsz⟩
      · have e : (us.filterMap fun z => if us.any (fun m => decide (z ≠ m) && inS z m) then none else some (V.str z)) = (us.filter fun z => !us.any (fun m => decide (z ≠ m) && inS z m)).map V.str := fm_not _ _
        rw [e] at fm
        refine ⟨D1, _, rfl, .inl ⟨SqL.of (fm.get (i := 0) rfl), fun q hq => ?_⟩⟩
        refine k (us.filter fun z => !us.any (fun m => decide (z ≠ m) && inS z m)) q _ ⟨prs.filter _, nds.filter _, fun z => ?_⟩ ((gr1.trans g).trans (.new hq)) (gr1.dom q (g.dom q hq)) upd_same
        rw [List.mem_filter, hmem z, Bool.not_eq_true', ← Bool.not_eq_true, List.any_eq_true]
        refine and_congr .rfl ⟨fun h m hm1 hs => ?_, fun h ⟨m, hm1, hs⟩ => ?_⟩
        · by_cases q : z = m
          · exact q
          · exact absurd ⟨m, (hmem m).mpr hm1, by simp [q, hs]⟩ h
        · simp only [Bool.and_eq_true, decide_eq_true_eq] at hs
          exact hs.1 (h m ((hmem m).mp hm1) hs.2)
end
end Bk
end
section
set_option autoImplicit false
/-! Parts put in order: next always one that leads to done ones alone. Plain Lean. -/
namespace Bk
structure KI (leads : Nat → List Nat) (n : Nat) (D R : List Nat) (lack : Nat → Int) : Prop where
  dNd : D.Nodup
  dLt : ∀ d ∈ D, d < n
  rNd : R.Nodup
  rOk : ∀ r ∈ R, r < n ∧ r ∉ D ∧ lack r = 0
  cnt : ∀ i, i < n → lack i = (((leads i).filter fun j => decide (j ∉ D)).length : Int)
  all : ∀ i, i < n → i ∉ D → lack i = 0 → i ∈ R
  ord : ∀ (k d : Nat), D[k]? = some d → ∀ j ∈ leads d, ∃ m, m < k ∧ D[m]? = some j

section
variable {leads : Nat → List Nat} {n : Nat} {D R : List Nat} {lack : Nat → Int}
theorem KI.start (R : List Nat) (hN : R.Nodup) (hR : ∀ i, i ∈ R ↔ i < n ∧ ((leads i).length : Int) = 0) : KI leads n [] R (fun i => ((leads i).length : Int)) where
  dNd := List.nodup_nil
  dLt := fun d h => by simp at h
  rNd := hN
  rOk := fun r h => ⟨((hR r).mp h).1, by simp, ((hR r).mp h).2⟩
  cnt := fun i _ => by
    have : ((leads i).filter fun j => decide (j ∉ ([] : List Nat))) = leads i := List.filter_eq_self.mpr fun j _ => by simp
    rw [this]
  all := fun i h _ e => (hR i).mpr ⟨h, e⟩
  ord := fun k d e => by simp at e
/-- one part less is lacked by those that lead to it -/
theorem filter_less {l : List Nat} (hl : l.Nodup) {a : Nat} (ha : a ∉ D) :
    ((l.filter fun j => decide (j ∉ D)).length : Int) = ((l.filter fun j => decide (j ∉ D ++ [a])).length : Int) + (if a ∈ l then 1 else 0) := by
  induction l with
  | nil => simp
  | cons b l ih =>
    obtain ⟨hb, hl'⟩ := List.nodup_cons.mp hl
    have ih := ih hl'
    by_cases e : b = a
    · subst e
      rw [if_neg hb] at ih
      have h1 : decide (b ∉ D) = true := decide_eq_true ha
      have h2 : decide (b ∉ D ++ [b]) = false := decide_eq_false (by simp)
      rw [List.filter_cons, List.filter_cons, h1, h2, if_pos rfl, if_neg (by simp), if_pos (List.mem_cons_self ..), List.length_cons]
      omega
    · have h2 : decide (b ∉ D ++ [a]) = decide (b ∉ D) := by
        by_cases h : b ∈ D <;> simp [h, e]
      have h3 : (a ∈ b :: l) ↔ a ∈ l := by
        simp only [List.mem_cons]
        constructor
        · rintro (h | h)
          · exact absurd h.symm e
          · exact h
        · exact .inr
      rw [List.filter_cons, List.filter_cons, h2]
      simp only [h3]
      cases decide (b ∉ D) with
      | true =>
        rw [if_pos rfl, if_pos rfl, List.length_cons, List.length_cons]
        omega
      | false =>
        rw [if_neg (by simp), if_neg (by simp)]
        exact ih
theorem KI.step {a : Nat} {us R0 : List Nat} (I : KI leads n D R lack) (ha : a ∈ R) (lNd : ∀ i, i < n → (leads i).Nodup) (lNe : ∀ i, i < n → i ∉ leads i) (uNd : us.Nodup) (hu : ∀ i, i ∈ us ↔ i < n ∧ a ∈ leads i)
    (h0 : R0.Nodup) (hR0 : ∀ r, r ∈ R0 ↔ r ∈ R ∧ r ≠ a) :
    KI leads n (D ++ [a]) (R0 ++ us.filter fun u => decide (lack u - 1 = 0)) (fun i => if i ∈ us then lack i - 1 else lack i) := by
  obtain ⟨an, aD, a0⟩ := I.rOk a ha
  have lackN : ∀ i, i < n → (if i ∈ us then lack i - 1 else lack i) = (((leads i).filter fun j => decide (j ∉ D ++ [a])).length : Int) := fun i hi => by
    have h := filter_less (D := D) (lNd i hi) aD
    rw [I.cnt i hi]
    by_cases k : a ∈ leads i
    · rw [if_pos k] at h
      rw [if_pos ((hu i).mpr ⟨hi, k⟩)]
      omega
    · rw [if_neg k] at h
      rw [if_neg fun z => k ((hu i).mp z).2]
      omega
  have a_us : a ∉ us := fun z => lNe a an ((hu a).mp z).2
  have usD : ∀ i, i ∈ us → i ∉ D := fun i hi hD => by
    obtain ⟨k, hk, e⟩ := List.mem_iff_getElem.mp hD
    obtain ⟨m, _, hm⟩ := I.ord k i (List.getElem?_eq_some_iff.mpr ⟨hk, e⟩) a ((hu i).mp hi).2
    exact aD (List.mem_of_getElem? hm)
  have usR : ∀ i, i ∈ us → i ∉ R := fun i hi hR => by
    have h1 := (I.rOk i hR).2.2
    have h2 := I.cnt i ((hu i).mp hi).1
    have h3 : a ∈ (leads i).filter fun j => decide (j ∉ D) := List.mem_filter.mpr ⟨((hu i).mp hi).2, decide_eq_true aD⟩
    have h4 := List.length_pos_of_mem h3
    omega
  constructor
  · refine List.nodup_append.mpr ⟨I.dNd, by simp, fun x hx y hy e => ?_⟩
    rw [List.mem_singleton.mp hy] at e
    exact aD (e ▸ hx)
  · intro d hd
    rcases List.mem_append.mp hd with h | h
    · exact I.dLt d h
    · rw [List.mem_singleton.mp h]; exact an
  · refine List.nodup_append.mpr ⟨h0, uNd.filter _, fun x hx y hy e => ?_⟩
    subst e
    exact usR x (List.mem_filter.mp hy).1 ((hR0 x).mp hx).1
  · intro r hr
    rcases List.mem_append.mp hr with h | h
    · obtain ⟨h1, h2⟩ := (hR0 r).mp h
      obtain ⟨k1, k2, k3⟩ := I.rOk r h1
      have hru : r ∉ us := fun z => usR r z h1
      refine ⟨k1, fun z => ?_, ?_⟩
      · rcases List.mem_append.mp z with z | z
        · exact k2 z
        · exact h2 (List.mem_singleton.mp z)
      · show (if r ∈ us then lack r - 1 else lack r) = 0
        rw [if_neg hru]
        exact k3
    · obtain ⟨h1, h2⟩ := List.mem_filter.mp h
      refine ⟨((hu r).mp h1).1, fun z => ?_, ?_⟩
      · rcases List.mem_append.mp z with z | z
        · exact usD r h1 z
        · rw [List.mem_singleton.mp z] at h1
          exact a_us h1
      · show (if r ∈ us then lack r - 1 else lack r) = 0
        rw [if_pos h1]
        exact of_decide_eq_true h2
  · exact lackN
  · intro i hi hD e
    have hD1 : i ∉ D := fun z => hD (List.mem_append_left _ z)
    have hia : i ≠ a := fun z => hD (by rw [z]; simp)
    by_cases k : i ∈ us
    · have e : (if i ∈ us then lack i - 1 else lack i) = 0 := e
      rw [if_pos k] at e
      exact List.mem_append_right _ (List.mem_filter.mpr ⟨k, decide_eq_true e⟩)
    · have e : (if i ∈ us then lack i - 1 else lack i) = 0 := e
      rw [if_neg k] at e
      exact List.mem_append_left _ ((hR0 i).mpr ⟨I.all i hi hD1 e, hia⟩)
  · intro k d e j hj
    by_cases hk : k < D.length
    · rw [List.getElem?_append_left hk] at e
      obtain ⟨m, hm, em⟩ := I.ord k d e j hj
      exact ⟨m, hm, by rw [List.getElem?_append_left (by omega)]; exact em⟩
    · rw [List.getElem?_append_right (by omega)] at e
      have hk' : k = D.length := by
        have := (List.getElem?_eq_some_iff.mp e).1
        simp at this
        omega
      subst hk'
      simp at e
      subst e
      have h2 := I.cnt a an
      rw [a0] at h2
      have h3 : ((leads a).filter fun j => decide (j ∉ D)) = [] := List.eq_nil_of_length_eq_zero (by omega)
      have hjD : j ∈ D := by
        by_cases z : j ∈ D
        · exact z
        · have : j ∈ (leads a).filter fun j => decide (j ∉ D) := List.mem_filter.mpr ⟨hj, decide_eq_true z⟩
          rw [h3] at this
          simp at this
      obtain ⟨m, hm, em⟩ := List.mem_iff_getElem.mp hjD
      exact ⟨m, hm, by rw [List.getElem?_append_left hm]; exact List.getElem?_eq_some_iff.mpr ⟨hm, em⟩⟩
theorem KI.fin (I : KI leads n D [] lack) (down : ∀ i, i < n → ∀ j ∈ leads i, j < i) : ∀ i, i < n → i ∈ D := by
  intro i
  induction i using Nat.strongRecOn with
  | ind i ih =>
    intro hi
    by_cases hD : i ∈ D
    · exact hD
    · have h := I.cnt i hi
      have e : ((leads i).filter fun j => decide (j ∉ D)) = [] := by
        refine List.filter_eq_nil_iff.mpr fun j hj => ?_
        have hji := down i hi j hj
        have := ih j hji (by omega)
        simp [this]
      rw [e] at h
      have := I.all i hi hD (by simpa using h)
      simp at this
theorem KI.len (I : KI leads n D R lack) : D.length ≤ n := by
  have h : ∀ (n : Nat) (l : List Nat), l.Nodup → (∀ d ∈ l, d < n) → l.length ≤ n := by
    intro n
    induction n with
    | zero =>
      intro l _ h
      cases l with
      | nil => exact Nat.le_refl _
      | cons a r => exact absurd (h a (List.mem_cons_self ..)) (Nat.not_lt_zero _)
    | succ n ih =>
      intro l hN h
      have h1 := ih (l.erase n) (hN.erase n) fun d hd => by
        have hd1 := List.mem_of_mem_erase hd
        have hd2 : d ≠ n := fun e => by
          rw [e] at hd
          exact (List.Nodup.not_mem_erase hN) hd
        have := h d hd1
        omega
      have h2 := List.length_erase_le (a := n) (l := l)
      by_cases e : n ∈ l
      · have := List.length_erase_of_mem e
        omega
      · rw [List.erase_of_not_mem e] at h1
        omega
  exact h n D I.dNd I.dLt
/-- as long as one is ready not all are done -/
theorem KI.lt {a : Nat} (I : KI leads n D R lack) (ha : a ∈ R) : D.length < n := by
  obtain ⟨an, aD, _⟩ := I.rOk a ha
  have h : ∀ (n : Nat) (l : List Nat), l.Nodup → (∀ d ∈ l, d < n) → ∀ a, a < n → a ∉ l → l.length < n := by
    intro n
    induction n with
    | zero => intro l _ _ a h; exact absurd h (Nat.not_lt_zero _)
    | succ n ih =>
      intro l hN h a ha hl
      by_cases e : n ∈ l
      · have h1 := List.length_erase_of_mem e
        have h4 := List.length_pos_of_mem e
        have an : a ≠ n := fun z => hl (z ▸ e)
        have h2 := ih (l.erase n) (hN.erase n) (fun d hd => by
          have hd1 := List.mem_of_mem_erase hd
          have hd2 : d ≠ n := fun e => by
            rw [e] at hd
            exact (List.Nodup.not_mem_erase hN) hd
          have := h d hd1
          omega) a (by omega) fun z => hl (List.mem_of_mem_erase z)
        omega
      · have h3 : ∀ d ∈ l, d < n := fun d hd => by
          have hd2 : d ≠ n := fun z => e (z ▸ hd)
          have := h d hd
          omega
        -- l has all below n at most
        have h5 : l.length ≤ n := by
          have hh : ∀ (n : Nat) (l : List Nat), l.Nodup → (∀ d ∈ l, d < n) → l.length ≤ n := by
            intro n
            induction n with
            | zero =>
              intro l _ h
              cases l with
              | nil => exact Nat.le_refl _
              | cons a r => exact absurd (h a (List.mem_cons_self ..)) (Nat.not_lt_zero _)
            | succ n ih =>
              intro l hN h
              have h1 := ih (l.erase n) (hN.erase n) fun d hd => by
                have hd1 := List.mem_of_mem_erase hd
                have hd2 : d ≠ n := fun e => by
                  rw [e] at hd
                  exact (List.Nodup.not_mem_erase hN) hd
                have := h d hd1
                omega
              have h2 := List.length_erase_le (a := n) (l := l)
              by_cases e : n ∈ l
              · have := List.length_erase_of_mem e
                omega
              · rw [List.erase_of_not_mem e] at h1
                omega
          exact hh n l hN h3
        omega
  exact h n D I.dNd I.dLt a an aD
end

/-- the parts in the order D -/
theorem Parts.order {α : Type} [DecidableEq α] {st : α → List α} {nodes : List α} {parts : List (List α)} {leads : Nat → List Nat} {D : List Nat} {lack : Nat → Int} (P : Parts st nodes parts) (I : KI leads parts.length D [] lack)
    (hl : ∀ i j, i < parts.length → (j ∈ leads i ↔ j ≠ i ∧ j < parts.length ∧ ∃ x ∈ parts.getD i [], ∃ y ∈ st x, y ∈ parts.getD j [])) : Parts st nodes (D.map fun i => parts.getD i []) := by
  have gd : ∀ {i : Nat} {p : List α}, parts[i]? = some p → parts.getD i [] = p := fun e => by rw [List.getD_eq_getElem?_getD, e]; rfl
  have uniq : ∀ (i j : Nat) (p q : List α) (x : α), parts[i]? = some p → parts[j]? = some q → x ∈ p → x ∈ q → i = j := by
    have : ∀ (l : List (List α)), l.flatten.Nodup → ∀ (i j : Nat) (p q : List α) (x : α), l[i]? = some p → l[j]? = some q → x ∈ p → x ∈ q → i = j := by
      intro l
      induction l with
      | nil => intro _ i j p q x e; simp at e
      | cons a r ih =>
        intro hN i j p q x e1 e2 h1 h2
        rw [List.flatten_cons] at hN
        obtain ⟨_, hr, hd⟩ := List.nodup_append.mp hN
        cases i with
        | zero =>
          cases j with
          | zero => rfl
          | succ j =>
            simp at e1 e2
            subst e1
            exact absurd rfl (hd x h1 x (List.mem_flatten.mpr ⟨q, List.mem_of_getElem? e2, h2⟩))
        | succ i =>
          cases j with
          | zero =>
            simp at e1 e2
            subst e2
            exact absurd rfl (hd x h2 x (List.mem_flatten.mpr ⟨p, List.mem_of_getElem? e1, h1⟩))
          | succ j =>
            simp at e1 e2
            rw [ih hr i j p q x e1 e2 h1 h2]
    exact this parts P.nd
  have down : ∀ i, i < parts.length → ∀ j ∈ leads i, j < i := fun i hi j hj => by
    obtain ⟨ne, hj', x, hx, y, hy, hyj⟩ := (hl i j hi).mp hj
    have e1 : parts[i]? = some (parts.getD i []) := by rw [List.getD_eq_getElem?_getD, List.getElem?_eq_getElem hi]; rfl
    have e2 : parts[j]? = some (parts.getD j []) := by rw [List.getD_eq_getElem?_getD, List.getElem?_eq_getElem hj']; rfl
    obtain ⟨m, q, hm, em, hyq⟩ := P.down i _ e1 x hx y hy
    have := uniq j m _ _ y e2 em hyj hyq
    omega
  have all := I.fin down
  have at_ : ∀ {k : Nat} {p : List α}, (D.map fun i => parts.getD i [])[k]? = some p → ∃ d, D[k]? = some d ∧ d < parts.length ∧ parts[d]? = some p := fun {k p} e => by
    rw [List.getElem?_map] at e
    cases h : D[k]? with
    | none => rw [h] at e; simp at e
    | some d =>
      rw [h] at e
      have hd := I.dLt d (List.mem_of_getElem? h)
      refine ⟨d, rfl, hd, ?_⟩
      have e : parts.getD d [] = p := by simpa using e
      rw [← e, List.getD_eq_getElem?_getD, List.getElem?_eq_getElem hd]
      rfl
  have mem_ : ∀ p, p ∈ (D.map fun i => parts.getD i []) ↔ p ∈ parts := fun p => by
    constructor
    · intro h
      obtain ⟨k, hk, e⟩ := List.mem_iff_getElem.mp h
      obtain ⟨d, _, _, e2⟩ := at_ (List.getElem?_eq_some_iff.mpr ⟨hk, e⟩)
      exact List.mem_of_getElem? e2
    · intro h
      obtain ⟨d, hd, e⟩ := List.mem_iff_getElem.mp h
      exact List.mem_map.mpr ⟨d, all d hd, gd (List.getElem?_eq_some_iff.mpr ⟨hd, e⟩)⟩
  refine ⟨fun x => ?_, ?_, fun p hp => P.ne p ((mem_ p).mp hp), fun p hp => P.scc p ((mem_ p).mp hp), fun k p e x hx y hy => ?_⟩
  · rw [P.all x]
    constructor
    · rintro ⟨p, hp, h⟩
      exact ⟨p, (mem_ p).mpr hp, h⟩
    · rintro ⟨p, hp, h⟩
      exact ⟨p, (mem_ p).mp hp, h⟩
  · have : ∀ (D : List Nat), D.Nodup → (∀ d ∈ D, d < parts.length) → (D.map fun i => parts.getD i []).flatten.Nodup := by
      intro D
      induction D with
      | nil => intro _ _; simp
      | cons d r ih =>
        intro hN hlt
        obtain ⟨h1, h2⟩ := List.nodup_cons.mp hN
        have hd := hlt d (List.mem_cons_self ..)
        have ed : parts[d]? = some (parts.getD d []) := by rw [List.getD_eq_getElem?_getD, List.getElem?_eq_getElem hd]; rfl
        rw [List.map_cons, List.flatten_cons]
        refine List.nodup_append.mpr ⟨?_, ih h2 fun z hz => hlt z (List.mem_cons_of_mem _ hz), fun x hx y hy e => ?_⟩
        · have hf := P.nd
          have : ∀ (l : List (List α)), l.flatten.Nodup → ∀ p ∈ l, p.Nodup := by
            intro l
            induction l with
            | nil => intro _ p hp; simp at hp
            | cons a r ih =>
              intro hN p hp
              rw [List.flatten_cons] at hN
              obtain ⟨ha, hr, _⟩ := List.nodup_append.mp hN
              rcases List.mem_cons.mp hp with e | hp
              · rw [e]; exact ha
              · exact ih hr p hp
          exact this parts hf _ (List.mem_of_getElem? ed)
        · subst e
          obtain ⟨q, hq, hxq⟩ := List.mem_flatten.mp hy
          obtain ⟨m, hm, em⟩ := List.mem_map.mp hq
          have hmlt := hlt m (List.mem_cons_of_mem _ hm)
          have em' : parts[m]? = some q := by
            rw [← em, List.getD_eq_getElem?_getD, List.getElem?_eq_getElem hmlt]
            rfl
          have := uniq d m _ _ x ed em' hx hxq
          subst this
          exact h1 hm
    exact this D I.dNd I.dLt
  · obtain ⟨d, ed, hd, e2⟩ := at_ e
    obtain ⟨j, q, hj, ej, hyq⟩ := P.down d p e2 x hx y hy
    by_cases jd : j = d
    · subst jd
      exact ⟨k, p, Nat.le_refl _, e, by rw [e2] at ej; cases ej; exact hyq⟩
    · have hj' : j < parts.length := (List.getElem?_eq_some_iff.mp ej).1
      have : j ∈ leads d := (hl d j hd).mpr ⟨jd, hj', x, by rw [gd e2]; exact hx, y, hy, by rw [gd ej]; exact hyq⟩
      obtain ⟨m, hm, em⟩ := I.ord k d ed j this
      refine ⟨m, q, Nat.le_of_lt hm, ?_, hyq⟩
      rw [List.getElem?_map, em]
      show some (parts.getD j []) = some q
      rw [gd ej]
/-- a node is in one part alone -/
theorem Parts.uniq {α : Type} [DecidableEq α] {st : α → List α} {nodes : List α} {parts : List (List α)} (P : Parts st nodes parts) {i j : Nat} {p q : List α} {x : α} (h1 : parts[i]? = some p) (h2 : parts[j]? = some q) (h3 : x ∈ p) (h4 : x ∈ q) : i = j := by
  have : ∀ (l : List (List α)), l.flatten.Nodup → ∀ (i j : Nat) (p q : List α) (x : α), l[i]? = some p → l[j]? = some q → x ∈ p → x ∈ q → i = j := by
    intro l
    induction l with
    | nil => intro _ i j p q x e; simp at e
    | cons a r ih =>
      intro hN i j p q x e1 e2 h1 h2
      rw [List.flatten_cons] at hN
      obtain ⟨_, hr, hd⟩ := List.nodup_append.mp hN
      cases i with
      | zero =>
        cases j with
        | zero => rfl
        | succ j =>
          simp at e1 e2
          subst e1
          exact absurd rfl (hd x h1 x (List.mem_flatten.mpr ⟨q, List.mem_of_getElem? e2, h2⟩))
      | succ i =>
        cases j with
        | zero =>
          simp at e1 e2
          subst e2
          exact absurd rfl (hd x h2 x (List.mem_flatten.mpr ⟨p, List.mem_of_getElem? e1, h1⟩))
        | succ j =>
          simp at e1 e2
          rw [ih hr i j p q x e1 e2 h1 h2]
  exact this parts P.nd i j p q x h1 h2 h3 h4
end Bk
end
section
/-! Devices, nodes, steps: plain; and how they stand in the heap. -/
namespace Bk
open PySem L2 LamX PySem.Spec PyProof.Rows
/-- a device: m states, s signals, the state that follows state x under signal a -/
structure Dv where
  m : Nat
  s : Nat
  f : Nat → Nat → Nat
  m1 : 1 ≤ m
  m5 : m ≤ 5
  s1 : 1 ≤ s
  s5 : s ≤ 5
  lt : ∀ a x, f a x < m
/-- signal a as a code point -/
def sc (a : Nat) : Nat := 97 + a
def sgs (d : Dv) : List Nat := (List.range d.s).map sc
/-- the pairs of states below m, in order -/
def prs (m : Nat) : List Nd := (List.range m).flatMap fun i => (List.range (m - (i + 1))).map fun j => (i, i + 1 + j)
def nds (κ : Kd) (d : Dv) : List Nd := match κ with
  | .st => (List.range d.m).map fun i => (i, i)
  | .pr => prs d.m
def InN (κ : Kd) (d : Dv) (n : Nd) : Prop := match κ with
  | .st => n.2 = n.1 ∧ n.1 < d.m
  | .pr => n.1 < n.2 ∧ n.2 < d.m
def prOf (x y : Nat) : Option Nd := if x = y then none else if x < y then some (x, y) else some (y, x)
def nx (κ : Kd) (d : Dv) (a : Nat) (n : Nd) : Option Nd := match κ with
  | .st => some (d.f a n.1, d.f a n.1)
  | .pr => prOf (d.f a n.1) (d.f a n.2)
def stp (κ : Kd) (d : Dv) (n : Nd) : List Nd := (List.range d.s).filterMap fun a => nx κ d a n
theorem InN.ok {κ : Kd} {d : Dv} {n : Nd} (h : InN κ d n) : Okn κ n := fun e => by
  subst e
  exact h.1
theorem mem_prs {m : Nat} {n : Nd} : n ∈ prs m ↔ n.1 < n.2 ∧ n.2 < m := by
  unfold prs
  rw [List.mem_flatMap]
  constructor
  · rintro ⟨i, hi, h⟩
    obtain ⟨j, hj, rfl⟩ := List.mem_map.mp h
    rw [List.mem_range] at hi hj
    exact ⟨by show i < i + 1 + j; omega, by show i + 1 + j < m; omega⟩
  · rintro ⟨h1, h2⟩
    refine ⟨n.1, List.mem_range.mpr (by omega), List.mem_map.mpr ⟨n.2 - (n.1 + 1), List.mem_range.mpr (by omega), ?_⟩⟩
    exact Prod.ext rfl (by show n.1 + 1 + (n.2 - (n.1 + 1)) = n.2; omega)
theorem mem_nds {κ : Kd} {d : Dv} {n : Nd} : n ∈ nds κ d ↔ InN κ d n := by
  cases κ with
  | st =>
    show n ∈ (List.range d.m).map (fun i => (i, i)) ↔ n.2 = n.1 ∧ n.1 < d.m
    rw [List.mem_map]
    constructor
    · rintro ⟨i, hi, rfl⟩
      exact ⟨rfl, List.mem_range.mp hi⟩
    · rintro ⟨h1, h2⟩
      exact ⟨n.1, List.mem_range.mpr h2, Prod.ext rfl h1.symm⟩
  | pr => exact mem_prs
theorem prs_small : ∀ m, m ≤ 5 → (prs m).Nodup ∧ (prs m).length ≤ 10 := by decide
theorem nds_nd {κ : Kd} {d : Dv} : (nds κ d).Nodup := by
  cases κ with
  | st =>
    refine List.pairwise_map.mpr (List.Pairwise.imp (fun {a b} h e => h ?_) List.nodup_range)
    exact (Prod.ext_iff.mp e).1
  | pr => exact (prs_small d.m d.m5).1
theorem nds_len {κ : Kd} {d : Dv} : (nds κ d).length ≤ 10 := by
  cases κ with
  | st =>
    show ((List.range d.m).map _).length ≤ 10
    rw [List.length_map, List.length_range]
    have := d.m5
    omega
  | pr => exact (prs_small d.m d.m5).2
theorem prOf_in {m x y : Nat} (hx : x < m) (hy : y < m) {n : Nd} (h : prOf x y = some n) : n.1 < n.2 ∧ n.2 < m := by
  unfold prOf at h
  split at h
  · cases h
  · split at h
    · cases h
      exact ⟨by assumption, hy⟩
    · cases h
      exact ⟨by show y < x; omega, hx⟩
theorem nx_in {κ : Kd} {d : Dv} {a : Nat} {n n' : Nd} (h : nx κ d a n = some n') : InN κ d n' := by
  cases κ with
  | st =>
    cases h
    exact ⟨rfl, d.lt _ _⟩
  | pr => exact prOf_in (d.lt _ _) (d.lt _ _) h
theorem stp_in {κ : Kd} {d : Dv} {n n' : Nd} (h : n' ∈ stp κ d n) : InN κ d n' := by
  obtain ⟨a, _, e⟩ := List.mem_filterMap.mp h
  exact nx_in e
theorem stp_len {κ : Kd} {d : Dv} {n : Nd} : (stp κ d n).length ≤ 5 := by
  have h1 := List.length_filterMap_le (fun a => nx κ d a n) (List.range d.s)
  rw [List.length_range] at h1
  have := d.s5
  exact Nat.le_trans h1 this
theorem sgs_len {d : Dv} : (sgs d).length = d.s := by rw [sgs, List.length_map, List.length_range]
theorem mem_sgs {d : Dv} {c : Nat} : c ∈ sgs d ↔ ∃ a, a < d.s ∧ c = sc a := by
  unfold sgs
  rw [List.mem_map]
  exact ⟨fun ⟨a, h, e⟩ => ⟨a, List.mem_range.mp h, e.symm⟩, fun ⟨a, h, e⟩ => ⟨a, List.mem_range.mpr h, e.symm⟩⟩
/-! ### in the heap -/
/-- values that are the things ns, one by one -/
def Ech {α : Type} (R : V → α → Prop) (vs : List V) (ns : List α) : Prop := vs.length = ns.length ∧ ∀ (i : Nat) (v : V), vs[i]? = some v → ∃ n, ns[i]? = some n ∧ R v n
abbrev NVs (κ : Kd) (H : Hp) (vs : List V) (ns : List Nd) : Prop := Ech (NV κ H) vs ns
abbrev NOs (κ : Kd) (H : Hp) (vs : List V) (ns : List (Option Nd)) : Prop := Ech (NVo κ H) vs ns
/-- the effect g on m states stands as a tuple -/
def Eff (m : Nat) (g : Nat → Nat) (H : Hp) (v : V) : Prop := ∃ p, v = .ref p ∧ H p = some (.tup ((List.range m).map fun x => .int (g x)))
/-- a Device -/
structure DevAt (C : Addr) (d : Dv) (p : Addr) (H : Hp) : Prop where
  ex : ∃ dx t ts, H p = some (.ins C dx [("states", .int d.m), ("signals", .str (tx (sgs d))), ("tables", .ref t)]) ∧ H t = some (.tup ts) ∧ ts.length = d.s ∧ ∀ a v, ts[a]? = some v → Eff d.m (d.f a) H v
section
variable {T : List (Addr × Str)} {κ : Kd} {H H' : Hp} {v : V}
theorem Ech.mono {α : Type} {R S : V → α → Prop} {vs : List V} {ns : List α} (h : Ech R vs ns) (k : ∀ a b, R a b → S a b) : Ech S vs ns := ⟨h.1, fun i v e => by
  obtain ⟨n, e1, r⟩ := h.2 i v e
  exact ⟨n, e1, k _ _ r⟩⟩
theorem Ech.nil {α : Type} {R : V → α → Prop} : Ech R [] [] := ⟨rfl, fun i v e => by simp at e⟩
theorem Ech.app {α : Type} {R : V → α → Prop} {vs us : List V} {ns ms : List α} (h : Ech R vs ns) (k : Ech R us ms) : Ech R (vs ++ us) (ns ++ ms) := by
  refine ⟨by rw [List.length_append, List.length_append, h.1, k.1], fun i v e => ?_⟩
  by_cases l : i < vs.length
  · rw [List.getElem?_append_left l] at e
    rw [List.getElem?_append_left (by rw [← h.1]; exact l)]
    exact h.2 i v e
  · rw [List.getElem?_append_right (by omega)] at e
    rw [List.getElem?_append_right (by rw [← h.1]; omega), ← h.1]
    exact k.2 _ v e
theorem Ech.one {α : Type} {R : V → α → Prop} {v : V} {n : α} (h : R v n) : Ech R [v] [n] := ⟨rfl, fun i u e => by
  cases i with
  | zero =>
    cases e
    exact ⟨n, rfl, h⟩
  | succ i => simp at e⟩
theorem Ech.at_ {α : Type} {R : V → α → Prop} {vs : List V} {ns : List α} (h : Ech R vs ns) {i : Nat} {n : α} (e : ns[i]? = some n) : ∃ v, vs[i]? = some v ∧ R v n := by
  have hi : i < vs.length := by rw [h.1]; exact (List.getElem?_eq_some_iff.mp e).1
  obtain ⟨n', e1, r⟩ := h.2 i _ (List.getElem?_eq_getElem hi)
  rw [e] at e1
  cases e1
  exact ⟨_, List.getElem?_eq_getElem hi, r⟩
theorem Ech.map {α : Type} {R : V → α → Prop} {φ : α → V} {ns : List α} (h : ∀ n ∈ ns, R (φ n) n) : Ech R (ns.map φ) ns := ⟨by simp, fun i v e => by
  rw [List.getElem?_map] at e
  obtain ⟨n, e1, rfl⟩ := Option.map_eq_some_iff.mp e
  exact ⟨n, e1, h n (List.mem_of_getElem? e1)⟩⟩
theorem Ech.sub {α : Type} {R : V → α → Prop} {vs : List V} {ns : List α} (h : Ech R vs ns) {v : V} (hv : v ∈ vs) : ∃ n ∈ ns, R v n := by
  obtain ⟨i, hi, e⟩ := List.mem_iff_getElem.mp hv
  obtain ⟨n, e1, r⟩ := h.2 i v (by rw [List.getElem?_eq_getElem hi, e])
  exact ⟨n, List.mem_of_getElem? e1, r⟩
theorem NVs.gr {vs : List V} {ns : List Nd} (h : NVs κ H vs ns) (g : Gr T H H') : NVs κ H' vs ns := Ech.mono h fun _ _ q => NV.gr q g
theorem NOs.gr {vs : List V} {ns : List (Option Nd)} (h : NOs κ H vs ns) (g : Gr T H H') : NOs κ H' vs ns := Ech.mono h fun _ _ q => NVo.gr q g
theorem Eff.gr {m : Nat} {e : Nat → Nat} (h : Eff m e H v) (g : Gr T H H') : Eff m e H' v := by
  obtain ⟨p, e, h⟩ := h
  exact ⟨p, e, g.tup h⟩
theorem DevAt.gr {C : Addr} {d : Dv} {p : Addr} (h : DevAt C d p H) (g : Gr T H H') : DevAt C d p H' := by
  obtain ⟨dx, t, ts, h1, h2, h3, h4⟩ := h.ex
  exact ⟨dx, t, ts, g.ins h1, g.tup h2, h3, fun a v e => (h4 a v e).gr g⟩
end
end Bk
end
section
/-! Rules whose reading names the program's facts K: here K is told, so that they stand within comprehensions within comprehensions. -/
namespace Bk
open PySem L2 LamX PySem.Spec PyProof.Rows
section
variable {X : Cx} {K : PySem.W.Frag}
theorem pi_tupK {tg l : Expr} {tl : TE} (hl : PE X l tl) (hK : X.K = K := by rfl) : PI X tg l (iTup K tl) := hK ▸ pi_tup hl
theorem pe_fldK {e : Expr} {f : Str} {pos : Pos} {ta : TE} (he : PE X e ta) (hb : attributeBase e f X.env (eval e X.env) = eval e X.env) (hK : X.K = K := by rfl) : PE X (.Attribute e f pos) (tFld K ta f) := hK ▸ pe_fld he hb
theorem ix_listK (hK : X.K = K := by rfl) : IxR X (rIxL K) := hK ▸ ix_list
theorem ix_tupK (hK : X.K = K := by rfl) : IxR X (rIxT K) := hK ▸ ix_tup
theorem ix_seqK (hK : X.K = K := by rfl) : IxR X (rIx K) := hK ▸ ix_seq
theorem call_lenK (hK : X.K = K := by rfl) : CallR X (.builtin "len") (fun xs H Q => ∃ p ys, xs = [.ref p] ∧ (SqL K H p ys ∨ SqT K H p ys) ∧ Q (.int ys.length) H) := hK ▸ call_len_seq
theorem call_listK (hK : X.K = K := by rfl) : CallR X (.type "list") (fun xs H Q => ∃ p ys, xs = [.ref p] ∧ (SqL K H p ys ∨ SqT K H p ys) ∧ ∀ l, H l = none → Q (.ref l) (upd H l (.lst ys))) := hK ▸ call_list_of
theorem call_tupleK (hK : X.K = K := by rfl) : CallR X (.type "tuple") (fun xs H Q => ∃ p ys, xs = [.ref p] ∧ ((SqL K H p ys ∧ ∀ l, H l = none → Q (.ref l) (upd H l (.tup ys))) ∨ (SqT K H p ys ∧ Q (.ref p) H))) := hK ▸ call_tuple_of
theorem op_inK (hu : X.A.units + 65 < cLine) (hK : X.K = K := by rfl) : OpR X (compareOp .In) (rInX K false) := hK ▸ op_inX hu
theorem op_notInK (hu : X.A.units + 65 < cLine) (hK : X.K = K := by rfl) : OpR X (compareOp .NotIn) (rInX K true) := hK ▸ op_notInX hu
theorem op_eqDK (hu : X.A.units + 64 < cLine) (hK : X.K = K := by rfl) : OpR X (compareOp .Eq) (rEqD K) := hK ▸ op_eqD hu
theorem op_neDK (hu : X.A.units + 64 < cLine) (hK : X.K = K := by rfl) : OpR X (compareOp .NotEq) (rNeD K) := hK ▸ op_neD hu
theorem pg_tupK {es : List Expr} {k : Nat} {t : TGs} {n : Nat} {pos : Pos} (hc : X.calm = true) (h : PGs X es t) (hK : X.K = K := by rfl) (hn : (assignEach es X.env).length = n := by rfl) (hst : (assignEach es X.env).findIdx? (·.1) = none := by rfl) : PG X (.Tuple es k pos) (gTup K n t) := hK ▸ pg_tup hc h hn hst
end
end Bk
end
section
/-! pair_of, next_node, joined_effects, said_effect. -/
namespace Bk
open PySem L2 LamX PySem.Spec PyProof.Rows
abbrev sPairOf : Stmt := top 29
abbrev sNext : Stmt := top 30
abbrev sJoined : Stmt := top 26
abbrev sSaid : Stmt := top 27
def kdT : Kd → Str
  | .st => "states"
  | .pr => "pairs"
/-- the class Device -/
structure DvC (K : PySem.W.Frag) (mg : Str → Option Value) (C : Addr) : Prop where
  cl : Cls K C
  n1 : NoAttr K C "states"
  n2 : NoAttr K C "signals"
  n3 : NoAttr K C "tables"
section
variable {P : Program} {w : World} {K : PySem.W.Frag} {mg : Str → Option Value} {base : Heap} {T : List (Addr × Str)}
def spPairOf (T : List (Addr × Str)) : Sp := fun vs H Q _ => ∃ x y : Nat, vs = [.int x, .int y] ∧ ∀ v H', NVo .pr H' v (prOf x y) → Gr T H H' → Q v H'
theorem scPairOf : FnScope ["one", "other"] ["one", "other"] (defScope sPairOf) := ⟨rfl, rfl, rfl, by decide +kernel, rfl, by decide +kernel, by decide +kernel⟩
theorem ok_pairOf {f : Addr} {fd : FuncData} (F : Fun K "pair_of" "pair_of" sPairOf f fd) : FnOk P w K mg base CX0 1 f fd ["one", "other"] (spPairOf T) := by
  refine F.ok scPairOf (fun vs H Q E h => ?_) (fun cdv A outer s H vs Q E hr h => ?_)
  · obtain ⟨x, y, rfl, _⟩ := h
    rfl
  · obtain ⟨x, y, rfl, k⟩ := h
    refine ⟨_, pss_cons (ps_if (pt_cmpR op_eq (pv 0) (pv 1) (nomark _)) (pss_one (ps_ret pe_non)) pss_nil)
      (pss_one (ps_ret (pe_ifExp (pt_cmpR op_lt (pv 0) (pv 1) (nomark _)) (pe_tup (pa_cons (pv 0) (pa_cons (pv 1) pa_nil))) (pe_tup (pa_cons (pv 1) (pa_cons (pv 0) pa_nil)))))), ?_⟩
    refine ⟨_, rfl, _, rfl, rfl, _, rfl, ite2 (fun e => ?_) fun e => ?_⟩
    · have ne : x = y := by
        have e1 : (x : Int) = y := by simpa using e
        omega
      refine k _ _ ?_ .refl
      unfold prOf
      rw [if_pos ne]
      rfl
    · have ne : ¬ x = y := by
        have e1 : ¬ (x : Int) = y := by simpa using e
        omega
      refine ⟨_, rfl, _, rfl, _, _, rfl, rfl, _, rfl, ite2 (fun e => ?_) fun e => ?_⟩
      · have lt : x < y := by simpa using e
        refine ⟨_, rfl, _, rfl, by show 2 ≤ sizeLine; decide, fun t ht => k _ _ ?_ (.new ht)⟩
        unfold prOf
        rw [if_neg ne, if_pos lt]
        exact ⟨t, rfl, upd_same⟩
      · have lt : ¬ x < y := by simpa using e
        refine ⟨_, rfl, _, rfl, by show 2 ≤ sizeLine; decide, fun t ht => k _ _ ?_ (.new ht)⟩
        unfold prOf
        rw [if_neg ne, if_neg lt]
        exact ⟨t, rfl, upd_same⟩
def spNext (T : List (Addr × Str)) (C : Addr) : Sp := fun vs H Q _ => ∃ κ d p v n a, vs = [.ref p, .str (kdT κ), v, .int (a : Nat)] ∧ DevAt C d p H ∧ NV κ H v n ∧ InN κ d n ∧ a < d.s ∧ ∀ u H', NVo κ H' u (nx κ d a n) → Gr T H H' → Q u H'
theorem scNext : FnScope ["device", "kind", "node", "number", "table"] ["device", "kind", "node", "number"] (defScope sNext) := ⟨rfl, rfl, rfl, by decide +kernel, rfl, by decide +kernel, by decide +kernel⟩
theorem rg_at {m x : Nat} {g : Nat → Nat} (h : x < m) : ((List.range m).map fun x => V.int (g x))[x]? = some (V.int (g x)) := by
  rw [List.getElem?_map, List.getElem?_range h]
  rfl
theorem ok_next {f C : Addr} {fd : FuncData} (F : Fun K "next_node" "next_node" sNext f fd) (D : DvC K mg C) (G : CalF P w K mg base CX0 1 "pair_of" ["one", "other"] (spPairOf T)) : FnOk P w K mg base CX0 2 f fd ["device", "kind", "node", "number"] (spNext T C) := by
  refine F.ok scNext (fun vs H Q E h => ?_) (fun cdv A outer s H vs Q E hr h => ?_)
  · obtain ⟨κ, d, p, v, n, a, rfl, _⟩ := h
    rfl
  · obtain ⟨κ, d, p, v, n, a, rfl, hd, hv, hn, ha, k⟩ := h
    refine ⟨_, pss_cons (ps_set (i := 4) scNext.nd rfl (Or.inl rfl) (pe_ix ix_seq (pe_fld (pv 0) rfl) (pv 3) (fun _ _ => rfl)))
      (pss_cons (ps_if (pt_cmpR op_eq (pv 1) pe_str (nomark _)) (pss_one (ps_ret (pe_ix ix_seq (pv 4) (pv 2) (fun _ _ => rfl)))) pss_nil)
      (pss_one (ps_ret (pe_cal G hr (pa_cons (pe_ix ix_seq (pv 4) (pe_ix ix_seq (pv 2) pe_int (fun _ _ => rfl)) (fun _ _ => rfl)) (pa_cons (pe_ix ix_seq (pv 4) (pe_ix ix_seq (pv 2) pe_int (fun _ _ => rfl)) (fun _ _ => rfl)) pa_nil)) pass0)))), ?_⟩
    obtain ⟨dx, t, ts, h1, h2, h3, h4⟩ := hd.ex
    have hl : a < ts.length := by omega
    obtain ⟨q, eq, hq⟩ := h4 a _ (List.getElem?_eq_getElem hl)
    refine ⟨_, rfl, p, C, dx, _, _, rfl, h1, D.cl, D.n3, rfl, _, rfl, .inr (.inl ⟨t, ts, _, _, rfl, rfl, SqT.of h2, atI_nat (List.getElem?_eq_getElem hl), ?_⟩)⟩
    rw [eq]
    refine ⟨_, rfl, rfl, _, rfl, ?_⟩
    cases κ with
    | st =>
      obtain ⟨rfl, e2⟩ := hv
      refine iteT ⟨_, rfl, _, rfl, .inr (.inl ⟨q, _, _, _, rfl, rfl, SqT.of hq, atI_nat (rg_at hn.2), ?_⟩)⟩
      exact k _ _ ⟨rfl, rfl⟩ .refl
    | pr =>
      obtain ⟨b, rfl, hb⟩ := hv
      have hn1 : n.1 < d.m := by have := hn.1; have := hn.2; omega
      refine iteF ?_
      refine ⟨_, rfl, _, rfl, .inr (.inl ⟨b, _, _, _, rfl, rfl, SqT.of hb, atI_nat (j := 0) rfl, .inr (.inl ⟨q, _, _, _, rfl, rfl, SqT.of hq, atI_nat (rg_at hn1), ?_⟩)⟩)⟩
      refine ⟨_, rfl, _, rfl, .inr (.inl ⟨b, _, _, _, rfl, rfl, SqT.of hb, atI_nat (j := 1) rfl, .inr (.inl ⟨q, _, _, _, rfl, rfl, SqT.of hq, atI_nat (rg_at hn.2), ?_⟩)⟩)⟩
      exact ⟨_, _, rfl, fun u H' hu g => k u H' hu g⟩
/-! effects -/
def spJoined (T : List (Addr × Str)) : Sp := fun vs H Q _ => ∃ v u m g h, vs = [v, u] ∧ Eff m g H v ∧ Eff m h H u ∧ m ≤ 5 ∧ (∀ x, x < m → g x < m) ∧ ∀ q H', Eff m (fun x => h (g x)) H' q → Gr T H H' → Q q H'
theorem scJoined : FnScope ["one", "other", "state"] ["one", "other"] (defScope sJoined) := ⟨rfl, rfl, rfl, by decide +kernel, rfl, by decide +kernel, by decide +kernel⟩
theorem fm_map {α : Type} (g : α → V) (l : List α) : (l.filterMap fun x => some (g x)) = l.map g := by
  rw [List.filterMap_eq_map']
theorem ok_joined {f : Addr} {fd : FuncData} (F : Fun K "joined_effects" "joined_effects" sJoined f fd) (B : Bt mg) : FnOk P w K mg base CX0 1 f fd ["one", "other"] (spJoined T) := by
  refine F.ok scJoined (fun vs H Q E h => ?_) (fun cdv A outer s H vs Q E hr h => ?_)
  · obtain ⟨v, u, m, g, h, rfl, _⟩ := h
    rfl
  · obtain ⟨v, u, m, g, h, rfl, ⟨p, rfl, hp⟩, ⟨q, rfl, hq⟩, m5, lt, k⟩ := h
    refine ⟨_, pss_one (ps_ret (pe_callTy call_tuple_of (by rfl) B.tuple (by decide +kernel) (pa_cons
      (pe_lc (own := [("state", 2)]) (g := gName 2) (tt := tYes) rfl scJoined.nd (pi_tup (pv 0)) (blkOk_by (N := ["one", "other", "state"]) (sc := defScope sJoined) (by decide +kernel)) (fun _ _ _ _ _ => pg_name (i := 2) scJoined.nd rfl (Or.inl rfl)) (fun _ _ _ _ _ => pts_nil)
        (fun _ _ _ _ _ => pe_ix (ix_seqK (K := K)) (pv 1) (pv 2) (fun _ _ => rfl))) pa_nil))), ?_⟩
    refine ⟨_, rfl, p, rfl, ⟨_, SqT.of hp⟩, fun D hD => ?_⟩
    have wk : Walk (Itt K p) (List.range m).length (fun H => SqT K H p ((List.range m).map fun x => V.int (g x))) (YAt ((List.range m).map fun x => V.int (g x))) := walk_tupL
    refine lc_fm (T := T) (L := []) (F := fun x => some (V.int (h (g x)))) wk .start hD (fun H' g' => g'.sqT (SqT.of hp)) (fun i x H2 hx g2 fm => ?_) fun H2 g2 fm => ?_
    · have hxm : x < m := List.mem_range.mp (List.mem_of_getElem? hx)
      refine ⟨rfl, _, rfl, _, rfl, .inr (.inl ⟨q, _, _, _, rfl, rfl, g2.sqT (SqT.of hq), atI_nat (rg_at (lt x hxm)), ?_⟩)⟩
      exact fm_add hD g2 fm hx rfl (by rw [List.length_range]; exact lt_line (by omega))
    · rw [fm_map] at fm
      refine ⟨D, _, rfl, .inl ⟨SqL.of (fm.get (i := 0) rfl), fun l hl => ?_⟩⟩
      exact k _ _ ⟨l, rfl, upd_same⟩ (g2.trans (.new hl))
def itr (g : Nat → Nat) : Nat → Nat → Nat
  | 0, x => x
  | n + 1, x => itr g n (g x)
theorem itr_add (g : Nat → Nat) : ∀ (a b x : Nat), itr g (a + b) x = itr g b (itr g a x)
  | 0, b, x => by rw [Nat.zero_add]; rfl
  | a + 1, b, x => by
    rw [Nat.succ_add]
    exact itr_add g a b (g x)
theorem itr_sq (g : Nat → Nat) : ∀ (k x : Nat), itr (fun x => g (g x)) k x = itr g (2 * k) x
  | 0, x => rfl
  | k + 1, x => by
    show itr (fun x => g (g x)) k (g (g x)) = itr g (2 * (k + 1)) x
    rw [itr_sq g k]
    rfl
theorem itr_lt {g : Nat → Nat} {m : Nat} (h : ∀ x, x < m → g x < m) : ∀ (n x : Nat), x < m → itr g n x < m
  | 0, x, hx => hx
  | n + 1, x, hx => itr_lt h n (g x) (h x hx)
def spSaid (T : List (Addr × Str)) : Sp := fun vs H Q _ => ∃ (v : V) (m : Nat) (e : Nat → Nat) (n : Nat), vs = [v, .int n] ∧ Eff m e H v ∧ m ≤ 5 ∧ (∀ x, x < m → e x < m) ∧ n < 2 ^ 62 ∧ ∀ q H' g, (∀ x, x < m → g x = itr e n x) → Eff m g H' q → Gr T H H' → Q q H'
theorem scSaid : FnScope ["effect", "times", "found", "power"] ["effect", "times"] (defScope sSaid) := ⟨rfl, rfl, rfl, by decide +kernel, rfl, by decide +kernel, by decide +kernel⟩
theorem ok_said {f : Addr} {fd : FuncData} (F : Fun K "said_effect" "said_effect" sSaid f fd) (B : Bt mg) (G : CalF P w K mg base CX0 1 "joined_effects" ["one", "other"] (spJoined T)) : FnOk P w K mg base CX0 2 f fd ["effect", "times"] (spSaid T) := by
  refine F.ok scSaid (fun vs H Q E h => ?_) (fun cdv A outer s H vs Q E hr h => ?_)
  · obtain ⟨v, m, e, n, rfl, _⟩ := h
    rfl
  · obtain ⟨v, m, e, n, rfl, hv, m5, lt, hn, k⟩ := h
    refine ⟨_, pss_cons (ps_set (i := 2) scSaid.nd rfl (Or.inl rfl) (pe_callTy (cr_tupleRng rfl) (by rfl) B.tuple (by decide +kernel) (pa_cons (pe_callTy cr_range1 (by rfl) B.range (by decide +kernel) (pa_cons (pe_callB call_len_seq (by rfl) B.len (by decide +kernel) (pa_cons (pv 0) pa_nil)) pa_nil)) pa_nil)))
      (pss_cons (ps_set (i := 3) scSaid.nd rfl (Or.inl rfl) (pv 0))
      (pss_cons (ps_while PassesOwn.never (pt_cmpR op_gt (pv 1) pe_int (nomark _))
        (pss_cons (ps_if (pt_cmpR op_eq (pe_op op_mod (pv 1) pe_int) pe_int (nomark _)) (pss_one (ps_set (i := 2) scSaid.nd rfl (Or.inl rfl) (pe_cal G hr (pa_cons (pv 2) (pa_cons (pv 3) pa_nil)) pass0))) pss_nil)
        (pss_cons (ps_set (i := 3) scSaid.nd rfl (Or.inl rfl) (pe_cal G hr (pa_cons (pv 3) (pa_cons (pv 3) pa_nil)) pass0))
        (pss_one (ps_aug (i := 1) scSaid.nd rfl (Or.inl rfl) pe_int iop_fdiv)))))
      (pss_one (ps_ret (pv 2))))), ?_⟩
    obtain ⟨p, rfl, hp⟩ := id hv
    refine ⟨_, rfl, p, _, rfl, .inr (SqT.of hp), _, rfl, fun r hr0 => ⟨r, 0, _, rfl, upd_same, ?_, fun t ht => ?_⟩⟩
    · refine RgOk.of_le (by omega) ?_ (by omega) (by omega)
      rw [List.length_map, List.length_range]
      omega
    have g1 : Gr T H (upd (upd H r (.rng 0 ((((List.range m).map fun x => V.int (e x)).length : Nat) : Int))) t (.tup (rgV 0 ((((List.range m).map fun x => V.int (e x)).length : Nat) : Int)))) := (Gr.new hr0).trans (.new ht)
    have ht2 : (upd (upd H r (.rng 0 ((((List.range m).map fun x => V.int (e x)).length : Nat) : Int))) t (.tup (rgV 0 ((((List.range m).map fun x => V.int (e x)).length : Nat) : Int)))) t = some (.tup ((List.range m).map fun (x : Nat) => V.int ((id x : Nat) : Int))) := by
      rw [upd_same]
      unfold rgV
      simp
    generalize (upd (upd H r (.rng 0 ((((List.range m).map fun x => V.int (e x)).length : Nat) : Int))) t (.tup (rgV 0 ((((List.range m).map fun x => V.int (e x)).length : Nat) : Int)))) = H1 at g1 ht2
    refine ⟨_, rfl, ?_⟩
    refine while_by (fun σ H' => ∃ (fv pv : V) (fo po : Nat → Nat) (j : Nat), σ = [some (.ref p), some (.int (j : Nat)), some fv, some pv] ∧ Gr T H H' ∧ Eff m fo H' fv ∧ Eff m po H' pv ∧ (∀ x, x < m → fo x < m) ∧ (∀ x, x < m → po x < m) ∧ j < 2 ^ 62 ∧ ∀ x, x < m → itr po j (fo x) = itr e n x)
      (fun σ _ => match σ with | [_, some (.int j), _, _] => j.toNat | _ => 0) ?_ (fun σ H' hp' => ?_) fun σ H' Q1 Q2 hm hq => ?_
    · exact ⟨_, _, id, e, n, rfl, g1, ⟨t, rfl, ht2⟩, hv.gr g1, fun x hx => hx, lt, hn, fun x hx => rfl⟩
    · obtain ⟨fv, pv, fo, po, j, rfl, g2, hf, hpo, lf, lp, hj, heq⟩ := hp'
      refine ⟨_, rfl, _, _, rfl, rfl, _, rfl, ite2 (fun hj1 => ?_) fun hj1 => ?_⟩
      · have hj0 : 0 < j := by
          have : (j : Int) > 0 := by simpa using hj1
          omega
        refine ⟨_, rfl, _, _, rfl, rfl, (by show (0 : Int) < 2; decide), rfl, _, rfl, ?_⟩
        have tail : ∀ (fv' : V) (fo' : Nat → Nat) (H2 : Hp), Gr T H H2 → Eff m fo' H2 fv' → Eff m po H2 pv → (∀ x, x < m → fo' x < m) → (∀ x, x < m → itr po (2 * (j / 2)) (fo' x) = itr e n x) →
            (tSeq (tAsg (tCall (spJoined T) [] E0 (tCons (tVar 3) (tCons (tVar 3) tNil))) (gName 3)) (tAug 1 (fun σ H Q => Q (V.int 2) H) (rI CDiv fun i j => .int (i / j)))) { nx := fun σ' H' => (∃ (fv pv : V) (fo po : Nat → Nat) (j : Nat), σ' = [some (.ref p), some (.int (j : Nat)), some fv, some pv] ∧ Gr T H H' ∧ Eff m fo H' fv ∧ Eff m po H' pv ∧ (∀ x, x < m → fo x < m) ∧ (∀ x, x < m → po x < m) ∧ j < 2 ^ 62 ∧ ∀ x, x < m → itr po j (fo x) = itr e n x) ∧ (match σ' with | [_, some (.int j), _, _] => j.toNat | _ => 0) < j, rt := fun v H' => Q v H' } [some (.ref p), some (.int (j : Nat)), some fv', some pv] H2 := by
          intro fv' fo' H2 g2 hf hpo lf heq
          refine ⟨_, rfl, _, rfl, _, _, m, po, po, rfl, hpo, hpo, m5, lp, fun q H3 hq g3 => ?_⟩
          refine ⟨_, rfl, _, _, rfl, rfl, ⟨by decide, by decide⟩, ?_, ?_⟩
          · refine ⟨fv', q, fo', fun x => po (po x), j / 2, ?_, g2.trans g3, hf.gr g3, hq, lf, fun x hx => lp _ (lp x hx), by omega, fun x hx => ?_⟩
            · show _ = [some (V.ref p), some (V.int ((j / 2 : Nat) : Int)), some fv', some q]
              rw [Int.natCast_ediv]
              rfl
            · rw [itr_sq]
              exact heq x hx
          · show ((j : Int) / 2).toNat < j
            omega
        refine ite2 (fun ho => ?_) fun ho => ?_
        · have odd : j = 2 * (j / 2) + 1 := by
            have : (j : Int) % 2 = 1 := by simpa using ho
            omega
          refine ⟨_, rfl, _, rfl, _, _, m, fo, po, rfl, hf, hpo, m5, lf, fun q H3 hq g3 => ?_⟩
          refine tail q (fun x => po (fo x)) H3 (g2.trans g3) hq (hpo.gr g3) (fun x hx => lp _ (lf x hx)) fun x hx => ?_
          rw [← heq x hx]
          conv => rhs; rw [odd, Nat.add_comm]
          rw [itr_add]
          rfl
        · have ev : j = 2 * (j / 2) := by
            have : ¬ (j : Int) % 2 = 1 := by simpa using ho
            omega
          refine tail fv fo H' g2 hf hpo lf fun x hx => ?_
          rw [← ev]
          exact heq x hx
      · have hj0 : j = 0 := by
          have : ¬ (j : Int) > 0 := by simpa using hj1
          omega
        subst hj0
        refine ⟨_, rfl, ?_⟩
        exact k fv H' fo heq hf g2
    · obtain ⟨x, hx, i, j, e1, e2, b, e3, q⟩ := hq
      exact ⟨x, hx, i, j, e1, e2, b, e3, hm _ _ q⟩
end
end Bk
end
section
/-! first_rows: the shortest rows from a node. -/
namespace Bk
open PySem L2 LamX PySem.Spec PyProof.Rows
abbrev sFirst : Stmt := top 34
/-- where the row r leads from n -/
def runR (nn : Nd → Nat → Option Nd) : List Nat → Nd → Option Nd
  | [], n => some n
  | c :: r, n => (nn n c).bind (runR nn r)
theorem runR_app (nn : Nd → Nat → Option Nd) : ∀ (r t : List Nat) (n : Nd), runR nn (r ++ t) n = (runR nn r n).bind (runR nn t)
  | [], t, n => rfl
  | c :: r, t, n => by
    show (nn n c).bind (runR nn (r ++ t)) = ((nn n c).bind (runR nn r)).bind (runR nn t)
    rw [Option.bind_assoc]
    congr 1
    funext x
    exact runR_app nn r t x
theorem nd_le {l m : List Nd} (h : l.Nodup) (hs : ∀ x ∈ l, x ∈ m) : l.length ≤ m.length := by
  induction l generalizing m with
  | nil => exact Nat.zero_le _
  | cons a r ih =>
    obtain ⟨h1, h2⟩ := List.nodup_cons.mp h
    have ha := hs a List.mem_cons_self
    have := ih (m := m.erase a) h2 fun x hx => (List.mem_erase_of_ne (a := x) (b := a) (fun e => h1 (by rw [← e]; exact hx))).mpr (hs x (List.mem_cons_of_mem _ hx))
    rw [List.length_erase_of_mem ha] at this
    have := List.length_pos_of_mem ha
    rw [List.length_cons]
    omega
structure Bfs (nn : Nd → Nat → Option Nd) (n : Nd) (sg : List Nat) (ks rk : List Nd) (row : Nd → List Nat) : Prop where
  nd : rk.Nodup
  sub : ∀ m ∈ rk, m ∈ ks
  hd : rk[0]? = some n
  rows : ∀ (i : Nat) (m : Nd), rk[i]? = some m → (row m).length ≤ i ∧ (∀ c ∈ row m, c ∈ sg) ∧ runR nn (row m) n = some m
theorem Bfs.start {nn : Nd → Nat → Option Nd} {n : Nd} {sg : List Nat} {ks : List Nd} (h : n ∈ ks) : Bfs nn n sg ks [n] fun _ => [] := by
  refine ⟨by simp, fun m hm => by rw [List.mem_singleton.mp hm]; exact h, rfl, fun i m e => ?_⟩
  cases i with
  | zero =>
    cases e
    exact ⟨Nat.le_refl _, fun c hc => by simp at hc, rfl⟩
  | succ i => simp at e
theorem Bfs.add {nn : Nd → Nat → Option Nd} {n : Nd} {sg : List Nat} {ks rk : List Nd} {row : Nd → List Nat} (B : Bfs nn n sg ks rk row) {i c : Nat} {x m : Nd} (hx : rk[i]? = some x) (hc : c ∈ sg) (hn : nn x c = some m) (hm : m ∉ rk) (hk : m ∈ ks) : Bfs nn n sg ks (rk ++ [m]) (fup row m (row x ++ [c])) := by
  have hi : i < rk.length := (List.getElem?_eq_some_iff.mp hx).1
  refine ⟨?_, fun y hy => ?_, ?_, fun j y e => ?_⟩
  · refine List.nodup_append.mpr ⟨B.nd, by simp, fun a ha b hb e => ?_⟩
    rw [List.mem_singleton.mp hb] at e
    exact hm (e ▸ ha)
  · rcases List.mem_append.mp hy with h | h
    · exact B.sub y h
    · rw [List.mem_singleton.mp h]; exact hk
  · rw [List.getElem?_append_left (by omega)]
    exact B.hd
  · by_cases l : j < rk.length
    · rw [List.getElem?_append_left l] at e
      have ne : y ≠ m := fun z => hm (z ▸ List.mem_of_getElem? e)
      rw [fup_ne _ _ ne]
      exact B.rows j y e
    · rw [List.getElem?_append_right (by omega)] at e
      have ej : j = rk.length := by
        have := (List.getElem?_eq_some_iff.mp e).1
        simp at this
        omega
      subst ej
      simp at e
      subst e
      rw [fup_same]
      obtain ⟨h1, h2, h3⟩ := B.rows i x hx
      refine ⟨?_, fun d hd => ?_, ?_⟩
      · rw [List.length_append]
        show _ + 1 ≤ _
        omega
      · rcases List.mem_append.mp hd with h | h
        · exact h2 d h
        · rw [List.mem_singleton.mp h]; exact hc
      · rw [runR_app, h3]
        show (nn x c).bind (runR nn []) = some m
        rw [hn]
        rfl
theorem Bfs.len {nn : Nd → Nat → Option Nd} {n : Nd} {sg : List Nat} {ks rk : List Nd} {row : Nd → List Nat} (B : Bfs nn n sg ks rk row) : rk.length ≤ ks.length := nd_le B.nd B.sub
/-- the steps of the nodes ks, as lists that a dict leads to -/
def StpD (κ : Kd) (K : PySem.W.Frag) (H : Hp) (nd : Addr) (ks : List Nd) (sg : List Nat) (nn : Nd → Nat → Option Nd) : Prop := ∃ f, H nd = some (FD κ ks f) ∧ (∀ m ∈ ks, Okn κ m) ∧ ∀ m ∈ ks, ∃ l vs, f m = .ref l ∧ H l = some (.lst vs) ∧ Ech (NVo κ H) vs (sg.map (nn m))
theorem StpD.gr {T : List (Addr × Str)} {κ : Kd} {K : PySem.W.Frag} {H H' : Hp} {nd : Addr} {ks : List Nd} {sg : List Nat} {nn : Nd → Nat → Option Nd} (h : StpD κ K H nd ks sg nn) (g : Gr T H H') : StpD κ K H' nd ks sg nn := by
  obtain ⟨f, h1, h2, h3⟩ := h
  refine ⟨f, g.ext _ _ h1 pl_FD.1, h2, fun m hm => ?_⟩
  obtain ⟨l, vs, e1, e2, e3⟩ := h3 m hm
  exact ⟨l, vs, e1, g.lst e2, NOs.gr e3 g⟩
theorem fd_disp {T : List (Addr × Str)} {κ : Kd} {H : Hp} {R : Addr} {v z : V} {n : Nd} (hR : H R = none) (hv : NV κ H v n) : DPut (upd H R (FD κ [] fun _ => .non)) R v z (upd H R (FD κ [n] fun _ => z)) := by
  have h := fd_put (κ := κ) (n := n) (ks := []) (f := fun _ => .non) (x := z) upd_same (fun m hm => by simp at hm) (hv.gr (T := T) (.new (o := FD κ [] fun _ => .non) hR)) (lt_line (by simp))
  have e : upd (upd H R (FD κ [] fun _ => .non)) R (FD κ (if n ∈ ([] : List Nd) then [] else [] ++ [n]) (fup (fun _ => V.non) n z)) = upd H R (FD κ [n] fun _ => z) := by
    rw [upd_upd]
    congr 1
    refine FD.congr fun m hm => ?_
    rw [List.mem_singleton.mp (show m ∈ [n] from hm), fup_same]
  rw [e] at h
  exact h
theorem Loc.frs {T : List (Addr × Str)} {H0 H : Hp} {L : List (Addr × HO)} {a : Addr} {o : HO} (l : Loc T H0 L H) {i : Nat} (h : L[i]? = some (a, o)) : H0 a = none := l.fr (a, o) (List.mem_of_getElem? h)
theorem cps_at {l : List Nat} {i c : Nat} (h : (tx l).cps[i]? = some c) : l[i]? = some c := by
  have z : (tx l).cps.toList[i]? = some c := by simpa using h
  rwa [tx_tl] at z
theorem NV.ne_non {κ : Kd} {H : Hp} {v : V} {n : Nd} (h : NV κ H v n) : v ≠ .non := fun e => by
  subst e
  cases κ with
  | st => cases h.1
  | pr =>
    obtain ⟨b, e, _⟩ := h
    cases e
theorem NV.put {κ : Kd} {H : Hp} {v : V} {n : Nd} {a : Addr} {o u : HO} (h : NV κ H v n) (ha : H a = some o) (no : ∀ xs, o ≠ .tup xs) : NV κ (upd H a u) v n := by
  cases κ with
  | st => exact h
  | pr =>
    obtain ⟨b, e, hb⟩ := h
    refine ⟨b, e, ?_⟩
    rw [upd_ne (fun z => ?_)]
    · exact hb
    · rw [z, ha] at hb
      exact no _ (Option.some.inj hb)
theorem FD_ne_tup {κ : Kd} {ks : List Nd} {f : Nd → V} {xs : List V} : FD κ ks f ≠ .tup xs := fun e => by
  cases κ with
  | st => cases e
  | pr => cases e
section
variable {P : Program} {w : World} {K : PySem.W.Frag} {mg : Str → Option Value} {base : Heap} {T : List (Addr × Str)}
def spFirst (T : List (Addr × Str)) (K : PySem.W.Frag) : Sp := fun vs H Q _ => ∃ (κ : Kd) (nd : Addr) (ks : List Nd) (v : V) (n : Nd) (sg : List Nat) (nn : Nd → Nat → Option Nd), vs = [.ref nd, v, .str (tx sg)] ∧ StpD κ K H nd ks sg nn ∧ NV κ H v n ∧ n ∈ ks ∧ ks.length ≤ 10 ∧ sg.length ≤ 5 ∧
  (∀ m ∈ ks, ∀ c ∈ sg, ∀ m', nn m c = some m' → m' ∈ ks) ∧ ∀ (q : Addr) (H' : Hp) (rk : List Nd) (row : Nd → List Nat), H q = none → H' q = some (FD κ rk fun m => .str (tx (row m))) → Gr T H H' → Bfs nn n sg ks rk row → (∀ m ∈ rk, ∀ c ∈ sg, ∀ m', nn m c = some m' → m' ∈ rk) → Q (.ref q) H'
theorem scFirst : FnScope ["next_nodes", "start", "signals", "rows", "waiting", "at", "signal", "after"] ["next_nodes", "start", "signals"] (defScope sFirst) := ⟨rfl, rfl, rfl, by decide +kernel, rfl, by decide +kernel, by decide +kernel⟩
theorem ok_first {f : Addr} {fd : FuncData} (F : Fun K "first_rows" "first_rows" sFirst f fd) (B : Bt mg) : FnOk P w K mg base CX0 1 f fd ["next_nodes", "start", "signals"] (spFirst T K) := by
  refine F.ok scFirst (fun vs H Q E h => ?_) (fun cdv A outer s H vs Q E hr h => ?_)
  · obtain ⟨κ, nd, ks, v, n, sg, nn, rfl, _⟩ := h
    rfl
  · obtain ⟨κ, nd, ks, v, n, sg, nn, rfl, hS, hv, hn, k10, s5, cl, k⟩ := h
    refine ⟨_, pss_cons (ps_set (i := 3) scFirst.nd rfl (Or.inl rfl) (pe_disp1 κ (hu0 hr) (pv 1) pe_str))
      (pss_cons (ps_set (i := 4) scFirst.nd rfl (Or.inl rfl) (pe_lst (pa_cons (pv 1) pa_nil)))
      (pss_cons (ps_set (i := 5) scFirst.nd rfl (Or.inl rfl) pe_int)
      (pss_cons (ps_while PassesOwn.never (pt_cmpR op_lt (pv 5) (pe_callB call_len_seq (by rfl) B.len (by decide +kernel) (pa_cons (pv 4) pa_nil)) (nomark _))
        (pss_cons (ps_for PassesOwn.never rfl (pi_zipSL (by rfl) B.zip (pa_cons (pv 2) (pa_cons (pe_dget (hu1 hr) (pv 0) (pe_ix ix_list (pv 4) (pv 5) (fun _ _ => rfl)) (fun _ _ => rfl)) pa_nil)))
            (pg_tup rfl (pgs_cons (pg_name (i := 6) scFirst.nd rfl (Or.inl rfl)) (pgs_cons (pg_name (i := 7) scFirst.nd rfl (Or.inl rfl)) pgs_nil)))
          (pss_one (ps_if (PW.pt (pw_and (pt_cmpR op_notN (pv 7) pe_non (nomark _)) (pw_and1 (pt_cmp (pc_dnotin (hu1 hr) (pv 7) (pv 3))))))
            (pss_cons (ps_dput (hu1 hr) (pv 3) (pv 7) (pe_op op_add_str (pe_dget (hu1 hr) (pv 3) (pe_ix ix_list (pv 4) (pv 5) (fun _ _ => rfl)) (fun _ _ => rfl)) (pv 6)) rfl)
            (pss_one (ps_expr (pe_bm PySem.F.plainAttrs_list PySem.F.slot_list_append PySem.F.type_list_append mt_append (pv 4) (pa_cons (pv 7) pa_nil))))) pss_nil)))
        (pss_one (ps_aug (i := 5) scFirst.nd rfl (Or.inl rfl) pe_int ip_add))))
      (pss_one (ps_ret (pv 3)))))), ?_⟩
    intro R hR
    refine ⟨_, rfl, _, fd_disp (T := T) hR hv (z := .str (tx [])), ?_⟩
    have L1 : Loc T H [(R, FD κ [n] fun m => .str (tx []))] (upd H R (FD κ [n] fun m => .str (tx []))) := Loc.start.new hR pl_FD
    generalize upd H R (FD κ [n] fun m => .str (tx [])) = H1 at L1
    refine ⟨_, rfl, by show 1 ≤ sizeLine; decide, fun W hW => ?_⟩
    have L2 : Loc T H [(W, .lst [v]), (R, FD κ [n] fun m => .str (tx []))] (upd H1 W (.lst [v])) := L1.new hW pl_lst
    generalize upd H1 W (.lst [v]) = H2 at L2
    refine while_by (fun σ H' => ∃ (x6 x7 : Option V) (wv : List V) (rk : List Nd) (row : Nd → List Nat) (at_ : Nat), σ = [some (.ref nd), some v, some (.str (tx sg)), some (.ref R), some (.ref W), some (.int (at_ : Nat)), x6, x7] ∧ at_ ≤ 10 ∧
        Loc T H [(W, .lst wv), (R, FD κ rk fun m => .str (tx (row m)))] H' ∧ NVs κ H' wv rk ∧ Bfs nn n sg ks rk row ∧ ∀ (i : Nat) (m : Nd), i < at_ → rk[i]? = some m → ∀ c ∈ sg, ∀ m', nn m c = some m' → m' ∈ rk)
      (fun σ _ => match σ with | [_, _, _, _, _, some (.int j), _, _] => 10 - j.toNat | _ => 0) ?_ (fun σ H' hp' => ?_) fun σ H' Q1 Q2 hm hq => ?_
    · exact ⟨none, none, [v], [n], fun _ => [], 0, rfl, by omega, L2, Ech.one (hv.gr L2.g), .start hn, fun i m hi => by omega⟩
    · obtain ⟨x6, x7, wv, rk, row, at_, rfl, a10, L, hwv, Bf, done⟩ := hp'
      refine ⟨_, rfl, _, rfl, W, wv, rfl, .inl (SqL.of (L.get (i := 0) rfl)), _, _, rfl, rfl, _, rfl, ite2 (fun hj1 => ?_) fun hj1 => ?_⟩
      · have lt : at_ < wv.length := by
          have : (at_ : Int) < (wv.length : Int) := by simpa using hj1
          omega
        have hwl : wv.length ≤ 10 := by
          rw [hwv.1]
          exact Nat.le_trans Bf.len k10
        obtain ⟨x, hx, hxv⟩ := hwv.2 at_ _ (List.getElem?_eq_getElem lt)
        have hxk : x ∈ ks := Bf.sub x (List.mem_of_getElem? hx)
        obtain ⟨fd', e1, e2, e3⟩ := hS
        obtain ⟨l, vs, f1, f2, f3⟩ := e3 x hxk
        refine ⟨_, rfl, _, rfl, _, rfl, _, rfl, W, wv, _, _, rfl, rfl, SqL.of (L.get (i := 0) rfl), atI_nat (List.getElem?_eq_getElem lt), nd, _, rfl, fd_has (.inl (L.g.ext _ _ e1 pl_FD.1)) e2 hxv hxk, ?_⟩
        have el : min (tx sg).cps.size vs.length = sg.length := by
          rw [tx_sz, f3.1, List.length_map, Nat.min_self]
        rw [f1]
        refine ⟨tx sg, l, vs, rfl, SqL.of (L.g.lst f2), ?_⟩
        rw [el]
        refine for_it walk_T (fun j σ H2 => ∃ (x6 x7 : Option V) (wv : List V) (rk : List Nd) (row : Nd → List Nat), σ = [some (.ref nd), some v, some (.str (tx sg)), some (.ref R), some (.ref W), some (.int (at_ : Nat)), x6, x7] ∧
          Loc T H [(W, .lst wv), (R, FD κ rk fun m => .str (tx (row m)))] H2 ∧ NVs κ H2 wv rk ∧ Bfs nn n sg ks rk row ∧ rk[at_]? = some x ∧ (∀ (i : Nat) (m : Nd), i < at_ → rk[i]? = some m → ∀ c ∈ sg, ∀ m', nn m c = some m' → m' ∈ rk) ∧ ∀ c ∈ sg.take j, ∀ m', nn x c = some m' → m' ∈ rk)
          ⟨x6, x7, wv, rk, row, rfl, L, hwv, Bf, hx, done, fun c hc => by simp at hc⟩ (fun i σ H2 hi hp2 => ?_) (fun j it σ H2 H3 hj hp2 hy => ?_) fun σ H2 hp2 => ?_
        · obtain ⟨_, _, _, _, _, _, L, _⟩ := hp2
          exact SqL.of (L.g.lst f2)
        · obtain ⟨y6, y7, wv, rk, row, rfl, L, hwv, Bf, hx, done, dn⟩ := hp2
          obtain ⟨Tt, x0, y0, rfl, hT, rfl, ⟨c, hc, rfl⟩, hy0⟩ := hy
          have hc := cps_at hc
          have L3 : Loc T H [(W, .lst wv), (R, FD κ rk fun m => .str (tx (row m)))] (upd H2 Tt (.tup [.str ⟨#[c]⟩, y0])) := L.mono (.new hT)
          have hT2 : (upd H2 Tt (.tup [.str ⟨#[c]⟩, y0])) Tt = some (.tup [.str ⟨#[c]⟩, y0]) := upd_same
          have hwv := hwv.gr (T := T) (.new (o := .tup [.str ⟨#[c]⟩, y0]) hT)
          generalize upd H2 Tt (.tup [.str ⟨#[c]⟩, y0]) = H3 at L3 hT2 hwv
          have hcs : c ∈ sg := List.mem_of_getElem? hc
          obtain ⟨o, ho, hyo⟩ := f3.2 j y0 hy0
          rw [List.getElem?_map, hc] at ho
          have ho : nn x c = o := by simpa using ho
          have hyo := NVo.gr hyo L3.g
          have nxt : ∀ (rk' : List Nd), (∀ m ∈ rk, m ∈ rk') → (∀ m', nn x c = some m' → m' ∈ rk') → ∀ d ∈ sg.take (j + 1), ∀ m', nn x d = some m' → m' ∈ rk' := fun rk' hs hc' d hd m' hm' => by
            rw [take_snoc hc] at hd
            rcases List.mem_append.mp hd with h | h
            · exact hs _ (dn d h m' hm')
            · rw [List.mem_singleton.mp h] at hm'
              exact hc' m' hm'
          refine ⟨Tt, _, rfl, SqT.of hT2, rfl, ?_⟩
          cases o with
          | none =>
            obtain rfl : y0 = .non := hyo
            refine ⟨_, _, rfl, _, _, rfl, rfl, _, rfl, rfl, _, rfl, iteF ?_⟩
            exact ⟨_, _, wv, rk, row, rfl, L3, hwv, Bf, hx, done, nxt rk (fun m hm => hm) fun m' hm' => by rw [ho] at hm'; cases hm'⟩
          | some m =>
            have hyo : NV κ H3 y0 m := hyo
            have nn0 : y0 ≠ .non := NV.ne_non hyo
            refine ⟨_, _, rfl, _, _, rfl, rfl, _, rfl, rfl, _, rfl, ?_⟩
            rw [decide_eq_false nn0]
            refine iteT ?_
            have okk : ∀ m ∈ rk, Okn κ m := fun m hm => e2 m (Bf.sub m hm)
            refine ⟨_, rfl, _, rfl, R, _, rfl, fd_get (.inl (L3.get (i := 1) rfl)) okk hyo, _, rfl, ?_⟩
            by_cases hm : m ∈ rk
            · rw [if_pos hm]
              refine iteF ?_
              exact ⟨_, _, wv, rk, row, rfl, L3, hwv, Bf, hx, done, nxt rk (fun m hm => hm) fun m' hm' => by rw [ho] at hm'; cases hm'; exact hm⟩
            · rw [if_neg hm]
              refine iteT ?_
              have hmk : m ∈ ks := cl x hxk c hcs m ho
              obtain ⟨va, ha1, ha2⟩ := hwv.at_ hx
              have hwl2 : rk.length ≤ 10 := Nat.le_trans Bf.len k10
              have hrow := Bf.rows at_ x hx
              have ex : x ∈ rk := List.mem_of_getElem? hx
              refine ⟨_, rfl, _, rfl, _, rfl, W, _, _, _, rfl, rfl, SqL.of (L3.get (i := 0) rfl), atI_nat ha1, R, _, rfl, fd_has (.inl (L3.get (i := 1) rfl)) okk ha2 ex, ?_⟩
              refine ⟨_, rfl, _, _, rfl, rfl, ?_, _, rfl, _, rfl, R, _, rfl, fd_put (L3.get (i := 1) rfl) okk hyo (lt_line (by omega)), ?_⟩
              · rw [tx_len]
                show _ + 1 ≤ _
                have := hrow.1
                have := lt_line (n := (row x).length + 1) (by omega)
                omega
              rw [if_neg hm]
              have B2 := Bf.add hx hcs ho hm hmk
              have eg : FD κ (rk ++ [m]) (fup (fun m => V.str (tx (row m))) m (V.str (tx (row x) ++ ⟨#[c]⟩))) = FD κ (rk ++ [m]) fun y => V.str (tx (fup row m (row x ++ [c]) y)) := FD.congr fun y _ => by
                by_cases e : y = m
                · rw [e, fup_same, fup_same, ← tx_app]
                  rfl
                · rw [fup_ne _ _ e, fup_ne _ _ e]
              rw [eg]
              have L4 := L3.set (i := 1) rfl (pl_FD (κ := κ) (ks := rk ++ [m]) (f := fun y => V.str (tx (fup row m (row x ++ [c]) y))))
              refine ⟨_, rfl, .inl ⟨rfl, _, SqL.of (L4.get (i := 0) rfl)⟩, _, rfl, W, _, _, rfl, rfl, L4.get (i := 0) rfl, lt_line (by have := hwv.1; omega), ?_⟩
              have L5 : Loc T H [(W, .lst (wv ++ [y0])), (R, FD κ (rk ++ [m]) fun y => V.str (tx (fup row m (row x ++ [c]) y)))] _ := L4.set (i := 0) rfl (pl_lst (xs := wv ++ [y0]))
              have gm : ∀ {v : V} {n : Nd}, NV κ H3 v n → NV κ (upd (upd H3 R (FD κ (rk ++ [m]) fun y => V.str (tx (fup row m (row x ++ [c]) y)))) W (.lst (wv ++ [y0]))) v n := fun {v n} h => (h.put (L3.get (i := 1) rfl) fun xs => FD_ne_tup).put (L4.get (i := 0) rfl) fun xs e => by cases e
              refine ⟨_, _, wv ++ [y0], rk ++ [m], fup row m (row x ++ [c]), rfl, L5, (Ech.mono hwv fun _ _ h => gm h).app (.one (gm hyo)), B2, ?_, fun i y hi hy d hd m' hm' => ?_, nxt _ (fun m hm => List.mem_append_left _ hm) fun m' hm' => by rw [ho] at hm'; cases hm'; simp⟩
              · rw [List.getElem?_append_left (List.getElem?_eq_some_iff.mp hx).1]
                exact hx
              · rw [List.getElem?_append_left (by have := (List.getElem?_eq_some_iff.mp hx).1; omega)] at hy
                exact List.mem_append_left _ (done i y hi hy d hd m' hm')
        · obtain ⟨y6, y7, wv, rk, row, rfl, L, hwv, Bf, hx, done, dn⟩ := hp2
          refine ⟨_, rfl, _, _, rfl, rfl, ?_, ?_⟩
          · refine ⟨y6, y7, wv, rk, row, at_ + 1, rfl, by omega, L, hwv, Bf, fun i m hi hm c hc => ?_⟩
            rw [List.take_length] at dn
            by_cases e : i = at_
            · subst e
              rw [hx] at hm
              cases hm
              exact dn c hc
            · exact done i m (by omega) hm c hc
          · show 10 - ((at_ : Int) + 1).toNat < 10 - at_
            omega
      · have e : at_ = wv.length ∨ wv.length < at_ := by
          have : ¬ (at_ : Int) < (wv.length : Int) := by simpa using hj1
          omega
        refine ⟨_, rfl, ?_⟩
        refine k R H' rk row (L.frs (i := 1) rfl) (L.get (i := 1) rfl) L.g Bf fun m hm => ?_
        obtain ⟨i, hi, em⟩ := List.mem_iff_getElem.mp hm
        exact done i m (by have := hwv.1; omega) (by rw [List.getElem?_eq_getElem hi, em])
    · obtain ⟨x, hx, y, hy, p, ys, e0, e00, i, j, e1, e2, b, e3, q⟩ := hq
      exact ⟨x, hx, y, hy, p, ys, e0, e00, i, j, e1, e2, b, e3, hm _ _ q⟩
end
end Bk
end
section
/-! Nodes in lists and tuples: in, sorted; a while loop by a measure that the invariant names. -/
namespace Bk
open PySem L2 LamX PySem.Spec PyProof.Rows
def ndO (κ : Kd) : Option Nd → PyData
  | none => .none
  | some n => ndD κ n
theorem NVo.dp {K : PySem.W.Frag} {κ : Kd} {H : Hp} {v : V} {o : Option Nd} (h : NVo κ H v o) : Dp K H v (ndO κ o) := by
  cases o with
  | none =>
    obtain rfl : v = .non := h
    exact .non
  | some n => exact NV.dp h
theorem dpAll {α : Type} {K : PySem.W.Frag} {H : Hp} {R : V → α → Prop} {enc : α → PyData} (h : ∀ v n, R v n → Dp K H v (enc n)) : ∀ {vs : List V} {ns : List α}, Ech R vs ns → DpAll K H vs (ns.map enc)
  | [], [], _ => .nil
  | [], n :: ns, e => by cases e.1
  | v :: vs, [], e => by cases e.1
  | v :: vs, n :: ns, e => by
    obtain ⟨m, em, r⟩ := e.2 0 v rfl
    cases em
    refine .cons (h _ _ r) (dpAll h ⟨by have := e.1; simpa using this, fun i u eu => ?_⟩)
    exact e.2 (i + 1) u (by simpa using eu)
theorem ndO_shaped (κ : Kd) (o : Option Nd) : SeqAt.shaped (ndO κ o) = true := by
  cases o with
  | none => rfl
  | some n => exact ndD_shaped κ n
theorem nd_lay (κ : Kd) : ∀ ns : List Nd, PyData.canLayAll0 (ns.map (ndD κ)) = true
  | [] => rfl
  | n :: ns => by
    have e : PyData.canLay0 (ndD κ n) = true := by cases κ <;> rfl
    show (PyData.canLay0 (ndD κ n) && PyData.canLayAll0 (ns.map (ndD κ))) = true
    rw [e, nd_lay κ ns]
    rfl
def oIn (o : Option Nd) (ns : List Nd) : Bool := match o with
  | some n => decide (n ∈ ns)
  | none => false
theorem nd_any {κ : Kd} (o : Option Nd) (ho : ∀ n, o = some n → Okn κ n) : ∀ (ns : List Nd), (∀ n ∈ ns, Okn κ n) → ((ns.map (ndD κ)).any fun z => PyData.eqv z (ndO κ o)) = oIn o ns
  | [], _ => by
    cases o <;> simp [oIn]
  | m :: ns, h => by
    rw [List.map_cons, List.any_cons, nd_any o ho ns fun n hn => h n (List.mem_cons_of_mem _ hn)]
    cases o with
    | none =>
      have e : PyData.eqv (ndD κ m) PyData.none = false := by cases κ <;> rfl
      show (PyData.eqv (ndD κ m) PyData.none || false) = false
      rw [e]
      rfl
    | some n =>
      show (PyData.eqv (ndD κ m) (ndD κ n) || decide (n ∈ ns)) = decide (n ∈ m :: ns)
      rw [ndD_eqv (h m List.mem_cons_self) (ho n rfl)]
      by_cases e : m = n
      · subst e; simp
      · have e' : ¬ n = m := fun z => e z.symm
        simp [e, e']
theorem inNd {K : PySem.W.Frag} {κ : Kd} {H : Hp} {neg : Bool} {x : V} {o : Option Nd} {b : Addr} {vs : List V} {ns : List Nd} {Q : VK} (hx : NVo κ H x o) (hy : SqL K H b vs ∨ SqT K H b vs) (hvs : NVs κ H vs ns) (q : Q (.bl (if neg = true then !oIn o ns else oIn o ns)) H) : rInX K neg x (.ref b) H Q := by
  have ho : ∀ n, o = some n → Okn κ n := fun n e => by
    subst e
    exact NV.ok hx
  have hok : ∀ n ∈ ns, Okn κ n := fun n hn => by
    obtain ⟨i, hi, e⟩ := List.mem_iff_getElem.mp hn
    obtain ⟨v, _, r⟩ := hvs.at_ (by rw [List.getElem?_eq_getElem hi, e])
    exact NV.ok r
  have hd : DpAll K H vs (ns.map (ndD κ)) := dpAll (fun v n r => NV.dp r) hvs
  refine ⟨ndO κ o, ns.map (ndD κ), NVo.dp hx, ?_, ndO_shaped κ o, nd_lay κ ns, ?_⟩
  · rcases hy with h | h
    · exact .inl (.lst h hd)
    · exact .inr (.tup h hd)
  · rw [nd_any o ho ns hok]
    exact q
theorem ech_each {R : V → Nd → Prop} : ∀ {vs : List V} {ns : List Nd}, Ech R vs ns → PySem.W.EachIs R vs ns
  | [], [], _ => .nil
  | [], n :: ns, e => by cases e.1
  | v :: vs, [], e => by cases e.1
  | v :: vs, n :: ns, e => by
    obtain ⟨m, em, r⟩ := e.2 0 v rfl
    cases em
    refine .cons r (ech_each ⟨by have := e.1; simpa using this, fun i u eu => ?_⟩)
    exact e.2 (i + 1) u (by simpa using eu)
theorem each_ech {R : V → Nd → Prop} : ∀ {vs : List V} {ns : List Nd}, PySem.W.EachIs R vs ns → Ech R vs ns
  | _, _, .nil => .nil
  | _, _, .cons r t => (Ech.one r).app (each_ech t)
theorem sortNd {K : PySem.W.Frag} {κ : Kd} {H : Hp} {a : Addr} {vs : List V} {ns : List Nd} {Q : VK} (hl : SqL K H a vs) (hvs : NVs κ H vs ns) (q : ∀ (p : Addr) (out : List V) (ms : List Nd), H p = none → ms.Perm ns → NVs κ H out ms → Q (.ref p) (upd H p (.lst out))) : rSortedD K (ndD κ) [.ref a] H Q := by
  refine ⟨a, vs, ns, NV κ H, rfl, hl, ech_each hvs, fun v b h => NV.dp h, ?_, ?_, fun b hb => ?_, fun out ho p hp => q p out _ hp (List.mergeSort_perm _ _) (each_ech ho)⟩
  · refine PySem.W.AllAlike.of fun b b' => ?_
    cases κ <;> rfl
  · cases κ with
    | st => exact PySem.W.Sortable.others fun b => ⟨(fun e => by cases e), (fun xs e => by cases e)⟩
    | pr => exact PySem.W.Sortable.tuples fun b => ⟨_, _, rfl⟩
  · cases κ with
    | st => exact Nat.zero_le _
    | pr => exact (by decide : 1 ≤ 60)
theorem while_m {c : TT} {tb : TS} {D : Ends} {σ : L2.St} {H : Hp} (Pv : Nat → L2.St → Hp → Prop) (h0 : ∃ m, Pv m σ H)
    (hs : ∀ m σ H, Pv m σ H → c σ H fun b H1 => if b = true then tb { D with nx := fun σ' H' => ∃ m', m' < m ∧ Pv m' σ' H', ct := fun σ' H' => ∃ m', m' < m ∧ Pv m' σ' H', bk := D.nx } σ H1 else D.nx σ H1)
    (mono : ∀ σ H Q Q', (∀ b H1, Q b H1 → Q' b H1) → c σ H Q → c σ H Q') : tWhile c tb D σ H := by
  refine ⟨Pv, h0, fun m σ H p => mono σ H _ _ (fun b H1 q => ?_) (hs m σ H p)⟩
  cases b with
  | true => exact ⟨_, fun σ' H' h => h, q⟩
  | false => exact q
end Bk
end
section
/-! strong_parts. -/
namespace Bk
open PySem L2 LamX PySem.Spec PyProof.Rows
abbrev sStrong : Stmt := top 31
/-- a part stands as a tuple -/
def PtV (κ : Kd) (H : Hp) (v : V) (p : List Nd) : Prop := ∃ b vs, v = .ref b ∧ H b = some (.tup vs) ∧ NVs κ H vs p
/-- the steps' dict -/
def StD (κ : Kd) (K : PySem.W.Frag) (H : Hp) (nd : Addr) (ns : List Nd) (st : Nd → List Nd) : Prop := ∃ f, H nd = some (FD κ ns f) ∧ (∀ m ∈ ns, Okn κ m) ∧ ∀ m ∈ ns, ∃ l vs, f m = .ref l ∧ SqL K H l vs ∧ NVs κ H vs (st m)
/-- a frame of the search -/
def WkV (κ : Kd) (H : Hp) (v : V) (g : Nd × Nat) : Prop := ∃ b u, v = .ref b ∧ H b = some (.tup [u, .int (g.2 : Nat)]) ∧ NV κ H u g.1
section
variable {T : List (Addr × Str)} {κ : Kd} {H H' : Hp} {K : PySem.W.Frag}
theorem PtV.gr {v : V} {p : List Nd} (h : PtV κ H v p) (g : Gr T H H') : PtV κ H' v p := by
  obtain ⟨b, vs, e, h1, h2⟩ := h
  exact ⟨b, vs, e, g.tup h1, NVs.gr h2 g⟩
theorem StD.gr {nd : Addr} {ns : List Nd} {st : Nd → List Nd} (h : StD κ K H nd ns st) (g : Gr T H H') : StD κ K H' nd ns st := by
  obtain ⟨f, h1, h2, h3⟩ := h
  refine ⟨f, g.ext _ _ h1 pl_FD.1, h2, fun m hm => ?_⟩
  obtain ⟨l, vs, e1, e2, e3⟩ := h3 m hm
  exact ⟨l, vs, e1, g.sqL e2, NVs.gr e3 g⟩
theorem WkV.gr {v : V} {q : Nd × Nat} (h : WkV κ H v q) (g : Gr T H H') : WkV κ H' v q := by
  obtain ⟨b, u, e, h1, h2⟩ := h
  exact ⟨b, u, e, g.tup h1, NV.gr h2 g⟩
end
/-! what stands as tuples stays -/
def TupK (H H' : Hp) : Prop := ∀ b xs, H b = some (.tup xs) → H' b = some (.tup xs)
section
variable {T : List (Addr × Str)} {κ : Kd} {H H' H1 H0 : Hp} {K : PySem.W.Frag} {a p : Addr} {o u : HO}
theorem TupK.refl : TupK H H := fun _ _ h => h
theorem TupK.trans (h : TupK H H1) (k : TupK H1 H') : TupK H H' := fun b xs e => k b xs (h b xs e)
theorem TupK.put (h : H a = some o) (no : ∀ xs, o ≠ .tup xs) : TupK H (upd H a u) := fun b xs e => by
  rw [upd_ne (fun z => ?_)]
  · exact e
  · rw [z, h] at e
    exact no xs (Option.some.inj e)
theorem TupK.gr (g : Gr T H H') : TupK H H' := fun b xs e => g.tup e
theorem TupK.new (h : H p = none) : TupK H (upd H p o) := TupK.gr (T := []) (.new h)
theorem NV.tk {v : V} {n : Nd} (h : NV κ H v n) (k : TupK H H') : NV κ H' v n := by
  cases κ with
  | st => exact h
  | pr =>
    obtain ⟨b, e, hb⟩ := h
    exact ⟨b, e, k _ _ hb⟩
theorem NVs.tk {vs : List V} {ns : List Nd} (h : NVs κ H vs ns) (k : TupK H H') : NVs κ H' vs ns := Ech.mono h fun _ _ q => NV.tk q k
theorem PtV.tk {v : V} {p : List Nd} (h : PtV κ H v p) (k : TupK H H') : PtV κ H' v p := by
  obtain ⟨b, vs, e, h1, h2⟩ := h
  exact ⟨b, vs, e, k _ _ h1, h2.tk k⟩
theorem WkV.tk {v : V} {q : Nd × Nat} (h : WkV κ H v q) (k : TupK H H') : WkV κ H' v q := by
  obtain ⟨b, u, e, h1, h2⟩ := h
  exact ⟨b, u, e, k _ _ h1, h2.tk k⟩
theorem Loc.tk {L : List (Addr × HO)} (l : Loc T H0 L H) {i : Nat} (h : L[i]? = some (a, o)) (no : ∀ xs, o ≠ .tup xs) : TupK H (upd H a u) := .put (l.get h) no
theorem lst_ne_tup {xs : List V} : ∀ ys, HO.lst xs ≠ .tup ys := fun ys e => by cases e
end
/-- the last of a list, taken off -/
theorem Ech.pop {α : Type} {R : V → α → Prop} {xs : List V} {l : List α} {g : α} (h : Ech R xs (l ++ [g])) : ∃ v, xs[xs.length - 1]? = some v ∧ R v g ∧ Ech R xs.dropLast l := by
  have hl : xs.length = l.length + 1 := by rw [h.1, List.length_append]; rfl
  obtain ⟨v, e, r⟩ := h.at_ (i := l.length) (n := g) (by simp)
  refine ⟨v, by rw [hl]; exact e, r, ⟨by rw [List.length_dropLast]; omega, fun i u eu => ?_⟩⟩
  rw [List.getElem?_dropLast] at eu
  split at eu
  · next hi =>
    obtain ⟨n, en, rn⟩ := h.2 i u eu
    rw [List.getElem?_append_left (by omega)] at en
    exact ⟨n, en, rn⟩
  · cases eu
def rLenN (κ : Kd) : List V → Hp → VK → Prop := fun xs H Q => ∃ a ks f, xs = [.ref a] ∧ H a = some (FD κ ks f) ∧ Q (.int (ks.length : Nat)) H
theorem call_lenN {X : Cx} (κ : Kd) : CallR X (.builtin "len") (rLenN κ) := by
  intro pins s σ H xs us Q I r h
  obtain ⟨a, ks, f, rfl, ha, q⟩ := h
  cases κ with
  | st => exact call_lenD pins s σ H _ us Q I r ⟨a, _, rfl, ha, by rw [List.length_map]; exact q⟩
  | pr => exact call_len_dT pins s σ H _ us Q I r ⟨a, _, rfl, ha, by rw [List.length_map]; exact q⟩
section
variable {P : Program} {w : World} {K : PySem.W.Frag} {mg : Str → Option Value} {base : Heap} {T : List (Addr × Str)}
def spStrong (T : List (Addr × Str)) (K : PySem.W.Frag) : Sp := fun vs H Q _ => ∃ (κ : Kd) (t nd : Addr) (nvs : List V) (ns : List Nd) (st : Nd → List Nd), vs = [.ref t, .ref nd] ∧ SqT K H t nvs ∧ NVs κ H nvs ns ∧ ns.Nodup ∧ ns.length ≤ 10 ∧ StD κ K H nd ns st ∧
  (∀ m, (st m).length ≤ 5) ∧ (∀ m ∈ ns, ∀ y ∈ st m, y ∈ ns) ∧ ∀ (q : Addr) (H' : Hp) (fv : List V) (ps : List (List Nd)), H q = none → H' q = some (.lst fv) → Gr T H H' → Ech (PtV κ H') fv ps → Parts st ns ps → Q (.ref q) H'
theorem scStrong : FnScope ["nodes", "steps", "numbers", "lows", "stack", "waiting", "found", "start", "walk", "node", "at", "after", "part"] ["nodes", "steps"] (defScope sStrong) := ⟨rfl, rfl, rfl, by decide +kernel, rfl, by decide +kernel, by decide +kernel⟩
/-- what the search holds -/
def THp (T : List (Addr × Str)) (κ : Kd) (H0 : Hp) (Nm Lw Sk Wt Fn Wk : Addr) (s : TarS Nd) (fr : List (Nd × Nat)) (H : Hp) : Prop := ∃ wv sv fv, Loc T H0 [(Wk, .lst wv), (Nm, FD κ s.keys fun n => .int (s.num n : Nat)), (Lw, FD κ s.keys fun n => .int (s.low n : Nat)), (Sk, .lst sv), (Wt, FD κ s.keys fun n => .bl (s.wait n)), (Fn, .lst fv)] H ∧
  NVs κ H sv s.stk.reverse ∧ Ech (PtV κ H) fv s.fnd ∧ Ech (WkV κ H) wv fr.reverse
abbrev sg13 (t nd Nm Lw Sk Wt Fn Wk : Addr) (x7 : Option V) (u : V) (a : Nat) (x11 x12 : Option V) : L2.St := [some (.ref t), some (.ref nd), some (.ref Nm), some (.ref Lw), some (.ref Sk), some (.ref Wt), some (.ref Fn), x7, some (.ref Wk), some u, some (.int (a : Nat)), x11, x12]
theorem fd_upd {κ : Kd} {ks : List Nd} {f g : Nd → V} {n : Nd} {x : V} (h : ∀ m, fup f n x m = g m) : FD κ ks (fup f n x) = FD κ ks g := FD.congr fun m _ => h m
section
variable {t nd Nm Lw Sk Wt Fn Wk : Addr} {x7 x11 x12 : Option V} {u : V} {a : Nat} {κ : Kd} {H0 H : Hp} {st : Nd → List Nd} {ns : List Nd} {x : Nd} {ts : TarS Nd} {fr : List (Nd × Nat)} {D : Ends}
theorem disc_ok (hH : THp T κ H0 Nm Lw Sk Wt Fn Wk ts fr H) (hu : NV κ H u x) (hok : ∀ m ∈ ts.keys, Okn κ m) (hx : a = 0 → x ∉ ts.keys) (hl : ts.keys.length ≤ 10) (hs : ts.stk.length ≤ 10) (k : ∀ H', THp T κ H0 Nm Lw Sk Wt Fn Wk (if a = 0 then ts.disc x else ts) fr H' → NV κ H' u x → D.nx (sg13 t nd Nm Lw Sk Wt Fn Wk x7 u a x11 x12) H') :
    tIfS (tTest (tOp rEq (tVar 10) (tC (V.int 0)))) (tSeq (tAsg2 (tCB (rLenN κ) (tCons (tVar 2) tNil)) (gSub (tVar 2) (tVar 9) rSetD) (gSub (tVar 3) (tVar 9) rSetD)) (tSeq (tDrop (tBM K "list" rAppend (tVar 4) (tCons (tVar 9) tNil))) (sDPut (tVar 5) (tVar 9) (tC (V.bl true))))) tNext D (sg13 t nd Nm Lw Sk Wt Fn Wk x7 u a x11 x12) H := by
  obtain ⟨wv, sv, fv, L, hsv, hfv, hwv⟩ := hH
  refine ⟨_, rfl, rfl, _, rfl, ite2 (fun e => ?_) fun e => ?_⟩
  · have a0 : a = 0 := by
      have : (a : Int) = 0 := by simpa using e
      omega
    subst a0
    have hx := hx rfl
    rw [if_pos rfl] at k
    have hlz : ts.keys.length < sizeLine := lt_line (by omega)
    refine ⟨_, rfl, Nm, _, _, rfl, L.get (i := 1) rfl, _, rfl, _, rfl, Nm, _, rfl, fd_put (L.get (i := 1) rfl) hok hu hlz, ?_⟩
    rw [if_neg hx]
    have L1 := L.set (i := 1) rfl (pl_FD (κ := κ) (ks := ts.keys ++ [x]) (f := fup (fun n => V.int (ts.num n : Nat)) x (.int (ts.keys.length : Nat))))
    have t1 : TupK H _ := L.tk (i := 1) (u := FD κ (ts.keys ++ [x]) (fup (fun n => V.int (ts.num n : Nat)) x (.int (ts.keys.length : Nat)))) rfl fun xs => FD_ne_tup
    have u1 := hu.tk t1
    refine ⟨_, rfl, _, rfl, Lw, _, rfl, fd_put (L1.get (i := 2) rfl) hok u1 hlz, ?_⟩
    rw [if_neg hx]
    have L2 := L1.set (i := 2) rfl (pl_FD (κ := κ) (ks := ts.keys ++ [x]) (f := fup (fun n => V.int (ts.low n : Nat)) x (.int (ts.keys.length : Nat))))
    have t2 := t1.trans (L1.tk (i := 2) (u := FD κ (ts.keys ++ [x]) (fup (fun n => V.int (ts.low n : Nat)) x (.int (ts.keys.length : Nat)))) rfl fun xs => FD_ne_tup)
    refine ⟨_, rfl, .inl ⟨rfl, _, SqL.of (L2.get (i := 3) rfl)⟩, _, rfl, Sk, _, _, rfl, rfl, L2.get (i := 3) rfl, lt_line (by have := hsv.1; rw [List.length_reverse] at this; omega), ?_⟩
    have L3 := L2.set (i := 3) rfl (pl_lst (xs := sv ++ [u]))
    have t3 := t2.trans (L2.tk (i := 3) (u := .lst (sv ++ [u])) rfl lst_ne_tup)
    refine ⟨_, rfl, _, rfl, Wt, _, rfl, fd_put (L3.get (i := 4) rfl) hok (hu.tk t3) hlz, ?_⟩
    rw [if_neg hx]
    have L4 := L3.set (i := 4) rfl (pl_FD (κ := κ) (ks := ts.keys ++ [x]) (f := fup (fun n => V.bl (ts.wait n)) x (.bl true)))
    have t4 := t3.trans (L3.tk (i := 4) (u := FD κ (ts.keys ++ [x]) (fup (fun n => V.bl (ts.wait n)) x (.bl true))) rfl fun xs => FD_ne_tup)
    refine k _ ⟨wv, sv ++ [u], fv, ?_, ?_, Ech.mono hfv fun _ _ q => PtV.tk q t4, Ech.mono hwv fun _ _ q => WkV.tk q t4⟩ (hu.tk t4)
    · have e1 : FD κ (ts.keys ++ [x]) (fup (fun n => V.int (ts.num n : Nat)) x (.int (ts.keys.length : Nat))) = FD κ (ts.disc x).keys fun n => .int ((ts.disc x).num n : Nat) := FD.congr fun m _ => by
        show _ = V.int ((fup ts.num x ts.keys.length m : Nat) : Int)
        unfold fup
        split <;> rfl
      have e2 : FD κ (ts.keys ++ [x]) (fup (fun n => V.int (ts.low n : Nat)) x (.int (ts.keys.length : Nat))) = FD κ (ts.disc x).keys fun n => .int ((ts.disc x).low n : Nat) := FD.congr fun m _ => by
        show _ = V.int ((fup ts.low x ts.keys.length m : Nat) : Int)
        unfold fup
        split <;> rfl
      have e3 : FD κ (ts.keys ++ [x]) (fup (fun n => V.bl (ts.wait n)) x (.bl true)) = FD κ (ts.disc x).keys fun n => .bl ((ts.disc x).wait n) := FD.congr fun m _ => by
        show _ = V.bl (fup ts.wait x true m)
        unfold fup
        split <;> rfl
      rw [← e1, ← e2, ← e3]
      exact L4
    · show NVs κ _ (sv ++ [u]) (x :: ts.stk).reverse
      rw [List.reverse_cons]
      exact (hsv.tk t4).app (.one (hu.tk t4))
  · have a0 : a ≠ 0 := fun z => by
      subst z
      simp at e
    rw [if_neg a0] at k
    exact k H ⟨wv, sv, fv, L, hsv, hfv, hwv⟩ hu
abbrev tLn (K : PySem.W.Frag) (ta : TA) : TE := tCB (fun xs H Q => ∃ p ys, xs = [V.ref p] ∧ (SqL K H p ys ∨ SqT K H p ys) ∧ Q (V.int (ys.length : Nat)) H) ta
theorem next_ok (hS : StD κ K H0 nd ns st) (hH : THp T κ H0 Nm Lw Sk Wt Fn Wk ts fr H) (hu : NV κ H u x) (hxn : x ∈ ns) (hok : ∀ m ∈ ts.keys, Okn κ m) (hfr : fr.length ≤ 100) (st5 : (st x).length ≤ 5)
    (k1 : ∀ y, (st x)[a]? = some y → ∀ H' x11', THp T κ H0 Nm Lw Sk Wt Fn Wk ts (if y ∈ ts.keys then (x, a + 1) :: fr else (y, 0) :: (x, a + 1) :: fr) H' → D.ct (sg13 t nd Nm Lw Sk Wt Fn Wk x7 u a x11' x12) H')
    (k2 : (st x).length ≤ a → D.nx (sg13 t nd Nm Lw Sk Wt Fn Wk x7 u a x11 x12) H) :
    tIfS (tTest (tOp (rI0 fun i j => V.bl (decide (i < j))) (tVar 10) (tLn K (tCons (tDGet (tVar 1) (tVar 9)) tNil)))) (tSeq (tDrop (tBM K "list" rAppend (tVar 8) (tCons (tTup (tCons (tVar 9) (tCons (tOp (rI0 fun i j => V.int (i + j)) (tVar 10) (tC (V.int 1))) tNil))) tNil)))
      (tSeq (tAsg (tOp (rIxL K) (tDGet (tVar 1) (tVar 9)) (tVar 10)) (gName 11)) (tSeq (tIfS (tB (tDNotIn (tVar 11) (tVar 2))) (tDrop (tBM K "list" rAppend (tVar 8) (tCons (tTup (tCons (tVar 11) (tCons (tC (V.int 0)) tNil))) tNil))) tNext) tCont))) tNext D (sg13 t nd Nm Lw Sk Wt Fn Wk x7 u a x11 x12) H := by
  obtain ⟨wv, sv, fv, L, hsv, hfv, hwv⟩ := hH
  obtain ⟨g, g1, g2, g3⟩ := hS
  obtain ⟨l, vs, e1, e2, e3⟩ := g3 x hxn
  have hd : ∀ {H' : Hp} {v : V}, Gr T H0 H' → NV κ H' v x → DGet H' nd v (some (.ref l)) := fun gr hv => by
    rw [← e1]
    exact fd_has (.inl (gr.ext _ _ g1 pl_FD.1)) g2 hv hxn
  refine ⟨_, rfl, _, rfl, _, rfl, nd, _, rfl, hd L.g hu, l, vs, rfl, .inl (L.g.sqL e2), _, _, rfl, rfl, _, rfl, ite2 (fun e => ?_) fun e => ?_⟩
  · have lt : a < (st x).length := by
      have : (a : Int) < (vs.length : Nat) := by simpa using e
      have := e3.1
      omega
    obtain ⟨yv, ey, hy⟩ := e3.at_ (List.getElem?_eq_getElem lt)
    have k1 := k1 _ (List.getElem?_eq_getElem lt)
    generalize (st x)[a] = y at hy k1
    refine ⟨_, rfl, .inl ⟨rfl, _, SqL.of (L.get (i := 0) rfl)⟩, _, rfl, _, rfl, _, _, rfl, rfl, (by show 2 ≤ sizeLine; decide), fun B1 hB1 => ?_⟩
    have L1 : Loc T H0 _ (upd H B1 (.tup [u, .int ((a : Int) + 1)])) := L.mono (.new hB1)
    have t1 : TupK H (upd H B1 (.tup [u, .int ((a : Int) + 1)])) := .new hB1
    have b1 : WkV κ (upd H B1 (.tup [u, .int ((a : Int) + 1)])) (.ref B1) (x, a + 1) := ⟨B1, u, rfl, upd_same, hu.tk t1⟩
    generalize upd H B1 (.tup [u, .int ((a : Int) + 1)]) = H1 at L1 t1 b1
    refine ⟨Wk, _, _, rfl, rfl, L1.get (i := 0) rfl, lt_line (by have := hwv.1; rw [List.length_reverse] at this; omega), ?_⟩
    have L2 := L1.set (i := 0) rfl (pl_lst (xs := wv ++ [.ref B1]))
    have t2 := t1.trans (L1.tk (i := 0) (u := .lst (wv ++ [.ref B1])) rfl lst_ne_tup)
    have b2 := b1.tk (L1.tk (i := 0) (u := .lst (wv ++ [.ref B1])) rfl lst_ne_tup)
    generalize upd H1 Wk (.lst (wv ++ [.ref B1])) = H2 at L2 t2 b2
    have hw2 : Ech (WkV κ H2) (wv ++ [.ref B1]) ((x, a + 1) :: fr).reverse := by
      rw [List.reverse_cons]
      exact (Ech.mono hwv fun _ _ q => WkV.tk q t2).app (.one b2)
    have hy2 : NV κ H2 yv y := (hy.gr L.g).tk t2
    refine ⟨_, rfl, _, rfl, nd, _, rfl, hd L2.g (hu.tk t2), _, rfl, l, vs, _, _, rfl, rfl, L2.g.sqL e2, atI_nat ey, ?_⟩
    refine ⟨_, rfl, _, rfl, Nm, _, rfl, fd_get (.inl (L2.get (i := 1) rfl)) hok hy2, _, rfl, ?_⟩
    by_cases hm : y ∈ ts.keys
    · rw [if_pos hm] at k1 ⊢
      refine iteF ?_
      exact k1 H2 _ ⟨_, sv, fv, L2, hsv.tk t2, Ech.mono hfv fun _ _ q => PtV.tk q t2, hw2⟩
    · rw [if_neg hm] at k1 ⊢
      refine iteT ?_
      refine ⟨_, rfl, .inl ⟨rfl, _, SqL.of (L2.get (i := 0) rfl)⟩, _, rfl, (by show 2 ≤ sizeLine; decide), fun B2 hB2 => ?_⟩
      have L3 : Loc T H0 _ (upd H2 B2 (.tup [yv, .int 0])) := L2.mono (.new hB2)
      have t3 : TupK H2 (upd H2 B2 (.tup [yv, .int 0])) := .new hB2
      have b3 : WkV κ (upd H2 B2 (.tup [yv, .int 0])) (.ref B2) (y, 0) := ⟨B2, yv, rfl, upd_same, hy2.tk t3⟩
      generalize upd H2 B2 (.tup [yv, .int 0]) = H3 at L3 t3 b3
      refine ⟨Wk, _, _, rfl, rfl, L3.get (i := 0) rfl, lt_line (by have := hwv.1; rw [List.length_reverse] at this; rw [List.length_append]; show _ + 1 ≤ _; omega), ?_⟩
      have L4 := L3.set (i := 0) rfl (pl_lst (xs := wv ++ [.ref B1] ++ [.ref B2]))
      have t34 := L3.tk (i := 0) (u := .lst (wv ++ [.ref B1] ++ [.ref B2])) rfl lst_ne_tup
      have t4 := t3.trans t34
      refine k1 _ _ ⟨_, sv, fv, L4, hsv.tk (t2.trans t4), Ech.mono hfv fun _ _ q => PtV.tk q (t2.trans t4), ?_⟩
      rw [List.reverse_cons]
      exact (Ech.mono hw2 fun _ _ q => WkV.tk q t4).app (.one (b3.tk t34))
  · refine k2 ?_
    have : ¬ (a : Int) < (vs.length : Nat) := by simpa using e
    have := e3.1
    omega
theorem fup_self {β : Type} (f : Nd → β) (x : Nd) : fup f x (f x) = f := by
  funext y
  unfold fup
  split
  · next e => rw [e]
  · rfl
theorem fup_fup {β : Type} (f : Nd → β) (x : Nd) (b c : β) : fup (fup f x b) x c = fup f x c := by
  funext y
  unfold fup
  split <;> rfl
def lowAt (ts : TarS Nd) (x : Nd) (l : Nat) : TarS Nd := { ts with low := fup ts.low x l }
theorem fold_ok (hS : StD κ K H0 nd ns st) (hH : THp T κ H0 Nm Lw Sk Wt Fn Wk ts fr H) (hu : NV κ H u x) (hxn : x ∈ ns) (hok : ∀ m ∈ ts.keys, Okn κ m) (hxk : x ∈ ts.keys) (hyk : ∀ y ∈ st x, y ∈ ts.keys) (hlz : ts.keys.length ≤ 10)
    (k : ∀ H' x11', THp T κ H0 Nm Lw Sk Wt Fn Wk (lowAt ts x (lowF (st := st) ts x)) fr H' → NV κ H' u x → D.nx (sg13 t nd Nm Lw Sk Wt Fn Wk x7 u a x11' x12) H') :
    tFor (iList K (tDGet (tVar 1) (tVar 9))) (gName 11) (tIfS (tB (tDGet (tVar 5) (tVar 11))) (sDPut (tVar 3) (tVar 9) (tCB (fun xs H Q => ∃ i j, xs = [V.int i, V.int j] ∧ Q (V.int (if j < i then j else i)) H) (tCons (tDGet (tVar 3) (tVar 9)) (tCons (tDGet (tVar 3) (tVar 11)) tNil)))) tNext) D (sg13 t nd Nm Lw Sk Wt Fn Wk x7 u a x11 x12) H := by
  obtain ⟨g, g1, g2, g3⟩ := hS
  obtain ⟨l, vs, e1, e2, e3⟩ := g3 x hxn
  have hd : ∀ {H' : Hp} {v : V}, Gr T H0 H' → NV κ H' v x → DGet H' nd v (some (.ref l)) := fun gr hv => by
    rw [← e1]
    exact fd_has (.inl (gr.ext _ _ g1 pl_FD.1)) g2 hv hxn
  have gH : Gr T H0 H := by
    obtain ⟨wv, sv, fv, L, _⟩ := hH
    exact L.g
  refine ⟨_, rfl, _, rfl, nd, _, rfl, hd gH hu, l, rfl, ⟨_, gH.sqL e2⟩, ?_⟩
  refine for_it (walk_list (xs := vs)) (fun i σ H2 => ∃ x11', σ = sg13 t nd Nm Lw Sk Wt Fn Wk x7 u a x11' x12 ∧ THp T κ H0 Nm Lw Sk Wt Fn Wk (lowAt ts x (((st x).take i).foldl (lowStep ts x) (ts.low x))) fr H2 ∧ NV κ H2 u x) ?_ (fun i σ H2 hi hp => ?_) (fun i yv σ H2 H3 hi hp hy => ?_) fun σ H2 hp => ?_
  · refine ⟨x11, rfl, ?_, hu⟩
    have e : lowAt ts x (((st x).take 0).foldl (lowStep ts x) (ts.low x)) = ts := by
      show lowAt ts x (ts.low x) = ts
      unfold lowAt
      rw [fup_self]
    rw [e]
    exact hH
  · obtain ⟨_, _, ⟨_, _, _, L, _⟩, _⟩ := hp
    exact L.g.sqL e2
  · obtain ⟨x11', rfl, ⟨wv, sv, fv, L, hsv, hfv, hwv⟩, hu⟩ := hp
    obtain ⟨rfl, ey⟩ := hy
    obtain ⟨y, ey2, hy0⟩ := e3.2 i yv ey
    have hyx : y ∈ st x := List.mem_of_getElem? ey2
    have hy1 := hy0.gr L.g
    rw [take_snoc ey2, List.foldl_append]
    generalize ((st x).take i).foldl (lowStep ts x) (ts.low x) = c at L
    have hyK : y ∈ ts.keys := hyk y hyx
    refine ⟨_, rfl, _, rfl, Wt, _, rfl, fd_has (.inl (L.get (i := 4) rfl)) hok hy1 hyK, _, rfl, ite2 (fun hw => ?_) fun hw => ?_⟩
    · have hw : ts.wait y = true := hw
      refine ⟨_, rfl, _, rfl, Lw, _, rfl, fd_has (.inl (L.get (i := 2) rfl)) hok hu hxk, _, rfl, _, rfl, Lw, _, rfl, fd_has (.inl (L.get (i := 2) rfl)) hok hy1 hyK, _, _, rfl, _, rfl, _, rfl, Lw, _, rfl, fd_put (L.get (i := 2) rfl) hok hu (lt_line (by show ts.keys.length ≤ _; omega)), ?_⟩
      have hx2 : x ∈ (lowAt ts x c).keys := hxk
      rw [if_pos hx2]
      have ez : (if (((lowAt ts x c).low y : Nat) : Int) < (((lowAt ts x c).low x : Nat) : Int) then (((lowAt ts x c).low y : Nat) : Int) else (((lowAt ts x c).low x : Nat) : Int)) = ((lowStep ts x c y : Nat) : Int) := by
        show (if ((fup ts.low x c y : Nat) : Int) < ((fup ts.low x c x : Nat) : Int) then ((fup ts.low x c y : Nat) : Int) else ((fup ts.low x c x : Nat) : Int)) = _
        unfold lowStep
        rw [if_pos hw, fup_same]
        by_cases e : y = x
        · rw [e, fup_same, if_pos rfl]
          simp
        · rw [fup_ne _ _ e, if_neg e]
          split
          · rw [Nat.min_eq_right (by omega)]
          · rw [Nat.min_eq_left (by omega)]
      rw [ez]
      have eF : FD κ (lowAt ts x c).keys (fup (fun n => V.int ((lowAt ts x c).low n : Nat)) x (.int (lowStep ts x c y : Nat))) = FD κ (lowAt ts x c).keys fun n => V.int ((lowAt ts x (lowStep ts x c y)).low n : Nat) := FD.congr fun m _ => by
        show fup (fun n => V.int ((fup ts.low x c n : Nat) : Int)) x (.int (lowStep ts x c y : Nat)) m = V.int ((fup ts.low x (lowStep ts x c y) m : Nat) : Int)
        by_cases e : m = x
        · rw [e, fup_same, fup_same]
        · rw [fup_ne _ _ e, fup_ne _ _ e, fup_ne _ _ e]
      rw [eF]
      have L1 := L.set (i := 2) rfl (pl_FD (κ := κ) (ks := (lowAt ts x c).keys) (f := fun n => V.int ((lowAt ts x (lowStep ts x c y)).low n : Nat)))
      have t1 := L.tk (i := 2) (u := FD κ (lowAt ts x c).keys fun n => V.int ((lowAt ts x (lowStep ts x c y)).low n : Nat)) rfl fun xs => FD_ne_tup
      exact ⟨_, rfl, ⟨wv, sv, fv, L1, hsv.tk t1, Ech.mono hfv fun _ _ q => PtV.tk q t1, Ech.mono hwv fun _ _ q => WkV.tk q t1⟩, hu.tk t1⟩
    · have hw : ¬ ts.wait y = true := hw
      have e : lowStep ts x c y = c := by
        unfold lowStep
        rw [if_neg hw]
      refine ⟨_, rfl, ?_, hu⟩
      show THp T κ H0 Nm Lw Sk Wt Fn Wk (lowAt ts x (lowStep ts x c y)) fr _
      rw [e]
      exact ⟨wv, sv, fv, L, hsv, hfv, hwv⟩
  · obtain ⟨x11', rfl, hp, hu⟩ := hp
    rw [e3.1, List.take_length] at hp
    exact k H2 x11' hp hu
/-- the part is taken off the stack -/
theorem pop_ok (hH : THp T κ H0 Nm Lw Sk Wt Fn Wk ts fr H) (hu : NV κ H u x) (hok : ∀ m ∈ ts.keys, Okn κ m) (hxk : x ∈ ts.keys) (hlz : ts.keys.length ≤ 10) {ab rest : List Nd} (hst : ts.stk = ab ++ x :: rest) (hxa : x ∉ ab) (hsk : ∀ y ∈ ts.stk, y ∈ ts.keys) (hsl : ts.stk.length ≤ 10) (hfl : ts.fnd.length ≤ 10)
    (k1 : ts.low x = ts.num x → ∀ H' x12' p, p.Perm (ab ++ [x]) → THp T κ H0 Nm Lw Sk Wt Fn Wk (ts.pop (ab ++ [x]) rest p) fr H' → D.nx (sg13 t nd Nm Lw Sk Wt Fn Wk x7 u a x11 x12') H')
    (k2 : ts.low x ≠ ts.num x → D.nx (sg13 t nd Nm Lw Sk Wt Fn Wk x7 u a x11 x12) H) :
    tIfS (tTest (tOp rEq (tDGet (tVar 3) (tVar 9)) (tDGet (tVar 2) (tVar 9)))) (tSeq (tAsg (tLst tNil) (gName 12)) (tSeq (tWhile (tTest (tOp (rInX K true) (tVar 9) (tVar 12))) (tSeq (tDrop (tBM K "list" rAppend (tVar 12) (tCons (tBM0 K "list" rPop (tVar 4)) tNil)))
      (sDPut (tVar 5) (tOp (rIxL K) (tVar 12) (tUn (rU fun i => V.int (-i)) (tC (V.int 1)))) (tC (V.bl false)))))
      (tDrop (tBM K "list" rAppend (tVar 6) (tCons (tCB (fun xs H_1 Q => ∃ p ys, xs = [V.ref p] ∧ ((SqL K H_1 p ys ∧ ∀ (l : Addr), H_1 l = none → Q (V.ref l) (upd H_1 l (HO.tup ys))) ∨ SqT K H_1 p ys ∧ Q (V.ref p) H_1)) (tCons (tCB (rSortedD K (ndD κ)) (tCons (tVar 12) tNil)) tNil)) tNil))))) tNext
      D (sg13 t nd Nm Lw Sk Wt Fn Wk x7 u a x11 x12) H := by
  obtain ⟨wv, sv, fv, L, hsv, hfv, hwv⟩ := hH
  refine ⟨_, rfl, _, rfl, Lw, _, rfl, fd_has (.inl (L.get (i := 2) rfl)) hok hu hxk, _, rfl, _, rfl, Nm, _, rfl, fd_has (.inl (L.get (i := 1) rfl)) hok hu hxk, rfl, _, rfl, ite2 (fun e => ?_) fun e => ?_⟩
  · have e : ts.low x = ts.num x := by
      have : ((ts.low x : Nat) : Int) = (ts.num x : Nat) := by simpa using e
      omega
    have k1 := k1 e
    refine ⟨Nat.zero_le _, fun Pa hPa => ?_⟩
    have L1 : Loc T H0 _ (upd H Pa (.lst [])) := L.new hPa pl_lst
    have t1 : TupK H (upd H Pa (.lst [])) := .new hPa
    generalize upd H Pa (.lst []) = H1 at L1 t1
    have split : ∀ j, j ≤ (ab ++ [x]).length → (x ∈ (ab ++ [x]).take j ↔ j = (ab ++ [x]).length) := fun j hj => by
      constructor
      · intro hm
        by_cases q : j = (ab ++ [x]).length
        · exact q
        · rw [List.length_append] at hj q
          have : j ≤ ab.length := by simp at hj q; omega
          rw [List.take_append_of_le_length this] at hm
          exact absurd (List.mem_of_mem_take hm) hxa
      · intro q
        rw [q, List.take_length]
        simp
    refine while_m (fun m σ H2 => ∃ (j : Nat) (pv sv : List V), σ = sg13 t nd Nm Lw Sk Wt Fn Wk x7 u a x11 (some (.ref Pa)) ∧ m = (ab ++ [x]).length - j ∧ j ≤ (ab ++ [x]).length ∧ TupK H H2 ∧
      Loc T H0 [(Pa, .lst pv), (Wk, .lst wv), (Nm, FD κ ts.keys fun n => .int (ts.num n : Nat)), (Lw, FD κ ts.keys fun n => .int (ts.low n : Nat)), (Sk, .lst sv), (Wt, FD κ ts.keys fun n => .bl (if n ∈ (ab ++ [x]).take j then false else ts.wait n)), (Fn, .lst fv)] H2 ∧
      NVs κ H2 sv ((ab ++ [x]).drop j ++ rest).reverse ∧ NVs κ H2 pv ((ab ++ [x]).take j)) ?_ (fun m σ H2 hp => ?_) (fun σ H2 Q1 Q2 hm hq => ?_)
    · refine ⟨_, 0, [], sv, rfl, rfl, Nat.zero_le _, t1, L1, ?_, .nil⟩
      have : ((ab ++ [x]).drop 0 ++ rest) = ts.stk := by rw [hst]; simp
      rw [this]
      exact hsv.tk t1
    · obtain ⟨j, pv, sv, rfl, rfl, hj, t2, L, hsv, hpv⟩ := hp
      have huH := hu.tk t2
      refine ⟨_, rfl, _, rfl, inNd (κ := κ) (o := some x) huH (.inl (SqL.of (L.get (i := 0) rfl))) hpv ⟨_, rfl, ?_⟩⟩
      by_cases q : j = (ab ++ [x]).length
      · have hin : oIn (some x) ((ab ++ [x]).take j) = true := decide_eq_true ((split j hj).mpr q)
        rw [hin]
        refine iteF ?_
        subst q
        rw [List.take_length] at hpv L
        rw [List.drop_length] at hsv
        refine ⟨_, rfl, .inl ⟨rfl, _, SqL.of (L.get (i := 6) rfl)⟩, _, rfl, ?_⟩
        dsimp only [tNil]
        refine sortNd (SqL.of (L.get (i := 0) rfl)) hpv fun p2 out ms hp2 hpm hout => ?_
        have L3 : Loc T H0 _ (upd H2 p2 (.lst out)) := L.new hp2 pl_lst
        have t3 : TupK H2 (upd H2 p2 (.lst out)) := .new hp2
        refine ⟨p2, out, rfl, .inl ⟨SqL.of upd_same, fun l hl => ?_⟩⟩
        have t4 : TupK (upd H2 p2 (.lst out)) (upd (upd H2 p2 (.lst out)) l (.tup out)) := .new hl
        have L4 : Loc T H0 _ (upd (upd H2 p2 (.lst out)) l (.tup out)) := L3.mono (.new hl)
        have hP : PtV κ (upd (upd H2 p2 (.lst out)) l (.tup out)) (.ref l) ms := ⟨l, out, rfl, upd_same, (hout.tk t3).tk t4⟩
        have t5 := t3.trans t4
        generalize upd (upd H2 p2 (.lst out)) l (.tup out) = H4 at L4 hP t5
        refine ⟨Fn, _, _, rfl, rfl, L4.get (i := 7) rfl, lt_line (by have := hfv.1; omega), ?_⟩
        have L5 := L4.set (i := 7) rfl (pl_lst (xs := fv ++ [.ref l]))
        have t6 := L4.tk (i := 7) (u := .lst (fv ++ [.ref l])) rfl lst_ne_tup
        have t7 := t5.trans t6
        have eP : (FD κ ts.keys fun n => V.bl (if n ∈ ab ++ [x] then false else ts.wait n)) = FD κ (ts.pop (ab ++ [x]) rest ms).keys fun n => V.bl ((ts.pop (ab ++ [x]) rest ms).wait n) := FD.congr fun m _ => by
          by_cases e : m ∈ ab ++ [x]
          · rw [if_pos e]
            exact congrArg V.bl (if_pos e).symm
          · rw [if_neg e]
            exact congrArg V.bl (if_neg e).symm
        rw [eP] at L5
        have L6 : Loc T H0 [(p2, .lst out), (Pa, .lst pv), (Wk, .lst wv), (Nm, FD κ ts.keys fun n => .int (ts.num n : Nat)), (Lw, FD κ ts.keys fun n => .int (ts.low n : Nat)), (Sk, .lst sv), (Wt, FD κ (ts.pop (ab ++ [x]) rest ms).keys fun n => V.bl ((ts.pop (ab ++ [x]) rest ms).wait n)), (Fn, .lst (fv ++ [.ref l]))] (upd H4 Fn (.lst (fv ++ [.ref l]))) := L5
        refine k1 _ _ ms hpm ⟨wv, sv, fv ++ [.ref l], L6.sub (.cons _ (.cons _ (List.Sublist.refl _))), ?_, ?_, Ech.mono hwv fun _ _ q => WkV.tk q (t2.trans t7)⟩
        · have hsv := hsv.tk t7
          show NVs κ _ sv rest.reverse
          simpa using hsv
        · exact (Ech.mono hfv fun _ _ q => PtV.tk q (t2.trans t7)).app (.one (hP.tk t6))
      · have hin : oIn (some x) ((ab ++ [x]).take j) = false := decide_eq_false fun z => q ((split j hj).mp z)
        rw [hin]
        refine iteT ?_
        have hj2 : j < (ab ++ [x]).length := by omega
        obtain ⟨y, ey⟩ : ∃ y, (ab ++ [x])[j]? = some y := ⟨_, List.getElem?_eq_getElem hj2⟩
        have ed : (ab ++ [x]).drop j = y :: (ab ++ [x]).drop (j + 1) := by
          rw [List.drop_eq_getElem_cons hj2]
          rw [List.getElem?_eq_getElem hj2] at ey
          cases ey
          rfl
        rw [ed, List.cons_append, List.reverse_cons] at hsv
        obtain ⟨yv, ev, hy, hsv⟩ := hsv.pop
        have hyk : y ∈ ts.keys := hsk y (by
          rw [hst]
          have := List.mem_of_getElem? ey
          simp at this ⊢
          exact this.elim .inl fun z => .inr (.inl z))
        refine ⟨_, rfl, .inl ⟨rfl, _, SqL.of (L.get (i := 0) rfl)⟩, _, rfl, .inl ⟨rfl, _, SqL.of (L.get (i := 4) rfl)⟩, Sk, _, yv, rfl, rfl, L.get (i := 4) rfl, ev, ?_⟩
        have L3 := L.set (i := 4) rfl (pl_lst (xs := sv.dropLast))
        have t3 := L.tk (i := 4) (u := .lst sv.dropLast) rfl lst_ne_tup
        have hpl : pv.length ≤ 11 := by
          have h1 := hpv.1
          rw [List.length_take] at h1
          have h2 : (ab ++ [x]).length ≤ ts.stk.length := by rw [hst]; simp
          omega
        refine ⟨Pa, _, _, rfl, rfl, L3.get (i := 0) rfl, lt_line (by omega), ?_⟩
        have L4 := L3.set (i := 0) rfl (pl_lst (xs := pv ++ [yv]))
        have t4 := t3.trans (L3.tk (i := 0) (u := .lst (pv ++ [yv])) rfl lst_ne_tup)
        have hy4 := hy.tk t4
        have hlast : (pv ++ [yv])[(pv ++ [yv]).length - 1]? = some yv := by simp
        refine ⟨_, rfl, _, rfl, _, rfl, Pa, _, _, yv, rfl, rfl, SqL.of (L4.get (i := 0) rfl), atI_last _ _, Wt, _, rfl, fd_put (L4.get (i := 5) rfl) hok hy4 (lt_line (by omega)), ?_⟩
        rw [if_pos hyk]
        have tk1 : (ab ++ [x]).take (j + 1) = (ab ++ [x]).take j ++ [y] := take_snoc ey
        have eW : FD κ ts.keys (fup (fun n => V.bl (if n ∈ (ab ++ [x]).take j then false else ts.wait n)) y (.bl false)) = FD κ ts.keys fun n => .bl (if n ∈ (ab ++ [x]).take (j + 1) then false else ts.wait n) := FD.congr fun m _ => by
          rw [tk1]
          by_cases e : m = y
          · rw [e, fup_same, if_pos (by simp)]
          · rw [fup_ne _ _ e]
            by_cases e2 : m ∈ (ab ++ [x]).take j
            · rw [if_pos e2, if_pos (List.mem_append_left _ e2)]
            · rw [if_neg e2, if_neg (fun z => (List.mem_append.mp z).elim e2 fun z => e (List.mem_singleton.mp z))]
        rw [eW]
        have L5 := L4.set (i := 5) rfl (pl_FD (κ := κ) (ks := ts.keys) (f := fun n => V.bl (if n ∈ (ab ++ [x]).take (j + 1) then false else ts.wait n)))
        have t5 := t4.trans (L4.tk (i := 5) (u := FD κ ts.keys fun n => V.bl (if n ∈ (ab ++ [x]).take (j + 1) then false else ts.wait n)) rfl fun xs => FD_ne_tup)
        have z := Ech.app (NVs.tk hpv t5) (.one (hy.tk t5))
        rw [← tk1] at z
        exact ⟨_, by omega, j + 1, pv ++ [yv], sv.dropLast, rfl, rfl, hj2, t2.trans t5, L5, NVs.tk hsv t5, z⟩
    · obtain ⟨x1, hx1, x2, hx2, d, ds, h1, h2, h3, h4, b, h5, q⟩ := hq
      exact ⟨x1, hx1, x2, hx2, d, ds, h1, h2, h3, h4, b, h5, hm _ _ q⟩
  · refine k2 fun z => ?_
    rw [z] at e
    simp at e
end
end
end Bk
end
section
/-! strong_parts, joined. -/
namespace Bk
open PySem L2 LamX PySem.Spec PyProof.Rows
def fsum : List (Nd × Nat) → Nat
  | [] => 0
  | g :: r => (6 - g.2) + fsum r
theorem flat_len : ∀ {l : List (List Nd)}, (∀ p ∈ l, p ≠ []) → l.length ≤ l.flatten.length
  | [], _ => Nat.zero_le _
  | p :: l, h => by
    have h1 := flat_len (l := l) fun q hq => h q (List.mem_cons_of_mem _ hq)
    have h2 : 0 < p.length := List.length_pos_iff.mpr (h p List.mem_cons_self)
    rw [List.flatten_cons, List.length_append, List.length_cons]
    omega
theorem TarI.nodup {st : Nd → List Nd} {ns : List Nd} {s : TarS Nd} {Gs : List (Nd × Nat)} {pend : Option Nd} (I : TarI st ns s Gs pend) : s.stk.Nodup := I.stkOrd.imp fun {a b} h e => by
  subst e
  exact Nat.lt_irrefl _ h
theorem TarI.bounds {st : Nd → List Nd} {ns : List Nd} {s : TarS Nd} {Gs : List (Nd × Nat)} {pend : Option Nd} (I : TarI st ns s Gs pend) (h10 : ns.length ≤ 10) : s.keys.length ≤ 10 ∧ s.stk.length ≤ 10 ∧ s.fnd.length ≤ 10 ∧ Gs.length ≤ 10 := by
  have h1 := nd_le I.keysNd I.keysSub
  have h2 := nd_le I.nodup I.stkSub
  have h3 := nd_le I.fndNd (m := s.keys) fun x hx => by
    obtain ⟨p, hp, hx⟩ := List.mem_flatten.mp hx
    exact (I.fndKeys p hp x hx).1
  have h4 := flat_len I.fndNe
  have h5 : (Gs.map (·.1)).length ≤ s.stk.length := nd_le (List.pairwise_map.mpr (I.gOrd.imp fun {a b} h e => by
    rw [e] at h
    exact Nat.lt_irrefl _ h)) fun x hx => by
    obtain ⟨g, hg, rfl⟩ := List.mem_map.mp hx
    exact I.gStk g hg
  rw [List.length_map] at h5
  omega
theorem Loc.perm {T : List (Addr × Str)} {H0 H : Hp} {L M : List (Addr × HO)} (l : Loc T H0 L H) (h : L.Perm M) : Loc T H0 M H := ⟨l.g, (h.map _).nodup_iff.mp l.nd, fun p hp => l.fr p (h.mem_iff.mpr hp), fun p hp => l.at_ p (h.mem_iff.mpr hp), fun p hp => l.pl p (h.mem_iff.mpr hp)⟩
/-- the frames as the walk holds them -/
def frOf (Gs : List (Nd × Nat)) : Option Nd → List (Nd × Nat)
  | none => Gs
  | some y => (y, 0) :: Gs
def THr (T : List (Addr × Str)) (κ : Kd) (H0 : Hp) (Nm Lw Sk Wt Fn : Addr) (s : TarS Nd) (H : Hp) : Prop := ∃ sv fv, Loc T H0 [(Nm, FD κ s.keys fun n => .int (s.num n : Nat)), (Lw, FD κ s.keys fun n => .int (s.low n : Nat)), (Sk, .lst sv), (Wt, FD κ s.keys fun n => .bl (s.wait n)), (Fn, .lst fv)] H ∧
  NVs κ H sv s.stk.reverse ∧ Ech (PtV κ H) fv s.fnd
abbrev sb0 (t nd Nm Lw Sk Wt Fn Wk : Addr) (x7 x9 x10 x11 x12 : Option V) : L2.St := [some (.ref t), some (.ref nd), some (.ref Nm), some (.ref Lw), some (.ref Sk), some (.ref Wt), some (.ref Fn), x7, some (.ref Wk), x9, x10, x11, x12]
theorem THp.thr {T : List (Addr × Str)} {κ : Kd} {H0 : Hp} {Nm Lw Sk Wt Fn Wk : Addr} {s : TarS Nd} {fr : List (Nd × Nat)} {H : Hp} (h : THp T κ H0 Nm Lw Sk Wt Fn Wk s fr H) : THr T κ H0 Nm Lw Sk Wt Fn s H := by
  obtain ⟨wv, sv, fv, L, h1, h2, h3⟩ := h
  exact ⟨sv, fv, L.sub (.cons _ (List.Sublist.refl _)), h1, h2⟩
theorem walk_ok {T : List (Addr × Str)} {K : PySem.W.Frag} {t nd Nm Lw Sk Wt Fn Wk : Addr} {x7 x9 x10 x11 x12 : Option V} {κ : Kd} {H0 H : Hp} {st : Nd → List Nd} {ns : List Nd} {ts : TarS Nd} {D : Ends} {pend0 : Option Nd}
    (hS : StD κ K H0 nd ns st) (h10 : ns.length ≤ 10) (st5 : ∀ m, (st m).length ≤ 5) (hcl : ∀ m ∈ ns, ∀ y ∈ st m, y ∈ ns) (I0 : TarI st ns ts [] pend0) (hH : THp T κ H0 Nm Lw Sk Wt Fn Wk ts (frOf [] pend0) H)
    (k : ∀ s' H' x9 x10 x11 x12, TarI st ns s' [] none → THr T κ H0 Nm Lw Sk Wt Fn s' H' → (∀ y ∈ ts.keys, y ∈ s'.keys) → (∀ y, pend0 = some y → y ∈ s'.keys) → D.nx (sb0 t nd Nm Lw Sk Wt Fn Wk x7 x9 x10 x11 x12) H') :
    tWhile (tTest (tOp (rI0 fun i j => V.bl (decide (j < i))) (tLn K (tCons (tVar 8) tNil)) (tC (V.int 0)))) (tSeq (tAsg (tBM0 K "list" rPop (tVar 8)) (gTup K 2 (gCons (gName 9) (gCons (gName 10) gNil))))
      (tSeq (tIfS (tTest (tOp rEq (tVar 10) (tC (V.int 0)))) (tSeq (tAsg2 (tCB (rLenN κ) (tCons (tVar 2) tNil)) (gSub (tVar 2) (tVar 9) rSetD) (gSub (tVar 3) (tVar 9) rSetD)) (tSeq (tDrop (tBM K "list" rAppend (tVar 4) (tCons (tVar 9) tNil))) (sDPut (tVar 5) (tVar 9) (tC (V.bl true))))) tNext)
      (tSeq (tIfS (tTest (tOp (rI0 fun i j => V.bl (decide (i < j))) (tVar 10) (tLn K (tCons (tDGet (tVar 1) (tVar 9)) tNil)))) (tSeq (tDrop (tBM K "list" rAppend (tVar 8) (tCons (tTup (tCons (tVar 9) (tCons (tOp (rI0 fun i j => V.int (i + j)) (tVar 10) (tC (V.int 1))) tNil))) tNil))) (tSeq (tAsg (tOp (rIxL K) (tDGet (tVar 1) (tVar 9)) (tVar 10)) (gName 11)) (tSeq (tIfS (tB (tDNotIn (tVar 11) (tVar 2))) (tDrop (tBM K "list" rAppend (tVar 8) (tCons (tTup (tCons (tVar 11) (tCons (tC (V.int 0)) tNil))) tNil))) tNext) tCont))) tNext)
      (tSeq (tFor (iList K (tDGet (tVar 1) (tVar 9))) (gName 11) (tIfS (tB (tDGet (tVar 5) (tVar 11))) (sDPut (tVar 3) (tVar 9) (tCB (fun xs H Q => ∃ i j, xs = [V.int i, V.int j] ∧ Q (V.int (if j < i then j else i)) H) (tCons (tDGet (tVar 3) (tVar 9)) (tCons (tDGet (tVar 3) (tVar 11)) tNil)))) tNext))
      (tIfS (tTest (tOp rEq (tDGet (tVar 3) (tVar 9)) (tDGet (tVar 2) (tVar 9)))) (tSeq (tAsg (tLst tNil) (gName 12)) (tSeq (tWhile (tTest (tOp (rInX K true) (tVar 9) (tVar 12))) (tSeq (tDrop (tBM K "list" rAppend (tVar 12) (tCons (tBM0 K "list" rPop (tVar 4)) tNil))) (sDPut (tVar 5) (tOp (rIxL K) (tVar 12) (tUn (rU fun i => V.int (-i)) (tC (V.int 1)))) (tC (V.bl false))))) (tDrop (tBM K "list" rAppend (tVar 6) (tCons (tCB (fun xs H_1 Q => ∃ p ys, xs = [V.ref p] ∧ ((SqL K H_1 p ys ∧ ∀ (l : Addr), H_1 l = none → Q (V.ref l) (upd H_1 l (HO.tup ys))) ∨ SqT K H_1 p ys ∧ Q (V.ref p) H_1)) (tCons (tCB (rSortedD K (ndD κ)) (tCons (tVar 12) tNil)) tNil)) tNil))))) tNext))))) D (sb0 t nd Nm Lw Sk Wt Fn Wk x7 x9 x10 x11 x12) H := by
  refine while_m (fun m σ H2 => ∃ (s : TarS Nd) (Gs : List (Nd × Nat)) (pend : Option Nd) (x9 x10 x11 x12 : Option V), σ = sb0 t nd Nm Lw Sk Wt Fn Wk x7 x9 x10 x11 x12 ∧ m = 9 * (10 - s.keys.length) + fsum Gs ∧ TarI st ns s Gs pend ∧ (∀ g ∈ Gs, 1 ≤ g.2) ∧ THp T κ H0 Nm Lw Sk Wt Fn Wk s (frOf Gs pend) H2 ∧
    (∀ y ∈ ts.keys, y ∈ s.keys) ∧ ∀ y, pend0 = some y → y ∈ s.keys ∨ pend = some y) ?_ (fun m σ H2 hp => ?_) (fun σ H2 Q1 Q2 hm hq => ?_)
  · exact ⟨_, ts, [], pend0, x9, x10, x11, x12, rfl, rfl, I0, fun g hg => by simp at hg, hH, fun y hy => hy, fun y e => .inr e⟩
  · obtain ⟨s, Gs, pend, x9, x10, x11, x12, rfl, rfl, I, hG1, hH, kk, kp⟩ := hp
    obtain ⟨b1, b2, b3, b4⟩ := I.bounds h10
    obtain ⟨wv, sv, fv, L, hsv, hfv, hwv⟩ := hH
    refine ⟨_, rfl, Wk, wv, rfl, .inl (SqL.of (L.get (i := 0) rfl)), _, _, rfl, rfl, _, rfl, ?_⟩
    have hwl := hwv.1
    rw [List.length_reverse] at hwl
    cases hfr : frOf Gs pend with
    | nil =>
      rw [hfr] at hwl
      have : decide ((0 : Int) < (wv.length : Nat)) = false := by rw [hwl]; rfl
      rw [this]
      refine iteF ?_
      have hp0 : pend = none := by
        cases pend with
        | none => rfl
        | some y => cases hfr
      subst hp0
      have hg0 : Gs = [] := hfr
      subst hg0
      exact k s H2 x9 x10 x11 x12 I (THp.thr ⟨wv, sv, fv, L, hsv, hfv, hwv⟩) kk fun y e => (kp y e).elim id fun z => by cases z
    | cons g fr =>
      rw [hfr] at hwl hwv
      have : decide ((0 : Int) < (wv.length : Nat)) = true := by rw [hwl]; exact decide_eq_true (by rw [List.length_cons]; omega)
      rw [this]
      refine iteT ?_
      rw [List.reverse_cons] at hwv
      obtain ⟨v, ev, ⟨b, u, rfl, hb, hu⟩, hwv⟩ := hwv.pop
      refine ⟨_, rfl, .inl ⟨rfl, _, SqL.of (L.get (i := 0) rfl)⟩, Wk, wv, _, rfl, rfl, L.get (i := 0) rfl, ev, ?_⟩
      have t1 := L.tk (i := 0) (u := .lst wv.dropLast) rfl lst_ne_tup
      have L1 := L.set (i := 0) rfl (pl_lst (xs := wv.dropLast))
      have hH1 : THp T κ H0 Nm Lw Sk Wt Fn Wk s fr (upd H2 Wk (.lst wv.dropLast)) := ⟨wv.dropLast, sv, fv, L1, hsv.tk t1, Ech.mono hfv fun _ _ q => PtV.tk q t1, Ech.mono hwv fun _ _ q => WkV.tk q t1⟩
      have hb1 := t1 _ _ hb
      have hu1 := hu.tk t1
      generalize upd H2 Wk (.lst wv.dropLast) = H3 at hH1 hb1 hu1
      clear L L1 hwv hsv hfv
      obtain ⟨x, a⟩ := g
      refine ⟨b, _, rfl, SqT.of hb1, rfl, _, _, rfl, _, _, rfl, rfl, ?_⟩
      have okn : ∀ {s : TarS Nd} {Gs : List (Nd × Nat)} {pend : Option Nd}, TarI st ns s Gs pend → ∀ m ∈ s.keys, Okn κ m := fun I m hm => by
        obtain ⟨f, _, g2, _⟩ := hS
        exact g2 m (I.keysSub m hm)
      -- what is so once the top is named
      have mid : TarI st ns (if a = 0 then s.disc x else s) ((x, a) :: fr) none ∧ (∀ g ∈ fr, 1 ≤ g.2) ∧ (a = 0 → x ∉ s.keys) ∧ 9 * (10 - (if a = 0 then s.disc x else s).keys.length) + fsum ((x, a) :: fr) ≤ 9 * (10 - s.keys.length) + fsum Gs ∧ (∀ y ∈ s.keys, y ∈ (if a = 0 then s.disc x else s).keys) ∧ ∀ y, pend = some y → y ∈ (if a = 0 then s.disc x else s).keys := by
        cases pend with
        | none =>
          have hfr : Gs = (x, a) :: fr := hfr
          subst hfr
          have a1 : 1 ≤ a := hG1 (x, a) List.mem_cons_self
          have an : ¬ a = 0 := by omega
          simp only [if_neg an]
          exact ⟨I, fun g hg => hG1 g (List.mem_cons_of_mem _ hg), fun e => absurd e an, Nat.le_refl _, fun y hy => hy, fun y e => by cases e⟩
        | some y =>
          have hfr : (y, 0) :: Gs = (x, a) :: fr := hfr
          cases hfr
          have I2 := I.disc
          have hb := (I2.bounds h10).1
          simp only [if_pos]
          refine ⟨I2, hG1, fun _ => (I.pendOk x rfl).1, ?_, fun z hz => List.mem_append_left _ hz, fun z e => by cases e; exact List.mem_append_right _ (by simp)⟩
          have hk : (s.disc x).keys.length = s.keys.length + 1 := by
            show (s.keys ++ [x]).length = _
            rw [List.length_append]
            rfl
          show 9 * (10 - (s.disc x).keys.length) + ((6 - 0) + fsum Gs) ≤ _
          omega
      obtain ⟨I1, hG1', ha0, hm1, hk1, hp1⟩ := mid
      refine disc_ok (x := x) (a := a) hH1 hu1 (okn I) ha0 b1 b2 fun H4 hH4 hu4 => ?_
      generalize (if a = 0 then s.disc x else s) = s1 at I1 hm1 hk1 hp1 hH4
      obtain ⟨c1, c2, c3, c4⟩ := I1.bounds h10
      have xs : x ∈ s1.stk := I1.gStk (x, a) List.mem_cons_self
      have xk : x ∈ s1.keys := I1.stkSub x xs
      have xn : x ∈ ns := I1.keysSub x xk
      have kk' : ∀ y ∈ ts.keys, y ∈ s1.keys := fun y hy => hk1 y (kk y hy)
      have kp' : ∀ y, pend0 = some y → y ∈ s1.keys := fun y e => (kp y e).elim (hk1 y) (hp1 y)
      have al := I1.gAt (x, a) List.mem_cons_self
      have al : a ≤ (st x).length := al
      have s5 := st5 x
      refine next_ok hS hH4 hu4 xn (okn I1) (by rw [List.length_cons] at c4; omega) s5 (fun y ey H5 x11' hH5 => ?_) fun hle => ?_
      · have lt := (List.getElem?_eq_some_iff.mp ey).1
        have hyn : y ∈ ns := hcl x xn y (List.mem_of_getElem? ey)
        have In : TarI st ns s1 ((x, a + 1) :: fr) (if y ∈ s1.keys then none else some y) := by
          have z := I1.next ey hyn
          by_cases hy : y ∈ s1.keys
          · rw [if_pos hy] at z ⊢
            exact z
          · rw [if_neg hy] at z ⊢
            exact z
        refine ⟨9 * (10 - s1.keys.length) + fsum ((x, a + 1) :: fr), ?_, s1, (x, a + 1) :: fr, (if y ∈ s1.keys then none else some y), some u, some (.int (a : Nat)), x11', x12, rfl, rfl, In, fun g hg => ?_, ?_, kk', fun z e => .inl (kp' z e)⟩
        · show 9 * (10 - s1.keys.length) + ((6 - (a + 1)) + fsum fr) < _
          have hm1 : 9 * (10 - s1.keys.length) + ((6 - a) + fsum fr) ≤ 9 * (10 - s.keys.length) + fsum Gs := hm1
          omega
        · rcases List.mem_cons.mp hg with e | hg
          · rw [e]; exact Nat.succ_le_succ (Nat.zero_le _)
          · exact hG1' g hg
        · by_cases hy : y ∈ s1.keys
          · rw [if_pos hy] at hH5 ⊢
            exact hH5
          · rw [if_neg hy] at hH5 ⊢
            exact hH5
      · refine fold_ok hS hH4 hu4 xn (okn I1) xk (I1.xkeys hle) c1 fun H5 x11' hH5 hu5 => ?_
        have Fn1 := I1.fin1 hle
        obtain ⟨ab, rest, e⟩ := List.append_of_mem xs
        have xab : x ∉ ab := fun h => by
          have nd := I1.nodup
          rw [e] at nd
          exact (List.nodup_append.mp nd).2.2 x h x List.mem_cons_self rfl
        refine pop_ok (ab := ab) (rest := rest) hH5 hu5 (fun m hm => okn I1 m hm) xk c1 e xab I1.stkSub c2 c3 (fun er H6 x12' p hp hH6 => ?_) fun er => ?_
        · have er : lowF (st := st) s1 x = s1.num x := by
            have er : fup s1.low x (lowF (st := st) s1 x) x = s1.num x := er
            rwa [fup_same] at er
          refine ⟨9 * (10 - s1.keys.length) + fsum fr, ?_, (lowAt s1 x (lowF (st := st) s1 x)).pop (ab ++ [x]) rest p, fr, none, _, _, _, _, rfl, rfl, I1.pop hle Fn1 er e hp, hG1', hH6, kk', fun z e => .inl (kp' z e)⟩
          have hm1 : 9 * (10 - s1.keys.length) + ((6 - a) + fsum fr) ≤ 9 * (10 - s.keys.length) + fsum Gs := hm1
          omega
        · have er : lowF (st := st) s1 x ≠ s1.num x := fun z => er (by
            show fup s1.low x (lowF (st := st) s1 x) x = s1.num x
            rw [fup_same]
            exact z)
          refine ⟨9 * (10 - s1.keys.length) + fsum fr, ?_, lowAt s1 x (lowF (st := st) s1 x), fr, none, _, _, _, _, rfl, rfl, I1.stay hle Fn1 er, hG1', hH5, kk', fun z e => .inl (kp' z e)⟩
          have hm1 : 9 * (10 - s1.keys.length) + ((6 - a) + fsum fr) ≤ 9 * (10 - s.keys.length) + fsum Gs := hm1
          omega
  · obtain ⟨x1, hx1, p, ys, e0, e00, i, j, e1, e2, b, e3, q⟩ := hq
    exact ⟨x1, hx1, p, ys, e0, e00, i, j, e1, e2, b, e3, hm _ _ q⟩
section
variable {P : Program} {w : World} {K : PySem.W.Frag} {mg : Str → Option Value} {base : Heap} {T : List (Addr × Str)}
theorem ok_strong {f : Addr} {fd : FuncData} (F : Fun K "strong_parts" "strong_parts" sStrong f fd) (B : Bt mg) : FnOk P w K mg base CX0 1 f fd ["nodes", "steps"] (spStrong T K) := by
  refine F.ok scStrong (fun vs H Q E h => ?_) (fun cdv A outer s H vs Q E hr h => ?_)
  · obtain ⟨κ, t, nd, nvs, ns, st, rfl, _⟩ := h
    rfl
  · obtain ⟨κ, t, nd, nvs, ns, st, rfl, ht, hnv, hnd, h10, hS, st5, hcl, k⟩ := h
    have u1 := hu1 hr
    refine ⟨_, pss_cons (ps_set (i := 2) scStrong.nd rfl (Or.inl rfl) (pe_dnewN κ))
      (pss_cons (ps_set (i := 3) scStrong.nd rfl (Or.inl rfl) (pe_dnewN κ))
      (pss_cons (ps_set (i := 4) scStrong.nd rfl (Or.inl rfl) (pe_lst pa_nil))
      (pss_cons (ps_set (i := 5) scStrong.nd rfl (Or.inl rfl) (pe_dnewN κ))
      (pss_cons (ps_set (i := 6) scStrong.nd rfl (Or.inl rfl) (pe_lst pa_nil))
      (pss_cons (ps_for PassesOwn.never rfl (pi_tup (pv 0)) (pg_name (i := 7) scStrong.nd rfl (Or.inl rfl))
        (pss_cons (ps_set (i := 8) scStrong.nd rfl (Or.inl rfl) (pe_ifExp (pt_cmp (pc_dnotin u1 (pv 7) (pv 2))) (pe_lst (pa_cons (pe_tup (pa_cons (pv 7) (pa_cons pe_int pa_nil))) pa_nil)) (pe_lst pa_nil)))
        (pss_one (ps_while PassesOwn.never (pt_cmpR op_gt (pe_callB call_len_seq (by rfl) B.len (by decide +kernel) (pa_cons (pv 8) pa_nil)) pe_int (nomark _))
          (pss_cons (ps_asg (pe_bm0 PySem.F.plainAttrs_list PySem.F.slot_list_pop PySem.F.type_list_pop mt_pop (pv 8)) (pg_tup rfl (pgs_cons (pg_name (i := 9) scStrong.nd rfl (Or.inl rfl)) (pgs_cons (pg_name (i := 10) scStrong.nd rfl (Or.inl rfl)) pgs_nil))))
          (pss_cons (ps_if (pt_cmpR op_eq (pv 10) pe_int (nomark _))
            (pss_cons (ps_asg2 (pe_callB (call_lenN κ) (by rfl) B.len PySem.boot_len (pa_cons (pv 2) pa_nil)) (pg_sub (pv 2) (pv 9) (set_dict u1)) (pg_sub (pv 3) (pv 9) (set_dict u1)))
            (pss_cons (ps_expr (pe_bm PySem.F.plainAttrs_list PySem.F.slot_list_append PySem.F.type_list_append mt_append (pv 4) (pa_cons (pv 9) pa_nil)))
            (pss_one (ps_dput u1 (pv 5) (pv 9) pe_bl rfl)))) pss_nil)
          (pss_cons (ps_if (pt_cmpR op_lt (pv 10) (pe_callB call_len_seq (by rfl) B.len (by decide +kernel) (pa_cons (pe_dget u1 (pv 1) (pv 9) (fun _ _ => rfl)) pa_nil)) (nomark _))
            (pss_cons (ps_expr (pe_bm PySem.F.plainAttrs_list PySem.F.slot_list_append PySem.F.type_list_append mt_append (pv 8) (pa_cons (pe_tup (pa_cons (pv 9) (pa_cons (pe_op op_add (pv 10) pe_int) pa_nil))) pa_nil)))
            (pss_cons (ps_set (i := 11) scStrong.nd rfl (Or.inl rfl) (pe_ix ix_list (pe_dget u1 (pv 1) (pv 9) (fun _ _ => rfl)) (pv 10) (fun _ _ => rfl)))
            (pss_cons (ps_if (pt_cmp (pc_dnotin u1 (pv 11) (pv 2))) (pss_one (ps_expr (pe_bm PySem.F.plainAttrs_list PySem.F.slot_list_append PySem.F.type_list_append mt_append (pv 8) (pa_cons (pe_tup (pa_cons (pv 11) (pa_cons pe_int pa_nil))) pa_nil)))) pss_nil)
            (pss_one ps_continue)))) pss_nil)
          (pss_cons (ps_for PassesOwn.never rfl (pi_list (pe_dget u1 (pv 1) (pv 9) (fun _ _ => rfl))) (pg_name (i := 11) scStrong.nd rfl (Or.inl rfl))
            (pss_one (ps_if (pt_val (pe_dget u1 (pv 5) (pv 11) (fun _ _ => rfl)))
              (pss_one (ps_dput u1 (pv 3) (pv 9) (pe_callB (call_min2 rfl) (by rfl) B.min (by decide +kernel) (pa_cons (pe_dget u1 (pv 3) (pv 9) (fun _ _ => rfl)) (pa_cons (pe_dget u1 (pv 3) (pv 11) (fun _ _ => rfl)) pa_nil))) rfl)) pss_nil)))
          (pss_one (ps_if (pt_cmpR op_eq (pe_dget u1 (pv 3) (pv 9) (fun _ _ => rfl)) (pe_dget u1 (pv 2) (pv 9) (fun _ _ => rfl)) (nomark _))
            (pss_cons (ps_set (i := 12) scStrong.nd rfl (Or.inl rfl) (pe_lst pa_nil))
            (pss_cons (ps_while PassesOwn.never (pt_cmpR (op_notInX (hu65 hr)) (pv 9) (pv 12) rfl)
              (pss_cons (ps_expr (pe_bm PySem.F.plainAttrs_list PySem.F.slot_list_append PySem.F.type_list_append mt_append (pv 12) (pa_cons (pe_bm0 PySem.F.plainAttrs_list PySem.F.slot_list_pop PySem.F.type_list_pop mt_pop (pv 4)) pa_nil)))
              (pss_one (ps_dput u1 (pv 5) (pe_ix ix_list (pv 12) (pe_un un_neg pe_int) (fun _ _ => rfl)) pe_bl rfl))))
            (pss_one (ps_expr (pe_bm PySem.F.plainAttrs_list PySem.F.slot_list_append PySem.F.type_list_append mt_append (pv 6) (pa_cons (pe_callTy call_tuple_of (by rfl) B.tuple (by decide +kernel) (pa_cons (pe_callB (cr_sortedD (ndD κ) (hu70 hr)) (by rfl) B.sorted (by decide +kernel) (pa_cons (pv 12) pa_nil)) pa_nil)) pa_nil)))))) pss_nil))))))))))
      (pss_one (ps_ret (pv 6)))))))), ?_⟩
    intro Nm hNm
    have L1 : Loc T H _ (upd H Nm (FD κ [] fun _ => .non)) := Loc.start.new hNm pl_FD
    intro Lw hLw
    have L2 := L1.new hLw (pl_FD (κ := κ) (ks := []) (f := fun _ => .non))
    refine ⟨Nat.zero_le _, fun Sk hSk => ?_⟩
    have L3 := L2.new hSk (pl_lst (xs := []))
    intro Wt hWt
    have L4 := L3.new hWt (pl_FD (κ := κ) (ks := []) (f := fun _ => .non))
    refine ⟨Nat.zero_le _, fun Fn hFn => ?_⟩
    have L5 := L4.new hFn (pl_lst (xs := []))
    generalize upd (upd (upd (upd (upd H Nm (FD κ [] fun _ => V.non)) Lw (FD κ [] fun _ => V.non)) Sk (HO.lst [])) Wt (FD κ [] fun _ => V.non)) Fn (HO.lst []) = H5 at L5
    have R0 : THr T κ H Nm Lw Sk Wt Fn TarS.start H5 := by
      refine ⟨[], [], ?_, .nil, .nil⟩
      have e1 : (FD κ ([] : List Nd) fun n => V.int ((TarS.start : TarS Nd).num n : Nat)) = FD κ [] fun _ => .non := FD.congr fun m hm => by simp at hm
      have e2 : (FD κ ([] : List Nd) fun n => V.int ((TarS.start : TarS Nd).low n : Nat)) = FD κ [] fun _ => .non := FD.congr fun m hm => by simp at hm
      have e3 : (FD κ ([] : List Nd) fun n => V.bl ((TarS.start : TarS Nd).wait n)) = FD κ [] fun _ => .non := FD.congr fun m hm => by simp at hm
      show Loc T H [(Nm, FD κ [] fun n => V.int ((TarS.start : TarS Nd).num n : Nat)), (Lw, FD κ [] fun n => V.int ((TarS.start : TarS Nd).low n : Nat)), (Sk, .lst []), (Wt, FD κ [] fun n => V.bl ((TarS.start : TarS Nd).wait n)), (Fn, .lst [])] H5
      rw [e1, e2, e3]
      exact L5.perm (List.reverse_perm _).symm
    refine ⟨_, rfl, t, rfl, ⟨_, L5.g.sqT ht⟩, ?_⟩
    refine for_it (walk_tup (xs := nvs)) (fun i σ H2 => ∃ s x7 x8 x9 x10 x11 x12, σ = [some (.ref t), some (.ref nd), some (.ref Nm), some (.ref Lw), some (.ref Sk), some (.ref Wt), some (.ref Fn), x7, x8, x9, x10, x11, x12] ∧ TarI st ns s [] none ∧ THr T κ H Nm Lw Sk Wt Fn s H2 ∧ ∀ y ∈ ns.take i, y ∈ s.keys) ?_ (fun i σ H2 hi hp => ?_) (fun i v σ H2 H3 hi hp hy => ?_) fun σ H2 hp => ?_
    · exact ⟨TarS.start, none, none, none, none, none, none, rfl, TarI.start, R0, fun y hy => by simp at hy⟩
    · obtain ⟨s, x7, x8, x9, x10, x11, x12, rfl, I, ⟨sv, fv, L, _⟩, _⟩ := hp
      exact L.g.sqT ht
    · obtain ⟨s, x7, x8, x9, x10, x11, x12, rfl, I, ⟨sv, fv, L, hsv, hfv⟩, hk⟩ := hp
      obtain ⟨rfl, ev⟩ := hy
      obtain ⟨z, ez, hz⟩ := hnv.2 i v ev
      have hz2 := hz.gr L.g
      have okn : ∀ {s : TarS Nd} {Gs : List (Nd × Nat)} {pend : Option Nd}, TarI st ns s Gs pend → ∀ m ∈ s.keys, Okn κ m := fun I m hm => by
        obtain ⟨f, _, g2, _⟩ := hS
        exact g2 m (I.keysSub m hm)
      have hzn : z ∈ ns := List.mem_of_getElem? ez
      refine ⟨_, rfl, _, rfl, Nm, _, rfl, fd_get (.inl (L.get (i := 0) rfl)) (okn I) hz2, _, rfl, ?_⟩
      have fin : ∀ (s' : TarS Nd), (∀ y ∈ s.keys, y ∈ s'.keys) → z ∈ s'.keys → ∀ y ∈ ns.take (i + 1), y ∈ s'.keys := fun s' kk hz' y hy => by
        rw [take_snoc ez] at hy
        rcases List.mem_append.mp hy with h | h
        · exact kk y (hk y h)
        · rw [List.mem_singleton.mp h]
          exact hz'
      by_cases hm : z ∈ s.keys
      · rw [if_pos hm]
        refine iteF ⟨Nat.zero_le _, fun Wk hWk => ?_⟩
        have L1 := L.new hWk (pl_lst (xs := []))
        have t1 : TupK H3 (upd H3 Wk (.lst [])) := .new hWk
        refine walk_ok (pend0 := none) hS h10 st5 hcl I ⟨[], sv, fv, L1, hsv.tk t1, Ech.mono hfv fun _ _ q => PtV.tk q t1, .nil⟩ fun s' H' x9 x10 x11 x12 I' h' kk _ => ?_
        exact ⟨s', _, _, _, _, _, _, rfl, I', h', fin s' kk (kk z hm)⟩
      · rw [if_neg hm]
        refine iteT ⟨_, rfl, by show 2 ≤ sizeLine; decide, fun B0 hB0 => ?_⟩
        have L0 := L.mono (Gr.new (o := .tup [v, .int 0]) hB0)
        have t0 : TupK H3 (upd H3 B0 (.tup [v, .int 0])) := .new hB0
        have w0 : WkV κ (upd H3 B0 (.tup [v, .int 0])) (.ref B0) (z, 0) := ⟨B0, v, rfl, upd_same, hz2.tk t0⟩
        generalize upd H3 B0 (.tup [v, .int 0]) = H4 at L0 t0 w0
        refine ⟨by show 1 ≤ sizeLine; decide, fun Wk hWk => ?_⟩
        have L1 := L0.new hWk (pl_lst (xs := [.ref B0]))
        have t01 : TupK H4 (upd H4 Wk (.lst [.ref B0])) := .new hWk
        have t1 := t0.trans t01
        refine walk_ok (pend0 := some z) hS h10 st5 hcl (I.root hm hzn) ⟨[.ref B0], sv, fv, L1, hsv.tk t1, Ech.mono hfv fun _ _ q => PtV.tk q t1, .one (w0.tk t01)⟩ fun s' H' x9 x10 x11 x12 I' h' kk kp => ?_
        exact ⟨s', _, _, _, _, _, _, rfl, I', h', fin s' kk (kp z rfl)⟩
    · obtain ⟨s, x7, x8, x9, x10, x11, x12, rfl, I, ⟨sv, fv, L, hsv, hfv⟩, hk⟩ := hp
      rw [hnv.1, List.take_length] at hk
      refine ⟨_, rfl, ?_⟩
      exact k Fn H2 fv s.fnd (L.frs (i := 4) rfl) (L.get (i := 4) rfl) L.g hfv (I.parts hk)
end
end Bk
end
section
/-! numbered_parts: its blocks. -/
namespace Bk
open PySem L2 LamX PySem.Spec PyProof.Rows
/-- the place of x's part -/
def hmv (ps : List (List Nd)) (x : Nd) : Nat := ps.findIdx fun p => decide (x ∈ p)
theorem hm_at {st : Nd → List Nd} {ns : List Nd} {ps : List (List Nd)} (P : Parts st ns ps) {i : Nat} {p : List Nd} {x : Nd} (h : ps[i]? = some p) (hx : x ∈ p) : hmv ps x = i := by
  have hl : hmv ps x < ps.length := List.findIdx_lt_length_of_exists ⟨p, List.mem_of_getElem? h, decide_eq_true hx⟩
  have h2 := List.findIdx_getElem (p := fun p => decide (x ∈ p)) (w := hl)
  exact P.uniq (List.getElem?_eq_getElem hl) h (of_decide_eq_true h2) hx
theorem hm_lt {st : Nd → List Nd} {ns : List Nd} {ps : List (List Nd)} (P : Parts st ns ps) {x : Nd} (h : x ∈ ns) : ∃ p, ps[hmv ps x]? = some p ∧ x ∈ p := by
  obtain ⟨p, hp, hx⟩ := (P.all x).mp h
  obtain ⟨i, hi, e⟩ := List.mem_iff_getElem.mp hp
  have e' : ps[i]? = some p := by rw [List.getElem?_eq_getElem hi, e]
  rw [hm_at P e' hx]
  exact ⟨p, e', hx⟩
theorem flat_take {ps : List (List Nd)} {i j : Nat} {p : List Nd} {x : Nd} (h : ps[i]? = some p) (hx : p[j]? = some x) (nd : ps.flatten.Nodup) : x ∉ (ps.take i).flatten ++ p.take j := by
  have hs : ps = ps.take i ++ p :: ps.drop (i + 1) := by
    have hi := (List.getElem?_eq_some_iff.mp h).1
    have := List.drop_eq_getElem_cons hi
    rw [(List.getElem?_eq_some_iff.mp h).2] at this
    rw [← this, List.take_append_drop]
  have hp : p = p.take j ++ x :: p.drop (j + 1) := by
    have hj := (List.getElem?_eq_some_iff.mp hx).1
    have := List.drop_eq_getElem_cons hj
    rw [(List.getElem?_eq_some_iff.mp hx).2] at this
    rw [← this, List.take_append_drop]
  intro hm
  have e : ps.flatten = ((ps.take i).flatten ++ p.take j) ++ x :: (p.drop (j + 1) ++ (ps.drop (i + 1)).flatten) := by
    conv => lhs; rw [hs]
    rw [List.flatten_append, List.flatten_cons]
    conv => lhs; rw [hp]
    simp [List.append_assoc]
  rw [e] at nd
  exact (List.nodup_append.mp nd).2.2 x hm x List.mem_cons_self rfl
section
variable {K : PySem.W.Frag} {T : List (Addr × Str)} {κ : Kd} {st : Nd → List Nd} {ns : List Nd} {ps : List (List Nd)} {l nd : Addr} {pvs : List V} {H0 : Hp}
theorem flat_le (P : Parts st ns ps) (h10 : ns.length ≤ 10) : ps.flatten.length ≤ 10 := Nat.le_trans (nd_le P.nd fun x hx => by
  obtain ⟨p, hp, hx⟩ := List.mem_flatten.mp hx
  exact (P.all x).mpr ⟨p, hp, hx⟩) h10
theorem home_ok {x2 x3 x4 x5 x6 x7 x8 x9 x10 x11 x12 x13 x14 : Option V} {Q : VK} (P : Parts st ns ps) (h10 : ns.length ≤ 10) (okn : ∀ m ∈ ns, Okn κ m) (hl : SqL K H0 l pvs) (hpv : Ech (PtV κ H0) pvs ps) (k : ∀ D H', Loc T H0 [(D, FD κ ps.flatten fun x => .int (hmv ps x : Nat))] H' → Q (.ref D) H') :
    tGa (iEnum K (tCons (tVar 0) tNil)) (fun x => FD κ [] fun x => V.non) (gTup K 2 (gCons (gName 5) (gCons (gName 6) gNil))) tYes (fun D σ H Q => wipe σ [12] = σ ∧ iTup K (tVar 6) σ H fun J H1 => Lp J (gName 12) tYes (tDcA D (tVar 12) (tVar 5)) [12] σ H1 Q) [5, 6, 12]
      [some (.ref l), some (.ref nd), x2, x3, x4, x5, x6, x7, x8, x9, x10, x11, x12, x13, x14] H0 Q := by
  refine ⟨_, rfl, l, pvs, rfl, hl, fun D hD => ?_⟩
  refine lp_it (walk_enum (xs := pvs)) (fun i H => Loc T H0 [(D, FD κ (ps.take i).flatten fun x => .int (hmv ps x : Nat))] H) ?_ (fun i H hi p => p.g.sqL hl) (fun i v H H' hi p y => ?_) fun H p => ?_
  · have e : FD κ ([] : List (List Nd)).flatten (fun x => .int (hmv ps x : Nat)) = FD κ [] fun _ => .non := FD.congr fun m hm => by simp at hm
    show Loc T H0 [(D, FD κ ([] : List (List Nd)).flatten fun x => .int (hmv ps x : Nat))] _
    rw [e]
    exact Loc.start.new hD pl_FD
  · obtain ⟨Tt, x, z, rfl, hT, rfl, ex, ez⟩ := y
    cases ex
    obtain ⟨p', ep, b, vs, rfl, hb, hvs⟩ := hpv.2 i z ez
    have L1 := p.mono (Gr.new (o := .tup [.int (i : Nat), .ref b]) hT)
    have hT2 : (upd H Tt (.tup [.int (i : Nat), .ref b])) Tt = some (.tup [.int (i : Nat), .ref b]) := upd_same
    generalize upd H Tt (.tup [.int (i : Nat), .ref b]) = H1 at L1 hT2
    refine ⟨Tt, _, rfl, SqT.of hT2, rfl, _, _, rfl, _, _, rfl, rfl, rfl, rfl, _, rfl, b, rfl, ⟨_, SqT.of (L1.g.tup hb)⟩, ?_⟩
    refine lp_it (walk_tup (xs := vs)) (fun j H => Loc T H0 [(D, FD κ ((ps.take i).flatten ++ p'.take j) fun x => .int (hmv ps x : Nat))] H) ?_ (fun j H hj p => SqT.of (p.g.tup hb)) (fun j v H H' hj p y => ?_) fun H p => ?_
    · rw [List.take_zero, List.append_nil]
      exact L1
    · obtain ⟨rfl, ey⟩ := y
      obtain ⟨x, ex, hx⟩ := hvs.2 j v ey
      have nx := flat_take ep ex P.nd
      have sub : ∀ m ∈ (ps.take i).flatten ++ p'.take j, m ∈ ps.flatten := fun m hm => by
        rcases List.mem_append.mp hm with h | h
        · obtain ⟨q, hq, hm⟩ := List.mem_flatten.mp h
          exact List.mem_flatten.mpr ⟨q, List.mem_of_mem_take hq, hm⟩
        · exact List.mem_flatten.mpr ⟨p', List.mem_of_getElem? ep, List.mem_of_mem_take h⟩
      have ins : ∀ m ∈ ps.flatten, m ∈ ns := fun m hm => by
        obtain ⟨q, hq, hm⟩ := List.mem_flatten.mp hm
        exact (P.all m).mpr ⟨q, hq, hm⟩
      have len : ((ps.take i).flatten ++ p'.take j).length ≤ 10 := by
        refine Nat.le_trans (nd_le (m := ps.flatten) ?_ sub) (flat_le P h10)
        have h1 := P.nd
        have hi' := (List.getElem?_eq_some_iff.mp ep).1
        have e1 : ps = ps.take i ++ p' :: ps.drop (i + 1) := by
          have := List.drop_eq_getElem_cons hi'
          rw [(List.getElem?_eq_some_iff.mp ep).2] at this
          rw [← this, List.take_append_drop]
        rw [e1, List.flatten_append, List.flatten_cons, ← List.append_assoc] at h1
        have h2 := (List.nodup_append.mp h1).1
        refine h2.sublist ((List.Sublist.refl _).append (List.take_sublist _ _))
      refine ⟨rfl, _, rfl, _, rfl, _, fd_put (p.get (i := 0) rfl) (fun m hm => okn m (ins m (sub m hm))) (hx.gr p.g) (lt_line (by omega)), ?_⟩
      rw [if_neg nx]
      have e2 : FD κ ((ps.take i).flatten ++ p'.take j ++ [x]) (fup (fun x => V.int (hmv ps x : Nat)) x (.int (i : Nat))) = FD κ ((ps.take i).flatten ++ p'.take (j + 1)) fun x => .int (hmv ps x : Nat) := by
        rw [take_snoc ex, List.append_assoc]
        refine FD.congr fun m hm => ?_
        by_cases e : m = x
        · rw [e, fup_same, hm_at P ep (List.mem_of_getElem? ex)]
        · rw [fup_ne _ _ e]
      rw [e2]
      exact p.set (i := 0) rfl pl_FD
    · rw [hvs.1, List.take_length] at p
      rw [take_snoc ep, List.flatten_append, List.flatten_cons, List.flatten_nil, List.append_nil]
      exact p
  · rw [hpv.1, List.take_length] at p
    exact k D H p
/-! the lists of users -/
def UE (n : Nat) (ua : Nat → Addr) (us : Nat → List Nat) : List (Addr × HO) := (List.range n).map fun i => (ua i, .lst ((us i).map fun (k : Nat) => V.int (k : Int)))
def RF (n : Nat) (ua : Nat → Addr) : List V := (List.range n).map fun i => V.ref (ua i)
theorem UE_at {n i : Nat} {ua : Nat → Addr} {us : Nat → List Nat} {L : List (Addr × HO)} (h : i < n) : (L ++ UE n ua us)[L.length + i]? = some (ua i, .lst ((us i).map fun (k : Nat) => V.int (k : Int))) := by
  rw [List.getElem?_append_right (by omega), Nat.add_sub_cancel_left]
  unfold UE
  rw [List.getElem?_map, List.getElem?_range h]
  rfl
theorem UE_set {n i : Nat} {ua : Nat → Addr} {us : Nat → List Nat} {L : List (Addr × HO)} {l : List Nat} (h : i < n) : (L ++ UE n ua us).set (L.length + i) (ua i, .lst (l.map fun (k : Nat) => V.int (k : Int))) = L ++ UE n ua (fun j => if j = i then l else us j) := by
  rw [List.set_append_right _ _ (by omega), Nat.add_sub_cancel_left]
  congr 1
  unfold UE
  refine List.ext_getElem? fun j => ?_
  rw [List.getElem?_set, List.getElem?_map, List.getElem?_map, List.length_map, List.length_range]
  by_cases e : i = j
  · subst e
    rw [if_pos rfl, if_pos h, List.getElem?_range h]
    simp
  · rw [if_neg e]
    by_cases hj : j < n
    · rw [List.getElem?_range hj]
      simp [Ne.symm e]
    · rw [List.getElem?_eq_none (by simpa using hj)]
      rfl
theorem UE_len {n : Nat} {ua : Nat → Addr} {us : Nat → List Nat} : (UE n ua us).length = n := by simp [UE]
theorem RF_at {n i : Nat} {ua : Nat → Addr} (h : i < n) : (RF n ua)[i]? = some (.ref (ua i)) := by
  unfold RF
  rw [List.getElem?_map, List.getElem?_range h]
  rfl
theorem UE_snoc {n : Nat} {ua : Nat → Addr} {us : Nat → List Nat} {E : Addr} {l : List Nat} : UE (n + 1) (fun j => if j = n then E else ua j) (fun j => if j = n then l else us j) = UE n ua us ++ [(E, .lst (l.map fun (k : Nat) => V.int (k : Int)))] := by
  unfold UE
  rw [List.range_succ, List.map_append]
  congr 1
  · refine List.map_congr_left fun j hj => ?_
    have : j ≠ n := by have := List.mem_range.mp hj; omega
    simp only [if_neg this]
  · simp
theorem RF_snoc {n : Nat} {ua : Nat → Addr} {E : Addr} : RF (n + 1) (fun j => if j = n then E else ua j) = RF n ua ++ [.ref E] := by
  unfold RF
  rw [List.range_succ, List.map_append]
  congr 1
  · refine List.map_congr_left fun j hj => ?_
    have : j ≠ n := by have := List.mem_range.mp hj; omega
    simp only [if_neg this]
  · simp
theorem users_ok {L : List (Addr × HO)} {H : Hp} {x1 x2 x3 x4 x5 x6 x7 x8 x9 x10 x11 x12 x13 x14 : Option V} {Q : VK} (hl : SqL K H0 l pvs) (hz : pvs.length ≤ 10) (hL : Loc T H0 L H) (k : ∀ D ua H', Loc T H0 ((D, .lst (RF pvs.length ua)) :: (L ++ UE pvs.length ua fun _ => [])) H' → Q (.ref D) H') :
    tLc (iList K (tVar 0)) (gName 6) tYes (tLst tNil) [6] [some (.ref l), x1, x2, x3, x4, x5, x6, x7, x8, x9, x10, x11, x12, x13, x14] H Q := by
  refine ⟨_, rfl, l, rfl, ⟨_, hL.g.sqL hl⟩, fun D hD => ?_⟩
  refine lc_it (walk_list (xs := pvs)) (fun i H => ∃ ua, Loc T H0 ((D, .lst (RF i ua)) :: (L ++ UE i ua fun _ => [])) H) ?_ (fun i H hi p => ?_) (fun i v H H' hi p y => ?_) fun H p => ?_
  · refine ⟨fun _ => 0, ?_⟩
    show Loc T H0 ((D, .lst []) :: (L ++ [])) _
    rw [List.append_nil]
    exact hL.new hD pl_lst
  · obtain ⟨ua, p⟩ := p
    exact p.g.sqL hl
  · obtain ⟨ua, p⟩ := p
    obtain ⟨rfl, ez⟩ := y
    refine ⟨rfl, Nat.zero_le _, fun E hE => ?_⟩
    have L1 := p.new hE (pl_lst (xs := []))
    refine ⟨RF i ua, L1.get (i := 1) rfl, lt_line (by unfold RF; rw [List.length_map, List.length_range]; omega), fun j => if j = i then E else ua j, ?_⟩
    have L2 := L1.set (i := 1) rfl (pl_lst (xs := RF i ua ++ [.ref E]))
    have e1 : UE (i + 1) (fun j => if j = i then E else ua j) (fun _ => []) = (UE i ua fun _ => []) ++ [(E, .lst [])] := by
      have := UE_snoc (n := i) (ua := ua) (us := fun _ => []) (E := E) (l := [])
      simpa using this
    rw [RF_snoc, e1]
    refine L2.perm ?_
    show List.Perm ((E, HO.lst []) :: (D, HO.lst (RF i ua ++ [.ref E])) :: (L ++ UE i ua fun _ => [])) _
    refine (List.Perm.swap _ _ _).trans (.cons _ ?_)
    rw [← List.append_assoc]
    exact (List.perm_append_singleton _ _).symm
  · obtain ⟨ua, p⟩ := p
    exact k D ua H p
/-! where a part leads -/
theorem nat_le {l : List Nat} {n : Nat} (h : l.Nodup) (hs : ∀ d ∈ l, d < n) : l.length ≤ n := by
  have h1 := nd_le (l := l.map fun j => (j, j)) (m := (List.range n).map fun j => (j, j)) (List.pairwise_map.mpr (h.imp fun {a b} q e => q (Prod.ext_iff.mp e).1)) fun x hx => by
    obtain ⟨j, hj, rfl⟩ := List.mem_map.mp hx
    exact List.mem_map.mpr ⟨j, List.mem_range.mpr (hs j hj), rfl⟩
  simpa using h1
theorem okst {ks : List Nat} : ∀ m ∈ ks.map fun j => (j, j), Okn .st m := fun m hm => by
  obtain ⟨j, _, rfl⟩ := List.mem_map.mp hm
  exact fun _ => rfl
theorem mem_dup {ks : List Nat} {j : Nat} : (j, j) ∈ ks.map (fun j => (j, j)) ↔ j ∈ ks := by
  rw [List.mem_map]
  exact ⟨fun ⟨k, h, e⟩ => by cases e; exact h, fun h => ⟨j, h, rfl⟩⟩
theorem lead_ok {L : List (Addr × HO)} {H : Hp} {Hm pb : Addr} {i jh : Nat} {vs : List V} {p : List Nd} {x0 x3 x4 x7 x8 x9 x10 x11 x12 x13 x14 : Option V} {Q : VK} (P : Parts st ns ps) (h10 : ns.length ≤ 10) (hS : StD κ K H0 nd ns st) (hcl : ∀ m ∈ ns, ∀ y ∈ st m, y ∈ ns) (hn : ps.length ≤ 10)
    (hL : Loc T H0 L H) (hh : L[jh]? = some (Hm, FD κ ps.flatten fun x => .int (hmv ps x : Nat))) (hpb : H0 pb = some (.tup vs)) (hvs : NVs κ H0 vs p) (hp : ps[i]? = some p)
    (k : ∀ (D : Addr) (H' : Hp) (ks : List Nat), ks.Nodup → (∀ j, j ∈ ks ↔ j ≠ i ∧ ∃ x ∈ p, ∃ y ∈ st x, hmv ps y = j) → Loc T H0 ((D, FD .st (ks.map fun j => (j, j)) fun _ => .bl true) :: L) H' → Q (.ref D) H') :
    tGa (iTup K (tVar 6)) (fun x => FD Kd.st [] fun x => V.non) (gName 12) tYes (fun D σ H Q => wipe σ [13] = σ ∧ iList K (tDGet (tVar 1) (tVar 12)) σ H fun J H1 => Lp J (gName 13) (tTest (tOp rNe (tDGet (tVar 2) (tVar 13)) (tVar 5))) (tDcA D (tDGet (tVar 2) (tVar 13)) (tC (V.bl true))) [13] σ H1 Q) [12, 13]
      [x0, some (.ref nd), some (.ref Hm), x3, x4, some (.int (i : Nat)), some (.ref pb), x7, x8, x9, x10, x11, x12, x13, x14] H Q := by
  obtain ⟨g, g1, g2, g3⟩ := hS
  have pn : ∀ x ∈ p, x ∈ ns := fun x hx => (P.all x).mpr ⟨p, List.mem_of_getElem? hp, hx⟩
  have okf : ∀ m ∈ ps.flatten, Okn κ m := fun m hm => by
    obtain ⟨q, hq, hm⟩ := List.mem_flatten.mp hm
    exact g2 m ((P.all m).mpr ⟨q, hq, hm⟩)
  have inf : ∀ m ∈ ns, m ∈ ps.flatten := fun m hm => by
    obtain ⟨q, hq, hm⟩ := (P.all m).mp hm
    exact List.mem_flatten.mpr ⟨q, hq, hm⟩
  refine ⟨_, rfl, pb, rfl, ⟨_, SqT.of (hL.g.tup hpb)⟩, fun D hD => ?_⟩
  refine lp_it (walk_tup (xs := vs)) (fun a H => ∃ ks : List Nat, ks.Nodup ∧ (∀ j, j ∈ ks ↔ j ≠ i ∧ ∃ x ∈ p.take a, ∃ y ∈ st x, hmv ps y = j) ∧ Loc T H0 ((D, FD .st (ks.map fun j => (j, j)) fun _ => .bl true) :: L) H) ?_ (fun a H ha q => ?_) (fun a v H H' ha q y => ?_) fun H q => ?_
  · refine ⟨[], List.nodup_nil, fun j => by simp, ?_⟩
    have e : (FD Kd.st (([] : List Nat).map fun j => (j, j)) fun _ => V.bl true) = FD .st [] fun _ => .non := FD.congr fun m hm => by simp at hm
    rw [e]
    exact hL.new hD pl_FD
  · obtain ⟨ks, _, _, q⟩ := q
    exact SqT.of (q.g.tup hpb)
  · obtain ⟨ks, kn, km, q⟩ := q
    obtain ⟨rfl, ev⟩ := y
    obtain ⟨x, ex, hx⟩ := hvs.2 a v ev
    have xp : x ∈ p := List.mem_of_getElem? ex
    have xn := pn x xp
    obtain ⟨sl, sv, f1, f2, f3⟩ := g3 x xn
    have hd : ∀ {H' : Hp}, Gr T H0 H' → DGet H' nd v (some (.ref sl)) := fun gr => by
      rw [← f1]
      exact fd_has (.inl (gr.ext _ _ g1 pl_FD.1)) g2 (hx.gr gr) xn
    refine ⟨rfl, rfl, _, rfl, _, rfl, nd, _, rfl, hd q.g, sl, rfl, ⟨_, q.g.sqL f2⟩, ?_⟩
    refine lp_it (walk_list (xs := sv)) (fun b H => ∃ ks : List Nat, ks.Nodup ∧ (∀ j, j ∈ ks ↔ j ≠ i ∧ ((∃ x ∈ p.take a, ∃ y ∈ st x, hmv ps y = j) ∨ ∃ y ∈ (st x).take b, hmv ps y = j)) ∧ Loc T H0 ((D, FD .st (ks.map fun j => (j, j)) fun _ => .bl true) :: L) H) ?_ (fun b H hb q => ?_) (fun b u H H' hb q y => ?_) fun H q => ?_
    · exact ⟨ks, kn, fun j => by rw [km]; simp, q⟩
    · obtain ⟨ks, _, _, q⟩ := q
      exact q.g.sqL f2
    · obtain ⟨ks, kn, km, q⟩ := q
      obtain ⟨rfl, eu⟩ := y
      obtain ⟨y, ey, hy⟩ := f3.2 b u eu
      have yn : y ∈ ns := hcl x xn y (List.mem_of_getElem? ey)
      have hdy : ∀ {H' : Hp}, Loc T H0 ((D, FD .st (ks.map fun j => (j, j)) fun _ => .bl true) :: L) H' → DGet H' Hm u (some (.int (hmv ps y : Nat))) := fun l' => fd_has (.inl (l'.get (i := jh + 1) hh)) okf (hy.gr l'.g) (inf y yn)
      refine ⟨rfl, _, rfl, _, rfl, Hm, _, rfl, hdy q, _, rfl, rfl, _, rfl, ite2 (fun e => ?_) fun e => ?_⟩
      · have ne : hmv ps y ≠ i := fun z => by
          rw [z] at e
          simp at e
        refine ⟨_, rfl, _, rfl, Hm, _, rfl, hdy q, _, fd_put (κ := .st) (n := (hmv ps y, hmv ps y)) (q.get (i := 0) rfl) okst ⟨rfl, rfl⟩ (lt_line ?_), ?_⟩
        · rw [List.length_map]
          have := nat_le (n := ps.length) kn fun d hd => by
            obtain ⟨_, h⟩ := (km d).mp hd
            have : ∃ y ∈ ns, hmv ps y = d := by
              rcases h with ⟨x', hx', y', hy', e'⟩ | ⟨y', hy', e'⟩
              · exact ⟨y', hcl x' (pn x' (List.mem_of_mem_take hx')) y' hy', e'⟩
              · exact ⟨y', hcl x xn y' (List.mem_of_mem_take hy'), e'⟩
            obtain ⟨y', hy', e'⟩ := this
            obtain ⟨_, h, _⟩ := hm_lt P hy'
            rw [← e']
            exact (List.getElem?_eq_some_iff.mp h).1
          omega
        · refine ⟨if hmv ps y ∈ ks then ks else ks ++ [hmv ps y], ?_, fun j => ?_, ?_⟩
          · split
            · exact kn
            · next h => exact List.nodup_append.mpr ⟨kn, by simp, fun a ha b hb e => h (by rw [List.mem_singleton.mp hb] at e; exact e ▸ ha)⟩
          · rw [take_snoc ey]
            have e1 : (j ∈ if hmv ps y ∈ ks then ks else ks ++ [hmv ps y]) ↔ (j ∈ ks ∨ j = hmv ps y) := by
              split
              · next h => exact ⟨.inl, fun z => z.elim id fun e => e ▸ h⟩
              · simp
            rw [e1, km]
            constructor
            · rintro (⟨h1, h2⟩ | h)
              · refine ⟨h1, h2.imp id fun ⟨y', h, e⟩ => ⟨y', List.mem_append_left _ h, e⟩⟩
              · exact ⟨h ▸ ne, .inr ⟨y, by simp, h.symm⟩⟩
            · rintro ⟨h1, h2 | ⟨y', h, e⟩⟩
              · exact .inl ⟨h1, .inl h2⟩
              · rcases List.mem_append.mp h with h | h
                · exact .inl ⟨h1, .inr ⟨y', h, e⟩⟩
                · rw [List.mem_singleton.mp h] at e
                  exact .inr e.symm
          · have e2 : FD Kd.st (if (hmv ps y, hmv ps y) ∈ ks.map (fun j => (j, j)) then ks.map (fun j => (j, j)) else ks.map (fun j => (j, j)) ++ [(hmv ps y, hmv ps y)]) (fup (fun _ => V.bl true) (hmv ps y, hmv ps y) (.bl true)) = FD .st ((if hmv ps y ∈ ks then ks else ks ++ [hmv ps y]).map fun j => (j, j)) fun _ => .bl true := by
              have e3 : (if (hmv ps y, hmv ps y) ∈ ks.map (fun j => (j, j)) then ks.map (fun j => (j, j)) else ks.map (fun j => (j, j)) ++ [(hmv ps y, hmv ps y)]) = (if hmv ps y ∈ ks then ks else ks ++ [hmv ps y]).map fun j => (j, j) := by
                by_cases h : hmv ps y ∈ ks
                · rw [if_pos h, if_pos (mem_dup.mpr h)]
                · rw [if_neg h, if_neg (fun z => h (mem_dup.mp z)), List.map_append]
                  rfl
              rw [e3]
              refine FD.congr fun m _ => ?_
              unfold fup
              split <;> rfl
            rw [e2]
            exact q.set (i := 0) rfl pl_FD
      · have ne : hmv ps y = i := by
          by_cases z : hmv ps y = i
          · exact z
          · have z' : ¬ ((hmv ps y : Nat) : Int) = (i : Nat) := by omega
            simp [z'] at e
        refine ⟨ks, kn, fun j => ?_, q⟩
        rw [take_snoc ey, km]
        refine and_congr_right fun h1 => or_congr_right ⟨fun ⟨y', h, e⟩ => ⟨y', List.mem_append_left _ h, e⟩, fun ⟨y', h, e⟩ => ?_⟩
        rcases List.mem_append.mp h with h | h
        · exact ⟨y', h, e⟩
        · rw [List.mem_singleton.mp h, ne] at e
          exact absurd e.symm h1
    · obtain ⟨ks, kn, km, q⟩ := q
      refine ⟨ks, kn, fun j => ?_, q⟩
      rw [km, f3.1, List.take_length, take_snoc ex]
      refine and_congr_right fun _ => ⟨fun h => ?_, fun ⟨x', hx', h⟩ => ?_⟩
      · rcases h with ⟨x', hx', h⟩ | h
        · exact ⟨x', List.mem_append_left _ hx', h⟩
        · exact ⟨x, by simp, h⟩
      · rcases List.mem_append.mp hx' with h' | h'
        · exact .inl ⟨x', h', h⟩
        · rw [List.mem_singleton.mp h'] at h
          exact .inr h
  · obtain ⟨ks, kn, km, q⟩ := q
    rw [hvs.1, List.take_length] at km
    exact k D H ks kn km q
/-! the users are told -/
theorem ulk_ok {M : List (Addr × HO)} {H : Hp} {Us Ld : Addr} {i n iu : Nat} {ua : Nat → Addr} {us : Nat → List Nat} {ks : List Nat} {x0 x1 x2 x4 x6 x8 x9 x10 x11 x12 x13 x14 : Option V} {D : Ends}
    (hL : Loc T H0 ((Ld, FD .st (ks.map fun j => (j, j)) fun _ => .bl true) :: (M ++ UE n ua us)) H) (hu : M[iu]? = some (Us, .lst (RF n ua))) (kn : ks.Nodup) (klt : ∀ j ∈ ks, j < n) (ul : ∀ j, (us j).length ≤ 100)
    (k : ∀ H' x8, Loc T H0 ((Ld, FD .st (ks.map fun j => (j, j)) fun _ => .bl true) :: (M ++ UE n ua fun j => if j ∈ ks then us j ++ [i] else us j)) H' → D.nx [x0, x1, x2, some (.ref Us), x4, some (.int (i : Nat)), x6, some (.ref Ld), x8, x9, x10, x11, x12, x13, x14] H') :
    tLock (tFor (iKeys (tVar 7)) (gName 8) (tDrop (tBM K "list" rAppend (tOp (rIxL K) (tVar 3) (tVar 8)) (tCons (tVar 5) tNil)))) D [x0, x1, x2, some (.ref Us), x4, some (.int (i : Nat)), x6, some (.ref Ld), x8, x9, x10, x11, x12, x13, x14] H := by
  refine ⟨Ld, _, hL.get (i := 0) rfl, trivial, fun od => ?_⟩
  have L1 := hL.set (i := 0) rfl (pl_frz (ob := od) (u := FD .st (ks.map fun j => (j, j)) fun _ => .bl true))
  generalize upd H Ld (.frz od (FD .st (ks.map fun j => (j, j)) fun _ => .bl true)) = H1 at L1
  have L1 : Loc T H0 ((Ld, .frz od (FD .st (ks.map fun j => (j, j)) fun _ => .bl true)) :: (M ++ UE n ua us)) H1 := L1
  refine ⟨_, rfl, Ld, od, rfl, .inl ⟨_, L1.get (i := 0) rfl, ?_⟩⟩
  have il : iu < M.length := (List.getElem?_eq_some_iff.mp hu).1
  refine for_it walk_keys (fun b σ H => ∃ x8, σ = [x0, x1, x2, some (.ref Us), x4, some (.int (i : Nat)), x6, some (.ref Ld), x8, x9, x10, x11, x12, x13, x14] ∧ Loc T H0 ((Ld, .frz od (FD .st (ks.map fun j => (j, j)) fun _ => .bl true)) :: (M ++ UE n ua fun j => if j ∈ ks.take b then us j ++ [i] else us j)) H) ?_ (fun b σ H hb p => ?_) (fun b v σ H H' hb p y => ?_) fun σ H p => ?_
  · refine ⟨x8, rfl, ?_⟩
    have e : (fun j => if j ∈ ks.take 0 then us j ++ [i] else us j) = us := by
      funext j
      simp
    rw [e]
    exact L1
  · obtain ⟨_, _, p⟩ := p
    exact p.get (i := 0) rfl
  · obtain ⟨x8, rfl, p⟩ := p
    obtain ⟨rfl, kk, vv, ek, rfl⟩ := y
    have ek : ((ks.map fun j => (j, j)).map fun n => (kSt n, V.bl true))[b]? = some (kk, vv) := ek
    rw [List.getElem?_map, List.getElem?_map] at ek
    obtain ⟨m, hm, e2⟩ := Option.map_eq_some_iff.mp ek
    obtain ⟨j, ej, rfl⟩ := Option.map_eq_some_iff.mp hm
    obtain ⟨rfl, rfl⟩ := Prod.ext_iff.mp e2
    have jn := klt j (List.mem_of_getElem? ej)
    have hget : Loc T H0 _ _ := p
    have hUs := p.get (i := iu + 1) (a := Us) (o := .lst (RF n ua)) (by
      show (M ++ _)[iu]? = _
      rw [List.getElem?_append_left il]
      exact hu)
    have nin : j ∉ ks.take b := fun h => by
      have e : ks = ks.take b ++ j :: ks.drop (b + 1) := by
        have hb' := (List.getElem?_eq_some_iff.mp ej).1
        have := List.drop_eq_getElem_cons hb'
        rw [(List.getElem?_eq_some_iff.mp ej).2] at this
        rw [← this, List.take_append_drop]
      rw [e] at kn
      exact (List.nodup_append.mp kn).2.2 j h j List.mem_cons_self rfl
    have hU := UE_at (L := M) (n := n) (i := j) (ua := ua) (us := fun j => if j ∈ ks.take b then us j ++ [i] else us j) jn
    simp only [if_neg nin] at hU
    have hUH := p.get (i := M.length + j + 1) (a := ua j) hU
    refine ⟨_, rfl, _, rfl, Us, _, _, _, rfl, rfl, SqL.of hUs, atI_nat (RF_at jn), .inl ⟨rfl, _, SqL.of hUH⟩, _, rfl, ua j, _, _, rfl, rfl, hUH, lt_line (by rw [List.length_map]; have := ul j; omega), ?_⟩
    have e4 : ((us j).map fun (k : Nat) => V.int (k : Int)) ++ [V.int (i : Int)] = (us j ++ [i]).map fun (k : Nat) => V.int (k : Int) := by rw [List.map_append]; rfl
    rw [e4]
    have L2 := p.set (i := M.length + j + 1) hU (pl_lst (xs := (us j ++ [i]).map fun (k : Nat) => V.int (k : Int)))
    refine ⟨_, rfl, ?_⟩
    have e5 : (fun j' => if j' = j then us j ++ [i] else if j' ∈ ks.take b then us j' ++ [i] else us j') = fun j' => if j' ∈ ks.take (b + 1) then us j' ++ [i] else us j' := by
      funext j'
      rw [take_snoc ej]
      by_cases e : j' = j
      · subst e
        rw [if_pos rfl, if_pos (by simp)]
      · rw [if_neg e]
        by_cases h : j' ∈ ks.take b
        · rw [if_pos h, if_pos (List.mem_append_left _ h)]
        · rw [if_neg h, if_neg (fun z => (List.mem_append.mp z).elim h fun z => e (List.mem_singleton.mp z))]
    have e6 := UE_set (L := M) (ua := ua) (us := fun j => if j ∈ ks.take b then us j ++ [i] else us j) (l := us j ++ [i]) jn
    rw [e5] at e6
    rw [← e6]
    exact L2
  · obtain ⟨x8, rfl, p⟩ := p
    have el : ((ks.map fun j => (j, j)).map fun n => (kSt n, V.bl true)).length = ks.length := by simp
    have p : Loc T H0 ((Ld, .frz od (FD .st (ks.map fun j => (j, j)) fun _ => .bl true)) :: (M ++ UE n ua fun j => if j ∈ ks.take ((ks.map fun j => (j, j)).map fun n => (kSt n, V.bl true)).length then us j ++ [i] else us j)) H := p
    rw [el, List.take_length] at p
    refine ⟨p.get (i := 0) rfl, ?_⟩
    have L2 := p.set (i := 0) rfl (pl_FD (κ := .st) (ks := ks.map fun j => (j, j)) (f := fun _ => .bl true))
    exact k _ x8 L2
end
end Bk
end
section
/-! numbered_parts. -/
namespace Bk
open PySem L2 LamX PySem.Spec PyProof.Rows
abbrev sNumbered : Stmt := top 32
/-- a def whose code object is known -/
structure FunC (K : PySem.W.Frag) (x qual : Str) (st : Stmt) (f : Addr) (fd : FuncData) (c : Addr) : Prop where
  ex : ∃ (oc : Value) (od : Option Addr) (kV doc pm : Value) (an : Option Addr) (ct : Value) (osl : Array (Option Value)),
    fd = PySem.W.fnOf x qual (defArgs st) (defBody st) (defScope st) .none kV doc pm an (.ref c) ct ∧ K.lookup f = some ⟨oc, od, .func fd, osl⟩ ∧ PySem.W.codeIn K (.ref c) qual = true
  kp : PySem.W.keepIn K (.ref f) = true
/-- what a lambda's maker asks -/
structure LamT (T : List (Addr × Str)) (base : Heap) (mg : Str → Option Value) (c Pt : Addr) (q : Str) : Prop where
  tb : LamX.TabB base mg c Pt
  mem : (Pt, q) ∈ T
  uniq : ∀ p ∈ T, p.1 = Pt → p.2 = q
theorem qual_cx {CX : CXT} {P : Program} {w : World} {K : PySem.W.Frag} {mg : Str → Option Value} {base : Heap} {N : List Str} {q : Str} {sc : Scope} {f : Addr} {cdv : Value} {A : Around} {outer : List Env} {s : Shared} {H : Hp} {E : XK} : (cxOf CX P w K mg base N q sc f cdv A outer s H E).nox.env.qual = q ++ ".<locals>." := rfl
def lamB (N : List Str) (sc scope : Scope) (a : Str) : Bool :=
  decide (scope.kind = .function) && !scope.isCoroutine && !scope.isGenerator && decide (scope.names.lookup a = some .local) && scope.names.all (fun y => decide (y.2 ≠ .cell) && (!decide (y.2 = .local) || decide (y.1 = a))) &&
    scope.names.all (fun y => !decide (y.2 = .free) || (decide (sc.names.lookup y.1 = some .cell) || decide (sc.names.lookup y.1 = some .free))) && decide (a ∉ N)
theorem lamP_by {X : Cx} {N : List Str} {sc scope : Scope} {a : Str} (hN : X.N = N) (hs : X.env.scope = sc) (h : lamB N sc scope a = true) : LamP X a scope := by
  subst hN hs
  unfold lamB at h
  simp only [Bool.and_eq_true, Bool.not_eq_true', decide_eq_true_eq, List.all_eq_true, Bool.or_eq_true, decide_eq_false_iff_not] at h
  obtain ⟨⟨⟨⟨⟨⟨h1, h2⟩, h3⟩, h4⟩, h5⟩, h6⟩, h7⟩ := h
  exact ⟨h1, h2, h3, h4, fun y hy => ⟨(h5 y hy).1, fun e => (h5 y hy).2.elim (fun n => absurd e n) id⟩, fun y hy e => (h6 y hy).elim (fun n => absurd e n) id, h7⟩
section
variable {X : Cx} {a : Str} {scope : Scope} {T : List (Addr × Str)} {c Pt : Addr} {e e1 e2 : Expr} {ta tb t1 t2 : TE} {params : Arguments} {body : Expr} {p lpos kpos pos tpos : Pos} {k j : Nat} {q : Str}
theorem pe_minVq (hq : X.env.qual = q) (LT : LamT T X.base X.mg c Pt (q ++ "<lambda>")) (hc : X.calm = true) (hm : X.mg "min" = none) (hcode : X.env.code = .ref c) (hr : Room (k + 2) X.A) (L : LamP X a scope) (ha : PE X e ta)
    (hbody : ∀ (A : Around) (s : Shared) (H : Hp) (f c' : Addr), Room k (A.deeper (lamEnv X scope s.heap.objs.size f c')) → PE (lamC1 X A s H scope f c' a) body tb) (hdef : defaultsOf params X.env = ([], []) := by rfl)
    (hbind : ∀ (q : Str) (cl : List (Str × Addr)) (pm cv ctv u : Value), bindArgs (PySem.W.kla_fn "<lambda>" q params body scope cl pm cv ctv) ⟨[u], []⟩ = pure [(a, u)] := by intros; rfl) (hg : Gl X "min" := by rfl) (he : backTo pos (starEach [e] X.env) = (false, eval e X.env) :: backTo pos (starEach [] X.env) := by rfl)
    (hpl : (backTo pos (starEach [e] X.env)).any (·.1) = false := by rfl) : PE X (.Call (.Name "min" p) [e] [⟨some "key", .Lambda params body scope lpos, kpos⟩] pos) (tMinV T X.K ta tb) :=
  pe_minV hc hm LT.tb hcode (by rw [hq]; exact LT.mem) (fun p h1 h2 => by rw [hq]; exact LT.uniq p h1 h2) hr L ha hbody hdef hbind hg he hpl
theorem pe_minPq (hq : X.env.qual = q) (LT : LamT T X.base X.mg c Pt (q ++ "<lambda>")) (hc : X.calm = true) (hm : X.mg "min" = none) (hcode : X.env.code = .ref c) (hr : Room (k + 2) X.A) (L : LamP X a scope) (ha : PE X e ta)
    (hb1 : ∀ (A : Around) (s : Shared) (H : Hp) (f c' : Addr), Room k (A.deeper (lamEnv X scope s.heap.objs.size f c')) → PE (lamC1 X A s H scope f c' a) e1 t1) (hb2 : ∀ (A : Around) (s : Shared) (H : Hp) (f c' : Addr), Room k (A.deeper (lamEnv X scope s.heap.objs.size f c')) → PE (lamC1 X A s H scope f c' a) e2 t2)
    (hs1 : ∀ env, starEach [e1, e2] env = (false, eval e1 env) :: starEach [e2] env := by intro _; rfl) (hs2 : ∀ env, starEach [e2] env = (false, eval e2 env) :: starEach [] env := by intro _; rfl) (hdef : defaultsOf params X.env = ([], []) := by rfl)
    (hbind : ∀ (q : Str) (cl : List (Str × Addr)) (pm cv ctv u : Value), bindArgs (PySem.W.kla_fn "<lambda>" q params (.Tuple [e1, e2] j tpos) scope cl pm cv ctv) ⟨[u], []⟩ = pure [(a, u)] := by intros; rfl) (hg : Gl X "min" := by rfl) (he : backTo pos (starEach [e] X.env) = (false, eval e X.env) :: backTo pos (starEach [] X.env) := by rfl)
    (hpl : (backTo pos (starEach [e] X.env)).any (·.1) = false := by rfl) : PE X (.Call (.Name "min" p) [e] [⟨some "key", .Lambda params (.Tuple [e1, e2] j tpos) scope lpos, kpos⟩] pos) (tMinP T X.K ta t1 t2) :=
  pe_minP hc hm LT.tb hcode (by rw [hq]; exact LT.mem) (fun p h1 h2 => by rw [hq]; exact LT.uniq p h1 h2) hr L ha hb1 hb2 hs1 hs2 hdef hbind hg he hpl
end
theorem filt_snoc (p : Nat → Bool) (i : Nat) : ((List.range (i + 1)).filter p) = if p i = true then (List.range i).filter p ++ [i] else (List.range i).filter p := by
  rw [List.range_succ, List.filter_append]
  cases h : p i <;> simp [h]
theorem Ech.map2 {α β : Type} {R : V → β → Prop} {φ : α → V} {ψ : α → β} : ∀ {l : List α}, (∀ d ∈ l, R (φ d) (ψ d)) → Ech R (l.map φ) (l.map ψ)
  | [], _ => .nil
  | a :: r, h => (Ech.one (h a List.mem_cons_self)).app (Ech.map2 fun d hd => h d (List.mem_cons_of_mem _ hd))
theorem erase_map {α β : Type} (f : α → β) : ∀ (l : List α) (i : Nat), (l.map f).eraseIdx i = (l.eraseIdx i).map f
  | [], i => by simp
  | a :: r, 0 => by simp
  | a :: r, i + 1 => by simp [erase_map f r i]
theorem ixN_nat {n j : Nat} (h : j < n) : ixN n (j : Int) = some j := by
  unfold ixN
  rw [if_pos (by omega), if_pos (by omega)]
  rfl
theorem rg_set {n u : Nat} {f g : Nat → V} {x : V} (hu : u < n) (h1 : g u = x) (h2 : ∀ j, j ≠ u → g j = f j) : ((List.range n).map f).set u x = (List.range n).map g := by
  refine List.ext_getElem? fun j => ?_
  rw [List.getElem?_set, List.getElem?_map, List.getElem?_map, List.length_map, List.length_range]
  by_cases e : u = j
  · subst e
    rw [if_pos rfl, if_pos hu, List.getElem?_range hu]
    simp [h1]
  · rw [if_neg e]
    by_cases hj : j < n
    · rw [List.getElem?_range hj]
      simp [h2 j (Ne.symm e)]
    · rw [List.getElem?_eq_none (by simpa using hj)]
      rfl
theorem tSeqAsg {te : TE} {i : Nat} {rest : TS} {D : Ends} {σ : L2.St} {H : Hp} (h : te σ H fun x H1 => rest D (σ.set i (some x)) H1) : tSeq (tAsg te (gName i)) rest D σ H := h
/-- the places that part i leads to -/
def LdOk (st : Nd → List Nd) (ps : List (List Nd)) (i : Nat) (ks : List Nat) : Prop := ks.Nodup ∧ ∀ j, j ∈ ks ↔ j ≠ i ∧ ∃ x ∈ ps.getD i [], ∃ y ∈ st x, hmv ps y = j
section
variable {P : Program} {w : World} {K : PySem.W.Frag} {mg : Str → Option Value} {base : Heap} {T : List (Addr × Str)}
theorem FunC.ok {x qual : Str} {st : Stmt} {f c : Addr} {fd : FuncData} {N ps : List Str} {k : Nat} {sp : Sp} (F : FunC K x qual st f fd c) (S : FnScope N ps (defScope st)) (len : ∀ vs H Q E, sp vs H Q E → vs.length = ps.length)
    (hbody : ∀ (A : Around) (outer : List Env) (s : Shared) (H : Hp) (vs : List V) (Q : VK) (E : XK), Room k (A.deeper (envOfC qual (defScope st) s.heap.objs.size f (.ref c))) → sp vs H Q E →
      ∃ t, PSs (cxOf CX0 P w K mg base N qual (defScope st) f (.ref c) A outer s H E).nox (defBody st) t ∧ t { nx := fun _ H' => Q .non H', rt := Q } (start N vs) H) : FnOk P w K mg base CX0 (k + 1) f fd ps sp := by
  obtain ⟨oc, od, kV, doc, pm, an, ct, osl, rfl, lk, hcd⟩ := F.ex
  refine fn_of lk hcd S len fun A outer s H vs Q E hr hsp => ?_
  obtain ⟨t, h, q⟩ := hbody A outer s H vs Q E hr hsp
  exact ⟨t, h.nox, q⟩
abbrev nNum : List Str := ["parts", "steps", "home", "users", "lacking", "at", "part", "leads", "other", "ready", "found", "user", "node", "after", "many"]
def spNumbered (T : List (Addr × Str)) (K : PySem.W.Frag) : Sp := fun vs H Q _ => ∃ (κ : Kd) (l nd : Addr) (pv : List V) (ps : List (List Nd)) (ns : List Nd) (st : Nd → List Nd), vs = [.ref l, .ref nd] ∧ SqL K H l pv ∧ Ech (PtV κ H) pv ps ∧ Parts st ns ps ∧ ns.length ≤ 10 ∧ StD κ K H nd ns st ∧
  (∀ m ∈ ns, ∀ y ∈ st m, y ∈ ns) ∧ Tabs T H ∧ ∀ (q : Addr) (H' : Hp) (kv : List V) (ks : List (List Nd)), H q = none → H' q = some (.tup kv) → Gr T H H' → Ech (PtV κ H') kv ks → Parts st ns ks → Q (.ref q) H'
theorem scNumbered : FnScope nNum ["parts", "steps"] (defScope sNumbered) := ⟨rfl, rfl, rfl, by decide +kernel, rfl, by decide +kernel, by decide +kernel⟩
theorem ok_numbered {f c Pt : Addr} {fd : FuncData} (F : FunC K "numbered_parts" "numbered_parts" sNumbered f fd c) (B : Bt mg) (LT : LamT T base mg c Pt (("numbered_parts" : Str) ++ ".<locals>." ++ "<lambda>")) : FnOk P w K mg base CX0 3 f fd ["parts", "steps"] (spNumbered T K) := by
  refine F.ok scNumbered (fun vs H Q E h => ?_) (fun A outer s H vs Q E hr h => ?_)
  · obtain ⟨κ, l, nd, pv, ps, ns, st, rfl, _⟩ := h
    rfl
  · obtain ⟨κ, l, nd, pvs, ps, ns, st, rfl, hl, hpv, hP, h10, hS, hcl, hT, k⟩ := h
    have u0 := hu0 hr
    have u1 := hu1 hr
    refine ⟨_, (pss_cons (ps_set (i := 2) scNumbered.nd rfl (Or.inr rfl) (pe_gdc2 (own := [("at", 5), ("part", 6), ("node", 12)]) (vs1 := [12]) (g := gTup K 2 (gCons (gName 5) (gCons (gName 6) gNil))) (g1 := gName 12) (tt := tYes) (tt1 := tYes) κ u0 rfl scNumbered.nd (pi_enum (by rfl) B.enumerate (pa_cons (pv 0) pa_nil)) (blkOk_by (N := nNum) (sc := defScope sNumbered) (by decide +kernel)) (fun _ _ _ _ _ => (pg_tupK rfl (pgs_cons (pg_name (i := 5) scNumbered.nd rfl (Or.inl rfl)) (pgs_cons (pg_name (i := 6) scNumbered.nd rfl (Or.inl rfl)) pgs_nil)))) (fun _ _ _ _ _ => pts_nil) (fun _ _ _ _ _ => (pi_tupK (K := K) (pv 6))) (fun _ _ _ _ _ => (pg_name (i := 12) scNumbered.nd rfl (Or.inl rfl))) (fun _ _ _ _ _ => pts_nil) (fun _ _ _ _ _ => pv 12) (fun _ _ _ _ _ => pv 5)))
      (pss_cons (ps_setLc (i := 3) (own := [("part", 6)]) (g := gName 6) (tt := tYes) rfl scNumbered.nd rfl rfl (sw_true rfl rfl rfl (by decide +kernel)) (pi_list (pv 0)) (blkOk_by (N := nNum) (sc := defScope sNumbered) (by decide +kernel)) (fun _ _ _ _ _ => (pg_name (i := 6) scNumbered.nd rfl (Or.inl rfl))) (fun _ _ _ _ _ => pts_nil) (fun _ _ _ _ _ => pe_lst pa_nil))
      (pss_cons (ps_set (i := 4) scNumbered.nd rfl (Or.inl rfl) (pe_lst pa_nil))
      (pss_cons (ps_for PassesOwn.never rfl (pi_enum (by rfl) B.enumerate (pa_cons (pv 0) pa_nil)) (pg_tup rfl (pgs_cons (pg_name (i := 5) scNumbered.nd rfl (Or.inr rfl)) (pgs_cons (pg_name (i := 6) scNumbered.nd rfl (Or.inl rfl)) pgs_nil))) (pss_cons (ps_gdc (i := 7) (own := [("node", 12), ("after", 13)]) (vs1 := [13]) (g := gName 12) (g1 := gName 13) (tt := tYes) .st u0 rfl scNumbered.nd rfl rfl (pi_tup (pv 6)) (blkOk_by (N := nNum) (sc := defScope sNumbered) (by decide +kernel)) (fun _ _ _ _ _ => (pg_name (i := 12) scNumbered.nd rfl (Or.inl rfl))) (fun _ _ _ _ _ => pts_nil) (fun _ _ _ _ _ => (pi_listK (K := K) (pe_dget u1 (pv 1) (pv 12) (fun _ _ => rfl)))) (fun _ _ _ _ _ => (pg_name (i := 13) scNumbered.nd rfl (Or.inl rfl))) (fun _ _ _ _ _ => pts_one (pt_cmpR op_ne (pe_dget u1 (pv 2) (pv 13) (fun _ _ => rfl)) (pv 5) (nomark _))) (fun _ _ _ _ _ => (pe_dget u1 (pv 2) (pv 13) (fun _ _ => rfl))) (fun _ _ _ _ _ => pe_bl) rfl)
      (pss_cons (ps_expr (pe_bm PySem.F.plainAttrs_list PySem.F.slot_list_append PySem.F.type_list_append mt_append (pv 4) (pa_cons (pe_callB (call_lenN .st) (by rfl) B.len (by decide +kernel) (pa_cons (pv 7) pa_nil)) pa_nil)))
      (pss_one (ps_lock (ps_for PassesOwn.never rfl (pi_keys (pv 7)) (pg_name (i := 8) scNumbered.nd rfl (Or.inl rfl)) (pss_one (ps_expr (pe_bm PySem.F.plainAttrs_list PySem.F.slot_list_append PySem.F.type_list_append mt_append (pe_ix ix_list (pv 3) (pv 8) (fun _ _ => rfl)) (pa_cons (pv 5) pa_nil))))))))))
      (pss_cons (ps_setLc (i := 9) (own := [("at", 5), ("many", 14)]) (g := gTup K 2 (gCons (gName 5) (gCons (gName 14) gNil))) rfl scNumbered.nd rfl rfl (sw_true rfl rfl rfl (by decide +kernel)) (pi_enum (by rfl) B.enumerate (pa_cons (pv 4) pa_nil)) (blkOk_by (N := nNum) (sc := defScope sNumbered) (by decide +kernel)) (fun _ _ _ _ _ => (pg_tupK rfl (pgs_cons (pg_name (i := 5) scNumbered.nd rfl (Or.inl rfl)) (pgs_cons (pg_name (i := 14) scNumbered.nd rfl (Or.inl rfl)) pgs_nil)))) (fun _ _ _ _ _ => pts_one (pt_cmpR op_eq (pv 14) pe_int (nomark _))) (fun _ _ _ _ _ => pv 5))
      (pss_cons (ps_set (i := 10) scNumbered.nd rfl (Or.inl rfl) (pe_lst pa_nil))
      (pss_cons (ps_while PassesOwn.never (pt_cmpR op_gt (pe_callB call_len_seq (by rfl) B.len (by decide +kernel) (pa_cons (pv 9) pa_nil)) pe_int (nomark _)) (pss_cons (ps_set (i := 5) scNumbered.nd rfl (Or.inr rfl) (pe_minVq (k := 0) qual_cx LT rfl B.min rfl hr (lamP_by (a := "one") (N := nNum) (sc := defScope sNumbered) rfl rfl (by decide +kernel)) (pv 9) (fun _ _ _ _ _ _ => (pe_ix (ix_tupK (K := K)) (pe_ix (ix_listK (K := K)) (pv 0) (pv 15) (fun _ _ => rfl)) pe_int (fun _ _ => rfl)))))
      (pss_cons (ps_expr (pe_bm PySem.F.plainAttrs_list PySem.F.slot_list_remove PySem.F.type_list_remove mt_remove (pv 9) (pa_cons (pv 5) pa_nil)))
      (pss_cons (ps_expr (pe_bm PySem.F.plainAttrs_list PySem.F.slot_list_append PySem.F.type_list_append mt_append (pv 10) (pa_cons (pe_ix ix_list (pv 0) (pv 5) (fun _ _ => rfl)) pa_nil)))
      (pss_one (ps_for PassesOwn.never rfl (pi_list (pe_ix ix_list (pv 3) (pv 5) (fun _ _ => rfl))) (pg_name (i := 11) scNumbered.nd rfl (Or.inl rfl)) (pss_cons (ps_augS (pv 4) (pv 11) get_list pe_int ip_sub set_list)
      (pss_one (ps_if (pt_cmpR op_eq (pe_ix ix_list (pv 4) (pv 11) (fun _ _ => rfl)) pe_int (nomark _)) (pss_one (ps_expr (pe_bm PySem.F.plainAttrs_list PySem.F.slot_list_append PySem.F.type_list_append mt_append (pv 9) (pa_cons (pv 11) pa_nil)))) pss_nil)))))))))
      (pss_one (ps_ret (pe_callTy call_tuple_of (by rfl) B.tuple (by decide +kernel) (pa_cons (pv 10) pa_nil))))))))))), ?_⟩
    have okn : ∀ m ∈ ns, Okn κ m := by
      obtain ⟨_, _, g2, _⟩ := hS
      exact g2
    have pl : pvs.length = ps.length := hpv.1
    have p10 : ps.length ≤ 10 := Nat.le_trans (flat_len hP.ne) (flat_le hP h10)
    refine tSeqAsg ?_
    refine home_ok (T := T) hP h10 okn hl hpv fun Hm H1 L1 => ?_
    refine tSeqAsg ?_
    refine users_ok (L := [(Hm, FD κ ps.flatten fun x => .int (hmv ps x : Nat))]) hl (by omega) L1 fun Us ua H2 L2 => ?_
    refine ⟨Nat.zero_le _, fun Lk hLk => ?_⟩
    have L3 := L2.new hLk (pl_lst (xs := []))
    generalize upd H2 Lk (.lst []) = H3 at L3
    refine ⟨_, rfl, l, pvs, rfl, L3.g.sqL hl, ?_⟩
    refine for_it (walk_enum (xs := pvs)) (fun i σ H' => ∃ (lf : Nat → List Nat) (x5 x6 x7 x8 : Option V), σ = [some (.ref l), some (.ref nd), some (.ref Hm), some (.ref Us), some (.ref Lk), x5, x6, x7, x8, none, none, none, none, none, none] ∧
      Loc T H ([(Lk, .lst ((List.range i).map fun j => V.int ((lf j).length : Nat))), (Us, .lst (RF pvs.length ua)), (Hm, FD κ ps.flatten fun x => .int (hmv ps x : Nat))] ++ UE pvs.length ua fun j => (List.range i).filter fun i' => decide (j ∈ lf i')) H' ∧
      ∀ i', i' < i → LdOk st ps i' (lf i')) ?_ (fun i σ H' hi p => ?_) (fun i v σ H4 H5 hi p y => ?_) fun σ H' p => ?_
    · exact ⟨fun _ => [], none, none, none, none, rfl, L3, fun i' h => absurd h (Nat.not_lt_zero _)⟩
    · obtain ⟨_, _, _, _, _, _, p, _⟩ := p
      exact p.g.sqL hl
    · obtain ⟨lf, x5, x6, x7, x8, rfl, p, hld⟩ := p
      obtain ⟨Tt, x, z, rfl, hT, rfl, ex, ez⟩ := y
      cases ex
      obtain ⟨p', ep, b, vs, rfl, hb, hvs⟩ := hpv.2 i z ez
      have M1 := p.mono (Gr.new (o := .tup [.int (i : Nat), .ref b]) hT)
      have hT2 : (upd H4 Tt (.tup [.int (i : Nat), .ref b])) Tt = some (.tup [.int (i : Nat), .ref b]) := upd_same
      generalize upd H4 Tt (.tup [.int (i : Nat), .ref b]) = H5 at M1 hT2
      refine ⟨Tt, _, rfl, SqT.of hT2, rfl, _, _, rfl, _, _, rfl, rfl, ?_⟩
      have il : i < ps.length := (List.getElem?_eq_some_iff.mp ep).1
      refine tSeqAsg ?_
      refine lead_ok (jh := 2) (i := i) (p := p') hP h10 hS hcl p10 M1 rfl hb hvs ep fun Ld H6 ks kn km M2 => ?_
      have kl : ∀ j ∈ ks, j < pvs.length := fun j hj => by
        obtain ⟨_, x, hx, y, hy, e⟩ := (km j).mp hj
        have xn : x ∈ ns := (hP.all x).mpr ⟨p', List.mem_of_getElem? ep, hx⟩
        obtain ⟨q, hq, _⟩ := hm_lt hP (hcl x xn y hy)
        rw [← e, pl]
        exact (List.getElem?_eq_some_iff.mp hq).1
      refine ⟨_, rfl, .inl ⟨rfl, _, SqL.of (M2.get (i := 1) rfl)⟩, _, rfl, Ld, _, _, rfl, M2.get (i := 0) rfl, Lk, _, _, rfl, rfl, M2.get (i := 1) rfl, lt_line (by rw [List.length_map, List.length_range]; omega), ?_⟩
      have M3 := M2.set (i := 1) rfl (pl_lst (xs := ((List.range i).map fun j => V.int ((lf j).length : Nat)) ++ [.int ((ks.map fun j => (j, j)).length : Nat)]))
      refine ulk_ok (M := [(Lk, .lst (((List.range i).map fun j => V.int ((lf j).length : Nat)) ++ [.int ((ks.map fun j => (j, j)).length : Nat)])), (Us, .lst (RF pvs.length ua)), (Hm, FD κ ps.flatten fun x => .int (hmv ps x : Nat))]) (iu := 1) M3 rfl kn kl (fun j => ?_) fun H7 x8 M4 => ?_
      · refine Nat.le_trans (List.length_filter_le _ _) ?_
        rw [List.length_range]
        omega
      refine ⟨fun i' => if i' = i then ks else lf i', _, _, _, _, rfl, ?_, fun i' hi' => ?_⟩
      · have e1 : (((List.range i).map fun j => V.int ((lf j).length : Nat)) ++ [V.int ((ks.map fun j => (j, j)).length : Nat)]) = (List.range (i + 1)).map fun j => V.int ((if j = i then ks else lf j).length : Nat) := by
          rw [List.range_succ, List.map_append]
          congr 1
          · refine List.map_congr_left fun j hj => ?_
            have : j ≠ i := by have := List.mem_range.mp hj; omega
            simp only [if_neg this]
          · simp
        have e2 : (fun j => if j ∈ ks then ((List.range i).filter fun i' => decide (j ∈ lf i')) ++ [i] else (List.range i).filter fun i' => decide (j ∈ lf i')) = fun j => (List.range (i + 1)).filter fun i' => decide (j ∈ if i' = i then ks else lf i') := by
          funext j
          rw [List.range_succ, List.filter_append]
          have e3 : ((List.range i).filter fun i' => decide (j ∈ if i' = i then ks else lf i')) = (List.range i).filter fun i' => decide (j ∈ lf i') := by
            refine List.filter_congr fun i' hi' => ?_
            have : i' ≠ i := by have := List.mem_range.mp hi'; omega
            rw [if_neg this]
          rw [e3]
          by_cases h : j ∈ ks
          · simp [h]
          · simp [h]
        rw [e1, e2] at M4
        exact M4.sub (List.sublist_cons_self _ _)
      · show LdOk st ps i' (if i' = i then ks else lf i')
        by_cases e : i' = i
        · subst e
          rw [if_pos rfl]
          refine ⟨kn, fun j => ?_⟩
          rw [km, List.getD_eq_getElem?_getD, ep]
          rfl
        · rw [if_neg e]
          exact hld i' (by omega)
    · obtain ⟨lf, x5, x6, x7, x8, rfl, p, hld⟩ := p
      rw [pl] at p hld
      generalize hn : ps.length = n at p hld
      have nle : n ≤ 10 := by omega
      -- those that lead nowhere
      refine ⟨_, rfl, Lk, _, rfl, SqL.of (p.get (i := 0) rfl), fun Rd hRd => ?_⟩
      refine lc_it (walk_enum (xs := (List.range n).map fun j => V.int ((lf j).length : Nat))) (fun i H' => Loc T H ((Rd, .lst (((List.range i).filter fun j => decide ((lf j).length = 0)).map fun (j : Nat) => V.int (j : Int))) :: ([(Lk, .lst ((List.range n).map fun j => V.int ((lf j).length : Nat))), (Us, .lst (RF n ua)), (Hm, FD κ ps.flatten fun x => .int (hmv ps x : Nat))] ++ UE n ua fun j => (List.range n).filter fun i' => decide (j ∈ lf i'))) H') ?_ (fun i H' hi p => SqL.of (p.get (i := 1) rfl)) (fun i v H4 H5 hi p y => ?_) fun H' p => ?_
      · exact p.new hRd pl_lst
      · obtain ⟨Tt, x, z, rfl, hT, rfl, ex, ez⟩ := y
        cases ex
        rw [List.length_map, List.length_range] at hi
        have ez : ((List.range n).map fun j => V.int ((lf j).length : Nat))[i]? = some z := ez
        rw [List.getElem?_map, List.getElem?_range hi] at ez
        cases ez
        have M1 := p.mono (Gr.new (o := .tup [.int (i : Nat), .int ((lf i).length : Nat)]) hT)
        have hT2 : (upd H4 Tt (.tup [.int (i : Nat), .int ((lf i).length : Nat)])) Tt = some (.tup [.int (i : Nat), .int ((lf i).length : Nat)]) := upd_same
        generalize upd H4 Tt (.tup [.int (i : Nat), .int ((lf i).length : Nat)]) = H5 at M1 hT2
        refine ⟨Tt, _, rfl, SqT.of hT2, rfl, _, _, rfl, _, _, rfl, rfl, rfl, _, rfl, rfl, _, rfl, ite2 (fun e => ?_) fun e => ?_⟩
        · have e0 : (lf i).length = 0 := by
            have : (((lf i).length : Nat) : Int) = 0 := by simpa using e
            omega
          refine ⟨_, rfl, _, M1.get (i := 0) rfl, lt_line ?_, ?_⟩
          · rw [List.length_map]
            have := List.length_filter_le (fun j => decide ((lf j).length = 0)) (List.range i)
            rw [List.length_range] at this
            omega
          · have e1 : (((List.range i).filter fun j => decide ((lf j).length = 0)).map fun (j : Nat) => V.int (j : Int)) ++ [V.int (i : Int)] = ((List.range (i + 1)).filter fun j => decide ((lf j).length = 0)).map fun (j : Nat) => V.int (j : Int) := by
              rw [filt_snoc, if_pos (decide_eq_true e0), List.map_append]
              rfl
            rw [e1]
            exact M1.set (i := 0) rfl pl_lst
        · have e0 : (lf i).length ≠ 0 := fun z => by
            rw [z] at e
            simp at e
          have e1 : ((List.range (i + 1)).filter fun j => decide ((lf j).length = 0)) = (List.range i).filter fun j => decide ((lf j).length = 0) := by
            rw [filt_snoc, if_neg (by rw [decide_eq_false e0]; exact Bool.false_ne_true)]
          rw [e1]
          exact M1
      rw [List.length_map, List.length_range] at p
      refine ⟨Nat.zero_le _, fun Fo hFo => ?_⟩
      have L4 := p.new hFo (pl_lst (xs := []))
      generalize upd H' Fo (.lst []) = H4 at L4
      have I0 : KI lf n [] ((List.range n).filter fun j => decide ((lf j).length = 0)) (fun i => ((lf i).length : Int)) := KI.start _ (List.nodup_range.filter _) fun i => by
        rw [List.mem_filter, List.mem_range]
        simp
      -- what stands at the head of each part
      have hkv : ∀ r : Nat, ∃ (v : V) (x : Nd), r < n → ∃ b vs, pvs[r]? = some (.ref b) ∧ H b = some (.tup vs) ∧ vs[0]? = some v ∧ NV κ H v x := fun r => by
        by_cases hrn : r < n
        · have hr' : r < ps.length := by omega
          obtain ⟨v, ev, b, vs, rfl, hb, hvs⟩ := hpv.at_ (List.getElem?_eq_getElem hr')
          have ne := hP.ne _ (List.getElem_mem hr')
          cases hc : ps[r] with
          | nil => exact absurd hc ne
          | cons x0 p0 =>
            rw [hc] at hvs
            obtain ⟨v0, e0, r0⟩ := hvs.at_ (i := 0) (n := x0) rfl
            exact ⟨v0, x0, fun _ => ⟨b, vs, ev, hb, e0, r0⟩⟩
        · exact ⟨.non, (0, 0), fun z => absurd z hrn⟩
      obtain ⟨kf, hkf⟩ := Classical.axiomOfChoice hkv
      obtain ⟨xf, hkf⟩ := Classical.axiomOfChoice hkf
      refine while_m (fun m σ H' => ∃ (D R : List Nat) (lack : Nat → Int) (x5 x6 x7 x8 x11 : Option V), σ = [some (.ref l), some (.ref nd), some (.ref Hm), some (.ref Us), some (.ref Lk), x5, x6, x7, x8, some (.ref Rd), some (.ref Fo), x11, none, none, none] ∧ m = n - D.length ∧ KI lf n D R lack ∧
        Loc T H ([(Fo, .lst (D.map fun i => pvs.getD i .non)), (Rd, .lst (R.map fun (j : Nat) => V.int (j : Int))), (Lk, .lst ((List.range n).map fun j => V.int (lack j))), (Us, .lst (RF n ua)), (Hm, FD κ ps.flatten fun x => .int (hmv ps x : Nat))] ++ UE n ua fun j => (List.range n).filter fun i' => decide (j ∈ lf i')) H') ?_ (fun m σ H' hp => ?_) (fun σ H' Q1 Q2 hm hq => ?_)
      · exact ⟨_, [], _, _, x5, x6, x7, x8, none, rfl, rfl, I0, L4⟩
      · obtain ⟨D, R, lack, x5, x6, x7, x8, x11, rfl, rfl, I, L⟩ := hp
        refine ⟨_, rfl, Rd, _, rfl, .inl (SqL.of (L.get (i := 1) rfl)), _, _, rfl, rfl, _, rfl, ?_⟩
        rw [List.length_map]
        have tabs : ∀ {H' : Hp}, Gr T H H' → Tabs T H' := fun g => g.tab hT
        cases R with
        | nil =>
          refine iteF ?_
          refine ⟨_, rfl, Fo, _, rfl, .inl ⟨SqL.of (L.get (i := 0) rfl), fun q hq => ?_⟩⟩
          have gd : ∀ {i : Nat} {p : List Nd}, ps[i]? = some p → ps.getD i [] = p := fun e => by rw [List.getD_eq_getElem?_getD, e]; rfl
          refine k q _ _ (D.map fun i => ps.getD i []) (L.fresh hq) upd_same (L.g.trans (.new hq)) (Ech.map2 fun d hd => ?_) (hP.order (leads := lf) (lack := lack) (by rw [hn]; exact I) fun i j hi => ?_)
          · have dn : d < ps.length := by have := I.dLt d hd; omega
            obtain ⟨v, ev, r⟩ := hpv.at_ (List.getElem?_eq_getElem dn)
            have e1 : pvs.getD d .non = v := by rw [List.getD_eq_getElem?_getD, ev]; rfl
            show PtV κ _ (pvs.getD d .non) (ps.getD d [])
            rw [e1, gd (List.getElem?_eq_getElem dn)]
            exact r.gr (L.g.trans (.new hq))
          · rw [(hld i (by omega)).2 j]
            refine and_congr_right fun _ => ⟨fun ⟨x, hx, y, hy, e⟩ => ?_, fun ⟨hj, x, hx, y, hy, e⟩ => ⟨x, hx, y, hy, ?_⟩⟩
            · have ei := List.getElem?_eq_getElem hi
              rw [gd ei] at hx
              have xn : x ∈ ns := (hP.all x).mpr ⟨_, List.mem_of_getElem? ei, hx⟩
              obtain ⟨q', hq', hy'⟩ := hm_lt hP (hcl x xn y hy)
              rw [e] at hq'
              refine ⟨(List.getElem?_eq_some_iff.mp hq').1, x, ?_, y, hy, ?_⟩
              · rw [gd ei]
                exact hx
              · rw [gd hq']
                exact hy'
            · have ej := List.getElem?_eq_getElem hj
              rw [gd ej] at e
              exact hm_at hP ej e
        | cons r0 R' =>
          have : decide ((0 : Int) < ((r0 :: R').length : Nat)) = true := decide_eq_true (by rw [List.length_cons]; omega)
          rw [this]
          refine iteT ?_
          generalize hRR : r0 :: R' = R at I L
          have Rne : R ≠ [] := by rw [← hRR]; exact List.cons_ne_nil _ _
          refine ⟨_, rfl, Rd, _, rfl, SqL.of (L.get (i := 1) rfl), (fun z => Rne (List.map_eq_nil_iff.mp z)), tabs L.g, fun H2 g2 T2 => ⟨fun i => kf (R.getD i 0), fun i => ndD κ (xf (R.getD i 0)), fun i j _ _ => ?_, fun i y hy => ?_, fun i y hy => ?_⟩⟩
          · refine ⟨?_, ?_, ?_⟩
            · cases κ <;> rfl
            · cases κ with
              | st => exact fun z => by cases z
              | pr => exact fun z => by cases z
            · cases κ with
              | st => exact Nat.zero_le _
              | pr => exact (by decide : 1 ≤ 60)
          · rw [List.getElem?_map] at hy
            obtain ⟨r, er, rfl⟩ := Option.map_eq_some_iff.mp hy
            have eg : R.getD i 0 = r := by rw [List.getD_eq_getElem?_getD, er]; rfl
            have rn := (I.rOk r (List.mem_of_getElem? er)).1
            obtain ⟨b, vs, h1, h2, h3, h4⟩ := hkf r rn
            have gg := L.g.trans g2
            show _ ∧ Dp K H2 (kf (R.getD i 0)) (ndD κ (xf (R.getD i 0)))
            rw [eg]
            exact ⟨⟨_, rfl, _, rfl, l, pvs, _, _, rfl, rfl, gg.sqL hl, atI_nat h1, b, vs, _, kf r, rfl, rfl, SqT.of (gg.tup h2), atI_nat (j := 0) h3, by show kf r = kf (R.getD i 0); rw [eg], rfl⟩, NV.dp (h4.gr gg)⟩
          · rw [List.getElem?_map] at hy
            obtain ⟨r, er, rfl⟩ := Option.map_eq_some_iff.mp hy
            have L2 := L.mono g2
            obtain ⟨rn, rD, r0'⟩ := I.rOk r (List.mem_of_getElem? er)
            obtain ⟨b, vs, h1, _⟩ := hkf r rn
            have gd : pvs.getD r .non = .ref b := by
              rw [List.getD_eq_getElem?_getD, h1]
              rfl
            have Dl := I.len
            have Rl := nat_le I.rNd fun d hd => (I.rOk d hd).1
            refine ⟨_, rfl, .inl ⟨rfl, _, SqL.of (L2.get (i := 1) rfl)⟩, _, rfl, Rd, R.map fun (j : Nat) => (j : Int), (r : Int), i, rfl, rfl, ?_, ?_, fun m hm e => ?_, ?_⟩
            · rw [List.map_map]
              exact L2.get (i := 1) rfl
            · rw [List.getElem?_map, er]
              rfl
            · rw [List.getElem?_map] at e
              obtain ⟨r', er', e'⟩ := Option.map_eq_some_iff.mp e
              have : r' = r := by omega
              subst this
              have h1 := (List.getElem?_eq_some_iff.mp er')
              have h2 := (List.getElem?_eq_some_iff.mp er)
              have := (List.getElem_inj (h₀ := h1.1) (h₁ := h2.1) I.rNd).mp (by rw [h1.2, h2.2])
              omega
            rw [erase_map, List.map_map]
            have L3 := L2.set (i := 1) rfl (pl_lst (xs := (R.eraseIdx i).map fun (j : Nat) => V.int (j : Int)))
            refine ⟨_, rfl, .inl ⟨rfl, _, SqL.of (L3.get (i := 0) rfl)⟩, _, rfl, _, rfl, l, pvs, _, _, rfl, rfl, L3.g.sqL hl, atI_nat h1, Fo, _, _, rfl, rfl, L3.get (i := 0) rfl, lt_line (by rw [List.length_map]; omega), ?_⟩
            have L4 := L3.set (i := 0) rfl (pl_lst (xs := (D.map fun i => pvs.getD i .non) ++ [.ref b]))
            have eF : (D.map fun i => pvs.getD i .non) ++ [V.ref b] = (D ++ [r]).map fun i => pvs.getD i .non := by
              rw [List.map_append, ← gd]
              rfl
            rw [eF] at L4 ⊢
            generalize hUa : ((List.range n).filter fun i' => decide (r ∈ lf i')) = Ua
            have hUm : ∀ i', i' ∈ Ua ↔ i' < n ∧ r ∈ lf i' := fun i' => by
              rw [← hUa, List.mem_filter, List.mem_range]
              simp
            have hUn : Ua.Nodup := by
              rw [← hUa]
              exact List.nodup_range.filter _
            have Ul := nat_le hUn fun d hd => ((hUm d).mp hd).1
            have hU := UE_at (L := [(Fo, HO.lst ((D ++ [r]).map fun i => pvs.getD i .non)), (Rd, .lst ((R.eraseIdx i).map fun (j : Nat) => V.int (j : Int))), (Lk, .lst ((List.range n).map fun j => V.int (lack j))), (Us, .lst (RF n ua)), (Hm, FD κ ps.flatten fun x => .int (hmv ps x : Nat))]) (n := n) (i := r) (ua := ua) (us := fun j => (List.range n).filter fun i' => decide (j ∈ lf i')) rn
            have L4 : Loc T H ([(Fo, HO.lst ((D ++ [r]).map fun i => pvs.getD i .non)), (Rd, .lst ((R.eraseIdx i).map fun (j : Nat) => V.int (j : Int))), (Lk, .lst ((List.range n).map fun j => V.int (lack j))), (Us, .lst (RF n ua)), (Hm, FD κ ps.flatten fun x => .int (hmv ps x : Nat))] ++ UE n ua fun j => (List.range n).filter fun i' => decide (j ∈ lf i')) _ := L4
            have hUH := L4.get hU
            rw [hUa] at hUH
            have hUD : ∀ {H' : Hp} {fo rd lk : HO}, Loc T H ([(Fo, fo), (Rd, rd), (Lk, lk), (Us, .lst (RF n ua)), (Hm, FD κ ps.flatten fun x => .int (hmv ps x : Nat))] ++ UE n ua fun j => (List.range n).filter fun i' => decide (j ∈ lf i')) H' → H' (ua r) = some (.lst (Ua.map fun (k : Nat) => V.int (k : Int))) := fun {H' fo rd lk} l' => by
              have hU := UE_at (L := [(Fo, fo), (Rd, rd), (Lk, lk), (Us, .lst (RF n ua)), (Hm, FD κ ps.flatten fun x => .int (hmv ps x : Nat))]) (n := n) (i := r) (ua := ua) (us := fun j => (List.range n).filter fun i' => decide (j ∈ lf i')) rn
              have z := l'.get hU
              rw [hUa] at z
              exact z
            refine ⟨_, rfl, _, rfl, Us, _, _, _, rfl, rfl, SqL.of (L4.get (i := 3) rfl), atI_nat (RF_at rn), ua r, rfl, ⟨_, SqL.of hUH⟩, ?_⟩
            refine for_it (walk_list (xs := Ua.map fun (k : Nat) => V.int (k : Int))) (fun b σ H' => ∃ x11, σ = [some (.ref l), some (.ref nd), some (.ref Hm), some (.ref Us), some (.ref Lk), some (.int (r : Nat)), x6, x7, x8, some (.ref Rd), some (.ref Fo), x11, none, none, none] ∧
              Loc T H ([(Fo, .lst ((D ++ [r]).map fun i => pvs.getD i .non)), (Rd, .lst ((R.eraseIdx i ++ (Ua.take b).filter fun u => decide (lack u - 1 = 0)).map fun (j : Nat) => V.int (j : Int))), (Lk, .lst ((List.range n).map fun j => V.int (if j ∈ Ua.take b then lack j - 1 else lack j))), (Us, .lst (RF n ua)), (Hm, FD κ ps.flatten fun x => .int (hmv ps x : Nat))] ++ UE n ua fun j => (List.range n).filter fun i' => decide (j ∈ lf i')) H') ?_ (fun b σ H' hb p => ?_) (fun b v σ H' H'' hb p y => ?_) fun σ H' p => ?_
            · refine ⟨x11, rfl, ?_⟩
              rw [List.take_zero, List.filter_nil, List.append_nil]
              simp only [List.not_mem_nil, if_false]
              exact L4
            · obtain ⟨_, _, p⟩ := p
              exact SqL.of (hUD p)
            · obtain ⟨x11, rfl, p⟩ := p
              obtain ⟨rfl, eu⟩ := y
              rw [List.getElem?_map] at eu
              obtain ⟨u, eu2, rfl⟩ := Option.map_eq_some_iff.mp eu
              have eu := eu2
              have un : u < n := ((hUm u).mp (List.mem_of_getElem? eu)).1
              have nin : u ∉ Ua.take b := fun h => by
                have e : Ua = Ua.take b ++ u :: Ua.drop (b + 1) := by
                  have hb' := (List.getElem?_eq_some_iff.mp eu).1
                  have := List.drop_eq_getElem_cons hb'
                  rw [(List.getElem?_eq_some_iff.mp eu).2] at this
                  rw [← this, List.take_append_drop]
                rw [e] at hUn
                exact (List.nodup_append.mp hUn).2.2 u h u List.mem_cons_self rfl
              have gl : ((List.range n).map fun j => V.int (if j ∈ Ua.take b then lack j - 1 else lack j))[u]? = some (.int (lack u)) := by
                rw [List.getElem?_map, List.getElem?_range un]
                show some (V.int (if u ∈ Ua.take b then lack u - 1 else lack u)) = _
                rw [if_neg nin]
              refine ⟨_, rfl, _, rfl, Lk, _, _, _, rfl, rfl, SqL.of (p.get (i := 2) rfl), Int.natCast_nonneg _, atI_nat gl, _, _, rfl, rfl, Lk, _, _, u, rfl, rfl, p.get (i := 2) rfl, ixN_nat (by rw [List.length_map, List.length_range]; exact un), ?_⟩
              have es : ((List.range n).map fun j => V.int (if j ∈ Ua.take b then lack j - 1 else lack j)).set u (.int (lack u - 1)) = (List.range n).map fun j => V.int (if j ∈ Ua.take (b + 1) then lack j - 1 else lack j) := by
                refine rg_set un ?_ fun j hj => ?_
                · show V.int (if u ∈ Ua.take (b + 1) then lack u - 1 else lack u) = _
                  rw [take_snoc eu, if_pos (by simp)]
                · show V.int (if j ∈ Ua.take (b + 1) then lack j - 1 else lack j) = V.int (if j ∈ Ua.take b then lack j - 1 else lack j)
                  rw [take_snoc eu]
                  by_cases h : j ∈ Ua.take b
                  · rw [if_pos h, if_pos (List.mem_append_left _ h)]
                  · rw [if_neg h, if_neg (fun z => (List.mem_append.mp z).elim h fun z => hj (List.mem_singleton.mp z))]
              rw [es]
              have L5 := p.set (i := 2) rfl (pl_lst (xs := (List.range n).map fun j => V.int (if j ∈ Ua.take (b + 1) then lack j - 1 else lack j)))
              have gl2 : ((List.range n).map fun j => V.int (if j ∈ Ua.take (b + 1) then lack j - 1 else lack j))[u]? = some (.int (lack u - 1)) := by
                rw [List.getElem?_map, List.getElem?_range un]
                show some (V.int (if u ∈ Ua.take (b + 1) then lack u - 1 else lack u)) = _
                rw [take_snoc eu, if_pos (by simp)]
              refine ⟨_, rfl, _, rfl, Lk, _, _, _, rfl, rfl, SqL.of (L5.get (i := 2) rfl), atI_nat gl2, rfl, _, rfl, ite2 (fun e => ?_) fun e => ?_⟩
              · have e0 : lack u - 1 = 0 := by simpa using e
                have ef : ((Ua.take (b + 1)).filter fun u => decide (lack u - 1 = 0)) = ((Ua.take b).filter fun u => decide (lack u - 1 = 0)) ++ [u] := by
                  rw [take_snoc eu, List.filter_append]
                  simp [e0]
                refine ⟨_, rfl, .inl ⟨rfl, _, SqL.of (L5.get (i := 1) rfl)⟩, _, rfl, Rd, _, _, rfl, rfl, L5.get (i := 1) rfl, lt_line ?_, _, rfl, ?_⟩
                · rw [List.length_map, List.length_append]
                  have h1 := List.length_eraseIdx_le R i
                  have h2 := List.length_filter_le (fun u => decide (lack u - 1 = 0)) (Ua.take b)
                  rw [List.length_take] at h2
                  omega
                · have em : ((R.eraseIdx i ++ (Ua.take b).filter fun u => decide (lack u - 1 = 0)).map fun (j : Nat) => V.int (j : Int)) ++ [V.int (u : Int)] = (R.eraseIdx i ++ (Ua.take (b + 1)).filter fun u => decide (lack u - 1 = 0)).map fun (j : Nat) => V.int (j : Int) := by
                    rw [ef, ← List.append_assoc, List.map_append (l₂ := [u])]
                    rfl
                  rw [em]
                  exact L5.set (i := 1) rfl pl_lst
              · have e0 : lack u - 1 ≠ 0 := by simpa using e
                have ef : ((Ua.take (b + 1)).filter fun u => decide (lack u - 1 = 0)) = (Ua.take b).filter fun u => decide (lack u - 1 = 0) := by
                  rw [take_snoc eu, List.filter_append]
                  simp [e0]
                refine ⟨_, rfl, ?_⟩
                rw [ef]
                exact L5
            · obtain ⟨x11, rfl, p⟩ := p
              rw [List.length_map, List.take_length] at p
              have ra : r ∈ R := List.mem_of_getElem? er
              have I2 := I.step ra (fun i hi => (hld i hi).1) (fun i hi h => ((hld i hi).2 i).mp h |>.1 rfl) hUn hUm (I.rNd.eraseIdx i) fun r' => by
                rw [List.mem_eraseIdx_iff_getElem?]
                constructor
                · rintro ⟨i', hi', e⟩
                  refine ⟨List.mem_of_getElem? e, fun z => hi' ?_⟩
                  subst z
                  have h1 := (List.getElem?_eq_some_iff.mp e)
                  have h2 := (List.getElem?_eq_some_iff.mp er)
                  exact (List.getElem_inj (h₀ := h1.1) (h₁ := h2.1) I.rNd).mp (by rw [h1.2, h2.2])
                · rintro ⟨h, ne⟩
                  obtain ⟨i', hi', e⟩ := List.mem_iff_getElem.mp h
                  have e' : R[i']? = some r' := by rw [List.getElem?_eq_getElem hi', e]
                  refine ⟨i', fun z => ne ?_, e'⟩
                  subst z
                  rw [er] at e'
                  exact (Option.some.inj e').symm
              have lt := I.lt ra
              refine ⟨n - (D ++ [r]).length, ?_, D ++ [r], _, _, _, _, _, _, _, rfl, rfl, I2, p⟩
              rw [List.length_append]
              show n - (D.length + 1) < _
              omega
      · obtain ⟨x, hx, p, ys, e0, e00, i, j, e1, e2, b, e3, q⟩ := hq
        exact ⟨x, hx, p, ys, e0, e00, i, j, e1, e2, b, e3, hm _ _ q⟩
end
end Bk
end
section
/-! is_table, Device. -/
namespace Bk
open PySem L2 LamX PySem.Spec PyProof.Rows
abbrev sIsTable : Stmt := top 21
abbrev sDevInit : Stmt := inClass (top 20) 0
/-- the module's constants -/
structure Gc (mg : Str → Option Value) : Prop where
  sig : ∃ t, mg "SIGNALS" = some (.str "abcde" t)
  ms : ∃ t, mg "MOST_STATES" = some (.int 60 t)
  mo : ∃ t, mg "MOST_SIGNS" = some (.int 10000 t)
section
variable {P : Program} {w : World} {K : PySem.W.Frag} {mg : Str → Option Value} {base : Heap} {T : List (Addr × Str)}
/-- states' numbers in a list -/
abbrev rowV (m : Nat) (g : Nat → Nat) : List V := (List.range m).map fun x => V.int (g x)
def spIsTable (T : List (Addr × Str)) (K : PySem.W.Frag) : Sp := fun vs H Q _ => ∃ (a : Addr) (m : Nat) (g : Nat → Nat) (v : V), vs = [.ref a, v] ∧ H a = some (.lst (rowV m g)) ∧ 1 ≤ m ∧ m ≤ 5 ∧ (∀ x, x < m → g x < m) ∧ (v = .non ∨ v = .int (m : Nat)) ∧ ∀ H', Gr T H H' → Q (.bl true) H'
theorem scIsTable : FnScope ["value", "many", "state"] ["value", "many"] (defScope sIsTable) := ⟨rfl, rfl, rfl, by decide +kernel, rfl, by decide +kernel, by decide +kernel⟩
theorem ok_isTable {f : Addr} {fd : FuncData} (F : Fun K "is_table" "is_table" sIsTable f fd) (B : Bt mg) (GC : Gc mg) (G1 : CalF P w K mg base CX0 1 "is_sequence" ["value"] (spIsSequence T K)) (G2 : CalF P w K mg base CX0 2 "is_number" ["value"] (spIsNumber K)) : FnOk P w K mg base CX0 3 f fd ["value", "many"] (spIsTable T K) := by
  refine F.ok scIsTable (fun vs H Q E h => ?_) (fun cdv A outer s H vs Q E hr h => ?_)
  · obtain ⟨a, m, g, v, rfl, _⟩ := h
    rfl
  · obtain ⟨a, m, g, v, rfl, ha, m1, m5, lt, hv, k⟩ := h
    obtain ⟨tms, hms⟩ := GC.ms
    refine ⟨_, (pss_cons (ps_if (PW.pt (pw_or (pt_not (pt_val (pe_cal G1 (hr.mono (by decide)) (pa_cons (pv 0) pa_nil) pass0))) (pw_or (pt_not (pt_chain op_le op_le pe_int (pe_callB call_len_seq (by rfl) B.len (by decide +kernel) (pa_cons (pv 0) pa_nil)) (pe_glob (v := .int 60) rfl hms ⟨_, rfl⟩))) (pw_or1 (PW.pt (pw_and (pt_cmpR op_notN (pv 1) pe_non (nomark _)) (pw_and1 (pt_cmpR op_ne (pe_callB call_len_seq (by rfl) B.len (by decide +kernel) (pa_cons (pv 0) pa_nil)) (pv 1) (nomark _))))))))) (pss_one (ps_ret pe_bl)) pss_nil)
      (pss_one (ps_ret (pe_callB (cr_all rfl) (by rfl) B.all (by decide +kernel) (pa_cons (pe_lc (own := [("state", 2)]) (g := gName 2) (tt := tYes) rfl scIsTable.nd (pi_list (pv 0)) (blkOk_by (N := ["value", "many", "state"]) (sc := defScope sIsTable) (by decide +kernel)) (fun _ _ _ _ _ => (pg_name (i := 2) scIsTable.nd rfl (Or.inl rfl))) (fun _ _ _ _ _ => pts_nil) (fun _ _ _ _ _ => (pe_and (pe_cal G2 hr (pa_cons (pv 2) pa_nil) pass0) (pe_one (pe_cmpR op_lt (pv 2) (pe_callB (call_lenK (K := K)) (by rfl) B.len (by decide +kernel) (pa_cons (pv 0) pa_nil)) (nomark _)))))) pa_nil))))), ?_⟩
    refine ⟨_, rfl, _, _, rfl, .lst ha, .inl rfl, fun H1 g1 => ⟨_, rfl, iteF ?_⟩⟩
    have hl : (rowV m g).length = m := by rw [rowV, List.length_map, List.length_range]
    have ha1 := g1.lst ha
    refine ⟨_, rfl, a, _, rfl, .inl (SqL.of ha1), _, _, rfl, rfl, _, rfl, ?_⟩
    rw [hl, decide_eq_true (show (1 : Int) ≤ (m : Nat) by omega)]
    refine iteT ⟨_, _, rfl, rfl, _, rfl, ?_⟩
    rw [decide_eq_true (show ((m : Nat) : Int) ≤ 60 by omega)]
    refine iteF ?_
    have body : (tRet (tCB (rAll K) (tCons (tLc (iList K (tVar 0)) (gName 2) tYes (tAndV (tCall (spIsNumber K) [] E0 (tCons (tVar 2) tNil)) (tOp (rI0 fun i j => V.bl (decide (i < j))) (tVar 2) (tLn K (tCons (tVar 0) tNil)))) [2]) tNil))) { nx := fun x H' => Q V.non H', rt := Q } [some (.ref a), some v, none] H1 := by
      refine ⟨_, rfl, a, rfl, ⟨_, SqL.of ha1⟩, fun D hD => ?_⟩
      have wk : Walk (Itl K a) (List.range m).length (fun H => SqL K H a ((List.range m).map fun x => V.int (g x))) (YAt ((List.range m).map fun x => V.int (g x))) := walk_listL
      refine lc_fm (T := T) (L := []) (F := fun x => some (V.bl (decide (g x < m)))) wk .start hD (fun H' g' => g'.sqL (SqL.of ha1)) (fun i x H2 hx g2 fm => ?_) fun H2 g2 fm => ?_
      · have hxm : x < m := List.mem_range.mp (List.mem_of_getElem? hx)
        refine ⟨rfl, _, rfl, _, _, rfl, .int _, _, rfl, ?_⟩
        have e : isNumV (V.int (g x : Nat)) = true := decide_eq_true (Int.natCast_nonneg (g x))
        rw [e]
        refine iteT ⟨_, rfl, _, rfl, a, _, rfl, .inl (SqL.of (g2.lst ha1)), _, _, rfl, rfl, ?_⟩
        have e2 : decide (((g x : Nat) : Int) < ((rowV m g).length : Nat)) = decide (g x < m) := by
          rw [hl]
          exact decide_eq_decide.mpr (by omega)
        have z := fm_add hD g2 fm hx rfl (by rw [List.length_range]; exact lt_line (by omega))
        rw [← e2] at z
        exact z
      · have e : ((List.range m).filterMap fun x => some (V.bl (decide (g x < m)))) = ((List.range m).map fun x => decide (g x < m)).map V.bl := by
          rw [List.map_map]
          exact fm_map _ _
        rw [e] at fm
        refine ⟨D, _, rfl, SqL.of (fm.get (i := 0) rfl), ?_⟩
        have e2 : (((List.range m).map fun x => decide (g x < m)).all id) = true := by
          rw [List.all_map, List.all_eq_true]
          intro x hx
          exact decide_eq_true (lt x (List.mem_range.mp hx))
        rw [e2]
        exact k H2 (g1.trans g2)
    rcases hv with rfl | rfl
    · exact ⟨_, rfl, rfl, _, rfl, iteF (iteF body)⟩
    · refine ⟨_, rfl, rfl, _, rfl, iteT ⟨_, rfl, a, _, rfl, .inl (SqL.of ha1), _, rfl, rfl, _, rfl, ?_⟩⟩
      rw [hl]
      have e : (!decide (V.int (m : Nat) = V.int (m : Nat))) = false := by simp
      rw [e]
      exact iteF body
/-! Device(tables) -/
/-- the tables of d as a list of lists -/
def TbsL (H : Hp) (a : Addr) (d : Dv) : Prop := ∃ ts, H a = some (.lst ts) ∧ ts.length = d.s ∧ ∀ i v, ts[i]? = some v → ∃ q, v = .ref q ∧ H q = some (.lst (rowV d.m (d.f i)))
abbrev devF (d : Dv) (t : Addr) : List (Str × V) := [("states", .int d.m), ("signals", .str (tx (sgs d))), ("tables", .ref t)]
theorem cut_sig (s : Nat) (h : s ≤ 5) : cutS "abcde" none (some (s : Int)) = tx ((List.range s).map sc) := by
  have : ∀ s : Fin 6, cutS "abcde" none (some ((s.1 : Nat) : Int)) = tx ((List.range s.1).map sc) := by decide +kernel
  exact this ⟨s, by omega⟩
def spDevInit (T : List (Addr × Str)) (C : Addr) : Sp := fun vs H Q _ => ∃ (H0 : Hp) (p dx a : Addr) (d : Dv), vs = [.ref p, .ref a] ∧ Loc T H0 [(p, .ins C dx [])] H ∧ TbsL H0 a d ∧ ∀ H', Gr T H0 H' → DevAt C d p H' → Q .non H'
theorem scDevInit : FnScope ["self", "tables", "at", "table"] ["self", "tables"] (defScope sDevInit) := ⟨rfl, rfl, rfl, by decide +kernel, rfl, by decide +kernel, by decide +kernel⟩
theorem ok_devInit {f C : Addr} {fd : FuncData} (F : Fun K "__init__" "Device.__init__" sDevInit f fd) (B : Bt mg) (GC : Gc mg) (DC : DvC K mg C) (G1 : CalF P w K mg base CX0 1 "is_sequence" ["value"] (spIsSequence T K)) (G2 : CalF P w K mg base CX0 3 "is_table" ["value", "many"] (spIsTable T K)) : FnOk P w K mg base CX0 4 f fd ["self", "tables"] (spDevInit T C) := by
  refine F.ok scDevInit (fun vs H Q E h => ?_) (fun cdv A outer s H vs Q E hr h => ?_)
  · obtain ⟨H0, p, dx, a, d, rfl, _⟩ := h
    rfl
  · obtain ⟨H0, p, dx, a, d, rfl, L, ⟨ts, ha, hl, ht⟩, k⟩ := h
    obtain ⟨tsg, hsg⟩ := GC.sig
    refine ⟨_, (pss_cons (ps_if (PW.pt (pw_or (pt_not (pt_val (pe_cal G1 (hr.mono (by decide)) (pa_cons (pv 1) pa_nil) pass0))) (pw_or1 (pt_not (pt_chain op_le op_le pe_int (pe_callB call_len_seq (by rfl) B.len (by decide +kernel) (pa_cons (pv 1) pa_nil)) (pe_callB call_len_str (by rfl) B.len (by decide +kernel) (pa_cons (pe_glob (v := .str "abcde") rfl hsg ⟨_, rfl⟩) pa_nil))))))) (pss_one ps_never) pss_nil)
      (pss_cons (ps_for PassesOwn.never rfl (pi_enum (by rfl) B.enumerate (pa_cons (pv 1) pa_nil)) (pg_tup rfl (pgs_cons (pg_name (i := 2) scDevInit.nd rfl (Or.inl rfl)) (pgs_cons (pg_name (i := 3) scDevInit.nd rfl (Or.inl rfl)) pgs_nil))) (pss_one (ps_if (pt_not (pt_val (pe_cal G2 hr (pa_cons (pv 3) (pa_cons (pe_ifExp (pt_cmpR op_gt (pv 2) pe_int (nomark _)) (pe_callB call_len_seq (by rfl) B.len (by decide +kernel) (pa_cons (pe_ix ix_list (pv 1) pe_int (fun _ _ => rfl)) pa_nil)) pe_non) pa_nil)) pass0))) (pss_one ps_never) pss_nil)))
      (pss_cons (ps_fld (pv 0) (pe_callB call_len_seq (by rfl) B.len (by decide +kernel) (pa_cons (pe_ix ix_list (pv 1) pe_int (fun _ _ => rfl)) pa_nil)) rfl)
      (pss_cons (ps_fld (pv 0) (pe_slice sl_str (pe_glob (v := .str "abcde") rfl hsg ⟨_, rfl⟩) po_none (po_some (pe_callB call_len_seq (by rfl) B.len (by decide +kernel) (pa_cons (pv 1) pa_nil)))) rfl)
      (pss_one (ps_fld (pv 0) (pe_callTy call_tuple_of (by rfl) B.tuple (by decide +kernel) (pa_cons (pe_lc (own := [("table", 3)]) (g := gName 3) (tt := tYes) rfl scDevInit.nd (pi_list (pv 1)) (blkOk_by (N := ["self", "tables", "at", "table"]) (sc := defScope sDevInit) (by decide +kernel)) (fun _ _ _ _ _ => (pg_name (i := 3) scDevInit.nd rfl (Or.inl rfl))) (fun _ _ _ _ _ => pts_nil) (fun _ _ _ _ _ => (pe_callTy (call_tupleK (K := K)) (by rfl) B.tuple (by decide +kernel) (pa_cons (pv 3) pa_nil)))) pa_nil)) rfl)))))), ?_⟩
    have haH := L.g.lst ha
    refine ⟨_, rfl, _, _, rfl, .lst haH, .inl rfl, fun H1 g1 => ⟨_, rfl, iteF ?_⟩⟩
    have L1 := L.mono g1
    have ha1 := L1.g.lst ha
    refine ⟨_, rfl, a, _, rfl, .inl (SqL.of ha1), _, _, rfl, rfl, _, rfl, ?_⟩
    have s1 := d.s1
    have s5 := d.s5
    rw [hl, decide_eq_true (show (1 : Int) ≤ (d.s : Nat) by omega)]
    refine iteT ⟨_, rfl, (by decide), _, _, rfl, rfl, _, rfl, ?_⟩
    rw [decide_eq_true (show ((d.s : Nat) : Int) ≤ (Str.length "abcde" : Nat) by show ((d.s : Nat) : Int) ≤ (5 : Nat); omega)]
    refine iteF ?_
    obtain ⟨q0, e0, h0⟩ := ht 0 _ (List.getElem?_eq_getElem (by omega))
    have e0 : ts[0]? = some (.ref q0) := by rw [List.getElem?_eq_getElem (by omega), e0]
    have hrl : ∀ i, (rowV d.m (d.f i)).length = d.m := fun i => by rw [rowV, List.length_map, List.length_range]
    have m1 := d.m1
    have m5 := d.m5
    refine ⟨_, rfl, a, ts, rfl, SqL.of ha1, ?_⟩
    refine for_it (walk_enum (xs := ts)) (fun i σ H => ∃ x2 x3, σ = [some (.ref p), some (.ref a), x2, x3] ∧ Loc T H0 [(p, .ins C dx [])] H) ⟨none, none, rfl, L1⟩ (fun i σ H hi q => ?_) (fun i v σ H2 H3 hi q y => ?_) fun σ H2 q => ?_
    · obtain ⟨_, _, _, q⟩ := q
      exact SqL.of (q.g.lst ha)
    · obtain ⟨x2, x3, rfl, q⟩ := q
      obtain ⟨Tt, x, z, rfl, hT, rfl, ex, ez⟩ := y
      cases ex
      obtain ⟨qi, rfl, hqi⟩ := ht i z ez
      have L2 := q.mono (Gr.new (o := .tup [.int (i : Nat), .ref qi]) hT)
      have hT2 : (upd H2 Tt (.tup [.int (i : Nat), .ref qi])) Tt = some (.tup [.int (i : Nat), .ref qi]) := upd_same
      generalize upd H2 Tt (.tup [.int (i : Nat), .ref qi]) = H3 at L2 hT2
      refine ⟨Tt, _, rfl, SqT.of hT2, rfl, _, _, rfl, _, _, rfl, rfl, ?_⟩
      refine ⟨_, rfl, _, rfl, _, _, rfl, rfl, _, rfl, ite2 (fun e => ?_) fun e => ?_⟩
      · refine ⟨_, rfl, _, _, _, _, rfl, rfl, SqL.of (L2.g.lst ha), atI_nat (j := 0) e0, q0, _, rfl, .inl (SqL.of (L2.g.lst h0)), ?_⟩
        rw [hrl]
        exact ⟨qi, d.m, d.f i, _, rfl, L2.g.lst hqi, m1, m5, fun x _ => d.lt i x, .inr rfl, fun H4 g4 => ⟨_, rfl, iteF ⟨_, _, rfl, L2.mono g4⟩⟩⟩
      · exact ⟨qi, d.m, d.f i, _, rfl, L2.g.lst hqi, m1, m5, fun x _ => d.lt i x, .inl rfl, fun H4 g4 => ⟨_, rfl, iteF ⟨_, _, rfl, L2.mono g4⟩⟩⟩
    · obtain ⟨x2, x3, rfl, q⟩ := q
      refine ⟨_, rfl, _, _, _, _, rfl, rfl, SqL.of (q.g.lst ha), atI_nat (j := 0) e0, q0, _, rfl, .inl (SqL.of (q.g.lst h0)), _, rfl, p, C, dx, _, rfl, q.get (i := 0) rfl, DC.cl, DC.n1, (by decide), ?_⟩
      rw [hrl]
      have L2 := q.set (i := 0) rfl (pl_ins (C := C) (dx := dx) (fs := [("states", .int (d.m : Nat))]))
      refine ⟨_, rfl, a, ts, rfl, .inl (SqL.of (L2.g.lst ha)), _, rfl, _, rfl, (by decide), _, rfl, p, C, dx, _, rfl, L2.get (i := 0) rfl, DC.cl, DC.n2, (by show 1 < 1000; decide), ?_⟩
      rw [hl, cut_sig _ s5]
      have L3 := L2.set (i := 0) rfl (pl_ins (C := C) (dx := dx) (fs := [("states", .int (d.m : Nat)), ("signals", .str (tx (sgs d)))]))
      have L3 : Loc T H0 [(p, .ins C dx [("states", .int (d.m : Nat)), ("signals", .str (tx (sgs d)))])] (upd (upd H2 p (.ins C dx (putF "states" (.int (d.m : Nat)) []))) p (.ins C dx (putF "signals" (.str (tx ((List.range d.s).map sc))) [("states", .int (d.m : Nat))]))) := L3
      generalize upd (upd H2 p (.ins C dx (putF "states" (.int (d.m : Nat)) []))) p (.ins C dx (putF "signals" (.str (tx ((List.range d.s).map sc))) [("states", .int (d.m : Nat))])) = H3 at L3 ⊢
      refine ⟨_, rfl, a, rfl, ⟨_, SqL.of (L3.g.lst ha)⟩, fun D hD => ?_⟩
      refine lc_it (walk_list (xs := ts)) (fun i H => ∃ tv : List V, Loc T H0 [(D, .lst tv), (p, .ins C dx [("states", .int (d.m : Nat)), ("signals", .str (tx (sgs d)))])] H ∧ tv.length = i ∧ ∀ j v, tv[j]? = some v → Eff d.m (d.f j) H v) ⟨[], L3.new hD pl_lst, rfl, fun j v e => by simp at e⟩ (fun i H hi q => ?_) (fun i v H4 H5 hi q y => ?_) fun H4 q => ?_
      · obtain ⟨tv, q, _⟩ := q
        exact SqL.of (q.g.lst ha)
      · obtain ⟨tv, q, tl, te⟩ := q
        obtain ⟨rfl, ez⟩ := y
        obtain ⟨qi, rfl, hqi⟩ := ht i v ez
        refine ⟨rfl, _, rfl, qi, _, rfl, .inl ⟨SqL.of (q.g.lst hqi), fun t ht' => ?_⟩⟩
        have L4 := q.mono (Gr.new (o := .tup (rowV d.m (d.f i))) ht')
        have t1 : TupK H5 (upd H5 t (.tup (rowV d.m (d.f i)))) := TupK.new ht'
        have hE : Eff d.m (d.f i) (upd H5 t (.tup (rowV d.m (d.f i)))) (.ref t) := ⟨t, rfl, upd_same⟩
        refine ⟨tv, L4.get (i := 0) rfl, lt_line (by omega), tv ++ [V.ref t], L4.set (i := 0) rfl (pl_lst (xs := tv ++ [V.ref t])), by rw [List.length_append, tl]; rfl, fun j v e => ?_⟩
        have t2 := L4.tk (i := 0) (u := .lst (tv ++ [.ref t])) rfl lst_ne_tup
        by_cases hj : j < tv.length
        · rw [List.getElem?_append_left hj] at e
          obtain ⟨b, eb, hb⟩ := te j v e
          exact ⟨b, eb, t2 _ _ (t1 _ _ hb)⟩
        · rw [List.getElem?_append_right (by omega)] at e
          have ej : j = i := by
            have := (List.getElem?_eq_some_iff.mp e).1
            simp at this
            omega
          subst ej
          rw [tl, Nat.sub_self] at e
          cases e
          obtain ⟨b, eb, hb⟩ := hE
          exact ⟨b, eb, t2 _ _ hb⟩
      · obtain ⟨tv, q, tl, te⟩ := q
        refine ⟨D, tv, rfl, .inl ⟨SqL.of (q.get (i := 0) rfl), fun t ht' => ?_⟩⟩
        have L4 := q.mono (Gr.new (o := .tup tv) ht')
        have t1 : TupK H4 (upd H4 t (.tup tv)) := TupK.new ht'
        have htv : (upd H4 t (.tup tv)) t = some (.tup tv) := upd_same
        generalize upd H4 t (.tup tv) = H5 at L4 t1 htv
        refine ⟨_, rfl, p, C, dx, _, rfl, L4.get (i := 1) rfl, DC.cl, DC.n3, (by show 2 < 1000; decide), ?_⟩
        have L5 := L4.set (i := 1) rfl (pl_ins (C := C) (dx := dx) (fs := devF d t))
        have t2 := L4.tk (i := 1) (u := .ins C dx (devF d t)) rfl fun xs e => by cases e
        refine k _ L5.g ⟨dx, t, tv, L5.get (i := 1) rfl, t2 _ _ htv, by omega, fun j v e => ?_⟩
        obtain ⟨b, eb, hb⟩ := te j v e
        exact ⟨b, eb, t2 _ _ (t1 _ _ hb)⟩
end
end Bk
end
section
/-! check_lot, need_state, need_pair, check_row, effect. -/
namespace Bk
open PySem L2 LamX PySem.Spec PyProof.Rows
abbrev sCheckLot : Stmt := top 25
abbrev sNeedState : Stmt := top 22
abbrev sNeedPair : Stmt := top 23
abbrev sCheckRow : Stmt := top 24
abbrev sEffect : Stmt := inClass (top 20) 4
abbrev ErrV (P : Program) (K : PySem.W.Frag) (mg : Str → Option Value) (x n : Str) (C fI : Addr) : Prop := PySem.Bk.ErrT P K mg "ValueError" "ValueError.__new__" "ValueError" "ValueError.__init__" x n C fI
abbrev ErrK (P : Program) (K : PySem.W.Frag) (mg : Str → Option Value) (x n : Str) (C fI : Addr) : Prop := PySem.Bk.ErrT P K mg "LookupError" "LookupError.__new__" "KeyError" "KeyError.__init__" x n C fI
section
variable {P : Program} {w : World} {K : PySem.W.Frag} {mg : Str → Option Value} {base : Heap} {T : List (Addr × Str)}
/-- the way out with the error of C, its field n holding v -/
def Out (T : List (Addr × Str)) (C : Addr) (n : Str) (v : V) (H : Hp) (E : XK) : Prop := ∀ dd H', Gr T H H' → H dd = none → H' dd = some (.xd [(n, v)]) → E (.ref C) (some dd) H'
def spCheckLot (T : List (Addr × Str)) (K : PySem.W.Frag) (C Cr : Addr) : Sp := fun vs H Q E => ∃ p d v t, vs = [.ref p, v] ∧ DevAt C d p H ∧ Lk K H v t ∧ (isLotV (sgs d) v = true → ∀ H', Gr T H H' → Q v H') ∧ (isLotV (sgs d) v = false → Out T Cr "at" v H E)
theorem scCheckLot : FnScope ["device", "lot"] ["device", "lot"] (defScope sCheckLot) := ⟨rfl, rfl, rfl, by decide +kernel, rfl, by decide +kernel, by decide +kernel⟩
theorem ok_checkLot {f C Cr fI : Addr} {fd : FuncData} (F : Fun K "check_lot" "check_lot" sCheckLot f fd) (D : DvC K mg C) (ER : ErrV P K mg "Refused" "at" Cr fI) (G : CalF P w K mg base CX0 2 "is_lot_of" ["value", "signals"] (spIsLotOf T K)) : FnOk P w K mg base (L2.CX P w) 3 f fd ["device", "lot"] (spCheckLot T K C Cr) := by
  refine F.okX scCheckLot (fun vs H Q E h => ?_) (fun cdv A outer s H vs Q E hr h => ?_)
  · obtain ⟨p, d, v, t, rfl, _⟩ := h
    rfl
  · obtain ⟨p, d, v, t, rfl, hd, lv, k1, k2⟩ := h
    refine ⟨_, pss_cons (ps_if (pt_not (pt_val (pe_cal G hr (pa_cons (pv 1) (pa_cons (pe_fld (pv 0) rfl) pa_nil)) pass0))) (pss_one (ps_raise rfl (takes_of rfl rfl rfl rfl) (pmk_err ER PySem.F.excBase_ValueError PySem.W.kxs_ValueError PySem.Bk.iniF_V hr (pa_cons (pv 1) pa_nil)))) pss_nil) (pss_one (ps_ret (pv 1))), ?_⟩
    obtain ⟨dx, tb, ts, h1, _⟩ := id hd.ex
    refine ⟨_, rfl, _, rfl, p, C, dx, _, _, rfl, h1, D.cl, D.n2, rfl, v, t, sgs d, rfl, lv, by rw [sgs_len]; have := d.s5; omega, fun H1 g1 => ⟨_, rfl, ?_⟩⟩
    cases hb : isLotV (sgs d) v with
    | true => exact iteF ⟨_, rfl, k1 hb H1 g1⟩
    | false => exact iteT ⟨_, rfl, v, rfl, fun dd hdd => k2 hb dd _ (g1.trans (.new hdd)) (g1.dom _ hdd) upd_same⟩
/-! need_state, need_pair -/
def spNeedState (T : List (Addr × Str)) (K : PySem.W.Frag) (C Cs : Addr) : Sp := fun vs H Q E => ∃ p d v t, vs = [.ref p, v] ∧ DevAt C d p H ∧ Lk K H v t ∧ ((∃ n : Nat, v = .int n ∧ n < d.m ∧ Q v H) ∨ (isNumV v = false ∧ Out T Cs "state" v H E))
theorem scNeedState : FnScope ["device", "state"] ["device", "state"] (defScope sNeedState) := ⟨rfl, rfl, rfl, by decide +kernel, rfl, by decide +kernel, by decide +kernel⟩
theorem ok_needState {f C Cs fI : Addr} {fd : FuncData} (F : Fun K "need_state" "need_state" sNeedState f fd) (D : DvC K mg C) (ER : ErrK P K mg "NoState" "state" Cs fI) (G : CalF P w K mg base CX0 2 "is_number" ["value"] (spIsNumber K)) : FnOk P w K mg base (L2.CX P w) 3 f fd ["device", "state"] (spNeedState T K C Cs) := by
  refine F.okX scNeedState (fun vs H Q E h => ?_) (fun cdv A outer s H vs Q E hr h => ?_)
  · obtain ⟨p, d, v, t, rfl, _⟩ := h
    rfl
  · obtain ⟨p, d, v, t, rfl, hd, lv, k⟩ := h
    refine ⟨_, pss_cons (ps_if (PW.pt (pw_or (pt_not (pt_val (pe_cal G hr (pa_cons (pv 1) pa_nil) pass0))) (pw_or1 (pt_cmpR op_ge (pv 1) (pe_fld (pv 0) rfl) (nomark _))))) (pss_one (ps_raise rfl (takes_of rfl rfl rfl rfl) (pmk_err ER PySem.F.excBase_LookupError PySem.Bk.kxs_K PySem.Bk.iniF_K hr (pa_cons (pv 1) pa_nil)))) pss_nil) (pss_one (ps_ret (pv 1))), ?_⟩
    obtain ⟨dx, tb, ts, h1, _⟩ := id hd.ex
    refine ⟨_, rfl, v, t, rfl, lv, _, rfl, ?_⟩
    rcases k with ⟨n, rfl, hn, q⟩ | ⟨hb, q⟩
    · have e : isNumV (V.int (n : Nat)) = true := decide_eq_true (Int.natCast_nonneg n)
      rw [e]
      refine iteF ⟨_, rfl, _, rfl, p, C, dx, _, _, rfl, h1, D.cl, D.n1, rfl, _, _, rfl, rfl, _, rfl, ?_⟩
      rw [decide_eq_false (show ¬ ((d.m : Nat) : Int) ≤ (n : Nat) by omega)]
      exact iteF ⟨_, rfl, q⟩
    · rw [hb]
      exact iteT (iteT ⟨_, rfl, v, rfl, fun dd hdd => q dd _ (.new hdd) hdd upd_same⟩)
def spNeedPair (T : List (Addr × Str)) (C Cp : Addr) : Sp := fun vs H Q E => ∃ p d b x y, vs = [.ref p, .ref b] ∧ DevAt C d p H ∧ H b = some (.tup [.int (x : Nat), .int (y : Nat)]) ∧ ((x < y ∧ y < d.m → Q (.ref b) H) ∧ (¬ (x < y ∧ y < d.m) → Out T Cp "pair" (.ref b) H E))
theorem scNeedPair : FnScope ["device", "pair"] ["device", "pair"] (defScope sNeedPair) := ⟨rfl, rfl, rfl, by decide +kernel, rfl, by decide +kernel, by decide +kernel⟩
theorem ok_needPair {f C Cp fI : Addr} {fd : FuncData} (F : Fun K "need_pair" "need_pair" sNeedPair f fd) (B : Bt mg) (D : DvC K mg C) (ER : ErrK P K mg "NoPair" "pair" Cp fI) (G : CalF P w K mg base CX0 2 "is_number" ["value"] (spIsNumber K)) : FnOk P w K mg base (L2.CX P w) 3 f fd ["device", "pair"] (spNeedPair T C Cp) := by
  refine F.okX scNeedPair (fun vs H Q E h => ?_) (fun cdv A outer s H vs Q E hr h => ?_)
  · obtain ⟨p, d, b, x, y, rfl, _⟩ := h
    rfl
  · obtain ⟨p, d, b, x, y, rfl, hd, hb, k1, k2⟩ := h
    refine ⟨_, pss_cons (ps_if (PW.pt (pw_or (pt_not (pt_val (pe_callB call_isi (by rfl) B.isinstance (by decide +kernel) (pa_cons (pv 1) (pa_cons (pe_bltn (v := .ty "tuple") (by rfl) B.tuple (by decide +kernel) rfl) pa_nil)))))
        (pw_or (pt_cmpR op_ne (pe_callB call_len_seq (by rfl) B.len (by decide +kernel) (pa_cons (pv 1) pa_nil)) pe_int (nomark _))
        (pw_or (pt_not (pt_val (pe_cal G hr (pa_cons (pe_ix ix_seq (pv 1) pe_int (fun _ _ => rfl)) pa_nil) pass0))) (pw_or1 (pt_not (pt_val (pe_cal G hr (pa_cons (pe_ix ix_seq (pv 1) pe_int (fun _ _ => rfl)) pa_nil) pass0)))))))) (pss_one ps_never) pss_nil)
      (pss_cons (ps_if (pt_not (pt_chain op_lt op_lt (pe_ix ix_seq (pv 1) pe_int (fun _ _ => rfl)) (pe_ix ix_seq (pv 1) pe_int (fun _ _ => rfl)) (pe_fld (pv 0) rfl))) (pss_one (ps_raise rfl (takes_of rfl rfl rfl rfl) (pmk_err ER PySem.F.excBase_LookupError PySem.Bk.kxs_K PySem.Bk.iniF_K hr (pa_cons (pv 1) pa_nil)))) pss_nil)
      (pss_one (ps_ret (pv 1)))), ?_⟩
    obtain ⟨dx, tb, ts, h1, _⟩ := id hd.ex
    have lv : Lk K H (.ref b) "tuple" := .tup hb
    refine ⟨_, rfl, _, _, _, _, _, rfl, .ty _, lv.ty, lv.kit (by simp), _, rfl, iteF ?_⟩
    refine ⟨_, rfl, b, _, rfl, .inr (SqT.of hb), rfl, _, rfl, iteF ?_⟩
    have e : ∀ n : Nat, isNumV (V.int (n : Nat)) = true := fun n => decide_eq_true (Int.natCast_nonneg n)
    refine ⟨_, rfl, .inr (.inl ⟨b, _, _, _, rfl, rfl, SqT.of hb, atI_nat (j := 0) rfl, ?_⟩)⟩
    refine ⟨_, _, rfl, .int _, _, rfl, ?_⟩
    rw [e x]
    refine iteF ⟨_, rfl, .inr (.inl ⟨b, _, _, _, rfl, rfl, SqT.of hb, atI_nat (j := 1) rfl, ?_⟩)⟩
    refine ⟨_, _, rfl, .int _, _, rfl, ?_⟩
    rw [e y]
    refine iteF ?_
    refine ⟨_, rfl, .inr (.inl ⟨b, _, _, _, rfl, rfl, SqT.of hb, atI_nat (j := 0) rfl, _, rfl, .inr (.inl ⟨b, _, _, _, rfl, rfl, SqT.of hb, atI_nat (j := 1) rfl, _, _, rfl, rfl, _, rfl, ?_⟩)⟩)⟩
    by_cases hxy : x < y
    · rw [decide_eq_true (show ((x : Nat) : Int) < (y : Nat) by omega)]
      refine iteT ⟨_, rfl, p, C, dx, _, _, rfl, h1, D.cl, D.n1, rfl, _, _, rfl, rfl, _, rfl, ?_⟩
      by_cases hm : y < d.m
      · rw [decide_eq_true (show ((y : Nat) : Int) < (d.m : Nat) by omega)]
        exact iteF ⟨_, rfl, k1 ⟨hxy, hm⟩⟩
      · rw [decide_eq_false (show ¬ ((y : Nat) : Int) < (d.m : Nat) by omega)]
        exact iteT ⟨_, rfl, _, rfl, fun dd hdd => k2 (fun z => hm z.2) dd _ (.new hdd) hdd upd_same⟩
    · rw [decide_eq_false (show ¬ ((x : Nat) : Int) < (y : Nat) by omega)]
      exact iteF ⟨_, rfl, iteT ⟨_, rfl, _, rfl, fun dd hdd => k2 (fun z => hxy z.1) dd _ (.new hdd) hdd upd_same⟩⟩
end
end Bk
end
section
/-! check_row, effect. -/
namespace Bk
open PySem L2 LamX PySem.Spec PyProof.Rows
section
variable {P : Program} {w : World} {K : PySem.W.Frag} {mg : Str → Option Value} {base : Heap} {T : List (Addr × Str)}
def spCheckRow (T : List (Addr × Str)) (C : Addr) : Sp := fun vs H Q _ => ∃ p d r, vs = [.ref p, .str (tx r)] ∧ DevAt C d p H ∧ (∀ c ∈ r, c ∈ sgs d) ∧ r.length ≤ 1000 ∧ ∀ H', Gr T H H' → Q (.str (tx r)) H'
theorem scCheckRow : FnScope ["device", "row", "at", "signal"] ["device", "row"] (defScope sCheckRow) := ⟨rfl, rfl, rfl, by decide +kernel, rfl, by decide +kernel, by decide +kernel⟩
theorem ok_checkRow {f C : Addr} {fd : FuncData} (F : Fun K "check_row" "check_row" sCheckRow f fd) (B : Bt mg) (GC : Gc mg) (D : DvC K mg C) (G : CalF P w K mg base CX0 1 "is_text" ["value"] (spIsText K)) : FnOk P w K mg base CX0 2 f fd ["device", "row"] (spCheckRow T C) := by
  refine F.ok scCheckRow (fun vs H Q E h => ?_) (fun cdv A outer s H vs Q E hr h => ?_)
  · obtain ⟨p, d, r, rfl, _⟩ := h
    rfl
  · obtain ⟨p, d, r, rfl, hd, hr1, hr2, k⟩ := h
    obtain ⟨tmo, hmo⟩ := GC.mo
    refine ⟨_, (pss_cons (ps_if (pt_not (pt_val (pe_cal G hr (pa_cons (pv 1) pa_nil) pass0))) (pss_one ps_never) pss_nil)
      (pss_cons (ps_for PassesOwn.never rfl (pi_enumS (by rfl) B.enumerate (pa_cons (pv 1) pa_nil)) (pg_tup rfl (pgs_cons (pg_name (i := 2) scCheckRow.nd rfl (Or.inl rfl)) (pgs_cons (pg_name (i := 3) scCheckRow.nd rfl (Or.inl rfl)) pgs_nil))) (pss_one (ps_if (pt_cmpR op_notIn_sign (pv 3) (pe_fld (pv 0) rfl) rfl) (pss_one ps_never) pss_nil)))
      (pss_cons (ps_if (pt_cmpR op_gt (pe_callB call_len_str (by rfl) B.len (by decide +kernel) (pa_cons (pv 1) pa_nil)) (pe_glob (v := .int 10000) rfl hmo ⟨_, rfl⟩) (nomark _)) (pss_one ps_never) pss_nil)
      (pss_one (ps_ret (pv 1)))))), ?_⟩
    refine ⟨_, rfl, _, _, rfl, .str _, _, rfl, iteF ?_⟩
    refine ⟨_, rfl, tx r, rfl, ?_⟩
    refine for_it walk_T (fun i σ H' => ∃ x2 x3, σ = [some (.ref p), some (.str (tx r)), x2, x3] ∧ Gr T H H') ⟨none, none, rfl, .refl⟩ (fun _ _ _ _ _ => trivial) (fun i v σ H1 H2 hi q y => ?_) fun σ H1 q => ?_
    · obtain ⟨x2, x3, rfl, q⟩ := q
      obtain ⟨Tt, x, z, rfl, hT, rfl, ex, c, hc, rfl⟩ := y
      have hc := cps_at hc
      have g2 := q.trans (Gr.new (o := .tup [x, .str ⟨#[c]⟩]) hT)
      have hT2 : (upd H1 Tt (.tup [x, .str ⟨#[c]⟩])) Tt = some (.tup [x, .str ⟨#[c]⟩]) := upd_same
      generalize upd H1 Tt (.tup [x, .str ⟨#[c]⟩]) = H2 at g2 hT2
      obtain ⟨dx, tb, ts, h1, _⟩ := (hd.gr g2).ex
      refine ⟨Tt, _, rfl, SqT.of hT2, rfl, _, _, rfl, _, _, rfl, rfl, _, rfl, _, rfl, p, C, dx, _, _, rfl, h1, D.cl, D.n2, rfl, c, tx (sgs d), rfl, rfl, _, rfl, ?_⟩
      have e : decide (c ∈ (tx (sgs d)).cps.toList) = true := decide_eq_true (by rw [tx_tl]; exact hr1 c (List.mem_of_getElem? hc))
      rw [e]
      exact iteF ⟨_, _, rfl, g2⟩
    · obtain ⟨x2, x3, rfl, q⟩ := q
      refine ⟨_, rfl, tx r, rfl, by rw [tx_len]; exact Nat.le_of_lt (lt_line (by omega)), _, _, rfl, rfl, _, rfl, ?_⟩
      rw [decide_eq_false (show ¬ (10000 : Int) < ((tx r).length : Nat) by rw [tx_len]; omega)]
      exact iteF ⟨_, rfl, k _ q⟩
def effOf (d : Dv) (r : List Nat) (x : Nat) : Nat := r.foldl (fun x c => d.f (c - 97) x) x
theorem effOf_lt (d : Dv) : ∀ (r : List Nat) (x : Nat), x < d.m → effOf d r x < d.m
  | [], x, h => h
  | c :: r, x, h => effOf_lt d r _ (d.lt _ _)
theorem effOf_snoc (d : Dv) (r : List Nat) (c x : Nat) : effOf d (r ++ [c]) x = d.f (c - 97) (effOf d r x) := by
  unfold effOf
  rw [List.foldl_append]
  rfl
theorem sig_idx : ∀ a : Fin 5, Builtin.Str.occurrences "abcde" ⟨#[sc a.1]⟩ 0 (Str.length "abcde") 1 = [a.1] := by decide +kernel
def spEffect (T : List (Addr × Str)) (C : Addr) : Sp := fun vs H Q _ => ∃ p d r, vs = [.ref p, .str (tx r)] ∧ DevAt C d p H ∧ (∀ c ∈ r, c ∈ sgs d) ∧ r.length ≤ 1000 ∧ ∀ q H', Eff d.m (effOf d r) H' q → Gr T H H' → Q q H'
theorem scEffect : FnScope ["self", "row", "found", "signal", "table", "state"] ["self", "row"] (defScope sEffect) := ⟨rfl, rfl, rfl, by decide +kernel, rfl, by decide +kernel, by decide +kernel⟩
theorem ok_effect {f C : Addr} {fd : FuncData} (F : Fun K "effect" "Device.effect" sEffect f fd) (B : Bt mg) (GC : Gc mg) (D : DvC K mg C) (G : CalF P w K mg base CX0 2 "check_row" ["device", "row"] (spCheckRow T C)) : FnOk P w K mg base CX0 3 f fd ["self", "row"] (spEffect T C) := by
  refine F.ok scEffect (fun vs H Q E h => ?_) (fun cdv A outer s H vs Q E hr h => ?_)
  · obtain ⟨p, d, r, rfl, _⟩ := h
    rfl
  · obtain ⟨p, d, r, rfl, hd, hr1, hr2, k⟩ := h
    obtain ⟨tsg, hsg⟩ := GC.sig
    refine ⟨_, (pss_cons (ps_set (i := 2) scEffect.nd rfl (Or.inl rfl) (pe_callTy (cr_tupleRng rfl) (by rfl) B.tuple (by decide +kernel) (pa_cons (pe_callTy cr_range1 (by rfl) B.range (by decide +kernel) (pa_cons (pe_fld (pv 0) rfl) pa_nil)) pa_nil)))
      (pss_cons (ps_for PassesOwn.never rfl (pi_str (pe_cal G hr (pa_cons (pv 0) (pa_cons (pv 1) pa_nil)) pass0)) (pg_name (i := 3) scEffect.nd rfl (Or.inl rfl)) (pss_cons (ps_set (i := 4) scEffect.nd rfl (Or.inr rfl) (pe_ix ix_seq (pe_fld (pv 0) rfl) (pe_bm PySem.F.plainAttrs_str PySem.F.slot_str_index PySem.F.type_str_index mt_sindex (pe_glob (v := .str "abcde") rfl hsg ⟨_, rfl⟩) (pa_cons (pv 3) pa_nil)) (fun _ _ => rfl)))
      (pss_one (ps_set (i := 2) scEffect.nd rfl (Or.inl rfl) (pe_callTy call_tuple_of (by rfl) B.tuple (by decide +kernel) (pa_cons (pe_lc (own := [("state", 5)]) (g := gName 5) (tt := tYes) rfl scEffect.nd (pi_tup (pv 2)) (blkOk_by (N := ["self", "row", "found", "signal", "table", "state"]) (sc := defScope sEffect) (by decide +kernel)) (fun _ _ _ _ _ => (pg_name (i := 5) scEffect.nd rfl (Or.inl rfl))) (fun _ _ _ _ _ => pts_nil) (fun _ _ _ _ _ => (pe_ix (ix_seqK (K := K)) (pv 4) (pv 5) (fun _ _ => rfl)))) pa_nil))))))
      (pss_one (ps_ret (pv 2))))), ?_⟩
    obtain ⟨dx, tb, ts, h1, h2, h3, h4⟩ := id hd.ex
    have m1 := d.m1
    have m5 := d.m5
    refine ⟨_, rfl, p, C, dx, _, _, rfl, h1, D.cl, D.n1, rfl, _, rfl, fun r0 hr0 => ⟨r0, 0, _, rfl, upd_same, RgOk.of_le (by omega) (by omega) (by omega) (by omega), fun t ht => ?_⟩⟩
    have g1 : Gr T H (upd (upd H r0 (.rng 0 (d.m : Nat))) t (.tup (rgV 0 (d.m : Nat)))) := (Gr.new hr0).trans (.new ht)
    have ht2 : (upd (upd H r0 (.rng 0 (d.m : Nat))) t (.tup (rgV 0 (d.m : Nat)))) t = some (.tup ((List.range d.m).map fun (x : Nat) => V.int ((effOf d [] x : Nat) : Int))) := by
      rw [upd_same]
      unfold rgV effOf
      simp
    generalize (upd (upd H r0 (.rng 0 (d.m : Nat))) t (.tup (rgV 0 (d.m : Nat)))) = H1 at g1 ht2
    refine ⟨_, rfl, _, rfl, p, d, r, rfl, hd.gr g1, hr1, hr2, fun H2 g2 => ⟨tx r, rfl, ?_⟩⟩
    refine for_it walk_strL (fun i σ H' => ∃ (fv : V) (x3 x4 : Option V), σ = [some (.ref p), some (.str (tx r)), some fv, x3, x4, none] ∧ Gr T H H' ∧ Eff d.m (effOf d (r.take i)) H' fv) ⟨_, none, none, rfl, g1.trans g2, Eff.gr ⟨t, rfl, ht2⟩ g2⟩ (fun _ _ _ _ _ => trivial) (fun i v σ H3 H4 hi q y => ?_) fun σ H3 q => ?_
    · obtain ⟨fv, x3, x4, rfl, q, ⟨b, rfl, hb⟩⟩ := q
      obtain ⟨rfl, ev⟩ := y
      rw [List.getElem?_map] at ev
      obtain ⟨c, ec, rfl⟩ := Option.map_eq_some_iff.mp ev
      obtain ⟨a, ha, rfl⟩ := mem_sgs.mp (hr1 c (List.mem_of_getElem? ec))
      have s5 := d.s5
      have hl : a < ts.length := by omega
      obtain ⟨q', eq, hq⟩ := h4 a _ (List.getElem?_eq_getElem hl)
      refine ⟨_, rfl, p, C, dx, _, _, rfl, q.ins h1, D.cl, D.n3, rfl, rfl, _, rfl, _, _, a, [], rfl, rfl, sig_idx ⟨a, by omega⟩, .inr (.inl ⟨tb, ts, _, _, rfl, rfl, SqT.of (q.tup h2), atI_nat (List.getElem?_eq_getElem hl), ?_⟩)⟩
      rw [eq]
      refine ⟨_, rfl, b, rfl, ⟨_, SqT.of hb⟩, fun D1 hD1 => ?_⟩
      have wk : Walk (Itt K b) (List.range d.m).length (fun H => SqT K H b ((List.range d.m).map fun x => V.int (effOf d (r.take i) x))) (YAt ((List.range d.m).map fun x => V.int (effOf d (r.take i) x))) := walk_tupL
      refine lc_fm (T := T) (L := []) (F := fun x => some (V.int (d.f a (effOf d (r.take i) x)))) wk .start hD1 (fun H' g' => g'.sqT (SqT.of hb)) (fun j x H5 hx g5 fm => ?_) fun H5 g5 fm => ?_
      · have hxm : x < d.m := List.mem_range.mp (List.mem_of_getElem? hx)
        refine ⟨rfl, _, rfl, _, rfl, .inr (.inl ⟨q', _, _, _, rfl, rfl, g5.sqT (SqT.of (q.tup hq)), atI_nat (rg_at (effOf_lt d _ x hxm)), ?_⟩)⟩
        exact fm_add hD1 g5 fm hx rfl (by rw [List.length_range]; exact lt_line (by omega))
      · rw [fm_map] at fm
        refine ⟨D1, _, rfl, .inl ⟨SqL.of (fm.get (i := 0) rfl), fun l hl => ⟨_, _, _, rfl, (q.trans g5).trans (.new hl), l, rfl, ?_⟩⟩⟩
        rw [upd_same]
        congr 2
        refine List.map_congr_left fun x _ => ?_
        rw [take_snoc ec, effOf_snoc]
        show _ = V.int ((d.f (97 + a - 97) (effOf d (r.take i) x) : Nat) : Int)
        rw [Nat.add_sub_cancel_left]
    · obtain ⟨fv, x3, x4, rfl, q, hE⟩ := q
      rw [List.take_length] at hE
      exact ⟨_, rfl, k _ _ hE q⟩
end
end Bk
end
section
/-! Web.lot_held. -/
namespace Bk
open PySem L2 LamX PySem.Spec PyProof.Rows
abbrev sLotHeld : Stmt := inClass (top 33) 1
theorem tBM_K {X : Cx} {K : PySem.W.Frag} {e : Expr} {T : String} {r : V → List V → Hp → VK → Prop} {to : TE} {t : TA} (h : PE X e (tBM X.K T r to t)) (hK : X.K = K := by rfl) : PE X e (tBM K T r to t) := hK ▸ h
/-- the class Web -/
structure WbC (K : PySem.W.Frag) (mg : Str → Option Value) (C : Addr) : Prop where
  cl : Cls K C
  n1 : NoAttr K C "device"
  n2 : NoAttr K C "kind"
  n3 : NoAttr K C "nodes"
  n4 : NoAttr K C "_next"
  n5 : NoAttr K C "_steps"
  n6 : NoAttr K C "knots"
  n7 : NoAttr K C "_home"
  n8 : NoAttr K C "held"
  n9 : NoAttr K C "_great"
/-- the signals that a part holds -/
def heldL (κ : Kd) (d : Dv) (p : List Nd) : List Nat := ((List.range d.s).filter fun a => p.any fun x => oIn (nx κ d a x) p).map sc
/-- the step by a sign -/
def nxs (κ : Kd) (d : Dv) (n : Nd) (c : Nat) : Option Nd := nx κ d (c - 97) n
theorem sm_nds {κ : Kd} {d : Dv} {n : Nd} (h : n ∈ nds κ d) : smN n := by
  have := mem_nds.mp h
  have m5 := d.m5
  cases κ with
  | st =>
    obtain ⟨h1, h2⟩ := this
    exact ⟨by omega, by omega⟩
  | pr =>
    obtain ⟨h1, h2⟩ := this
    exact ⟨by omega, by omega⟩
theorem nxs_sc {κ : Kd} {d : Dv} {n : Nd} {a : Nat} : nxs κ d n (sc a) = nx κ d a n := by
  unfold nxs sc
  rw [Nat.add_sub_cancel_left]
section
variable {P : Program} {w : World} {K : PySem.W.Frag} {mg : Str → Option Value} {base : Heap} {T : List (Addr × Str)}
def spLotHeld (T : List (Addr × Str)) (K : PySem.W.Frag) (C : Addr) : Sp := fun vs H Q _ => ∃ (κ : Kd) (d : Dv) (p dx : Addr) (fs : List (Str × V)) (nd b : Addr) (kv : List V) (kn : List Nd), vs = [.ref p, .ref b, .str (tx (sgs d))] ∧ H p = some (.ins C dx fs) ∧ fs.lookup ("_next" : Str) = some (V.ref nd) ∧ StpD κ K H nd (nds κ d) (sgs d) (nxs κ d) ∧
  H b = some (.tup kv) ∧ NVs κ H kv kn ∧ kn.Nodup ∧ (∀ n ∈ kn, n ∈ nds κ d) ∧ ∀ H', Gr T H H' → Q (.str (tx (heldL κ d kn))) H'
theorem scLotHeld : FnScope ["self", "knot", "signals", "inside", "found", "signal", "node"] ["self", "knot", "signals"] (defScope sLotHeld) := ⟨rfl, rfl, rfl, by decide +kernel, rfl, by decide +kernel, by decide +kernel⟩
theorem ok_lotHeld {f C : Addr} {fd : FuncData} (F : Fun K "lot_held" "Web.lot_held" sLotHeld f fd) (B : Bt mg) (GC : Gc mg) (W : WbC K mg C) : FnOk P w K mg base CX0 1 f fd ["self", "knot", "signals"] (spLotHeld T K C) := by
  refine F.ok scLotHeld (fun vs H Q E h => ?_) (fun cdv A outer s H vs Q E hr h => ?_)
  · obtain ⟨κ, d, p, dx, fs, nd, b, kv, kn, rfl, _⟩ := h
    rfl
  · obtain ⟨κ, d, p, dx, fs, nd, b, kv, kn, rfl, hp, hf, hS, hb, hkv, knd, kin, k⟩ := h
    obtain ⟨tsg, hsg⟩ := GC.sig
    have u0 := hu0 hr
    have u1 := hu1 hr
    refine ⟨_, (pss_cons (ps_set (i := 3) scLotHeld.nd rfl (Or.inr rfl) (pe_gdc (own := [("node", 6)]) (g := gName 6) (tt := tYes) κ u0 rfl scLotHeld.nd (pi_tup (pv 1)) (blkOk_by (N := ["self", "knot", "signals", "inside", "found", "signal", "node"]) (sc := defScope sLotHeld) (by decide +kernel)) (fun _ _ _ _ _ => (pg_name (i := 6) scLotHeld.nd rfl (Or.inl rfl))) (fun _ _ _ _ _ => pts_nil) (fun _ _ _ _ _ => pv 6) (fun _ _ _ _ _ => pe_bl)))
      (pss_cons (ps_set (i := 4) scLotHeld.nd rfl (Or.inl rfl) pe_str)
      (pss_cons (ps_for PassesOwn.never rfl (pi_str (pv 2)) (pg_name (i := 5) scLotHeld.nd rfl (Or.inr rfl)) (pss_one (ps_if (pt_val (pe_callB (cr_any rfl) (by rfl) B.any (by decide +kernel) (pa_cons (pe_lc (own := [("node", 6)]) (g := gName 6) (tt := tYes) rfl scLotHeld.nd (pi_tup (pv 1)) (blkOk_by (N := ["self", "knot", "signals", "inside", "found", "signal", "node"]) (sc := defScope sLotHeld) (by decide +kernel)) (fun _ _ _ _ _ => (pg_name (i := 6) scLotHeld.nd rfl (Or.inl rfl))) (fun _ _ _ _ _ => pts_nil) (fun _ _ _ _ _ => (pe_cmp (pc_dinO κ u1 (pe_ix (ix_listK (K := K)) (pe_dget u1 (pe_fldK (K := K) (pv 0) rfl) (pv 6) (fun _ _ => rfl)) (tBM_K (K := K) (pe_bm PySem.F.plainAttrs_str PySem.F.slot_str_index PySem.F.type_str_index mt_sindex (pe_glob (v := .str "abcde") rfl hsg ⟨_, rfl⟩) (pa_cons (pv 5) pa_nil))) (fun _ _ => rfl)) (pv 3)) rfl))) pa_nil))) (pss_one (ps_aug (i := 4) scLotHeld.nd rfl (Or.inl rfl) (pv 5) iop_add_str)) pss_nil)))
      (pss_one (ps_ret (pv 4)))))), ?_⟩
    have s5 := d.s5
    have okk : ∀ m ∈ kn, Okn κ m ∧ smN m := fun m hm => ⟨(mem_nds.mp (kin m hm)).ok, sm_nds (kin m hm)⟩
    have kn10 : kn.length ≤ 10 := Nat.le_trans (nd_le knd kin) nds_len
    refine ⟨_, rfl, b, rfl, ⟨_, SqT.of hb⟩, fun D hD => ?_⟩
    refine lp_it (walk_tup (xs := kv)) (fun i H' => Loc T H [(D, FD κ (kn.take i) fun _ => .bl true)] H') ?_ (fun i H' hi q => SqT.of (q.g.tup hb)) (fun i v H1 H2 hi q y => ?_) fun H1 q => ?_
    · have e : (FD κ (kn.take 0) fun _ => V.bl true) = FD κ [] fun _ => .non := FD.congr fun m hm => by simp at hm
      rw [e]
      exact Loc.start.new hD pl_FD
    · obtain ⟨rfl, ev⟩ := y
      obtain ⟨x, ex, hx⟩ := hkv.2 i v ev
      have nx' : x ∉ kn.take i := fun h => by
        have e : kn = kn.take i ++ x :: kn.drop (i + 1) := by
          have hb' := (List.getElem?_eq_some_iff.mp ex).1
          have := List.drop_eq_getElem_cons hb'
          rw [(List.getElem?_eq_some_iff.mp ex).2] at this
          rw [← this, List.take_append_drop]
        rw [e] at knd
        exact (List.nodup_append.mp knd).2.2 x h x List.mem_cons_self rfl
      refine ⟨rfl, _, rfl, _, fd_put (q.get (i := 0) rfl) (fun m hm => (okk m (List.mem_of_mem_take hm)).1) (hx.gr q.g) (lt_line (by rw [List.length_take]; omega)), ?_⟩
      rw [if_neg nx']
      have e : FD κ (kn.take i ++ [x]) (fup (fun _ => V.bl true) x (.bl true)) = FD κ (kn.take (i + 1)) fun _ => .bl true := by
        rw [take_snoc ex]
        refine FD.congr fun m _ => ?_
        unfold fup
        split <;> rfl
      rw [e]
      exact q.set (i := 0) rfl pl_FD
    rw [hkv.1, List.take_length] at q
    refine ⟨_, rfl, tx (sgs d), rfl, ?_⟩
    refine for_it walk_strL (fun i σ H' => ∃ x5, σ = [some (.ref p), some (.ref b), some (.str (tx (sgs d))), some (.ref D), some (.str (tx (((List.range i).filter fun a => kn.any fun x => oIn (nx κ d a x) kn).map sc))), x5, none] ∧ Loc T H [(D, FD κ kn fun _ => .bl true)] H') ⟨none, rfl, q⟩ (fun _ _ _ _ _ => trivial) (fun a v σ H2 H3 ha q y => ?_) fun σ H2 q => ?_
    · obtain ⟨x5, rfl, q⟩ := q
      obtain ⟨rfl, ev⟩ := y
      rw [sgs_len] at ha
      have ea : (sgs d)[a]? = some (sc a) := by
        unfold sgs
        rw [List.getElem?_map, List.getElem?_range ha]
        rfl
      rw [List.getElem?_map, ea] at ev
      cases ev
      refine ⟨_, rfl, b, rfl, ⟨_, SqT.of (q.g.tup hb)⟩, fun E1 hE1 => ?_⟩
      refine lc_it (walk_tup (xs := kv)) (fun j H' => Loc T H [(E1, .lst ((kn.take j).map fun x => V.bl (oIn (nx κ d a x) kn))), (D, FD κ kn fun _ => .bl true)] H') (q.new hE1 pl_lst) (fun i H' hi q => SqT.of (q.g.tup hb)) (fun j v H4 H5 hj q y => ?_) fun H4 q => ?_
      · obtain ⟨rfl, ev⟩ := y
        obtain ⟨x, ex, hx⟩ := hkv.2 j v ev
        obtain ⟨g, g1, g2, g3⟩ := hS
        have xn := kin x (List.mem_of_getElem? ex)
        obtain ⟨l, vs, e1, e2, e3⟩ := g3 x xn
        obtain ⟨yv, ey, hy⟩ := e3.at_ (i := a) (n := nx κ d a x) (by rw [List.getElem?_map, ea]; exact congrArg some nxs_sc)
        have hd : DGet H5 nd v (some (.ref l)) := by
          rw [← e1]
          exact fd_has (.inl (q.g.ext _ _ g1 pl_FD.1)) g2 (hx.gr q.g) xn
        refine ⟨rfl, _, rfl, p, C, dx, fs, _, rfl, q.g.ins hp, W.cl, W.n4, hf, _, rfl, nd, _, rfl, hd, rfl, _, rfl, _, _, a, [], rfl, rfl, sig_idx ⟨a, by omega⟩, l, vs, _, yv, rfl, rfl, SqL.of (q.g.lst e2), atI_nat ey, _, rfl, D, kn, _, _, rfl, .inl (q.get (i := 1) rfl), okk, NVo.gr hy q.g, ?_⟩
        refine ⟨_, q.get (i := 0) rfl, lt_line (by rw [List.length_map, List.length_take]; omega), ?_⟩
        have e : ((kn.take j).map fun x => V.bl (oIn (nx κ d a x) kn)) ++ [V.bl (oIn (nx κ d a x) kn)] = (kn.take (j + 1)).map fun x => V.bl (oIn (nx κ d a x) kn) := by
          rw [take_snoc ex, List.map_append]
          rfl
        have L2 := q.set (i := 0) rfl (pl_lst (xs := ((kn.take j).map fun x => V.bl (oIn (nx κ d a x) kn)) ++ [V.bl (oIn (nx κ d a x) kn)]))
        have L3 : Loc T H [(E1, .lst (((kn.take j).map fun x => V.bl (oIn (nx κ d a x) kn)) ++ [V.bl (oIn (nx κ d a x) kn)])), (D, FD κ kn fun _ => .bl true)] _ := L2
        rw [← e]
        exact L3
      · rw [hkv.1, List.take_length] at q
        have e : (kn.map fun x => V.bl (oIn (nx κ d a x) kn)) = (kn.map fun x => oIn (nx κ d a x) kn).map V.bl := by
          rw [List.map_map]
          rfl
        rw [e] at q
        refine ⟨E1, _, rfl, SqL.of (q.get (i := 0) rfl), _, rfl, ?_⟩
        have e2 : ((kn.map fun x => oIn (nx κ d a x) kn).any id) = kn.any fun x => oIn (nx κ d a x) kn := by rw [List.any_map]; rfl
        rw [e2]
        have q' := q.sub (List.sublist_cons_self _ _)
        cases hb2 : kn.any fun x => oIn (nx κ d a x) kn with
        | true =>
          refine iteT ⟨_, rfl, _, rfl, _, _, rfl, rfl, ?_, some (.str (sgn (sc a))), ?_, q'⟩
          · rw [tx_len, List.length_map]
            have h1 := List.length_filter_le (fun a => kn.any fun x => oIn (nx κ d a x) kn) (List.range a)
            rw [List.length_range] at h1
            show _ + 1 ≤ _
            have := lt_line (n := a + 1) (by omega)
            omega
          · rw [filt_snoc, if_pos hb2, List.map_append, ← tx_app]
            rfl
        | false =>
          refine iteF ⟨some (.str (sgn (sc a))), ?_, q'⟩
          rw [filt_snoc, if_neg (by rw [hb2]; exact Bool.false_ne_true)]
          rfl
    · obtain ⟨x5, rfl, q⟩ := q
      rw [sgs_len]
      exact ⟨_, rfl, k H2 q.g⟩
end
end Bk
end
section
/-! Great lots: plain. -/
namespace Bk
open PySem L2
/-- the signals that q takes -/
def selL (d : Dv) (q : Nat → Bool) : List Nat := ((List.range d.s).filter q).map sc
theorem mem_selL {d : Dv} {q : Nat → Bool} {c : Nat} : c ∈ selL d q ↔ ∃ a, a < d.s ∧ q a = true ∧ c = sc a := by
  unfold selL
  rw [List.mem_map]
  constructor
  · rintro ⟨a, h, e⟩
    obtain ⟨h1, h2⟩ := List.mem_filter.mp h
    exact ⟨a, List.mem_range.mp h1, h2, e.symm⟩
  · rintro ⟨a, h1, h2, e⟩
    exact ⟨a, List.mem_filter.mpr ⟨List.mem_range.mpr h1, h2⟩, e.symm⟩
theorem sc_inj {a b : Nat} (h : sc a = sc b) : a = b := by unfold sc at h; omega
theorem within_iff {l m : List Nat} : within l m = true ↔ ∀ c ∈ l, c ∈ m := by
  unfold within
  rw [List.all_eq_true]
  exact ⟨fun h c hc => of_decide_eq_true (h c hc), fun h c hc => decide_eq_true (h c hc)⟩
theorem selL_anti {d : Dv} {q r : Nat → Bool} (h1 : within (selL d q) (selL d r) = true) (h2 : within (selL d r) (selL d q) = true) : selL d q = selL d r := by
  have key : ∀ {q r : Nat → Bool}, within (selL d q) (selL d r) = true → ∀ a, a < d.s → q a = true → r a = true := fun {q r} h a ha hq => by
    obtain ⟨b, _, h3, e⟩ := mem_selL.mp (within_iff.mp h (sc a) (mem_selL.mpr ⟨a, ha, hq, rfl⟩))
    rw [sc_inj e]
    exact h3
  unfold selL
  congr 1
  refine List.filter_congr fun a ha => ?_
  have ha := List.mem_range.mp ha
  cases hq : q a with
  | true => exact (key h1 a ha hq).symm
  | false =>
    cases hr : r a with
    | true =>
      have := key h2 a ha hr
      rw [hq] at this
      exact absurd this Bool.false_ne_true
    | false => rfl
theorem selL_len {d : Dv} {q : Nat → Bool} : (selL d q).length ≤ 5 := by
  unfold selL
  rw [List.length_map]
  have h1 := List.length_filter_le q (List.range d.s)
  rw [List.length_range] at h1
  have := d.s5
  omega
theorem inS_tx {l m : List Nat} : inS (tx l) (tx m) = within l m := by
  unfold inS
  rw [tx_tl, tx_tl]
/-- z is one of the lots: a selection of signals, not empty -/
def IsSel (d : Dv) (z : Str) : Prop := ∃ q, z = tx (selL d q) ∧ selL d q ≠ []
theorem inS_anti {d : Dv} {z m : Str} (hz : IsSel d z) (hm : IsSel d m) (h1 : inS z m = true) (h2 : inS m z = true) : z = m := by
  obtain ⟨q, rfl, _⟩ := hz
  obtain ⟨r, rfl, _⟩ := hm
  rw [inS_tx] at h1 h2
  rw [selL_anti h1 h2]
theorem inS_trans {a b c : Str} (h1 : inS a b = true) (h2 : inS b c = true) : inS a c = true := within_iff.mpr fun x hx => within_iff.mp h2 x (within_iff.mp h1 x hx)
theorem inS_refl {a : Str} : inS a a = true := within_iff.mpr fun x hx => hx
/-- a selection within another, not the same, is shorter -/
theorem inS_lt {d : Dv} {z m : Str} (hz : IsSel d z) (hm : IsSel d m) (h : inS z m = true) (ne : z ≠ m) : z.cps.toList.length < m.cps.toList.length := by
  obtain ⟨q, rfl, _⟩ := hz
  obtain ⟨r, rfl, _⟩ := hm
  rw [inS_tx] at h
  rw [tx_tl, tx_tl]
  have sub : (List.range d.s).filter q = ((List.range d.s).filter r).filter q := by
    rw [List.filter_filter]
    refine List.filter_congr fun a ha => ?_
    cases hq : q a with
    | false => rfl
    | true =>
      obtain ⟨b, _, h3, e⟩ := mem_selL.mp (within_iff.mp h (sc a) (mem_selL.mpr ⟨a, List.mem_range.mp ha, hq, rfl⟩))
      rw [sc_inj e, h3]
      rfl
  have hl : (selL d q).length ≤ (selL d r).length := by
    unfold selL
    rw [List.length_map, List.length_map, sub]
    exact List.length_filter_le _ _
  rcases Nat.lt_or_eq_of_le hl with h' | h'
  · exact h'
  · refine absurd ?_ ne
    have e : (List.range d.s).filter q = (List.range d.s).filter r := by
      unfold selL at h'
      rw [List.length_map, List.length_map, sub] at h'
      rw [sub]
      exact List.filter_eq_self.mpr (List.length_filter_eq_length_iff.mp h')
    unfold selL
    rw [e]
/-- the greatest of a set -/
def MaxOf (S : Str → Prop) (z : Str) : Prop := S z ∧ ∀ m, S m → inS z m = true → z = m
theorem max_above {d : Dv} {S : Str → Prop} (hS : ∀ z, S z → IsSel d z) : ∀ (k : Nat) (z : Str), S z → 5 - z.cps.toList.length ≤ k → ∃ m, MaxOf S m ∧ inS z m = true
  | k, z, hz, hk => by
    by_cases h : ∀ m, S m → inS z m = true → z = m
    · exact ⟨z, ⟨hz, h⟩, inS_refl⟩
    · simp only [Classical.not_forall] at h
      obtain ⟨m, hm, hi, ne⟩ := h
      have lt := inS_lt (hS z hz) (hS m hm) hi ne
      have le : m.cps.toList.length ≤ 5 := by
        obtain ⟨q, rfl, _⟩ := hS m hm
        rw [tx_tl]
        exact selL_len
      cases k with
      | zero => omega
      | succ k =>
        obtain ⟨u, hu, hi2⟩ := max_above hS k m hm (by omega)
        exact ⟨u, hu, inS_trans hi hi2⟩
/-- the greatest of a part of S that covers S are the greatest of S -/
theorem max_cover {d : Dv} {S Z : Str → Prop} (hS : ∀ z, S z → IsSel d z) (hZ : ∀ z, Z z → S z) (hc : ∀ z, S z → ∃ m, Z m ∧ inS z m = true) (z : Str) : MaxOf Z z ↔ MaxOf S z := by
  constructor
  · rintro ⟨h1, h2⟩
    refine ⟨hZ z h1, fun m hm hi => ?_⟩
    obtain ⟨u, hu, hi2⟩ := hc m hm
    have e := h2 u hu (inS_trans hi hi2)
    subst e
    exact inS_anti (hS _ (hZ _ h1)) (hS m hm) hi hi2
  · rintro ⟨h1, h2⟩
    obtain ⟨u, hu, hi⟩ := hc z h1
    have e := h2 u (hZ u hu) hi
    subst e
    exact ⟨hu, fun m hm hi => h2 m (hZ m hm) hi⟩
/-- what the part of n holds -/
def heldOf (κ : Kd) (d : Dv) (ks : List (List Nd)) (n : Nd) : List Nat := heldL κ d (ks.getD (hmv ks n) [])
/-- the lots that are held somewhere on the way from n -/
def SetS (κ : Kd) (d : Dv) (ks : List (List Nd)) (n : Nd) (z : Str) : Prop := ∃ o, Reach (stp κ d) n o ∧ z = tx (heldOf κ d ks o) ∧ heldOf κ d ks o ≠ []
theorem setS_sel {κ : Kd} {d : Dv} {ks : List (List Nd)} {n : Nd} {z : Str} (h : SetS κ d ks n z) : IsSel d z := by
  obtain ⟨o, _, e, h⟩ := h
  exact ⟨_, e, h⟩
def GreatAt (κ : Kd) (d : Dv) (ks : List (List Nd)) (n : Nd) (gs : List Str) : Prop := gs.Pairwise (fun a b => leT a b = true) ∧ gs.Nodup ∧ ∀ z, z ∈ gs ↔ MaxOf (SetS κ d ks n) z
section
variable {κ : Kd} {d : Dv} {ns : List Nd} {ks : List (List Nd)}
theorem held_at (P : Parts (stp κ d) ns ks) {i : Nat} {p : List Nd} {x : Nd} (hp : ks[i]? = some p) (hx : x ∈ p) : heldOf κ d ks x = heldL κ d p := by
  unfold heldOf
  rw [hm_at P hp hx, List.getD_eq_getElem?_getD, hp]
  rfl
theorem leave {st : Nd → List Nd} (P : Parts st ns ks) {i : Nat} {p : List Nd} (hp : ks[i]? = some p) {x o : Nd} (h : Reach st x o) (hx : x ∈ p) (ho : hmv ks o ≠ i) : ∃ x' ∈ p, ∃ y ∈ st x', hmv ks y ≠ i ∧ Reach st y o := by
  induction h with
  | refl a => exact absurd (hm_at P hp hx) ho
  | @step a b c hab hbc ih =>
    by_cases hb : hmv ks b = i
    · obtain ⟨j, q, _, hq, hbq⟩ := P.down i p hp a hx b hab
      have ej := hm_at P hq hbq
      rw [hb] at ej
      subst ej
      rw [hp] at hq
      cases hq
      exact ih hbq ho
    · exact ⟨a, hx, b, hab, hb, hbc⟩
theorem great_step (P : Parts (stp κ d) ns ks) {i : Nat} {p : List Nd} (hp : ks[i]? = some p) {zs out : List Str} (G : Grt zs out)
    (hz : ∀ z, z ∈ zs ↔ (z = tx (heldL κ d p) ∧ heldL κ d p ≠ []) ∨ ∃ x ∈ p, ∃ y ∈ stp κ d x, hmv ks y ≠ i ∧ MaxOf (SetS κ d ks y) z) : ∀ x ∈ p, GreatAt κ d ks x out := by
  intro x hx
  obtain ⟨g1, g2, g3⟩ := G
  refine ⟨g1, g2, fun z => ?_⟩
  rw [g3]
  refine max_cover (d := d) (fun z h => setS_sel h) (fun z h => ?_) (fun z h => ?_) z
  · rcases (hz z).mp h with ⟨h1, h2⟩ | ⟨x', hx', y, hy, _, ⟨o, ho, e, h3⟩, _⟩
    · refine ⟨x, .refl x, ?_, ?_⟩
      · rw [held_at P hp hx]
        exact h1
      · rw [held_at P hp hx]
        exact h2
    · exact ⟨o, (P.scc p (List.mem_of_getElem? hp) x hx x' hx').trans (.step hy ho), e, h3⟩
  · obtain ⟨o, ho, e, h3⟩ := h
    by_cases hi : hmv ks o = i
    · have e2 : heldOf κ d ks o = heldL κ d p := by
        unfold heldOf
        rw [hi, List.getD_eq_getElem?_getD, hp]
        rfl
      rw [e2] at e h3
      exact ⟨z, (hz z).mpr (.inl ⟨e, h3⟩), inS_refl⟩
    · obtain ⟨x', hx', y, hy, hne, hyo⟩ := leave P hp ho hx hi
      obtain ⟨m, hm, hi2⟩ := max_above (d := d) (S := SetS κ d ks y) (fun z h => setS_sel h) 5 z ⟨o, hyo, e, h3⟩ (Nat.sub_le _ _)
      exact ⟨m, (hz m).mpr (.inr ⟨x', hx', y, hy, hne, hm⟩), hi2⟩
end
end Bk
end
section
/-! Web.__init__: its blocks. -/
namespace Bk
open PySem L2 LamX PySem.Spec PyProof.Rows
/-- the slots of Web.__init__ -/
abbrev s14 (p dp : Addr) (κ : Kd) (x3 x4 x5 x6 x7 x8 x9 x10 x11 x12 x13 : Option V) : L2.St := [some (.ref p), some (.ref dp), some (.str (kdT κ)), x3, x4, x5, x6, x7, x8, x9, x10, x11, x12, x13]
/-- what was made and is changed no more is known from now on; M: what may still change -/
theorem Loc.rebase {T : List (Addr × Str)} {H0 H : Hp} {L M : List (Addr × HO)} (l : Loc T H0 L H) (hM : M.Sublist L) : ∃ Hb, Gr T H0 Hb ∧ Loc T Hb M H ∧ ∀ b o, H b = some o → b ∉ M.map (·.1) → Hb b = some o := by
  have l' := l.sub hM
  have m1 : ∀ b, b ∈ M.map (·.1) → H0 b = none ∧ ∃ o, H b = some o ∧ Plain o := fun b hb => by
    obtain ⟨q, hq, rfl⟩ := List.mem_map.mp hb
    exact ⟨l'.fr q hq, q.2, l'.at_ q hq, l'.pl q hq⟩
  have eH : ∀ b o, H b = some o → b ∉ M.map (·.1) → (fun b => if b ∈ M.map (·.1) then none else H b) b = some o := fun b o e h => by
    show (if b ∈ M.map (·.1) then none else H b) = some o
    rw [if_neg h]
    exact e
  refine ⟨fun b => if b ∈ M.map (·.1) then none else H b, ⟨fun b o e n => ?_, fun t q hq => ?_, fun b e => ?_⟩, ⟨.of fun b o e => ?_, l'.nd, fun q hq => ?_, l'.at_, l'.pl⟩, eH⟩
  · refine eH b o (l.g.ext b o e n) fun h => ?_
    rw [(m1 b h).1] at e
    cases e
  · obtain ⟨ps, h1, h2, h3⟩ := l.g.tab t q hq
    refine ⟨ps, eH _ _ h1 fun h => ?_, h2, fun pos cv hc => ?_⟩
    · obtain ⟨_, o, e, pl⟩ := m1 _ h
      rw [h1] at e
      exact pl.1 ps (Option.some.inj e).symm
    · obtain ⟨c, e1, e2⟩ := h3 pos cv hc
      refine ⟨c, e1, eH _ _ e2 fun h => ?_⟩
      obtain ⟨_, o, e, pl⟩ := m1 _ h
      rw [e2] at e
      exact pl.2 _ (Option.some.inj e).symm
  · have e : (if b ∈ M.map (·.1) then none else H b) = none := e
    by_cases h : b ∈ M.map (·.1)
    · exact (m1 b h).1
    · rw [if_neg h] at e
      exact l.g.dom b e
  · have e : (if b ∈ M.map (·.1) then none else H b) = some o := e
    by_cases h : b ∈ M.map (·.1)
    · rw [if_pos h] at e
      cases e
    · rwa [if_neg h] at e
  · show (if q.1 ∈ M.map (·.1) then none else H q.1) = none
    rw [if_pos (List.mem_map.mpr ⟨q, hq, rfl⟩)]
theorem w_it {J : It} {n : Nat} {S : Hp → Prop} {Yv : Nat → Hp → V → Hp → Prop} (w : Walk J n S Yv) {Step : V → Hp → (Hp → Prop) → Prop} {H0 : Hp} {Q : Hp → Prop} (Pv : Nat → Hp → Prop) (h0 : Pv 0 H0) (hS : ∀ i H, i ≤ n → Pv i H → S H)
    (hs : ∀ i x H H', i < n → Pv i H → Yv i H x H' → Step x H' (Pv (i + 1))) (hd : ∀ H, Pv n H → Q H) : ∃ W : Nat → Nat → Hp → Prop, (∃ m, W 0 m H0) ∧ ∀ i m H, W i m H → (J.stop i H ∧ Q H) ∨ (J.go i H ∧ ∃ Nx : Hp → Prop, (∀ H', Nx H' → ∃ m', m' < m ∧ W (i + 1) m' H') ∧ ∀ x H', J.yld i H x H' → Step x H' Nx) := by
  refine ⟨fun i m H => m = n - i ∧ i ≤ n ∧ Pv i H, ⟨n, by simp, Nat.zero_le _, h0⟩, fun i m H ⟨em, hi, p⟩ => ?_⟩
  subst em
  have q := hS i H hi p
  by_cases lt : i < n
  · exact .inr ⟨w.goes i H lt q, Pv (i + 1), fun H' p' => ⟨n - (i + 1), by omega, rfl, lt, p'⟩, fun x H' y => hs i x H H' lt p (w.yields i H x H' lt q y)⟩
  · obtain rfl : i = n := by omega
    exact .inl ⟨w.stops H q, hd H p⟩
section
variable {K : PySem.W.Frag} {mg : Str → Option Value} {T : List (Addr × Str)} {κ : Kd} {d : Dv} {H0 H : Hp} {Cd Cw p dp dx : Addr} {x3 x4 x5 x6 x7 x8 x9 x10 x11 x12 x13 : Option V}
theorem prs_at {m i : Nat} : prs m = (List.range m).flatMap fun i => (List.range (m - (i + 1))).map fun j => (i, i + 1 + j) := rfl
/-- the pairs of states -/
theorem pairs_ok {L : List (Addr × HO)} {R : Addr} {Q : VK} (DC : DvC K mg Cd) (hd : DevAt Cd d dp H0) (hL : Loc T H0 L H) (hR : H R = some (.rng 0 (d.m : Nat))) (k : ∀ D H' pv, Loc T H0 ((D, .lst pv) :: L) H' → NVs .pr H' pv (prs d.m) → Gr T H H' → Q (.ref D) H') :
    tLc2 (iRngV (tVar 3)) (gName 11) tYes (iRng2 (tCons (tOp (rI0 fun i j => V.int (i + j)) (tVar 11) (tC (V.int 1))) (tCons (tFld K (tVar 1) "states") tNil))) (gName 12) tYes (tTup (tCons (tVar 11) (tCons (tVar 12) tNil))) [11, 12] [12]
      (s14 p dp κ (some (.ref R)) x4 x5 x6 x7 x8 x9 x10 x11 x12 x13) H Q := by
  have m5 := d.m5
  refine ⟨_, rfl, R, 0, _, rfl, hR, by omega, by omega, by omega, by omega, fun D hD => ?_⟩
  have e0 : ((d.m : Int) - 0).toNat = d.m := by omega
  rw [e0]
  refine w_it (walk_range (lo := 0) (n := d.m)) (fun i H' => ∃ pv, Loc T H0 ((D, .lst pv) :: L) H' ∧ Gr T H H' ∧ NVs .pr H' pv ((List.range i).flatMap fun i => (List.range (d.m - (i + 1))).map fun j => (i, i + 1 + j)) ∧ pv.length ≤ 5 * i) ⟨[], hL.new hD pl_lst, .new hD, .nil, Nat.zero_le _⟩ (fun _ _ _ _ => trivial) (fun i v H1 H2 hi q y => ?_) fun H1 q => ?_
  · obtain ⟨pv, q, g, hpv, hpl⟩ := q
    obtain ⟨rfl, rfl⟩ := y
    obtain ⟨dx', tb, ts, h1, _⟩ := (hd.gr q.g).ex
    refine ⟨rfl, _, rfl, _, _, rfl, rfl, _, rfl, dp, Cd, dx', _, _, rfl, h1, DC.cl, DC.n1, rfl, _, _, rfl, ⟨by omega, by omega, by omega, by omega⟩, ?_⟩
    have e1 : ((d.m : Int) - (0 + (i : Int) + 1)).toNat = d.m - (i + 1) := by omega
    rw [e1]
    refine w_it (walk_range (lo := 0 + (i : Int) + 1) (n := d.m - (i + 1))) (fun j H' => ∃ pv, Loc T H0 ((D, .lst pv) :: L) H' ∧ Gr T H H' ∧ NVs .pr H' pv (((List.range i).flatMap fun i => (List.range (d.m - (i + 1))).map fun j => (i, i + 1 + j)) ++ (List.range j).map fun j => (i, i + 1 + j)) ∧ pv.length ≤ 5 * i + j) ⟨pv, q, g, by simpa using hpv, hpl⟩ (fun _ _ _ _ => trivial) (fun j v H3 H4 hj q y => ?_) fun H3 q => ?_
    · obtain ⟨pv, q, g, hpv, hpl⟩ := q
      obtain ⟨rfl, rfl⟩ := y
      refine ⟨rfl, _, rfl, _, rfl, by show 2 ≤ sizeLine; decide, fun t ht => ?_⟩
      have q1 := q.mono (Gr.new (o := .tup [.int (0 + (i : Int)), .int (0 + (i : Int) + 1 + (j : Int))]) ht)
      have g1 := g.trans (Gr.new (o := .tup [.int (0 + (i : Int)), .int (0 + (i : Int) + 1 + (j : Int))]) ht)
      have t1 : TupK H4 (upd H4 t (.tup [.int (0 + (i : Int)), .int (0 + (i : Int) + 1 + (j : Int))])) := TupK.new ht
      have n1 : NV .pr (upd H4 t (.tup [.int (0 + (i : Int)), .int (0 + (i : Int) + 1 + (j : Int))])) (.ref t) (i, i + 1 + j) := by
        refine ⟨t, rfl, ?_⟩
        rw [upd_same]
        have a1 : (0 : Int) + (i : Int) = ((i : Nat) : Int) := by omega
        have a2 : (0 : Int) + (i : Int) + 1 + (j : Int) = ((i + 1 + j : Nat) : Int) := by omega
        rw [a2, a1]
      refine ⟨pv, q1.get (i := 0) rfl, lt_line (by omega), pv ++ [V.ref t], q1.set (i := 0) rfl (pl_lst (xs := pv ++ [V.ref t])), g1.mut hD (q1.get (i := 0) rfl) (fun _ z => by cases z) (fun _ _ z => by cases z), ?_, by rw [List.length_append]; show _ + 1 ≤ _; omega⟩
      have t2 := q1.tk (i := 0) (u := .lst (pv ++ [V.ref t])) rfl lst_ne_tup
      rw [List.range_succ, List.map_append, ← List.append_assoc]
      exact Ech.app (NVs.tk hpv (t1.trans t2)) (.one (n1.tk t2))
    · obtain ⟨pv, q, g, hpv, hpl⟩ := q
      refine ⟨pv, q, g, ?_, by omega⟩
      rw [List.range_succ, List.flatMap_append]
      simpa using hpv
  · obtain ⟨pv, q, g, hpv, hpl⟩ := q
    exact k D H1 pv q hpv g
theorem NVo.tk {H H' : Hp} {v : V} {o : Option Nd} (h : NVo κ H v o) (t : TupK H H') : NVo κ H' v o := by
  cases o with
  | none => exact h
  | some n => exact NV.tk h t
/-! the steps of each node -/
theorem stp_eq {n : Nd} : stp κ d n = ((sgs d).map (nxs κ d n)).filterMap id := by
  unfold stp sgs
  rw [List.map_map, List.filterMap_map]
  exact congrArg (fun f => List.filterMap f (List.range d.s)) (funext fun a => nxs_sc.symm)
theorem steps_ok {Hb : Hp} {fs : List (Str × V)} {Nx Sx tn : Addr} {nv : List V} {D : Ends} (W : WbC K mg Cw) (DC : DvC K mg Cd) (hd : DevAt Cd d dp Hb) (htn : Hb tn = some (.tup nv)) (hnv : NVs κ Hb nv (nds κ d)) (f1 : fs.lookup ("nodes" : Str) = some (V.ref tn)) (f2 : fs.lookup ("_next" : Str) = some (V.ref Nx)) (f3 : fs.lookup ("_steps" : Str) = some (V.ref Sx))
    (hL : Loc T Hb [(p, .ins Cw dx fs), (Nx, FD κ [] fun _ => .non), (Sx, FD κ [] fun _ => .non)] H)
    (k : ∀ Hb' H' x5, Gr T Hb Hb' → Loc T Hb' [(p, .ins Cw dx fs)] H' → StpD κ K Hb' Nx (nds κ d) (sgs d) (nxs κ d) → StD κ K Hb' Sx (nds κ d) (stp κ d) → D.nx (s14 p dp κ x3 x4 x5 x6 x7 x8 x9 x10 x11 x12 x13) H') :
    tFor (iTup K (tFld K (tVar 0) "nodes")) (gName 5) (tSeq (sDPut (tFld K (tVar 0) "_next") (tVar 5) (tLc (iRng1 (tCons (tCB (fun xs H Q => ∃ z, xs = [V.str z] ∧ z.length ≤ sizeLine ∧ Q (V.int (z.length : Nat)) H) (tCons (tFld K (tVar 1) "signals") tNil)) tNil)) (gName 6) tYes (tCall (spNext T Cd) [] E0 (tCons (tVar 1) (tCons (tVar 2) (tCons (tVar 5) (tCons (tVar 6) tNil))))) [6]))
      (sDPut (tFld K (tVar 0) "_steps") (tVar 5) (tLc (iList K (tDGet (tFld K (tVar 0) "_next") (tVar 5))) (gName 7) (tTest (tOp (fun x y H Q => y = V.non ∧ Q (V.bl !decide (x = V.non)) H) (tVar 7) (tC V.non))) (tVar 7) [7])))
      D (s14 p dp κ x3 x4 x5 x6 x7 x8 x9 x10 x11 x12 x13) H := by
  have s5 := d.s5
  have n10 : (nds κ d).length ≤ 10 := nds_len
  refine ⟨_, rfl, p, Cw, dx, fs, _, rfl, hL.get (i := 0) rfl, W.cl, W.n3, f1, tn, rfl, ⟨_, SqT.of (hL.g.tup htn)⟩, ?_⟩
  refine for_it (walk_tup (xs := nv)) (fun i σ H' => ∃ (Hc : Hp) (x5 : Option V) (na sa : Nd → Addr), σ = s14 p dp κ x3 x4 x5 x6 x7 x8 x9 x10 x11 x12 x13 ∧ Gr T Hb Hc ∧ Loc T Hc [(p, .ins Cw dx fs), (Nx, FD κ ((nds κ d).take i) fun n => .ref (na n)), (Sx, FD κ ((nds κ d).take i) fun n => .ref (sa n))] H' ∧
    ∀ n ∈ (nds κ d).take i, (∃ vs, Hc (na n) = some (.lst vs) ∧ Ech (NVo κ Hc) vs ((sgs d).map (nxs κ d n))) ∧ ∃ ws, SqL K Hc (sa n) ws ∧ NVs κ Hc ws (stp κ d n)) ?_ (fun i σ H' hi q => ?_) (fun i v σ H1 H2 hi q y => ?_) fun σ H1 q => ?_
  · refine ⟨Hb, x5, fun _ => 0, fun _ => 0, rfl, .refl, ?_, fun n hn => by simp at hn⟩
    have e : (FD κ [] fun _ => V.ref 0) = FD κ [] fun _ => .non := FD.congr fun m hm => by simp at hm
    show Loc T Hb [(p, .ins Cw dx fs), (Nx, FD κ [] fun _ => V.ref 0), (Sx, FD κ [] fun _ => V.ref 0)] H
    rw [e]
    exact hL
  · obtain ⟨Hc, _, _, _, _, g, q, _⟩ := q
    exact SqT.of ((g.trans q.g).tup htn)
  · obtain ⟨Hc, x5, na, sa, rfl, g, q, hq⟩ := q
    obtain ⟨rfl, ev⟩ := y
    obtain ⟨n, en, hn⟩ := hnv.2 i v ev
    have hnN : n ∈ nds κ d := List.mem_of_getElem? en
    have hnI := mem_nds.mp hnN
    have okT : ∀ m ∈ (nds κ d).take i, Okn κ m := fun m hm => (mem_nds.mp (List.mem_of_mem_take hm)).ok
    have ltake : ((nds κ d).take i).length < sizeLine := lt_line (by rw [List.length_take]; omega)
    have nin : n ∉ (nds κ d).take i := fun h => by
      have knd := nds_nd (κ := κ) (d := d)
      have e : nds κ d = (nds κ d).take i ++ n :: (nds κ d).drop (i + 1) := by
        have hb' := (List.getElem?_eq_some_iff.mp en).1
        have := List.drop_eq_getElem_cons hb'
        rw [(List.getElem?_eq_some_iff.mp en).2] at this
        rw [← this, List.take_append_drop]
      rw [e] at knd
      exact (List.nodup_append.mp knd).2.2 n h n List.mem_cons_self rfl
    obtain ⟨dx', tb, ts, h1, _⟩ := (hd.gr (g.trans q.g)).ex
    refine ⟨_, rfl, dp, Cd, dx', _, _, rfl, h1, DC.cl, DC.n2, rfl, tx (sgs d), rfl, ?_, _, rfl, ?_, ?_, fun D1 hD1 => ?_⟩
    · rw [tx_len, sgs_len]
      exact Nat.le_of_lt (lt_line (by omega))
    · rw [tx_len]
      omega
    · rw [tx_len, sgs_len]
      omega
    · have e0 : (((tx (sgs d)).length : Nat) : Int).toNat = d.s := by rw [tx_len, sgs_len]; rfl
      have ea : ∀ a, a < d.s → (sgs d)[a]? = some (sc a) := fun a ha => by
        unfold sgs
        rw [List.getElem?_map, List.getElem?_range ha]
        rfl
      rw [e0]
      refine lc_it (walk_range (lo := 0) (n := d.s)) (fun j H' => ∃ vs, Loc T Hc [(D1, .lst vs), (p, .ins Cw dx fs), (Nx, FD κ ((nds κ d).take i) fun n => .ref (na n)), (Sx, FD κ ((nds κ d).take i) fun n => .ref (sa n))] H' ∧ Ech (NVo κ H') vs (((sgs d).take j).map (nxs κ d n))) ⟨[], q.new hD1 pl_lst, .nil⟩ (fun _ _ _ _ => trivial) (fun j u H4 H5 hj q y => ?_) fun H4 q => ?_
      · obtain ⟨vs, q, hvs⟩ := q
        obtain ⟨rfl, rfl⟩ := y
        have e1 : (0 : Int) + (j : Int) = ((j : Nat) : Int) := by omega
        refine ⟨rfl, _, rfl, _, rfl, _, rfl, _, rfl, κ, d, dp, v, n, j, congrArg (fun z => [V.ref dp, V.str (kdT κ), v, V.int z]) e1, hd.gr (g.trans q.g), hn.gr (g.trans q.g), hnI, hj, fun u H6 hu g6 => ?_⟩
        have q1 := q.mono g6
        refine ⟨vs, q1.get (i := 0) rfl, lt_line (by have := hvs.1; rw [List.length_map, List.length_take] at this; omega), vs ++ [u], q1.set (i := 0) rfl (pl_lst (xs := vs ++ [u])), ?_⟩
        have t2 := q1.tk (i := 0) (u := .lst (vs ++ [u])) rfl lst_ne_tup
        rw [take_snoc (ea j hj), List.map_append]
        refine Ech.app (Ech.mono hvs fun _ _ h => NVo.tk (NVo.gr h g6) t2) (.one (NVo.tk ?_ t2))
        rw [nxs_sc]
        exact hu
      · obtain ⟨vs, q, hvs⟩ := q
        have hs : (sgs d).take d.s = sgs d := List.take_of_length_le (by rw [sgs_len]; exact Nat.le_refl _)
        rw [hs] at hvs
        have hnH := hn.gr (g.trans q.g)
        refine ⟨_, rfl, p, Cw, dx, fs, _, rfl, q.get (i := 1) rfl, W.cl, W.n4, f2, _, rfl, Nx, _, rfl, fd_put (q.get (i := 2) rfl) okT hnH ltake, ?_⟩
        rw [if_neg nin]
        have eF : FD κ ((nds κ d).take i ++ [n]) (fup (fun n => V.ref (na n)) n (.ref D1)) = FD κ ((nds κ d).take (i + 1)) fun m => .ref (fup na n D1 m) := by
          rw [take_snoc en]
          refine FD.congr fun m _ => ?_
          unfold fup
          split <;> rfl
        rw [eF]
        have q1 := q.set (i := 2) rfl (pl_FD (κ := κ) (ks := (nds κ d).take (i + 1)) (f := fun m => V.ref (fup na n D1 m)))
        have t1 := q.tk (i := 2) (u := FD κ ((nds κ d).take (i + 1)) fun m => V.ref (fup na n D1 m)) rfl fun xs => FD_ne_tup
        have q1 : Loc T Hc [(D1, .lst vs), (p, .ins Cw dx fs), (Nx, FD κ ((nds κ d).take (i + 1)) fun m => V.ref (fup na n D1 m)), (Sx, FD κ ((nds κ d).take i) fun n => .ref (sa n))] (upd H4 Nx (FD κ ((nds κ d).take (i + 1)) fun m => V.ref (fup na n D1 m))) := q1
        have hvs1 : Ech (NVo κ (upd H4 Nx (FD κ ((nds κ d).take (i + 1)) fun m => V.ref (fup na n D1 m)))) vs ((sgs d).map (nxs κ d n)) := Ech.mono hvs fun _ _ h => NVo.tk h t1
        have hn1 := hnH.tk t1
        generalize upd H4 Nx (FD κ ((nds κ d).take (i + 1)) fun m => V.ref (fup na n D1 m)) = H5 at q1 hvs1 hn1
        have okT1 : ∀ m ∈ (nds κ d).take (i + 1), Okn κ m := fun m hm => (mem_nds.mp (List.mem_of_mem_take hm)).ok
        have n1 : n ∈ (nds κ d).take (i + 1) := by
          rw [take_snoc en]
          simp
        have hg : DGet H5 Nx v (some (.ref D1)) := by
          have := fd_has (.inl (q1.get (i := 2) rfl)) okT1 hn1 n1
          rwa [fup_same] at this
        refine ⟨_, rfl, p, Cw, dx, fs, _, rfl, q1.get (i := 1) rfl, W.cl, W.n4, f2, _, rfl, Nx, _, rfl, hg, D1, rfl, ⟨_, SqL.of (q1.get (i := 0) rfl)⟩, fun D2 hD2 => ?_⟩
        refine lc_it (walk_list (xs := vs)) (fun j H' => ∃ ws, Loc T Hc [(D2, .lst ws), (D1, .lst vs), (p, .ins Cw dx fs), (Nx, FD κ ((nds κ d).take (i + 1)) fun m => V.ref (fup na n D1 m)), (Sx, FD κ ((nds κ d).take i) fun n => .ref (sa n))] H' ∧ NVs κ H' ws ((((sgs d).map (nxs κ d n)).take j).filterMap id) ∧ ws.length ≤ j ∧ Ech (NVo κ H') vs ((sgs d).map (nxs κ d n)) ∧ NV κ H' v n)
          ⟨[], q1.new hD2 pl_lst, .nil, Nat.zero_le _, Ech.mono hvs1 fun _ _ h => NVo.tk h (.new hD2), hn1.tk (.new hD2)⟩ (fun j H' hj q => ?_) (fun j u H6 H7 hj q y => ?_) fun H6 q => ?_
        · obtain ⟨ws, q, _⟩ := q
          exact SqL.of (q.get (i := 1) rfl)
        · obtain ⟨ws, q, hws, wl, hvs, hnv⟩ := q
          obtain ⟨rfl, eu⟩ := y
          obtain ⟨o, eo, ho⟩ := hvs.2 j u eu
          rw [take_snoc eo, List.filterMap_append]
          cases o with
          | none =>
            obtain rfl : u = .non := ho
            refine ⟨rfl, _, rfl, rfl, _, rfl, ?_⟩
            exact ⟨ws, q, by simpa using hws, by omega, hvs, hnv⟩
          | some n' =>
            have ho : NV κ H7 u n' := ho
            refine ⟨rfl, _, rfl, rfl, _, rfl, ?_⟩
            rw [decide_eq_false ho.ne_non]
            have hvl : vs.length ≤ 5 := by
              have := hvs.1
              rw [List.length_map, sgs_len] at this
              omega
            have t2 := q.tk (i := 0) (u := .lst (ws ++ [u])) rfl lst_ne_tup
            exact ⟨_, rfl, ws, q.get (i := 0) rfl, lt_line (by omega), ws ++ [u], q.set (i := 0) rfl (pl_lst (xs := ws ++ [u])), Ech.app (NVs.tk hws t2) (.one (ho.tk t2)), by rw [List.length_append]; show _ + 1 ≤ _; omega, Ech.mono hvs fun _ _ h => NVo.tk h t2, hnv.tk t2⟩
        · obtain ⟨ws, q, hws, wl, hvs, hnv⟩ := q
          rw [hvs.1, List.take_length, ← stp_eq] at hws
          refine ⟨_, rfl, p, Cw, dx, fs, _, rfl, q.get (i := 2) rfl, W.cl, W.n5, f3, _, rfl, Sx, _, rfl, fd_put (q.get (i := 4) rfl) okT hnv ltake, ?_⟩
          rw [if_neg nin]
          have eG : FD κ ((nds κ d).take i ++ [n]) (fup (fun n => V.ref (sa n)) n (.ref D2)) = FD κ ((nds κ d).take (i + 1)) fun m => .ref (fup sa n D2 m) := by
            rw [take_snoc en]
            refine FD.congr fun m _ => ?_
            unfold fup
            split <;> rfl
          rw [eG]
          have q2 := q.set (i := 4) rfl (pl_FD (κ := κ) (ks := (nds κ d).take (i + 1)) (f := fun m => V.ref (fup sa n D2 m)))
          have t2 := q.tk (i := 4) (u := FD κ ((nds κ d).take (i + 1)) fun m => V.ref (fup sa n D2 m)) rfl fun xs => FD_ne_tup
          have q2 : Loc T Hc [(D2, .lst ws), (D1, .lst vs), (p, .ins Cw dx fs), (Nx, FD κ ((nds κ d).take (i + 1)) fun m => V.ref (fup na n D1 m)), (Sx, FD κ ((nds κ d).take (i + 1)) fun m => V.ref (fup sa n D2 m))] (upd H6 Sx (FD κ ((nds κ d).take (i + 1)) fun m => V.ref (fup sa n D2 m))) := q2
          have hvs2 : Ech (NVo κ _) vs _ := Ech.mono hvs fun _ _ h => NVo.tk h t2
          have hws2 := NVs.tk hws t2
          generalize upd H6 Sx (FD κ ((nds κ d).take (i + 1)) fun m => V.ref (fup sa n D2 m)) = H7 at q2 hvs2 hws2
          obtain ⟨Hd, gd, qd, keep⟩ := q2.rebase (M := [(p, .ins Cw dx fs), (Nx, FD κ ((nds κ d).take (i + 1)) fun m => V.ref (fup na n D1 m)), (Sx, FD κ ((nds κ d).take (i + 1)) fun m => V.ref (fup sa n D2 m))]) (.cons _ (.cons _ (List.Sublist.refl _)))
          have nd2 := q2.nd
          have k2 : Hd D2 = some (.lst ws) := keep _ _ (q2.get (i := 0) rfl) fun h => by
            simp at nd2 h
            rcases h with h | h | h
            · exact nd2.1.2.1 h
            · exact nd2.1.2.2.1 h
            · exact nd2.1.2.2.2 h
          have k1 : Hd D1 = some (.lst vs) := keep _ _ (q2.get (i := 1) rfl) fun h => by
            simp at nd2 h
            rcases h with h | h | h
            · exact nd2.2.1.1 h
            · exact nd2.2.1.2.1 h
            · exact nd2.2.1.2.2 h
          have td : TupK H7 Hd := fun b xs e => keep b _ e fun h => by
            obtain ⟨z, hz, rfl⟩ := List.mem_map.mp h
            have e2 := qd.at_ z hz
            rw [e2] at e
            simp at hz
            rcases hz with rfl | rfl | rfl
            · cases e
            · exact FD_ne_tup (Option.some.inj e)
            · exact FD_ne_tup (Option.some.inj e)
          refine ⟨Hd, some v, fup na n D1, fup sa n D2, rfl, g.trans gd, qd, fun m hm => ?_⟩
          by_cases e : m = n
          · subst e
            rw [fup_same, fup_same]
            exact ⟨⟨vs, k1, Ech.mono hvs2 fun _ _ h => NVo.tk h td⟩, ws, SqL.of k2, NVs.tk hws2 td⟩
          · rw [fup_ne _ _ e, fup_ne _ _ e]
            rw [take_snoc en] at hm
            obtain ⟨⟨vs', a1, a2⟩, ws', a3, a4⟩ := hq m ((List.mem_append.mp hm).elim id fun z => absurd (List.mem_singleton.mp z) e)
            exact ⟨⟨vs', gd.lst a1, NOs.gr a2 gd⟩, ws', gd.sqL a3, NVs.gr a4 gd⟩
  · obtain ⟨Hc, x5, na, sa, rfl, g, q, hq⟩ := q
    rw [hnv.1, List.take_length] at q hq
    obtain ⟨Hd, gd, qd, keep⟩ := q.rebase (M := [(p, .ins Cw dx fs)]) (.cons₂ _ (.cons _ (.cons _ .slnil)))
    have okn : ∀ m ∈ nds κ d, Okn κ m := fun m hm => (mem_nds.mp hm).ok
    have ne : Nx ∉ [(p, HO.ins Cw dx fs)].map (·.1) := fun h => by
      have := q.nd
      simp at this h
      exact this.1.1 h.symm
    have ne2 : Sx ∉ [(p, HO.ins Cw dx fs)].map (·.1) := fun h => by
      have := q.nd
      simp at this h
      exact this.1.2 h.symm
    refine k Hd H1 x5 (g.trans gd) qd ⟨_, keep _ _ (q.get (i := 1) rfl) ne, okn, fun m hm => ?_⟩ ⟨_, keep _ _ (q.get (i := 2) rfl) ne2, okn, fun m hm => ?_⟩
    · obtain ⟨⟨vs, h1, h2⟩, _⟩ := hq m hm
      exact ⟨_, vs, rfl, gd.lst h1, NOs.gr h2 gd⟩
    · obtain ⟨_, ws, h1, h2⟩ := hq m hm
      exact ⟨_, ws, rfl, gd.sqL h1, NVs.gr h2 gd⟩
/-! the places of the nodes -/
theorem home2_ok {Hb : Hp} {fs : List (Str × V)} {tk : Addr} {kv : List V} {ks : List (List Nd)} {ns : List Nd} {st : Nd → List Nd} {Q : VK} (W : WbC K mg Cw) (P : Parts st ns ks) (h10 : ns.length ≤ 10) (okn : ∀ m ∈ ns, Okn κ m) (htk : Hb tk = some (.tup kv)) (hkv : Ech (PtV κ Hb) kv ks) (f1 : fs.lookup ("knots" : Str) = some (V.ref tk))
    (hL : Loc T Hb [(p, .ins Cw dx fs)] H) (k : ∀ D H', Loc T Hb [(D, FD κ ks.flatten fun x => .int (hmv ks x : Nat)), (p, .ins Cw dx fs)] H' → Q (.ref D) H') :
    tGa (iEnumT K (tCons (tFld K (tVar 0) "knots") tNil)) (fun x => FD κ [] fun x => V.non) (gTup K 2 (gCons (gName 6) (gCons (gName 8) gNil))) tYes (fun D σ H Q => wipe σ [5] = σ ∧ iTup K (tVar 8) σ H fun J H1 => Lp J (gName 5) tYes (tDcA D (tVar 5) (tVar 6)) [5] σ H1 Q) [6, 8, 5]
      (s14 p dp κ x3 x4 x5 x6 x7 x8 x9 x10 x11 x12 x13) H Q := by
  refine ⟨_, rfl, p, Cw, dx, fs, _, rfl, hL.get (i := 0) rfl, W.cl, W.n6, f1, tk, kv, rfl, SqT.of (hL.g.tup htk), fun D hD => ?_⟩
  refine lp_it walk_T (fun i H => Loc T Hb [(D, FD κ (ks.take i).flatten fun x => .int (hmv ks x : Nat)), (p, .ins Cw dx fs)] H) ?_ (fun i H hi q => SqT.of (q.g.tup htk)) (fun i v H H' hi q y => ?_) fun H q => ?_
  · have e : FD κ ([] : List (List Nd)).flatten (fun x => .int (hmv ks x : Nat)) = FD κ [] fun _ => .non := FD.congr fun m hm => by simp at hm
    show Loc T Hb [(D, FD κ ([] : List (List Nd)).flatten fun x => .int (hmv ks x : Nat)), (p, .ins Cw dx fs)] _
    rw [e]
    exact hL.new hD pl_FD
  · obtain ⟨Tt, x, z, rfl, hT, rfl, rfl, ez⟩ := y
    obtain ⟨p', ep, b, vs, rfl, hb, hvs⟩ := hkv.2 i z ez
    have L1 := q.mono (Gr.new (o := .tup [.int (i : Nat), .ref b]) hT)
    have hT2 : (upd H Tt (.tup [.int (i : Nat), .ref b])) Tt = some (.tup [.int (i : Nat), .ref b]) := upd_same
    generalize upd H Tt (.tup [.int (i : Nat), .ref b]) = H1 at L1 hT2
    refine ⟨Tt, _, rfl, SqT.of hT2, rfl, _, _, rfl, _, _, rfl, rfl, rfl, rfl, _, rfl, b, rfl, ⟨_, SqT.of (L1.g.tup hb)⟩, ?_⟩
    refine lp_it (walk_tup (xs := vs)) (fun j H => Loc T Hb [(D, FD κ ((ks.take i).flatten ++ p'.take j) fun x => .int (hmv ks x : Nat)), (p, .ins Cw dx fs)] H) ?_ (fun j H hj q => SqT.of (q.g.tup hb)) (fun j v H H' hj q y => ?_) fun H q => ?_
    · rw [List.take_zero, List.append_nil]
      exact L1
    · obtain ⟨rfl, ey⟩ := y
      obtain ⟨x, ex, hx⟩ := hvs.2 j v ey
      have nx := flat_take ep ex P.nd
      have sub : ∀ m ∈ (ks.take i).flatten ++ p'.take j, m ∈ ks.flatten := fun m hm => by
        rcases List.mem_append.mp hm with h | h
        · obtain ⟨q, hq, hm⟩ := List.mem_flatten.mp h
          exact List.mem_flatten.mpr ⟨q, List.mem_of_mem_take hq, hm⟩
        · exact List.mem_flatten.mpr ⟨p', List.mem_of_getElem? ep, List.mem_of_mem_take h⟩
      have ins : ∀ m ∈ ks.flatten, m ∈ ns := fun m hm => by
        obtain ⟨q, hq, hm⟩ := List.mem_flatten.mp hm
        exact (P.all m).mpr ⟨q, hq, hm⟩
      have len : ((ks.take i).flatten ++ p'.take j).length ≤ 10 := by
        refine Nat.le_trans (nd_le (m := ks.flatten) ?_ sub) (flat_le P h10)
        have h1 := P.nd
        have hi' := (List.getElem?_eq_some_iff.mp ep).1
        have e1 : ks = ks.take i ++ p' :: ks.drop (i + 1) := by
          have := List.drop_eq_getElem_cons hi'
          rw [(List.getElem?_eq_some_iff.mp ep).2] at this
          rw [← this, List.take_append_drop]
        rw [e1, List.flatten_append, List.flatten_cons, ← List.append_assoc] at h1
        have h2 := (List.nodup_append.mp h1).1
        refine h2.sublist ((List.Sublist.refl _).append (List.take_sublist _ _))
      refine ⟨rfl, _, rfl, _, rfl, _, fd_put (q.get (i := 0) rfl) (fun m hm => okn m (ins m (sub m hm))) (hx.gr q.g) (lt_line (by omega)), ?_⟩
      rw [if_neg nx]
      have e2 : FD κ ((ks.take i).flatten ++ p'.take j ++ [x]) (fup (fun x => V.int (hmv ks x : Nat)) x (.int (i : Nat))) = FD κ ((ks.take i).flatten ++ p'.take (j + 1)) fun x => .int (hmv ks x : Nat) := by
        rw [take_snoc ex, List.append_assoc]
        refine FD.congr fun m hm => ?_
        by_cases e : m = x
        · rw [e, fup_same, hm_at P ep (List.mem_of_getElem? ex)]
        · rw [fup_ne _ _ e]
      rw [e2]
      exact q.set (i := 0) rfl pl_FD
    · rw [hvs.1, List.take_length] at q
      rw [take_snoc ep, List.flatten_append, List.flatten_cons, List.flatten_nil, List.append_nil]
      exact q
  · rw [hkv.1, List.take_length] at q
    exact k D H q
/-! what each part holds -/
theorem held_ok {Hb : Hp} {fs : List (Str × V)} {tk Nx : Addr} {kv : List V} {ks : List (List Nd)} {Q : VK} (W : WbC K mg Cw) (DC : DvC K mg Cd) (hd : DevAt Cd d dp Hb) (P : Parts (stp κ d) (nds κ d) ks) (htk : Hb tk = some (.tup kv)) (hkv : Ech (PtV κ Hb) kv ks) (hS : StpD κ K Hb Nx (nds κ d) (sgs d) (nxs κ d))
    (f1 : fs.lookup ("knots" : Str) = some (V.ref tk)) (f2 : fs.lookup ("_next" : Str) = some (V.ref Nx)) (f3 : fs.lookup ("lot_held" : Str) = none)
    (hL : Loc T Hb [(p, .ins Cw dx fs)] H) (k : ∀ D H', Loc T Hb [(D, .lst (ks.map fun p => V.str (tx (heldL κ d p)))), (p, .ins Cw dx fs)] H' → Q (.ref D) H') :
    tLc (iTup K (tFld K (tVar 0) "knots")) (gName 8) tYes (tMeth Cw "lot_held" (spLotHeld T K Cw) [] E0 (tVar 0) (tCons (tVar 8) (tCons (tFld K (tVar 1) "signals") tNil))) [8] (s14 p dp κ x3 x4 x5 x6 x7 x8 x9 x10 x11 x12 x13) H Q := by
  refine ⟨_, rfl, p, Cw, dx, fs, _, rfl, hL.get (i := 0) rfl, W.cl, W.n6, f1, tk, rfl, ⟨_, SqT.of (hL.g.tup htk)⟩, fun D hD => ?_⟩
  have kl : ks.length ≤ 10 := Nat.le_trans (flat_len P.ne) (flat_le P nds_len)
  refine lc_it (walk_tup (xs := kv)) (fun i H => Loc T Hb [(D, .lst ((ks.take i).map fun p => V.str (tx (heldL κ d p)))), (p, .ins Cw dx fs)] H) (hL.new hD pl_lst) (fun i H hi q => SqT.of (q.g.tup htk)) (fun i v H1 H2 hi q y => ?_) fun H1 q => ?_
  · obtain ⟨rfl, ev⟩ := y
    obtain ⟨p', ep, b, vs, rfl, hb, hvs⟩ := hkv.2 i v ev
    obtain ⟨dx', tb, ts, h1, _⟩ := (hd.gr q.g).ex
    have pm := List.mem_of_getElem? ep
    have pnd : p'.Nodup := (List.sublist_flatten_of_mem pm).nodup P.nd
    refine ⟨rfl, _, rfl, p, dx, fs, rfl, q.get (i := 1) rfl, f3, _, rfl, _, rfl, dp, Cd, dx', _, _, rfl, h1, DC.cl, DC.n2, rfl, κ, d, p, dx, fs, Nx, b, vs, p', rfl, q.get (i := 1) rfl, f2, hS.gr q.g, q.g.tup hb, hvs.gr q.g, pnd, fun n hn => (P.all n).mpr ⟨p', pm, hn⟩, fun H3 g3 => ?_⟩
    have q1 := q.mono g3
    refine ⟨_, q1.get (i := 0) rfl, lt_line (by rw [List.length_map, List.length_take]; omega), ?_⟩
    rw [take_snoc ep, List.map_append]
    exact q1.set (i := 0) rfl (pl_lst (xs := ((ks.take i).map fun p => V.str (tx (heldL κ d p))) ++ [V.str (tx (heldL κ d p'))]))
  · rw [hkv.1, List.take_length] at q
    exact k D H1 q
end
end Bk
end
section
/-! Web.__init__: the great lots. -/
namespace Bk
open PySem L2 LamX PySem.Spec PyProof.Rows
theorem nd_leG {α : Type} [DecidableEq α] {l m : List α} (h : l.Nodup) (hs : ∀ x ∈ l, x ∈ m) : l.length ≤ m.length := by
  induction l generalizing m with
  | nil => exact Nat.zero_le _
  | cons a r ih =>
    obtain ⟨h1, h2⟩ := List.nodup_cons.mp h
    have ha := hs a List.mem_cons_self
    have := ih (m := m.erase a) h2 fun x hx => (List.mem_erase_of_ne (a := x) (b := a) (fun e => h1 (by rw [← e]; exact hx))).mpr (hs x (List.mem_cons_of_mem _ hx))
    rw [List.length_erase_of_mem ha] at this
    have := List.length_pos_of_mem ha
    rw [List.length_cons]
    omega
theorem great_len {κ : Kd} {d : Dv} {ks : List (List Nd)} {x : Nd} {gs : List Str} (hx : x ∈ nds κ d) (h : GreatAt κ d ks x gs) : gs.length ≤ 10 := by
  obtain ⟨_, h2, h3⟩ := h
  have cl : ∀ {a o : Nd}, Reach (stp κ d) a o → a ∈ nds κ d → o ∈ nds κ d := fun {a o} h => by
    induction h with
    | refl a => exact id
    | step hb _ ih => exact fun _ => ih (mem_nds.mpr (stp_in hb))
  have := nd_leG (m := (nds κ d).map fun o => tx (heldOf κ d ks o)) h2 fun z hz => by
    obtain ⟨⟨o, ho, e, _⟩, _⟩ := (h3 z).mp hz
    exact List.mem_map.mpr ⟨o, cl ho hx, e.symm⟩
  rw [List.length_map] at this
  exact Nat.le_trans this nds_len
theorem great_short {κ : Kd} {d : Dv} {ks : List (List Nd)} {x : Nd} {gs : List Str} (h : GreatAt κ d ks x gs) : ∀ z ∈ gs, z.cps.toList.length ≤ 5 := fun z hz => by
  obtain ⟨⟨o, _, e, _⟩, _⟩ := (h.2.2 z).mp hz
  rw [e, tx_tl]
  exact selL_len
/-- the great lots of the first parts, as they stand -/
def GvOk (κ : Kd) (d : Dv) (ks : List (List Nd)) (i : Nat) (gv : List V) (H : Hp) : Prop := gv.length = i ∧ ∀ (j : Nat) (p : List Nd) (v : V), j < i → ks[j]? = some p → gv[j]? = some v → ∃ (b : Addr) (gs : List Str), v = V.ref b ∧ H b = some (.tup (gs.map V.str)) ∧ ∀ x ∈ p, GreatAt κ d ks x gs
theorem GvOk.tk {κ : Kd} {d : Dv} {ks : List (List Nd)} {i : Nat} {gv : List V} {H H' : Hp} (h : GvOk κ d ks i gv H) (t : TupK H H') : GvOk κ d ks i gv H' := ⟨h.1, fun j p v hj hp hv => by
  obtain ⟨b, gs, e, hb, hg⟩ := h.2 j p v hj hp hv
  exact ⟨b, gs, e, t _ _ hb, hg⟩⟩
section
variable {K : PySem.W.Frag} {mg : Str → Option Value} {T : List (Addr × Str)} {κ : Kd} {d : Dv} {H0 H : Hp} {Cd Cw p dp dx : Addr} {x3 x4 x5 x6 x7 x8 x9 x10 x11 x12 x13 : Option V}
/-- the lots of a part are brought together -/
theorem lots_ok {Hb : Hp} {fs : List (Str × V)} {Sx Hm Lt Gt b : Addr} {gv vs : List V} {ks : List (List Nd)} {hk : List Nd} {i : Nat} {p' : List Nd} {D : Ends} {z0 : Str} (W : WbC K mg Cw) (P : Parts (stp κ d) (nds κ d) ks) (ep : ks[i]? = some p') (hb : Hb b = some (.tup vs)) (hvs : NVs κ Hb vs p')
    (hS : StD κ K Hb Sx (nds κ d) (stp κ d)) (hHm : Hb Hm = some (FD κ hk fun n => .int (hmv ks n : Nat))) (hhk : ∀ n, n ∈ hk ↔ n ∈ nds κ d) (f1 : fs.lookup ("_steps" : Str) = some (V.ref Sx)) (f2 : fs.lookup ("_home" : Str) = some (V.ref Hm))
    (hL : Loc T Hb [(Lt, .lst [V.str z0]), (Gt, .lst gv), (p, .ins Cw dx fs)] H) (hg : GvOk κ d ks i gv H)
    (k : ∀ (H' : Hp) (x5 x7 : Option V) (zs : List Str), Loc T Hb [(Lt, .lst (zs.map V.str)), (Gt, .lst gv), (p, .ins Cw dx fs)] H' → GvOk κ d ks i gv H' → zs.length ≤ 600 → (∀ z, z ∈ zs ↔ z = z0 ∨ ∃ x ∈ p', ∃ y ∈ stp κ d x, hmv ks y ≠ i ∧ MaxOf (SetS κ d ks y) z) →
      D.nx (s14 p dp κ x3 x4 x5 (some (.int (i : Nat))) x7 (some (.ref b)) (some (.ref Gt)) (some (.ref Lt)) x11 x12 x13) H') :
    tFor (iTup K (tVar 8)) (gName 5) (tFor (iList K (tDGet (tFld K (tVar 0) "_steps") (tVar 5))) (gName 7) (tIfS (tTest (tOp rNe (tDGet (tFld K (tVar 0) "_home") (tVar 7)) (tVar 6))) (tDrop (tBM K "list" (rExtT K) (tVar 10) (tCons (tOp (rIxL K) (tVar 9) (tDGet (tFld K (tVar 0) "_home") (tVar 7))) tNil))) tNext))
      D (s14 p dp κ x3 x4 x5 (some (.int (i : Nat))) x7 (some (.ref b)) (some (.ref Gt)) (some (.ref Lt)) x11 x12 x13) H := by
  obtain ⟨g, g1, g2, g3⟩ := hS
  have pm := List.mem_of_getElem? ep
  have pin : ∀ x ∈ p', x ∈ nds κ d := fun x hx => (P.all x).mpr ⟨p', pm, hx⟩
  have p10 : p'.length ≤ 10 := Nat.le_trans (nd_le ((List.sublist_flatten_of_mem pm).nodup P.nd) pin) nds_len
  refine ⟨_, rfl, b, rfl, ⟨_, SqT.of (hL.g.tup hb)⟩, ?_⟩
  refine for_it (walk_tup (xs := vs)) (fun a σ H' => ∃ (x5 x7 : Option V) (zs : List Str), σ = s14 p dp κ x3 x4 x5 (some (.int (i : Nat))) x7 (some (.ref b)) (some (.ref Gt)) (some (.ref Lt)) x11 x12 x13 ∧ Loc T Hb [(Lt, .lst (zs.map V.str)), (Gt, .lst gv), (p, .ins Cw dx fs)] H' ∧ GvOk κ d ks i gv H' ∧ zs.length ≤ 1 + 50 * a ∧
    ∀ z, z ∈ zs ↔ z = z0 ∨ ∃ x ∈ p'.take a, ∃ y ∈ stp κ d x, hmv ks y ≠ i ∧ MaxOf (SetS κ d ks y) z) ⟨x5, x7, [z0], rfl, hL, hg, by simp, fun z => by simp⟩ (fun a σ H' ha q => ?_) (fun a v σ H1 H2 ha q y => ?_) fun σ H1 q => ?_
  · obtain ⟨_, _, _, _, q, _⟩ := q
    exact SqT.of (q.g.tup hb)
  · obtain ⟨x5, x7, zs, rfl, q, hg, hl, hz⟩ := q
    obtain ⟨rfl, ev⟩ := y
    obtain ⟨x, ex, hx⟩ := hvs.2 a v ev
    have xp : x ∈ p' := List.mem_of_getElem? ex
    have xn := pin x xp
    obtain ⟨sl, sv, e1, e2, e3⟩ := g3 x xn
    have al : a < p'.length := (List.getElem?_eq_some_iff.mp ex).1
    have hdg : DGet H2 Sx v (some (.ref sl)) := by
      rw [← e1]
      exact fd_has (.inl (q.g.ext _ _ g1 pl_FD.1)) g2 (hx.gr q.g) xn
    refine ⟨_, rfl, p, Cw, dx, fs, _, rfl, q.get (i := 2) rfl, W.cl, W.n5, f1, _, rfl, Sx, _, rfl, hdg, sl, rfl, ⟨_, q.g.sqL e2⟩, ?_⟩
    refine for_it (walk_list (xs := sv)) (fun c σ H' => ∃ (x7 : Option V) (zs : List Str), σ = s14 p dp κ x3 x4 (some v) (some (.int (i : Nat))) x7 (some (.ref b)) (some (.ref Gt)) (some (.ref Lt)) x11 x12 x13 ∧ Loc T Hb [(Lt, .lst (zs.map V.str)), (Gt, .lst gv), (p, .ins Cw dx fs)] H' ∧ GvOk κ d ks i gv H' ∧ zs.length ≤ 1 + 50 * a + 10 * c ∧
      ∀ z, z ∈ zs ↔ z = z0 ∨ (∃ x ∈ p'.take a, ∃ y ∈ stp κ d x, hmv ks y ≠ i ∧ MaxOf (SetS κ d ks y) z) ∨ ∃ y ∈ (stp κ d x).take c, hmv ks y ≠ i ∧ MaxOf (SetS κ d ks y) z) ⟨x7, zs, rfl, q, hg, by omega, fun z => by rw [hz]; simp⟩ (fun c σ H' hc q => ?_) (fun c u σ H3 H4 hc q y => ?_) fun σ H3 q => ?_
    · obtain ⟨_, _, _, q, _⟩ := q
      exact q.g.sqL e2
    · obtain ⟨x7, zs, rfl, q, hg, hl, hz⟩ := q
      obtain ⟨rfl, eu⟩ := y
      obtain ⟨y, ey, hy⟩ := e3.2 c u eu
      have ys : y ∈ stp κ d x := List.mem_of_getElem? ey
      have yn : y ∈ nds κ d := mem_nds.mpr (stp_in ys)
      have cl : c < 5 := Nat.lt_of_lt_of_le (List.getElem?_eq_some_iff.mp ey).1 stp_len
      have hkI : ∀ m ∈ hk, Okn κ m := fun m hm => (mem_nds.mp ((hhk m).mp hm)).ok
      have hdh : ∀ {H' : Hp}, Gr T Hb H' → DGet H' Hm u (some (.int (hmv ks y : Nat))) := fun gr => fd_has (.inl (gr.ext _ _ hHm pl_FD.1)) hkI (hy.gr gr) ((hhk y).mpr yn)
      refine ⟨_, rfl, p, Cw, dx, fs, _, rfl, q.get (i := 2) rfl, W.cl, W.n7, f2, _, rfl, Hm, _, rfl, hdh q.g, _, rfl, rfl, _, rfl, ite2 (fun e => ?_) fun e => ?_⟩
      · have ne : hmv ks y ≠ i := fun z => by
          rw [z] at e
          simp at e
        obtain ⟨j, pj, jl, hj, yj⟩ := P.down i p' ep x xp y ys
        have ej := hm_at P hj yj
        have jlt : hmv ks y < i := by omega
        obtain ⟨vv, evv⟩ : ∃ vv, gv[hmv ks y]? = some vv := ⟨_, List.getElem?_eq_getElem (by rw [hg.1]; exact jlt)⟩
        obtain ⟨bb, gs, rfl, hbb, hgs⟩ := hg.2 (hmv ks y) pj vv jlt (by rw [ej]; exact hj) evv
        have G := hgs y yj
        have gl := great_len yn G
        refine ⟨_, rfl, .inl ⟨rfl, _, SqL.of (q.get (i := 0) rfl)⟩, _, rfl, _, rfl, p, Cw, dx, fs, _, rfl, q.get (i := 2) rfl, W.cl, W.n7, f2, _, rfl, Hm, _, rfl, hdh q.g, Gt, _, _, _, rfl, rfl, SqL.of (q.get (i := 1) rfl), atI_nat evv, Lt, bb, _, _, rfl, rfl, q.get (i := 0) rfl, hbb, ?_, ?_⟩
        · rw [List.length_map, List.length_map]
          exact Nat.le_of_lt (lt_line (by omega))
        · have t2 := q.tk (i := 0) (u := .lst (zs.map V.str ++ gs.map V.str)) rfl lst_ne_tup
          have q2 := q.set (i := 0) rfl (pl_lst (xs := zs.map V.str ++ gs.map V.str))
          have q3 : Loc T Hb [(Lt, .lst ((zs ++ gs).map V.str)), (Gt, .lst gv), (p, .ins Cw dx fs)] (upd H4 Lt (.lst (zs.map V.str ++ gs.map V.str))) := by
            rw [List.map_append]
            exact q2
          refine ⟨_, zs ++ gs, rfl, q3, hg.tk t2, by rw [List.length_append]; omega, fun z => ?_⟩
          rw [List.mem_append, hz, G.2.2 z, take_snoc ey]
          constructor
          · rintro ((h | h | ⟨y', h1, h2⟩) | h)
            · exact .inl h
            · exact .inr (.inl h)
            · exact .inr (.inr ⟨y', List.mem_append_left _ h1, h2⟩)
            · exact .inr (.inr ⟨y, by simp, ne, h⟩)
          · rintro (h | h | ⟨y', h1, h2, h3⟩)
            · exact .inl (.inl h)
            · exact .inl (.inr (.inl h))
            · rcases List.mem_append.mp h1 with h1 | h1
              · exact .inl (.inr (.inr ⟨y', h1, h2, h3⟩))
              · rw [List.mem_singleton.mp h1] at h3
                exact .inr h3
      · have ne : hmv ks y = i := by
          by_cases z : hmv ks y = i
          · exact z
          · have z' : ¬ ((hmv ks y : Nat) : Int) = (i : Nat) := by omega
            simp [z'] at e
        refine ⟨_, zs, rfl, q, hg, by omega, fun z => ?_⟩
        rw [hz, take_snoc ey]
        refine or_congr_right (or_congr_right ⟨fun ⟨y', h1, h2⟩ => ⟨y', List.mem_append_left _ h1, h2⟩, fun ⟨y', h1, h2, h3⟩ => ?_⟩)
        rcases List.mem_append.mp h1 with h1 | h1
        · exact ⟨y', h1, h2, h3⟩
        · rw [List.mem_singleton.mp h1] at h2
          exact absurd ne h2
    · obtain ⟨x7, zs, rfl, q, hg, hl, hz⟩ := q
      rw [e3.1, List.take_length] at hz
      have sl5 : sv.length ≤ 5 := by rw [e3.1]; exact stp_len
      refine ⟨_, _, zs, rfl, q, hg, by omega, fun z => ?_⟩
      rw [hz, take_snoc ex]
      refine or_congr_right ⟨fun h => ?_, fun ⟨x', h1, h2⟩ => ?_⟩
      · rcases h with ⟨x', h1, h2⟩ | h
        · exact ⟨x', List.mem_append_left _ h1, h2⟩
        · exact ⟨x, by simp, h⟩
      · rcases List.mem_append.mp h1 with h1 | h1
        · exact .inl ⟨x', h1, h2⟩
        · rw [List.mem_singleton.mp h1] at h2
          exact .inr h2
  · obtain ⟨x5, x7, zs, rfl, q, hg, hl, hz⟩ := q
    rw [hvs.1, List.take_length] at hz
    have := hvs.1
    exact k H1 x5 x7 zs q hg (by omega) hz
theorem fm_ifP (p : Str → Bool) : ∀ l : List Str, (l.filterMap fun z => if p z = true then some (V.str z) else none) = (l.filter p).map V.str
  | [] => rfl
  | a :: r => by
    rw [List.filterMap_cons, List.filter_cons]
    cases p a with
    | true => simpa using fm_ifP p r
    | false => simpa using fm_ifP p r
theorem great_ok {Hb : Hp} {fs : List (Str × V)} {Sx Hm Gt tk th : Addr} {kv : List V} {ks : List (List Nd)} {hk : List Nd} {D : Ends} (W : WbC K mg Cw) (P : Parts (stp κ d) (nds κ d) ks) (htk : Hb tk = some (.tup kv)) (hkv : Ech (PtV κ Hb) kv ks) (hth : Hb th = some (.tup (ks.map fun p => V.str (tx (heldL κ d p)))))
    (hS : StD κ K Hb Sx (nds κ d) (stp κ d)) (hHm : Hb Hm = some (FD κ hk fun n => .int (hmv ks n : Nat))) (hhk : ∀ n, n ∈ hk ↔ n ∈ nds κ d) (f1 : fs.lookup ("_steps" : Str) = some (V.ref Sx)) (f2 : fs.lookup ("_home" : Str) = some (V.ref Hm)) (f3 : fs.lookup ("knots" : Str) = some (V.ref tk)) (f4 : fs.lookup ("held" : Str) = some (V.ref th))
    (hL : Loc T Hb [(Gt, .lst []), (p, .ins Cw dx fs)] H)
    (k : ∀ (H' : Hp) (Hc : Hp) (x5 x6 x7 x8 x10 : Option V) (gv : List V), Gr T Hb Hc → Loc T Hc [(Gt, .lst gv), (p, .ins Cw dx fs)] H' → GvOk κ d ks ks.length gv H' → D.nx (s14 p dp κ x3 x4 x5 x6 x7 x8 (some (.ref Gt)) x10 x11 x12 x13) H') :
    tFor (iEnumT K (tCons (tFld K (tVar 0) "knots") tNil)) (gTup K 2 (gCons (gName 6) (gCons (gName 8) gNil))) (tSeq (tAsg (tLst (tCons (tOp (rIx K) (tFld K (tVar 0) "held") (tVar 6)) tNil)) (gName 10))
      (tSeq (tFor (iTup K (tVar 8)) (gName 5) (tFor (iList K (tDGet (tFld K (tVar 0) "_steps") (tVar 5))) (gName 7) (tIfS (tTest (tOp rNe (tDGet (tFld K (tVar 0) "_home") (tVar 7)) (tVar 6))) (tDrop (tBM K "list" (rExtT K) (tVar 10) (tCons (tOp (rIxL K) (tVar 9) (tDGet (tFld K (tVar 0) "_home") (tVar 7))) tNil))) tNext)))
      (tDrop (tBM K "list" rAppend (tVar 9) (tCons (tCall (spGreatest T K) [] E0 (tCons (tLc (iList K (tVar 10)) (gName 13) (tTest (tOp rNe (tVar 13) (tC (V.str "")))) (tVar 13) [13]) tNil)) tNil)))))
      D (s14 p dp κ x3 x4 x5 x6 x7 x8 (some (.ref Gt)) x10 x11 x12 x13) H := by
  have kl : ks.length ≤ 10 := Nat.le_trans (flat_len P.ne) (flat_le P nds_len)
  refine ⟨_, rfl, p, Cw, dx, fs, _, rfl, hL.get (i := 1) rfl, W.cl, W.n6, f3, tk, kv, rfl, SqT.of (hL.g.tup htk), ?_⟩
  refine for_it walk_T (fun i σ H' => ∃ (Hc : Hp) (x5 x6 x7 x8 x10 : Option V) (gv : List V), σ = s14 p dp κ x3 x4 x5 x6 x7 x8 (some (.ref Gt)) x10 x11 x12 x13 ∧ Gr T Hb Hc ∧ Loc T Hc [(Gt, .lst gv), (p, .ins Cw dx fs)] H' ∧ GvOk κ d ks i gv H') ⟨Hb, _, _, _, _, _, [], rfl, .refl, hL, rfl, fun j p v hj => absurd hj (Nat.not_lt_zero _)⟩ (fun i σ H' hi q => ?_) (fun i v σ H1 H2 hi q y => ?_) fun σ H1 q => ?_
  · obtain ⟨Hc, _, _, _, _, _, _, _, g, q, _⟩ := q
    exact SqT.of ((g.trans q.g).tup htk)
  · obtain ⟨Hc, x5, x6, x7, x8, x10, gv, rfl, g, q, hg⟩ := q
    obtain ⟨Tt, x, z, rfl, hT, rfl, rfl, ez⟩ := y
    obtain ⟨p', ep, b, vs, rfl, hb, hvs⟩ := hkv.2 i z ez
    have L1 := q.mono (Gr.new (o := .tup [.int (i : Nat), .ref b]) hT)
    have t1 : TupK H1 (upd H1 Tt (.tup [.int (i : Nat), .ref b])) := .new hT
    have hg1 := hg.tk t1
    have hT2 : (upd H1 Tt (.tup [.int (i : Nat), .ref b])) Tt = some (.tup [.int (i : Nat), .ref b]) := upd_same
    generalize upd H1 Tt (.tup [.int (i : Nat), .ref b]) = H3 at L1 hT2 hg1
    have eh : (ks.map fun p => V.str (tx (heldL κ d p)))[i]? = some (V.str (tx (heldL κ d p'))) := by
      rw [List.getElem?_map, ep]
      rfl
    refine ⟨Tt, _, rfl, SqT.of hT2, rfl, _, _, rfl, _, _, rfl, rfl, ?_⟩
    refine ⟨_, rfl, p, Cw, dx, fs, _, rfl, L1.get (i := 1) rfl, W.cl, W.n8, f4, _, rfl, .inr (.inl ⟨th, _, _, _, rfl, rfl, SqT.of ((g.trans L1.g).tup hth), atI_nat eh, by show 1 ≤ sizeLine; decide, fun Lt hLt => ?_⟩)⟩
    have L2 := L1.new hLt (pl_lst (xs := [V.str (tx (heldL κ d p'))]))
    have hg2 := hg1.tk (TupK.new (o := .lst [V.str (tx (heldL κ d p'))]) hLt)
    refine lots_ok (i := i) W P ep (g.tup hb) (NVs.gr hvs g) (hS.gr g) (g.ext _ _ hHm pl_FD.1) hhk f1 f2 L2 hg2 fun H4 x5 x7 zs L3 hg3 zl hz => ?_
    refine ⟨_, rfl, .inl ⟨rfl, _, SqL.of (L3.get (i := 1) rfl)⟩, _, rfl, Lt, rfl, ⟨_, SqL.of (L3.get (i := 0) rfl)⟩, fun D2 hD2 => ?_⟩
    have wk : Walk (Itl K Lt) zs.length (fun H => SqL K H Lt (zs.map V.str)) (YAt (zs.map V.str)) := walk_listL
    refine lc_fm (T := T) (L := [(Lt, .lst (zs.map V.str)), (Gt, .lst gv), (p, .ins Cw dx fs)]) (F := fun z => if decide (z ≠ tx []) = true then some (V.str z) else none) wk L3 hD2 (fun H' g' => g'.sqL (SqL.of (L3.get (i := 0) rfl))) (fun j z H5 hz5 g5 fm => ?_) fun H5 g5 fm => ?_
    · refine ⟨rfl, _, rfl, rfl, _, rfl, ?_⟩
      by_cases e : z = tx []
      · have e2 : (!decide (V.str z = V.str (tx []))) = false := by rw [e]; simp
        show (if (!decide (V.str z = V.str (tx []))) = true then _ else _)
        rw [e2]
        exact iteF (fm_skip g5 fm hz5 (if_neg (by simp [e])))
      · have e2 : (!decide (V.str z = V.str (tx []))) = true := by simp [e]
        show (if (!decide (V.str z = V.str (tx []))) = true then _ else _)
        rw [e2]
        exact iteT ⟨_, rfl, fm_add hD2 g5 fm hz5 (if_pos (by simp [e])) (lt_line (by omega))⟩
    · have e : (zs.filterMap fun z => if decide (z ≠ tx []) = true then some (V.str z) else none) = (zs.filter fun z => decide (z ≠ tx [])).map V.str := fm_ifP (fun z => decide (z ≠ tx [])) zs
      rw [e] at fm
      generalize hzs : (zs.filter fun z => decide (z ≠ tx [])) = zs' at fm
      have zm : ∀ z, z ∈ zs' ↔ z ∈ zs ∧ z ≠ tx [] := fun z => by
        rw [← hzs, List.mem_filter]
        simp
      have zl' : zs'.length ≤ 600 := by
        rw [← hzs]
        exact Nat.le_trans (List.length_filter_le _ _) zl
      have hz' : ∀ z, z ∈ zs' ↔ (z = tx (heldL κ d p') ∧ heldL κ d p' ≠ []) ∨ ∃ x ∈ p', ∃ y ∈ stp κ d x, hmv ks y ≠ i ∧ MaxOf (SetS κ d ks y) z := fun z => by
        rw [zm, hz]
        constructor
        · rintro ⟨h | h, ne⟩
          · exact .inl ⟨h, fun e => ne (by rw [h, e])⟩
          · exact .inr h
        · rintro (⟨h1, h2⟩ | ⟨x, h1, y, h2, h3, h4⟩)
          · exact ⟨.inl h1, fun e => h2 (tx_inj (h1.symm.trans e))⟩
          · refine ⟨.inr ⟨x, h1, y, h2, h3, h4⟩, fun e => ?_⟩
            obtain ⟨⟨o, _, e1, h5⟩, _⟩ := h4
            exact h5 (tx_inj (e1.symm.trans e))
      refine ⟨D2, zs', rfl, SqL.of (fm.get (i := 0) rfl), by omega, fun z hz0 => ?_, fun out q' H6 hG g6 hq' hqo => ?_⟩
      · have le : z.cps.toList.length ≤ 5 := by
          rcases (hz' z).mp hz0 with ⟨h1, _⟩ | ⟨x, h1, y, h2, h3, ⟨o, _, e1, h5⟩, _⟩
          · rw [h1, tx_tl]
            exact selL_len
          · rw [e1, tx_tl]
            exact selL_len
        omega
      · have L6 := fm.mono g6
        have hg6 := hg3.tk ((TupK.gr g5).trans (TupK.gr g6))
        have hgl := hg.1
        refine ⟨Gt, gv, .ref q', rfl, rfl, L6.get (i := 2) rfl, lt_line (by have := hkv.1; omega), Hc, x5, some (.int (i : Nat)), x7, some (.ref b), some (.ref Lt), gv ++ [V.ref q'], rfl, g, (L6.set (i := 2) rfl (pl_lst (xs := gv ++ [V.ref q']))).sub (.cons _ (.cons _ (List.Sublist.refl _))), ?_, fun j pj v hj hp hv => ?_⟩
        · rw [List.length_append, hgl]
          rfl
        · have t6 := L6.tk (i := 2) (u := .lst (gv ++ [V.ref q'])) rfl lst_ne_tup
          by_cases e : j < i
          · rw [List.getElem?_append_left (by omega)] at hv
            obtain ⟨b', gs, e1, e2, e3⟩ := hg6.2 j pj v e hp hv
            exact ⟨b', gs, e1, t6 _ _ e2, e3⟩
          · have ej : j = i := by omega
            subst ej
            rw [List.getElem?_append_right (by omega), hgl, Nat.sub_self] at hv
            cases hv
            rw [ep] at hp
            cases hp
            exact ⟨q', out, rfl, t6 _ _ hqo, great_step P ep hG hz'⟩
  · obtain ⟨Hc, x5, x6, x7, x8, x10, gv, rfl, g, q, hg⟩ := q
    rw [hkv.1] at hg
    exact k H1 Hc x5 x6 x7 x8 x10 gv g q hg
end
end Bk
end
section
/-! Web.__init__: the nodes' tuple. -/
namespace Bk
open PySem L2 LamX PySem.Spec PyProof.Rows
theorem tSeqFld {K : PySem.W.Frag} {ta tv : TE} {f : Str} {rest : TS} {D : Ends} {σ : L2.St} {H : Hp} (h : tv σ H fun y H1 => ta σ H1 fun x H2 => ∃ a C dx fs, x = .ref a ∧ H2 a = some (.ins C dx fs) ∧ Cls K C ∧ NoAttr K C f ∧ fs.length < 1000 ∧ rest D σ (upd H2 a (.ins C dx (putF f y fs)))) : tSeq (sFld K ta tv f) rest D σ H := h
theorem tCB1 {r : List V → Hp → VK → Prop} {te : TE} {σ : L2.St} {H : Hp} {Q : VK} (h : te σ H fun x H1 => r [x] H1 Q) : tCB r (tCons te tNil) σ H Q := h
theorem tSeqI {ta tb : TS} {D : Ends} {σ : L2.St} {H : Hp} (h : ta { D with nx := tb D } σ H) : tSeq ta tb D σ H := h
theorem Loc.rebaseT {T : List (Addr × Str)} {H0 H : Hp} {L M : List (Addr × HO)} (l : Loc T H0 L H) (hM : M.Sublist L) (nt : ∀ q ∈ M, ∀ xs, q.2 ≠ .tup xs) : ∃ Hb, Gr T H0 Hb ∧ Loc T Hb M H ∧ (∀ b o, H b = some o → b ∉ M.map (·.1) → Hb b = some o) ∧ TupK H Hb := by
  obtain ⟨Hb, g, q, keep⟩ := l.rebase hM
  refine ⟨Hb, g, q, keep, fun b xs e => keep b _ e fun h => ?_⟩
  obtain ⟨z, hz, rfl⟩ := List.mem_map.mp h
  rw [q.at_ z hz] at e
  exact nt z hz xs (Option.some.inj e)
section
variable {K : PySem.W.Frag} {T : List (Addr × Str)} {κ : Kd} {d : Dv} {H0 H : Hp} {p dp : Addr} {x5 x6 x7 x8 x9 x10 x11 x12 x13 : Option V}
theorem nodes_ok {L : List (Addr × HO)} {R Dp : Addr} {pv : List V} {Q : VK} (hL : Loc T H0 L H) (hR : H R = some (.rng 0 (d.m : Nat))) (hp : H Dp = some (.lst pv)) (hpv : NVs .pr H pv (prs d.m)) (k : ∀ tn nv H', Loc T H0 L H' → H' tn = some (.tup nv) → NVs κ H' nv (nds κ d) → Q (.ref tn) H') :
    tIf (tTest (tOp rEq (tVar 2) (tC (V.str "states")))) (tCB (fun vs H Q => ∃ a lo hi, vs = [V.ref a] ∧ H a = some (.rng lo hi) ∧ RgOk lo hi ∧ ∀ p, H p = none → Q (V.ref p) (upd H p (.tup (rgV lo hi)))) (tCons (tVar 3) tNil))
      (tCB (fun xs H_1 Q => ∃ p ys, xs = [V.ref p] ∧ ((SqL K H_1 p ys ∧ ∀ (l : Addr), H_1 l = none → Q (V.ref l) (upd H_1 l (HO.tup ys))) ∨ SqT K H_1 p ys ∧ Q (V.ref p) H_1)) (tCons (tVar 4) tNil)) (s14 p dp κ (some (.ref R)) (some (.ref Dp)) x5 x6 x7 x8 x9 x10 x11 x12 x13) H Q := by
  have m5 := d.m5
  refine ⟨_, rfl, rfl, _, rfl, ?_⟩
  cases κ with
  | st =>
    refine iteT ⟨_, rfl, R, 0, _, rfl, hR, RgOk.of_le (by omega) (by omega) (by omega) (by omega), fun t ht => k t _ _ (hL.mono (.new ht)) upd_same ?_⟩
    have e : rgV 0 (d.m : Nat) = (nds .st d).map fun n => V.int (n.1 : Nat) := by
      unfold rgV nds
      rw [List.map_map]
      simp
    rw [e]
    exact Ech.map fun n hn => ⟨rfl, (mem_nds.mp hn).1⟩
  | pr =>
    refine iteF ⟨_, rfl, Dp, pv, rfl, .inl ⟨SqL.of hp, fun t ht => k t _ _ (hL.mono (.new ht)) upd_same ?_⟩⟩
    exact NVs.tk hpv (.new ht)
end
end Bk
end
section
/-! Web.__init__. -/
namespace Bk
open PySem L2 LamX PySem.Spec PyProof.Rows
abbrev sWebInit : Stmt := inClass (top 33) 0
abbrev nWeb : List Str := ["self", "device", "kind", "states", "pairs", "node", "at", "after", "knot", "great", "lots", "i", "j", "lot"]
/-- a method that keeps a promise -/
def MetF (P : Program) (w : World) (K : PySem.W.Frag) (mg : Str → Option Value) (base : Heap) (CX : CXT) (k : Nat) (C : Addr) (m : Str) (ps : List Str) (sp : Sp) : Prop :=
  ∃ f fd, FnOk P w K mg base CX k f fd (("self" : Str) :: ps) sp ∧ Meth K C m f ∧ Binds K fd (("self" : Str) :: ps) []
theorem pe_met {X : Cx} {CX : CXT} {k : Nat} {C : Addr} {m : Str} {ps : List Str} {sp : Sp} {E : XK} {pos apos : Pos} {e o : Expr} {es : List Expr} {ta : TE} {t : TA} {pl : Sem Bool} (G : MetF X.prog X.w X.K X.mg X.base CX k C m ps sp) (c : Cls X.K C) (he : PE X o ta) (hr : Room k X.A) (hx : Passes CX X E) (ha : PA X (e :: es) t)
    (hst : starEach (e :: es) X.env = (false, eval e X.env) :: starEach es X.env := by rfl) (hpl : (backTo pos (starEach es X.env)).any (·.1) = false := by rfl)
    (ht : eval (.Call (.Attribute o m apos) (e :: es) [] pos) X.env = (do
      let ov ← eval o X.env
      standAt apos.atName
      let (f, first) ← holding [ov] (getMethod ov m pl)
      callWith pos f first (backTo pos (starEach (e :: es) X.env)) (backToKw pos (keywordEach [] X.env))) := by rfl) :
    PE X (.Call (.Attribute o m apos) (e :: es) [] pos) (tMeth C m sp [] E ta t) := by
  obtain ⟨f, fd, F, hm, hb⟩ := G
  exact pe_meth he c hm F hr hb .nil hx ha hst hpl ht
theorem gNameI {i : Nat} {v : V} {σ : L2.St} {H : Hp} {Q : L2.St → Hp → Prop} (h : Q (σ.set i (some v)) H) : gName i v σ H Q := h
section
variable {P : Program} {w : World} {K : PySem.W.Frag} {mg : Str → Option Value} {base : Heap} {T : List (Addr × Str)}
abbrev webF (κ : Kd) (dp tn nd sd tk hm th tg : Addr) : List (Str × V) := [("device", .ref dp), ("kind", .str (kdT κ)), ("nodes", .ref tn), ("_next", .ref nd), ("_steps", .ref sd), ("knots", .ref tk), ("_home", .ref hm), ("held", .ref th), ("_great", .ref tg)]
/-- a Web -/
structure WebAt (K : PySem.W.Frag) (Cd Cw : Addr) (κ : Kd) (d : Dv) (p : Addr) (ks : List (List Nd)) (H : Hp) : Prop where
  parts : Parts (stp κ d) (nds κ d) ks
  ex : ∃ (dx dp tn nd sd tk hm th tg : Addr) (kv gv : List V) (hk : List Nd), H p = some (.ins Cw dx (webF κ dp tn nd sd tk hm th tg)) ∧
    DevAt Cd d dp H ∧ StpD κ K H nd (nds κ d) (sgs d) (nxs κ d) ∧ H tk = some (.tup kv) ∧ Ech (PtV κ H) kv ks ∧ H hm = some (FD κ hk fun n => .int (hmv ks n : Nat)) ∧ (∀ n, n ∈ hk ↔ n ∈ nds κ d) ∧
    H th = some (.tup (ks.map fun p => .str (tx (heldL κ d p)))) ∧ H tg = some (.lst gv) ∧ gv.length = ks.length ∧
    ∀ (i : Nat) (p : List Nd) (v : V), ks[i]? = some p → gv[i]? = some v → ∃ (b : Addr) (gs : List Str), v = V.ref b ∧ H b = some (.tup (gs.map V.str)) ∧ ∀ x ∈ p, GreatAt κ d ks x gs
def spWebInit (T : List (Addr × Str)) (K : PySem.W.Frag) (Cd Cw : Addr) : Sp := fun vs H Q _ => ∃ (κ : Kd) (d : Dv) (H0 : Hp) (p dx dp : Addr), vs = [.ref p, .ref dp, .str (kdT κ)] ∧ Loc T H0 [(p, .ins Cw dx [])] H ∧ DevAt Cd d dp H0 ∧ Tabs T H0 ∧ ∀ H' ks, Gr T H0 H' → WebAt K Cd Cw κ d p ks H' → Q .non H'
theorem scWebInit : FnScope nWeb ["self", "device", "kind"] (defScope sWebInit) := ⟨rfl, rfl, rfl, by decide +kernel, rfl, by decide +kernel, by decide +kernel⟩
theorem ok_webInit {f Cd Cw : Addr} {fd : FuncData} (F : Fun K "__init__" "Web.__init__" sWebInit f fd) (B : Bt mg) (DC : DvC K mg Cd) (W : WbC K mg Cw) (G1 : CalF P w K mg base CX0 2 "next_node" ["device", "kind", "node", "number"] (spNext T Cd)) (G2 : CalF P w K mg base CX0 1 "strong_parts" ["nodes", "steps"] (spStrong T K))
    (G3 : CalF P w K mg base CX0 3 "numbered_parts" ["parts", "steps"] (spNumbered T K)) (G4 : MetF P w K mg base CX0 1 Cw "lot_held" ["knot", "signals"] (spLotHeld T K Cw)) (G5 : CalF P w K mg base CX0 2 "greatest_lots" ["lots"] (spGreatest T K)) : FnOk P w K mg base CX0 4 f fd ["self", "device", "kind"] (spWebInit T K Cd Cw) := by
  refine F.ok scWebInit (fun vs H Q E h => ?_) (fun cdv A outer s H vs Q E hr h => ?_)
  · obtain ⟨κ, d, H0, p, dx, dp, rfl, _⟩ := h
    rfl
  · obtain ⟨κ, d, H0, p, dx, dp, rfl, L, hd, hT, k⟩ := h
    have u0 := hu0 hr
    have u1 := hu1 hr
    have hr1 := hr.mono (show 1 ≤ 3 by decide)
    have hr2 := hr.mono (show 2 ≤ 3 by decide)
    refine ⟨_, (pss_cons (ps_if (pt_cmpR op_notIn_seq (pv 2) (pe_tup (pa_cons pe_str (pa_cons pe_str pa_nil))) rfl) (pss_one ps_never) pss_nil)
      (pss_cons (ps_fld (pv 0) (pv 1) rfl)
      (pss_cons (ps_fld (pv 0) (pv 2) rfl)
      (pss_cons (ps_set (i := 3) scWebInit.nd rfl (Or.inl rfl) (pe_callTy cr_range1 (by rfl) B.range (by decide +kernel) (pa_cons (pe_fld (pv 1) rfl) pa_nil)))
      (pss_cons (ps_setLc2 (i := 4) (own := [("i", 11), ("j", 12)]) (vs1 := [12]) (g := gName 11) (g1 := gName 12) (tt := tYes) (tt1 := tYes) rfl scWebInit.nd rfl rfl (sw_true rfl rfl rfl (by decide +kernel)) (pi_rngV (pv 3)) (blkOk_by (N := nWeb) (sc := defScope sWebInit) (by decide +kernel)) (by decide) (fun _ _ _ _ _ => (pg_name (i := 11) scWebInit.nd rfl (Or.inl rfl))) (fun _ _ _ _ _ => pts_nil) (fun _ _ _ _ _ => (pi_range2 (by rfl) B.range (pa_cons (pe_op op_add (pv 11) pe_int) (pa_cons (pe_fldK (K := K) (pv 1) rfl) pa_nil)))) (fun _ _ _ _ _ => (pg_name (i := 12) scWebInit.nd rfl (Or.inl rfl))) (fun _ _ _ _ _ => pts_nil) (fun _ _ _ _ _ => (pe_tup (pa_cons (pv 11) (pa_cons (pv 12) pa_nil)))))
      (pss_cons (ps_fld (pv 0) (pe_ifExp (pt_cmpR op_eq (pv 2) pe_str (nomark _)) (pe_callTy (cr_tupleRng rfl) (by rfl) B.tuple (by decide +kernel) (pa_cons (pv 3) pa_nil)) (pe_callTy call_tuple_of (by rfl) B.tuple (by decide +kernel) (pa_cons (pv 4) pa_nil))) rfl)
      (pss_cons (ps_fld (pv 0) (pe_dnewN κ) rfl)
      (pss_cons (ps_fld (pv 0) (pe_dnewN κ) rfl)
      (pss_cons (ps_for PassesOwn.never rfl (pi_tup (pe_fld (pv 0) rfl)) (pg_name (i := 5) scWebInit.nd rfl (Or.inr rfl)) (pss_cons (ps_dput u1 (pe_fld (pv 0) rfl) (pv 5) (pe_lc (own := [("at", 6)]) (g := gName 6) (tt := tYes) rfl scWebInit.nd (pi_range1 (by rfl) B.range (pa_cons (pe_callB call_len_str (by rfl) B.len (by decide +kernel) (pa_cons (pe_fld (pv 1) rfl) pa_nil)) pa_nil)) (blkOk_by (N := nWeb) (sc := defScope sWebInit) (by decide +kernel)) (fun _ _ _ _ _ => (pg_name (i := 6) scWebInit.nd rfl (Or.inl rfl))) (fun _ _ _ _ _ => pts_nil) (fun _ _ _ _ _ => (pe_cal G1 hr2 (pa_cons (pv 1) (pa_cons (pv 2) (pa_cons (pv 5) (pa_cons (pv 6) pa_nil)))) pass0))) rfl)
      (pss_one (ps_dput u1 (pe_fld (pv 0) rfl) (pv 5) (pe_lc (own := [("after", 7)]) (g := gName 7) rfl scWebInit.nd (pi_list (pe_dget u1 (pe_fld (pv 0) rfl) (pv 5) (fun _ _ => rfl))) (blkOk_by (N := nWeb) (sc := defScope sWebInit) (by decide +kernel)) (fun _ _ _ _ _ => (pg_name (i := 7) scWebInit.nd rfl (Or.inl rfl))) (fun _ _ _ _ _ => pts_one (pt_cmpR op_notN (pv 7) pe_non (nomark _))) (fun _ _ _ _ _ => pv 7)) rfl))))
      (pss_cons (ps_fld (pv 0) (pe_cal G3 hr (pa_cons (pe_cal G2 hr1 (pa_cons (pe_fld (pv 0) rfl) (pa_cons (pe_fld (pv 0) rfl) pa_nil)) pass0) (pa_cons (pe_fld (pv 0) rfl) pa_nil)) pass0) rfl)
      (pss_cons (ps_fld (pv 0) (pe_gdc2 (own := [("at", 6), ("knot", 8), ("node", 5)]) (vs1 := [5]) (g := gTup K 2 (gCons (gName 6) (gCons (gName 8) gNil))) (g1 := gName 5) (tt := tYes) (tt1 := tYes) κ u0 rfl scWebInit.nd (pi_enumT (by rfl) B.enumerate (pa_cons (pe_fld (pv 0) rfl) pa_nil)) (blkOk_by (N := nWeb) (sc := defScope sWebInit) (by decide +kernel)) (fun _ _ _ _ _ => (pg_tupK rfl (pgs_cons (pg_name (i := 6) scWebInit.nd rfl (Or.inl rfl)) (pgs_cons (pg_name (i := 8) scWebInit.nd rfl (Or.inl rfl)) pgs_nil)))) (fun _ _ _ _ _ => pts_nil) (fun _ _ _ _ _ => (pi_tupK (K := K) (pv 8))) (fun _ _ _ _ _ => (pg_name (i := 5) scWebInit.nd rfl (Or.inl rfl))) (fun _ _ _ _ _ => pts_nil) (fun _ _ _ _ _ => pv 5) (fun _ _ _ _ _ => pv 6)) rfl)
      (pss_cons (ps_fld (pv 0) (pe_callTy call_tuple_of (by rfl) B.tuple (by decide +kernel) (pa_cons (pe_lc (own := [("knot", 8)]) (g := gName 8) (tt := tYes) rfl scWebInit.nd (pi_tup (pe_fld (pv 0) rfl)) (blkOk_by (N := nWeb) (sc := defScope sWebInit) (by decide +kernel)) (fun _ _ _ _ _ => (pg_name (i := 8) scWebInit.nd rfl (Or.inl rfl))) (fun _ _ _ _ _ => pts_nil) (fun _ _ _ _ _ => (pe_met G4 W.cl (pv 0) hr1 pass0 (pa_cons (pv 8) (pa_cons (pe_fldK (K := K) (pv 1) rfl) pa_nil))))) pa_nil)) rfl)
      (pss_cons (ps_set (i := 9) scWebInit.nd rfl (Or.inl rfl) (pe_lst pa_nil))
      (pss_cons (ps_for PassesOwn.never rfl (pi_enumT (by rfl) B.enumerate (pa_cons (pe_fld (pv 0) rfl) pa_nil)) (pg_tup rfl (pgs_cons (pg_name (i := 6) scWebInit.nd rfl (Or.inl rfl)) (pgs_cons (pg_name (i := 8) scWebInit.nd rfl (Or.inl rfl)) pgs_nil))) (pss_cons (ps_set (i := 10) scWebInit.nd rfl (Or.inl rfl) (pe_lst (pa_cons (pe_ix ix_seq (pe_fld (pv 0) rfl) (pv 6) (fun _ _ => rfl)) pa_nil)))
      (pss_cons (ps_for PassesOwn.never rfl (pi_tup (pv 8)) (pg_name (i := 5) scWebInit.nd rfl (Or.inr rfl)) (pss_one (ps_for PassesOwn.never rfl (pi_list (pe_dget u1 (pe_fld (pv 0) rfl) (pv 5) (fun _ _ => rfl))) (pg_name (i := 7) scWebInit.nd rfl (Or.inl rfl)) (pss_one (ps_if (pt_cmpR op_ne (pe_dget u1 (pe_fld (pv 0) rfl) (pv 7) (fun _ _ => rfl)) (pv 6) (nomark _)) (pss_one (ps_expr (pe_bm PySem.F.plainAttrs_list PySem.F.slot_list_extend PySem.F.type_list_extend mt_extT (pv 10) (pa_cons (pe_ix ix_list (pv 9) (pe_dget u1 (pe_fld (pv 0) rfl) (pv 7) (fun _ _ => rfl)) (fun _ _ => rfl)) pa_nil)))) pss_nil)))))
      (pss_one (ps_expr (pe_bm PySem.F.plainAttrs_list PySem.F.slot_list_append PySem.F.type_list_append mt_append (pv 9) (pa_cons (pe_cal G5 hr2 (pa_cons (pe_lc (own := [("lot", 13)]) (g := gName 13) rfl scWebInit.nd (pi_list (pv 10)) (blkOk_by (N := nWeb) (sc := defScope sWebInit) (by decide +kernel)) (fun _ _ _ _ _ => (pg_name (i := 13) scWebInit.nd rfl (Or.inl rfl))) (fun _ _ _ _ _ => pts_one (pt_cmpR op_ne (pv 13) pe_str (nomark _))) (fun _ _ _ _ _ => pv 13)) pa_nil) pass0) pa_nil)))))))
      (pss_one (ps_fld (pv 0) (pv 9) rfl)))))))))))))))), ?_⟩
    have m1 := d.m1
    have m5 := d.m5
    obtain ⟨dx', tb, ts, h1, _⟩ := (hd.gr L.g).ex
    refine ⟨_, rfl, by show 2 ≤ sizeLine; decide, fun t0 ht0 => ?_⟩
    have L0 := L.mono (Gr.new (o := .tup [.str "states", .str "pairs"]) ht0)
    have ht1 : (upd H t0 (.tup [.str "states", .str "pairs"])) t0 = some (.tup [.str "states", .str "pairs"]) := upd_same
    generalize upd H t0 (.tup [.str "states", .str "pairs"]) = H1 at L0 ht1
    refine ⟨t0, _, rfl, .inr (SqT.of ht1), rfl, rfl, _, rfl, ?_⟩
    have hin : inV (V.str (kdT κ)) [V.str "states", V.str "pairs"] = true := by cases κ <;> decide
    show (if (if true = true then !inV (V.str (kdT κ)) [V.str "states", V.str "pairs"] else inV (V.str (kdT κ)) [V.str "states", V.str "pairs"]) = true then _ else _)
    rw [hin]
    refine iteF ?_
    -- self.device, self.kind
    refine ⟨_, rfl, _, rfl, p, Cw, dx, _, rfl, L0.get (i := 0) rfl, W.cl, W.n1, (by show 0 < 1000; decide), ?_⟩
    have L1 : Loc T H0 [(p, .ins Cw dx [("device", V.ref dp)])] (upd H1 p (.ins Cw dx (putF "device" (.ref dp) []))) := L0.set (i := 0) rfl (pl_ins (fs := [("device", V.ref dp)]))
    generalize upd H1 p (.ins Cw dx (putF "device" (.ref dp) [])) = H2 at L1
    refine ⟨_, rfl, _, rfl, p, Cw, dx, _, rfl, L1.get (i := 0) rfl, W.cl, W.n2, (by show 1 < 1000; decide), ?_⟩
    have L2 : Loc T H0 [(p, .ins Cw dx [("device", V.ref dp), ("kind", V.str (kdT κ))])] (upd H2 p (.ins Cw dx (putF "kind" (.str (kdT κ)) [("device", V.ref dp)]))) := L1.set (i := 0) rfl (pl_ins (fs := [("device", V.ref dp), ("kind", V.str (kdT κ))]))
    generalize upd H2 p (.ins Cw dx (putF "kind" (.str (kdT κ)) [("device", V.ref dp)])) = H3 at L2
    obtain ⟨dx2, tb2, ts2, h2, _⟩ := (hd.gr L2.g).ex
    -- states, pairs
    refine ⟨_, rfl, dp, Cd, dx2, _, _, rfl, h2, DC.cl, DC.n1, rfl, _, rfl, fun R hR => ?_⟩
    have L3 := L2.mono (Gr.new (o := .rng 0 (d.m : Nat)) hR)
    have hR2 : (upd H3 R (.rng 0 (d.m : Nat))) R = some (.rng 0 (d.m : Nat)) := upd_same
    generalize upd H3 R (.rng 0 (d.m : Nat)) = H4 at L3 hR2
    dsimp only
    refine gNameI ?_
    refine tSeqAsg ?_
    refine pairs_ok DC hd L3 hR2 fun Dp H5 pv L4 hpv g5 => ?_
    have hR3 := g5.rng hR2
    refine tSeqFld ?_
    refine nodes_ok L4 hR3 (L4.get (i := 0) rfl) hpv fun tn nv H6 L5 htn hnv => ?_
    have L5 := L5.sub (List.sublist_cons_self _ _)
    refine ⟨_, rfl, p, Cw, dx, _, rfl, L5.get (i := 0) rfl, W.cl, W.n3, (by show 2 < 1000; decide), ?_⟩
    have L6 : Loc T H0 [(p, .ins Cw dx [("device", V.ref dp), ("kind", V.str (kdT κ)), ("nodes", V.ref tn)])] (upd H6 p (.ins Cw dx (putF "nodes" (.ref tn) [("device", V.ref dp), ("kind", V.str (kdT κ))]))) := L5.set (i := 0) rfl (pl_ins (fs := [("device", V.ref dp), ("kind", V.str (kdT κ)), ("nodes", V.ref tn)]))
    have t6 : TupK H6 (upd H6 p (.ins Cw dx (putF "nodes" (.ref tn) [("device", V.ref dp), ("kind", V.str (kdT κ))]))) := L5.tk (i := 0) rfl fun xs e => by cases e
    have htn6 := t6 _ _ htn
    have hnv6 := NVs.tk hnv t6
    generalize upd H6 p (.ins Cw dx (putF "nodes" (.ref tn) [("device", V.ref dp), ("kind", V.str (kdT κ))])) = H7 at L6 htn6 hnv6
    -- _next, _steps
    refine tSeqFld ?_
    intro Nx hNx
    have L7 := L6.new hNx (pl_FD (κ := κ) (ks := []) (f := fun _ => .non))
    have t7 : TupK H7 (upd H7 Nx (FD κ [] fun _ => .non)) := .new hNx
    refine ⟨_, rfl, p, Cw, dx, _, rfl, L7.get (i := 1) rfl, W.cl, W.n4, (by show 3 < 1000; decide), ?_⟩
    have L8 : Loc T H0 [(Nx, FD κ [] fun _ => .non), (p, .ins Cw dx [("device", V.ref dp), ("kind", V.str (kdT κ)), ("nodes", V.ref tn), ("_next", V.ref Nx)])] (upd (upd H7 Nx (FD κ [] fun _ => .non)) p (.ins Cw dx (putF "_next" (.ref Nx) [("device", V.ref dp), ("kind", V.str (kdT κ)), ("nodes", V.ref tn)]))) := L7.set (i := 1) rfl (pl_ins (fs := [("device", V.ref dp), ("kind", V.str (kdT κ)), ("nodes", V.ref tn), ("_next", V.ref Nx)]))
    have t8 : TupK H7 (upd (upd H7 Nx (FD κ [] fun _ => .non)) p (.ins Cw dx (putF "_next" (.ref Nx) [("device", V.ref dp), ("kind", V.str (kdT κ)), ("nodes", V.ref tn)]))) := t7.trans (L7.tk (i := 1) rfl fun xs e => by cases e)
    have htn8 := t8 _ _ htn6
    have hnv8 := NVs.tk hnv6 t8
    generalize upd (upd H7 Nx (FD κ [] fun _ => .non)) p (.ins Cw dx (putF "_next" (.ref Nx) [("device", V.ref dp), ("kind", V.str (kdT κ)), ("nodes", V.ref tn)])) = H8 at L8 htn8 hnv8
    refine tSeqFld ?_
    intro Sx hSx
    have L9 := L8.new hSx (pl_FD (κ := κ) (ks := []) (f := fun _ => .non))
    have t9 : TupK H8 (upd H8 Sx (FD κ [] fun _ => .non)) := .new hSx
    refine ⟨_, rfl, p, Cw, dx, _, rfl, L9.get (i := 2) rfl, W.cl, W.n5, (by show 4 < 1000; decide), ?_⟩
    have L10 : Loc T H0 [(Sx, FD κ [] fun _ => .non), (Nx, FD κ [] fun _ => .non), (p, .ins Cw dx [("device", V.ref dp), ("kind", V.str (kdT κ)), ("nodes", V.ref tn), ("_next", V.ref Nx), ("_steps", V.ref Sx)])] (upd (upd H8 Sx (FD κ [] fun _ => .non)) p (.ins Cw dx (putF "_steps" (.ref Sx) [("device", V.ref dp), ("kind", V.str (kdT κ)), ("nodes", V.ref tn), ("_next", V.ref Nx)]))) := L9.set (i := 2) rfl (pl_ins (fs := [("device", V.ref dp), ("kind", V.str (kdT κ)), ("nodes", V.ref tn), ("_next", V.ref Nx), ("_steps", V.ref Sx)]))
    have t10 : TupK H8 (upd (upd H8 Sx (FD κ [] fun _ => .non)) p (.ins Cw dx (putF "_steps" (.ref Sx) [("device", V.ref dp), ("kind", V.str (kdT κ)), ("nodes", V.ref tn), ("_next", V.ref Nx)]))) := t9.trans (L9.tk (i := 2) rfl fun xs e => by cases e)
    have htn10 := t10 _ _ htn8
    have hnv10 := NVs.tk hnv8 t10
    generalize upd (upd H8 Sx (FD κ [] fun _ => .non)) p (.ins Cw dx (putF "_steps" (.ref Sx) [("device", V.ref dp), ("kind", V.str (kdT κ)), ("nodes", V.ref tn), ("_next", V.ref Nx)])) = H10 at L10 htn10 hnv10
    obtain ⟨Hb, gb, Lb, _, tkb⟩ := (L10.perm (List.reverse_perm _).symm).rebaseT (List.Sublist.refl _) (fun q hq xs => by
      have hq : q ∈ [(p, HO.ins Cw dx [("device", V.ref dp), ("kind", V.str (kdT κ)), ("nodes", V.ref tn), ("_next", V.ref Nx), ("_steps", V.ref Sx)]), (Nx, FD κ [] fun _ => .non), (Sx, FD κ [] fun _ => .non)] := hq
      simp at hq
      rcases hq with rfl | rfl | rfl
      · exact fun e => by cases e
      · exact FD_ne_tup
      · exact FD_ne_tup)
    have htnb := tkb _ _ htn10
    have hnvb := NVs.tk hnv10 tkb
    have hdb := hd.gr gb
    have hTb := gb.tab hT
    clear htn10 hnv10 tkb L10
    refine tSeqI ?_
    refine steps_ok W DC hdb htnb hnvb rfl rfl rfl Lb fun Hc H11 x5 gc Lc hSp hSt => ?_
    have hcl : ∀ m ∈ nds κ d, ∀ y ∈ stp κ d m, y ∈ nds κ d := fun m _ y hy => mem_nds.mpr (stp_in hy)
    have g11 := gc.trans Lc.g
    dsimp only
    refine tSeqFld ?_
    refine ⟨_, rfl, p, Cw, dx, _, _, rfl, Lc.get (i := 0) rfl, W.cl, W.n3, rfl, _, rfl, p, Cw, dx, _, _, rfl, Lc.get (i := 0) rfl, W.cl, W.n5, rfl, κ, tn, Sx, nv, nds κ d, stp κ d, rfl, SqT.of (g11.tup htnb), NVs.gr hnvb g11, nds_nd, nds_len, hSt.gr Lc.g, fun _ => stp_len, hcl, fun q H12 fv ps hq hqf g12 hpv hP1 => ?_⟩
    have L12 := Lc.mono g12
    refine ⟨_, rfl, p, Cw, dx, _, _, rfl, L12.get (i := 0) rfl, W.cl, W.n5, rfl, κ, q, Sx, fv, ps, nds κ d, stp κ d, rfl, SqL.of hqf, hpv, hP1, nds_len, hSt.gr L12.g, hcl, L12.g.tab (gc.tab hTb), fun tk H13 kv ks htk0 htk g13 hkv P => ?_⟩
    have L13 := L12.mono g13
    refine ⟨_, rfl, p, Cw, dx, _, rfl, L13.get (i := 0) rfl, W.cl, W.n6, (by show 5 < 1000; decide), ?_⟩
    have L14 : Loc T Hc [(p, .ins Cw dx [("device", V.ref dp), ("kind", V.str (kdT κ)), ("nodes", V.ref tn), ("_next", V.ref Nx), ("_steps", V.ref Sx), ("knots", V.ref tk)])] (upd H13 p (.ins Cw dx (putF "knots" (.ref tk) [("device", V.ref dp), ("kind", V.str (kdT κ)), ("nodes", V.ref tn), ("_next", V.ref Nx), ("_steps", V.ref Sx)]))) := L13.set (i := 0) rfl (pl_ins (fs := [("device", V.ref dp), ("kind", V.str (kdT κ)), ("nodes", V.ref tn), ("_next", V.ref Nx), ("_steps", V.ref Sx), ("knots", V.ref tk)]))
    have t14 : TupK H13 (upd H13 p (.ins Cw dx (putF "knots" (.ref tk) [("device", V.ref dp), ("kind", V.str (kdT κ)), ("nodes", V.ref tn), ("_next", V.ref Nx), ("_steps", V.ref Sx)]))) := L13.tk (i := 0) rfl fun xs e => by cases e
    generalize upd H13 p (.ins Cw dx (putF "knots" (.ref tk) [("device", V.ref dp), ("kind", V.str (kdT κ)), ("nodes", V.ref tn), ("_next", V.ref Nx), ("_steps", V.ref Sx)])) = H14 at L14 t14
    obtain ⟨Hd, gd, Ld, _, tkd⟩ := L14.rebaseT (List.Sublist.refl _) (fun q hq xs => by
      rw [List.mem_singleton.mp hq]
      exact fun e => by cases e)
    have htkd := tkd _ _ (t14 _ _ htk)
    have hkvd : Ech (PtV κ Hd) kv ks := Ech.mono hkv fun _ _ h => PtV.tk h (t14.trans tkd)
    have okn : ∀ m ∈ nds κ d, Okn κ m := fun m hm => (mem_nds.mp hm).ok
    -- _home
    refine tSeqFld ?_
    refine home2_ok W P nds_len okn htkd hkvd rfl Ld fun Hm H15 L15 => ?_
    refine ⟨_, rfl, p, Cw, dx, _, rfl, L15.get (i := 1) rfl, W.cl, W.n7, (by show 6 < 1000; decide), ?_⟩
    have L16 : Loc T Hd [(Hm, FD κ ks.flatten fun x => .int (hmv ks x : Nat)), (p, .ins Cw dx [("device", V.ref dp), ("kind", V.str (kdT κ)), ("nodes", V.ref tn), ("_next", V.ref Nx), ("_steps", V.ref Sx), ("knots", V.ref tk), ("_home", V.ref Hm)])] (upd H15 p (.ins Cw dx (putF "_home" (.ref Hm) [("device", V.ref dp), ("kind", V.str (kdT κ)), ("nodes", V.ref tn), ("_next", V.ref Nx), ("_steps", V.ref Sx), ("knots", V.ref tk)]))) := L15.set (i := 1) rfl (pl_ins (fs := [("device", V.ref dp), ("kind", V.str (kdT κ)), ("nodes", V.ref tn), ("_next", V.ref Nx), ("_steps", V.ref Sx), ("knots", V.ref tk), ("_home", V.ref Hm)]))
    generalize upd H15 p (.ins Cw dx (putF "_home" (.ref Hm) [("device", V.ref dp), ("kind", V.str (kdT κ)), ("nodes", V.ref tn), ("_next", V.ref Nx), ("_steps", V.ref Sx), ("knots", V.ref tk)])) = H16 at L16
    obtain ⟨He, ge, Le, keepe⟩ := L16.rebase (M := [(p, .ins Cw dx [("device", V.ref dp), ("kind", V.str (kdT κ)), ("nodes", V.ref tn), ("_next", V.ref Nx), ("_steps", V.ref Sx), ("knots", V.ref tk), ("_home", V.ref Hm)])]) (List.sublist_cons_self _ _)
    have hHm : He Hm = some (FD κ ks.flatten fun x => .int (hmv ks x : Nat)) := keepe _ _ (L16.get (i := 0) rfl) fun h => by
      have nd := L16.nd
      simp at nd h
      exact nd h
    have hhk : ∀ n, n ∈ ks.flatten ↔ n ∈ nds κ d := fun n => by
      rw [P.all n]
      exact List.mem_flatten.trans ⟨fun ⟨q, h1, h2⟩ => ⟨q, h1, h2⟩, fun ⟨q, h1, h2⟩ => ⟨q, h1, h2⟩⟩
    have hde := hdb.gr ((gc.trans gd).trans ge)
    have hSpe := hSp.gr (gd.trans ge)
    have hSte := hSt.gr (gd.trans ge)
    have htke := ge.tup htkd
    have hkve : Ech (PtV κ He) kv ks := Ech.mono hkvd fun _ _ h => PtV.gr h ge
    -- held
    refine tSeqFld ?_
    refine tCB1 ?_
    refine held_ok W DC hde P htke hkve hSpe rfl rfl rfl Le fun Dh H17 L17 => ?_
    refine ⟨Dh, _, rfl, .inl ⟨SqL.of (L17.get (i := 0) rfl), fun th hth0 => ?_⟩⟩
    have L18 := L17.mono (Gr.new (o := .tup (ks.map fun p => V.str (tx (heldL κ d p)))) hth0)
    have hth : (upd H17 th (.tup (ks.map fun p => V.str (tx (heldL κ d p))))) th = some (.tup (ks.map fun p => V.str (tx (heldL κ d p)))) := upd_same
    generalize upd H17 th (.tup (ks.map fun p => V.str (tx (heldL κ d p)))) = H18 at L18 hth
    refine ⟨_, rfl, p, Cw, dx, _, rfl, L18.get (i := 1) rfl, W.cl, W.n8, (by show 7 < 1000; decide), ?_⟩
    have L19 : Loc T He [(Dh, .lst (ks.map fun p => V.str (tx (heldL κ d p)))), (p, .ins Cw dx [("device", V.ref dp), ("kind", V.str (kdT κ)), ("nodes", V.ref tn), ("_next", V.ref Nx), ("_steps", V.ref Sx), ("knots", V.ref tk), ("_home", V.ref Hm), ("held", V.ref th)])] (upd H18 p (.ins Cw dx (putF "held" (.ref th) [("device", V.ref dp), ("kind", V.str (kdT κ)), ("nodes", V.ref tn), ("_next", V.ref Nx), ("_steps", V.ref Sx), ("knots", V.ref tk), ("_home", V.ref Hm)]))) := L18.set (i := 1) rfl (pl_ins (fs := [("device", V.ref dp), ("kind", V.str (kdT κ)), ("nodes", V.ref tn), ("_next", V.ref Nx), ("_steps", V.ref Sx), ("knots", V.ref tk), ("_home", V.ref Hm), ("held", V.ref th)]))
    have t19 : TupK H18 (upd H18 p (.ins Cw dx (putF "held" (.ref th) [("device", V.ref dp), ("kind", V.str (kdT κ)), ("nodes", V.ref tn), ("_next", V.ref Nx), ("_steps", V.ref Sx), ("knots", V.ref tk), ("_home", V.ref Hm)]))) := L18.tk (i := 1) rfl fun xs e => by cases e
    generalize upd H18 p (.ins Cw dx (putF "held" (.ref th) [("device", V.ref dp), ("kind", V.str (kdT κ)), ("nodes", V.ref tn), ("_next", V.ref Nx), ("_steps", V.ref Sx), ("knots", V.ref tk), ("_home", V.ref Hm)])) = H19 at L19 t19
    obtain ⟨Hf, gf, Lf, _, tkf⟩ := (L19.sub (List.sublist_cons_self _ _)).rebaseT (List.Sublist.refl _) (fun q hq xs => by
      rw [List.mem_singleton.mp hq]
      exact fun e => by cases e)
    have hthf := tkf _ _ (t19 _ _ hth)
    -- great
    refine ⟨Nat.zero_le _, fun Gt hGt => ?_⟩
    have L20 := Lf.new hGt (pl_lst (xs := []))
    dsimp only
    refine gNameI ?_
    refine tSeqI ?_
    refine great_ok (hk := ks.flatten) W P (gf.tup htke) (Ech.mono hkve fun _ _ h => PtV.gr h gf) hthf (hSte.gr gf) (gf.ext _ _ hHm pl_FD.1) hhk rfl rfl rfl rfl L20 fun H21 Hg x5 x6 x7 x8 x10 gv gg L21 hgv => ?_
    refine ⟨_, rfl, _, rfl, p, Cw, dx, _, rfl, L21.get (i := 1) rfl, W.cl, W.n9, (by show 8 < 1000; decide), ?_⟩
    have L22 := L21.set (i := 1) rfl (pl_ins (C := Cw) (dx := dx) (fs := webF κ dp tn Nx Sx tk Hm th Gt))
    have t22 := L21.tk (i := 1) (u := .ins Cw dx (webF κ dp tn Nx Sx tk Hm th Gt)) rfl fun xs e => by cases e
    have gE : Gr T He _ := (gf.trans gg).trans L22.g
    have hg22 := hgv.tk t22
    refine k _ ks (((gb.trans gc).trans (gd.trans ge)).trans gE) ⟨P, dx, dp, tn, Nx, Sx, tk, Hm, th, Gt, kv, gv, ks.flatten, L22.get (i := 1) rfl, hde.gr gE, hSpe.gr gE, gE.tup htke, Ech.mono hkve fun _ _ h => PtV.gr h gE, gE.ext _ _ hHm pl_FD.1, hhk, (gg.trans L22.g).tup hthf, L22.get (i := 0) rfl, hg22.1, fun i p' v hp hv => hg22.2 i p' v (List.getElem?_eq_some_iff.mp hp).1 hp hv⟩
end
end Bk
end
section
/-! Web: need_node, knot_of, great_lots, keeps. -/
namespace Bk
open PySem L2 LamX PySem.Spec PyProof.Rows
abbrev sNeedNode : Stmt := inClass (top 33) 2
abbrev sKnotOf : Stmt := inClass (top 33) 4
abbrev sGreatLots : Stmt := inClass (top 33) 7
abbrev sKeeps : Stmt := inClass (top 33) 8
theorem WebAt.gr {T : List (Addr × Str)} {K : PySem.W.Frag} {Cd Cw : Addr} {κ : Kd} {d : Dv} {p : Addr} {ks : List (List Nd)} {H H' : Hp} (W : WebAt K Cd Cw κ d p ks H) (g : Gr T H H') : WebAt K Cd Cw κ d p ks H' := by
  obtain ⟨dx, dp, tn, nd, sd, tk, hm, th, tg, kv, gv, hk, h1, h2, h3, h4, h5, h6, h7, h8, h9, h10, h11⟩ := W.ex
  refine ⟨W.parts, dx, dp, tn, nd, sd, tk, hm, th, tg, kv, gv, hk, g.ins h1, h2.gr g, h3.gr g, g.tup h4, Ech.mono h5 fun _ _ q => PtV.gr q g, g.ext _ _ h6 pl_FD.1, h7, g.tup h8, g.lst h9, h10, fun i p v e1 e2 => ?_⟩
  obtain ⟨b, gs, e, hb, hx⟩ := h11 i p v e1 e2
  exact ⟨b, gs, e, g.tup hb, hx⟩
/-- the error that is raised for no node -/
def nodC (κ : Kd) (Cs Cp : Addr) : Addr := match κ with
  | .st => Cs
  | .pr => Cp
def nodF : Kd → Str
  | .st => "state"
  | .pr => "pair"
/-- v is a node, then good; or it is a pair (0, m), and the error of no node goes out -/
def NdArg (T : List (Addr × Str)) (κ : Kd) (d : Dv) (Cs Cp : Addr) (v : V) (H : Hp) (E : XK) (good : Nd → Prop) : Prop := (∃ n, NV κ H v n ∧ InN κ d n ∧ good n) ∨ (∃ b, v = .ref b ∧ H b = some (.tup [.int (0 : Nat), .int (d.m : Nat)]) ∧ Out T (nodC κ Cs Cp) (nodF κ) v H E)
theorem NdArg.imp {T : List (Addr × Str)} {κ : Kd} {d : Dv} {Cs Cp : Addr} {v : V} {H : Hp} {E : XK} {g1 g2 : Nd → Prop} (h : NdArg T κ d Cs Cp v H E g1) (k : ∀ n, NV κ H v n → InN κ d n → g1 n → g2 n) : NdArg T κ d Cs Cp v H E g2 := by
  rcases h with ⟨n, h1, h2, h3⟩ | h
  · exact .inl ⟨n, h1, h2, k n h1 h2 h3⟩
  · exact .inr h
section
variable {P : Program} {w : World} {K : PySem.W.Frag} {mg : Str → Option Value} {base : Heap} {T : List (Addr × Str)} {Cd Cw Cs Cp Cr : Addr}
def spNeedNode (T : List (Addr × Str)) (K : PySem.W.Frag) (Cd Cw Cs Cp : Addr) : Sp := fun vs H Q E => ∃ (κ : Kd) (d : Dv) (p : Addr) (ks : List (List Nd)) (v : V), vs = [.ref p, v] ∧ WebAt K Cd Cw κ d p ks H ∧ NdArg T κ d Cs Cp v H E fun _ => Q v H
theorem scNeedNode : FnScope ["self", "node"] ["self", "node"] (defScope sNeedNode) := ⟨rfl, rfl, rfl, by decide +kernel, rfl, by decide +kernel, by decide +kernel⟩
theorem ok_needNode {f : Addr} {fd : FuncData} (F : Fun K "need_node" "Web.need_node" sNeedNode f fd) (W : WbC K mg Cw) (G1 : CalF P w K mg base (L2.CX P w) 3 "need_state" ["device", "state"] (spNeedState T K Cd Cs))
    (G2 : CalF P w K mg base (L2.CX P w) 3 "need_pair" ["device", "pair"] (spNeedPair T Cd Cp)) : FnOk P w K mg base (L2.CX P w) 4 f fd ["self", "node"] (spNeedNode T K Cd Cw Cs Cp) := by
  refine F.okX scNeedNode (fun vs H Q E h => ?_) (fun cdv A outer s H vs Q E hr h => ?_)
  · obtain ⟨κ, d, p, ks, v, rfl, _⟩ := h
    rfl
  · obtain ⟨κ, d, p, ks, v, rfl, hW, hn⟩ := h
    refine ⟨_, pss_one (ps_ret (pe_ifExp (pt_cmpR op_eq (pe_fld (pv 0) rfl) pe_str (nomark _))
      (pe_cal G1 hr (pa_cons (pe_fld (pv 0) rfl) (pa_cons (pv 1) pa_nil)) (passes_call (takes_of rfl rfl rfl rfl) fun _ _ _ _ h => h))
      (pe_cal G2 hr (pa_cons (pe_fld (pv 0) rfl) (pa_cons (pv 1) pa_nil)) (passes_call (takes_of rfl rfl rfl rfl) fun _ _ _ _ h => h)))), ?_⟩
    obtain ⟨dx, dp, tn, nd, sd, tk, hm, th, tg, kv, gv, hk, h1, h2, _⟩ := id hW.ex
    refine ⟨_, rfl, p, Cw, dx, _, _, rfl, h1, W.cl, W.n2, rfl, rfl, _, rfl, ?_⟩
    cases κ with
    | st =>
      refine iteT ⟨_, rfl, p, Cw, dx, _, _, rfl, h1, W.cl, W.n1, rfl, _, rfl, dp, d, v, ?_⟩
      rcases hn with ⟨n, hv, hi, q⟩ | ⟨b, rfl, hb, q⟩
      · obtain ⟨rfl, e⟩ := hv
        exact ⟨_, rfl, h2, .int _, .inl ⟨n.1, rfl, hi.2, q⟩⟩
      · exact ⟨_, rfl, h2, .tup hb, .inr ⟨rfl, q⟩⟩
    | pr =>
      refine iteF ⟨_, rfl, p, Cw, dx, _, _, rfl, h1, W.cl, W.n1, rfl, _, rfl, ?_⟩
      rcases hn with ⟨n, hv, hi, q⟩ | ⟨b, rfl, hb, q⟩
      · obtain ⟨b, rfl, hb⟩ := hv
        exact ⟨dp, d, b, n.1, n.2, rfl, h2, hb, fun _ => q, fun z => absurd hi z⟩
      · exact ⟨dp, d, b, 0, d.m, rfl, h2, hb, fun z => absurd z.2 (Nat.lt_irrefl _), fun _ => q⟩
def spKnotOf (T : List (Addr × Str)) (K : PySem.W.Frag) (Cd Cw Cs Cp : Addr) : Sp := fun vs H Q E => ∃ (κ : Kd) (d : Dv) (p : Addr) (ks : List (List Nd)) (v : V), vs = [.ref p, v] ∧ WebAt K Cd Cw κ d p ks H ∧ NdArg T κ d Cs Cp v H E fun n => Q (.int (hmv ks n : Nat)) H
theorem scKnotOf : FnScope ["self", "node"] ["self", "node"] (defScope sKnotOf) := ⟨rfl, rfl, rfl, by decide +kernel, rfl, by decide +kernel, by decide +kernel⟩
theorem ok_knotOf {f : Addr} {fd : FuncData} (F : Fun K "knot_of" "Web.knot_of" sKnotOf f fd) (W : WbC K mg Cw) (G : MetF P w K mg base (L2.CX P w) 4 Cw "need_node" ["node"] (spNeedNode T K Cd Cw Cs Cp)) : FnOk P w K mg base (L2.CX P w) 5 f fd ["self", "node"] (spKnotOf T K Cd Cw Cs Cp) := by
  refine F.okX scKnotOf (fun vs H Q E h => ?_) (fun cdv A outer s H vs Q E hr h => ?_)
  · obtain ⟨κ, d, p, ks, v, rfl, _⟩ := h
    rfl
  · obtain ⟨κ, d, p, ks, v, rfl, hW, hn⟩ := h
    refine ⟨_, pss_one (ps_ret (pe_dget (hu1 hr) (pe_fld (pv 0) rfl) (pe_met G W.cl (pv 0) hr (passes_call (takes_of rfl rfl rfl rfl) fun _ _ _ _ h => h) (pa_cons (pv 1) pa_nil)) (fun _ _ => rfl))), ?_⟩
    obtain ⟨dx, dp, tn, nd, sd, tk, hm, th, tg, kv, gv, hk, h1, h2, h3, h4, h5, h6, h7, _⟩ := id hW.ex
    refine ⟨_, rfl, p, Cw, dx, _, _, rfl, h1, W.cl, W.n7, rfl, _, rfl, p, dx, _, rfl, h1, rfl, _, rfl, κ, d, p, ks, v, rfl, hW, hn.imp fun n hv hi q => ?_⟩
    refine ⟨hm, _, rfl, fd_has (.inl h6) (fun m h => ((mem_nds.mp ((h7 m).mp h)).ok)) hv ((h7 n).mpr (mem_nds.mpr hi)), q⟩
def spGreatLots (T : List (Addr × Str)) (K : PySem.W.Frag) (Cd Cw Cs Cp : Addr) : Sp := fun vs H Q E => ∃ (κ : Kd) (d : Dv) (p : Addr) (ks : List (List Nd)) (v : V), vs = [.ref p, v] ∧ WebAt K Cd Cw κ d p ks H ∧ NdArg T κ d Cs Cp v H E fun n => ∀ b gs, H b = some (.tup (gs.map V.str)) → GreatAt κ d ks n gs → Q (.ref b) H
theorem scGreatLots : FnScope ["self", "node"] ["self", "node"] (defScope sGreatLots) := ⟨rfl, rfl, rfl, by decide +kernel, rfl, by decide +kernel, by decide +kernel⟩
theorem ok_greatLots {f : Addr} {fd : FuncData} (F : Fun K "great_lots" "Web.great_lots" sGreatLots f fd) (W : WbC K mg Cw) (G : MetF P w K mg base (L2.CX P w) 5 Cw "knot_of" ["node"] (spKnotOf T K Cd Cw Cs Cp)) : FnOk P w K mg base (L2.CX P w) 6 f fd ["self", "node"] (spGreatLots T K Cd Cw Cs Cp) := by
  refine F.okX scGreatLots (fun vs H Q E h => ?_) (fun cdv A outer s H vs Q E hr h => ?_)
  · obtain ⟨κ, d, p, ks, v, rfl, _⟩ := h
    rfl
  · obtain ⟨κ, d, p, ks, v, rfl, hW, hn⟩ := h
    refine ⟨_, pss_one (ps_ret (pe_ix ix_list (pe_fld (pv 0) rfl) (pe_met G W.cl (pv 0) hr (passes_call (takes_of rfl rfl rfl rfl) fun _ _ _ _ h => h) (pa_cons (pv 1) pa_nil)) (fun _ _ => rfl))), ?_⟩
    obtain ⟨dx, dp, tn, nd, sd, tk, hm, th, tg, kv, gv, hk, h1, h2, h3, h4, h5, h6, h7, h8, h9, h10, h11⟩ := id hW.ex
    refine ⟨_, rfl, p, Cw, dx, _, _, rfl, h1, W.cl, W.n9, rfl, _, rfl, p, dx, _, rfl, h1, rfl, _, rfl, κ, d, p, ks, v, rfl, hW, hn.imp fun n hv hi q => ?_⟩
    obtain ⟨q', hq, hnq⟩ := hm_lt hW.parts (mem_nds.mpr hi)
    have hl : hmv ks n < gv.length := by rw [h10]; exact (List.getElem?_eq_some_iff.mp hq).1
    obtain ⟨b, gs, e, hb, hg⟩ := h11 _ _ _ hq (List.getElem?_eq_getElem hl)
    refine ⟨tg, gv, _, _, rfl, rfl, SqL.of h9, atI_nat (List.getElem?_eq_getElem hl), ?_⟩
    rw [e]
    exact q b gs hb (hg n hnq)
/-- a lot can be kept up -/
def Kept (κ : Kd) (d : Dv) (ks : List (List Nd)) (n : Nd) (z : Str) : Prop := ∃ m, SetS κ d ks n m ∧ inS z m = true
theorem GreatAt.kept {κ : Kd} {d : Dv} {ks : List (List Nd)} {n : Nd} {gs : List Str} (h : GreatAt κ d ks n gs) (z : Str) : (gs.any fun g => inS z g) = true ↔ Kept κ d ks n z := by
  rw [List.any_eq_true]
  constructor
  · rintro ⟨g, hg, hz⟩
    exact ⟨g, ((h.2.2 g).mp hg).1, hz⟩
  · rintro ⟨m, hm, hz⟩
    obtain ⟨u, hu, hi⟩ := max_above (d := d) (S := SetS κ d ks n) (fun z h => setS_sel h) 5 m hm (Nat.sub_le _ _)
    exact ⟨u, (h.2.2 u).mpr hu, inS_trans hz hi⟩
/-- a lot that may be asked for, and how it is looked at -/
def spKeeps (T : List (Addr × Str)) (K : PySem.W.Frag) (Cd Cw Cs Cp Cr : Addr) : Sp := fun vs H Q E => ∃ (κ : Kd) (d : Dv) (p : Addr) (ks : List (List Nd)) (v u : V) (t : String), vs = [.ref p, v, u] ∧ WebAt K Cd Cw κ d p ks H ∧ Lk K H u t ∧
  NdArg T κ d Cs Cp v H E fun n => (∀ l, u = .str (tx l) → isLotV (sgs d) u = true → l.length ≤ 100 → ∀ (b : Bool) H', (b = true ↔ Kept κ d ks n (tx l)) → Gr T H H' → Q (.bl b) H') ∧ (isLotV (sgs d) u = false → ∀ H', Gr T H H' → Out T Cr "at" u H' E)
theorem scKeeps : FnScope ["self", "node", "lot", "great", "more"] ["self", "node", "lot"] (defScope sKeeps) := ⟨rfl, rfl, rfl, by decide +kernel, rfl, by decide +kernel, by decide +kernel⟩
theorem isLot_tx {sg : List Nat} {u : V} (h : isLotV sg u = true) : ∃ l, u = .str (tx l) ∧ l = sg.filter fun c => decide (c ∈ l) := by
  cases u with
  | str y =>
    refine ⟨y.cps.toList, by rw [tx_of], ?_⟩
    have e : y = tx (sg.filter fun c => decide (c ∈ y.cps.toList)) := of_decide_eq_true h
    exact tx_inj (by rw [tx_of]; exact e)
  | _ => cases h
theorem ok_keeps {f : Addr} {fd : FuncData} (F : Fun K "keeps" "Web.keeps" sKeeps f fd) (B : Bt mg) (W : WbC K mg Cw) (G : MetF P w K mg base (L2.CX P w) 6 Cw "great_lots" ["node"] (spGreatLots T K Cd Cw Cs Cp))
    (G2 : CalF P w K mg base (L2.CX P w) 3 "check_lot" ["device", "lot"] (spCheckLot T K Cd Cr)) (G3 : CalF P w K mg base CX0 1 "lot_within" ["lot", "other"] (spLotWithin T)) : FnOk P w K mg base (L2.CX P w) 7 f fd ["self", "node", "lot"] (spKeeps T K Cd Cw Cs Cp Cr) := by
  refine F.okX scKeeps (fun vs H Q E h => ?_) (fun cdv A outer s H vs Q E hr h => ?_)
  · obtain ⟨κ, d, p, ks, v, u, t, rfl, _⟩ := h
    rfl
  · obtain ⟨κ, d, p, ks, v, u, t, rfl, hW, hu, hn⟩ := h
    refine ⟨_, pss_cons (ps_set (i := 3) scKeeps.nd rfl (Or.inl rfl) (pe_met G W.cl (pv 0) hr (passes_call (takes_of rfl rfl rfl rfl) fun _ _ _ _ h => h) (pa_cons (pv 1) pa_nil)))
      (pss_cons (ps_expr (pe_cal G2 (hr.mono (by decide)) (pa_cons (pe_fld (pv 0) rfl) (pa_cons (pv 2) pa_nil)) (passes_call (takes_of rfl rfl rfl rfl) fun _ _ _ _ h => h)))
      (pss_one (ps_ret (pe_callB (cr_any rfl) (by rfl) B.any (by decide +kernel) (pa_cons (pe_lc (own := [("more", 4)]) (g := gName 4) (tt := tYes) rfl scKeeps.nd (pi_tup (pv 3)) (blkOk_by (N := ["self", "node", "lot", "great", "more"]) (sc := defScope sKeeps) (by decide +kernel)) (fun _ _ _ _ _ => (pg_name (i := 4) scKeeps.nd rfl (Or.inl rfl))) (fun _ _ _ _ _ => pts_nil) (fun _ _ _ _ _ => pe_cal G3 (hr.mono (by decide)) (pa_cons (pv 2) (pa_cons (pv 4) pa_nil)) pass0)) pa_nil))))), ?_⟩
    obtain ⟨dx, dp, tn, nd, sd, tk, hm, th, tg, kv, gv, hk, h1, h2, _⟩ := id hW.ex
    refine ⟨_, rfl, p, dx, _, rfl, h1, rfl, _, rfl, κ, d, p, ks, v, rfl, hW, hn.imp fun n hv hi q => ?_⟩
    intro b gs hb hg
    refine ⟨_, rfl, p, Cw, dx, _, _, rfl, h1, W.cl, W.n1, rfl, _, rfl, dp, d, u, t, rfl, h2, hu, fun hl H1 g1 => ?_, fun hl => q.2 hl H .refl⟩
    obtain ⟨l, rfl, el⟩ := isLot_tx hl
    have s5 := d.s5
    have l5 : l.length ≤ 5 := by
      rw [el]
      have := List.length_filter_le (fun c => decide (c ∈ l)) (sgs d)
      rw [sgs_len] at this
      omega
    refine ⟨_, rfl, b, rfl, ⟨_, SqT.of (g1.tup hb)⟩, fun D hD => ?_⟩
    have wk : Walk (Itt K b) gs.length (fun H => SqT K H b (gs.map V.str)) (YAt (gs.map V.str)) := walk_tupL
    refine lc_fm (T := T) (L := []) (F := fun z => some (V.bl (inS (tx l) z))) wk .start hD (fun H' g' => g'.sqT (SqT.of (g1.tup hb))) (fun j z H5 hx g5 fm => ?_) fun H5 g5 fm => ?_
    · refine ⟨rfl, _, rfl, _, rfl, l, z.cps.toList, by rw [tx_of]; rfl, by omega, fun H6 g6 => ?_⟩
      have e : within l z.cps.toList = inS (tx l) z := by
        unfold inS
        rw [tx_tl]
      rw [e]
      refine fm_add hD (g5.trans g6) (fm.gr g6) hx rfl (lt_line ?_)
      have hgl := great_len (mem_nds.mpr hi) hg
      omega
    · rw [fm_map] at fm
      have e : (gs.map fun z => V.bl (inS (tx l) z)) = (gs.map fun z => inS (tx l) z).map V.bl := by
        rw [List.map_map]
        rfl
      rw [e] at fm
      refine ⟨D, _, rfl, SqL.of (fm.get (i := 0) rfl), q.1 l rfl hl (by omega) _ _ ?_ (g1.trans g5)⟩
      rw [List.any_map]
      exact hg.kept _
end
end Bk
end
section
/-! Web.closed_row. -/
namespace Bk
open PySem L2 LamX PySem.Spec PyProof.Rows
abbrev sClosed : Stmt := inClass (top 33) 10
/-- steps that stay within the part -/
def nin (κ : Kd) (d : Dv) (pt : List Nd) (n : Nd) (c : Nat) : Option Nd := match nxs κ d n c with
  | some m => if m ∈ pt then some m else none
  | none => none
theorem nin_some {κ : Kd} {d : Dv} {pt : List Nd} {n m : Nd} {c : Nat} : nin κ d pt n c = some m ↔ nxs κ d n c = some m ∧ m ∈ pt := by
  unfold nin
  cases h : nxs κ d n c with
  | none => simp
  | some x =>
    by_cases hx : x ∈ pt
    · simp only [if_pos hx]
      exact ⟨fun e => ⟨e, by cases e; exact hx⟩, fun e => e.1⟩
    · simp only [if_neg hx]
      exact ⟨fun e => (by cases e), fun e => by
        obtain ⟨e1, e2⟩ := e
        cases e1
        exact absurd e2 hx⟩
theorem runR_nin {κ : Kd} {d : Dv} {pt : List Nd} : ∀ {r : List Nat} {n m : Nd}, runR (nin κ d pt) r n = some m → runR (nxs κ d) r n = some m
  | [], n, m, h => h
  | c :: r, n, m, h => by
    have h : (nin κ d pt n c).bind (runR (nin κ d pt) r) = some m := h
    obtain ⟨x, h1, h2⟩ := Option.bind_eq_some_iff.mp h
    show (nxs κ d n c).bind (runR (nxs κ d) r) = some m
    rw [(nin_some.mp h1).1]
    exact runR_nin h2
/-- a step by a sign is a step -/
theorem stp_of {κ : Kd} {d : Dv} {n m : Nd} {c : Nat} (hc : c ∈ sgs d) (h : nxs κ d n c = some m) : m ∈ stp κ d n := by
  obtain ⟨a, ha, rfl⟩ := mem_sgs.mp hc
  rw [nxs_sc] at h
  exact List.mem_filterMap.mpr ⟨a, List.mem_range.mpr ha, h⟩
theorem stp_to {κ : Kd} {d : Dv} {n m : Nd} (h : m ∈ stp κ d n) : ∃ c ∈ sgs d, nxs κ d n c = some m := by
  obtain ⟨a, ha, e⟩ := List.mem_filterMap.mp h
  exact ⟨sc a, mem_sgs.mpr ⟨a, List.mem_range.mp ha, rfl⟩, by rw [nxs_sc]; exact e⟩
theorem run_reach {κ : Kd} {d : Dv} : ∀ {r : List Nat} {n m : Nd}, (∀ c ∈ r, c ∈ sgs d) → runR (nxs κ d) r n = some m → Reach (stp κ d) n m
  | [], n, m, _, h => by
    cases h
    exact .refl n
  | c :: r, n, m, hs, h => by
    have h : (nxs κ d n c).bind (runR (nxs κ d) r) = some m := h
    obtain ⟨x, h1, h2⟩ := Option.bind_eq_some_iff.mp h
    exact .step (stp_of (hs c List.mem_cons_self) h1) (run_reach (fun c hc => hs c (List.mem_cons_of_mem _ hc)) h2)
section
variable {st : Nd → List Nd} {ns : List Nd} {ks : List (List Nd)}
theorem reach_le (P : Parts st ns ks) {a b : Nd} (h : Reach st a b) : ∀ {i : Nat} {p : List Nd}, ks[i]? = some p → a ∈ p → ∃ (j : Nat) (q : List Nd), j ≤ i ∧ ks[j]? = some q ∧ b ∈ q := by
  induction h with
  | refl a => exact fun {i p} hp ha => ⟨i, p, Nat.le_refl _, hp, ha⟩
  | @step a c b hac _ ih =>
    intro i p hp ha
    obtain ⟨j, q, hj, hq, hc⟩ := P.down i p hp a ha c hac
    obtain ⟨j', q', hj', hq', hb⟩ := ih hq hc
    exact ⟨j', q', Nat.le_trans hj' hj, hq', hb⟩
/-- what leads from the part to the part stays within it -/
theorem reach_in (P : Parts st ns ks) {i : Nat} {p : List Nd} (hp : ks[i]? = some p) {S : Nd → Prop} {a b : Nd} (h : Reach st a b) (hS : ∀ x ∈ p, S x → ∀ y ∈ st x, y ∈ p → S y) : a ∈ p → b ∈ p → S a → S b := by
  induction h with
  | refl a => exact fun _ _ s => s
  | @step a c b hac hcb ih =>
    intro ha hb s
    obtain ⟨j, q, hj, hq, hc⟩ := P.down i p hp a ha c hac
    obtain ⟨j', q', hj', hq', hb'⟩ := reach_le P hcb hq hc
    have e := P.uniq hp hq' hb hb'
    have e2 : j = i := by omega
    subst e2
    rw [hp] at hq
    cases hq
    exact ih hc hb (hS a ha s c hac hc)
theorem bfs_all {κ : Kd} {d : Dv} (P : Parts (stp κ d) ns ks) {i : Nat} {p : List Nd} (hp : ks[i]? = some p) {h : Nd} (hh : h ∈ p) {rk : List Nd} {row : Nd → List Nat} (B : Bfs (nin κ d p) h (sgs d) p rk row)
    (hc : ∀ m ∈ rk, ∀ c ∈ sgs d, ∀ m', nin κ d p m c = some m' → m' ∈ rk) : ∀ x ∈ p, x ∈ rk := fun x hx => by
  refine reach_in P hp (S := fun y => y ∈ rk) (P.scc p (List.mem_of_getElem? hp) h hh x hx) (fun u hu us y hy hyp => ?_) hh hx (List.mem_of_getElem? B.hd)
  obtain ⟨c, hcs, e⟩ := stp_to hy
  exact hc u us c hcs y (nin_some.mpr ⟨e, hyp⟩)
end
/-- a closed row -/
structure Clo (κ : Kd) (d : Dv) (pt : List Nd) (l c : List Nat) : Prop where
  go : ∃ k0, pt[0]? = some k0 ∧ runR (nxs κ d) c k0 = some k0
  ne : c ≠ []
  all : ∀ x ∈ l, x ∈ c
  sg : ∀ x ∈ c, x ∈ sgs d
  len : c.length ≤ 100
/-- the keys of a locked dict of nodes -/
theorem walk_nd {κ : Kd} {d : Addr} {od : Obj} {ks : List Nd} {f : Nd → V} {R : It → Hp → Prop} {H : Hp} (hd : H d = some (.frz od (FD κ ks f))) (h : ∀ J, Walk J ks.length (fun H => H d = some (.frz od (FD κ ks f))) (fun i H x H' => H' = H ∧ ∃ n, ks[i]? = some n ∧ (Okn κ n → NV κ H x n)) → R J H) :
    (∃ kvs, H d = some (.frz od (.dK kvs)) ∧ R (Itk d od kvs) H) ∨ ∃ kvs, H d = some (.frz od (.dT kvs)) ∧ R (Itkt d od kvs) H := by
  cases κ with
  | st =>
    refine .inl ⟨_, hd, h _ ?_⟩
    have w := walk_keys (d := d) (o := od) (kvs := ks.map fun n => (kSt n, f n))
    rw [List.length_map] at w
    refine ⟨w.goes, w.stops, fun i H x H' hi q y => ?_⟩
    obtain ⟨e, k, v, e1, e2⟩ := w.yields i H x H' hi q y
    rw [List.getElem?_map] at e1
    obtain ⟨n, en, e3⟩ := Option.map_eq_some_iff.mp e1
    cases e3
    exact ⟨e, n, en, fun ok => ⟨e2, ok rfl⟩⟩
  | pr =>
    refine .inr ⟨_, hd, h _ ?_⟩
    have w := walk_keysT (d := d) (o := od) (kvs := ks.map fun n => (kPr n, f n))
    rw [List.length_map] at w
    refine ⟨w.goes, w.stops, fun i H x H' hi q y => ?_⟩
    obtain ⟨e, k, v, q', e1, e2, e3⟩ := w.yields i H x H' hi q y
    rw [List.getElem?_map] at e1
    obtain ⟨n, en, e4⟩ := Option.map_eq_some_iff.mp e1
    cases e4
    exact ⟨e, n, en, fun _ => ⟨q', e2, e3⟩⟩
end Bk
end
section
/-! Web.closed_row: the walk. -/
namespace Bk
open PySem L2 LamX PySem.Spec PyProof.Rows
abbrev nClosed : List Str := ["self", "at", "lot", "knot", "node", "inside", "here", "row", "signal", "ready", "rows", "after"]
def scC1 : Scope := match defBody sClosed with
  | [_, .Assign _ (.DictComp _ _ _ s _) _, _, _, _] => s
  | _ => defScope sClosed
theorem scClosed : FnScope nClosed ["self", "at", "lot"] (defScope sClosed) := ⟨rfl, rfl, rfl, by decide +kernel, rfl, by decide +kernel, by decide +kernel⟩
section
variable {P : Program} {w : World} {K : PySem.W.Frag} {mg : Str → Option Value} {base : Heap} {T : List (Addr × Str)} {Cd Cw : Addr}
/-- the dict of the steps within the part -/
theorem inside_ok {κ : Kd} {d : Dv} {H : Hp} {p Nx dx b : Addr} {fs : List (Str × V)} {kv : List V} {pt : List Nd} {x1 x2 x4 x5 x6 x7 x8 x9 x10 x11 : Option V} {Q : VK} (W : WbC K mg Cw) (hp : H p = some (.ins Cw dx fs)) (f1 : fs.lookup ("_next" : Str) = some (V.ref Nx))
    (hS : StpD κ K H Nx (nds κ d) (sgs d) (nxs κ d)) (hb : H b = some (.tup kv)) (hkv : NVs κ H kv pt) (pnd : pt.Nodup) (pin : ∀ n ∈ pt, n ∈ nds κ d) (k : ∀ D H', Gr T H H' → StpD κ K H' D pt (sgs d) (nin κ d pt) → Q (.ref D) H') :
    tGa (iTup K (tVar 3)) (fun _ => FD κ [] fun _ => .non) (gName 4) tYes (fun D => tDcA D (tVar 4) (tLc (iList K (tDGet (tFld K (tVar 0) "_next") (tVar 4))) (gName 11) tYes (tIf (tTest (tOp (rInX K false) (tVar 11) (tVar 3))) (tVar 11) (tC .non)) [11])) [4]
      [some (.ref p), x1, x2, some (.ref b), x4, x5, x6, x7, x8, x9, x10, x11] H Q := by
  have s5 := d.s5
  have p10 : pt.length ≤ 10 := Nat.le_trans (nd_le pnd pin) nds_len
  have okp : ∀ m ∈ pt, Okn κ m := fun m hm => (mem_nds.mp (pin m hm)).ok
  refine ⟨_, rfl, b, rfl, ⟨_, SqT.of hb⟩, fun D hD => ?_⟩
  refine lp_it (walk_tup (xs := kv)) (fun i H' => ∃ (Hc : Hp) (na : Nd → Addr), Gr T H Hc ∧ Loc T Hc [(D, FD κ (pt.take i) fun n => .ref (na n))] H' ∧ ∀ n ∈ pt.take i, ∃ vs, Hc (na n) = some (.lst vs) ∧ Ech (NVo κ Hc) vs ((sgs d).map (nin κ d pt n))) ?_ (fun i H' hi q => ?_) (fun i v H1 H2 hi q y => ?_) fun H1 q => ?_
  · refine ⟨H, fun _ => 0, .refl, ?_, fun n hn => by simp at hn⟩
    have e : (FD κ (pt.take 0) fun _ => V.ref 0) = FD κ [] fun _ => .non := FD.congr fun m hm => by simp at hm
    rw [e]
    exact Loc.start.new hD pl_FD
  · obtain ⟨Hc, _, g, q, _⟩ := q
    exact SqT.of ((g.trans q.g).tup hb)
  · obtain ⟨Hc, na, g, q, hq⟩ := q
    obtain ⟨rfl, ev⟩ := y
    obtain ⟨n, en, hn⟩ := hkv.2 i v ev
    have hnp : n ∈ pt := List.mem_of_getElem? en
    have g1 := g.trans q.g
    have nx' : n ∉ pt.take i := fun h => by
      have e : pt = pt.take i ++ n :: pt.drop (i + 1) := by
        have hb' := (List.getElem?_eq_some_iff.mp en).1
        have := List.drop_eq_getElem_cons hb'
        rw [(List.getElem?_eq_some_iff.mp en).2] at this
        rw [← this, List.take_append_drop]
      rw [e] at pnd
      exact (List.nodup_append.mp pnd).2.2 n h n List.mem_cons_self rfl
    obtain ⟨fN, n1, n2, n3⟩ := hS
    obtain ⟨l, vs, e1, e2, e3⟩ := n3 n (pin n hnp)
    have hdg : DGet H2 Nx v (some (.ref l)) := by
      rw [← e1]
      exact fd_has (.inl (g1.ext _ _ n1 pl_FD.1)) n2 (hn.gr g1) (pin n hnp)
    have vl : vs.length ≤ 5 := by
      rw [e3.1, List.length_map, sgs_len]
      exact s5
    refine ⟨rfl, _, rfl, _, rfl, p, Cw, dx, fs, _, rfl, g1.ins hp, W.cl, W.n4, f1, _, rfl, Nx, _, rfl, hdg, l, rfl, ⟨_, SqL.of (g1.lst e2)⟩, fun D1 hD1 => ?_⟩
    refine lc_it (walk_list (xs := vs)) (fun j H' => ∃ ws, Loc T Hc [(D1, .lst ws), (D, FD κ (pt.take i) fun n => .ref (na n))] H' ∧ Ech (NVo κ H') ws (((sgs d).take j).map (nin κ d pt n))) ⟨[], q.new hD1 pl_lst, .nil⟩ (fun j H' hj q => ?_) (fun j u H4 H5 hj q y => ?_) fun H4 q => ?_
    · obtain ⟨_, q, _⟩ := q
      exact SqL.of ((g.trans q.g).lst e2)
    · obtain ⟨ws, q, hws⟩ := q
      obtain ⟨rfl, eu⟩ := y
      obtain ⟨o, eo, ho⟩ := e3.2 j u eu
      rw [List.getElem?_map] at eo
      obtain ⟨c, ec, rfl⟩ := Option.map_eq_some_iff.mp eo
      have g5 := g.trans q.g
      have hou := NVo.gr ho g5
      have wl : ws.length < sizeLine := lt_line (by have := hws.1; rw [List.length_map, List.length_take] at this; omega)
      have push : ∀ (y : V), NVo κ H5 y (nin κ d pt n c) → ∃ acc, H5 D1 = some (.lst acc) ∧ acc.length < sizeLine ∧ ∃ ws, Loc T Hc [(D1, .lst ws), (D, FD κ (pt.take i) fun n => .ref (na n))] (upd H5 D1 (.lst (acc ++ [y]))) ∧ Ech (NVo κ (upd H5 D1 (.lst (acc ++ [y])))) ws (((sgs d).take (j + 1)).map (nin κ d pt n)) := fun y hy => by
        have t2 := q.tk (i := 0) (u := .lst (ws ++ [y])) rfl lst_ne_tup
        refine ⟨ws, q.get (i := 0) rfl, wl, ws ++ [y], q.set (i := 0) rfl (pl_lst (xs := ws ++ [y])), ?_⟩
        rw [take_snoc ec, List.map_append]
        exact Ech.app (Ech.mono hws fun _ _ h => NVo.tk h t2) (.one (NVo.tk hy t2))
      refine ⟨rfl, _, rfl, _, rfl, inNd (κ := κ) (o := nxs κ d n c) hou (.inr (SqT.of (g5.tup hb))) (NVs.gr hkv g5) ⟨_, rfl, ?_⟩⟩
      cases hx : nxs κ d n c with
      | none =>
        refine iteF (push .non ?_)
        have e : nin κ d pt n c = none := by
          unfold nin
          rw [hx]
        rw [e]
        exact (rfl : NVo κ H5 V.non none)
      | some m =>
        rw [hx] at hou
        by_cases hm : m ∈ pt
        · have e : oIn (some m) pt = true := decide_eq_true hm
          rw [e]
          refine iteT ⟨_, rfl, push u ?_⟩
          rw [nin_some.mpr ⟨hx, hm⟩]
          exact hou
        · have e : oIn (some m) pt = false := decide_eq_false hm
          rw [e]
          refine iteF (push .non ?_)
          have e : nin κ d pt n c = none := by
            unfold nin
            rw [hx]
            exact if_neg hm
          rw [e]
          exact (rfl : NVo κ H5 V.non none)
    · obtain ⟨ws, q, hws⟩ := q
      have e : (sgs d).take vs.length = sgs d := List.take_of_length_le (by rw [e3.1, List.length_map]; exact Nat.le_refl _)
      rw [e] at hws
      have g5 := g.trans q.g
      refine ⟨_, fd_put (q.get (i := 1) rfl) (fun m hm => okp m (List.mem_of_mem_take hm)) (hn.gr g5) (lt_line (by rw [List.length_take]; omega)), ?_⟩
      rw [if_neg nx']
      have eF : FD κ (pt.take i ++ [n]) (fup (fun n => V.ref (na n)) n (.ref D1)) = FD κ (pt.take (i + 1)) fun m => .ref (fup na n D1 m) := by
        rw [take_snoc en]
        refine FD.congr fun m _ => ?_
        unfold fup
        split <;> rfl
      rw [eF]
      have q1 : Loc T Hc [(D1, .lst ws), (D, FD κ (pt.take (i + 1)) fun m => V.ref (fup na n D1 m))] _ := q.set (i := 1) rfl (pl_FD (κ := κ) (ks := pt.take (i + 1)) (f := fun m => V.ref (fup na n D1 m)))
      have t1 := q.tk (i := 1) (u := FD κ (pt.take (i + 1)) fun m => V.ref (fup na n D1 m)) rfl fun xs => FD_ne_tup
      have hws1 := Ech.mono hws fun _ _ h => NVo.tk h t1
      generalize upd H4 D (FD κ (pt.take (i + 1)) fun m => V.ref (fup na n D1 m)) = H6 at q1 hws1
      obtain ⟨Hd, gd, qd, keep, tk⟩ := q1.rebaseT (M := [(D, FD κ (pt.take (i + 1)) fun m => V.ref (fup na n D1 m))]) (List.sublist_cons_self _ _) fun q hq xs => by
        rw [List.mem_singleton.mp hq]
        exact FD_ne_tup
      have kD : Hd D1 = some (.lst ws) := keep _ _ (q1.get (i := 0) rfl) fun h => by
        have nd := q1.nd
        simp at nd h
        exact nd h
      refine ⟨Hd, fup na n D1, g.trans gd, qd, fun m hm => ?_⟩
      rw [take_snoc en] at hm
      by_cases e : m = n
      · subst e
        rw [fup_same]
        exact ⟨ws, kD, Ech.mono hws1 fun _ _ h => NVo.tk h tk⟩
      · rw [fup_ne _ _ e]
        obtain ⟨vs', h1, h2⟩ := hq m ((List.mem_append.mp hm).resolve_right fun z => e (List.mem_singleton.mp z))
        exact ⟨vs', gd.lst h1, Ech.mono h2 fun _ _ h => NVo.gr h gd⟩
  · obtain ⟨Hc, na, g, q, hq⟩ := q
    rw [hkv.1, List.take_length] at q hq
    refine k D H1 (g.trans q.g) ⟨_, q.get (i := 0) rfl, okp, fun m hm => ?_⟩
    obtain ⟨vs, h1, h2⟩ := hq m hm
    exact ⟨na m, vs, rfl, q.g.lst h1, Ech.mono h2 fun _ _ h => NVo.gr h q.g⟩
end
end Bk
end
section
/-! Web.closed_row: the def. -/
namespace Bk
open PySem L2 LamX PySem.Spec PyProof.Rows
theorem tForStr {te : TE} {g : TG} {b : TS} {D : Ends} {σ : L2.St} {H : Hp} (h : te σ H fun v H1 => ∃ x, v = .str x ∧ tFor (fun _ H R => R (Its x) H) g b D σ H1) : tFor (iStr te) g b D σ H := h
theorem tForLet {x : Str} {g : TG} {b : TS} {D : Ends} {σ : L2.St} {H : Hp} (h : ∃ W : Nat → Nat → L2.St → Hp → Prop, (∃ m, W 0 m σ H) ∧ ∀ i m σ H, W i m σ H →
  ((Its x).stop i H ∧ D.nx σ H) ∨ ((Its x).go i H ∧ ∃ N : L2.St → Hp → Prop, (∀ σ' H', N σ' H' → ∃ m', m' < m ∧ W (i + 1) m' σ' H') ∧ ∀ y H', (Its x).yld i H y H' → g y σ H' fun σ2 H2 => b { D with nx := N, ct := N, bk := D.nx } σ2 H2)) : tFor (fun _ H R => R (Its x) H) g b D σ H := h
theorem tAsgLc {wi : L2.TI} {g g2 : TG} {tt : TT} {te : TE} {vs : List Nat} {D : Ends} {σ : L2.St} {H : Hp} (h : wi σ H fun J H1 => tAsg (tLc (fun _ H R => R J H) g tt te vs) g2 D σ H1) : tAsg (tLc wi g tt te vs) g2 D σ H := h
theorem iKeysNd {κ : Kd} {i : Nat} {σ : L2.St} {H : Hp} {R : It → Hp → Prop} {d : Addr} {od : Obj} {ks : List Nd} {f : Nd → V} (hs : σ[i]? = some (some (.ref d))) (hd : H d = some (.frz od (FD κ ks f)))
    (h : ∀ J, Walk J ks.length (fun H => H d = some (.frz od (FD κ ks f))) (fun i H x H' => H' = H ∧ ∃ n, ks[i]? = some n ∧ (Okn κ n → NV κ H x n)) → R J H) : iKeys (tVar i) σ H R := ⟨_, hs, d, od, rfl, walk_nd (R := R) hd h⟩
section
variable {P : Program} {w : World} {K : PySem.W.Frag} {mg : Str → Option Value} {base : Heap} {T : List (Addr × Str)} {Cd Cw : Addr}
def spClosed (T : List (Addr × Str)) (K : PySem.W.Frag) (Cd Cw : Addr) : Sp := fun vs H Q _ => ∃ (κ : Kd) (d : Dv) (p : Addr) (ks : List (List Nd)) (i : Nat) (l : List Nat) (pt : List Nd), vs = [.ref p, .int (i : Nat), .str (tx l)] ∧ WebAt K Cd Cw κ d p ks H ∧ Tabs T H ∧ ks[i]? = some pt ∧
  (∀ c ∈ l, c ∈ heldL κ d pt) ∧ l.length ≤ 5 ∧ heldL κ d pt ≠ [] ∧ ∀ H' c, Gr T H H' → Clo κ d pt l c → Q (.str (tx c)) H'
theorem ok_closed {f c Pt : Addr} {fd : FuncData} (F : FunC K "closed_row" "Web.closed_row" sClosed f fd c) (B : Bt mg) (GC : Gc mg) (W : WbC K mg Cw) (DC : DvC K mg Cd) (G : CalF P w K mg base CX0 1 "first_rows" ["next_nodes", "start", "signals"] (spFirst T K))
    (LT : LamT T base mg c Pt (("Web.closed_row" : Str) ++ ".<locals>." ++ "<lambda>")) : FnOk P w K mg base CX0 3 f fd ["self", "at", "lot"] (spClosed T K Cd Cw) := by
  refine F.ok scClosed (fun vs H Q E h => ?_) (fun A outer s H vs Q E hr h => ?_)
  · obtain ⟨κ, d, p, ks, i, l, pt, rfl, _⟩ := h
    rfl
  · obtain ⟨κ, d, p, ks, i, l, pt, rfl, hW, hT, hpt, hl, l5, hne, k⟩ := h
    obtain ⟨tsg, hsg⟩ := GC.sig
    have u0 := hu0 hr
    have u1 := hu1 hr
    have hr1 := hr.mono (show 1 ≤ 2 by decide)
    refine ⟨_, (pss_cons (ps_set (i := 3) scClosed.nd rfl (Or.inr rfl) (pe_ix ix_seq (pe_fld (pv 0) rfl) (pv 1) (fun _ _ => rfl)))
      (pss_cons (ps_set (i := 5) scClosed.nd rfl (Or.inr rfl) (pe_gdc (own := [("node", 4)]) (g := (gName 4)) (tt := tYes) κ u0 rfl scClosed.nd (pi_tup (pv 3)) (blkOk_by (N := nClosed) (sc := (defScope sClosed)) (by decide +kernel)) (fun _ _ _ _ _ => by exact (pg_name (i := 4) scClosed.nd rfl (Or.inl rfl))) (fun _ _ _ _ _ => pts_nil) (fun _ _ _ _ _ => by exact (pv 4)) (fun _ _ _ _ _ => by exact (pe_lc (own := [("after", 11)]) (g := (gName 11)) (tt := tYes) rfl scClosed.nd (pi_listK (K := K) (pe_dget u1 (pe_fldK (K := K) (pv 0) rfl) (pv 4) (fun _ _ => rfl))) (blkOk_by (N := nClosed) (sc := (relS scC1 (defScope sClosed))) (by decide +kernel)) (fun _ _ _ _ _ => by exact (pg_name (i := 11) scClosed.nd rfl (Or.inl rfl))) (fun _ _ _ _ _ => pts_nil) (fun _ _ _ _ _ => by exact (pe_ifExp (pt_cmpR (op_inK (K := K) (hu65 hr)) (pv 11) (pv 3) rfl) (pv 11) pe_non))))))
      (pss_cons (ps_par (i := 6) (j := 7) rfl scClosed.nd rfl rfl (by decide) rfl rfl (pa_cons (pe_ix ix_seq (pv 3) pe_int (fun _ _ => rfl)) (pa_cons pe_str pa_nil)) rfl)
      (pss_cons (ps_for PassesOwn.never rfl (pi_str (pe_ifExp (pt_cmpR op_ne (pv 2) pe_str (nomark _)) (pv 2) (pe_ix ix_seq (pe_ix ix_seq (pe_fld (pv 0) rfl) (pv 1) (fun _ _ => rfl)) pe_int (fun _ _ => rfl)))) (pg_name (i := 8) scClosed.nd rfl (Or.inr rfl)) (pss_cons (ps_set (i := 10) scClosed.nd rfl (Or.inr rfl) (pe_cal G hr1 (pa_cons (pv 5) (pa_cons (pv 6) (pa_cons (pe_fld (pe_fld (pv 0) rfl) rfl) pa_nil))) pass0))
      (pss_cons (ps_lock (ps_setLc (i := 9) (own := [("node", 4)]) (g := (gName 4)) rfl scClosed.nd rfl rfl (sw_true rfl rfl rfl (by decide +kernel)) (pi_keys (pv 10)) (blkOk_by (N := nClosed) (sc := (defScope sClosed)) (by decide +kernel)) (fun _ _ _ _ _ => by exact (pg_name (i := 4) scClosed.nd rfl (Or.inl rfl))) (fun _ _ _ _ _ => by exact (pts_one (pt_cmpR op_notN (pe_ix (ix_listK (K := K)) (pe_dget u1 (pv 5) (pv 4) (fun _ _ => rfl)) (tBM_K (K := K) (pe_bm PySem.F.plainAttrs_str PySem.F.slot_str_index PySem.F.type_str_index mt_sindex (pe_glob (v := .str "abcde") rfl hsg ⟨_, rfl⟩) (pa_cons (pv 8) pa_nil))) (fun _ _ => rfl)) pe_non (nomark _)))) (fun _ _ _ _ _ => by exact (pv 4))))
      (pss_cons (ps_set (i := 4) scClosed.nd rfl (Or.inl rfl) (pe_minPq (k := 0) qual_cx LT rfl B.min rfl hr (lamP_by (a := "one") (N := nClosed) (sc := defScope sClosed) rfl rfl (by decide +kernel)) (pv 9) (fun _ _ _ _ _ hr2 => by exact (pe_callB call_len_str (by rfl) B.len (by decide +kernel) (pa_cons (pe_dget (hu1 hr2) (pv 10) (pv 12) (fun _ _ => rfl)) pa_nil))) (fun _ _ _ _ _ hr2 => by exact (pe_dget (hu1 hr2) (pv 10) (pv 12) (fun _ _ => rfl)))))
      (pss_cons (ps_aug (i := 7) scClosed.nd rfl (Or.inl rfl) (pe_op op_add_str (pe_dget u1 (pv 10) (pv 4) (fun _ _ => rfl)) (pv 8)) iop_add_str)
      (pss_one (ps_set (i := 6) scClosed.nd rfl (Or.inl rfl) (pe_ix ix_list (pe_dget u1 (pv 5) (pv 4) (fun _ _ => rfl)) (pe_bm PySem.F.plainAttrs_str PySem.F.slot_str_index PySem.F.type_str_index mt_sindex (pe_glob (v := .str "abcde") rfl hsg ⟨_, rfl⟩) (pa_cons (pv 8) pa_nil)) (fun _ _ => rfl)))))))))
      (pss_one (ps_ret (pe_op op_add_str (pv 7) (pe_dget u1 (pe_cal G hr1 (pa_cons (pv 5) (pa_cons (pv 6) (pa_cons (pe_fld (pe_fld (pv 0) rfl) rfl) pa_nil))) pass0) (pe_ix ix_seq (pv 3) pe_int (fun _ _ => rfl)) (fun _ _ => rfl))))))))), ?_⟩
    obtain ⟨dx, dp, tn, nd, sd, tk, hm, th, tg, kv, gv, hk, h1, h2, h3, h4, h5, h6, h7, h8, h9, h10, h11⟩ := id hW.ex
    have s5 := d.s5
    have P := hW.parts
    have pm := List.mem_of_getElem? hpt
    have pnd : pt.Nodup := (List.sublist_flatten_of_mem pm).nodup P.nd
    have pin : ∀ n ∈ pt, n ∈ nds κ d := fun n hn => (P.all n).mpr ⟨pt, pm, hn⟩
    have p10 : pt.length ≤ 10 := Nat.le_trans (nd_le pnd pin) nds_len
    have okp : ∀ m ∈ pt, Okn κ m := fun m hm => (mem_nds.mp (pin m hm)).ok
    obtain ⟨k0, hk0⟩ : ∃ k0, pt[0]? = some k0 := by
      cases e : pt with
      | nil => exact absurd e (P.ne pt pm)
      | cons a r => exact ⟨a, rfl⟩
    have k0p := List.mem_of_getElem? hk0
    obtain ⟨bv, ebv, b, kv', rfl, hb, hkv⟩ := h5.at_ hpt
    obtain ⟨v0, ev0, hv0⟩ := hkv.at_ hk0
    refine ⟨_, rfl, p, Cw, dx, _, _, rfl, h1, W.cl, W.n6, rfl, _, rfl, .inr (.inl ⟨tk, kv, _, _, rfl, rfl, SqT.of h4, atI_nat ebv, ?_⟩)⟩
    dsimp only
    refine gNameI ?_
    refine tSeqAsg ?_
    refine inside_ok (T := T) (mg := mg) W h1 rfl h3 hb hkv pnd pin fun D H1 g1 hSi => ?_
    refine ⟨_, rfl, .inr (.inl ⟨b, kv', _, _, rfl, rfl, SqT.of (g1.tup hb), atI_nat (j := 0) ev0, _, _, rfl, ?_⟩)⟩
    dsimp only
    refine tSeqI ?_
    refine tForStr ?_
    have h1' := g1.ins h1
    have key : ∀ Qf : V → Hp → Prop, (∀ ll : List Nat, (∀ c ∈ ll, c ∈ heldL κ d pt) → ll.length ≤ 5 → ll ≠ [] → (∀ c ∈ l, c ∈ ll) → Qf (.str (tx ll)) H1) →
        (tIf (tTest (tOp rNe (tVar 2) (tC (.str "")))) (tVar 2) (tOp (rIx K) (tOp (rIx K) (tFld K (tVar 0) "held") (tVar 1)) (tC (.int 0)))) [some (.ref p), some (.int (i : Nat)), some (.str (tx l)), some (.ref b), none, some (.ref D), some v0, some (.str ""), none, none, none, none] H1 Qf := fun Qf hq => by
      by_cases e : l = []
      · subst e
        obtain ⟨c0, hr0, e0⟩ : ∃ c0 r, heldL κ d pt = c0 :: r := by
          cases e : heldL κ d pt with
          | nil => exact absurd e hne
          | cons a r => exact ⟨a, r, rfl⟩
        have eh : (ks.map fun p => V.str (tx (heldL κ d p)))[i]? = some (V.str (tx (heldL κ d pt))) := by
          rw [List.getElem?_map, hpt]
          rfl
        refine ⟨_, rfl, rfl, _, rfl, iteF ⟨_, rfl, p, Cw, dx, _, _, rfl, h1', W.cl, W.n8, rfl, _, rfl, .inr (.inl ⟨th, _, _, _, rfl, rfl, SqT.of (g1.tup h8), atI_nat eh, .inr (.inr ⟨tx (heldL κ d pt), _, c0, rfl, rfl, ?_, ?_, hq [c0] (fun c hc => ?_) (by show 1 ≤ 5; decide) (by simp) (fun c hc => by simp at hc)⟩)⟩)⟩⟩
        · rw [tx_len]
          have : (heldL κ d pt).length ≤ 5 := by
            unfold heldL
            rw [List.length_map]
            have := List.length_filter_le (fun a => pt.any fun x => oIn (nx κ d a x) pt) (List.range d.s)
            rw [List.length_range] at this
            omega
          exact Nat.le_of_lt (lt_line (by omega))
        · exact atI_nat (j := 0) (by rw [tx_tl, e0]; rfl)
        · rw [List.mem_singleton.mp hc, e0]
          exact List.mem_cons_self
      · refine ⟨_, rfl, rfl, _, rfl, ?_⟩
        have ne : V.str (tx l) ≠ V.str "" := fun z => e (tx_inj (m := []) (V.str.inj z))
        rw [decide_eq_false ne]
        exact iteT ⟨_, rfl, hq l hl l5 e fun c hc => hc⟩
    refine key _ fun ll a1 a2 a3 a4 => ⟨_, rfl, tForLet ?_⟩
    clear key
    have hdv := h2.gr g1
    -- the rows from a node of the part
    refine for_it walk_strL (fun j σ H' => ∃ (x4 x8 x9 x10 : Option V) (hv : V) (hh : Nd) (r : List Nat), σ = [some (.ref p), some (.int (i : Nat)), some (.str (tx l)), some (.ref b), x4, some (.ref D), some hv, some (.str (tx r)), x8, x9, x10, none] ∧ Gr T H1 H' ∧ NV κ H' hv hh ∧ hh ∈ pt ∧
      runR (nin κ d pt) r k0 = some hh ∧ (∀ c ∈ r, c ∈ sgs d) ∧ r.length ≤ 11 * j ∧ (∀ c ∈ ll.take j, c ∈ r) ∧ (0 < j → r ≠ [])) ?_ (fun _ _ _ _ _ => trivial) (fun j v σ H2 H3 hj q y => ?_) fun σ H2 q => ?_
    · exact ⟨none, none, none, none, v0, k0, [], rfl, .refl, hv0.gr g1, k0p, rfl, fun c hc => by simp at hc, Nat.zero_le _, fun c hc => by simp at hc, fun z => absurd z (Nat.lt_irrefl _)⟩
    · obtain ⟨x4, x8, x9, x10, hv, hh, r, rfl, g2, hNV, hhp, hrun, hrs, hrl, hrt, hr0⟩ := q
      obtain ⟨rfl, ev⟩ := y
      rw [List.getElem?_map] at ev
      obtain ⟨c, ec, rfl⟩ := Option.map_eq_some_iff.mp ev
      obtain ⟨a, ha, hany, rfl⟩ : ∃ a, a < d.s ∧ (pt.any fun x => oIn (nx κ d a x) pt) = true ∧ c = sc a := by
        obtain ⟨a, hm, e⟩ := List.mem_map.mp (a1 c (List.mem_of_getElem? ec))
        obtain ⟨h1, h2⟩ := List.mem_filter.mp hm
        exact ⟨a, List.mem_range.mp h1, h2, e.symm⟩
      have ea : (sgs d)[a]? = some (sc a) := by
        unfold sgs
        rw [List.getElem?_map, List.getElem?_range ha]
        rfl
      obtain ⟨dx', tb, ts, hdv1, _⟩ := (hdv.gr g2).ex
      refine ⟨_, rfl, _, rfl, _, rfl, p, Cw, dx, _, _, rfl, g2.ins h1', W.cl, W.n1, rfl, dp, Cd, dx', _, _, rfl, hdv1, DC.cl, DC.n2, rfl, κ, D, pt, hv, hh, sgs d, nin κ d pt, rfl, hSi.gr g2, hNV, hhp, p10, by rw [sgs_len]; exact s5, fun _ _ _ _ m' h => (nin_some.mp h).2, fun q H4 rk row hq hqd g4 Bf hcl => ?_⟩
      have allrk := bfs_all P hpt hhp Bf hcl
      have L4 : Loc T H3 [(q, FD κ rk fun m => .str (tx (row m)))] H4 := ⟨g4, by simp, fun p hp => by rw [List.mem_singleton.mp hp]; exact hq, fun p hp => by rw [List.mem_singleton.mp hp]; exact hqd, fun p hp => by rw [List.mem_singleton.mp hp]; exact pl_FD⟩
      have okr : ∀ m ∈ rk, Okn κ m := fun m hm => okp m (Bf.sub m hm)
      refine ⟨q, _, hqd, by cases κ <;> trivial, fun od => ?_⟩
      have L5 : Loc T H3 [(q, .frz od (FD κ rk fun m => .str (tx (row m))))] (upd H4 q (.frz od (FD κ rk fun m => .str (tx (row m))))) := L4.set (i := 0) rfl pl_frz
      have hfz : (upd H4 q (.frz od (FD κ rk fun m => .str (tx (row m))))) q = some (.frz od (FD κ rk fun m => .str (tx (row m)))) := upd_same
      generalize upd H4 q (.frz od (FD κ rk fun m => .str (tx (row m)))) = H5 at L5 hfz
      -- the dict of steps, read
      have rd : ∀ {H' : Hp} {u : V} {m : Nd}, Gr T H1 H' → NV κ H' u m → m ∈ pt → ∃ (ls : Addr) (vs : List V) (yv : V), DGet H' D u (some (.ref ls)) ∧ SqL K H' ls vs ∧ vs[a]? = some yv ∧ NVo κ H' yv (nin κ d pt m (sc a)) := fun {H' u m} g hu hm => by
        obtain ⟨f', e1, e2, e3⟩ := hSi
        obtain ⟨ls, vs, e4, e5, e6⟩ := e3 m hm
        obtain ⟨yv, ey, hy⟩ := e6.at_ (i := a) (n := nin κ d pt m (sc a)) (by rw [List.getElem?_map, ea]; rfl)
        refine ⟨ls, vs, yv, ?_, SqL.of (g.lst e5), ey, NVo.gr hy g⟩
        rw [← e4]
        exact fd_has (.inl (g.ext _ _ e1 pl_FD.1)) e2 hu hm
      have a5 : a < 5 := by omega
      refine tAsgLc ?_
      refine iKeysNd (κ := κ) rfl hfz fun J wJ => ?_
      refine fun R hR => ?_
      refine lc_it wJ (fun k' H' => ∃ vs, Loc T H3 [(R, .lst vs), (q, .frz od (FD κ rk fun m => .str (tx (row m))))] H' ∧ NVs κ H' vs ((rk.take k').filter fun m => (nin κ d pt m (sc a)).isSome)) ⟨[], L5.new hR pl_lst, .nil⟩ (fun k' H' hk z => ?_) (fun k' u H6 H7 hk z y => ?_) fun H6 z => ?_
      · obtain ⟨_, z, _⟩ := z
        exact z.get (i := 1) rfl
      · obtain ⟨vs, z, hvs⟩ := z
        obtain ⟨rfl, m, em, hu⟩ := y
        have mrk := List.mem_of_getElem? em
        have hu := hu (okr m mrk)
        obtain ⟨ls, ws, yv, r1, r2, r3, r4⟩ := rd (g2.trans z.g) hu (Bf.sub m mrk)
        refine ⟨rfl, _, rfl, _, rfl, D, _, rfl, r1, rfl, _, rfl, _, _, a, [], rfl, rfl, sig_idx ⟨a, a5⟩, ls, ws, _, yv, rfl, rfl, r2, atI_nat r3, rfl, _, rfl, ?_⟩
        have rl := Bf.len
        cases hn : nin κ d pt m (sc a) with
        | none =>
          rw [hn] at r4
          obtain rfl : yv = .non := r4
          refine ⟨vs, z, ?_⟩
          rw [take_snoc em, List.filter_append, List.filter_cons_of_neg (by rw [hn]; exact Bool.false_ne_true)]
          simpa using hvs
        | some m' =>
          rw [hn] at r4
          have r4 : NV κ _ yv m' := r4
          rw [decide_eq_false r4.ne_non]
          have vl : vs.length < sizeLine := lt_line (by
            have h1 := hvs.1
            have h2 := List.length_filter_le (fun m => (nin κ d pt m (sc a)).isSome) (rk.take k')
            rw [List.length_take] at h2
            omega)
          have t2 := z.tk (i := 0) (u := .lst (vs ++ [u])) rfl lst_ne_tup
          refine ⟨_, rfl, vs, z.get (i := 0) rfl, vl, vs ++ [u], z.set (i := 0) rfl (pl_lst (xs := vs ++ [u])), ?_⟩
          rw [take_snoc em, List.filter_append, List.filter_cons_of_pos (by rw [hn]; rfl), List.filter_nil]
          exact Ech.app (NVs.tk hvs t2) (.one (hu.tk t2))
      · obtain ⟨vs, z, hvs⟩ := z
        rw [List.take_length] at hvs
        generalize hms : (rk.filter fun m => (nin κ d pt m (sc a)).isSome) = ms at hvs
        refine ⟨z.get (i := 1) rfl, ?_⟩
        have L6 : Loc T H3 [(R, .lst vs), (q, FD κ rk fun m => .str (tx (row m)))] (upd H6 q (FD κ rk fun m => .str (tx (row m)))) := z.set (i := 1) rfl pl_FD
        have t2 := z.tk (i := 1) (u := FD κ rk fun m => .str (tx (row m))) rfl fun xs => fun e => by cases e
        have hvs := NVs.tk hvs t2
        generalize upd H6 q (FD κ rk fun m => .str (tx (row m))) = H7 at L6 hvs
        have memms : ∀ m ∈ ms, m ∈ rk ∧ ∃ m', nin κ d pt m (sc a) = some m' := fun m hm => by
          rw [← hms] at hm
          obtain ⟨h1, h2⟩ := List.mem_filter.mp hm
          exact ⟨h1, Option.isSome_iff_exists.mp h2⟩
        have vne : vs ≠ [] := fun e => by
          obtain ⟨x, hx, ho⟩ := List.any_eq_true.mp hany
          have : x ∈ ms := by
            rw [← hms]
            refine List.mem_filter.mpr ⟨allrk x hx, ?_⟩
            cases hn : nx κ d a x with
            | none =>
              rw [hn] at ho
              exact absurd ho Bool.false_ne_true
            | some m' =>
              rw [hn] at ho
              have : nin κ d pt x (sc a) = some m' := nin_some.mpr ⟨by rw [nxs_sc]; exact hn, of_decide_eq_true ho⟩
              rw [this]
              rfl
          have hl := hvs.1
          rw [e] at hl
          have := List.length_pos_of_mem this
          rw [← hl] at this
          exact absurd this (Nat.lt_irrefl _)
        have g7 := g2.trans L6.g
        refine ⟨_, rfl, R, vs, rfl, SqL.of (L6.get (i := 0) rfl), vne, g7.tab (g1.tab hT), fun H8 g8 _ => ?_⟩
        have L8 := L6.mono g8
        have hvs8 := NVs.gr hvs g8
        have hqg : ∀ {u : V} {m : Nd}, NV κ H8 u m → m ∈ rk → DGet H8 q u (some (.str (tx (row m)))) := fun hu hm => fd_has (.inl (L8.get (i := 1) rfl)) okr hu hm
        have rlen : ∀ m ∈ rk, (row m).length ≤ 10 := fun m hm => by
          obtain ⟨i', e⟩ := List.mem_iff_getElem?.mp hm
          have h1 := (Bf.rows i' m e).1
          have h2 := (List.getElem?_eq_some_iff.mp e).1
          have h3 := Bf.len
          omega
        refine ⟨fun i' => ((row (ms.getD i' (0, 0))).length : Nat), fun i' => tx (row (ms.getD i' (0, 0))), fun i' u hu => ?_, fun i' u hu => ?_⟩
        · obtain ⟨m, em, hm⟩ := hvs8.2 i' u hu
          have mm := memms m (List.mem_of_getElem? em)
          have e : ms.getD i' (0, 0) = m := by rw [List.getD_eq_getElem?_getD, em]; rfl
          refine ⟨⟨_, rfl, _, rfl, q, _, rfl, hqg hm mm.1, tx (row m), rfl, ?_, ?_, rfl⟩, _, rfl, _, rfl, q, _, rfl, hqg hm mm.1, ?_, rfl⟩
          · rw [tx_len]
            have := rlen m mm.1
            exact Nat.le_of_lt (lt_line (by omega))
          · show _ = V.int ((row (ms.getD i' (0, 0))).length : Nat)
            rw [tx_len, e]
          · show _ = V.str (tx (row (ms.getD i' (0, 0))))
            rw [e]
        · obtain ⟨m, em, hm⟩ := hvs8.2 i' u hu
          obtain ⟨mrk, m', hn⟩ := memms m (List.mem_of_getElem? em)
          obtain ⟨ls, ws, yv, r1, r2, r3, r4⟩ := rd (g7.trans g8) hm (Bf.sub m mrk)
          rw [hn] at r4
          obtain ⟨i2, e2⟩ := List.mem_iff_getElem?.mp mrk
          have hrow := Bf.rows i2 m e2
          have rl := rlen m mrk
          have lj : j < 5 := Nat.lt_of_lt_of_le hj a2
          refine ⟨_, rfl, _, rfl, _, rfl, q, _, rfl, hqg hm mrk, _, rfl, _, _, rfl, rfl, ?_, _, _, rfl, rfl, ?_, ?_⟩
          · rw [tx_len]
            show _ + 1 ≤ _
            exact Nat.le_of_lt (lt_line (by omega))
          · rw [tx_len]
            show _ + (tx (row m) ++ sgn (sc a)).length ≤ _
            rw [sgn_tx, tx_app, tx_len, List.length_append]
            show _ + (_ + 1) ≤ _
            exact Nat.le_of_lt (lt_line (by omega))
          · refine ⟨_, rfl, _, rfl, D, _, rfl, r1, rfl, _, rfl, _, _, a, [], rfl, rfl, sig_idx ⟨a, a5⟩, ls, ws, _, yv, rfl, rfl, r2, atI_nat r3, ?_⟩
            refine ⟨some u, some (.str (sgn (sc a))), some (.ref R), some (.ref q), yv, m', r ++ (row m ++ [sc a]), ?_, g7.trans g8, r4, (nin_some.mp hn).2, ?_, fun x hx => ?_, ?_, fun x hx => ?_, fun _ => by simp⟩
            · rw [← tx_app, ← tx_app]
              rfl
            · rw [runR_app, hrun]
              show runR (nin κ d pt) (row m ++ [sc a]) hh = some m'
              rw [runR_app, hrow.2.2]
              show (nin κ d pt m (sc a)).bind (runR (nin κ d pt) []) = some m'
              rw [hn]
              rfl
            · rcases List.mem_append.mp hx with h | h
              · exact hrs x h
              · rcases List.mem_append.mp h with h | h
                · exact hrow.2.1 x h
                · rw [List.mem_singleton.mp h]
                  exact mem_sgs.mpr ⟨a, ha, rfl⟩
            · rw [List.length_append, List.length_append]
              show _ + (_ + 1) ≤ _
              omega
            · rw [take_snoc ec] at hx
              rcases List.mem_append.mp hx with h | h
              · exact List.mem_append_left _ (hrt x h)
              · rw [List.mem_singleton.mp h]
                exact List.mem_append_right _ (List.mem_append_right _ (List.mem_singleton.mpr rfl))
    · obtain ⟨x4, x8, x9, x10, hv, hh, r, rfl, g2, hNV, hhp, hrun, hrs, hrl, hrt, hr0⟩ := q
      rw [List.take_length] at hrt
      obtain ⟨dx', tb, ts, hdv1, _⟩ := (hdv.gr g2).ex
      refine ⟨_, rfl, _, rfl, _, rfl, _, rfl, p, Cw, dx, _, _, rfl, g2.ins h1', W.cl, W.n1, rfl, dp, Cd, dx', _, _, rfl, hdv1, DC.cl, DC.n2, rfl, κ, D, pt, hv, hh, sgs d, nin κ d pt, rfl, hSi.gr g2, hNV, hhp, p10, by rw [sgs_len]; exact s5, fun _ _ _ _ m' h => (nin_some.mp h).2, fun q H4 rk row hq hqd g4 Bf hcl => ?_⟩
      have k0r := bfs_all P hpt hhp Bf hcl k0 k0p
      have okr : ∀ m ∈ rk, Okn κ m := fun m hm => okp m (Bf.sub m hm)
      obtain ⟨i2, e2⟩ := List.mem_iff_getElem?.mp k0r
      have hrow := Bf.rows i2 k0 e2
      have rl : (row k0).length ≤ 10 := by
        have h2 := (List.getElem?_eq_some_iff.mp e2).1
        have h3 := Bf.len
        omega
      have ll5 : ll.length ≤ 5 := a2
      have g4' := g1.trans (g2.trans g4)
      refine ⟨_, rfl, .inr (.inl ⟨b, kv', _, _, rfl, rfl, SqT.of (g4'.tup hb), atI_nat (j := 0) ev0, q, _, rfl, fd_has (.inl hqd) okr (hv0.gr g4') k0r, _, _, rfl, rfl, ?_, ?_⟩)⟩
      · rw [tx_len, tx_len]
        exact Nat.le_of_lt (lt_line (by omega))
      · rw [tx_app]
        have rne : r ≠ [] := hr0 (by
          cases e : ll with
          | nil => exact absurd e a3
          | cons a r => exact Nat.succ_pos _)
        refine k H4 _ g4' ⟨⟨k0, hk0, ?_⟩, fun e => rne (List.append_eq_nil_iff.mp e).1, fun x hx => List.mem_append_left _ (hrt x (a4 x hx)), fun x hx => ?_, ?_⟩
        · refine runR_nin (pt := pt) ?_
          rw [runR_app, hrun]
          exact hrow.2.2
        · rcases List.mem_append.mp hx with h | h
          · exact hrs x h
          · exact hrow.2.1 x h
        · rw [List.length_append]
          omega
end
end Bk
end
section
/-! Web.keep_rows. -/
namespace Bk
open PySem L2 LamX PySem.Spec PyProof.Rows
abbrev sKeepRows : Stmt := inClass (top 33) 9
abbrev nKeepRows : List Str := ["self", "node", "lot", "rows", "at", "knot"]
/-- a row to a node, and a row from there back -/
structure KR (κ : Kd) (d : Dv) (n : Nd) (l r c : List Nat) : Prop where
  go : ∃ k, runR (nxs κ d) r n = some k ∧ runR (nxs κ d) c k = some k
  ne : c ≠ []
  all : ∀ x ∈ l, x ∈ c
  sr : ∀ x ∈ r, x ∈ sgs d
  sg : ∀ x ∈ c, x ∈ sgs d
  rl : r.length ≤ 100
  len : c.length ≤ 100
theorem bfs_reach {κ : Kd} {d : Dv} {rk : List Nd} (hc : ∀ m ∈ rk, ∀ c ∈ sgs d, ∀ m', nxs κ d m c = some m' → m' ∈ rk) {a b : Nd} (h : Reach (stp κ d) a b) : a ∈ rk → b ∈ rk := by
  induction h with
  | refl a => exact fun z => z
  | @step a x b hx _ ih =>
    intro ha
    obtain ⟨c, hcs, e⟩ := stp_to hx
    exact ih (hc a ha c hcs x e)
section
variable {P : Program} {w : World} {K : PySem.W.Frag} {mg : Str → Option Value} {base : Heap} {T : List (Addr × Str)} {Cd Cw Cs Cp Cr : Addr}
def spKeepRows (T : List (Addr × Str)) (K : PySem.W.Frag) (Cd Cw Cs Cp Cr : Addr) : Sp := fun vs H Q E => ∃ (κ : Kd) (d : Dv) (p : Addr) (ks : List (List Nd)) (v u : V) (t : String), vs = [.ref p, v, u] ∧ WebAt K Cd Cw κ d p ks H ∧ Tabs T H ∧ Lk K H u t ∧
  NdArg T κ d Cs Cp v H E fun n => (∀ l, u = .str (tx l) → isLotV (sgs d) u = true → (¬ Kept κ d ks n (tx l) → ∀ H', Gr T H H' → Q .non H') ∧ (Kept κ d ks n (tx l) → ∀ H' b r c, Gr T H H' → H' b = some (.tup [.str (tx r), .str (tx c)]) → KR κ d n l r c → Q (.ref b) H')) ∧
    (isLotV (sgs d) u = false → ∀ H', Gr T H H' → Out T Cr "at" u H' E)
theorem scKeepRows : FnScope nKeepRows ["self", "node", "lot"] (defScope sKeepRows) := ⟨rfl, rfl, rfl, by decide +kernel, rfl, by decide +kernel, by decide +kernel⟩
theorem ok_keepRows {f : Addr} {fd : FuncData} (F : Fun K "keep_rows" "Web.keep_rows" sKeepRows f fd) (B : Bt mg) (W : WbC K mg Cw) (DC : DvC K mg Cd) (G1 : MetF P w K mg base (L2.CX P w) 7 Cw "keeps" ["node", "lot"] (spKeeps T K Cd Cw Cs Cp Cr))
    (G2 : CalF P w K mg base CX0 1 "first_rows" ["next_nodes", "start", "signals"] (spFirst T K)) (G3 : CalF P w K mg base CX0 1 "lot_within" ["lot", "other"] (spLotWithin T)) (G4 : MetF P w K mg base CX0 3 Cw "closed_row" ["at", "lot"] (spClosed T K Cd Cw)) : FnOk P w K mg base (L2.CX P w) 8 f fd ["self", "node", "lot"] (spKeepRows T K Cd Cw Cs Cp Cr) := by
  refine F.okX scKeepRows (fun vs H Q E h => ?_) (fun cdv A outer s H vs Q E hr h => ?_)
  · obtain ⟨κ, d, p, ks, v, u, t, rfl, _⟩ := h
    rfl
  · obtain ⟨κ, d, p, ks, v, u, t, rfl, hW, hT, hu, hn⟩ := h
    have u1 := hu1 hr
    have hr1 := hr.mono (show 1 ≤ 7 by decide)
    have hr3 := hr.mono (show 3 ≤ 7 by decide)
    refine ⟨_, (pss_cons (ps_if (pt_not (pt_val (pe_met G1 W.cl (pv 0) hr (passes_call (takes_of rfl rfl rfl rfl) fun _ _ _ _ h => h) (pa_cons (pv 1) (pa_cons (pv 2) pa_nil))))) (pss_one (ps_ret pe_non)) pss_nil)
      (pss_cons (ps_set (i := 3) scKeepRows.nd rfl (Or.inl rfl) (pe_cal G2 hr1 (pa_cons (pe_fld (pv 0) rfl) (pa_cons (pv 1) (pa_cons (pe_fld (pe_fld (pv 0) rfl) rfl) pa_nil))) pass0))
      (pss_cons (ps_for (passes_of rfl) rfl (pi_enumT (by rfl) B.enumerate (pa_cons (pe_fld (pv 0) rfl) pa_nil)) (pg_tup rfl (pgs_cons (pg_name (i := 4) scKeepRows.nd rfl (Or.inl rfl)) (pgs_cons (pg_name (i := 5) scKeepRows.nd rfl (Or.inl rfl)) pgs_nil))) (pss_one (ps_if (PW.pt (pw_and (pt_cmpR op_ne (pe_ix ix_seq (pe_fld (pv 0) rfl) (pv 4) (fun _ _ => rfl)) pe_str (nomark _)) (pw_and (pt_val (pe_cal G3 hr1 (pa_cons (pv 2) (pa_cons (pe_ix ix_seq (pe_fld (pv 0) rfl) (pv 4) (fun _ _ => rfl)) pa_nil)) pass0)) (pw_and1 (pt_cmp (pc_din u1 (pe_ix ix_seq (pv 5) pe_int (fun _ _ => rfl)) (pv 3))))))) (pss_one (ps_ret (pe_tup (pa_cons (pe_dget u1 (pv 3) (pe_ix ix_seq (pv 5) pe_int (fun _ _ => rfl)) (fun _ _ => rfl)) (pa_cons (pe_met G4 W.cl (pv 0) hr3 pass0 (pa_cons (pv 4) (pa_cons (pv 2) pa_nil))) pa_nil))))) pss_nil)))
      (pss_one (ps_ret pe_non))))), ?_⟩
    obtain ⟨dx, dp, tn, nd, sd, tk, hm, th, tg, kv, gv, hk, h1, h2, h3, h4, h5, h6, h7, h8, h9, h10, h11⟩ := id hW.ex
    have s5 := d.s5
    have P := hW.parts
    refine ⟨_, rfl, p, dx, _, rfl, h1, rfl, _, rfl, _, rfl, κ, d, p, ks, v, u, t, rfl, hW, hu, hn.imp fun n hv hi q => ⟨fun l e1 e2 e3 b H1 hb g1 => ⟨_, rfl, ?_⟩, q.2⟩⟩
    subst e1
    obtain ⟨l', el', ell⟩ := isLot_tx e2
    have el' := tx_inj (V.str.inj el')
    subst el'
    have l5 : l.length ≤ 5 := by
      rw [ell]
      have := List.length_filter_le (fun c => decide (c ∈ l)) (sgs d)
      rw [sgs_len] at this
      omega
    obtain ⟨q1, q2⟩ := q.1 l rfl e2
    cases b with
    | false => exact iteT (q1 (fun z => absurd (hb.mpr z) Bool.false_ne_true) H1 g1)
    | true =>
      have hk := hb.mp rfl
      refine iteF ?_
      obtain ⟨dx', tb, ts, hdv1, _⟩ := (h2.gr g1).ex
      have h1' := g1.ins h1
      refine ⟨_, rfl, p, Cw, dx, _, _, rfl, h1', W.cl, W.n4, rfl, _, rfl, _, rfl, p, Cw, dx, _, _, rfl, h1', W.cl, W.n1, rfl, dp, Cd, dx', _, _, rfl, hdv1, DC.cl, DC.n2, rfl, κ, nd, nds κ d, v, n, sgs d, nxs κ d, rfl, h3.gr g1, hv.gr g1, mem_nds.mpr hi, nds_len, by rw [sgs_len]; exact s5, fun m _ c hc m' h => mem_nds.mpr (stp_in (stp_of hc h)), fun qd H2 rk row hq hqd g2 Bf hcl => ?_⟩
      have nrk : n ∈ rk := List.mem_of_getElem? Bf.hd
      have okr : ∀ m ∈ rk, Okn κ m := fun m hm => (mem_nds.mp (Bf.sub m hm)).ok
      have g12 := g1.trans g2
      refine ⟨_, rfl, p, Cw, dx, _, _, rfl, g12.ins h1, W.cl, W.n6, rfl, tk, kv, rfl, SqT.of (g12.tup h4), ?_⟩
      refine for_it walk_T (fun i σ H' => ∃ x4 x5, σ = [some (.ref p), some v, some (.str (tx l)), some (.ref qd), x4, x5] ∧ Gr T H2 H' ∧ ∀ i', i' < i → ∀ pt k0, ks[i']? = some pt → pt[0]? = some k0 → ¬ (heldL κ d pt ≠ [] ∧ within l (heldL κ d pt) = true ∧ k0 ∈ rk)) ⟨none, none, rfl, .refl, fun i' h => absurd h (Nat.not_lt_zero _)⟩ (fun i σ H' hi q => ?_) (fun i w' σ H3 H4 hi q y => ?_) fun σ H3 q => ?_
      · obtain ⟨_, _, _, g, _⟩ := q
        exact SqT.of ((g12.trans g).tup h4)
      · obtain ⟨x4, x5, rfl, g3, hno⟩ := q
        obtain ⟨Tt, x, z, rfl, hTt, rfl, rfl, ez⟩ := y
        have g4 := g3.trans (Gr.new (o := .tup [.int (i : Nat), z]) hTt)
        have hT2 : (upd H3 Tt (.tup [.int (i : Nat), z])) Tt = some (.tup [.int (i : Nat), z]) := upd_same
        generalize upd H3 Tt (.tup [.int (i : Nat), z]) = H4 at g4 hT2
        obtain ⟨pt, ept, b, kv', rfl, hbt, hkv⟩ := h5.2 i z ez
        have pm := List.mem_of_getElem? ept
        have eh : (ks.map fun p => V.str (tx (heldL κ d p)))[i]? = some (V.str (tx (heldL κ d pt))) := by
          rw [List.getElem?_map, ept]
          rfl
        obtain ⟨k0, hk0⟩ : ∃ k0, pt[0]? = some k0 := by
          cases e : pt with
          | nil => exact absurd e (P.ne pt pm)
          | cons a r => exact ⟨a, rfl⟩
        obtain ⟨v0, ev0, hv0⟩ := hkv.at_ hk0
        have g0 := g12.trans g4
        have hin := g0.ins h1
        have hL5 : (heldL κ d pt).length ≤ 5 := by
          unfold heldL
          rw [List.length_map]
          have := List.length_filter_le (fun a => pt.any fun x => oIn (nx κ d a x) pt) (List.range d.s)
          rw [List.length_range] at this
          omega
        have nxt : ¬ (heldL κ d pt ≠ [] ∧ within l (heldL κ d pt) = true ∧ k0 ∈ rk) → ∀ i', i' < i + 1 → ∀ pt k0, ks[i']? = some pt → pt[0]? = some k0 → ¬ (heldL κ d pt ≠ [] ∧ within l (heldL κ d pt) = true ∧ k0 ∈ rk) := fun hn i' hi' pt' k0' e1 e2 => by
          by_cases e : i' = i
          · subst e
            rw [ept] at e1
            cases e1
            rw [hk0] at e2
            cases e2
            exact hn
          · exact hno i' (by omega) pt' k0' e1 e2
        refine ⟨Tt, _, rfl, SqT.of hT2, rfl, _, _, rfl, _, _, rfl, rfl, _, rfl, p, Cw, dx, _, _, rfl, hin, W.cl, W.n8, rfl, _, rfl, .inr (.inl ⟨th, _, _, _, rfl, rfl, SqT.of (g0.tup h8), atI_nat eh, rfl, _, rfl, ?_⟩)⟩
        by_cases e : heldL κ d pt = []
        · rw [e]
          exact iteF ⟨_, _, rfl, g4, nxt fun z => z.1 e⟩
        · have ne : V.str (tx (heldL κ d pt)) ≠ V.str "" := fun z => e (tx_inj (m := []) (V.str.inj z))
          rw [decide_eq_false ne]
          refine iteT ⟨_, rfl, _, rfl, p, Cw, dx, _, _, rfl, hin, W.cl, W.n8, rfl, _, rfl, .inr (.inl ⟨th, _, _, _, rfl, rfl, SqT.of (g0.tup h8), atI_nat eh, l, heldL κ d pt, rfl, by omega, fun H5 g5 => ⟨_, rfl, ?_⟩⟩)⟩
          have g05 := g0.trans g5
          have g45 := g4.trans g5
          cases hw : within l (heldL κ d pt) with
          | false => exact iteF ⟨_, _, rfl, g45, nxt fun z => by rw [hw] at z; exact absurd z.2.1 Bool.false_ne_true⟩
          | true =>
            refine iteT ⟨_, rfl, .inr (.inl ⟨b, kv', _, _, rfl, rfl, SqT.of (g05.tup hbt), atI_nat (j := 0) ev0, _, rfl, qd, _, rfl, fd_get (.inl (g45.ext _ _ hqd pl_FD.1)) okr (hv0.gr g05), _, rfl, ?_⟩)⟩
            by_cases hk0r : k0 ∈ rk
            · rw [if_pos hk0r]
              refine iteT ?_
              refine ⟨_, rfl, _, rfl, .inr (.inl ⟨b, kv', _, _, rfl, rfl, SqT.of (g05.tup hbt), atI_nat (j := 0) ev0, qd, _, rfl, fd_has (.inl (g45.ext _ _ hqd pl_FD.1)) okr (hv0.gr g05) hk0r, ?_⟩)⟩
              refine ⟨_, rfl, p, dx, _, rfl, g05.ins h1, rfl, _, rfl, _, rfl, κ, d, p, ks, i, l, pt, rfl, hW.gr g05, g05.tab hT, ept, fun c hc => within_iff.mp hw c hc, l5, e, fun H6 c g6 hc => ⟨by show 2 ≤ sizeLine; decide, fun tt htt => ?_⟩⟩
              obtain ⟨k0', e0', hgo⟩ := hc.go
              rw [hk0] at e0'
              cases e0'
              obtain ⟨i2, e2⟩ := List.mem_iff_getElem?.mp hk0r
              have hrow := Bf.rows i2 k0 e2
              refine q2 hk _ tt (row k0) c ((g05.trans g6).trans (.new htt)) upd_same ⟨⟨k0, hrow.2.2, hgo⟩, hc.ne, hc.all, hrow.2.1, hc.sg, ?_, hc.len⟩
              have h1 := hrow.1
              have h2 := (List.getElem?_eq_some_iff.mp e2).1
              have h3 := Bf.len
              have h4 := nds_len (κ := κ) (d := d)
              omega
            · rw [if_neg hk0r]
              exact iteF ⟨_, _, rfl, g45, nxt fun z => hk0r z.2.2⟩
      · obtain ⟨x4, x5, rfl, g3, hno⟩ := q
        exfalso
        obtain ⟨m, ⟨o, ho, rfl, hne⟩, hin⟩ := hk
        have hoN : o ∈ nds κ d := by
          have := bfs_reach hcl ho nrk
          exact Bf.sub o this
        obtain ⟨pt, ept, hop⟩ := hm_lt P hoN
        have pm := List.mem_of_getElem? ept
        obtain ⟨k0, hk0⟩ : ∃ k0, pt[0]? = some k0 := by
          cases e : pt with
          | nil => exact absurd e (P.ne pt pm)
          | cons a r => exact ⟨a, rfl⟩
        have eH := held_at (κ := κ) (d := d) P ept hop
        rw [eH] at hne hin
        rw [inS_tx] at hin
        have hlt : hmv ks o < kv.length := by rw [h5.1]; exact (List.getElem?_eq_some_iff.mp ept).1
        exact hno _ hlt pt k0 ept hk0 ⟨hne, hin, bfs_reach hcl (ho.trans (P.scc pt pm o hop k0 (List.mem_of_getElem? hk0))) nrk⟩
end
end Bk
end
section
/-! The law's draws: _law_take, _law_pick, _law_box. -/
namespace Bk
open PySem L2 LamX PySem.Spec PyProof.Rows
abbrev sBox : Stmt := top 36
abbrev sTake : Stmt := top 37
abbrev sPick : Stmt := top 38
/-- the three numbers of a source of draws -/
abbrev bx (b0 b1 b2 : Int) : HO := .lst [.int b0, .int b1, .int b2]
theorem emod_nat {i : Int} {n : Nat} (h : 0 < n) : ∃ c : Nat, i % (n : Int) = (c : Int) ∧ c < n := by
  have h1 := Int.emod_nonneg i (show (n : Int) ≠ 0 by omega)
  have h2 := Int.emod_lt_of_pos i (show (0 : Int) < n by omega)
  exact ⟨(i % (n : Int)).toNat, by omega, by omega⟩
section
variable {P : Program} {w : World} {K : PySem.W.Frag} {mg : Str → Option Value} {base : Heap} {T : List (Addr × Str)}
def spTake : Sp := fun vs H Q _ => ∃ (q : Addr) (n : Nat) (b0 b1 b2 : Int), vs = [.ref q, .int (n : Nat)] ∧ H q = some (bx b0 b1 b2) ∧ 0 < n ∧ n ≤ 1000 ∧ ∀ (c : Nat) (b0 b1 b2 : Int), c < n → Q (.int (c : Nat)) (upd H q (bx b0 b1 b2))
theorem scTake : FnScope ["_law_box_here", "_law_many", "_law_digit", "_law_raw"] ["_law_box_here", "_law_many"] (defScope sTake) := ⟨rfl, rfl, rfl, by decide +kernel, rfl, by decide +kernel, by decide +kernel⟩
theorem ok_take {f : Addr} {fd : FuncData} (F : Fun K "_law_take" "_law_take" sTake f fd) (B : Bt mg) : FnOk P w K mg base CX0 1 f fd ["_law_box_here", "_law_many"] spTake := by
  refine F.ok scTake (fun vs H Q E h => ?_) (fun cdv A outer s H vs Q E hr h => ?_)
  · obtain ⟨q, n, b0, b1, b2, rfl, _⟩ := h
    rfl
  · obtain ⟨q, n, b0, b1, b2, rfl, hq, n0, n1, k⟩ := h
    refine ⟨_, (pss_cons (ps_if (pt_cmpR op_gt (pe_ix ix_list (pv 0) pe_int (fun _ _ => rfl)) pe_int (nomark _)) (pss_cons (ps_set (i := 2) scTake.nd rfl (Or.inl rfl) (pe_op op_mod (pe_callTy call_int1 (by rfl) B.int (by decide +kernel) (pa_cons (pe_ix ix_list (pv 0) pe_int (fun _ _ => rfl)) pa_nil)) (pv 1)))
      (pss_cons (ps_asg (pe_op op_fdiv (pe_ix ix_list (pv 0) pe_int (fun _ _ => rfl)) (pv 1)) (pg_sub (pv 0) pe_int set_list))
      (pss_one (ps_ret (pv 2))))) pss_nil)
      (pss_cons (ps_asg (pe_op op_add (pe_ix ix_list (pv 0) pe_int (fun _ _ => rfl)) pe_int) (pg_sub (pv 0) pe_int set_list))
      (pss_cons (ps_set (i := 3) scTake.nd rfl (Or.inl rfl) (pe_op op_mod (pe_callTy call_int1 (by rfl) B.int (by decide +kernel) (pa_cons (pe_op op_add (pe_op op_mul (pe_op op_add (pe_ix ix_list (pv 0) pe_int (fun _ _ => rfl)) (pe_op op_mul pe_int (pe_ix ix_list (pv 0) pe_int (fun _ _ => rfl)))) pe_int) pe_int) pa_nil)) pe_int))
      (pss_cons (ps_asg (pe_op op_add (pe_op op_mod (pe_callTy call_int1 (by rfl) B.int (by decide +kernel) (pa_cons (pe_op op_add (pe_op op_mul (pv 3) pe_int) pe_int) pa_nil)) pe_int) pe_int) (pg_sub (pv 0) pe_int set_list))
      (pss_one (ps_ret (pe_op op_mod (pe_callTy call_int1 (by rfl) B.int (by decide +kernel) (pa_cons (pe_op op_fdiv (pe_op op_add (pe_op op_mul (pv 3) pe_int) (pe_ix ix_list (pv 0) pe_int (fun _ _ => rfl))) pe_int) pa_nil)) (pv 1)))))))), ?_⟩
    have hn : (0 : Int) < (n : Nat) := by omega
    have hn2 : ((n : Nat) : Int) < 1073741824 := by omega
    have a0 : ∀ {x y z : V}, atI [x, y, z] (0 : Int) = some x := fun {x y z} => rfl
    have a1 : ∀ {x y z : V}, atI [x, y, z] (1 : Int) = some y := fun {x y z} => rfl
    have a2 : ∀ {x y z : V}, atI [x, y, z] (2 : Int) = some z := fun {x y z} => rfl
    have hu : ∀ {H : Hp} {xs : List V}, (upd H q (.lst xs)) q = some (.lst xs) := fun {H xs} => upd_same
    refine ⟨_, rfl, q, _, _, _, rfl, rfl, SqL.of hq, a0, _, _, rfl, rfl, _, rfl, ?_⟩
    have k' : ∀ i b0 b1 b2 : Int, Q (.int (i % (n : Nat))) (upd H q (bx b0 b1 b2)) := fun i b0 b1 b2 => by
      obtain ⟨c, ec, hc⟩ := emod_nat (i := i) n0
      rw [ec]
      exact k c b0 b1 b2 hc
    by_cases hb : (0 : Int) < b0
    · rw [decide_eq_true hb]
      refine iteT ?_
      refine ⟨_, rfl, q, _, _, _, rfl, rfl, SqL.of hq, a0, .inl ⟨_, rfl, _, rfl, _, _, rfl, rfl, hn, ?_⟩⟩
      refine ⟨_, rfl, q, _, _, _, rfl, rfl, SqL.of hq, a0, _, rfl, _, _, rfl, rfl, ⟨hn, hn2⟩, _, rfl, q, _, _, 0, rfl, rfl, hq, rfl, _, rfl, ?_⟩
      exact k' _ _ _ _
    · rw [decide_eq_false hb]
      refine iteF ?_
      refine ⟨_, rfl, q, _, _, _, rfl, rfl, SqL.of hq, a2, _, _, rfl, rfl, _, rfl, q, _, _, 2, rfl, rfl, hq, rfl, ?_⟩
      refine ⟨_, rfl, q, _, _, _, rfl, rfl, SqL.of hu, a1, _, rfl, q, _, _, _, rfl, rfl, SqL.of hu, a2, _, _, rfl, rfl, .inl ⟨by decide, by decide⟩, _, _, rfl, rfl, _, _, rfl, rfl, .inr ⟨by decide, by decide⟩, _, _, rfl, rfl, .inl ⟨_, rfl, _, _, rfl, rfl, (by show (0 : Int) < 2147483497; decide), ?_⟩⟩
      refine ⟨_, rfl, _, _, rfl, rfl, .inr ⟨by decide, by decide⟩, _, _, rfl, rfl, .inl ⟨_, rfl, _, _, rfl, rfl, (by show (0 : Int) < 2147483543; decide), _, _, rfl, rfl, _, rfl, q, _, _, 1, rfl, rfl, hu, rfl, ?_⟩⟩
      rw [upd_upd]
      refine ⟨_, rfl, _, _, rfl, rfl, .inr ⟨by decide, by decide⟩, _, rfl, q, _, _, _, rfl, rfl, SqL.of hu, a1, _, _, rfl, rfl, _, _, rfl, rfl, ⟨by decide, by decide⟩, .inl ⟨_, rfl, _, rfl, _, _, rfl, rfl, hn, ?_⟩⟩
      exact k' _ _ _ _
end
end Bk
end
section
/-! _law_pick, _law_box. -/
namespace Bk
open PySem L2 LamX PySem.Spec PyProof.Rows
section
variable {P : Program} {w : World} {K : PySem.W.Frag} {mg : Str → Option Value} {base : Heap} {T : List (Addr × Str)}
def spPick : Sp := fun vs H Q _ => ∃ (q l : Addr) (xs : List V) (b0 b1 b2 : Int), vs = [.ref q, .ref l] ∧ H q = some (bx b0 b1 b2) ∧ H l = some (.lst xs) ∧ l ≠ q ∧ xs ≠ [] ∧ xs.length ≤ 1000 ∧ ∀ (i : Nat) (x : V) (b0 b1 b2 : Int), xs[i]? = some x → Q x (upd H q (bx b0 b1 b2))
theorem scPick : FnScope ["_law_box_here", "_law_some"] ["_law_box_here", "_law_some"] (defScope sPick) := ⟨rfl, rfl, rfl, by decide +kernel, rfl, by decide +kernel, by decide +kernel⟩
theorem ok_pick {f : Addr} {fd : FuncData} (F : Fun K "_law_pick" "_law_pick" sPick f fd) (B : Bt mg) (G : CalF P w K mg base CX0 1 "_law_take" ["_law_box_here", "_law_many"] spTake) : FnOk P w K mg base CX0 2 f fd ["_law_box_here", "_law_some"] spPick := by
  refine F.ok scPick (fun vs H Q E h => ?_) (fun cdv A outer s H vs Q E hr h => ?_)
  · obtain ⟨q, l, xs, b0, b1, b2, rfl, _⟩ := h
    rfl
  · obtain ⟨q, l, xs, b0, b1, b2, rfl, hq, hl, ne, x0, x1, k⟩ := h
    refine ⟨_, (pss_one (ps_ret (pe_ix ix_list (pv 1) (pe_cal G hr (pa_cons (pv 0) (pa_cons (pe_callB call_len_seq (by rfl) B.len (by decide +kernel) (pa_cons (pv 1) pa_nil)) pa_nil)) pass0) (fun _ _ => rfl)))), ?_⟩
    refine ⟨_, rfl, _, rfl, _, rfl, l, _, rfl, .inl (SqL.of hl), q, xs.length, b0, b1, b2, rfl, hq, List.length_pos_iff.mpr x0, x1, fun c c0 c1 c2 hc => ?_⟩
    refine ⟨l, xs, _, _, rfl, rfl, SqL.of (by rw [upd_ne ne]; exact hl), atI_nat (List.getElem?_eq_getElem hc), k c _ c0 c1 c2 (List.getElem?_eq_getElem hc)⟩
theorem box_tail {H : Hp} {s : Addr} {k : Nat} {c : Int} {Q : VK} {nx : L2.St → Hp → Prop} (kk : ∀ (q : Addr) (H' : Hp) (b0 b1 b2 : Int), H q = none → Gr T H H' → H' q = some (bx b0 b1 b2) → Q (.ref q) H') :
    tRet (tLst (tCons (tOp (rIxL K) (tLst (tCons (tC (.int 0)) (tCons (tVar 2) tNil))) (tCB (fun xs H Q => (∃ i, xs = [V.int i] ∧ Q (V.int i) H) ∨ ∃ k, xs = [V.bl k] ∧ Q (V.int (if k = true then 1 else 0)) H) (tCons (tOp (rI0 fun i j => V.bl (decide (j ≤ i))) (tVar 2) (tOp (rI CPow fun i j => V.int (i ^ j.toNat)) (tC (V.int 10)) (tC (V.int 18)))) tNil)))
      (tCons (tOp (rI0 fun i j => V.int (i + j)) (tOp (rI (fun x j => 0 < j) fun i j => V.int (i % j)) (tCB (fun xs H Q => (∃ i, xs = [V.int i] ∧ Q (V.int i) H) ∨ ∃ k, xs = [V.bl k] ∧ Q (V.int (if k = true then 1 else 0)) H) (tCons (tOp (rI0 fun i j => V.int (i + j)) (tOp (rI CMul fun i j => V.int (i * j)) (tOp (rI (fun x j => 0 < j) fun i j => V.int (i % j))
        (tCB (fun xs H Q => (∃ i, xs = [V.int i] ∧ Q (V.int i) H) ∨ ∃ k, xs = [V.bl k] ∧ Q (V.int (if k = true then 1 else 0)) H) (tCons (tVar 2) tNil)) (tC (V.int 2147483543))) (tC (V.int 38699))) (tOp (rI CMul fun i j => V.int (i * j)) (tC (V.int 24029)) (tVar 1))) tNil)) (tC (V.int 2147483543))) (tC (V.int 1))) (tCons (tC (V.int 0)) tNil))))
      { nx := nx, rt := Q } [some (.ref s), some (.int (k : Nat)), some (.int c)] H := by
  refine ⟨_, rfl, by show 2 ≤ sizeLine; decide, fun l hl => ⟨_, rfl, _, _, rfl, rfl, ⟨by decide, by decide, by decide⟩, _, _, rfl, rfl, .inr ⟨_, rfl, l, [.int 0, .int c], _, if decide ((10 : Int) ^ (18 : Int).toNat ≤ c) = true then .int c else .int 0, rfl, rfl, SqL.of upd_same, ?_, ?_⟩⟩⟩
  · cases decide ((10 : Int) ^ (18 : Int).toNat ≤ c) <;> rfl
  · have g1 : Gr T H (upd H l (.lst [.int 0, .int c])) := .new hl
    generalize upd H l (.lst [.int 0, .int c]) = H1 at g1
    refine ⟨_, rfl, .inl ⟨_, rfl, _, _, rfl, rfl, (by show (0 : Int) < 2147483543; decide), _, _, rfl, rfl, .inr ⟨by decide, by decide⟩, _, rfl, _, _, rfl, rfl, .inl ⟨by decide, by decide⟩, _, _, rfl, rfl, .inl ⟨_, rfl, _, _, rfl, rfl, (by show (0 : Int) < 2147483543; decide), _, _, rfl, rfl, by show 3 ≤ sizeLine; decide, fun q hq => ?_⟩⟩⟩
    obtain ⟨b0, e⟩ : ∃ b0, (if decide ((10 : Int) ^ (18 : Int).toNat ≤ c) = true then V.int c else .int 0) = .int b0 := by
      cases decide ((10 : Int) ^ (18 : Int).toNat ≤ c)
      · exact ⟨0, rfl⟩
      · exact ⟨c, rfl⟩
    rw [e]
    exact kk q _ b0 _ _ (g1.dom _ hq) (g1.trans (.new hq)) upd_same
def spBox (T : List (Addr × Str)) (K : PySem.W.Frag) : Sp := fun vs H Q _ => ∃ (s : Addr) (ns : List Int) (k : Nat), vs = [.ref s, .int (k : Nat)] ∧ SqL K H s (ns.map V.int) ∧ k < 2 ∧ ∀ (q : Addr) (H' : Hp) (b0 b1 b2 : Int), H q = none → Gr T H H' → H' q = some (bx b0 b1 b2) → Q (.ref q) H'
theorem scBox : FnScope ["_law_script", "_law_k", "_law_cell"] ["_law_script", "_law_k"] (defScope sBox) := ⟨rfl, rfl, rfl, by decide +kernel, rfl, by decide +kernel, by decide +kernel⟩
theorem ok_box {f : Addr} {fd : FuncData} (F : Fun K "_law_box" "_law_box" sBox f fd) (B : Bt mg) : FnOk P w K mg base CX0 1 f fd ["_law_script", "_law_k"] (spBox T K) := by
  refine F.ok scBox (fun vs H Q E h => ?_) (fun cdv A outer s H vs Q E hr h => ?_)
  · obtain ⟨s, ns, k, rfl, _⟩ := h
    rfl
  · obtain ⟨s, ns, k, rfl, hs, k2, kk⟩ := h
    have hlen : (ns.map V.int).length = ns.length := List.length_map _
    refine ⟨_, (pss_cons (ps_set (i := 2) scBox.nd rfl (Or.inl rfl) (pe_op op_add (pe_op op_mul pe_int (pv 1)) pe_int))
      (pss_cons (ps_if (pt_cmpR op_lt (pv 1) (pe_callB call_len_seq (by rfl) B.len (by decide +kernel) (pa_cons (pv 0) pa_nil)) (nomark _)) (pss_one (ps_set (i := 2) scBox.nd rfl (Or.inl rfl) (pe_callB call_abs (by rfl) B.abs (by decide +kernel) (pa_cons (pe_ix ix_list (pv 0) (pv 1) (fun _ _ => rfl)) pa_nil)))) (pss_one (ps_if (pt_cmpR op_gt (pe_callB call_len_seq (by rfl) B.len (by decide +kernel) (pa_cons (pv 0) pa_nil)) pe_int (nomark _)) (pss_one (ps_set (i := 2) scBox.nd rfl (Or.inl rfl) (pe_op op_add (pv 2) (pe_op op_mul (pe_op op_mod (pe_callTy call_int1 (by rfl) B.int (by decide +kernel) (pa_cons (pe_callB call_abs (by rfl) B.abs (by decide +kernel) (pa_cons (pe_ix ix_list (pv 0) (pe_op op_mod (pe_callTy call_int1 (by rfl) B.int (by decide +kernel) (pa_cons (pv 1) pa_nil)) (pe_callB call_len_seq (by rfl) B.len (by decide +kernel) (pa_cons (pv 0) pa_nil))) (fun _ _ => rfl)) pa_nil)) pa_nil)) pe_int) pe_int)))) pss_nil)))
      (pss_one (ps_ret (pe_lst (pa_cons (pe_ix ix_list (pe_lst (pa_cons pe_int (pa_cons (pv 2) pa_nil))) (pe_callTy call_int1 (by rfl) B.int (by decide +kernel) (pa_cons (pe_cmpR op_ge (pv 2) (pe_op op_pow pe_int pe_int) (nomark _)) pa_nil)) (fun _ _ => rfl)) (pa_cons (pe_op op_add (pe_op op_mod (pe_callTy call_int1 (by rfl) B.int (by decide +kernel) (pa_cons (pe_op op_add (pe_op op_mul (pe_op op_mod (pe_callTy call_int1 (by rfl) B.int (by decide +kernel) (pa_cons (pv 2) pa_nil)) pe_int) pe_int) (pe_op op_mul pe_int (pv 1))) pa_nil)) pe_int) pe_int) (pa_cons pe_int pa_nil)))))))), ?_⟩
    refine ⟨_, rfl, _, _, rfl, rfl, .inl ⟨by decide, by decide⟩, _, _, rfl, rfl, ?_⟩
    refine ⟨_, rfl, _, rfl, s, _, rfl, .inl hs, _, _, rfl, rfl, _, rfl, ite2 (fun h => ?_) fun h => ?_⟩
    rotate_left
    refine ⟨_, rfl, s, _, rfl, .inl hs, _, _, rfl, rfl, _, rfl, ite2 (fun h2 => ?_) fun h2 => ?_⟩
    rotate_left
    rotate_left
    · have hk : k < (ns.map V.int).length := by
        have := of_decide_eq_true h
        omega
      have e : (ns.map V.int)[k]? = some (.int (ns[k]'(by omega))) := by
        rw [List.getElem?_map, List.getElem?_eq_getElem (by omega)]
        rfl
      exact ⟨_, rfl, _, rfl, s, _, _, _, rfl, rfl, hs, atI_nat e, _, rfl, box_tail kk⟩
    · have hp : 0 < (ns.map V.int).length := by
        have := of_decide_eq_true h2
        omega
      obtain ⟨c, ec, hc⟩ := emod_nat (i := (k : Nat)) hp
      have e : (ns.map V.int)[c]? = some (.int (ns[c]'(by omega))) := by
        rw [List.getElem?_map, List.getElem?_eq_getElem (by omega)]
        rfl
      have ea : atI (ns.map V.int) (((k : Nat) : Int) % ((ns.map V.int).length : Nat)) = some (.int (ns[c]'(by omega))) := by
        rw [ec]
        exact atI_nat e
      refine ⟨_, rfl, _, rfl, _, rfl, .inl ⟨_, rfl, _, rfl, s, _, rfl, .inl hs, _, _, rfl, rfl, (by show (0 : Int) < ((ns.map V.int).length : Nat); omega), s, _, _, _, rfl, rfl, hs, ea, _, rfl, .inl ⟨_, rfl, _, _, rfl, rfl, (by show (0 : Int) < 2147483543; decide), _, _, rfl, rfl, .inr ⟨by decide, by decide⟩, _, _, rfl, rfl, box_tail kk⟩⟩⟩
    · exact box_tail kk
end
end Bk
end
section
/-! _law_tables. -/
namespace Bk
open PySem L2 LamX PySem.Spec PyProof.Rows
abbrev sTables : Stmt := top 39
abbrev nTables : List Str := ["_law_box_here", "_law_most", "_law_signals", "_law_many", "_law_found", "_law_signal", "_law_style", "_law_shift", "_law_state"]
theorem rowV_snoc {j c : Nat} {g : Nat → Nat} : rowV (j + 1) (fup g j c) = rowV j g ++ [.int (c : Nat)] := by
  unfold rowV
  rw [List.range_succ, List.map_append]
  congr 1
  · refine List.map_congr_left fun x hx => ?_
    rw [fup_ne _ _ (Nat.ne_of_lt (List.mem_range.mp hx))]
  · show [V.int ((fup g j c j : Nat) : Int)] = _
    rw [fup_same]
theorem fup_lt {g : Nat → Nat} {j c m : Nat} (h : ∀ x, x < j → g x < m) (hc : c < m) : ∀ x, x < j + 1 → fup g j c x < m := fun x hx => by
  by_cases e : x = j
  · rw [e, fup_same]
    exact hc
  · rw [fup_ne _ _ e]
    exact h x (by omega)
section
variable {P : Program} {w : World} {K : PySem.W.Frag} {mg : Str → Option Value} {base : Heap} {T : List (Addr × Str)}
def spTables (T : List (Addr × Str)) : Sp := fun vs H Q _ => ∃ (H0 : Hp) (q : Addr) (most s : Nat) (b0 b1 b2 : Int), vs = [.ref q, .int (most : Nat), .int (s : Nat)] ∧ Loc T H0 [(q, bx b0 b1 b2)] H ∧ 1 ≤ most ∧ most ≤ 5 ∧ 1 ≤ s ∧ s ≤ 5 ∧
  ∀ (Hb H' : Hp) (c : Addr) (d : Dv) (b0 b1 b2 : Int), Gr T H0 Hb → Loc T Hb [(q, bx b0 b1 b2)] H' → TbsL Hb c d → d.s = s → Q (.ref c) H'
theorem scTables : FnScope nTables ["_law_box_here", "_law_most", "_law_signals"] (defScope sTables) := ⟨rfl, rfl, rfl, by decide +kernel, rfl, by decide +kernel, by decide +kernel⟩
theorem ok_tables {f : Addr} {fd : FuncData} (F : Fun K "_law_tables" "_law_tables" sTables f fd) (B : Bt mg) (G1 : CalF P w K mg base CX0 1 "_law_take" ["_law_box_here", "_law_many"] spTake) (G2 : CalF P w K mg base CX0 2 "_law_pick" ["_law_box_here", "_law_some"] spPick) : FnOk P w K mg base CX0 3 f fd ["_law_box_here", "_law_most", "_law_signals"] (spTables T) := by
  refine F.ok scTables (fun vs H Q E h => ?_) (fun cdv A outer s H vs Q E hr h => ?_)
  · obtain ⟨H0, q, most, s, b0, b1, b2, rfl, _⟩ := h
    rfl
  · obtain ⟨H0, q, most, sn, b0, b1, b2, rfl, L, mo1, mo5, s1, s5, k⟩ := h
    have hr1 := hr.mono (show 1 ≤ 2 by decide)
    refine ⟨_, (pss_cons (ps_set (i := 3) scTables.nd rfl (Or.inr rfl) (pe_op op_add pe_int (pe_cal G1 hr1 (pa_cons (pv 0) (pa_cons (pv 1) pa_nil)) pass0)))
      (pss_cons (ps_set (i := 4) scTables.nd rfl (Or.inl rfl) (pe_lst pa_nil))
      (pss_cons (ps_for PassesOwn.never rfl (pi_range1 (by rfl) B.range (pa_cons (pv 2) pa_nil)) (pg_name (i := 5) scTables.nd rfl (Or.inl rfl)) (pss_cons (ps_set (i := 6) scTables.nd rfl (Or.inl rfl) (pe_cal G2 hr (pa_cons (pv 0) (pa_cons (pe_lst (pa_cons pe_int (pa_cons pe_int (pa_cons pe_int (pa_cons pe_int (pa_cons pe_int pa_nil)))))) pa_nil)) pass0))
      (pss_one (ps_if (pt_cmpR op_eq (pv 6) pe_int (nomark _)) (pss_one (ps_expr (pe_bm PySem.F.plainAttrs_list PySem.F.slot_list_append PySem.F.type_list_append mt_append (pv 4) (pa_cons (pe_lc (own := [("_law_state", 8)]) (g := (gName 8)) (tt := tYes) rfl scTables.nd (pi_range1 (by rfl) B.range (pa_cons (pv 3) pa_nil)) (blkOk_by (N := nTables) (sc := (defScope sTables)) (by decide +kernel)) (fun _ _ _ _ _ => by exact (pg_name (i := 8) scTables.nd rfl (Or.inl rfl))) (fun _ _ _ _ _ => pts_nil) (fun _ _ _ _ _ => by exact (pe_cal G1 hr1 (pa_cons (pv 0) (pa_cons (pv 3) pa_nil)) pass0))) pa_nil)))) (pss_one (ps_if (pt_cmpR op_eq (pv 6) pe_int (nomark _)) (pss_one (ps_expr (pe_bm PySem.F.plainAttrs_list PySem.F.slot_list_append PySem.F.type_list_append mt_append (pv 4) (pa_cons (pe_lc (own := [("_law_state", 8)]) (g := (gName 8)) (tt := tYes) rfl scTables.nd (pi_range1 (by rfl) B.range (pa_cons (pv 3) pa_nil)) (blkOk_by (N := nTables) (sc := (defScope sTables)) (by decide +kernel)) (fun _ _ _ _ _ => by exact (pg_name (i := 8) scTables.nd rfl (Or.inl rfl))) (fun _ _ _ _ _ => pts_nil) (fun _ _ _ _ _ => by exact (pe_ifExp (pt_cmpR op_eq (pe_cal G1 hr1 (pa_cons (pv 0) (pa_cons pe_int pa_nil)) pass0) pe_int (nomark _)) (pv 8) (pe_cal G1 hr1 (pa_cons (pv 0) (pa_cons (pv 3) pa_nil)) pass0)))) pa_nil)))) (pss_cons (ps_set (i := 7) scTables.nd rfl (Or.inr rfl) (pe_cal G1 hr1 (pa_cons (pv 0) (pa_cons (pv 3) pa_nil)) pass0))
      (pss_one (ps_expr (pe_bm PySem.F.plainAttrs_list PySem.F.slot_list_append PySem.F.type_list_append mt_append (pv 4) (pa_cons (pe_lc (own := [("_law_state", 8)]) (g := (gName 8)) (tt := tYes) rfl scTables.nd (pi_range1 (by rfl) B.range (pa_cons (pv 3) pa_nil)) (blkOk_by (N := nTables) (sc := (defScope sTables)) (by decide +kernel)) (fun _ _ _ _ _ => by exact (pg_name (i := 8) scTables.nd rfl (Or.inl rfl))) (fun _ _ _ _ _ => pts_nil) (fun _ _ _ _ _ => by exact (pe_op op_mod (pe_callTy call_int1 (by rfl) B.int (by decide +kernel) (pa_cons (pe_op op_add (pv 8) (pv 7)) pa_nil)) (pv 3)))) pa_nil)))))))))))
      (pss_one (ps_ret (pv 4)))))), ?_⟩
    refine ⟨_, rfl, _, rfl, q, most, b0, b1, b2, rfl, L.get (i := 0) rfl, by omega, by omega, fun c b0 b1 b2 hc => ⟨_, _, rfl, rfl, ?_⟩⟩
    have L := L.set (i := 0) (u := bx b0 b1 b2) rfl pl_lst
    generalize upd H q (bx b0 b1 b2) = H1 at L
    have em : (1 : Int) + ((c : Nat) : Int) = ((1 + c : Nat) : Int) := by omega
    dsimp only
    rw [em]
    generalize hm : 1 + c = m
    have m1 : 1 ≤ m := by omega
    have m5 : m ≤ 5 := by omega
    refine ⟨Nat.zero_le _, fun F hF => ?_⟩
    have L2 : Loc T H0 [(F, .lst []), (q, bx b0 b1 b2)] (upd H1 F (.lst [])) := L.new hF pl_lst
    generalize upd H1 F (.lst []) = H2 at L2
    refine ⟨_, rfl, _, rfl, by omega, by omega, ?_⟩
    refine for_it (walk_range (lo := 0) (n := sn)) (fun i σ H' => ∃ (Hc : Hp) (ts : List V) (fs : Nat → Nat → Nat) (x5 x6 x7 : Option V) (b0 b1 b2 : Int), σ = [some (.ref q), some (.int (most : Nat)), some (.int (sn : Nat)), some (.int (m : Nat)), some (.ref F), x5, x6, x7, none] ∧ Gr T H0 Hc ∧
      Loc T Hc [(F, .lst ts), (q, bx b0 b1 b2)] H' ∧ ts.length = i ∧ ∀ j v, ts[j]? = some v → ∃ a, v = .ref a ∧ Hc a = some (.lst (rowV m (fs j))) ∧ ∀ x, x < m → fs j x < m) ?_ (fun _ _ _ _ _ => trivial) (fun i v σ H3 H' hi z y => ?_) fun σ H' z => ?_
    · exact ⟨H0, [], fun _ _ => 0, none, none, none, b0, b1, b2, rfl, .refl, L2, rfl, fun j v e => by simp at e⟩
    · obtain ⟨Hc, ts, fs, x5, x6, x7, b0, b1, b2, rfl, gc, Lc, tl, hts⟩ := z
      obtain ⟨rfl, rfl⟩ := y
      -- a made list goes into the tables
      have push : ∀ (H5 : Hp) (D : Addr) (g : Nat → Nat) (x5 x6 x7 : Option V) (b0 b1 b2 : Int), Loc T Hc [(D, .lst (rowV m g)), (F, .lst ts), (q, bx b0 b1 b2)] H5 → (∀ x, x < m → g x < m) →
          ∃ (Hc : Hp) (ts' : List V) (fs : Nat → Nat → Nat) (y5 y6 y7 : Option V) (b0 b1 b2 : Int), [some (.ref q), some (.int (most : Nat)), some (.int (sn : Nat)), some (.int (m : Nat)), some (.ref F), x5, x6, x7, none] = [some (.ref q), some (.int (most : Nat)), some (.int (sn : Nat)), some (.int (m : Nat)), some (.ref F), y5, y6, y7, none] ∧ Gr T H0 Hc ∧
            Loc T Hc [(F, .lst ts'), (q, bx b0 b1 b2)] (upd H5 F (.lst (ts ++ [.ref D]))) ∧ ts'.length = i + 1 ∧ ∀ j v, ts'[j]? = some v → ∃ a, v = .ref a ∧ Hc a = some (.lst (rowV m (fs j))) ∧ ∀ x, x < m → fs j x < m := fun H5 D g x5 x6 x7 b0 b1 b2 L5 hg => by
        have L6 : Loc T Hc [(D, .lst (rowV m g)), (F, .lst (ts ++ [.ref D])), (q, bx b0 b1 b2)] (upd H5 F (.lst (ts ++ [.ref D]))) := L5.set (i := 1) rfl pl_lst
        obtain ⟨Hd, gd, Ld, keep⟩ := L6.rebase (M := [(F, .lst (ts ++ [.ref D])), (q, bx b0 b1 b2)]) (List.sublist_cons_self _ _)
        have kD : Hd D = some (.lst (rowV m g)) := keep _ _ (L6.get (i := 0) rfl) fun h => by
          have nd := L6.nd
          simp at nd h
          rcases h with h | h
          · exact nd.1.1 h
          · exact nd.1.2 h
        refine ⟨Hd, ts ++ [.ref D], fup fs i g, x5, x6, x7, b0, b1, b2, rfl, gc.trans gd, Ld, by rw [List.length_append, tl]; rfl, fun j v e => ?_⟩
        by_cases l : j < ts.length
        · rw [List.getElem?_append_left l] at e
          obtain ⟨a, e1, e2, e3⟩ := hts j v e
          refine ⟨a, e1, ?_, ?_⟩
          · rw [fup_ne _ _ (by omega)]
            exact gd.lst e2
          · rw [fup_ne _ _ (by omega)]
            exact e3
        · rw [List.getElem?_append_right (by omega)] at e
          have ej : j = i := by
            have := (List.getElem?_eq_some_iff.mp e).1
            simp at this
            omega
          subst ej
          rw [tl] at e
          simp at e
          refine ⟨D, e.symm, ?_, ?_⟩
          · rw [fup_same]
            exact kD
          · rw [fup_same]
            exact hg
      have tsl : ts.length < sizeLine := lt_line (by omega)
      refine ⟨_, rfl, by show 5 ≤ sizeLine; decide, fun S hS => ?_⟩
      have L3 : Loc T Hc [(S, .lst [.int 0, .int 0, .int 1, .int 1, .int 2]), (F, .lst ts), (q, bx b0 b1 b2)] (upd H' S (.lst [.int 0, .int 0, .int 1, .int 1, .int 2])) := Lc.new hS pl_lst
      generalize upd H' S (.lst [.int 0, .int 0, .int 1, .int 1, .int 2]) = H3 at L3
      have neq : S ≠ q := fun e => by
        have nd := L3.nd
        simp at nd
        exact nd.1.2 e
      refine ⟨q, S, _, b0, b1, b2, rfl, L3.get (i := 2) rfl, L3.get (i := 0) rfl, neq, by simp, by show 5 ≤ 1000; decide, fun is st b0 b1 b2 his => ?_⟩
      have L4 := (L3.set (i := 2) (u := bx b0 b1 b2) rfl pl_lst).sub (M := [(F, .lst ts), (q, bx b0 b1 b2)]) (List.sublist_cons_self _ _)
      generalize upd H3 q (bx b0 b1 b2) = H4 at L4
      obtain ⟨ist, est⟩ : ∃ n : Int, st = .int n := by
        have hm := List.mem_of_getElem? his
        simp at hm
        rcases hm with h | h | h <;> exact ⟨_, h⟩
      subst est
      have bm : (-(2 ^ 62) : Int) ≤ (m : Nat) := by omega
      have bm2 : ((m : Nat) : Int) < 2 ^ 62 := by omega
      have em2 : (((m : Nat) : Int)).toNat = m := Int.toNat_natCast m
      refine ⟨_, rfl, rfl, _, rfl, ite2 (fun h0 => ?_) fun h0 => ?_⟩
      · refine ⟨_, rfl, .inl ⟨rfl, _, SqL.of (L4.get (i := 0) rfl)⟩, _, rfl, _, rfl, bm, bm2, fun D hD => ?_⟩
        rw [em2]
        refine lc_it (walk_range (lo := 0) (n := m)) (fun j H' => ∃ g b0 b1 b2, Loc T Hc [(D, .lst (rowV j g)), (F, .lst ts), (q, bx b0 b1 b2)] H' ∧ ∀ x, x < j → g x < m) ⟨fun _ => 0, b0, b1, b2, L4.new hD pl_lst, fun x h => absurd h (Nat.not_lt_zero _)⟩ (fun _ _ _ _ => trivial) (fun j u H5 H6 hj z y => ?_) fun H5 z => ?_
        · obtain ⟨g, b0, b1, b2, z, hg⟩ := z
          obtain ⟨rfl, rfl⟩ := y
          refine ⟨rfl, _, rfl, _, rfl, q, m, b0, b1, b2, rfl, z.get (i := 2) rfl, by omega, by omega, fun c b0 b1 b2 hc => ?_⟩
          have z1 := z.set (i := 2) (u := bx b0 b1 b2) rfl pl_lst
          refine ⟨_, z1.get (i := 0) rfl, lt_line (by rw [rowV, List.length_map, List.length_range]; omega), fup g j c, b0, b1, b2, ?_, fup_lt hg hc⟩
          rw [rowV_snoc]
          exact z1.set (i := 0) rfl pl_lst
        · obtain ⟨g, b0, b1, b2, z, hg⟩ := z
          exact ⟨F, _, _, rfl, rfl, z.get (i := 1) rfl, tsl, push H5 D g _ _ _ b0 b1 b2 z hg⟩
      · refine ⟨_, rfl, rfl, _, rfl, ite2 (fun h1 => ?_) fun h1 => ?_⟩
        · refine ⟨_, rfl, .inl ⟨rfl, _, SqL.of (L4.get (i := 0) rfl)⟩, _, rfl, _, rfl, bm, bm2, fun D hD => ?_⟩
          rw [em2]
          refine lc_it (walk_range (lo := 0) (n := m)) (fun j H' => ∃ g b0 b1 b2, Loc T Hc [(D, .lst (rowV j g)), (F, .lst ts), (q, bx b0 b1 b2)] H' ∧ ∀ x, x < j → g x < m) ⟨fun _ => 0, b0, b1, b2, L4.new hD pl_lst, fun x h => absurd h (Nat.not_lt_zero _)⟩ (fun _ _ _ _ => trivial) (fun j u H5 H6 hj z y => ?_) fun H5 z => ?_
          · obtain ⟨g, b0, b1, b2, z, hg⟩ := z
            obtain ⟨rfl, rfl⟩ := y
            refine ⟨rfl, _, rfl, q, 2, b0, b1, b2, rfl, z.get (i := 2) rfl, by decide, by decide, fun c b0 b1 b2 hc => ?_⟩
            have z1 : Loc T Hc [(D, .lst (rowV j g)), (F, .lst ts), (q, bx b0 b1 b2)] _ := z.set (i := 2) (u := bx b0 b1 b2) rfl pl_lst
            refine ⟨rfl, _, rfl, ite2 (fun hc0 => ?_) fun hc0 => ?_⟩
            · refine ⟨_, rfl, _, z1.get (i := 0) rfl, lt_line (by rw [rowV, List.length_map, List.length_range]; omega), fup g j j, b0, b1, b2, ?_, fup_lt hg hj⟩
              have e : (0 : Int) + ((j : Nat) : Int) = (j : Nat) := by omega
              dsimp only
              rw [rowV_snoc, e]
              exact z1.set (i := 0) rfl pl_lst
            · refine ⟨_, rfl, _, rfl, q, m, b0, b1, b2, rfl, z1.get (i := 2) rfl, by omega, by omega, fun c b0 b1 b2 hc => ?_⟩
              have z1 := z1.set (i := 2) (u := bx b0 b1 b2) rfl pl_lst
              refine ⟨_, z1.get (i := 0) rfl, lt_line (by rw [rowV, List.length_map, List.length_range]; omega), fup g j c, b0, b1, b2, ?_, fup_lt hg hc⟩
              rw [rowV_snoc]
              exact z1.set (i := 0) rfl pl_lst
          · obtain ⟨g, b0, b1, b2, z, hg⟩ := z
            exact ⟨F, _, _, rfl, rfl, z.get (i := 1) rfl, tsl, push H5 D g _ _ _ b0 b1 b2 z hg⟩
        · refine ⟨_, rfl, _, rfl, q, m, b0, b1, b2, rfl, L4.get (i := 1) rfl, by omega, by omega, fun sh b0 b1 b2 hsh => ?_⟩
          have L5 : Loc T Hc [(F, .lst ts), (q, bx b0 b1 b2)] _ := L4.set (i := 1) (u := bx b0 b1 b2) rfl pl_lst
          generalize upd H4 q (bx b0 b1 b2) = H5 at L5
          refine ⟨_, rfl, .inl ⟨rfl, _, SqL.of (L5.get (i := 0) rfl)⟩, _, rfl, _, rfl, bm, bm2, fun D hD => ?_⟩
          rw [em2]
          refine lc_it (walk_range (lo := 0) (n := m)) (fun j H' => ∃ g, Loc T Hc [(D, .lst (rowV j g)), (F, .lst ts), (q, bx b0 b1 b2)] H' ∧ ∀ x, x < j → g x < m) ⟨fun _ => 0, L5.new hD pl_lst, fun x h => absurd h (Nat.not_lt_zero _)⟩ (fun _ _ _ _ => trivial) (fun j u H5 H6 hj z y => ?_) fun H5 z => ?_
          · obtain ⟨g, z, hg⟩ := z
            obtain ⟨rfl, rfl⟩ := y
            obtain ⟨c, ec, hc⟩ := emod_nat (i := (0 : Int) + (j : Nat) + (sh : Nat)) (n := m) m1
            refine ⟨rfl, _, rfl, _, rfl, _, _, rfl, rfl, .inl ⟨_, rfl, _, rfl, _, _, rfl, rfl, (by show (0 : Int) < (m : Nat); omega), _, z.get (i := 0) rfl, lt_line (by rw [rowV, List.length_map, List.length_range]; omega), fup g j c, ?_, fup_lt hg hc⟩⟩
            dsimp only
            rw [rowV_snoc, ec]
            exact z.set (i := 0) rfl pl_lst
          · obtain ⟨g, z, hg⟩ := z
            exact ⟨F, _, _, rfl, rfl, z.get (i := 1) rfl, tsl, push H5 D g _ _ _ b0 b1 b2 z hg⟩
    · obtain ⟨Hc, ts, fs, x5, x6, x7, b0, b1, b2, rfl, gc, Lc, tl, hts⟩ := z
      obtain ⟨Hd, gd, Ld, keep⟩ := Lc.rebase (M := [(q, bx b0 b1 b2)]) (List.sublist_cons_self _ _)
      have kF : Hd F = some (.lst ts) := keep _ _ (Lc.get (i := 0) rfl) fun h => by
        have nd := Lc.nd
        simp at nd h
        exact nd h
      have lt : ∀ a x, (if fs a x < m then fs a x else 0) < m := fun a x => by
        split
        · assumption
        · omega
      refine ⟨_, rfl, k Hd H' F ⟨m, sn, fun a x => if fs a x < m then fs a x else 0, m1, m5, s1, s5, lt⟩ b0 b1 b2 (gc.trans gd) Ld ⟨ts, kF, tl, fun i v e => ?_⟩ rfl⟩
      obtain ⟨a, e1, e2, e3⟩ := hts i v e
      refine ⟨a, e1, ?_⟩
      have eR : rowV m (fun x => if fs i x < m then fs i x else 0) = rowV m (fs i) := List.map_congr_left fun x hx => by
        show V.int ((if fs i x < m then fs i x else 0 : Nat) : Int) = _
        rw [if_pos (e3 x (List.mem_range.mp hx))]
      show Hd a = some (.lst (rowV m (fun x => if fs i x < m then fs i x else 0)))
      rw [eR]
      exact gd.lst e2
end
end Bk
end
section
/-! _law_nodes, _law_next, _law_lots. -/
namespace Bk
open PySem L2 LamX PySem.Spec PyProof.Rows
abbrev sNodes : Stmt := top 42
abbrev sLNext : Stmt := top 43
abbrev sLots : Stmt := top 45
abbrev nNodes : List Str := ["_law_tables_here", "_law_kind", "_law_many", "_law_found", "_law_i", "_law_j"]
abbrev nLNext : List Str := ["_law_tables_here", "_law_kind", "_law_node", "_law_at", "_law_one", "_law_other"]
abbrev nLots : List Str := ["_law_signals", "_law_found", "_law_signal", "_law_lot"]
theorem TbsL.gr {T : List (Addr × Str)} {H H' : Hp} {a : Addr} {d : Dv} (h : TbsL H a d) (g : Gr T H H') : TbsL H' a d := by
  obtain ⟨ts, h1, h2, h3⟩ := h
  refine ⟨ts, g.lst h1, h2, fun i v e => ?_⟩
  obtain ⟨q, e1, e2⟩ := h3 i v e
  exact ⟨q, e1, g.lst e2⟩
/-- all selections of signals but none, as the law lists them -/
def lotsA : List Nat → List (List Nat)
  | l => l.foldl (fun acc c => acc ++ acc.map fun x => x ++ [c]) [[]]
section
variable {P : Program} {w : World} {K : PySem.W.Frag} {mg : Str → Option Value} {base : Heap} {T : List (Addr × Str)}
def spNodes (T : List (Addr × Str)) : Sp := fun vs H Q _ => ∃ (κ : Kd) (d : Dv) (c : Addr), vs = [.ref c, .str (kdT κ)] ∧ TbsL H c d ∧ ∀ (q : Addr) (H' : Hp) (nv : List V), H q = none → H' q = some (.lst nv) → Gr T H H' → NVs κ H' nv (nds κ d) → Q (.ref q) H'
theorem scNodes : FnScope nNodes ["_law_tables_here", "_law_kind"] (defScope sNodes) := ⟨rfl, rfl, rfl, by decide +kernel, rfl, by decide +kernel, by decide +kernel⟩
theorem ok_nodes {f : Addr} {fd : FuncData} (F : Fun K "_law_nodes" "_law_nodes" sNodes f fd) (B : Bt mg) : FnOk P w K mg base CX0 1 f fd ["_law_tables_here", "_law_kind"] (spNodes T) := by
  refine F.ok scNodes (fun vs H Q E h => ?_) (fun cdv A outer s H vs Q E hr h => ?_)
  · obtain ⟨κ, d, c, rfl, _⟩ := h
    rfl
  · obtain ⟨κ, d, c, rfl, ⟨ts, ht1, ht2, ht3⟩, k⟩ := h
    have m1 := d.m1
    have m5 := d.m5
    have s1 := d.s1
    refine ⟨_, (pss_cons (ps_set (i := 2) scNodes.nd rfl (Or.inl rfl) (pe_callB call_len_seq (by rfl) B.len (by decide +kernel) (pa_cons (pe_ix ix_list (pv 0) pe_int (fun _ _ => rfl)) pa_nil)))
      (pss_cons (ps_set (i := 3) scNodes.nd rfl (Or.inl rfl) (pe_ifExp (pt_cmpR op_eq (pv 1) pe_str (nomark _)) (pe_listRg rfl (by rfl) B.list (prg_1 (by rfl) B.range (pv 2))) (pe_lst pa_nil)))
      (pss_cons (ps_for PassesOwn.never rfl (pi_range1 (by rfl) B.range (pa_cons (pe_ifExp (pt_cmpR op_eq (pv 1) pe_str (nomark _)) (pv 2) pe_int) pa_nil)) (pg_name (i := 4) scNodes.nd rfl (Or.inr rfl)) (pss_one (ps_set (i := 3) scNodes.nd rfl (Or.inl rfl) (pe_op op_cat (pv 3) (pe_lc (own := [("_law_j", 5)]) (g := (gName 5)) (tt := tYes) rfl scNodes.nd (pi_range2 (by rfl) B.range (pa_cons (pe_op op_add (pv 4) pe_int) (pa_cons (pv 2) pa_nil))) (blkOk_by (N := nNodes) (sc := (defScope sNodes)) (by decide +kernel)) (fun _ _ _ _ _ => by exact (pg_name (i := 5) scNodes.nd rfl (Or.inl rfl))) (fun _ _ _ _ _ => pts_nil) (fun _ _ _ _ _ => by exact (pe_tup (pa_cons (pv 4) (pa_cons (pv 5) pa_nil)))))))))
      (pss_one (ps_ret (pv 3)))))), ?_⟩
    have l0 : 0 < ts.length := by omega
    obtain ⟨q0, e0, hq0⟩ := ht3 0 _ (List.getElem?_eq_getElem l0)
    have rl : (rowV d.m (d.f 0)).length = d.m := by rw [rowV, List.length_map, List.length_range]
    refine ⟨_, rfl, c, ts, _, _, rfl, rfl, SqL.of ht1, atI_nat (j := 0) (List.getElem?_eq_getElem l0), ?_⟩
    rw [e0]
    refine ⟨q0, _, rfl, .inl (SqL.of hq0), ?_⟩
    rw [rl]
    cases κ with
    | st =>
      refine ⟨_, rfl, rfl, _, rfl, iteT ⟨_, rfl, _, rfl, RgOk.of_le (by omega) (by omega) (by omega) (by omega), fun F hF => ?_⟩⟩
      refine ⟨_, rfl, rfl, _, rfl, iteF ⟨_, rfl, by omega, by omega, ?_⟩⟩
      refine for_it (walk_range (lo := 0) (n := 0)) (fun i σ H' => ∃ x4, σ = [some (.ref c), some (.str (kdT .st)), some (.int (d.m : Nat)), some (.ref F), x4, none] ∧ H' = upd H F (.lst (rgV 0 (d.m : Nat)))) ⟨none, rfl, rfl⟩ (fun _ _ _ _ _ => trivial) (fun i v σ H' H3 hi z y => absurd hi (Nat.not_lt_zero _)) fun σ H' z => ?_
      obtain ⟨x4, rfl, rfl⟩ := z
      refine ⟨_, rfl, k F _ _ hF upd_same (.new hF) ?_⟩
      unfold rgV
      show NVs .st _ _ ((List.range d.m).map fun i => (i, i))
      have e : ((d.m : Nat) : Int).toNat = d.m := by omega
      rw [Int.sub_zero, e]
      exact Ech.map2 fun x _ => ⟨by rw [Int.zero_add], rfl⟩
    | pr =>
      refine ⟨_, rfl, rfl, _, rfl, iteF ⟨Nat.zero_le _, fun F hF => ?_⟩⟩
      refine ⟨_, rfl, rfl, _, rfl, iteT ⟨_, rfl, _, rfl, by omega, by omega, ?_⟩⟩
      have em : ((d.m : Nat) : Int).toNat = d.m := by omega
      rw [em]
      refine for_it (walk_range (lo := 0) (n := d.m)) (fun i σ H' => ∃ (F : Addr) (nv : List V) (x4 : Option V), σ = [some (.ref c), some (.str (kdT .pr)), some (.int (d.m : Nat)), some (.ref F), x4, none] ∧ H F = none ∧ H' F = some (.lst nv) ∧ Gr T H H' ∧ NVs .pr H' nv ((List.range i).flatMap fun i => (List.range (d.m - (i + 1))).map fun j => (i, i + 1 + j)) ∧ nv.length ≤ 5 * i)
        ⟨F, [], none, rfl, hF, upd_same, .new hF, .nil, Nat.zero_le _⟩ (fun _ _ _ _ _ => trivial) (fun i v σ H3 H' hi z y => ?_) fun σ H' z => ?_
      · obtain ⟨F, nv, x4, rfl, hF, hFn, g, hnv, hl⟩ := z
        obtain ⟨rfl, rfl⟩ := y
        refine ⟨_, rfl, _, rfl, _, _, rfl, rfl, _, rfl, _, _, rfl, ⟨by omega, by omega, by omega, by omega⟩, fun D hD => ?_⟩
        have e1 : ((d.m : Int) - (0 + (i : Int) + 1)).toNat = d.m - (i + 1) := by omega
        rw [e1]
        refine lc_it (walk_range (lo := 0 + (i : Int) + 1) (n := d.m - (i + 1))) (fun j H2 => ∃ pv, Loc T H' [(D, .lst pv)] H2 ∧ NVs .pr H2 pv ((List.range j).map fun j => (i, i + 1 + j)) ∧ pv.length ≤ j) ⟨[], Loc.start.new hD pl_lst, .nil, Nat.zero_le _⟩ (fun _ _ _ _ => trivial) (fun j u H4 H5 hj z y => ?_) fun H4 z => ?_
        · obtain ⟨pv, q, hpv, hpl⟩ := z
          obtain ⟨rfl, rfl⟩ := y
          refine ⟨rfl, _, rfl, _, rfl, by show 2 ≤ sizeLine; decide, fun t ht => ?_⟩
          have q1 := q.mono (Gr.new (o := .tup [.int (0 + (i : Int)), .int (0 + (i : Int) + 1 + (j : Int))]) ht)
          have t1 : TupK H5 (upd H5 t (.tup [.int (0 + (i : Int)), .int (0 + (i : Int) + 1 + (j : Int))])) := TupK.new ht
          have n1 : NV .pr (upd H5 t (.tup [.int (0 + (i : Int)), .int (0 + (i : Int) + 1 + (j : Int))])) (.ref t) (i, i + 1 + j) := by
            refine ⟨t, rfl, ?_⟩
            rw [upd_same]
            have a1 : (0 : Int) + (i : Int) = ((i : Nat) : Int) := by omega
            have a2 : (0 : Int) + (i : Int) + 1 + (j : Int) = ((i + 1 + j : Nat) : Int) := by omega
            rw [a2, a1]
          refine ⟨pv, q1.get (i := 0) rfl, lt_line (by omega), pv ++ [V.ref t], q1.set (i := 0) rfl (pl_lst (xs := pv ++ [V.ref t])), ?_, by rw [List.length_append]; show _ + 1 ≤ _; omega⟩
          have t2 := q1.tk (i := 0) (u := .lst (pv ++ [V.ref t])) rfl lst_ne_tup
          rw [List.range_succ, List.map_append]
          exact Ech.app (NVs.tk hpv (t1.trans t2)) (.one (n1.tk t2))
        · obtain ⟨pv, q, hpv, hpl⟩ := z
          refine ⟨F, D, _, _, rfl, rfl, q.g.lst hFn, q.get (i := 0) rfl, Nat.le_of_lt (lt_line (by omega)), fun F2 hF2 => ?_⟩
          have g2 := g.trans (q.g.trans (.new (o := .lst (nv ++ pv)) hF2))
          refine ⟨F2, nv ++ pv, _, rfl, (g.trans q.g).dom _ hF2, upd_same, g2, ?_, ?_⟩
          · rw [List.range_succ, List.flatMap_append]
            refine Ech.app (NVs.gr hnv (q.g.trans (.new hF2))) ?_
            have := NVs.gr hpv (T := T) (.new (o := .lst (nv ++ pv)) hF2)
            simpa using this
          · rw [List.length_append]
            omega
      · obtain ⟨F, nv, x4, rfl, hF, hFn, g, hnv, hl⟩ := z
        exact ⟨_, rfl, k F _ nv hF hFn g hnv⟩
def spLNext (T : List (Addr × Str)) : Sp := fun vs H Q _ => ∃ (κ : Kd) (d : Dv) (c : Addr) (v : V) (n : Nd) (a : Nat), vs = [.ref c, .str (kdT κ), v, .int (a : Nat)] ∧ TbsL H c d ∧ NV κ H v n ∧ InN κ d n ∧ a < d.s ∧ ∀ u H', NVo κ H' u (nx κ d a n) → Gr T H H' → Q u H'
theorem scLNext : FnScope nLNext ["_law_tables_here", "_law_kind", "_law_node", "_law_at"] (defScope sLNext) := ⟨rfl, rfl, rfl, by decide +kernel, rfl, by decide +kernel, by decide +kernel⟩
theorem ok_lnext {f : Addr} {fd : FuncData} (F : Fun K "_law_next" "_law_next" sLNext f fd) (B : Bt mg) : FnOk P w K mg base CX0 1 f fd ["_law_tables_here", "_law_kind", "_law_node", "_law_at"] (spLNext T) := by
  refine F.ok scLNext (fun vs H Q E h => ?_) (fun cdv A outer s H vs Q E hr h => ?_)
  · obtain ⟨κ, d, c, v, n, a, rfl, _⟩ := h
    rfl
  · obtain ⟨κ, d, c, v, n, a, rfl, ⟨ts, ht1, ht2, ht3⟩, hv, hi, ha, k⟩ := h
    refine ⟨_, (pss_cons (ps_if (pt_cmpR op_eq (pv 1) pe_str (nomark _)) (pss_one (ps_ret (pe_ix ix_list (pe_ix ix_list (pv 0) (pv 3) (fun _ _ => rfl)) (pv 2) (fun _ _ => rfl)))) pss_nil)
      (pss_cons (ps_par (i := 4) (j := 5) rfl scLNext.nd rfl rfl (by decide) rfl rfl (pa_cons (pe_ix ix_list (pe_ix ix_list (pv 0) (pv 3) (fun _ _ => rfl)) (pe_ix ix_seq (pv 2) pe_int (fun _ _ => rfl)) (fun _ _ => rfl)) (pa_cons (pe_ix ix_list (pe_ix ix_list (pv 0) (pv 3) (fun _ _ => rfl)) (pe_ix ix_seq (pv 2) pe_int (fun _ _ => rfl)) (fun _ _ => rfl)) pa_nil)) rfl)
      (pss_one (ps_ret (pe_ifExp (pt_cmpR op_eq (pv 4) (pv 5) (nomark _)) pe_non (pe_tup (pa_cons (pe_callB (call_min2 rfl) (by rfl) B.min (by decide +kernel) (pa_cons (pv 4) (pa_cons (pv 5) pa_nil))) (pa_cons (pe_callB (call_max2 rfl) (by rfl) B.max (by decide +kernel) (pa_cons (pv 4) (pa_cons (pv 5) pa_nil))) pa_nil)))))))), ?_⟩
    have l0 : a < ts.length := by omega
    obtain ⟨q0, e0, hq0⟩ := ht3 a _ (List.getElem?_eq_getElem l0)
    refine ⟨_, rfl, rfl, _, rfl, ?_⟩
    cases κ with
    | st =>
      obtain ⟨rfl, hn⟩ := hv
      refine iteT ⟨_, rfl, _, rfl, c, ts, _, _, rfl, rfl, SqL.of ht1, atI_nat (List.getElem?_eq_getElem l0), ?_⟩
      rw [e0]
      exact ⟨_, rfl, q0, _, _, _, rfl, rfl, SqL.of hq0, atI_nat (rg_at hi.2), k _ _ ⟨rfl, rfl⟩ .refl⟩
    | pr =>
      obtain ⟨b, rfl, hb⟩ := hv
      refine iteF ⟨_, rfl, _, rfl, c, ts, _, _, rfl, rfl, SqL.of ht1, atI_nat (List.getElem?_eq_getElem l0), ?_⟩
      rw [e0]
      have hi1 : n.1 < d.m := Nat.lt_trans hi.1 hi.2
      refine ⟨_, rfl, .inr (.inl ⟨b, _, _, _, rfl, rfl, SqT.of hb, atI_nat (j := 0) rfl, q0, _, _, _, rfl, rfl, SqL.of hq0, atI_nat (rg_at hi1), ?_⟩)⟩
      refine ⟨_, rfl, _, rfl, c, ts, _, _, rfl, rfl, SqL.of ht1, atI_nat (List.getElem?_eq_getElem l0), ?_⟩
      rw [e0]
      refine ⟨_, rfl, .inr (.inl ⟨b, _, _, _, rfl, rfl, SqT.of hb, atI_nat (j := 1) rfl, q0, _, _, _, rfl, rfl, SqL.of hq0, atI_nat (rg_at hi.2), _, _, rfl, ?_⟩)⟩
      have ek : nx .pr d a n = prOf (d.f a n.1) (d.f a n.2) := rfl
      rw [ek] at k
      generalize d.f a n.1 = x at k ⊢
      generalize d.f a n.2 = y at k ⊢
      refine ⟨_, rfl, _, rfl, rfl, _, rfl, ite2 (fun he => ?_) fun he => ?_⟩
      · have e : x = y := by
          have e : ((x : Nat) : Int) = (y : Nat) := by simpa using he
          omega
        refine k .non H ?_ .refl
        unfold prOf
        rw [if_pos e]
        rfl
      · have e : x ≠ y := by
          intro e
          exact he (decide_eq_true (by rw [e]))
        refine ⟨_, rfl, _, rfl, _, _, rfl, _, rfl, _, rfl, _, _, rfl, by show 2 ≤ sizeLine; decide, fun t ht => ?_⟩
        refine k _ _ ?_ (.new ht)
        unfold prOf
        rw [if_neg e]
        by_cases lt : x < y
        · rw [if_pos lt, if_neg (show ¬ ((y : Nat) : Int) < (x : Nat) by omega), if_pos (show ((y : Nat) : Int) > (x : Nat) by omega)]
          exact ⟨t, rfl, upd_same⟩
        · rw [if_neg lt, if_pos (show ((y : Nat) : Int) < (x : Nat) by omega), if_neg (show ¬ ((y : Nat) : Int) > (x : Nat) by omega)]
          exact ⟨t, rfl, upd_same⟩
def spLots (T : List (Addr × Str)) : Sp := fun vs H Q _ => ∃ (d : Dv), vs = [.str (tx (sgs d))] ∧ ∀ (q : Addr) (H' : Hp), H q = none → H' q = some (.lst (((lotsA (sgs d)).drop 1).map fun z => .str (tx z))) → Gr T H H' → Q (.ref q) H'
theorem scLots : FnScope nLots ["_law_signals"] (defScope sLots) := ⟨rfl, rfl, rfl, by decide +kernel, rfl, by decide +kernel, by decide +kernel⟩
theorem lotsA_snoc (l : List Nat) (c : Nat) : lotsA (l ++ [c]) = lotsA l ++ (lotsA l).map fun x => x ++ [c] := by
  unfold lotsA
  rw [List.foldl_append]
  rfl
theorem snoc_ind {C : List Nat → Prop} (h0 : C []) (hs : ∀ l c, C l → C (l ++ [c])) (l : List Nat) : C l := by
  have key : ∀ r : List Nat, C r.reverse := fun r => by
    induction r with
    | nil => exact h0
    | cons a r ih =>
      rw [List.reverse_cons]
      exact hs _ a ih
  have := key l.reverse
  rwa [List.reverse_reverse] at this
theorem lotsA_len : ∀ l : List Nat, (lotsA l).length = 2 ^ l.length := fun l => by
  refine snoc_ind (C := fun l => (lotsA l).length = 2 ^ l.length) rfl (fun l c ih => ?_) l
  · rw [lotsA_snoc, List.length_append, List.length_map, ih, List.length_append, List.length_singleton, Nat.pow_succ]
    omega
theorem lotsA_short : ∀ l : List Nat, ∀ z ∈ lotsA l, z.length ≤ l.length := fun l => by
  refine snoc_ind (C := fun l => ∀ z ∈ lotsA l, z.length ≤ l.length) ?_ (fun l c ih => ?_) l
  · intro z hz
    have : z = [] := by simpa [lotsA] using hz
    rw [this]
    exact Nat.le_refl _
  · intro z hz
    rw [lotsA_snoc] at hz
    rw [List.length_append]
    rcases List.mem_append.mp hz with h | h
    · exact Nat.le_trans (ih z h) (Nat.le_add_right _ _)
    · obtain ⟨y, hy, rfl⟩ := List.mem_map.mp h
      rw [List.length_append]
      have := ih y hy
      simp
      omega
theorem cut1 (xs : List V) (h : 0 < xs.length) : cutV xs (some 1) none = xs.drop 1 := by
  unfold cutV
  have e : HT.sIx xs.length 0 (some 1) = 1 := by
    have := HT.sIx_nat xs.length 0 1
    rw [show (1 : Int) = ((1 : Nat) : Int) from rfl, this]
    omega
  rw [e]
  show (xs.drop 1).take (xs.length - 1) = _
  exact List.take_of_length_le (by rw [List.length_drop]; omega)
theorem ok_lots {f : Addr} {fd : FuncData} (F : Fun K "_law_lots" "_law_lots" sLots f fd) : FnOk P w K mg base CX0 1 f fd ["_law_signals"] (spLots T) := by
  refine F.ok scLots (fun vs H Q E h => ?_) (fun cdv A outer s H vs Q E hr h => ?_)
  · obtain ⟨d, rfl, _⟩ := h
    rfl
  · obtain ⟨d, rfl, k⟩ := h
    have s5 := d.s5
    refine ⟨_, (pss_cons (ps_set (i := 1) scLots.nd rfl (Or.inl rfl) (pe_lst (pa_cons pe_str pa_nil)))
      (pss_cons (ps_for PassesOwn.never rfl (pi_str (pv 0)) (pg_name (i := 2) scLots.nd rfl (Or.inr rfl)) (pss_one (ps_set (i := 1) scLots.nd rfl (Or.inl rfl) (pe_op op_cat (pv 1) (pe_lc (own := [("_law_lot", 3)]) (g := (gName 3)) (tt := tYes) rfl scLots.nd (pi_list (pv 1)) (blkOk_by (N := nLots) (sc := (defScope sLots)) (by decide +kernel)) (fun _ _ _ _ _ => by exact (pg_name (i := 3) scLots.nd rfl (Or.inl rfl))) (fun _ _ _ _ _ => pts_nil) (fun _ _ _ _ _ => by exact (pe_op op_add_str (pv 3) (pv 2))))))))
      (pss_one (ps_ret (pe_slice sl_list (pv 1) (po_some pe_int) po_none))))), ?_⟩
    have pw : ∀ n, n ≤ 5 → 2 ^ n ≤ 32 := by decide
    refine ⟨by show 1 ≤ sizeLine; decide, fun F hF => ?_⟩
    refine ⟨_, rfl, tx (sgs d), rfl, ?_⟩
    refine for_it walk_strL (fun i σ H' => ∃ (F : Addr) (x2 : Option V), σ = [some (.str (tx (sgs d))), some (.ref F), x2, none] ∧ H F = none ∧ H' F = some (.lst ((lotsA ((sgs d).take i)).map fun z => .str (tx z))) ∧ Gr T H H') ⟨F, none, rfl, hF, upd_same, .new hF⟩ (fun _ _ _ _ _ => trivial) (fun i v σ H3 H' hi z y => ?_) fun σ H' z => ?_
    · obtain ⟨F, x2, rfl, hF, hF2, g⟩ := z
      obtain ⟨rfl, ev⟩ := y
      rw [List.getElem?_map] at ev
      obtain ⟨c, ec, rfl⟩ := Option.map_eq_some_iff.mp ev
      have hl := lotsA_len ((sgs d).take i)
      have hl2 : (lotsA ((sgs d).take i)).length ≤ 32 := by
        rw [hl]
        refine pw _ ?_
        have h2 : ((sgs d).take i).length ≤ (sgs d).length := by
          rw [List.length_take]
          omega
        rw [sgs_len] at h2
        omega
      refine ⟨_, rfl, _, rfl, F, rfl, ⟨_, SqL.of hF2⟩, fun D hD => ?_⟩
      have wk : Walk (Itl K F) (lotsA ((sgs d).take i)).length (fun H => SqL K H F ((lotsA ((sgs d).take i)).map fun z => V.str (tx z))) (YAt ((lotsA ((sgs d).take i)).map fun z => V.str (tx z))) := walk_listL
      refine lc_fm (T := T) (L := []) (F := fun z => some (V.str (tx (z ++ [c])))) wk .start hD (fun H2 g2 => g2.sqL (SqL.of hF2)) (fun j z H5 hz g5 fm => ?_) fun H5 g5 fm => ?_
      · refine ⟨rfl, _, rfl, _, rfl, _, _, rfl, rfl, ?_, ?_⟩
        · rw [tx_len]
          have h1 := lotsA_short _ z (List.mem_of_getElem? hz)
          have h2 : ((sgs d).take i).length ≤ (sgs d).length := by
            rw [List.length_take]
            omega
          rw [sgs_len] at h2
          show _ + 1 ≤ _
          exact Nat.le_of_lt (lt_line (by omega))
        · have e : tx z ++ sgn c = tx (z ++ [c]) := by rw [sgn_tx, tx_app]
          rw [e]
          exact fm_add hD g5 fm hz rfl (lt_line (by omega))
      · rw [fm_map] at fm
        refine ⟨F, D, _, _, rfl, rfl, g5.lst hF2, fm.get (i := 0) rfl, Nat.le_of_lt (lt_line (by rw [List.length_map, List.length_map]; omega)), fun F2 hF2' => ?_⟩
        refine ⟨F2, _, rfl, (g.trans g5).dom _ hF2', ?_, (g.trans g5).trans (.new hF2')⟩
        rw [upd_same, take_snoc ec, lotsA_snoc, List.map_append, List.map_map]
        rfl
    · obtain ⟨F, x2, rfl, hF, hF2, g⟩ := z
      rw [List.take_length] at hF2
      refine ⟨_, rfl, _, rfl, F, _, rfl, SqL.of hF2, fun q hq => ?_⟩
      refine k q _ (g.dom _ hq) ?_ (g.trans (.new hq))
      rw [upd_same]
      congr 2
      rw [List.map_drop]
      exact cut1 _ (by rw [List.length_map, lotsA_len]; exact Nat.two_pow_pos _)
end
end Bk
end
section
/-! _law_come, _law_round. -/
namespace Bk
open PySem L2 LamX PySem.Spec PyProof.Rows
abbrev sCome : Stmt := top 44
abbrev sRound : Stmt := top 46
abbrev nCome : List Str := ["_law_tables_here", "_law_kind", "_law_node", "_law_signals", "_law_met", "_law_at", "_law_signal", "_law_after_here"]
abbrev nRound : List Str := ["_law_tables_here", "_law_kind", "_law_node", "_law_signals", "_law_come_here", "_law_home", "_law_other", "_law_signal", "_law_one"]
def scR1 : Scope := match defBody sRound with
  | [_, .Return (some (.Call _ [.ListComp _ _ s _] _ _)) _] => s
  | _ => defScope sRound
theorem hu64 {k : Nat} {A : Around} (r : Room k A) : A.units + 64 < cLine := by have := r.un; omega
/-! lists of data beside the empty list -/
theorem depthAll_le {k : Nat} : ∀ {ds : List PyData}, (∀ d ∈ ds, d.depth ≤ k) → PyData.depthAll ds ≤ k
  | [], _ => Nat.zero_le _
  | d :: r, h => Nat.max_le.mpr ⟨h d List.mem_cons_self, depthAll_le fun x hx => h x (List.mem_cons_of_mem _ hx)⟩
theorem shapedL {ds : List PyData} (h : PyData.canLayAll0 ds = true) (hd : ∀ d ∈ ds, d.depth ≤ 10) : SeqAt.shaped (.list ds) = true := by
  unfold SeqAt.shaped
  have e : PyData.canLay0 (.list ds) = true := h
  have e2 : PyData.depth (.list ds) ≤ 64 := by
    show PyData.depthAll ds + 1 ≤ 64
    have := depthAll_le hd
    omega
  rw [e, decide_eq_true e2]
  rfl
theorem eqvNil : ∀ ds : List PyData, PyData.eqv (.list ds) (.list []) = ds.isEmpty
  | [] => rfl
  | d :: r => rfl
theorem neNil {K : PySem.W.Frag} {H : Hp} {a b : Addr} {vs : List V} {ds : List PyData} {Q : VK} (ha : SqL K H a vs) (hd : DpAll K H vs ds) (hc : PyData.canLayAll0 ds = true) (hp : ∀ d ∈ ds, d.depth ≤ 10) (hb : SqL K H b []) (q : Q (.bl (!ds.isEmpty)) H) : rNeD K (.ref a) (.ref b) H Q := by
  refine ⟨.list ds, .list [], .lst ha hd, .lst hb .nil, shapedL hc hp, rfl, ?_⟩
  rw [eqvNil]
  exact q
theorem eqNil {K : PySem.W.Frag} {H : Hp} {a b : Addr} {vs : List V} {ds : List PyData} {Q : VK} (ha : SqL K H a vs) (hd : DpAll K H vs ds) (hc : PyData.canLayAll0 ds = true) (hp : ∀ d ∈ ds, d.depth ≤ 10) (hb : SqL K H b []) (q : Q (.bl ds.isEmpty) H) : rEqD K (.ref a) (.ref b) H Q := by
  refine ⟨.list ds, .list [], .lst ha hd, .lst hb .nil, shapedL hc hp, rfl, ?_⟩
  rw [eqvNil]
  exact q
theorem ndD_depth {κ : Kd} {ns : List Nd} : ∀ d ∈ ns.map (ndD κ), d.depth ≤ 10 := fun d hd => by
  obtain ⟨n, _, rfl⟩ := List.mem_map.mp hd
  cases κ
  · exact Nat.zero_le _
  · show PyData.depthAll [.int (n.1 : Int), .int (n.2 : Int)] + 1 ≤ 10
    have : PyData.depthAll [.int (n.1 : Int), .int (n.2 : Int)] ≤ 0 := depthAll_le fun d hd => by
      simp at hd
      rcases hd with rfl | rfl <;> exact Nat.le_refl _
    omega
section
variable {P : Program} {w : World} {K : PySem.W.Frag} {mg : Str → Option Value} {base : Heap} {T : List (Addr × Str)}
def spCome (T : List (Addr × Str)) : Sp := fun vs H Q _ => ∃ (κ : Kd) (d : Dv) (c : Addr) (v : V) (n : Nd), vs = [.ref c, .str (kdT κ), v, .str (tx (sgs d))] ∧ TbsL H c d ∧ NV κ H v n ∧ InN κ d n ∧
  ∀ (q : Addr) (H' : Hp) (cv : List V) (cs : List Nd), H q = none → H' q = some (.lst cv) → Gr T H H' → NVs κ H' cv cs → (∀ m, m ∈ cs ↔ Reach (stp κ d) n m) → cs.length ≤ 10 → Q (.ref q) H'
theorem scCome : FnScope nCome ["_law_tables_here", "_law_kind", "_law_node", "_law_signals"] (defScope sCome) := ⟨rfl, rfl, rfl, by decide +kernel, rfl, by decide +kernel, by decide +kernel⟩
theorem ok_come {f : Addr} {fd : FuncData} (F : Fun K "_law_come" "_law_come" sCome f fd) (B : Bt mg) (G : CalF P w K mg base CX0 1 "_law_next" ["_law_tables_here", "_law_kind", "_law_node", "_law_at"] (spLNext T)) : FnOk P w K mg base CX0 2 f fd ["_law_tables_here", "_law_kind", "_law_node", "_law_signals"] (spCome T) := by
  refine F.ok scCome (fun vs H Q E h => ?_) (fun cdv A outer s H vs Q E hr h => ?_)
  · obtain ⟨κ, d, c, v, n, rfl, _⟩ := h
    rfl
  · obtain ⟨κ, d, c, v, n, rfl, hT, hv, hi, k⟩ := h
    have s5 := d.s5
    refine ⟨_, (pss_cons (ps_set (i := 4) scCome.nd rfl (Or.inl rfl) (pe_lst (pa_cons (pv 2) pa_nil)))
      (pss_cons (ps_for PassesOwn.never rfl (pi_range1 (by rfl) B.range (pa_cons pe_int pa_nil)) (pg_name (i := 5) scCome.nd rfl (Or.inl rfl)) (pss_cons (ps_if (pt_cmpR op_eq (pv 5) (pe_callB call_len_seq (by rfl) B.len (by decide +kernel) (pa_cons (pv 4) pa_nil)) (nomark _)) (pss_one ps_break) pss_nil)
      (pss_one (ps_for PassesOwn.never rfl (pi_str (pv 3)) (pg_name (i := 6) scCome.nd rfl (Or.inl rfl)) (pss_cons (ps_set (i := 7) scCome.nd rfl (Or.inl rfl) (pe_cal G hr (pa_cons (pv 0) (pa_cons (pv 1) (pa_cons (pe_ix ix_list (pv 4) (pv 5) (fun _ _ => rfl)) (pa_cons (pe_bm PySem.F.plainAttrs_str PySem.F.slot_str_index PySem.F.type_str_index mt_sindex pe_str (pa_cons (pv 6) pa_nil)) pa_nil)))) pass0))
      (pss_one (ps_if (PW.pt (pw_and (pt_cmpR op_notN (pv 7) pe_non (nomark _)) (pw_and1 (pt_cmpR (op_notInX (hu65 hr)) (pv 7) (pv 4) rfl)))) (pss_one (ps_expr (pe_bm PySem.F.plainAttrs_list PySem.F.slot_list_append PySem.F.type_list_append mt_append (pv 4) (pa_cons (pv 7) pa_nil)))) pss_nil)))))))
      (pss_one (ps_ret (pv 4))))), ?_⟩
    refine ⟨_, rfl, by show 1 ≤ sizeLine; decide, fun M hM => ?_⟩
    have L1 : Loc T H [(M, .lst [v])] (upd H M (.lst [v])) := Loc.start.new hM pl_lst
    have hv1 := hv.gr L1.g
    generalize upd H M (.lst [v]) = H1 at L1 hv1
    refine ⟨2000, rfl, by decide, by decide, ?_⟩
    -- what holds of the nodes met
    have len10 : ∀ cs : List Nd, cs.Nodup → (∀ m ∈ cs, InN κ d m) → cs.length ≤ 10 := fun cs h1 h2 => Nat.le_trans (nd_le h1 fun m hm => mem_nds.mpr (h2 m hm)) nds_len
    refine for_it (walk_range (lo := 0) (n := 2000)) (fun i σ H' => ∃ (cv : List V) (cs : List Nd) (x5 x6 x7 : Option V), σ = [some (.ref c), some (.str (kdT κ)), some v, some (.str (tx (sgs d))), some (.ref M), x5, x6, x7] ∧ Loc T H [(M, .lst cv)] H' ∧ NVs κ H' cv cs ∧ cs.Nodup ∧ (∀ m ∈ cs, InN κ d m) ∧ n ∈ cs ∧ (∀ m ∈ cs, Reach (stp κ d) n m) ∧
      i ≤ cs.length ∧ ∀ (i' : Nat) (m : Nd), i' < i → cs[i']? = some m → ∀ y ∈ stp κ d m, y ∈ cs) ?_ (fun _ _ _ _ _ => trivial) (fun i u σ H3 H' hi z y => ?_) fun σ H' z => ?_
    · exact ⟨[v], [n], none, none, none, rfl, L1, .one hv1, by simp, fun m hm => by rw [List.mem_singleton.mp hm]; exact hi, by simp, fun m hm => by rw [List.mem_singleton.mp hm]; exact .refl n, Nat.zero_le _, fun i' m h => absurd h (Nat.not_lt_zero _)⟩
    · obtain ⟨cv, cs, x5, x6, x7, rfl, L, hcv, cnd, cin, cn, crc, ile, cdn⟩ := z
      obtain ⟨rfl, rfl⟩ := y
      have ei : (0 : Int) + ((i : Nat) : Int) = (i : Nat) := by omega
      dsimp only
      rw [ei]
      refine ⟨_, rfl, _, rfl, M, cv, rfl, .inl (SqL.of (L.get (i := 0) rfl)), rfl, _, rfl, ite2 (fun he => ?_) fun he => ?_⟩
      · have e : i = cv.length := by
          have e : ((i : Nat) : Int) = (cv.length : Nat) := by simpa using he
          omega
        refine ⟨_, rfl, k M H' cv cs hM (L.get (i := 0) rfl) L.g hcv (fun m => ⟨crc m, fun h => ?_⟩) (len10 cs cnd cin)⟩
        have cl : ∀ m ∈ cs, ∀ y ∈ stp κ d m, y ∈ cs := fun m hm => by
          obtain ⟨i', e'⟩ := List.mem_iff_getElem?.mp hm
          refine cdn i' m ?_ e'
          have := (List.getElem?_eq_some_iff.mp e').1
          rw [e, hcv.1]
          exact this
        have go : ∀ {a b : Nd}, Reach (stp κ d) a b → a ∈ cs → b ∈ cs := fun {a b} hab => by
          induction hab with
          | refl a => exact fun z => z
          | @step a x b hx _ ih => exact fun ha => ih (cl a ha x hx)
        exact go h cn
      · have lt : i < cv.length := by
          have h1 := hcv.1
          have h2 : i ≠ cv.length := fun e => he (by rw [e]; simp)
          omega
        obtain ⟨x, ex, hx⟩ := hcv.2 i _ (List.getElem?_eq_getElem lt)
        have hxI := cin x (List.mem_of_getElem? ex)
        refine ⟨_, rfl, tx (sgs d), rfl, ?_⟩
        refine for_it walk_strL (fun j σ H2 => ∃ (cv : List V) (cs : List Nd) (x6 x7 : Option V), σ = [some (.ref c), some (.str (kdT κ)), some v, some (.str (tx (sgs d))), some (.ref M), some (.int (i : Nat)), x6, x7] ∧ Loc T H [(M, .lst cv)] H2 ∧ NVs κ H2 cv cs ∧ cs.Nodup ∧ (∀ m ∈ cs, InN κ d m) ∧ n ∈ cs ∧ (∀ m ∈ cs, Reach (stp κ d) n m) ∧
          cs[i]? = some x ∧ (∀ (i' : Nat) (m : Nd), i' < i → cs[i']? = some m → ∀ y ∈ stp κ d m, y ∈ cs) ∧ ∀ a, a < j → ∀ y, nx κ d a x = some y → y ∈ cs) ⟨cv, cs, x6, x7, rfl, L, hcv, cnd, cin, cn, crc, ex, cdn, fun a h => absurd h (Nat.not_lt_zero _)⟩ (fun _ _ _ _ _ => trivial) (fun j u σ H4 H5 hj z y => ?_) fun σ H5 z => ?_
        · obtain ⟨cv, cs, x6, x7, rfl, L, hcv, cnd, cin, cn, crc, ex, cdn, cdj⟩ := z
          obtain ⟨rfl, eu⟩ := y
          rw [sgs_len] at hj
          have ea : (sgs d)[j]? = some (sc j) := by
            unfold sgs
            rw [List.getElem?_map, List.getElem?_range hj]
            rfl
          rw [List.getElem?_map, ea] at eu
          cases eu
          obtain ⟨vx, evx, hvx⟩ := hcv.at_ ex
          refine ⟨_, rfl, _, rfl, _, rfl, _, rfl, M, cv, _, _, rfl, rfl, SqL.of (L.get (i := 0) rfl), atI_nat evx, rfl, _, rfl, _, _, j, [], rfl, rfl, sig_idx ⟨j, by omega⟩, κ, d, c, vx, x, j, rfl, hT.gr L.g, hvx, hxI, hj, fun u H6 hu g6 => ?_⟩
          have L6 := L.mono g6
          have hcv6 := NVs.gr hcv g6
          cases ho : nx κ d j x with
          | none =>
            rw [ho] at hu
            obtain rfl : u = .non := hu
            refine ⟨_, rfl, rfl, _, rfl, iteF ⟨cv, cs, _, _, rfl, L6, hcv6, cnd, cin, cn, crc, ex, cdn, fun a ha y hy => ?_⟩⟩
            by_cases e : a = j
            · subst e
              rw [ho] at hy
              cases hy
            · exact cdj a (by omega) y hy
          | some y =>
            rw [ho] at hu
            have hu : NV κ H6 u y := hu
            have hyI := nx_in ho
            have hys : y ∈ stp κ d x := List.mem_filterMap.mpr ⟨j, List.mem_range.mpr hj, ho⟩
            refine ⟨_, rfl, rfl, _, rfl, ?_⟩
            rw [decide_eq_false hu.ne_non]
            refine iteT ⟨_, rfl, _, rfl, inNd (κ := κ) (o := some y) (neg := true) hu (.inl (SqL.of (L6.get (i := 0) rfl))) hcv6 ⟨_, rfl, ?_⟩⟩
            by_cases hm : y ∈ cs
            · have e : oIn (some y) cs = true := decide_eq_true hm
              rw [e]
              refine iteF ⟨cv, cs, _, _, rfl, L6, hcv6, cnd, cin, cn, crc, ex, cdn, fun a ha y' hy' => ?_⟩
              by_cases e : a = j
              · subst e
                rw [ho] at hy'
                cases hy'
                exact hm
              · exact cdj a (by omega) y' hy'
            · have e : oIn (some y) cs = false := decide_eq_false hm
              rw [e]
              have cl := len10 cs cnd cin
              refine iteT ⟨_, rfl, .inl ⟨rfl, _, SqL.of (L6.get (i := 0) rfl)⟩, _, rfl, M, _, _, rfl, rfl, L6.get (i := 0) rfl, lt_line (by have := hcv6.1; omega), ?_⟩
              have t2 := L6.tk (i := 0) (u := .lst (cv ++ [u])) rfl lst_ne_tup
              refine ⟨cv ++ [u], cs ++ [y], _, _, rfl, L6.set (i := 0) rfl pl_lst, Ech.app (NVs.tk hcv6 t2) (.one (hu.tk t2)), ?_, fun m h => ?_, List.mem_append_left _ cn, fun m h => ?_, ?_, fun i' m h1 h2 y' hy' => ?_, fun a ha y' hy' => ?_⟩
              · refine List.nodup_append.mpr ⟨cnd, by simp, fun a ha b hb e => ?_⟩
                rw [List.mem_singleton.mp hb] at e
                exact hm (e ▸ ha)
              · rcases List.mem_append.mp h with h | h
                · exact cin m h
                · rw [List.mem_singleton.mp h]
                  exact hyI
              · rcases List.mem_append.mp h with h | h
                · exact crc m h
                · rw [List.mem_singleton.mp h]
                  exact (crc x (List.mem_of_getElem? ex)).snoc hys
              · rw [List.getElem?_append_left (List.getElem?_eq_some_iff.mp ex).1]
                exact ex
              · have il := (List.getElem?_eq_some_iff.mp ex).1
                rw [List.getElem?_append_left (by omega)] at h2
                exact List.mem_append_left _ (cdn i' m h1 h2 y' hy')
              · by_cases e : a = j
                · subst e
                  rw [ho] at hy'
                  cases hy'
                  simp
                · exact List.mem_append_left _ (cdj a (by omega) y' hy')
        · obtain ⟨cv, cs, x6, x7, rfl, L, hcv, cnd, cin, cn, crc, ex, cdn, cdj⟩ := z
          rw [sgs_len] at cdj
          refine ⟨cv, cs, _, _, _, rfl, L, hcv, cnd, cin, cn, crc, ?_, fun i' m h1 h2 y hy => ?_⟩
          · have := (List.getElem?_eq_some_iff.mp ex).1
            omega
          · by_cases e : i' = i
            · subst e
              rw [ex] at h2
              cases h2
              obtain ⟨a, ha, e⟩ := List.mem_filterMap.mp hy
              exact cdj a (List.mem_range.mp ha) y e
            · exact cdn i' m (by omega) h2 y hy
    · obtain ⟨cv, cs, x5, x6, x7, rfl, L, hcv, cnd, cin, cn, crc, ile, cdn⟩ := z
      have := len10 cs cnd cin
      exact absurd ile (by omega)
end
end Bk
end
section
/-! _law_round. -/
namespace Bk
open PySem L2 LamX PySem.Spec PyProof.Rows
theorem any_filter {α β : Type} (p : α → Bool) (f : α → β) : ∀ l : List α, (!((l.filter p).map f).isEmpty) = l.any p
  | [] => rfl
  | a :: r => by
    rw [List.filter_cons, List.any_cons]
    cases h : p a with
    | true => rfl
    | false =>
      have := any_filter p f r
      simpa using this
section
variable {P : Program} {w : World} {K : PySem.W.Frag} {mg : Str → Option Value} {base : Heap} {T : List (Addr × Str)}
/-- the nodes that each node comes to, by a dict -/
def ComeD (κ : Kd) (H : Hp) (cm : Addr) (d : Dv) : Prop := ∃ (f : Nd → V) (ks : List Nd), H cm = some (FD κ ks f) ∧ (∀ m, m ∈ ks ↔ m ∈ nds κ d) ∧ ∀ m ∈ ks, ∃ (l : Addr) (cv : List V) (cs : List Nd), f m = .ref l ∧ H l = some (.lst cv) ∧ NVs κ H cv cs ∧ (∀ y, y ∈ cs ↔ Reach (stp κ d) m y) ∧ cs.length ≤ 10
theorem ComeD.gr {κ : Kd} {H H' : Hp} {cm : Addr} {d : Dv} (h : ComeD κ H cm d) (g : Gr T H H') : ComeD κ H' cm d := by
  obtain ⟨f, ks, h1, h2, h3⟩ := h
  refine ⟨f, ks, g.ext _ _ h1 pl_FD.1, h2, fun m hm => ?_⟩
  obtain ⟨l, cv, cs, e1, e2, e3, e4, e5⟩ := h3 m hm
  exact ⟨l, cv, cs, e1, g.lst e2, NVs.gr e3 g, e4, e5⟩
theorem ComeD.get {κ : Kd} {H : Hp} {cm : Addr} {d : Dv} (h : ComeD κ H cm d) {v : V} {n : Nd} (hv : NV κ H v n) (hi : InN κ d n) : ∃ (l : Addr) (cv : List V) (cs : List Nd), DGet H cm v (some (.ref l)) ∧ H l = some (.lst cv) ∧ NVs κ H cv cs ∧ (∀ y, y ∈ cs ↔ Reach (stp κ d) n y) ∧ cs.length ≤ 10 := by
  obtain ⟨f, ks, h1, h2, h3⟩ := h
  have hk := (h2 n).mpr (mem_nds.mpr hi)
  obtain ⟨l, cv, cs, e1, e2, e3, e4, e5⟩ := h3 n hk
  refine ⟨l, cv, cs, ?_, e2, e3, e4, e5⟩
  rw [← e1]
  exact fd_has (.inl h1) (fun m hm => (mem_nds.mp ((h2 m).mp hm)).ok) hv hk
theorem reach_InN {κ : Kd} {d : Dv} {a b : Nd} (h : Reach (stp κ d) a b) (ha : InN κ d a) : InN κ d b := by
  induction h with
  | refl a => exact ha
  | @step a x b hx _ ih => exact ih (stp_in hx)
def spRound (T : List (Addr × Str)) : Sp := fun vs H Q _ => ∃ (κ : Kd) (d : Dv) (c cm : Addr) (v : V) (n : Nd), vs = [.ref c, .str (kdT κ), v, .str (tx (sgs d)), .ref cm] ∧ TbsL H c d ∧ NV κ H v n ∧ InN κ d n ∧ ComeD κ H cm d ∧
  ∀ H' hs, Gr T H H' → (∀ m, m ∈ hs ↔ Reach (stp κ d) n m ∧ Reach (stp κ d) m n) → Q (.str (tx (heldL κ d hs))) H'
theorem scRound : FnScope nRound ["_law_tables_here", "_law_kind", "_law_node", "_law_signals", "_law_come_here"] (defScope sRound) := ⟨rfl, rfl, rfl, by decide +kernel, rfl, by decide +kernel, by decide +kernel⟩
theorem ok_round {f : Addr} {fd : FuncData} (F : Fun K "_law_round" "_law_round" sRound f fd) (G : CalF P w K mg base CX0 1 "_law_next" ["_law_tables_here", "_law_kind", "_law_node", "_law_at"] (spLNext T)) : FnOk P w K mg base CX0 2 f fd ["_law_tables_here", "_law_kind", "_law_node", "_law_signals", "_law_come_here"] (spRound T) := by
  refine F.ok scRound (fun vs H Q E h => ?_) (fun cdv A outer s H vs Q E hr h => ?_)
  · obtain ⟨κ, d, c, cm, v, n, rfl, _⟩ := h
    rfl
  · obtain ⟨κ, d, c, cm, v, n, rfl, hT, hv, hi, hC, k⟩ := h
    have s5 := d.s5
    have u1 := hu1 hr
    refine ⟨_, (pss_cons (ps_set (i := 5) scRound.nd rfl (Or.inr rfl) (pe_lc (own := [("_law_other", 6)]) (g := (gName 6)) rfl scRound.nd (pi_list (pe_dget u1 (pv 4) (pv 2) (fun _ _ => rfl))) (blkOk_by (N := nRound) (sc := (defScope sRound)) (by decide +kernel)) (fun _ _ _ _ _ => by exact (pg_name (i := 6) scRound.nd rfl (Or.inl rfl))) (fun _ _ _ _ _ => by exact (pts_one (pt_cmpR (op_inK (K := K) (hu65 hr)) (pv 2) (pe_dget u1 (pv 4) (pv 6) (fun _ _ => rfl)) rfl))) (fun _ _ _ _ _ => by exact (pv 6))))
      (pss_one (ps_ret (pe_join pe_str (pe_lc (own := [("_law_signal", 7)]) (g := (gName 7)) rfl scRound.nd (pi_str (pv 3)) (blkOk_by (N := nRound) (sc := (defScope sRound)) (by decide +kernel)) (fun _ _ _ _ _ => by exact (pg_name (i := 7) scRound.nd rfl (Or.inr rfl))) (fun _ _ _ _ _ => by exact (pts_one (pt_cmpR (op_neDK (K := K) (hu64 hr)) (pe_lc (own := [("_law_one", 8)]) (g := (gName 8)) rfl scRound.nd (pi_listK (K := K) (pv 5)) (blkOk_by (N := nRound) (sc := (relS scR1 (defScope sRound))) (by decide +kernel)) (fun _ _ _ _ _ => by exact (pg_name (i := 8) scRound.nd rfl (Or.inl rfl))) (fun _ _ _ _ _ => by exact (pts_one (pt_cmpR (op_inK (K := K) (hu65 hr)) (pe_cal G hr (pa_cons (pv 0) (pa_cons (pv 1) (pa_cons (pv 8) (pa_cons (tBM_K (K := K) (pe_bm PySem.F.plainAttrs_str PySem.F.slot_str_index PySem.F.type_str_index mt_sindex pe_str (pa_cons (pv 7) pa_nil))) pa_nil)))) pass0) (pv 5) rfl))) (fun _ _ _ _ _ => by exact (pv 8))) (pe_lst pa_nil) (nomark _)))) (fun _ _ _ _ _ => by exact (pv 7))))))), ?_⟩
    obtain ⟨l0, cv, cs, c1, c2, c3, c4, c5⟩ := hC.get hv hi
    obtain ⟨p, hp⟩ : ∃ p : Nd → Bool, ∀ m, p m = true ↔ Reach (stp κ d) m n := ⟨fun m => @decide _ (Classical.propDecidable (Reach (stp κ d) m n)), fun m => by simp⟩
    have cin : ∀ m ∈ cs, InN κ d m := fun m hm => reach_InN ((c4 m).mp hm) hi
    refine ⟨_, rfl, _, rfl, cm, _, rfl, c1, l0, rfl, ⟨_, SqL.of c2⟩, fun D hD => ?_⟩
    refine lc_it (walk_list (xs := cv)) (fun i H' => ∃ hv, Loc T H [(D, .lst hv)] H' ∧ NVs κ H' hv ((cs.take i).filter p)) ⟨[], Loc.start.new hD pl_lst, .nil⟩ (fun i H' hi z => ?_) (fun i u H3 H' hi z y => ?_) fun H1 z => ?_
    · obtain ⟨_, z, _⟩ := z
      exact z.g.sqL (SqL.of c2)
    · obtain ⟨hs, L, hhs⟩ := z
      obtain ⟨rfl, eu⟩ := y
      obtain ⟨m, em, hm⟩ := c3.2 i u eu
      have mc := List.mem_of_getElem? em
      have hm' := hm.gr L.g
      obtain ⟨l1, cv1, cs1, d1, d2, d3, d4, d5⟩ := (hC.gr L.g).get hm' (cin m mc)
      have hsl : hs.length < sizeLine := lt_line (by
        have h1 := hhs.1
        have h2 := List.length_filter_le p (cs.take i)
        rw [List.length_take] at h2
        omega)
      refine ⟨rfl, _, rfl, _, rfl, _, rfl, cm, _, rfl, d1, inNd (κ := κ) (o := some n) (hv.gr L.g) (.inl (SqL.of d2)) d3 ⟨_, rfl, ?_⟩⟩
      cases hpm : p m with
      | true =>
        have e : oIn (some n) cs1 = true := decide_eq_true ((d4 n).mpr ((hp m).mp hpm))
        rw [e]
        have t2 := L.tk (i := 0) (u := .lst (hs ++ [u])) rfl lst_ne_tup
        refine ⟨_, rfl, hs, L.get (i := 0) rfl, hsl, hs ++ [u], L.set (i := 0) rfl pl_lst, ?_⟩
        rw [take_snoc em, List.filter_append, List.filter_cons_of_pos hpm, List.filter_nil]
        exact Ech.app (NVs.tk hhs t2) (.one (hm'.tk t2))
      | false =>
        have e : oIn (some n) cs1 = false := decide_eq_false fun h => by
          rw [(hp m).mpr ((d4 n).mp h)] at hpm
          cases hpm
        rw [e]
        refine ⟨hs, L, ?_⟩
        rw [take_snoc em, List.filter_append, List.filter_cons_of_neg (by rw [hpm]; exact Bool.false_ne_true)]
        simpa using hhs
    · obtain ⟨hv', L, hhv⟩ := z
      rw [c3.1, List.take_length] at hhv
      have ih : ∀ m ∈ cs.filter p, InN κ d m := fun m hm => cin m (List.mem_filter.mp hm).1
      have hiff : ∀ m, m ∈ cs.filter p ↔ Reach (stp κ d) n m ∧ Reach (stp κ d) m n := fun m => by
        rw [List.mem_filter, c4 m, hp m]
      have hl10 : (cs.filter p).length ≤ 10 := Nat.le_trans (List.length_filter_le _ _) c5
      generalize cs.filter p = hs at hhv ih hiff hl10
      have hDl := L.get (i := 0) rfl
      have g1 := L.g
      have hT1 := hT.gr g1
      dsimp only
      refine gNameI ?_
      refine ⟨⟨_, rfl⟩, _, rfl, tx (sgs d), rfl, fun D1 hD1 => ?_⟩
      refine lc_fm (T := T) (L := []) (F := fun c => if (hs.any fun x => oIn (nxs κ d x c) hs) = true then some (V.str (sgn c)) else none) walk_strL .start hD1 (fun _ _ => trivial) (fun i ch H2 hc g2 fm => ?_) fun H2 g2 fm => ?_
      · obtain ⟨a, ha, rfl⟩ := mem_sgs.mp (List.mem_of_getElem? hc)
        have hlist := g2.lst hDl
        refine ⟨rfl, _, rfl, D, rfl, ⟨_, SqL.of hlist⟩, fun D2 hD2 => ?_⟩
        refine lc_it (walk_list (xs := hv')) (fun j H' => ∃ ov, Loc T H2 [(D2, .lst ov)] H' ∧ NVs κ H' ov ((hs.take j).filter fun x => oIn (nx κ d a x) hs)) ⟨[], Loc.start.new hD2 pl_lst, .nil⟩ (fun j H' hj z => ?_) (fun j u H4 H5 hj z y => ?_) fun H4 z => ?_
        · obtain ⟨_, z, _⟩ := z
          exact SqL.of (z.g.lst hlist)
        · obtain ⟨ov, L2, hov⟩ := z
          obtain ⟨rfl, eu⟩ := y
          obtain ⟨m, em, hm⟩ := hhv.2 j u eu
          have mh := List.mem_of_getElem? em
          have g5 := g2.trans L2.g
          have hm5 := hm.gr g5
          refine ⟨rfl, _, rfl, _, rfl, _, rfl, rfl, _, rfl, _, _, a, [], rfl, rfl, sig_idx ⟨a, by omega⟩, κ, d, c, u, m, a, rfl, hT1.gr g5, hm5, ih m mh, ha, fun uu H6 huu g6 => ⟨_, rfl, inNd (κ := κ) (o := nx κ d a m) huu (.inl (SqL.of ((g5.trans g6).lst hDl))) (NVs.gr hhv (g5.trans g6)) ⟨_, rfl, ?_⟩⟩⟩
          have L3 := L2.mono g6
          have hov6 := NVs.gr hov g6
          have ol : ov.length < sizeLine := lt_line (by
            have h1 := hov.1
            have h2 := List.length_filter_le (fun x => oIn (nx κ d a x) hs) (hs.take j)
            rw [List.length_take] at h2
            omega)
          cases hb : oIn (nx κ d a m) hs with
          | true =>
            have t2 := L3.tk (i := 0) (u := .lst (ov ++ [u])) rfl lst_ne_tup
            refine ⟨_, rfl, ov, L3.get (i := 0) rfl, ol, ov ++ [u], L3.set (i := 0) rfl pl_lst, ?_⟩
            rw [take_snoc em, List.filter_append, List.filter_cons_of_pos (p := fun x => oIn (nx κ d a x) hs) hb, List.filter_nil]
            exact Ech.app (NVs.tk hov6 t2) (.one ((hm5.gr g6).tk t2))
          | false =>
            refine ⟨ov, L3, ?_⟩
            rw [take_snoc em, List.filter_append, List.filter_cons_of_neg (p := fun x => oIn (nx κ d a x) hs) (by show ¬ oIn (nx κ d a m) hs = true; rw [hb]; exact Bool.false_ne_true)]
            simpa using hov6
        · obtain ⟨ov, L2, hov⟩ := z
          rw [hhv.1, List.take_length] at hov
          refine ⟨Nat.zero_le _, fun l hl => ?_⟩
          have gl : Gr T H4 (upd H4 l (.lst [])) := .new hl
          refine neNil (SqL.of (gl.lst (L2.get (i := 0) rfl))) (dpAll (fun v n h => NV.dp h) (NVs.gr hov gl)) (nd_lay κ _) ndD_depth (SqL.of upd_same) ⟨_, rfl, ?_⟩
          rw [any_filter]
          have eq1 : (hs.any fun x => oIn (nx κ d a x) hs) = hs.any fun x => oIn (nxs κ d x (sc a)) hs := by
            congr 1
            funext x
            rw [nxs_sc]
          rw [eq1]
          have g6 := g2.trans (L2.g.trans gl)
          have fm6 := fm.gr (L2.g.trans gl)
          have sl : (sgs d).length < sizeLine := lt_line (by rw [sgs_len]; omega)
          cases hb : hs.any fun x => oIn (nxs κ d x (sc a)) hs with
          | true => exact ⟨_, rfl, fm_add hD1 g6 fm6 hc (if_pos hb) sl⟩
          | false => exact fm_skip g6 fm6 hc (if_neg (by rw [hb]; exact Bool.false_ne_true))
      · have e : ((sgs d).filterMap fun c => if (hs.any fun x => oIn (nxs κ d x c) hs) = true then some (V.str (sgn c)) else none) = (((sgs d).filter fun c => decide ((hs.any fun x => oIn (nxs κ d x c) hs) = true)).map sgn).map V.str := fm_if _
        rw [e] at fm
        have e2 : ((sgs d).filter fun c => decide ((hs.any fun x => oIn (nxs κ d x c) hs) = true)) = heldL κ d hs := by
          unfold sgs heldL
          rw [List.filter_map]
          congr 1
          refine List.filter_congr fun a _ => ?_
          show decide ((hs.any fun x => oIn (nxs κ d x (sc a)) hs) = true) = _
          have eq1 : (hs.any fun x => oIn (nxs κ d x (sc a)) hs) = hs.any fun x => oIn (nx κ d a x) hs := by
            congr 1
            funext x
            rw [nxs_sc]
          rw [eq1]
          simp
        rw [e2] at fm
        refine ⟨_, D1, (heldL κ d hs).map sgn, rfl, rfl, .inl (SqL.of (fm.get (i := 0) rfl)), ?_, ?_⟩
        · rw [sum_sgn]
          have h1 := List.length_filter_le (fun a => hs.any fun x => oIn (nx κ d a x) hs) (List.range d.s)
          rw [List.length_range] at h1
          have h2 : (heldL κ d hs).length ≤ 5 := by
            unfold heldL
            rw [List.length_map]
            omega
          show _ + _ * 0 ≤ _
          omega
        · have e3 : Txt.join "" ((heldL κ d hs).map sgn) = tx (heldL κ d hs) := join_sgn _
          rw [e3]
          exact k H2 hs (g1.trans g2) hiff
end
end Bk
end
section
/-! _law_rows_right. -/
namespace Bk
open PySem L2 LamX PySem.Spec PyProof.Rows
abbrev sRowsR : Stmt := top 48
abbrev nRowsR : List Str := ["_law_device","_law_tables_here","_law_kind","_law_node","_law_lot","_law_told","_law_row_here","_law_closed","_law_here","_law_signal","_law_after_here","_law_far","_law_ends","_law_state"]
/-! a row, and where it leads states -/
theorem runR_pre {nn : Nd → Nat → Option Nd} : ∀ {r : List Nat} {n k : Nd}, runR nn r n = some k → ∀ i, ∃ m, runR nn (r.take i) n = some m
  | [], n, k, _, i => ⟨n, by simp [runR]⟩
  | c :: r, n, k, h, 0 => ⟨n, rfl⟩
  | c :: r, n, k, h, i + 1 => by
    have h : (nn n c).bind (runR nn r) = some k := h
    obtain ⟨x, h1, h2⟩ := Option.bind_eq_some_iff.mp h
    obtain ⟨m, hm⟩ := runR_pre h2 i
    refine ⟨m, ?_⟩
    show (nn n c).bind (runR nn (r.take i)) = some m
    rw [h1]
    exact hm
theorem prOf_or {x y : Nat} {m : Nd} (h : prOf x y = some m) : m = (x, y) ∨ m = (y, x) := by
  unfold prOf at h
  split at h
  · cases h
  · split at h
    · cases h
      exact .inl rfl
    · cases h
      exact .inr rfl
theorem effOf_cons (d : Dv) (c : Nat) (r : List Nat) (x : Nat) : effOf d (c :: r) x = effOf d r (d.f (c - 97) x) := rfl
theorem run_st (d : Dv) : ∀ (r : List Nat) (n k : Nd), runR (nxs .st d) r n = some k → effOf d r n.1 = k.1
  | [], n, k, h => by
    cases h
    rfl
  | c :: r, n, k, h => by
    have h : (nxs .st d n c).bind (runR (nxs .st d) r) = some k := h
    exact run_st d r _ k h
theorem run_pr (d : Dv) : ∀ (r : List Nat) (n k : Nd), runR (nxs .pr d) r n = some k → (effOf d r n.1 = k.1 ∧ effOf d r n.2 = k.2) ∨ (effOf d r n.1 = k.2 ∧ effOf d r n.2 = k.1)
  | [], n, k, h => by
    cases h
    exact .inl ⟨rfl, rfl⟩
  | c :: r, n, k, h => by
    have h : (nxs .pr d n c).bind (runR (nxs .pr d) r) = some k := h
    obtain ⟨x, h1, h2⟩ := Option.bind_eq_some_iff.mp h
    have h1 : prOf (d.f (c - 97) n.1) (d.f (c - 97) n.2) = some x := h1
    rw [effOf_cons, effOf_cons]
    rcases prOf_or h1 with rfl | rfl
    · exact run_pr d r _ k h2
    · rcases run_pr d r _ k h2 with ⟨a, b⟩ | ⟨a, b⟩
      · exact .inr ⟨b, a⟩
      · exact .inl ⟨b, a⟩
theorem itr_fix {g : Nat → Nat} {a : Nat} (h : g a = a) : ∀ n, itr g n a = a
  | 0 => rfl
  | n + 1 => by
    show itr g n (g a) = a
    rw [h]
    exact itr_fix h n
theorem itr_swap {g : Nat → Nat} {a b : Nat} (h1 : g a = b) (h2 : g b = a) : ∀ n, (itr g n a = a ∧ itr g n b = b) ∨ (itr g n a = b ∧ itr g n b = a)
  | 0 => .inl ⟨rfl, rfl⟩
  | n + 1 => by
    show (itr g n (g a) = a ∧ itr g n (g b) = b) ∨ (itr g n (g a) = b ∧ itr g n (g b) = a)
    rw [h1, h2]
    exact (itr_swap h1 h2 n).elim (fun z => .inr ⟨z.2, z.1⟩) fun z => .inl ⟨z.2, z.1⟩
/-- the states of a node, as they stand in a list of its ends -/
def ends (κ : Kd) (n : Nd) : List Nat := match κ with
  | .st => [n.1]
  | .pr => [n.1, n.2]
theorem ends_far {κ : Kd} {d : Dv} {k : Nd} {c : List Nat} (hi : InN κ d k) (h : runR (nxs κ d) c k = some k) (n : Nat) {ns : List Int} (hp : ns.Perm ((ends κ k).map fun x => ((itr (effOf d c) n x : Nat) : Int))) (hs : ns.Pairwise (· ≤ ·)) : ns = (ends κ k).map fun (x : Nat) => (x : Int) := by
  cases κ with
  | st =>
    have e : itr (effOf d c) n k.1 = k.1 := itr_fix (run_st d c k k h) n
    have hp : ns.Perm [((itr (effOf d c) n k.1 : Nat) : Int)] := hp
    rw [e] at hp
    exact List.perm_singleton.mp hp
  | pr =>
    have lt : k.1 < k.2 := hi.1
    have hp : ns.Perm [((itr (effOf d c) n k.1 : Nat) : Int), ((itr (effOf d c) n k.2 : Nat) : Int)] := hp
    have hab : ns.Perm [((k.1 : Nat) : Int), ((k.2 : Nat) : Int)] := by
      rcases run_pr d c k k h with ⟨a, b⟩ | ⟨a, b⟩
      · rw [itr_fix a, itr_fix b] at hp
        exact hp
      · rcases itr_swap a b n with ⟨x, y⟩ | ⟨x, y⟩
        · rw [x, y] at hp
          exact hp
        · rw [x, y] at hp
          exact hp.trans (List.Perm.swap _ _ _)
    refine List.Perm.eq_of_pairwise (le := fun a b : Int => a ≤ b) (fun a b _ _ h1 h2 => Int.le_antisymm h1 h2) hs ?_ hab
    show List.Pairwise (· ≤ ·) [((k.1 : Nat) : Int), ((k.2 : Nat) : Int)]
    simp
    omega
section
variable {P : Program} {w : World} {K : PySem.W.Frag} {mg : Str → Option Value} {base : Heap} {T : List (Addr × Str)} {Cd : Addr}
def spRowsR (T : List (Addr × Str)) (K : PySem.W.Frag) (Cd : Addr) : Sp := fun vs H Q _ => ∃ (κ : Kd) (d : Dv) (p c b : Addr) (v : V) (n : Nd) (l r cl : List Nat), vs = [.ref p, .ref c, .str (kdT κ), v, .str (tx l), .ref b] ∧ DevAt Cd d p H ∧ TbsL H c d ∧ NV κ H v n ∧ InN κ d n ∧ l.length ≤ 5 ∧
  H b = some (.tup [.str (tx r), .str (tx cl)]) ∧ KR κ d n l r cl ∧ ∀ H', Gr T H H' → Q (.bl true) H'
theorem scRowsR : FnScope nRowsR ["_law_device","_law_tables_here","_law_kind","_law_node","_law_lot","_law_told"] (defScope sRowsR) := ⟨rfl, rfl, rfl, by decide +kernel, rfl, by decide +kernel, by decide +kernel⟩
theorem ok_rowsR {f : Addr} {fd : FuncData} (F : Fun K "_law_rows_right" "_law_rows_right" sRowsR f fd) (B : Bt mg) (DC : DvC K mg Cd) (G1 : CalF P w K mg base CX0 1 "_law_next" ["_law_tables_here", "_law_kind", "_law_node", "_law_at"] (spLNext T)) (G2 : CalF P w K mg base CX0 2 "said_effect" ["effect", "times"] (spSaid T))
    (G3 : MetF P w K mg base CX0 3 Cd "effect" ["row"] (spEffect T Cd)) : FnOk P w K mg base CX0 4 f fd ["_law_device","_law_tables_here","_law_kind","_law_node","_law_lot","_law_told"] (spRowsR T K Cd) := by
  refine F.ok scRowsR (fun vs H Q E h => ?_) (fun cdv A outer s H vs Q E hr h => ?_)
  · obtain ⟨κ, d, p, c, b, v, n, l, r, cl, rfl, _⟩ := h
    rfl
  · obtain ⟨κ, d, p, c, b, v, n, l, r, cl, rfl, hd, hT, hv, hi, l5, hb, R, k⟩ := h
    have hr1 := hr.mono (show 1 ≤ 3 by decide)
    have hr2 := hr.mono (show 2 ≤ 3 by decide)
    have s5 := d.s5
    have m5 := d.m5
    obtain ⟨kn, hgo1, hgo2⟩ := R.go
    have hik : InN κ d kn := reach_InN (run_reach R.sr hgo1) hi
    refine ⟨_, (pss_cons (ps_if (PW.pt (pw_or (pt_not (pt_val (pe_callB call_isi (by rfl) B.isinstance (by decide +kernel) (pa_cons (pv 5) (pa_cons (pe_bltn (v := .ty "tuple") (by rfl) B.tuple (by decide +kernel) rfl) pa_nil))))) (pw_or (pt_cmpR op_ne (pe_callB call_len_seq (by rfl) B.len (by decide +kernel) (pa_cons (pv 5) pa_nil)) pe_int (nomark _)) (pw_or1 (pt_cmpR op_eq (pe_ix ix_seq (pv 5) pe_int (fun _ _ => rfl)) pe_str (nomark _)))))) (pss_one (ps_ret pe_bl)) pss_nil)
      (pss_cons (ps_asg (pv 5) (pg_tup rfl (pgs_cons (pg_name (i := 6) scRowsR.nd rfl (Or.inl rfl)) (pgs_cons (pg_name (i := 7) scRowsR.nd rfl (Or.inr rfl)) pgs_nil))))
      (pss_cons (ps_set (i := 8) scRowsR.nd rfl (Or.inl rfl) (pv 3))
      (pss_cons (ps_for PassesOwn.never rfl (pi_str (pv 6)) (pg_name (i := 9) scRowsR.nd rfl (Or.inl rfl)) (pss_one (ps_set (i := 8) scRowsR.nd rfl (Or.inl rfl) (pe_ifExp (pt_cmpR op_isN (pv 8) pe_non (nomark _)) pe_non (pe_cal G1 hr1 (pa_cons (pv 1) (pa_cons (pv 2) (pa_cons (pv 8) (pa_cons (pe_bm PySem.F.plainAttrs_str PySem.F.slot_str_index PySem.F.type_str_index mt_sindex pe_str (pa_cons (pv 9) pa_nil)) pa_nil)))) pass0)))))
      (pss_cons (ps_if (PW.pt (pw_or (pt_cmpR op_isN (pv 8) pe_non (nomark _)) (pw_or1 (pt_cmpR (op_neDK (K := K) (hu64 hr)) (pe_lc (own := [("_law_signal", 9)]) (g := (gName 9)) rfl scRowsR.nd (pi_str (pv 4)) (blkOk_by (N := nRowsR) (sc := (defScope sRowsR)) (by decide +kernel)) (fun _ _ _ _ _ => by exact (pg_name (i := 9) scRowsR.nd rfl (Or.inl rfl))) (fun _ _ _ _ _ => by exact (pts_one (pt_cmpR op_notIn_sign (pv 9) (pv 7) rfl))) (fun _ _ _ _ _ => by exact (pv 9))) (pe_lst pa_nil) (nomark _))))) (pss_one (ps_ret pe_bl)) pss_nil)
      (pss_cons (ps_set (i := 10) scRowsR.nd rfl (Or.inl rfl) (pv 8))
      (pss_cons (ps_for PassesOwn.never rfl (pi_str (pv 7)) (pg_name (i := 9) scRowsR.nd rfl (Or.inl rfl)) (pss_one (ps_set (i := 10) scRowsR.nd rfl (Or.inl rfl) (pe_ifExp (pt_cmpR op_isN (pv 10) pe_non (nomark _)) pe_non (pe_cal G1 hr1 (pa_cons (pv 1) (pa_cons (pv 2) (pa_cons (pv 10) (pa_cons (pe_bm PySem.F.plainAttrs_str PySem.F.slot_str_index PySem.F.type_str_index mt_sindex pe_str (pa_cons (pv 9) pa_nil)) pa_nil)))) pass0)))))
      (pss_cons (ps_if (pt_cmpR (op_neDK (K := K) (hu64 hr)) (pv 10) (pv 8) (nomark _)) (pss_one (ps_ret pe_bl)) pss_nil)
      (pss_cons (ps_set (i := 11) scRowsR.nd rfl (Or.inr rfl) (pe_cal G2 hr2 (pa_cons (pe_met G3 DC.cl (pv 0) hr pass0 (pa_cons (pv 7) pa_nil)) (pa_cons (pe_op op_pow pe_int pe_int) pa_nil)) pass0))
      (pss_cons (ps_set (i := 12) scRowsR.nd rfl (Or.inl rfl) (pe_ifExp (pt_cmpR op_eq (pv 2) pe_str (nomark _)) (pe_lst (pa_cons (pv 8) pa_nil)) (pe_callTy call_list_of (by rfl) B.list (by decide +kernel) (pa_cons (pv 8) pa_nil))))
      (pss_one (ps_ret (pe_cmpR (op_eqDK (K := K) (hu64 hr)) (pe_callB cr_sorted (by rfl) B.sorted (by decide +kernel) (pa_cons (pe_lc (own := [("_law_state", 13)]) (g := (gName 13)) (tt := tYes) rfl scRowsR.nd (pi_list (pv 12)) (blkOk_by (N := nRowsR) (sc := (defScope sRowsR)) (by decide +kernel)) (fun _ _ _ _ _ => by exact (pg_name (i := 13) scRowsR.nd rfl (Or.inl rfl))) (fun _ _ _ _ _ => pts_nil) (fun _ _ _ _ _ => by exact (pe_ix (ix_seqK (K := K)) (pv 11) (pv 13) (fun _ _ => rfl)))) pa_nil)) (pv 12) (nomark _)))))))))))))), ?_⟩
    have lv : Lk K H (.ref b) "tuple" := .tup hb
    refine ⟨_, rfl, _, _, _, _, _, rfl, .ty _, lv.ty, lv.kit (by simp), _, rfl, iteF ?_⟩
    refine ⟨_, rfl, b, _, rfl, .inr (SqT.of hb), rfl, _, rfl, iteF ?_⟩
    refine ⟨_, rfl, .inr (.inl ⟨b, _, _, _, rfl, rfl, SqT.of hb, atI_nat (j := 1) rfl, rfl, _, rfl, ?_⟩)⟩
    have ne : V.str (tx cl) ≠ V.str "" := fun z => R.ne (tx_inj (m := []) (V.str.inj z))
    rw [decide_eq_false ne]
    refine iteF ⟨_, rfl, b, _, rfl, SqT.of hb, rfl, _, _, rfl, _, _, rfl, rfl, ?_⟩
    -- the way there
    refine ⟨_, rfl, _, rfl, tx r, rfl, ?_⟩
    refine for_it walk_strL (fun i σ H' => ∃ (x9 : Option V) (hv : V) (m : Nd), σ = [some (.ref p), some (.ref c), some (.str (kdT κ)), some v, some (.str (tx l)), some (.ref b), some (.str (tx r)), some (.str (tx cl)), some hv, x9, none, none, none, none] ∧ Gr T H H' ∧ NV κ H' hv m ∧ InN κ d m ∧ runR (nxs κ d) (r.take i) n = some m) ⟨none, v, n, rfl, .refl, hv, hi, rfl⟩ (fun _ _ _ _ _ => trivial) (fun i u σ H3 H' hj z y => ?_) fun σ H1 z => ?_
    · obtain ⟨x9, hv', m, rfl, g, hm, hmi, hrun⟩ := z
      obtain ⟨rfl, eu⟩ := y
      rw [List.getElem?_map] at eu
      obtain ⟨ch, ec, rfl⟩ := Option.map_eq_some_iff.mp eu
      obtain ⟨a, ha, rfl⟩ := mem_sgs.mp (R.sr ch (List.mem_of_getElem? ec))
      refine ⟨_, rfl, rfl, _, rfl, ?_⟩
      rw [decide_eq_false hm.ne_non]
      refine iteF ⟨_, rfl, _, rfl, _, rfl, rfl, _, rfl, _, _, a, [], rfl, rfl, sig_idx ⟨a, by omega⟩, κ, d, c, hv', m, a, rfl, hT.gr g, hm, hmi, ha, fun u H6 hu g6 => ?_⟩
      obtain ⟨m2, hm2⟩ := runR_pre hgo1 (i + 1)
      have hm3 := hm2
      rw [take_snoc ec, runR_app, hrun] at hm3
      have hm3 : (nxs κ d m (sc a)).bind (runR (nxs κ d) []) = some m2 := hm3
      obtain ⟨m', e1, e2⟩ := Option.bind_eq_some_iff.mp hm3
      cases e2
      rw [nxs_sc] at e1
      rw [e1] at hu
      exact ⟨_, u, m2, rfl, g.trans g6, hu, nx_in e1, hm2⟩
    · obtain ⟨x9, hv', m, rfl, g, hm, hmi, hrun⟩ := z
      rw [List.take_length, hgo1] at hrun
      cases hrun
      refine ⟨_, rfl, rfl, _, rfl, ?_⟩
      rw [decide_eq_false hm.ne_non]
      refine iteF ?_
      -- all signals are there
      refine ⟨_, rfl, tx l, rfl, fun D hD => ?_⟩
      refine lc_fm (T := T) (L := []) (F := fun ch => if ch ∈ cl then none else some (V.str (sgn ch))) walk_strL .start hD (fun _ _ => trivial) (fun i ch H2 hc g2 fm => ?_) fun H2 g2 fm => ?_
      · have hcl := R.all ch (List.mem_of_getElem? hc)
        refine ⟨rfl, _, rfl, _, rfl, ch, tx cl, rfl, rfl, _, rfl, ?_⟩
        have e : decide (ch ∈ (tx cl).cps.toList) = true := decide_eq_true (by rw [tx_tl]; exact hcl)
        rw [e]
        exact fm_skip g2 fm hc (if_pos hcl)
      · have e : (l.filterMap fun ch => if ch ∈ cl then none else some (V.str (sgn ch))) = [] := by
          rw [List.filterMap_eq_nil_iff]
          intro ch hc
          rw [if_pos (R.all ch hc)]
        rw [e] at fm
        refine ⟨Nat.zero_le _, fun z hz => ?_⟩
        have gz : Gr T H2 (upd H2 z (.lst [])) := .new hz
        refine neNil (ds := []) (SqL.of (gz.lst (fm.get (i := 0) rfl))) .nil rfl (fun d hd => by simp at hd) (SqL.of upd_same) ⟨_, rfl, iteF ?_⟩
        have g3 := g.trans (g2.trans gz)
        have hm3 := hm.gr (g2.trans gz)
        generalize upd H2 z (.lst []) = H3 at g3 hm3
        -- the way round
        refine ⟨_, rfl, _, rfl, tx cl, rfl, ?_⟩
        refine for_it walk_strL (fun i σ H' => ∃ (x9 : Option V) (av : V) (m : Nd), σ = [some (.ref p), some (.ref c), some (.str (kdT κ)), some v, some (.str (tx l)), some (.ref b), some (.str (tx r)), some (.str (tx cl)), some hv', x9, some av, none, none, none] ∧ Gr T H3 H' ∧ NV κ H' av m ∧ InN κ d m ∧ runR (nxs κ d) (cl.take i) kn = some m) ⟨_, hv', kn, rfl, .refl, hm3, hik, rfl⟩ (fun _ _ _ _ _ => trivial) (fun i u σ H4 H' hj z y => ?_) fun σ H5 z => ?_
        · obtain ⟨x9, av, m, rfl, g4, hma, hmi, hrun⟩ := z
          obtain ⟨rfl, eu⟩ := y
          rw [List.getElem?_map] at eu
          obtain ⟨ch, ec, rfl⟩ := Option.map_eq_some_iff.mp eu
          obtain ⟨a, ha, rfl⟩ := mem_sgs.mp (R.sg ch (List.mem_of_getElem? ec))
          refine ⟨_, rfl, rfl, _, rfl, ?_⟩
          rw [decide_eq_false hma.ne_non]
          refine iteF ⟨_, rfl, _, rfl, _, rfl, rfl, _, rfl, _, _, a, [], rfl, rfl, sig_idx ⟨a, by omega⟩, κ, d, c, av, m, a, rfl, hT.gr (g3.trans g4), hma, hmi, ha, fun u H6 hu g6 => ?_⟩
          obtain ⟨m2, hm2⟩ := runR_pre hgo2 (i + 1)
          have hm4 := hm2
          rw [take_snoc ec, runR_app, hrun] at hm4
          have hm4 : (nxs κ d m (sc a)).bind (runR (nxs κ d) []) = some m2 := hm4
          obtain ⟨m', e1, e2⟩ := Option.bind_eq_some_iff.mp hm4
          cases e2
          rw [nxs_sc] at e1
          rw [e1] at hu
          exact ⟨_, u, m2, rfl, g4.trans g6, hu, nx_in e1, hm2⟩
        · obtain ⟨x9, av, m, rfl, g4, hma, hmi', hrun⟩ := z
          rw [List.take_length, hgo2] at hrun
          cases hrun
          have hm5 := hm3.gr g4
          refine ⟨_, rfl, _, rfl, _, _, hma.dp, hm5.dp, ndD_shaped _ _, ndD_shaped _ _, _, rfl, ?_⟩
          rw [ndD_eqv hik.ok hik.ok, decide_eq_true rfl]
          refine iteF ?_
          -- far away
          have g5 := g3.trans g4
          obtain ⟨dx, tb, ts, hd1, _⟩ := (hd.gr g5).ex
          refine ⟨_, rfl, p, dx, _, rfl, hd1, rfl, _, rfl, p, d, cl, rfl, hd.gr g5, R.sg, Nat.le_trans R.len (by decide), fun q H6 hq g6 => ⟨_, _, rfl, rfl, ⟨by decide, by decide, by decide⟩, ?_⟩⟩
          have e18 : (10 : Int) ^ (18 : Int).toNat = ((1000000000000000000 : Nat) : Int) := by decide
          dsimp only
          rw [e18]
          refine ⟨q, d.m, effOf d cl, 1000000000000000000, rfl, hq, m5, effOf_lt d cl, by decide, fun q2 H7 gg hgg hq2 g7 => ?_⟩
          obtain ⟨fb, rfl, hfb⟩ := hq2
          have g07 := g5.trans (g6.trans g7)
          have hm7 := hm5.gr (g6.trans g7)
          have fin : ∀ (D : Addr) (H8 : Hp), Gr T H7 H8 → H8 D = some (.lst ((ends κ kn).map fun x => V.int (x : Nat))) → 
              tRet (tOp (rEqD K) (tCB (rSorted K) (tCons (tLc (iList K (tVar 12)) (gName 13) tYes (tOp (rIx K) (tVar 11) (tVar 13)) [13]) tNil)) (tVar 12)) { nx := fun x H' => Q V.non H', rt := Q }
                [some (.ref p), some (.ref c), some (.str (kdT κ)), some v, some (.str (tx l)), some (.ref b), some (.str (tx r)), some (.str (tx cl)), some hv', x9, some av, some (.ref fb), some (.ref D), none] H8 := fun D H8 g8 hD8 => by
            refine ⟨_, rfl, D, rfl, ⟨_, SqL.of hD8⟩, fun E1 hE1 => ?_⟩
            have wk : Walk (Itl K D) (ends κ kn).length (fun H => SqL K H D ((ends κ kn).map fun x => V.int (x : Nat))) (YAt ((ends κ kn).map fun x => V.int (x : Nat))) := walk_listL
            have elt : ∀ x ∈ ends κ kn, x < d.m := fun x hx => by
              cases κ with
              | st =>
                rw [List.mem_singleton.mp (show x ∈ [kn.1] from hx)]
                exact hik.2
              | pr =>
                have hx : x ∈ [kn.1, kn.2] := hx
                simp at hx
                rcases hx with rfl | rfl
                · exact Nat.lt_trans hik.1 hik.2
                · exact hik.2
            have el2 : (ends κ kn).length ≤ 2 := by cases κ <;> simp [ends]
            refine lc_fm (T := T) (L := []) (F := fun x => some (V.int (gg x : Nat))) wk .start hE1 (fun H' g' => g'.sqL (SqL.of hD8)) (fun j x H9 hx g9 fm => ?_) fun H9 g9 fm => ?_
            · refine ⟨rfl, _, rfl, _, rfl, .inr (.inl ⟨fb, _, _, _, rfl, rfl, SqT.of ((g8.trans g9).tup hfb), atI_nat (rg_at (elt x (List.mem_of_getElem? hx))), ?_⟩)⟩
              exact fm_add hE1 g9 fm hx rfl (lt_line (by omega))
            · have e1 : ((ends κ kn).filterMap fun x => some (V.int (gg x : Nat))) = (((ends κ kn).map fun x => ((itr (effOf d cl) 1000000000000000000 x : Nat) : Int)).map V.int) := by
                rw [fm_map, List.map_map]
                refine List.map_congr_left fun x hx => ?_
                rw [hgg x (elt x hx)]
                rfl
              rw [e1] at fm
              refine ⟨E1, _, rfl, SqL.of (fm.get (i := 0) rfl), by rw [List.length_map]; omega, fun ns p' hp hs hp' => ?_⟩
              have e2 := ends_far hik hgo2 _ hp hs
              have gp : Gr T H9 (upd H9 p' (.lst (ns.map V.int))) := .new hp'
              have e3 : ns.map V.int = (ends κ kn).map fun x => V.int (x : Nat) := by
                rw [e2, List.map_map]
                rfl
              rw [e3] at gp ⊢
              have dA : ∀ {H : Hp} (xs : List Nat), DpAll K H (xs.map fun x => V.int (x : Nat)) (xs.map fun x => PyData.int (x : Nat)) := fun {H} xs => by
                induction xs with
                | nil => exact .nil
                | cons a r ih => exact .cons (.int _) ih
              have cA : ∀ xs : List Nat, PyData.canLayAll0 (xs.map fun x => PyData.int (x : Nat)) = true := fun xs => by
                induction xs with
                | nil => rfl
                | cons a r ih => exact ih
              have sA : SeqAt.shaped (.list ((ends κ kn).map fun x => PyData.int (x : Nat))) = true := shapedL (cA _) fun d hd => by
                obtain ⟨x, _, rfl⟩ := List.mem_map.mp hd
                exact Nat.zero_le _
              refine ⟨_, rfl, .list ((ends κ kn).map fun x => PyData.int (x : Nat)), .list ((ends κ kn).map fun x => PyData.int (x : Nat)), .lst (SqL.of upd_same) (dA _), .lst (SqL.of (gp.lst (g9.lst hD8))) (dA _), sA, sA, ?_⟩
              have eR : PyData.eqv (.list ((ends κ kn).map fun x => PyData.int (x : Nat))) (.list ((ends κ kn).map fun x => PyData.int (x : Nat))) = true := by
                exact PySem.SeqAt.eqv_refl (.list _) (cA _)
              rw [eR]
              exact k _ (g07.trans (g8.trans (g9.trans gp)))
          refine ⟨_, rfl, rfl, _, rfl, ?_⟩
          cases κ with
          | st =>
            obtain ⟨rfl, _⟩ := hm7
            refine iteT ⟨_, rfl, by show 1 ≤ sizeLine; decide, fun D hD => ?_⟩
            exact fin D _ (.new hD) upd_same
          | pr =>
            obtain ⟨nb, rfl, hnb⟩ := hm7
            refine iteF ⟨_, rfl, nb, _, rfl, .inr (SqT.of hnb), fun D hD => ?_⟩
            exact fin D _ (.new hD) upd_same
end
end Bk
end
section
/-! Several clauses `except X as n` of one name; methods by keywords, what they raise wished for at the caller's slots. -/
namespace Bk
open PySem L2 LamX PySem.Spec PyProof.Rows
/-- behind a clause its name is gone -/
def unb (i : Nat) (D : Ends) : Ends := ⟨fun σ H => D.nx (σ.set i none) H, D.rt, fun σ H => D.bk (σ.set i none) H, fun σ H => D.ct (σ.set i none) H⟩
abbrev Clv : Type := Value × (Addr → Value → Option Addr → TS)
/-- the wish of an exception of the body: the first clause that takes it; slot i is the clauses' name -/
def wAll (K : PySem.W.Frag) (i : Nat) (Wo : WX) (D : Ends) : List Clv → WX
  | [] => Wo
  | p :: r => fun cl dd σ H => ∃ b, PySem.W.exmOne K cl p.1 = some b ∧ (b = true → ∀ x, H x = none → p.2 x cl dd (unb i D) (σ.set i (some (.ref x))) H) ∧ (b = false → wAll K i Wo D r cl dd σ H)
inductive HdsA (X : Cx) (n : Str) : List ExceptHandler → List Clv → Prop
  | nil : HdsA X n [] []
  | cons {y : Str} {p : Clv} {b0 : Stmt} {bs : List Stmt} {q1 q2 : Pos} {r : List ExceptHandler} {l : List Clv} (hc : Names X y p.1)
      (hb : ∀ (x : Addr) (ox : Obj) (cl : Value) (dd : Option Addr) (ps : List (Addr × Obj)), Zc cl dd ox → (∃ fv, ox.data = .fields fv) → PSs (X.suite x ((x, ox) :: ps)) (b0 :: bs) (p.2 x cl dd)) (t : HdsA X n r l) :
      HdsA X n (.ExceptHandler (some (.Name y q1)) (some n) (b0 :: bs) q2 :: r) (p :: l)
section
variable {X : Cx} {n : Str} {i : Nat} {body : List Stmt} {c0 : ExceptHandler} {cs : List ExceptHandler} {l : List Clv} {pos : Pos} {tb : WX → TS} {Wo : WX}
theorem ps_try_all (eS : X.stack = X.env :: X.outer) (eF : X.env.frame = some X.env.locals) (nN : X.N.Nodup) (eN : X.N[i]? = some n) (kN : X.env.kindOf n = some .local) (tk : Takes X Wo)
    (hB : ∀ (W : WX) (ps : List (Addr × Obj)) (xw : Value → Shared → Prop), Takes (X.tr ps xw) W → PassesOwn (model X.prog X.w) X.A X.env xw → PSs (X.tr ps xw) body (tb W)) (hC : HdsA X n (c0 :: cs) l) : PS X (.Try body (c0 :: cs) [] [] pos) (fun D σ H => tb (wAll X.K i Wo D l) D σ H) := by
  refine ⟨fun ps st sl Hh De I0 w0 => ?_⟩
  have okX := I0.ok
  have frX : X.A.frames = some (X.env :: X.outer) := okX.frames.trans (by rw [eS])
  have locN : L2.Loc X.env.scope n := .inl kN
  refine wpAny_Try_except (wpAny_mono ((hB (wAll X.K i Wo De l) (X.pn ++ ps) (fun e t => wpAny (model X.prog X.w) X.A (noteFrame e X.env) (fun _ t => wpAny (model X.prog X.w) X.A (setFlight e none) (fun _ t => wpAny (model X.prog X.w) X.A (handleBy e X.env (c0 :: cs)) (SP X ps De) X.xe t) X.xe t) X.xe t)
    (fun u t xx => ?_) PassesOwn.looking).run [] st sl Hh De (I0.toTry _) w0) (fun fw t q => ?_) fun _ _ z => z)
  · obtain ⟨x, Gd, sI, qs, σ1, H1, cl, dd, rfl, J1, nb, up, sky, na, os, ag, ww⟩ := xx
    have J : L2.Inv X ps σ1 H1 sI := J1.ofTry okX
    show wpAny (model X.prog X.w) X.A (noteFrame (.ref x) X.env) _ _ t
    refine Sky.land (B := Gd) Zc.steady frX eF (eS ▸ sky) fun hp fy up1 => ?_
    have J2 : L2.Inv X ps σ1 H1 { t with heap := hp } := J.landed nb fy.1 (up.trans up1) os ag
    obtain ⟨ox, fv, gx, zx, dx⟩ := fy.there
    have nfr : x ∉ frs (X.env :: X.outer) := fun hm => by
      obtain ⟨_, o', e', hnf⟩ := fy.2.2.1.mem hm
      cases gx.symm.trans e'
      exact hnf _ dx
    have nL : x ≠ X.env.locals := fun z => nfr (List.mem_filterMap.mpr ⟨X.env, .head _, eF.trans (congrArg some z.symm)⟩)
    have nF : x ∉ X.fs := fun hm => (List.mem_filterMap.mp hm).elim fun e q => nfr (List.mem_filterMap.mpr ⟨e, .tail _ q.1, q.2⟩)
    have SS := J2.suite gx dx na nL nF
    suffices go : ∀ {ds : List ExceptHandler} {k : List Clv}, HdsA X n ds k → wAll X.K i Wo De k cl dd σ1 H1 → wpAny (model X.prog X.w) X.A (handleBy (.ref x) X.env ds) (SP X ps De) X.xe { t with heap := hp } from go hC ww
    intro ds k hk
    induction hk with
    | nil =>
      intro w
      refine wpAny_handleBy_nil ?_
      obtain ⟨_, _, _, oy, fw, T, oT, ts, g1, z1, d1, f1, r1⟩ := id fy
      have last : wpAny (model X.prog X.w) X.A (setFlight (.ref x) X.env.frame) (fun _ t => wpAny (model X.prog X.w) X.A (throw (.ref x) : Sem Flow) (SP X ps De) X.xe t) X.xe { t with heap := hp } := by
        rw [eF]
        refine HandSPX.setFlight_upZ fy fun h4 hh up4 => wpAny_throw (tk _ _ ⟨x, Gd, sI, ps, σ1, H1, cl, dd, rfl, J, nb, (up.trans up1).trans up4, .inr (.inr ?_), na, os, ag, w⟩)
        rw [eS]
        exact hh
      unfold PySem.passOn
      refine wpAny_bind (wpAny_field g1 d1 f1 ?_)
      rw [if_neg (by simp : ¬ ((Value.ref T == Value.none) = true))]
      first
        | exact wpAny_bind (wpAny_pure (wpAny_bind last))
        | exact wpAny_bind last
    | @cons y p b0 bs q1 q2 r l2 hc hsu rr ih =>
      rintro ⟨b, hb1, yes, no⟩
      have looks : PySem.W.Looks (model X.prog X.w) hp (typeOf (.ref x)) cl := fun A Q E s k q => wpAny_typeOf_ref (k _ _ gx) (zx.1 ▸ q)
      have test : ∀ {Q E : Value → Shared → Prop}, Q p.1 { t with heap := hp } → wpAny (model X.prog X.w) (X.A.mark (some (.ref x))) (eval (.Name y q1) X.env) Q E { t with heap := hp } := fun {Q E} q => by
        rcases hc with ⟨v1, v2, v3 | ⟨v3, v4, v5⟩⟩
        · exact ld_glob (X := X.suite x ((x, ox) :: (X.pn ++ ps))) SS v1 v3 q v2
        · exact ld_blt (X := X.suite x ((x, ox) :: (X.pn ++ ps))) SS v1 v3 v4 q v5 v2
      refine wpAny_handleBy_cons (codeAny_handlers_test (test ((PySem.W.exm_one (M := model X.prog X.w) J2.kIn looks hb1).here ?_))) (fun q => by cases q)
      cases b with
      | false => exact ih (no rfl)
      | true =>
        refine codeAny_handlers_suite_as (HandSPX.lands_againZ fy fun h4 f4 up4 => ?_)
        have J4 : L2.Inv X ps σ1 H1 { t with heap := h4 } := J.landed nb f4.1 ((up.trans up1).trans up4) os ag
        obtain ⟨o4, v4, g4, z4, d4⟩ := f4.there
        have S4 := J4.suite g4 d4 na nL nF
        refine store_ok (X := X.suite x ((x, o4) :: (X.pn ++ ps))) (v := .ref x) S4 nN eN locN rfl (fun t5 S5 => wpAny_mono ((hsu x o4 cl dd (X.pn ++ ps) z4 ⟨_, d4⟩).run [] t5 _ H1 _ S5 (yes rfl x na)) (fun fw t6 out => ?_) fun _ _ z => z.elim) (.inr kN)
        have gone : ∀ {σ6 : L2.St} {H6 : Hp} {Q : Shared → Prop}, L2.Inv (X.suite x ((x, o4) :: (X.pn ++ ps))) [] σ6 H6 t6 → (∀ t7, L2.Inv X ps (σ6.set i none) H6 t7 → Q t7) → wpAny (model X.prog X.w) X.A (do bindName X.env n .none; unbindBehindTheSuite X.env n q2) (fun _ t7 => Q t7) X.xe t6 :=
          fun {σ6 H6 Q} S6 hq => gone_ok (S6.unsuite okX) nN eN kN hq
        cases fw with
        | ret u => exact out.elim fun v o => o.elim fun σ6 o => o.elim fun H6 o => gone o.1 fun t7 J7 => ⟨v, _, H6, J7, o.2⟩
        | next => exact out.elim fun σ6 o => o.elim fun H6 o => gone o.1 fun t7 J7 => ⟨_, H6, J7, o.2⟩
        | brk => exact out.elim fun σ6 o => o.elim fun H6 o => gone o.1 fun t7 J7 => ⟨_, H6, J7, o.2⟩
        | cont => exact out.elim fun σ6 o => o.elim fun H6 o => gone o.1 fun t7 J7 => ⟨_, H6, J7, o.2⟩
  · cases fw with
    | next => exact q.elim fun σ1 o => o.elim fun H1 o => wpAny_execs_nil ⟨σ1, H1, o.1.ofTry okX, o.2⟩
    | brk => exact q.elim fun σ1 o => o.elim fun H1 o => ⟨σ1, H1, o.1.ofTry okX, o.2⟩
    | cont => exact q.elim fun σ1 o => o.elim fun H1 o => ⟨σ1, H1, o.1.ofTry okX, o.2⟩
    | ret u => exact q.elim fun v o => o.elim fun σ1 o => o.elim fun H1 o => ⟨v, σ1, H1, o.1.ofTry okX, o.2⟩
end
/-! ### o.m(k = v, ..), what is raised wished for at the slots -/
def tMethKS (C : Addr) (m : Str) (sp : Sp) (E : L2.St → XK) (ta : TE) (tk : TA) : TE := fun σ H Q => ta σ H fun x H1 => ∃ a dx fs, x = .ref a ∧ H1 a = some (.ins C dx fs) ∧ fs.lookup m = none ∧ tk σ H1 fun vs H2 => sp (x :: vs) H2 Q (E σ)
section
variable {X : Cx} {CX : CXT} {k : Nat} {f C : Addr} {fd : FuncData} {ks : List Str} {sp : Sp} {E : L2.St → XK} {m : Str} {pos apos : Pos} {o : Expr} {kws : List Keyword} {ta : TE} {tk : TA}
/-- a method that may be called by keywords alone -/
def MetK (P : Program) (w : World) (K : PySem.W.Frag) (mg : Str → Option Value) (base : Heap) (CX : CXT) (k : Nat) (C : Addr) (m : Str) (ks : List Str) (sp : Sp) : Prop :=
  ∃ f fd, FnOk P w K mg base CX k f fd (("self" : Str) :: ks) sp ∧ Meth K C m f ∧ ∀ (s : Shared) (u : Value) (ws : List Value), ws.length = ks.length → BindsTo s fd ⟨[u], ks.zip ws⟩ ((("self" : Str) :: ks).zip ([u] ++ ws))
theorem pe_metKS {pl : Sem Bool} (G : MetK X.prog X.w X.K X.mg X.base CX k C m ks sp) (c : Cls X.K C) (he : PE X o ta) (hr : Room k X.A) (hx : ∀ σ, PassesAt CX X σ (E σ)) (hkw : PK X kws tk)
    (hall : (backToKw pos (keywordEach kws X.env)).all (·.1.isSome) = true := by rfl) (hks : (backToKw pos (keywordEach kws X.env)).filterMap (·.1) = ks := by rfl)
    (hpl : ((backTo pos (starEach [] X.env)).any (·.1) || (backToKw pos (keywordEach kws X.env)).any (·.1.isNone)) = false := by rfl)
    (ht : eval (.Call (.Attribute o m apos) [] kws pos) X.env = (do
      let ov ← eval o X.env
      standAt apos.atName
      let (f, first) ← holding [ov] (getMethod ov m pl)
      callWith pos f first (backTo pos (starEach [] X.env)) (backToKw pos (keywordEach kws X.env))) := by rfl) :
    PE X (.Call (.Attribute o m apos) [] kws pos) (tMethKS C m sp E ta tk) := by
  obtain ⟨f, fd, F, hm, hb⟩ := G
  refine ⟨fun pins s σ H Q I h => ?_⟩
  refine PySem.W.methodCall_KW (pl := pl) (thn (he.run pins s σ H _ I h) fun u s1 ⟨x, H1, I1, rx, a, dx, fs, ex, ea, l, q⟩ => ?_) ht
  subst ex
  obtain rfl : u = Value.ref a := rx
  refine getmeth_ok I1 ea c hm l ?_
  refine PySem.W.callWith_KW0 (first := [.ref a]) (h₀ := X.base) I.ok.mod.kin hm.kp hall (thn (hkw.run pos pins s1 σ H1 _ I1 q) fun ws s2 ⟨zs, H2, I2, rz, q2⟩ => ⟨I2.kIn, ?_⟩) hpl
  rw [hks, List.append_nil]
  have r2 : Vals (.ref a :: zs) (.ref a :: ws) := .cons rfl rz
  have hl : ws.length = ks.length := by
    have h1 := F.len _ _ _ _ q2
    have h2 := rz.length
    simp at h1
    omega
  refine wpAny_call (codeAny_mono (F.run X.A X.stack s2 H2 ⟨[.ref a], ks.zip ws⟩ (.ref a :: ws) (.ref a :: zs) Q (E σ) hr I2.env0 (hb s2 (.ref a) ws hl) r2 q2) fun r s' hq => ?_)
  cases r with
  | error e => exact hx σ pins H2 s2 e s' I2 hq
  | ok fl =>
    cases fl with
    | ret u => exact I2.after hq
    | _ => exact False.elim hq
end
end Bk
end
section
/-! _law_refused. -/
namespace Bk
open PySem L2 LamX PySem.Spec PyProof.Rows
abbrev sRefused : Stmt := top 47
abbrev nRefused : List Str := ["_law_web", "_law_node", "_law_lot", "_law_word", "e"]
def rIsG (K : PySem.W.Frag) (D a : Addr) (cls : Value) (d : Option Addr) : List V → Hp → VK → Prop := fun xs H Q => cls = .ref D ∧ ∃ dd, d = some dd ∧ rIsD K D a dd xs H Q
theorem call_isG {X : Cx} {a D : Addr} {cls : Value} {d : Option Addr} {oe : Obj} {pn : List (Addr × Obj)} (C : ExcD X.K D) (hz : Zc cls d oe) (hf : ∃ vs, oe.data = .fields vs) : CallR (X.suite a ((a, oe) :: pn)) (.builtin "isinstance") (rIsG X.K D a cls d) := by
  intro pins s σ H xs us Q I r h
  obtain ⟨rfl, dd, rfl, h⟩ := h
  exact call_isD C hz hf pins s σ H xs us Q I r h
/-- what the handling of the three errors needs -/
structure ErrH (K : PySem.W.Frag) (mg : Str → Option Value) (Cr Cs Cp Cb : Addr) : Prop where
  gR : mg "Refused" = some (.ref Cr)
  gS : mg "NoState" = some (.ref Cs)
  gP : mg "NoPair" = some (.ref Cp)
  gB : mg "BackError" = some (.ref Cb)
  rr : PySem.W.exmOne K (.ref Cr) (.ref Cr) = some true
  sr : PySem.W.exmOne K (.ref Cs) (.ref Cr) = some false
  ss : PySem.W.exmOne K (.ref Cs) (.ref Cs) = some true
  pr : PySem.W.exmOne K (.ref Cp) (.ref Cr) = some false
  ps : PySem.W.exmOne K (.ref Cp) (.ref Cs) = some false
  pp : PySem.W.exmOne K (.ref Cp) (.ref Cp) = some true
  fr : XfC K Cr
  fs : XfC K Cs
  fp : XfC K Cp
  nr : PySem.W.findIn K (.ref Cr) "at" = some none
  ns : PySem.W.findIn K (.ref Cs) "state" = some none
  np : PySem.W.findIn K (.ref Cp) "pair" = some none
  dr : ExcD K Cr
  kr : PySem.W.kitOne K (.ref Cr) (.ref Cb) = some true
section
variable {P : Program} {w : World} {K : PySem.W.Frag} {mg : Str → Option Value} {base : Heap} {T : List (Addr × Str)} {Cd Cw Cs Cp Cr Cb : Addr}
def spRefused (T : List (Addr × Str)) (K : PySem.W.Frag) (Cd Cw : Addr) : Sp := fun vs H Q _ => ∃ (κ : Kd) (d : Dv) (p : Addr) (ks : List (List Nd)) (v u : V) (t : String) (wd : Str), vs = [.ref p, v, u, .str wd] ∧ WebAt K Cd Cw κ d p ks H ∧ Tabs T H ∧ Lk K H u t ∧
  (((∃ n, NV κ H v n ∧ InN κ d n) ∧ isLotV (sgs d) u = false ∧ ∀ H' b, Gr T H H' → H' b = some (.tup [.str "refused", u]) → Q (.ref b) H') ∨
   (∃ b, v = .ref b ∧ H b = some (.tup [.int (0 : Nat), .int (d.m : Nat)]) ∧ ∀ H' b, Gr T H H' → H' b = some (.tup [.str (nodF κ), v]) → Q (.ref b) H'))
theorem scRefused : FnScope nRefused ["_law_web", "_law_node", "_law_lot", "_law_word"] (defScope sRefused) := ⟨rfl, rfl, rfl, by decide +kernel, rfl, by decide +kernel, by decide +kernel⟩
theorem ok_refused {f : Addr} {fd : FuncData} (F : Fun K "_law_refused" "_law_refused" sRefused f fd) (B : Bt mg) (W : WbC K mg Cw) (EH : ErrH K mg Cr Cs Cp Cb) (G1 : MetK P w K mg base (L2.CX P w) 8 Cw "keep_rows" ["node", "lot"] (spKeepRows T K Cd Cw Cs Cp Cr)) (G2 : MetK P w K mg base (L2.CX P w) 7 Cw "keeps" ["node", "lot"] (spKeeps T K Cd Cw Cs Cp Cr)) :
    FnOk P w K mg base CX0 9 f fd ["_law_web", "_law_node", "_law_lot", "_law_word"] (spRefused T K Cd Cw) := by
  refine F.ok scRefused (fun vs H Q E h => ?_) (fun cdv A outer s H vs Q E hr h => ?_)
  · obtain ⟨κ, d, p, ks, v, u, t, wd, rfl, _⟩ := h
    rfl
  · obtain ⟨κ, d, p, ks, v, u, t, wd, rfl, hW, hT, hu, hk⟩ := h
    have hr7 := hr.mono (show 7 ≤ 8 by decide)
    refine ⟨_, pss_cons (ps_try_all (n := "e") (i := 4) rfl rfl scRefused.nd rfl rfl takes_none5
      (fun Wx pn xe tk _ => pss_one (ps_if (pt_cmpR op_eq (pv 3) pe_str (nomark _)) (pss_one (ps_expr (pe_metKS G1 W.cl (pv 0) hr (fun σ => passAt tk σ) (pk_cons (pv 1) (pk_cons (pv 2) pk_nil))))) (pss_one (ps_expr (pe_metKS G2 W.cl (pv 0) hr7 (fun σ => passAt tk σ) (pk_cons (pv 1) (pk_cons (pv 2) pk_nil)))))))
      (.cons (p := (.ref Cr, _)) ⟨rfl, by decide, .inl EH.gR⟩ (fun x ox cl dd pn hz hf => by exact pss_one (ps_ret (pe_ifExp (pt_val (pe_callB (call_isG EH.dr hz hf) (by rfl) B.isinstance (by decide +kernel) (pa_cons (pv 4) (pa_cons (by exact pe_glob (v := .ref Cb) rfl EH.gB rfl) pa_nil)))) (pe_tup (pa_cons pe_str (pa_cons (pe_xf EH.fr EH.nr hz hf (pv 4)) pa_nil))) pe_str)))
      (.cons (p := (.ref Cs, _)) ⟨rfl, by decide, .inl EH.gS⟩ (fun x ox cl dd pn hz hf => by exact pss_one (ps_ret (pe_tup (pa_cons pe_str (pa_cons (pe_xf EH.fs EH.ns hz hf (pv 4)) pa_nil)))))
      (.cons (p := (.ref Cp, _)) ⟨rfl, by decide, .inl EH.gP⟩ (fun x ox cl dd pn hz hf => by exact pss_one (ps_ret (pe_tup (pa_cons pe_str (pa_cons (pe_xf EH.fp EH.np hz hf (pv 4)) pa_nil))))) .nil))))
      (pss_one (ps_ret pe_non)), ?_⟩
    obtain ⟨dx, dp, tn, nd, sd, tk, hm, th, tg, kv, gv, hk', h1, _⟩ := id hW.ex
    refine ⟨_, rfl, rfl, _, rfl, ite2 (fun _ => ?_) fun _ => ?_⟩
    · refine ⟨_, rfl, p, dx, _, rfl, h1, rfl, _, rfl, _, rfl, κ, d, p, ks, v, u, t, rfl, hW, hT, hu, ?_⟩
      rcases hk with ⟨⟨n, hv, hi⟩, hl, k⟩ | ⟨b0, rfl, hb0, k⟩
      · refine .inl ⟨n, hv, hi, fun l e1 e2 => absurd e2 (by rw [hl]; exact Bool.false_ne_true), fun _ H1 g1 dd H2 g2 hdd hxd => ⟨true, EH.rr, fun _ x hx => ?_, fun z => absurd z (by decide)⟩⟩
        refine ⟨_, rfl, rfl, dd, rfl, .ref Cb, .ref Cb, true, _, rfl, fun _ r => r, EH.kr, hxd, _, rfl, iteT ⟨_, rfl, rfl, rfl, dd, _, u, rfl, hxd, rfl, by show 2 ≤ sizeLine; decide, fun b hb => k _ b ((g1.trans g2).trans (.new hb)) upd_same⟩⟩
      · refine .inr ⟨b0, rfl, hb0, fun dd H2 g2 hdd hxd => ?_⟩
        cases κ with
        | st => exact ⟨false, EH.sr, fun z => absurd z (by decide), fun _ => ⟨true, EH.ss, fun _ x hx => ⟨_, rfl, rfl, rfl, dd, _, _, rfl, hxd, rfl, by show 2 ≤ sizeLine; decide, fun b hb => k _ b (g2.trans (.new hb)) upd_same⟩, fun z => absurd z (by decide)⟩⟩
        | pr => exact ⟨false, EH.pr, fun z => absurd z (by decide), fun _ => ⟨false, EH.ps, fun z => absurd z (by decide), fun _ => ⟨true, EH.pp, fun _ x hx => ⟨_, rfl, rfl, rfl, dd, _, _, rfl, hxd, rfl, by show 2 ≤ sizeLine; decide, fun b hb => k _ b (g2.trans (.new hb)) upd_same⟩, fun z => absurd z (by decide)⟩⟩⟩
    · refine ⟨_, rfl, p, dx, _, rfl, h1, rfl, _, rfl, _, rfl, κ, d, p, ks, v, u, t, rfl, hW, hu, ?_⟩
      rcases hk with ⟨⟨n, hv, hi⟩, hl, k⟩ | ⟨b0, rfl, hb0, k⟩
      · refine .inl ⟨n, hv, hi, fun l e1 e2 => absurd e2 (by rw [hl]; exact Bool.false_ne_true), fun _ H1 g1 dd H2 g2 hdd hxd => ⟨true, EH.rr, fun _ x hx => ?_, fun z => absurd z (by decide)⟩⟩
        refine ⟨_, rfl, rfl, dd, rfl, .ref Cb, .ref Cb, true, _, rfl, fun _ r => r, EH.kr, hxd, _, rfl, iteT ⟨_, rfl, rfl, rfl, dd, _, u, rfl, hxd, rfl, by show 2 ≤ sizeLine; decide, fun b hb => k _ b ((g1.trans g2).trans (.new hb)) upd_same⟩⟩
      · refine .inr ⟨b0, rfl, hb0, fun dd H2 g2 hdd hxd => ?_⟩
        cases κ with
        | st => exact ⟨false, EH.sr, fun z => absurd z (by decide), fun _ => ⟨true, EH.ss, fun _ x hx => ⟨_, rfl, rfl, rfl, dd, _, _, rfl, hxd, rfl, by show 2 ≤ sizeLine; decide, fun b hb => k _ b (g2.trans (.new hb)) upd_same⟩, fun z => absurd z (by decide)⟩⟩
        | pr => exact ⟨false, EH.pr, fun z => absurd z (by decide), fun _ => ⟨false, EH.ps, fun z => absurd z (by decide), fun _ => ⟨true, EH.pp, fun _ x hx => ⟨_, rfl, rfl, rfl, dd, _, _, rfl, hxd, rfl, by show 2 ≤ sizeLine; decide, fun b hb => k _ b (g2.trans (.new hb)) upd_same⟩, fun z => absurd z (by decide)⟩⟩⟩
end
end Bk
end
section
/-! The law's lots against the great lots: plain. -/
namespace Bk
open PySem L2
theorem lotsA_mem {l : List Nat} : l.Nodup → ∀ y, y ∈ lotsA l ↔ ∃ q : Nat → Bool, y = l.filter q := by
  refine snoc_ind (C := fun l => l.Nodup → ∀ y, y ∈ lotsA l ↔ ∃ q : Nat → Bool, y = l.filter q) ?_ (fun l c ih => ?_) l
  · intro _ y
    show y ∈ [[]] ↔ _
    simp
  · intro nd y
    have nd1 := (List.nodup_append.mp nd).1
    have nc : c ∉ l := fun h => (List.nodup_append.mp nd).2.2 c h c (List.mem_singleton.mpr rfl) rfl
    have cut : ∀ (q : Nat → Bool) (b : Bool), (l ++ [c]).filter (fun x => if x = c then b else q x) = l.filter q ++ (if b = true then [c] else []) := fun q b => by
      rw [List.filter_append]
      congr 1
      · refine List.filter_congr fun x hx => ?_
        show (if x = c then b else q x) = q x
        rw [if_neg fun (e : x = c) => nc (e ▸ hx)]
      · cases b <;> simp
    rw [lotsA_snoc, List.mem_append, List.mem_map]
    constructor
    · rintro (h | ⟨z, h, rfl⟩)
      · obtain ⟨q, rfl⟩ := (ih nd1 y).mp h
        exact ⟨_, by rw [cut q false]; simp⟩
      · obtain ⟨q, rfl⟩ := (ih nd1 z).mp h
        exact ⟨_, by rw [cut q true]; simp⟩
    · rintro ⟨q, rfl⟩
      rw [List.filter_append]
      have hm : l.filter q ∈ lotsA l := (ih nd1 _).mpr ⟨q, rfl⟩
      cases hq : q c with
      | true =>
        refine .inr ⟨l.filter q, hm, ?_⟩
        rw [List.filter_cons_of_pos hq]
        rfl
      | false =>
        refine .inl ?_
        rw [List.filter_cons_of_neg (by rw [hq]; exact Bool.false_ne_true)]
        simpa using hm
theorem lotsA_nd {l : List Nat} : l.Nodup → (lotsA l).Nodup := by
  refine snoc_ind (C := fun l => l.Nodup → (lotsA l).Nodup) (fun _ => by show ([[]] : List (List Nat)).Nodup; simp) (fun l c ih nd => ?_) l
  have nd1 := (List.nodup_append.mp nd).1
  have nc : c ∉ l := fun h => (List.nodup_append.mp nd).2.2 c h c (List.mem_singleton.mpr rfl) rfl
  rw [lotsA_snoc]
  refine List.nodup_append.mpr ⟨ih nd1, ?_, fun a ha b hb e => ?_⟩
  · refine List.pairwise_map.mpr (List.Pairwise.imp (fun {a b} h e => h ?_) (ih nd1))
    exact List.append_cancel_right e
  · obtain ⟨z, hz, rfl⟩ := List.mem_map.mp hb
    obtain ⟨q, rfl⟩ := (lotsA_mem nd1 a).mp ha
    have : c ∈ l.filter q := by rw [e]; simp
    exact nc (List.mem_filter.mp this).1
theorem lotsA_hd (l : List Nat) : lotsA l = [] :: (lotsA l).drop 1 := by
  refine snoc_ind (C := fun l => lotsA l = [] :: (lotsA l).drop 1) rfl (fun l c ih => ?_) l
  rw [lotsA_snoc]
  generalize lotsA l = m at ih
  cases m with
  | nil => cases ih
  | cons a r =>
    have e : a = [] := (List.cons.inj ih).1
    rw [e]
    rfl
theorem sgs_nd {d : Dv} : (sgs d).Nodup := List.pairwise_map.mpr (List.Pairwise.imp (fun {a b} h e => h (sc_inj e)) List.nodup_range)
theorem sel_filter {d : Dv} {q : Nat → Bool} : (sgs d).filter q = selL d fun a => q (sc a) := by
  unfold sgs selL
  rw [List.filter_map]
  rfl
theorem lots_sel {d : Dv} {y : List Nat} : y ∈ lotsA (sgs d) ↔ ∃ q, y = selL d q := by
  rw [lotsA_mem sgs_nd]
  constructor
  · rintro ⟨q, rfl⟩
    exact ⟨_, sel_filter⟩
  · rintro ⟨q, rfl⟩
    refine ⟨fun c => q (c - 97), ?_⟩
    rw [sel_filter]
    congr 1
    funext a
    show q a = q (97 + a - 97)
    rw [Nat.add_sub_cancel_left]
theorem lots1 {d : Dv} {y : List Nat} : y ∈ (lotsA (sgs d)).drop 1 ↔ (∃ q, y = selL d q) ∧ y ≠ [] := by
  have e := lotsA_hd (sgs d)
  have nd := lotsA_nd (sgs_nd (d := d))
  rw [e] at nd
  have n0 := (List.nodup_cons.mp nd).1
  rw [← lots_sel]
  constructor
  · intro h
    refine ⟨?_, fun z => n0 (z ▸ h)⟩
    rw [e]
    exact List.mem_cons_of_mem _ h
  · rintro ⟨h, ne⟩
    rw [e] at h
    exact (List.mem_cons.mp h).resolve_left ne
theorem lots1_nd {d : Dv} : ((lotsA (sgs d)).drop 1).Nodup := (lotsA_nd sgs_nd).sublist (List.drop_sublist _ _)
theorem sel_isLot {d : Dv} {q : Nat → Bool} : isLotV (sgs d) (.str (tx (selL d q))) = true := by
  refine decide_eq_true (congrArg tx ?_)
  rw [sel_filter]
  unfold selL
  congr 1
  refine List.filter_congr fun a ha => ?_
  rw [tx_tl]
  cases hq : q a with
  | true => exact (decide_eq_true (List.mem_map.mpr ⟨a, List.mem_filter.mpr ⟨ha, hq⟩, rfl⟩)).symm
  | false =>
    refine (decide_eq_false fun h => ?_).symm
    obtain ⟨b, hb, e⟩ := List.mem_map.mp h
    have := (List.mem_filter.mp hb).2
    rw [sc_inj e, hq] at this
    cases this
theorem heldL_sel {κ : Kd} {d : Dv} {p : List Nd} : heldL κ d p = selL d fun a => p.any fun x => oIn (nx κ d a x) p := rfl
theorem heldL_congr {κ : Kd} {d : Dv} {p q : List Nd} (h : ∀ m, m ∈ p ↔ m ∈ q) : heldL κ d p = heldL κ d q := by
  unfold heldL
  congr 1
  refine List.filter_congr fun a _ => ?_
  have o : ∀ x, oIn x p = oIn x q := fun x => by
    cases x with
    | none => rfl
    | some m => exact decide_eq_decide.mpr (h m)
  rw [Bool.eq_iff_iff, List.any_eq_true, List.any_eq_true]
  exact ⟨fun ⟨x, hx, e⟩ => ⟨x, (h x).mp hx, by rw [← o]; exact e⟩, fun ⟨x, hx, e⟩ => ⟨x, (h x).mpr hx, by rw [o]; exact e⟩⟩
section
variable {κ : Kd} {d : Dv} {ks : List (List Nd)}
/-- the part of a node: what comes to it and it comes to -/
theorem part_iff (P : Parts (stp κ d) (nds κ d) ks) {i : Nat} {p : List Nd} (hp : ks[i]? = some p) {x : Nd} (hx : x ∈ p) (m : Nd) : m ∈ p ↔ Reach (stp κ d) x m ∧ Reach (stp κ d) m x := by
  constructor
  · exact fun h => ⟨P.scc p (List.mem_of_getElem? hp) x hx m h, P.scc p (List.mem_of_getElem? hp) m h x hx⟩
  · rintro ⟨h1, h2⟩
    obtain ⟨j, q, hj, hq, hm⟩ := reach_le P h1 hp hx
    obtain ⟨j', q', hj', hq', hx'⟩ := reach_le P h2 hq hm
    have e := P.uniq hp hq' hx hx'
    have e2 : j = i := by omega
    subst e2
    rw [hp] at hq
    cases hq
    exact hm
theorem round_held (P : Parts (stp κ d) (nds κ d) ks) {o : Nd} (ho : o ∈ nds κ d) {hs : List Nd} (h : ∀ m, m ∈ hs ↔ Reach (stp κ d) o m ∧ Reach (stp κ d) m o) : heldL κ d hs = heldOf κ d ks o := by
  obtain ⟨p, hp, hx⟩ := hm_lt P ho
  rw [held_at P hp hx]
  exact heldL_congr fun m => by rw [h m, part_iff P hp hx m]
/-- some of what is held takes all of z -/
def kb (rs : List (List Nat)) (z : List Nat) : Bool := rs.any fun h => within z h
def keptL (d : Dv) (rs : List (List Nat)) : List (List Nat) := ((lotsA (sgs d)).drop 1).filter (kb rs)
def greatL (d : Dv) (rs : List (List Nat)) : List (List Nat) := (keptL d rs).filter fun z => !((keptL d rs).any fun m => decide (m ≠ z) && within z m)
theorem heldOf_sel {o : Nd} : ∃ q, heldOf κ d ks o = selL d q := ⟨_, heldL_sel⟩
theorem mem_keptL {rs : List (List Nat)} {z : List Nat} : z ∈ keptL d rs ↔ ((∃ q, z = selL d q) ∧ z ≠ []) ∧ kb rs z = true := by
  unfold keptL
  rw [List.mem_filter, lots1]
theorem kb_iff {cs : List Nd} {z : List Nat} : kb (cs.map (heldOf κ d ks)) z = true ↔ ∃ o ∈ cs, within z (heldOf κ d ks o) = true := by
  unfold kb
  rw [List.any_map, List.any_eq_true]
  rfl
theorem within_refl {z : List Nat} : within z z = true := within_iff.mpr fun _ h => h
theorem within_trans {a b c : List Nat} (h1 : within a b = true) (h2 : within b c = true) : within a c = true := within_iff.mpr fun x hx => within_iff.mp h2 x (within_iff.mp h1 x hx)
variable {n : Nd} {cs : List Nd}
theorem held_kept (hc : ∀ y, y ∈ cs ↔ Reach (stp κ d) n y) {o : Nd} (ho : Reach (stp κ d) n o) (ne : heldOf κ d ks o ≠ []) : heldOf κ d ks o ∈ keptL d (cs.map (heldOf κ d ks)) := mem_keptL.mpr ⟨⟨heldOf_sel, ne⟩, kb_iff.mpr ⟨o, (hc o).mpr ho, within_refl⟩⟩
/-- a lot is kept, by what the law lists -/
theorem kept_kb (hc : ∀ y, y ∈ cs ↔ Reach (stp κ d) n y) {z : List Nat} (hz : z ≠ []) : kb (cs.map (heldOf κ d ks)) z = true ↔ Kept κ d ks n (tx z) := by
  rw [kb_iff]
  constructor
  · rintro ⟨o, ho, h⟩
    refine ⟨_, ⟨o, (hc o).mp ho, rfl, fun e => ?_⟩, by rw [inS_tx]; exact h⟩
    rw [e] at h
    cases z with
    | nil => exact hz rfl
    | cons a r => simpa using within_iff.mp h a List.mem_cons_self
  · rintro ⟨m, ⟨o, ho, rfl, _⟩, h⟩
    rw [inS_tx] at h
    exact ⟨o, (hc o).mpr ho, h⟩
theorem kept_nil (hc : ∀ y, y ∈ cs ↔ Reach (stp κ d) n y) : keptL d (cs.map (heldOf κ d ks)) ≠ [] ↔ Kept κ d ks n (tx []) := by
  constructor
  · intro h
    cases e : keptL d (cs.map (heldOf κ d ks)) with
    | nil => exact absurd e h
    | cons z r =>
      have hz : z ∈ keptL d (cs.map (heldOf κ d ks)) := by rw [e]; exact List.mem_cons_self
      obtain ⟨⟨_, ne⟩, hk⟩ := mem_keptL.mp hz
      obtain ⟨m, hm, _⟩ := (kept_kb hc ne).mp hk
      exact ⟨m, hm, within_iff.mpr fun c hc => by simp [tx_tl] at hc⟩
  · rintro ⟨m, ⟨o, ho, _, ne⟩, _⟩ e
    have := held_kept hc ho ne
    rw [e] at this
    cases this
/-- the great lots that the law lists are those of the web -/
theorem great_same (hc : ∀ y, y ∈ cs ↔ Reach (stp κ d) n y) {gs : List Str} (G : GreatAt κ d ks n gs) : gs = sortT ((greatL d (cs.map (heldOf κ d ks))).map tx) := by
  obtain ⟨g1, g2, g3⟩ := G
  refine sortT_uniq ((List.perm_ext_iff_of_nodup g2 ?_).mpr fun z => ?_) g1
  · have : (greatL d (cs.map (heldOf κ d ks))).Nodup := (lots1_nd.filter _).filter _
    exact List.pairwise_map.mpr (List.Pairwise.imp (fun {a b} h e => h (tx_inj e)) this)
  · rw [g3, List.mem_map]
    have memG : ∀ y, y ∈ greatL d (cs.map (heldOf κ d ks)) ↔ y ∈ keptL d (cs.map (heldOf κ d ks)) ∧ ∀ m ∈ keptL d (cs.map (heldOf κ d ks)), within y m = true → m = y := fun y => by
      unfold greatL
      rw [List.mem_filter, Bool.not_eq_true', ← Bool.not_eq_true, List.any_eq_true]
      refine and_congr .rfl ⟨fun h m hm hw => ?_, fun h ⟨m, hm, hw⟩ => ?_⟩
      · by_cases e : m = y
        · exact e
        · exact absurd ⟨m, hm, by simp [e, hw]⟩ h
      · simp only [Bool.and_eq_true, decide_eq_true_eq] at hw
        exact hw.1 (h m hm hw.2)
    constructor
    · rintro ⟨⟨o, ho, rfl, ne⟩, hmax⟩
      refine ⟨_, (memG _).mpr ⟨held_kept hc ho ne, fun m hm hw => ?_⟩, rfl⟩
      obtain ⟨⟨⟨q, rfl⟩, mne⟩, hk⟩ := mem_keptL.mp hm
      obtain ⟨o2, ho2, hw2⟩ := kb_iff.mp hk
      have ne2 : heldOf κ d ks o2 ≠ [] := fun e => by
        rw [e] at hw2
        cases e2 : selL d q with
        | nil => exact mne e2
        | cons a r => 
          rw [e2] at hw2
          simpa using within_iff.mp hw2 a List.mem_cons_self
      have e3 := tx_inj (hmax (tx (heldOf κ d ks o2)) ⟨o2, (hc o2).mp ho2, rfl, ne2⟩ (by rw [inS_tx]; exact within_trans hw hw2))
      rw [← e3] at hw2
      obtain ⟨q2, e4⟩ := heldOf_sel (κ := κ) (d := d) (ks := ks) (o := o)
      rw [e4] at hw2 hw ⊢
      exact selL_anti hw2 hw
    · rintro ⟨y, hy, rfl⟩
      obtain ⟨hk, hmax⟩ := (memG y).mp hy
      obtain ⟨⟨_, ne⟩, hkb⟩ := mem_keptL.mp hk
      obtain ⟨o, ho, hw⟩ := kb_iff.mp hkb
      have ne2 : heldOf κ d ks o ≠ [] := fun e => by
        rw [e] at hw
        cases y with
        | nil => exact ne rfl
        | cons a r => simpa using within_iff.mp hw a List.mem_cons_self
      have e := hmax _ (held_kept hc ((hc o).mp ho) ne2) hw
      refine ⟨⟨o, (hc o).mp ho, by rw [e], ne2⟩, fun m hm hi => ?_⟩
      obtain ⟨o2, ho2, rfl, ne3⟩ := hm
      rw [inS_tx] at hi
      rw [hmax _ (held_kept hc ho2 ne3) hi]
end
end Bk
end
section
/-! For _law_node_right: texts in lists, their repr, the tests of its comprehensions. -/
namespace Bk
open PySem L2 LamX PySem.Spec PyProof.Rows
abbrev vT (z : List Nat) : V := .str (tx z)
abbrev dT (z : List Nat) : PyData := .str (tx z)
/-- small code points -/
def Smc (z : List Nat) : Prop := ∀ c ∈ z, c < 200
theorem strOk_tx {z : List Nat} (h : Smc z) : PyData.canLay0 (dT z) = true := by
  show (tx z).cps.all (· < 0x110000) = true
  rw [Array.all_eq_true']
  intro c hc
  have : c ∈ z := by
    have := Array.mem_toList_iff.mpr hc
    rwa [tx_tl] at this
  have := h c this
  exact decide_eq_true (by omega)
theorem layTx : ∀ {xs : List (List Nat)}, (∀ z ∈ xs, Smc z) → PyData.canLayAll0 (xs.map dT) = true
  | [], _ => rfl
  | z :: r, h => by
    show (PyData.canLay0 (dT z) && PyData.canLayAll0 (r.map dT)) = true
    rw [strOk_tx (h z List.mem_cons_self), layTx fun y hy => h y (List.mem_cons_of_mem _ hy)]
    rfl
theorem dpTx {K : PySem.W.Frag} {H : Hp} : ∀ xs : List (List Nat), DpAll K H (xs.map vT) (xs.map dT)
  | [] => .nil
  | z :: r => .cons (.str _) (dpTx r)
theorem depTx {xs : List (List Nat)} : ∀ d ∈ xs.map dT, d.depth ≤ 10 := fun d hd => by
  obtain ⟨z, _, rfl⟩ := List.mem_map.mp hd
  exact Nat.zero_le _
theorem smc_sgs {d : Dv} {z : List Nat} (h : ∀ c ∈ z, c ∈ sgs d) : Smc z := fun c hc => by
  obtain ⟨a, ha, rfl⟩ := mem_sgs.mp (h c hc)
  have := d.s5
  unfold sc
  omega
theorem smc_sel {d : Dv} {q : Nat → Bool} : Smc (selL d q) := smc_sgs fun c hc => by
  obtain ⟨a, ha, _, rfl⟩ := mem_selL.mp hc
  exact mem_sgs.mpr ⟨a, ha, rfl⟩
/-! sorted of a list of texts -/
theorem each_str : ∀ zs : List Str, PySem.W.EachIs (fun v b => v = V.str b) (zs.map V.str) zs
  | [] => .nil
  | z :: r => .cons rfl (each_str r)
theorem sortTx {K : PySem.W.Frag} {H : Hp} {a : Addr} {zs : List Str} {Q : VK} (hl : SqL K H a (zs.map V.str)) (q : ∀ p, H p = none → Q (.ref p) (upd H p (.lst ((sortT zs).map V.str)))) : rSortedD K PyData.str [.ref a] H Q := by
  refine ⟨a, zs.map V.str, zs, fun v b => v = V.str b, rfl, hl, each_str zs, fun v b h => h ▸ .str b, PySem.W.AllAlike.of fun b b' => rfl, PySem.W.Sortable.others (enc := PyData.str) (bs := zs) fun b => ⟨(fun z => nomatch z), (fun xs z => nomatch z)⟩, fun b _ => Nat.zero_le _, fun out eo p hp => ?_⟩
  have z : zs.mergeSort (PySem.W.dataLe false PyData.str) = sortT zs := by
    rw [show (PySem.W.dataLe false PyData.str) = leT from PySem.W.dataLe_str id]
    rfl
  rw [z] at eo
  rw [each_txt eo]
  exact q p hp
/-! repr -/
theorem len_tup : ∀ ts : List Str, (∀ t ∈ ts, t.length ≤ 1000) → ts.length ≤ 100 → (tupleText ts).length ≤ sizeLine := fun ts h1 h2 => by
  have pl : ∀ l : List Str, (∀ t ∈ l, t.length ≤ 1000) → piled l ≤ 1002 * l.length := fun l => by
    induction l with
    | nil => intro _; exact Nat.le_refl _
    | cons t r ih =>
      intro h
      rw [piled_cons, List.length_cons]
      have a := h t List.mem_cons_self
      have b := ih fun x hx => h x (List.mem_cons_of_mem _ hx)
      omega
  have j : (Str.join ", " ts).length ≤ 1002 * ts.length := by
    cases e : ts with
    | nil => exact Nat.zero_le _
    | cons t r =>
      have := join_length_add (t :: r) (by simp)
      have b := pl (t :: r) (by rw [← e]; exact h1)
      omega
  unfold tupleText
  rw [strLen_append, strLen_append]
  have e1 : ((if ts.length == 1 then ",)" else ")" : String) : Str).length ≤ 2 := by
    split
    · exact Nat.le_refl _
    · exact Nat.le_succ _
  have e2 : ("(" : Str).length = 1 := rfl
  rw [sizeLine_eq]
  omega
theorem len_repr {z : List Nat} (h : Smc z) (hl : z.length ≤ 90) : (PyData.shown (dT z)).length ≤ 1000 := by
  have := PySem.StrLaws.reprText_len (tx z) fun c hc => by
    rw [tx_tl] at hc
    exact Nat.lt_of_lt_of_le (h c hc) (by decide)
  rw [tx_len] at this
  show (reprText (tx z)).length ≤ 1000
  omega
theorem shownAll_map : ∀ ds : List PyData, PyData.shownAll ds = ds.map PyData.shown
  | [] => rfl
  | d :: r => by
    show PyData.shown d :: PyData.shownAll r = _
    rw [shownAll_map r]
    rfl
/-- repr of a tuple of short data -/
theorem reprTup {K : PySem.W.Frag} {H : Hp} {b : Addr} {vs : List V} {ds : List PyData} {Q : VK} (hb : SqT K H b vs) (hd : DpAll K H vs ds) (sh : PyData.showableAll ds = true) (nd : PyData.hasDictAll ds = false) (dp : ∀ d ∈ ds, d.depth ≤ 10) (ln : ∀ d ∈ ds, (PyData.shown d).length ≤ 1000) (l100 : ds.length ≤ 100)
    (q : Q (.str (PyData.shown (.tuple ds))) H) : rRepr K [.ref b] H Q := by
  refine ⟨.ref b, .tuple ds, rfl, .tup hb hd, sh, nd, ?_, ?_, q⟩
  · show PyData.depthAll ds + 1 ≤ 60
    have := depthAll_le dp
    omega
  · show (tupleText (PyData.shownAll ds)).length ≤ sizeLine
    rw [shownAll_map]
    refine len_tup _ (fun t ht => ?_) (by rw [List.length_map]; exact l100)
    obtain ⟨d, hd, rfl⟩ := List.mem_map.mp ht
    exact ln d hd
theorem showTx : ∀ xs : List (List Nat), PyData.showableAll (xs.map dT) = true ∧ PyData.hasDictAll (xs.map dT) = false
  | [] => ⟨rfl, rfl⟩
  | z :: r => showTx r
theorem reprTxs {K : PySem.W.Frag} {H : Hp} {b : Addr} {xs : List (List Nat)} {Q : VK} (hb : SqT K H b (xs.map vT)) (hx : ∀ z ∈ xs, Smc z ∧ z.length ≤ 90) (l100 : xs.length ≤ 100) (q : Q (.str (PyData.shown (.tuple (xs.map dT)))) H) : rRepr K [.ref b] H Q := by
  refine reprTup hb (dpTx xs) (showTx xs).1 (showTx xs).2 depTx (fun d hd => ?_) (by rw [List.length_map]; exact l100) q
  obtain ⟨z, hz, rfl⟩ := List.mem_map.mp hd
  exact len_repr (hx z hz).1 (hx z hz).2
theorem reprBl {K : PySem.W.Frag} {H : Hp} {b : Bool} {Q : VK} (q : Q (.str (PyData.shown (.bool b))) H) : rRepr K [.bl b] H Q := by
  refine ⟨.bl b, .bool b, rfl, .bl b, rfl, rfl, Nat.zero_le _, ?_, q⟩
  cases b <;> exact Nat.le_of_lt (lt_line (by decide))
/-! [signal for signal in lot if signal not in one] == [] -/
abbrev rNotSgn : R2 := fun x y H Q => ∃ c z, x = V.str ⟨#[c]⟩ ∧ y = V.str z ∧ Q (V.bl (!decide (c ∈ z.cps.toList))) H
section
variable {K : PySem.W.Frag} {T : List (Addr × Str)}
theorem sub_ok {σ : L2.St} {H : Hp} {z h : List Nat} {j : Nat} {Q : Bool → Hp → Prop} (hl : 14 < σ.length) (h6 : σ[6]? = some (some (vT z))) (hj : σ[j]? = some (some (vT h))) (jn : j ≠ 14) (z5 : z.length ≤ 5) (hz : Smc z) (k : ∀ H', Gr T H H' → Q (within z h) H') :
    tTest (tOp (rEqD K) (tLc (iStr (tVar 6)) (gName 14) (tTest (tOp rNotSgn (tVar 14) (tVar j))) (tVar 14) [14]) (tLst tNil)) σ H Q := by
  refine ⟨_, h6, tx z, rfl, fun D hD => ?_⟩
  have g14 : ∀ x : Option V, ((σ.set 14 none).set 14 x)[14]? = some x := fun x => by
    rw [List.getElem?_set_self (by rw [List.length_set]; exact hl)]
  have gj : ∀ x : Option V, ((σ.set 14 none).set 14 x)[j]? = some (some (vT h)) := fun x => by
    rw [List.getElem?_set_ne (Ne.symm jn), List.getElem?_set_ne (Ne.symm jn)]
    exact hj
  have gw : ∀ x : Option V, ((σ.set 14 none).set 14 x).set 14 none = σ.set 14 none := fun x => by
    rw [List.set_set, List.set_set]
  refine lc_fm (T := T) (L := []) (F := fun c => if c ∈ h then none else some (V.str (sgn c))) walk_strL .start hD (fun _ _ => trivial) (fun i c H2 hc g2 fm => ?_) fun H2 g2 fm => ?_
  · refine ⟨gw _, _, g14 _, _, gj _, c, tx h, rfl, rfl, _, rfl, ?_⟩
    have e : decide (c ∈ (tx h).cps.toList) = decide (c ∈ h) := by rw [tx_tl]
    rw [e]
    by_cases hm : c ∈ h
    · rw [decide_eq_true hm]
      exact fm_skip g2 fm hc (if_pos hm)
    · rw [decide_eq_false hm]
      exact ⟨_, g14 _, fm_add hD g2 fm hc (if_neg hm) (lt_line (by omega))⟩
  · have e : (z.filterMap fun c => if c ∈ h then none else some (V.str (sgn c))) = ((z.filter fun c => !decide (c ∈ h)).map fun c => [c]).map vT := by
      rw [List.map_map]
      generalize z = l
      induction l with
      | nil => rfl
      | cons a r ih =>
        rw [List.filterMap_cons, List.filter_cons]
        by_cases hm : a ∈ h
        · rw [if_pos hm, decide_eq_true hm]
          exact ih
        · rw [if_neg hm, decide_eq_false hm]
          show _ :: _ = _ :: _
          rw [ih]
          rfl
    rw [e] at fm
    refine ⟨Nat.zero_le _, fun l hl => ?_⟩
    have gl : Gr T H2 (upd H2 l (.lst [])) := .new hl
    refine eqNil (SqL.of (gl.lst (fm.get (i := 0) rfl))) (dpTx _) (layTx fun y hy => ?_) depTx (SqL.of upd_same) ⟨_, rfl, ?_⟩
    · obtain ⟨c, hc, rfl⟩ := List.mem_map.mp hy
      intro x hx
      rw [List.mem_singleton.mp hx]
      exact hz c (List.mem_filter.mp hc).1
    · have e2 : ((((z.filter fun c => !decide (c ∈ h)).map fun c => [c]).map dT).isEmpty) = within z h := by
        unfold within
        rw [List.map_map]
        generalize z = l
        induction l with
        | nil => rfl
        | cons a r ih =>
          rw [List.filter_cons, List.all_cons]
          by_cases hm : a ∈ h
          · rw [decide_eq_true hm]
            simpa using ih
          · rw [decide_eq_false hm]
            rfl
      rw [e2]
      exact k _ (g2.trans gl)
end
end Bk
end
section
/-! For _law_node_right: the tests of kept and great. -/
namespace Bk
open PySem L2 LamX PySem.Spec PyProof.Rows
theorem fm_filter (p : List Nat → Bool) : ∀ l : List (List Nat), (l.filterMap fun h => if p h = true then some (vT h) else none) = (l.filter p).map vT
  | [] => rfl
  | a :: r => by
    rw [List.filterMap_cons, List.filter_cons]
    cases h : p a with
    | true =>
      show _ :: _ = _ :: _
      rw [fm_filter p r]
    | false => exact fm_filter p r
section
variable {K : PySem.W.Frag} {T : List (Addr × Str)}
theorem kept_test {σ : L2.St} {H : Hp} {z : List Nat} {rs : List (List Nat)} {R : Addr} {Q : Bool → Hp → Prop} (hl : 14 < σ.length) (h6 : σ[6]? = some (some (vT z))) (h5 : σ[5]? = some (some (.ref R))) (hR : H R = some (.lst (rs.map vT))) (z5 : z.length ≤ 5) (hz : Smc z) (hrs : ∀ h ∈ rs, Smc h) (rl : rs.length ≤ 100) (k : ∀ H', Gr T H H' → Q (kb rs z) H') :
    tTest (tOp (rNeD K) (tLc (iList K (tVar 5)) (gName 13) (tTest (tOp (rEqD K) (tLc (iStr (tVar 6)) (gName 14) (tTest (tOp rNotSgn (tVar 14) (tVar 13))) (tVar 14) [14]) (tLst tNil))) (tVar 13) [13]) (tLst tNil)) σ H Q := by
  refine ⟨_, h5, R, rfl, ⟨_, SqL.of hR⟩, fun D hD => ?_⟩
  have g13 : ∀ x : Option V, ((σ.set 13 none).set 13 x)[13]? = some x := fun x => by
    rw [List.getElem?_set_self (by rw [List.length_set]; omega)]
  have gw : ∀ x : Option V, ((σ.set 13 none).set 13 x).set 13 none = σ.set 13 none := fun x => by
    rw [List.set_set, List.set_set]
  have g6 : ∀ x : Option V, ((σ.set 13 none).set 13 x)[6]? = some (some (vT z)) := fun x => by
    rw [List.getElem?_set_ne (by decide), List.getElem?_set_ne (by decide)]
    exact h6
  have wk : Walk (Itl K R) rs.length (fun H => SqL K H R (rs.map vT)) (YAt (rs.map vT)) := walk_listL
  refine lc_fm (T := T) (L := []) (F := fun h => if within z h = true then some (vT h) else none) wk .start hD (fun H' g => g.sqL (SqL.of hR)) (fun i h H2 hh g2 fm => ?_) fun H2 g2 fm => ?_
  · refine ⟨gw _, sub_ok (T := T) (σ := (σ.set 13 none).set 13 (some (vT h))) (by rw [List.length_set, List.length_set]; exact hl) (g6 _) (g13 _) (by decide) z5 hz fun H3 g3 => ?_⟩
    have fm3 := fm.gr g3
    cases hw : within z h with
    | true => exact ⟨_, g13 _, fm_add hD (g2.trans g3) fm3 hh (if_pos hw) (lt_line (by omega))⟩
    | false => exact fm_skip (g2.trans g3) fm3 hh (if_neg (by rw [hw]; exact Bool.false_ne_true))
  · rw [fm_filter] at fm
    refine ⟨Nat.zero_le _, fun l hl => ?_⟩
    have gl : Gr T H2 (upd H2 l (.lst [])) := .new hl
    refine neNil (SqL.of (gl.lst (fm.get (i := 0) rfl))) (dpTx _) (layTx fun y hy => hrs y (List.mem_filter.mp hy).1) depTx (SqL.of upd_same) ⟨_, rfl, ?_⟩
    rw [any_filter]
    exact k _ (g2.trans gl)
theorem great_test {σ : L2.St} {H : Hp} {z : List Nat} {kl : List (List Nat)} {R : Addr} {Q : Bool → Hp → Prop} (hl : 15 < σ.length) (h6 : σ[6]? = some (some (vT z))) (h7 : σ[7]? = some (some (.ref R))) (hR : H R = some (.lst (kl.map vT))) (z5 : z.length ≤ 5) (hz : Smc z) (hrs : ∀ h ∈ kl, Smc h) (rl : kl.length ≤ 100) (k : ∀ H', Gr T H H' → Q (!(kl.any fun m => decide (m ≠ z) && within z m)) H') :
    tTest (tOp (rEqD K) (tLc (iList K (tVar 7)) (gName 15) (tAnd (tTest (tOp rNe (tVar 15) (tVar 6))) (tTest (tOp (rEqD K) (tLc (iStr (tVar 6)) (gName 14) (tTest (tOp rNotSgn (tVar 14) (tVar 15))) (tVar 14) [14]) (tLst tNil)))) (tVar 15) [15]) (tLst tNil)) σ H Q := by
  refine ⟨_, h7, R, rfl, ⟨_, SqL.of hR⟩, fun D hD => ?_⟩
  have g15 : ∀ x : Option V, ((σ.set 15 none).set 15 x)[15]? = some x := fun x => by
    rw [List.getElem?_set_self (by rw [List.length_set]; omega)]
  have gw : ∀ x : Option V, ((σ.set 15 none).set 15 x).set 15 none = σ.set 15 none := fun x => by
    rw [List.set_set, List.set_set]
  have g6 : ∀ x : Option V, ((σ.set 15 none).set 15 x)[6]? = some (some (vT z)) := fun x => by
    rw [List.getElem?_set_ne (by decide), List.getElem?_set_ne (by decide)]
    exact h6
  have wk : Walk (Itl K R) kl.length (fun H => SqL K H R (kl.map vT)) (YAt (kl.map vT)) := walk_listL
  refine lc_fm (T := T) (L := []) (F := fun m => if (decide (m ≠ z) && within z m) = true then some (vT m) else none) wk .start hD (fun H' g => g.sqL (SqL.of hR)) (fun i m H2 hm g2 fm => ?_) fun H2 g2 fm => ?_
  · refine ⟨gw _, _, g15 _, _, g6 _, rfl, _, rfl, ?_⟩
    have e : (!decide (vT m = vT z)) = decide (m ≠ z) := by
      by_cases h : m = z
      · subst h
        simp
      · have : vT m ≠ vT z := fun e => h (tx_inj (V.str.inj e))
        simp [h, this]
    show (if (!decide (vT m = vT z)) = true then _ else _)
    rw [e]
    by_cases h : m = z
    · rw [decide_eq_false (fun z => z h)]
      exact fm_skip g2 fm hm (if_neg (by simp [h]))
    · rw [decide_eq_true h]
      refine iteT (sub_ok (T := T) (σ := (σ.set 15 none).set 15 (some (vT m))) (by rw [List.length_set, List.length_set]; omega) (g6 _) (g15 _) (by decide) z5 hz fun H3 g3 => ?_)
      have fm3 := fm.gr g3
      cases hw : within z m with
      | true => exact ⟨_, g15 _, fm_add hD (g2.trans g3) fm3 hm (if_pos (by simp [h, hw])) (lt_line (by omega))⟩
      | false => exact fm_skip (g2.trans g3) fm3 hm (if_neg (by simp [hw]))
  · rw [fm_filter] at fm
    refine ⟨Nat.zero_le _, fun l hl => ?_⟩
    have gl : Gr T H2 (upd H2 l (.lst [])) := .new hl
    refine eqNil (SqL.of (gl.lst (fm.get (i := 0) rfl))) (dpTx _) (layTx fun y hy => hrs y (List.mem_filter.mp hy).1) depTx (SqL.of upd_same) ⟨_, rfl, ?_⟩
    have e := any_filter (fun m => decide (m ≠ z) && within z m) dT kl
    have e2 : ((kl.filter fun m => decide (m ≠ z) && within z m).map dT).isEmpty = !(kl.any fun m => decide (m ≠ z) && within z m) := by
      rw [← e, Bool.not_not]
    rw [e2]
    exact k _ (g2.trans gl)
end
end Bk
end
section
/-! For _law_node_right: is_kept, told. -/
namespace Bk
open PySem L2 LamX PySem.Spec PyProof.Rows
theorem inV_tx {z : List Nat} : ∀ kl : List (List Nat), inV (vT z) (kl.map vT) = decide (z ∈ kl)
  | [] => by simp [inV]
  | a :: r => by
    have ih := inV_tx (z := z) r
    unfold inV at ih ⊢
    rw [List.map_cons, List.any_cons, ih]
    have e : eqV (vT a) (vT z) = decide (a = z) := by
      show decide (tx a = tx z) = _
      by_cases h : a = z
      · rw [h]
        simp
      · rw [decide_eq_false h, decide_eq_false fun e => h (tx_inj e)]
    rw [e]
    by_cases h : a = z
    · subst h
      simp
    · have h' : z ≠ a := fun e => h e.symm
      by_cases h2 : z ∈ r <;> simp [h, h', h2]
theorem flat_tx (kl : List (List Nat)) : (kl.map vT).all flatV = true := by
  rw [List.all_map, List.all_eq_true]
  exact fun _ _ => rfl
section
variable {K : PySem.W.Frag} {T : List (Addr × Str)} {Cd Cw Cs Cp Cr : Addr}
theorem isk_ok {σ : L2.St} {H : Hp} {z : List Nat} {kl : List (List Nat)} {R : Addr} {Q : VK} (h6 : σ[6]? = some (some (vT z))) (h7 : σ[7]? = some (some (.ref R))) (hR : H R = some (.lst (kl.map vT))) (hrs : ∀ h ∈ kl, Smc h)
    (k : ∀ H' (b : Bool), Gr T H H' → (b = true ↔ (z ∈ kl ∨ z = [] ∧ kl ≠ [])) → Q (.bl b) H') :
    tOrV (tOp (rIn K false) (tVar 6) (tVar 7)) (tAndV (tOp rEq (tVar 6) (tC (V.str ""))) (tOp (rNeD K) (tVar 7) (tLst tNil))) σ H Q := by
  refine ⟨_, h6, _, h7, R, _, rfl, .inl (SqL.of hR), rfl, flat_tx kl, _, rfl, ?_⟩
  show (if (if false = true then !inV (vT z) (kl.map vT) else inV (vT z) (kl.map vT)) = true then _ else _)
  rw [if_neg Bool.false_ne_true, inV_tx]
  by_cases hz : z ∈ kl
  · rw [decide_eq_true hz]
    exact iteT (k H true .refl ⟨fun _ => .inl hz, fun _ => rfl⟩)
  · rw [decide_eq_false hz]
    refine iteF ⟨_, h6, rfl, _, rfl, ?_⟩
    by_cases e : z = []
    · subst e
      refine iteT ⟨_, h7, Nat.zero_le _, fun l hl => ?_⟩
      have gl : Gr T H (upd H l (.lst [])) := .new hl
      refine neNil (SqL.of (gl.lst hR)) (dpTx _) (layTx hrs) depTx (SqL.of upd_same) (k _ _ gl ?_)
      cases kl with
      | nil => simp
      | cons a r => simp
    · have ne : V.str (tx z) ≠ V.str "" := fun h => e (tx_inj (m := []) (V.str.inj h))
      rw [decide_eq_false ne]
      refine iteF (k H false .refl ⟨fun h => absurd h Bool.false_ne_true, fun h => ?_⟩)
      rcases h with h | h
      · exact absurd h hz
      · exact absurd h.1 e
theorem told_ok {σ : L2.St} {H : Hp} {κ : Kd} {d : Dv} {ks : List (List Nd)} {p : Addr} {v : V} {n : Nd} {z : List Nat} {Q : VK} (h0 : σ[0]? = some (some (.ref p))) (h3 : σ[3]? = some (some v)) (h6 : σ[6]? = some (some (vT z))) (hW : WebAt K Cd Cw κ d p ks H) (hT : Tabs T H) (hv : NV κ H v n) (hi : InN κ d n)
    (hz : isLotV (sgs d) (vT z) = true) (zl : z.length ≤ 5) (k1 : ¬ Kept κ d ks n (tx z) → ∀ H', Gr T H H' → Q .non H') (k2 : Kept κ d ks n (tx z) → ∀ H' b r c, Gr T H H' → H' b = some (.tup [.str (tx r), .str (tx c)]) → KR κ d n z r c → Q (.ref b) H') :
    tIf (tTest (tOp rEq (tCB (fun xs H Q => ∃ z, xs = [V.str z] ∧ z.length ≤ sizeLine ∧ Q (V.int (z.length : Nat)) H) (tCons (tVar 6) tNil)) (tC (V.int 1)))) (tMeth Cw "keep_rows" (spKeepRows T K Cd Cw Cs Cp Cr) [] E0 (tVar 0) (tCons (tVar 3) (tCons (tVar 6) tNil)))
      (tMethKS Cw "keep_rows" (spKeepRows T K Cd Cw Cs Cp Cr) (fun _ => E0) (tVar 0) (tCons (tVar 3) (tCons (tVar 6) tNil))) σ H Q := by
  obtain ⟨dx, dp, tn, nd, sd, tk, hm, th, tg, kv, gv, hk, h1, _⟩ := id hW.ex
  have go : spKeepRows T K Cd Cw Cs Cp Cr [.ref p, v, vT z] H Q E0 := ⟨κ, d, p, ks, v, vT z, "str", rfl, hW, hT, .str _, .inl ⟨n, hv, hi, fun l e1 e2 => by
    have e := tx_inj (V.str.inj e1)
    subst e
    exact ⟨k1, k2⟩, fun hf => absurd hz (by rw [hf]; exact Bool.false_ne_true)⟩⟩
  refine ⟨_, h6, tx z, rfl, by rw [tx_len]; exact Nat.le_of_lt (lt_line (by omega)), rfl, _, rfl, ite2 (fun _ => ?_) fun _ => ?_⟩
  · exact ⟨_, h0, p, dx, _, rfl, h1, rfl, _, h3, _, h6, go⟩
  · exact ⟨_, h0, p, dx, _, rfl, h1, rfl, _, h3, _, h6, go⟩
/-- a value that is no lot -/
structure Nolot (K : PySem.W.Frag) (T : List (Addr × Str)) (d : Dv) (H : Hp) (u : V) : Prop where
  ex : ∃ (ty : String) (du : PyData), (∀ H', Gr T H H' → Lk K H' u ty ∧ Dp K H' u du) ∧ isLotV (sgs d) u = false ∧ PyData.showable du = true ∧ PyData.hasDict du = false ∧ du.depth ≤ 10 ∧ (PyData.shown du).length ≤ 1000
theorem refus_ok {σ : L2.St} {H : Hp} {κ : Kd} {d : Dv} {ks : List (List Nd)} {p : Addr} {v u : V} {n : Nd} {D : Ends} {tr : TS} (hl : 16 < σ.length) (h0 : σ[0]? = some (some (.ref p))) (h3 : σ[3]? = some (some v)) (h11 : σ[11]? = some (some u)) (hW : WebAt K Cd Cw κ d p ks H) (hT : Tabs T H) (hv : NV κ H v n) (hi_ : InN κ d n) (hu : Nolot K T d H u)
    (k : ∀ H', Gr T H H' → D.nx σ H') :
    tIfS (tTest (tOp (rNeD K) (tLc (iTup K (tTup (tCons (tC (V.str "keeps")) (tCons (tC (V.str "rows")) tNil)))) (gName 16) (tTest (tOp rNe (tCB (rRepr K) (tCons (tCall (spRefused T K Cd Cw) [] E0 (tCons (tVar 0) (tCons (tVar 3) (tCons (tVar 11) (tCons (tVar 16) tNil))))) tNil))
      (tCB (rRepr K) (tCons (tTup (tCons (tC (V.str "refused")) (tCons (tVar 11) tNil))) tNil)))) (tVar 16) [16]) (tLst tNil))) tr tNext D σ H := by
  obtain ⟨ty, du, hu1, hu2, hu3, hu4, hu5, hu6⟩ := hu.ex
  refine ⟨by show 2 ≤ sizeLine; decide, fun t ht => ⟨t, rfl, ⟨_, SqT.of upd_same⟩, fun E hE => ?_⟩⟩
  have g1 : Gr T H (upd H t (.tup [.str "keeps", .str "rows"])) := .new ht
  have ht2 : (upd H t (.tup [.str "keeps", .str "rows"])) t = some (.tup [.str "keeps", .str "rows"]) := upd_same
  generalize upd H t (.tup [.str "keeps", .str "rows"]) = H1 at g1 ht2 hE
  have g16 : ∀ x : Option V, ((σ.set 16 none).set 16 x)[16]? = some x := fun x => by
    rw [List.getElem?_set_self (by rw [List.length_set]; exact hl)]
  have gw : ∀ x : Option V, ((σ.set 16 none).set 16 x).set 16 none = σ.set 16 none := fun x => by
    rw [List.set_set, List.set_set]
  have gj : ∀ (x : Option V) (j : Nat), j ≠ 16 → ((σ.set 16 none).set 16 x)[j]? = σ[j]? := fun x j hj => by
    rw [List.getElem?_set_ne (Ne.symm hj), List.getElem?_set_ne (Ne.symm hj)]
  have wk := walk_tup (K := K) (a := t) (xs := [.str "keeps", .str "rows"])
  refine lc_it wk (fun _ H' => Loc T H1 [(E, .lst [])] H') (Loc.start.new hE pl_lst) (fun i H' hi q => SqT.of (q.g.tup ht2)) (fun i x H2 H3 hi q y => ?_) fun H2 q => ?_
  · obtain ⟨rfl, ex⟩ := y
    obtain ⟨wd, rfl⟩ : ∃ wd, x = .str wd := by
      have hm := List.mem_of_getElem? ex
      simp at hm
      rcases hm with h | h <;> exact ⟨_, h⟩
    have g3 := g1.trans q.g
    refine ⟨gw _, _, (gj _ 0 (by decide)).trans h0, _, (gj _ 3 (by decide)).trans h3, _, (gj _ 11 (by decide)).trans h11, _, g16 _, κ, d, p, ks, v, u, ty, wd, rfl, hW.gr g3, g3.tab hT, (hu1 _ g3).1, .inl ⟨⟨n, hv.gr g3, hi_⟩, hu2, fun H4 b g4 hb => ?_⟩⟩
    have g34 := g3.trans g4
    have shA : PyData.showableAll [.str "refused", du] = true := by
      show (PyData.showable (.str "refused") && (PyData.showable du && true)) = true
      rw [hu3]
      rfl
    have ndA : PyData.hasDictAll [.str "refused", du] = false := by
      show (PyData.hasDict (.str "refused") || (PyData.hasDict du || false)) = false
      rw [hu4]
      rfl
    have dpA : ∀ d ∈ [PyData.str "refused", du], d.depth ≤ 10 := fun d hd => by
      simp at hd
      rcases hd with rfl | rfl
      · exact Nat.zero_le _
      · exact hu5
    have lnA : ∀ d ∈ [PyData.str "refused", du], (PyData.shown d).length ≤ 1000 := fun d hd => by
      simp at hd
      rcases hd with rfl | rfl
      · have : (PyData.shown (.str "refused")).length ≤ 1000 := by decide +kernel
        exact this
      · exact hu6
    dsimp only [tNil]
    refine reprTup (vs := [.str "refused", u]) (ds := [.str "refused", du]) (SqT.of hb) (.cons (.str _) (.cons (hu1 _ g34).2 .nil)) shA ndA dpA lnA (by show 2 ≤ 100; decide) ?_
    refine ⟨_, (gj _ 11 (by decide)).trans h11, by show 2 ≤ sizeLine; decide, fun t3 ht3 => ?_⟩
    have g5 : Gr T H4 (upd H4 t3 (.tup [.str "refused", u])) := .new ht3
    dsimp only [tNil]
    refine reprTup (vs := [.str "refused", u]) (ds := [.str "refused", du]) (SqT.of upd_same) (.cons (.str _) (.cons (hu1 _ (g34.trans g5)).2 .nil)) shA ndA dpA lnA (by show 2 ≤ 100; decide) ⟨rfl, _, rfl, ?_⟩
    rw [decide_eq_true rfl]
    exact q.mono (g4.trans g5)
  · refine ⟨Nat.zero_le _, fun l hl => ?_⟩
    have gl : Gr T H2 (upd H2 l (.lst [])) := .new hl
    exact neNil (ds := []) (SqL.of (gl.lst (q.get (i := 0) rfl))) .nil rfl (fun d hd => by simp at hd) (SqL.of upd_same) ⟨_, rfl, iteF (k _ (g1.trans (q.g.trans gl)))⟩
end
end Bk
end
section
/-! _law_node_right. -/
namespace Bk
open PySem L2 LamX PySem.Spec PyProof.Rows
abbrev sNodeR : Stmt := top 49
abbrev nNodeR : List Str := ["_law_web","_law_device","_law_tables_here","_law_node","_law_come_here","_law_rounds","_law_lot","_law_kept","_law_great","_law_is_kept","_law_told","_law_value","_law_other","_law_one","_law_signal","_law_more","_law_word"]
def scK1 : Scope := match defBody sNodeR with
  | [_, .Assign _ (.ListComp _ _ s _) _, _, _, _, _, _] => s
  | _ => defScope sNodeR
def scK2 : Scope := match defBody sNodeR with
  | [_, .Assign _ (.ListComp _ [⟨_, _, [.Compare (.ListComp _ _ s _) _ _ _], _⟩] _ _) _, _, _, _, _, _] => s
  | _ => defScope sNodeR
def scH1 : Scope := match defBody sNodeR with
  | [_, _, .Assign _ (.Call _ [.ListComp _ _ s _] _ _) _, _, _, _, _] => s
  | _ => defScope sNodeR
def scH2 : Scope := match defBody sNodeR with
  | [_, _, .Assign _ (.Call _ [.ListComp _ [⟨_, _, [.Compare (.ListComp _ _ s _) _ _ _], _⟩] _ _] _ _) _, _, _, _, _] => s
  | _ => defScope sNodeR
theorem tNextI {D : Ends} {σ : L2.St} {H : Hp} (h : D.nx σ H) : tNext D σ H := h
theorem cr_reprK {X : Cx} {K : PySem.W.Frag} (hg : X.A.guards = some []) (hu : X.A.units + 64 < cLine) (hK : X.K = K := by rfl) : CallR X (.builtin "repr") (rRepr K) := hK ▸ cr_repr hg hu
theorem not_lots : ∀ s : Fin 6, 1 ≤ s.1 → isLotV ((List.range s.1).map sc) (.str "aa") = false ∧ isLotV ((List.range s.1).map sc) (.str "ba") = false ∧ isLotV ((List.range s.1).map sc) (.str "f") = false ∧ isLotV ((List.range s.1).map sc) (.str ("a" ++ tx ((List.range s.1).map sc))) = false := by decide +kernel
theorem nolot_at {K : PySem.W.Frag} {T : List (Addr × Str)} {d : Dv} {H : Hp} {t1 : Addr} {i : Nat} {u : V} (ht : H t1 = some (.tup [V.str "a"])) (h : [V.str "aa", V.str "ba", V.str "f", V.non, V.int 0, V.ref t1, V.str ("a" ++ tx (sgs d))][i]? = some u) : Nolot K T d H u := by
  have s1 := d.s1
  have s5 := d.s5
  obtain ⟨n1, n2, n3, n4⟩ := not_lots ⟨d.s, by omega⟩ s1
  have hm := List.mem_of_getElem? h
  simp only [List.mem_cons, List.not_mem_nil, or_false] at hm
  rcases hm with rfl | rfl | rfl | rfl | rfl | rfl | rfl
  · exact ⟨"str", .str "aa", fun _ _ => ⟨.str _, .str _⟩, n1, rfl, rfl, Nat.zero_le _, by decide +kernel⟩
  · exact ⟨"str", .str "ba", fun _ _ => ⟨.str _, .str _⟩, n2, rfl, rfl, Nat.zero_le _, by decide +kernel⟩
  · exact ⟨"str", .str "f", fun _ _ => ⟨.str _, .str _⟩, n3, rfl, rfl, Nat.zero_le _, by decide +kernel⟩
  · exact ⟨"NoneType", .none, fun _ _ => ⟨.non, .non⟩, rfl, rfl, rfl, Nat.zero_le _, by decide +kernel⟩
  · exact ⟨"int", .int 0, fun _ _ => ⟨.int _, .int _⟩, rfl, rfl, rfl, Nat.zero_le _, by decide +kernel⟩
  · exact ⟨"tuple", .tuple [.str "a"], fun H' g => ⟨.tup (g.tup ht), .tup (SqT.of (g.tup ht)) (.cons (.str _) .nil)⟩, rfl, rfl, rfl, by decide +kernel, by decide +kernel⟩
  · refine ⟨"str", .str ("a" ++ tx (sgs d)), fun _ _ => ⟨.str _, .str _⟩, n4, rfl, rfl, Nat.zero_le _, ?_⟩
    have e : ("a" : Str) ++ tx (sgs d) = tx ([97] ++ sgs d) := by
      rw [← tx_app]
      rfl
    rw [e]
    refine len_repr (fun c hc => ?_) (by rw [List.length_append, sgs_len]; show 1 + _ ≤ _; omega)
    rcases List.mem_append.mp hc with h | h
    · rw [List.mem_singleton.mp h]
      decide
    · exact smc_sgs (d := d) (z := sgs d) (fun _ h => h) c h
section
variable {P : Program} {w : World} {K : PySem.W.Frag} {mg : Str → Option Value} {base : Heap} {T : List (Addr × Str)} {Cd Cw Cs Cp Cr : Addr}
def spNodeR (T : List (Addr × Str)) (K : PySem.W.Frag) (Cd Cw : Addr) : Sp := fun vs H Q _ => ∃ (κ : Kd) (d : Dv) (p dp c cm : Addr) (ks : List (List Nd)) (v : V) (n : Nd), vs = [.ref p, .ref dp, .ref c, v, .ref cm] ∧ WebAt K Cd Cw κ d p ks H ∧ DevAt Cd d dp H ∧ TbsL H c d ∧ NV κ H v n ∧ InN κ d n ∧ ComeD κ H cm d ∧ Tabs T H ∧
  ∀ H', Gr T H H' → Q (.bl true) H'
theorem scNodeR : FnScope nNodeR ["_law_web","_law_device","_law_tables_here","_law_node","_law_come_here"] (defScope sNodeR) := ⟨rfl, rfl, rfl, by decide +kernel, rfl, by decide +kernel, by decide +kernel⟩
theorem ok_nodeR {f : Addr} {fd : FuncData} (F : Fun K "_law_node_right" "_law_node_right" sNodeR f fd) (B : Bt mg) (W : WbC K mg Cw) (DC : DvC K mg Cd) (G1 : CalF P w K mg base CX0 2 "_law_round" ["_law_tables_here", "_law_kind", "_law_node", "_law_signals", "_law_come_here"] (spRound T)) (G2 : CalF P w K mg base CX0 1 "_law_lots" ["_law_signals"] (spLots T))
    (G3 : MetK P w K mg base (L2.CX P w) 6 Cw "great_lots" ["node"] (spGreatLots T K Cd Cw Cs Cp)) (G4 : MetF P w K mg base (L2.CX P w) 7 Cw "keeps" ["node", "lot"] (spKeeps T K Cd Cw Cs Cp Cr)) (G5 : MetK P w K mg base (L2.CX P w) 8 Cw "keep_rows" ["node", "lot"] (spKeepRows T K Cd Cw Cs Cp Cr))
    (G6 : MetF P w K mg base (L2.CX P w) 8 Cw "keep_rows" ["node", "lot"] (spKeepRows T K Cd Cw Cs Cp Cr)) (G7 : CalF P w K mg base CX0 4 "_law_rows_right" ["_law_device","_law_tables_here","_law_kind","_law_node","_law_lot","_law_told"] (spRowsR T K Cd)) (G8 : CalF P w K mg base CX0 9 "_law_refused" ["_law_web", "_law_node", "_law_lot", "_law_word"] (spRefused T K Cd Cw)) :
    FnG P w K mg base CX0 10 f fd ["_law_web","_law_device","_law_tables_here","_law_node","_law_come_here"] (spNodeR T K Cd Cw) := by
  refine Fun_okG F scNodeR (fun vs H Q E h => ?_) (fun cdv A outer s H vs Q E hr hgd0 h => ?_)
  · obtain ⟨κ, d, p, dp, c, cm, ks, v, n, rfl, _⟩ := h
    rfl
  · obtain ⟨κ, d, p, dp, c, cm, ks, v, n, rfl, hW, hD, hTb, hv, hi, hC, hT, k⟩ := h
    have u1 := hu1 hr
    have hu6 := hu64 hr
    have hu7 := hu70 hr
    have hr1 := hr.mono (show 1 ≤ 9 by decide)
    have hr2 := hr.mono (show 2 ≤ 9 by decide)
    have hr4 := hr.mono (show 4 ≤ 9 by decide)
    have hr6 := hr.mono (show 6 ≤ 9 by decide)
    have hr7 := hr.mono (show 7 ≤ 9 by decide)
    have hr8 := hr.mono (show 8 ≤ 9 by decide)
    have hgd : (A.deeper (envOfC "_law_node_right" (defScope sNodeR) s.heap.objs.size f cdv)).guards = some [] := hgd0
    refine ⟨_, (pss_cons (ps_set (i := 5) scNodeR.nd rfl (Or.inr rfl) (pe_lc (own := [("_law_other", 12)]) (g := (gName 12)) (tt := tYes) rfl scNodeR.nd (pi_list (pe_dget u1 (pv 4) (pv 3) (fun _ _ => rfl))) (blkOk_by (N := nNodeR) (sc := (defScope sNodeR)) (by decide +kernel)) (fun _ _ _ _ _ => by exact (pg_name (i := 12) scNodeR.nd rfl (Or.inl rfl))) (fun _ _ _ _ _ => pts_nil) (fun _ _ _ _ _ => by exact (pe_cal G1 hr2 (pa_cons (pv 2) (pa_cons (pe_fldK (K := K) (pv 0) rfl) (pa_cons (pv 12) (pa_cons (pe_fldK (K := K) (pv 1) rfl) (pa_cons (pv 4) pa_nil))))) pass0))))
      (pss_cons (ps_set (i := 7) scNodeR.nd rfl (Or.inr rfl) (pe_lc (own := [("_law_lot", 6)]) (g := (gName 6)) rfl scNodeR.nd (pi_list (pe_cal G2 hr1 (pa_cons (pe_fld (pv 1) rfl) pa_nil) pass0)) (blkOk_by (N := nNodeR) (sc := (defScope sNodeR)) (by decide +kernel)) (fun _ _ _ _ _ => by exact (pg_name (i := 6) scNodeR.nd rfl (Or.inr rfl))) (fun _ _ _ _ _ => by exact (pts_one (pt_cmpR (op_neDK (K := K) hu6) (pe_lc (own := [("_law_one", 13)]) (g := (gName 13)) rfl scNodeR.nd (pi_listK (K := K) (pv 5)) (blkOk_by (N := nNodeR) (sc := (relS scK1 (defScope sNodeR))) (by decide +kernel)) (fun _ _ _ _ _ => by exact (pg_name (i := 13) scNodeR.nd rfl (Or.inr rfl))) (fun _ _ _ _ _ => by exact (pts_one (pt_cmpR (op_eqDK (K := K) hu6) (pe_lc (own := [("_law_signal", 14)]) (g := (gName 14)) rfl scNodeR.nd (pi_str (pv 6)) (blkOk_by (N := nNodeR) (sc := (relS scK2 (relS scK1 (defScope sNodeR)))) (by decide +kernel)) (fun _ _ _ _ _ => by exact (pg_name (i := 14) scNodeR.nd rfl (Or.inl rfl))) (fun _ _ _ _ _ => by exact (pts_one (pt_cmpR op_notIn_sign (pv 14) (pv 13) rfl))) (fun _ _ _ _ _ => by exact (pv 14))) (pe_lst pa_nil) (nomark _)))) (fun _ _ _ _ _ => by exact (pv 13))) (pe_lst pa_nil) (nomark _)))) (fun _ _ _ _ _ => by exact (pv 6))))
      (pss_cons (ps_set (i := 8) scNodeR.nd rfl (Or.inl rfl) (pe_callB (cr_sortedD PyData.str hu7) (by rfl) B.sorted (by decide +kernel) (pa_cons (pe_lc (own := [("_law_lot", 6)]) (g := (gName 6)) rfl scNodeR.nd (pi_list (pv 7)) (blkOk_by (N := nNodeR) (sc := (defScope sNodeR)) (by decide +kernel)) (fun _ _ _ _ _ => by exact (pg_name (i := 6) scNodeR.nd rfl (Or.inr rfl))) (fun _ _ _ _ _ => by exact (pts_one (pt_cmpR (op_eqDK (K := K) hu6) (pe_lc (own := [("_law_more", 15)]) (g := (gName 15)) rfl scNodeR.nd (pi_listK (K := K) (pv 7)) (blkOk_by (N := nNodeR) (sc := (relS scH1 (defScope sNodeR))) (by decide +kernel)) (fun _ _ _ _ _ => by exact (pg_name (i := 15) scNodeR.nd rfl (Or.inr rfl))) (fun _ _ _ _ _ => by exact (pts_one (PW.pt (pw_and (pt_cmpR op_ne (pv 15) (pv 6) (nomark _)) (pw_and1 (pt_cmpR (op_eqDK (K := K) hu6) (pe_lc (own := [("_law_signal", 14)]) (g := (gName 14)) rfl scNodeR.nd (pi_str (pv 6)) (blkOk_by (N := nNodeR) (sc := (relS scH2 (relS scH1 (defScope sNodeR)))) (by decide +kernel)) (fun _ _ _ _ _ => by exact (pg_name (i := 14) scNodeR.nd rfl (Or.inl rfl))) (fun _ _ _ _ _ => by exact (pts_one (pt_cmpR op_notIn_sign (pv 14) (pv 15) rfl))) (fun _ _ _ _ _ => by exact (pv 14))) (pe_lst pa_nil) (nomark _))))))) (fun _ _ _ _ _ => by exact (pv 15))) (pe_lst pa_nil) (nomark _)))) (fun _ _ _ _ _ => by exact (pv 6))) pa_nil)))
      (pss_cons (ps_if (pt_cmpR op_ne (pe_callB (cr_reprK (K := K) hgd hu6) (by rfl) B.repr (by decide +kernel) (pa_cons (pe_metKS G3 W.cl (pv 0) hr6 (E := fun _ => E0) (fun σ pins => passL pins σ) (pk_cons (pv 3) pk_nil)) pa_nil)) (pe_callB (cr_reprK (K := K) hgd hu6) (by rfl) B.repr (by decide +kernel) (pa_cons (pe_callTy call_tuple_of (by rfl) B.tuple (by decide +kernel) (pa_cons (pv 8) pa_nil)) pa_nil)) (nomark _)) (pss_one (ps_ret pe_bl)) pss_nil)
      (pss_cons (ps_for PassesOwn.never rfl (pi_list (pe_op op_cat (pe_cal G2 hr1 (pa_cons (pe_fld (pv 1) rfl) pa_nil) pass0) (pe_lst (pa_cons pe_str pa_nil)))) (pg_name (i := 6) scNodeR.nd rfl (Or.inl rfl)) (pss_cons (ps_set (i := 9) scNodeR.nd rfl (Or.inl rfl) (pe_or (pe_cmpR op_in_seq (pv 6) (pv 7) rfl) (pe_one (pe_and (pe_cmpR op_eq (pv 6) pe_str (nomark _)) (pe_one (pe_cmpR (op_neDK (K := K) hu6) (pv 7) (pe_lst pa_nil) (nomark _)))))))
      (pss_cons (ps_if (pt_cmpR op_ne (pe_callB (cr_reprK (K := K) hgd hu6) (by rfl) B.repr (by decide +kernel) (pa_cons (pe_met G4 W.cl (pv 0) hr7 passL (pa_cons (pv 3) (pa_cons (pv 6) pa_nil))) pa_nil)) (pe_callB (cr_reprK (K := K) hgd hu6) (by rfl) B.repr (by decide +kernel) (pa_cons (pv 9) pa_nil)) (nomark _)) (pss_one (ps_ret pe_bl)) pss_nil)
      (pss_cons (ps_set (i := 10) scNodeR.nd rfl (Or.inl rfl) (pe_ifExp (pt_cmpR op_eq (pe_callB call_len_str (by rfl) B.len (by decide +kernel) (pa_cons (pv 6) pa_nil)) pe_int (nomark _)) (pe_met G6 W.cl (pv 0) hr8 passL (pa_cons (pv 3) (pa_cons (pv 6) pa_nil))) (pe_metKS G5 W.cl (pv 0) hr8 (E := fun _ => E0) (fun σ pins => passL pins σ) (pk_cons (pv 3) (pk_cons (pv 6) pk_nil)))))
      (pss_one (ps_if (PW.pt (pw_or (PW.pt (pw_and (pt_not (pt_val (pv 9))) (pw_and1 (pt_cmpR op_notN (pv 10) pe_non (nomark _))))) (pw_or1 (PW.pt (pw_and (pt_val (pv 9)) (pw_and1 (pt_not (pt_val (pe_cal G7 hr4 (pa_cons (pv 1) (pa_cons (pv 2) (pa_cons (pe_fld (pv 0) rfl) (pa_cons (pv 3) (pa_cons (pv 6) (pa_cons (pv 10) pa_nil)))))) pass0))))))))) (pss_one (ps_ret pe_bl)) pss_nil))))))
      (pss_cons (ps_for PassesOwn.never rfl (pi_tup (pe_tup (pa_cons pe_str (pa_cons pe_str (pa_cons pe_str (pa_cons pe_non (pa_cons pe_int (pa_cons (pe_tup (pa_cons pe_str pa_nil)) (pa_cons (pe_op op_add_str pe_str (pe_fld (pv 1) rfl)) pa_nil))))))))) (pg_name (i := 11) scNodeR.nd rfl (Or.inr rfl)) (pss_one (ps_if (pt_cmpR (op_neDK (K := K) hu6) (pe_lc (own := [("_law_word", 16)]) (g := (gName 16)) rfl scNodeR.nd (pi_tup (pe_tup (pa_cons pe_str (pa_cons pe_str pa_nil)))) (blkOk_by (N := nNodeR) (sc := (defScope sNodeR)) (by decide +kernel)) (fun _ _ _ _ _ => by exact (pg_name (i := 16) scNodeR.nd rfl (Or.inl rfl))) (fun _ _ _ _ _ => by exact (pts_one (pt_cmpR op_ne (pe_callB (cr_reprK (K := K) hgd hu6) (by rfl) B.repr (by decide +kernel) (pa_cons (pe_cal G8 hr (pa_cons (pv 0) (pa_cons (pv 3) (pa_cons (pv 11) (pa_cons (pv 16) pa_nil)))) pass0) pa_nil)) (pe_callB (cr_reprK (K := K) hgd hu6) (by rfl) B.repr (by decide +kernel) (pa_cons (pe_tup (pa_cons pe_str (pa_cons (pv 11) pa_nil))) pa_nil)) (nomark _)))) (fun _ _ _ _ _ => by exact (pv 16))) (pe_lst pa_nil) (nomark _)) (pss_one (ps_ret pe_bl)) pss_nil)))
      (pss_one (ps_ret pe_bl)))))))), ?_⟩
    obtain ⟨dx, dp', tn, nd, sd, tk, hm, th, tg, kv, gv, hk, h1, _⟩ := id hW.ex
    obtain ⟨dx', tb, ts, hdv, _⟩ := id hD.ex
    have s5 := d.s5
    have Pp := hW.parts
    obtain ⟨l0, cv, cs, c1, c2, c3, c4, c5⟩ := hC.get hv hi
    have csI : ∀ o ∈ cs, InN κ d o := fun o ho => reach_InN ((c4 o).mp ho) hi
    have rsS : ∀ h ∈ cs.map (heldOf κ d ks), Smc h ∧ h.length ≤ 5 := fun h hh => by
      obtain ⟨o, _, rfl⟩ := List.mem_map.mp hh
      obtain ⟨q, e⟩ := heldOf_sel (κ := κ) (d := d) (ks := ks) (o := o)
      rw [e]
      exact ⟨smc_sel, selL_len⟩
    have rsL : (cs.map (heldOf κ d ks)).length ≤ 100 := by
      rw [List.length_map]
      omega
    -- rounds
    refine tSeqAsg ?_
    refine ⟨_, rfl, _, rfl, cm, _, rfl, c1, l0, rfl, ⟨_, SqL.of c2⟩, fun R hR => ?_⟩
    refine lc_it (walk_list (xs := cv)) (fun i H' => Loc T H [(R, .lst (((cs.take i).map (heldOf κ d ks)).map vT))] H') (Loc.start.new hR pl_lst) (fun i H' hi q => q.g.sqL (SqL.of c2)) (fun i u H3 H' hil q y => ?_) fun H1 q => ?_
    · obtain ⟨rfl, eu⟩ := y
      obtain ⟨o, eo, ho⟩ := c3.2 i u eu
      have om := List.mem_of_getElem? eo
      have oI := csI o om
      refine ⟨rfl, _, rfl, _, rfl, p, Cw, dx, _, _, rfl, q.g.ins h1, W.cl, W.n2, rfl, _, rfl, _, rfl, dp, Cd, dx', _, _, rfl, q.g.ins hdv, DC.cl, DC.n2, rfl, _, rfl, κ, d, c, cm, u, o, rfl, hTb.gr q.g, ho.gr q.g, oI, hC.gr q.g, fun H4 hs g4 hiff => ?_⟩
      rw [round_held Pp (mem_nds.mpr oI) hiff]
      have q4 := q.mono g4
      refine ⟨_, q4.get (i := 0) rfl, lt_line (by rw [List.length_map, List.length_map, List.length_take]; omega), ?_⟩
      rw [take_snoc eo, List.map_append, List.map_append]
      exact q4.set (i := 0) rfl pl_lst
    rw [c3.1, List.take_length] at q
    generalize hrs : cs.map (heldOf κ d ks) = rs at q rsS rsL
    have hRl := q.get (i := 0) rfl
    have g1 := q.g
    clear q
    try dsimp only
    -- kept
    refine tSeqAsg ?_
    refine ⟨_, rfl, dp, Cd, dx', _, _, rfl, g1.ins hdv, DC.cl, DC.n2, rfl, d, rfl, fun A1 H2 hA1 hA1l g2 => ⟨A1, rfl, ⟨_, SqL.of hA1l⟩, fun Kl hKl => ?_⟩⟩
    have lotS : ∀ z ∈ (lotsA (sgs d)).drop 1, Smc z ∧ z.length ≤ 5 := fun z hz => by
      obtain ⟨⟨q, rfl⟩, _⟩ := lots1.mp hz
      exact ⟨smc_sel, selL_len⟩
    have lotL : ((lotsA (sgs d)).drop 1).length ≤ 32 := by
      rw [List.length_drop, lotsA_len, sgs_len]
      have pw : ∀ n, n ≤ 5 → 2 ^ n ≤ 32 := by decide
      have := pw d.s s5
      omega
    have wkl : Walk (Itl K A1) ((lotsA (sgs d)).drop 1).length (fun H => SqL K H A1 (((lotsA (sgs d)).drop 1).map vT)) (YAt (((lotsA (sgs d)).drop 1).map vT)) := walk_listL
    refine lc_fm (T := T) (L := []) (F := fun z => if kb rs z = true then some (vT z) else none) wkl .start hKl (fun H' g => g.sqL (SqL.of hA1l)) (fun i z H3 hz g3 fm => ?_) fun H3 g3 fm => ?_
    · obtain ⟨zs, zl⟩ := lotS z (List.mem_of_getElem? hz)
      refine ⟨rfl, kept_test (T := T) (rs := rs) (R := R) (by show 14 < 17; decide) rfl rfl ((g2.trans g3).lst hRl) zl zs (fun h hh => (rsS h hh).1) rsL fun H4 g4 => ?_⟩
      have fm4 := fm.gr g4
      cases hb : kb rs z with
      | true => exact ⟨_, rfl, fm_add hKl (g3.trans g4) fm4 hz (if_pos hb) (lt_line (by omega))⟩
      | false => exact fm_skip (g3.trans g4) fm4 hz (if_neg (by rw [hb]; exact Bool.false_ne_true))
    rw [fm_filter] at fm
    have ekl : ((lotsA (sgs d)).drop 1).filter (kb rs) = keptL d rs := rfl
    rw [ekl] at fm
    have klS : ∀ z ∈ keptL d rs, Smc z ∧ z.length ≤ 5 := fun z hz => lotS z (List.mem_filter.mp hz).1
    have klL : (keptL d rs).length ≤ 32 := Nat.le_trans (List.length_filter_le _ _) lotL
    have hKll := fm.get (i := 0) rfl
    have g13 := g1.trans (g2.trans g3)
    have g03 := g2.trans g3
    clear fm
    try dsimp only
    -- great
    refine tSeqAsg ?_
    refine ⟨_, rfl, Kl, rfl, ⟨_, SqL.of hKll⟩, fun G1' hG1 => ?_⟩
    have wkk : Walk (Itl K Kl) (keptL d rs).length (fun H => SqL K H Kl ((keptL d rs).map vT)) (YAt ((keptL d rs).map vT)) := walk_listL
    refine lc_fm (T := T) (L := []) (F := fun z => if (!((keptL d rs).any fun m => decide (m ≠ z) && within z m)) = true then some (vT z) else none) wkk .start hG1 (fun H' g => g.sqL (SqL.of hKll)) (fun i z H4 hz g4 fm => ?_) fun H4 g4 fm => ?_
    · obtain ⟨zs, zl⟩ := klS z (List.mem_of_getElem? hz)
      refine ⟨rfl, great_test (T := T) (kl := keptL d rs) (R := Kl) (by show 15 < 17; decide) rfl rfl (g4.lst hKll) zl zs (fun h hh => (klS h hh).1) (by omega) fun H5 g5 => ?_⟩
      have fm5 := fm.gr g5
      cases hb : !((keptL d rs).any fun m => decide (m ≠ z) && within z m) with
      | true => exact ⟨_, rfl, fm_add hG1 (g4.trans g5) fm5 hz (if_pos hb) (lt_line (by omega))⟩
      | false => exact fm_skip (g4.trans g5) fm5 hz (if_neg (by rw [hb]; exact Bool.false_ne_true))
    rw [fm_filter] at fm
    have egl : ((keptL d rs).filter fun z => !((keptL d rs).any fun m => decide (m ≠ z) && within z m)) = greatL d rs := rfl
    rw [egl] at fm
    have eml : (greatL d rs).map vT = ((greatL d rs).map tx).map V.str := by
      rw [List.map_map]
      rfl
    rw [eml] at fm
    dsimp only [tNil]
    refine sortTx (SqL.of (fm.get (i := 0) rfl)) fun S hS => ?_
    have gS : Gr T H4 (upd H4 S (.lst ((sortT ((greatL d rs).map tx)).map V.str))) := .new hS
    have hSl : (upd H4 S (.lst ((sortT ((greatL d rs).map tx)).map V.str))) S = some (.lst ((sortT ((greatL d rs).map tx)).map V.str)) := upd_same
    generalize upd H4 S (.lst ((sortT ((greatL d rs).map tx)).map V.str)) = H5 at gS hSl
    have g5 := g13.trans (g4.trans gS)
    have hK5 := (g4.trans gS).lst hKll
    clear fm
    try dsimp only
    -- the great lots of the web
    refine tSeqI ?_
    refine ⟨_, rfl, p, dx, _, rfl, g5.ins h1, rfl, _, rfl, κ, d, p, ks, v, rfl, hW.gr g5, .inl ⟨n, hv.gr g5, hi, fun b gs hb hg => ?_⟩⟩
    have egs := great_same (cs := cs) c4 hg
    rw [hrs] at egs
    have gl10 := great_len (mem_nds.mpr hi) hg
    have gsS : ∀ z ∈ gs.map (fun z : Str => z.cps.toList), Smc z ∧ z.length ≤ 90 := fun z hz => by
      obtain ⟨y, hy, rfl⟩ := List.mem_map.mp hz
      obtain ⟨o, _, rfl, _⟩ := ((hg.2.2 y).mp hy).1
      obtain ⟨q, e⟩ := heldOf_sel (κ := κ) (d := d) (ks := ks) (o := o)
      rw [tx_tl, e]
      exact ⟨smc_sel, Nat.le_trans selL_len (by decide)⟩
    have egv : gs.map V.str = (gs.map fun z : Str => z.cps.toList).map vT := by
      rw [List.map_map]
      refine List.map_congr_left fun z _ => ?_
      show V.str z = V.str (tx z.cps.toList)
      rw [tx_of]
    rw [egv] at hb
    dsimp only [tNil]
    refine reprTxs (SqT.of hb) gsS (by rw [List.length_map]; omega) ?_
    refine ⟨_, rfl, S, _, rfl, .inl ⟨SqL.of hSl, fun l hl => ?_⟩⟩
    have gl : Gr T H5 (upd H5 l (.tup ((sortT ((greatL d rs).map tx)).map V.str))) := .new hl
    have hll : (upd H5 l (.tup ((sortT ((greatL d rs).map tx)).map V.str))) l = some (.tup ((gs.map fun z : Str => z.cps.toList).map vT)) := by
      rw [upd_same, ← egs, egv]
    generalize upd H5 l (.tup ((sortT ((greatL d rs).map tx)).map V.str)) = H6 at gl hll
    dsimp only [tNil]
    refine reprTxs (SqT.of hll) gsS (by rw [List.length_map]; omega) ⟨rfl, _, rfl, ?_⟩
    rw [decide_eq_true rfl]
    refine iteF ?_
    have g6 := g5.trans gl
    have hK6 := gl.lst hK5
    try dsimp only
    -- each lot
    refine tSeqI ?_
    refine ⟨_, rfl, dp, Cd, dx', _, _, rfl, g6.ins hdv, DC.cl, DC.n2, rfl, d, rfl, fun A2 H7 hA2 hA2l g7 => ⟨by show 1 ≤ sizeLine; decide, fun e he => ?_⟩⟩
    have ge : Gr T H7 (upd H7 e (.lst [V.str ""])) := .new he
    have hel : (upd H7 e (.lst [V.str ""])) e = some (.lst [V.str ""]) := upd_same
    generalize upd H7 e (.lst [V.str ""]) = H8 at ge hel
    refine ⟨A2, e, _, _, rfl, rfl, ge.lst hA2l, hel, Nat.le_of_lt (lt_line (by rw [List.length_map]; show _ + 1 ≤ _; omega)), fun A3 hA3 => ⟨A3, rfl, ⟨_, SqL.of upd_same⟩, ?_⟩⟩
    have elots : ((lotsA (sgs d)).drop 1).map (fun z => V.str (tx z)) ++ [V.str ""] = (((lotsA (sgs d)).drop 1) ++ [[]]).map vT := by
      rw [List.map_append]
      rfl
    rw [elots]
    have gA : Gr T H8 (upd H8 A3 (.lst ((((lotsA (sgs d)).drop 1) ++ [[]]).map vT))) := .new hA3
    have hA3l : (upd H8 A3 (.lst ((((lotsA (sgs d)).drop 1) ++ [[]]).map vT))) A3 = some (.lst ((((lotsA (sgs d)).drop 1) ++ [[]]).map vT)) := upd_same
    generalize upd H8 A3 (.lst ((((lotsA (sgs d)).drop 1) ++ [[]]).map vT)) = H9 at gA hA3l
    have g9 := g6.trans (g7.trans (ge.trans gA))
    have hK9 := (g7.trans (ge.trans gA)).lst hK6
    have wk3 : Walk (Itl K A3) (((lotsA (sgs d)).drop 1) ++ [[]]).length (fun H => SqL K H A3 ((((lotsA (sgs d)).drop 1) ++ [[]]).map vT)) (YAt ((((lotsA (sgs d)).drop 1) ++ [[]]).map vT)) := walk_listL
    refine for_it wk3 (fun i σ H' => ∃ x6 x9 x10 : Option V, σ = [some (.ref p), some (.ref dp), some (.ref c), some v, some (.ref cm), some (.ref R), x6, some (.ref Kl), some (.ref S), x9, x10, none, none, none, none, none, none] ∧ Gr T H9 H') ⟨none, none, none, rfl, .refl⟩ (fun i σ H' hil q => ?_) (fun i u σ H10 H11 hil q y => ?_) fun σ H10 q => ?_
    · obtain ⟨_, _, _, _, g⟩ := q
      exact SqL.of (g.lst hA3l)
    · obtain ⟨x6, x9, x10, rfl, g10⟩ := q
      obtain ⟨rfl, eu⟩ := y
      rw [List.getElem?_map] at eu
      obtain ⟨z, ez, rfl⟩ := Option.map_eq_some_iff.mp eu
      have zm := List.mem_of_getElem? ez
      have zq : ∃ q, z = selL d q := by
        rcases List.mem_append.mp zm with h | h
        · exact (lots1.mp h).1
        · rw [List.mem_singleton.mp h]
          refine ⟨fun _ => false, ?_⟩
          unfold selL
          simp
      have zI : isLotV (sgs d) (vT z) = true := by
        obtain ⟨q, rfl⟩ := zq
        exact sel_isLot
      have zl : z.length ≤ 5 := by
        obtain ⟨q, rfl⟩ := zq
        exact selL_len
      have g11 := g9.trans g10
      have hW11 := hW.gr g11
      have hv11 := hv.gr g11
      have zK : (z ∈ keptL d rs ∨ z = [] ∧ keptL d rs ≠ []) ↔ Kept κ d ks n (tx z) := by
        by_cases e : z = []
        · subst e
          rw [← kept_nil (cs := cs) c4, hrs]
          constructor
          · rintro (h | h)
            · exact absurd rfl (mem_keptL.mp h).1.2
            · exact h.2
          · exact fun h => .inr ⟨rfl, h⟩
        · rw [← kept_kb (cs := cs) c4 e, hrs, mem_keptL]
          constructor
          · rintro (h | h)
            · exact h.2
            · exact absurd h.1 e
          · exact fun h => .inl ⟨⟨zq, e⟩, h⟩
      refine isk_ok (T := T) (R := Kl) rfl rfl (g10.lst hK9) (fun h hh => (klS h hh).1) fun H12 ik g12 hik => ?_
      have hik := hik.trans zK
      try dsimp only
      refine gNameI ?_
      have g13' := g11.trans g12
      refine ⟨_, rfl, p, dx, _, rfl, g13'.ins h1, rfl, _, rfl, _, rfl, κ, d, p, ks, v, vT z, "str", rfl, hW.gr g13', .str _, .inl ⟨n, hv.gr g13', hi, fun l e1 e2 e3 b2 H13 hb2 g14 => ?_, fun hf => absurd zI (by rw [hf]; exact Bool.false_ne_true)⟩⟩
      have el := tx_inj (V.str.inj e1)
      subst el
      have eb : b2 = ik := Bool.eq_iff_iff.mpr (hb2.trans hik.symm)
      subst eb
      dsimp only [tNil]
      refine reprBl ⟨_, rfl, ?_⟩
      dsimp only [tNil]
      refine reprBl ⟨rfl, _, rfl, ?_⟩
      rw [decide_eq_true rfl]
      refine iteF ?_
      have g15 := g13'.trans g14
      refine tNextI ?_
      try dsimp only
      refine tSeqAsg ?_
      refine told_ok (T := T) (Cs := Cs) (Cp := Cp) (Cr := Cr) rfl rfl rfl (hW.gr g15) (g15.tab hT) (hv.gr g15) hi zI zl (fun nk H14 g16 => ?_) fun yk H14 b r cl g16 hbt KRr => ?_
      · have e : b2 = false := Bool.eq_false_iff.mpr fun h => nk (hik.mp h)
        subst e
        refine ⟨_, rfl, false, rfl, iteT ⟨_, rfl, rfl, _, rfl, iteF ⟨_, rfl, false, rfl, iteF ⟨_, _, _, rfl, (g10.trans g12).trans (g14.trans g16)⟩⟩⟩⟩
      · have e : b2 = true := hik.mpr yk
        subst e
        have g17 := g15.trans g16
        refine ⟨_, rfl, true, rfl, iteF ⟨_, rfl, true, rfl, iteT ⟨_, rfl, _, rfl, _, rfl, p, Cw, dx, _, _, rfl, g17.ins h1, W.cl, W.n2, rfl, _, rfl, _, rfl, _, rfl, κ, d, dp, c, b, v, n, z, r, cl, rfl, hD.gr g17, hTb.gr g17, hv.gr g17, hi, zl, hbt, KRr, fun H15 g18 => ⟨true, rfl, iteF ⟨_, _, _, rfl, (g10.trans g12).trans ((g14.trans g16).trans g18)⟩⟩⟩⟩⟩
    · obtain ⟨x6, x9, x10, rfl, g10⟩ := q
      have g11 := g9.trans g10
      try dsimp only
      -- what is no lot
      refine tSeqI ?_
      refine ⟨by show 1 ≤ sizeLine; decide, fun t1 ht1 => ?_⟩
      have gt1 : Gr T H10 (upd H10 t1 (.tup [V.str "a"])) := .new ht1
      have ht1l : (upd H10 t1 (.tup [V.str "a"])) t1 = some (.tup [V.str "a"]) := upd_same
      generalize upd H10 t1 (.tup [V.str "a"]) = H11 at gt1 ht1l
      have g12 := g11.trans gt1
      refine ⟨_, rfl, dp, Cd, dx', _, _, rfl, g12.ins hdv, DC.cl, DC.n2, rfl, _, _, rfl, rfl, ?_, by show 7 ≤ sizeLine; decide, fun t2 ht2 => ⟨t2, rfl, ⟨_, SqT.of upd_same⟩, ?_⟩⟩
      · rw [tx_len, sgs_len]
        show 1 + _ ≤ _
        exact Nat.le_of_lt (lt_line (by omega))
      have gt2 : Gr T H11 (upd H11 t2 (.tup [V.str "aa", V.str "ba", V.str "f", V.non, V.int 0, V.ref t1, V.str ("a" ++ tx (sgs d))])) := .new ht2
      have ht2l : (upd H11 t2 (.tup [V.str "aa", V.str "ba", V.str "f", V.non, V.int 0, V.ref t1, V.str ("a" ++ tx (sgs d))])) t2 = some (.tup [V.str "aa", V.str "ba", V.str "f", V.non, V.int 0, V.ref t1, V.str ("a" ++ tx (sgs d))]) := upd_same
      generalize upd H11 t2 (.tup [V.str "aa", V.str "ba", V.str "f", V.non, V.int 0, V.ref t1, V.str ("a" ++ tx (sgs d))]) = H12 at gt2 ht2l
      have g13 := g12.trans gt2
      have ht1' := gt2.tup ht1l
      refine for_it (walk_tup (K := K) (a := t2) (xs := [V.str "aa", V.str "ba", V.str "f", V.non, V.int 0, V.ref t1, V.str ("a" ++ tx (sgs d))])) (fun i σ H' => ∃ x11 : Option V, σ = [some (.ref p), some (.ref dp), some (.ref c), some v, some (.ref cm), some (.ref R), x6, some (.ref Kl), some (.ref S), x9, x10, x11, none, none, none, none, none] ∧ Gr T H12 H') ⟨none, rfl, .refl⟩ (fun i σ H' hil q => ?_) (fun i u σ H13 H14 hil q y => ?_) fun σ H13 q => ?_
      · obtain ⟨_, _, g⟩ := q
        exact SqT.of (g.tup ht2l)
      · obtain ⟨x11, rfl, g14⟩ := q
        obtain ⟨rfl, eu⟩ := y
        have g15 := g13.trans g14
        have hu : Nolot K T d H14 u := nolot_at (g14.tup ht1') eu
        refine refus_ok (T := T) (u := u) (by show 16 < 17; decide) rfl rfl rfl (hW.gr g15) (g15.tab hT) (hv.gr g15) hi hu fun H15 g16 => ⟨_, rfl, g14.trans g16⟩
      · obtain ⟨x11, rfl, g14⟩ := q
        exact k _ (g13.trans g14)
end
end Bk
end
section
/-! law. -/
namespace Bk
open PySem L2 LamX PySem.Spec PyProof.Rows
abbrev sLaw : Stmt := top 50
abbrev nLaw : List Str := ["_law_script","_law_k","_law_box_here","_law_signals","_law_tables_here","_law_device","_law_kind","_law_web","_law_nodes_here","_law_come_here","_law_node","_law_turn"]
/-- {} whose keys will be nodes of a kind that the reading tells -/
def tDNewA : TE := fun _ H Q => ∃ κ, ∀ p, H p = none → Q (.ref p) (upd H p (FD κ [] fun _ => .non))
theorem pe_dnewA {X : Cx} {pos : Pos} : PE X (.Dict [] [] pos) tDNewA := ⟨fun pins s σ H Q I h => by
  obtain ⟨κ, h⟩ := h
  exact (pe_dnewN κ).run pins s σ H Q I h⟩
/-- a class whose __init__ keeps a promise -/
def MakF (P : Program) (w : World) (K : PySem.W.Frag) (mg : Str → Option Value) (base : Heap) (CX : CXT) (k : Nat) (C : Addr) (x : Str) (ps : List Str) (sp : Sp) : Prop :=
  ∃ f fd, FnOk P w K mg base CX k f fd (("self" : Str) :: ps) sp ∧ Mk K C f ∧ mg x = some (.ref C) ∧ Binds K fd (("self" : Str) :: ps) []
theorem pe_mak {X : Cx} {CX : CXT} {k : Nat} {C : Addr} {x : Str} {ps : List Str} {sp : Sp} {E : XK} {p pos : Pos} {e : Expr} {es : List Expr} {t : TA} (G : MakF X.prog X.w X.K X.mg X.base CX k C x ps sp) (hr : Room (k + 1) X.A) (hx : Passes CX X E) (ha : PA X (e :: es) t) (hg : Gl X x := by rfl)
    (hdb : (x == ("__debug__" : Str)) = false := by decide) (he : starEach (e :: es) X.env = (false, eval e X.env) :: starEach es X.env := by rfl) (hpl : (backTo pos (starEach es X.env)).any (·.1) = false := by rfl) : PE X (.Call (.Name x p) (e :: es) [] pos) (tMake C sp [] E t) := by
  obtain ⟨f, fd, F, M, hm, hb⟩ := G
  exact pe_make M F hr hg hm hb .nil hx ha (hdb := hdb) (he := he) (hpl := hpl)
/-! what stands at no locked place is kept -/
def Kp (H H2 : Hp) : Prop := ∀ b o, H b = some o → (∀ od u, o ≠ .frz od u) → H2 b = some o
section
variable {T : List (Addr × Str)} {K : PySem.W.Frag} {Cd Cw : Addr} {κ : Kd} {d : Dv} {ks : List (List Nd)} {p : Addr} {H H2 : Hp}
theorem Kp.tup (k : Kp H H2) {b : Addr} {xs : List V} (h : H b = some (.tup xs)) : H2 b = some (.tup xs) := k _ _ h fun _ _ z => by cases z
theorem Kp.lst (k : Kp H H2) {b : Addr} {xs : List V} (h : H b = some (.lst xs)) : H2 b = some (.lst xs) := k _ _ h fun _ _ z => by cases z
theorem Kp.ins (k : Kp H H2) {b C dx : Addr} {fs : List (Str × V)} (h : H b = some (.ins C dx fs)) : H2 b = some (.ins C dx fs) := k _ _ h fun _ _ z => by cases z
theorem Kp.fd (k : Kp H H2) {b : Addr} {ns : List Nd} {f : Nd → V} (h : H b = some (FD κ ns f)) : H2 b = some (FD κ ns f) := k _ _ h fun _ _ z => by
  cases κ with
  | st => cases z
  | pr => cases z
theorem Kp.tk (k : Kp H H2) : TupK H H2 := fun _ _ h => k.tup h
theorem DevAt.kp (h : DevAt Cd d p H) (k : Kp H H2) : DevAt Cd d p H2 := by
  obtain ⟨dx, t, ts, h1, h2, h3, h4⟩ := h.ex
  refine ⟨dx, t, ts, k.ins h1, k.tup h2, h3, fun a v e => ?_⟩
  obtain ⟨q, e1, e2⟩ := h4 a v e
  exact ⟨q, e1, k.tup e2⟩
theorem WebAt.kp (h : WebAt K Cd Cw κ d p ks H) (k : Kp H H2) : WebAt K Cd Cw κ d p ks H2 := by
  obtain ⟨dx, dp, tn, nd, sd, tk, hm, th, tg, kv, gv, hk, h1, h2, h3, h4, h5, h6, h7, h8, h9, h10, h11⟩ := h.ex
  refine ⟨h.parts, dx, dp, tn, nd, sd, tk, hm, th, tg, kv, gv, hk, k.ins h1, h2.kp k, ?_, k.tup h4, Ech.mono h5 fun _ _ q => PtV.tk q k.tk, k.fd h6, h7, k.tup h8, k.lst h9, h10, fun i p v e1 e2 => ?_⟩
  · obtain ⟨f, a1, a2, a3⟩ := h3
    refine ⟨f, k.fd a1, a2, fun m hm => ?_⟩
    obtain ⟨l, vs, b1, b2, b3⟩ := a3 m hm
    exact ⟨l, vs, b1, k.lst b2, Ech.mono b3 fun _ _ q => NVo.tk q k.tk⟩
  · obtain ⟨b, gs, e, hb, hx⟩ := h11 i p v e1 e2
    exact ⟨b, gs, e, k.tup hb, hx⟩
/-- what was made while q is locked is known from now on -/
theorem Loc.freeze {Hb : Hp} {q : Addr} {od : Obj} {u : HO} (L : Loc T Hb [(q, .frz od u)] H) : ∃ Hc, Gr T Hb Hc ∧ Loc T Hc [(q, .frz od u)] H ∧ Kp H Hc := by
  obtain ⟨Hc, g, L2, keep⟩ := L.rebase (M := [(q, .frz od u)]) (List.Sublist.refl _)
  refine ⟨Hc, g, L2, fun b o e n => keep b o e fun h => ?_⟩
  have hb : b = q := by simpa using h
  subst hb
  have := L.get (i := 0) rfl
  rw [this] at e
  cases e
  exact n _ _ rfl
end
theorem sig_at {c i : Nat} {v : V} (hc : c < 2) (h : [V.int 1, V.int 2, V.int 2, V.int 3, V.int 3, V.int 1, V.int 2, V.int 3, V.int 2, V.int (4 + (c : Int))][i]? = some v) : ∃ sg : Nat, v = .int (sg : Nat) ∧ 1 ≤ sg ∧ sg ≤ 5 := by
  have hm := List.mem_of_getElem? h
  simp only [List.mem_cons, List.not_mem_nil, or_false] at hm
  rcases hm with rfl | rfl | rfl | rfl | rfl | rfl | rfl | rfl | rfl | rfl
  · exact ⟨1, rfl, by decide, by decide⟩
  · exact ⟨2, rfl, by decide, by decide⟩
  · exact ⟨2, rfl, by decide, by decide⟩
  · exact ⟨3, rfl, by decide, by decide⟩
  · exact ⟨3, rfl, by decide, by decide⟩
  · exact ⟨1, rfl, by decide, by decide⟩
  · exact ⟨2, rfl, by decide, by decide⟩
  · exact ⟨3, rfl, by decide, by decide⟩
  · exact ⟨2, rfl, by decide, by decide⟩
  · exact ⟨4 + c, by rw [Int.natCast_add]; rfl, by omega, by omega⟩
theorem kd_at {i : Nat} {v : V} (h : [V.str "states", V.str "pairs"][i]? = some v) : ∃ κ, v = .str (kdT κ) := by
  have hm := List.mem_of_getElem? h
  simp only [List.mem_cons, List.not_mem_nil, or_false] at hm
  rcases hm with rfl | rfl
  · exact ⟨.st, rfl⟩
  · exact ⟨.pr, rfl⟩
theorem not_take {α : Type} {l : List α} {i : Nat} {a : α} (nd : l.Nodup) (e : l[i]? = some a) : a ∉ l.take i := fun h => by
  obtain ⟨j, hj, ej⟩ := List.mem_iff_getElem.mp h
  rw [List.length_take] at hj
  rw [List.getElem_take] at ej
  obtain ⟨hi, ei⟩ := List.getElem?_eq_some_iff.mp e
  exact (List.pairwise_iff_getElem.mp nd) j i (by omega) hi (by omega) (ej.trans ei.symm)
theorem sh_tt {z : Str} {m : Nat} (hz : PyData.strOk z = true) : SeqAt.shaped (.tuple [.str z, .tuple [.int 0, .int (m : Nat)]]) = true := by
  unfold SeqAt.shaped
  have h1 : PyData.canLay0 (.tuple [.str z, .tuple [.int 0, .int (m : Nat)]]) = true := by simp [PyData.canLay0, PyData.canLayAll0, hz]
  have h2 : PyData.depth (.tuple [.str z, .tuple [.int 0, .int (m : Nat)]]) ≤ 64 := by simp [PyData.depth, PyData.depthAll]
  rw [h1, decide_eq_true h2]
  rfl
theorem neSame {K : PySem.W.Frag} {H : Hp} {bb b1 b2 b3 : Addr} {z : Str} {m : Nat} {Q : VK} (hz : PyData.strOk z = true) (h1 : H b1 = some (.tup [.int 0, .int (m : Nat)])) (h2 : H b2 = some (.tup [.int 0, .int (m : Nat)])) (h3 : H bb = some (.tup [.str z, .ref b1])) (h4 : H b3 = some (.tup [.str z, .ref b2])) (q : Q (.bl false) H) : rNeD K (.ref bb) (.ref b3) H Q := by
  refine ⟨.tuple [.str z, .tuple [.int 0, .int (m : Nat)]], .tuple [.str z, .tuple [.int 0, .int (m : Nat)]], .tup (SqT.of h3) (.cons (.str _) (.cons (.tup (SqT.of h1) (.cons (.int _) (.cons (.int _) .nil))) .nil)), .tup (SqT.of h4) (.cons (.str _) (.cons (.tup (SqT.of h2) (.cons (.int _) (.cons (.int _) .nil))) .nil)), sh_tt hz, sh_tt hz, ?_⟩
  rw [PySem.SeqAt.eqv_refl _ (PySem.SeqAt.canLay_of_shaped (sh_tt hz))]
  exact q
theorem ifKey {c : Bool} {a b : Nat} {Pm : Nat → Prop} {σ : L2.St} {H : Hp} {Q : VK} (ha : Pm a) (hb : Pm b) (h : ∀ m : Nat, Pm m → Q (.int (m : Nat)) H) : if c = true then tC (.int (a : Nat)) σ H Q else tC (.int (b : Nat)) σ H Q := by
  cases c
  · exact h b hb
  · exact h a ha
theorem ifKeyC {c : Bool} {a b : Nat} {Pm : Nat → Prop} {σ : L2.St} {H : Hp} {Q : VK} (ha : c = true → Pm a) (hb : c = false → Pm b) (h : ∀ m : Nat, Pm m → Q (.int (m : Nat)) H) : if c = true then tC (.int (a : Nat)) σ H Q else tC (.int (b : Nat)) σ H Q := by
  cases c
  · exact h b (hb rfl)
  · exact h a (ha rfl)
section
variable {P : Program} {w : World} {K : PySem.W.Frag} {mg : Str → Option Value} {base : Heap} {T : List (Addr × Str)} {Cd Cw : Addr}
def spLaw (T : List (Addr × Str)) (K : PySem.W.Frag) : Sp := fun vs H Q _ => ∃ (s : Addr) (ns : List Int), vs = [.ref s] ∧ SqL K H s (ns.map V.int) ∧ Tabs T H ∧ ∀ H', Q (.bl true) H'
theorem scLaw : FnScope nLaw ["_law_script"] (defScope sLaw) := ⟨rfl, rfl, rfl, by decide +kernel, rfl, by decide +kernel, by decide +kernel⟩
theorem ok_law {f : Addr} {fd : FuncData} (F : Fun K "law" "law" sLaw f fd) (B : Bt mg) (W : WbC K mg Cw) (DC : DvC K mg Cd) (GD : MakF P w K mg base CX0 4 Cd "Device" ["tables"] (spDevInit T Cd)) (GW : MakF P w K mg base CX0 4 Cw "Web" ["device", "kind"] (spWebInit T K Cd Cw)) (G1 : CalF P w K mg base CX0 1 "_law_box" ["_law_script", "_law_k"] (spBox T K))
    (G2 : CalF P w K mg base CX0 2 "_law_pick" ["_law_box_here", "_law_some"] spPick) (G3 : CalF P w K mg base CX0 1 "_law_take" ["_law_box_here", "_law_many"] spTake) (G4 : CalF P w K mg base CX0 3 "_law_tables" ["_law_box_here", "_law_most", "_law_signals"] (spTables T)) (G5 : CalF P w K mg base CX0 1 "_law_nodes" ["_law_tables_here", "_law_kind"] (spNodes T))
    (G6 : CalF P w K mg base CX0 2 "_law_come" ["_law_tables_here", "_law_kind", "_law_node", "_law_signals"] (spCome T)) (G7 : CalG P w K mg base CX0 10 "_law_node_right" ["_law_web","_law_device","_law_tables_here","_law_node","_law_come_here"] (spNodeR T K Cd Cw)) (G8 : CalF P w K mg base CX0 9 "_law_refused" ["_law_web", "_law_node", "_law_lot", "_law_word"] (spRefused T K Cd Cw)) :
    FnG P w K mg base CX0 11 f fd ["_law_script"] (spLaw T K) := by
  refine Fun_okG F scLaw (fun vs H Q E h => ?_) (fun cdv A outer s H vs Q E hr hgd0 h => ?_)
  · obtain ⟨s, ns, rfl, _⟩ := h
    rfl
  · obtain ⟨sa, ns, rfl, hs, hT, k⟩ := h
    have u1 := hu1 hr
    have hu6 := hu64 hr
    have hr1 := hr.mono (show 1 ≤ 10 by decide)
    have hr2 := hr.mono (show 2 ≤ 10 by decide)
    have hr3 := hr.mono (show 3 ≤ 10 by decide)
    have hr5 := hr.mono (show 5 ≤ 10 by decide)
    have hr9 := hr.mono (show 9 ≤ 10 by decide)
    have hr10 := hr
    have hgd : (A.deeper (envOfC "law" (defScope sLaw) s.heap.objs.size f cdv)).guards = some [] := hgd0
    refine ⟨_, (pss_cons (ps_for PassesOwn.never rfl (pi_range1 (by rfl) B.range (pa_cons pe_int pa_nil)) (pg_name (i := 1) scLaw.nd rfl (Or.inl rfl)) (pss_cons (ps_set (i := 2) scLaw.nd rfl (Or.inl rfl) (pe_cal G1 hr1 (pa_cons (pv 0) (pa_cons (pv 1) pa_nil)) pass0))
      (pss_cons (ps_set (i := 3) scLaw.nd rfl (Or.inl rfl) (pe_cal G2 hr2 (pa_cons (pv 2) (pa_cons (pe_lst (pa_cons pe_int (pa_cons pe_int (pa_cons pe_int (pa_cons pe_int (pa_cons pe_int (pa_cons pe_int (pa_cons pe_int (pa_cons pe_int (pa_cons pe_int (pa_cons (pe_op op_add pe_int (pe_cal G3 hr1 (pa_cons (pv 2) (pa_cons pe_int pa_nil)) pass0)) pa_nil))))))))))) pa_nil)) pass0))
      (pss_cons (ps_set (i := 4) scLaw.nd rfl (Or.inl rfl) (pe_cal G4 hr3 (pa_cons (pv 2) (pa_cons (pe_ifExp (pt_cmpR op_gt (pv 3) pe_int (nomark _)) pe_int pe_int) (pa_cons (pv 3) pa_nil))) pass0))
      (pss_cons (ps_lock (ps_set (i := 5) scLaw.nd rfl (Or.inl rfl) (pe_mak GD hr5 pass0 (pa_cons (pv 4) pa_nil))))
      (pss_one (ps_for PassesOwn.never rfl (pi_tup (pe_tup (pa_cons pe_str (pa_cons pe_str pa_nil)))) (pg_name (i := 6) scLaw.nd rfl (Or.inl rfl)) (pss_cons (ps_lock (ps_par3 (i := 7) (j := 8) (l := 9) rfl scLaw.nd rfl rfl rfl (by decide) (by decide) (by decide) rfl rfl rfl (pa_cons (pe_mak GW hr5 pass0 (pa_cons (pv 5) (pa_cons (pv 6) pa_nil))) (pa_cons (pe_cal G5 hr1 (pa_cons (pv 4) (pa_cons (pv 6) pa_nil)) pass0) (pa_cons pe_dnewA pa_nil))) rfl))
      (pss_cons (ps_lock (ps_for PassesOwn.never rfl (pi_list (pv 8)) (pg_name (i := 10) scLaw.nd rfl (Or.inl rfl)) (pss_one (ps_dput u1 (pv 9) (pv 10) (pe_cal G6 hr2 (pa_cons (pv 4) (pa_cons (pv 6) (pa_cons (pv 10) (pa_cons (pe_fld (pv 5) rfl) pa_nil)))) pass0) rfl))))
      (pss_cons (ps_for PassesOwn.never rfl (pi_range1 (by rfl) B.range (pa_cons (pe_ifExp (pt_cmpR (op_neDK (K := K) hu6) (pv 8) (pe_lst pa_nil) (nomark _)) pe_int pe_int) pa_nil)) (pg_name (i := 11) scLaw.nd rfl (Or.inl rfl)) (pss_one (ps_if (pt_not (pt_val (pe_calG G7 hr10 hgd (pa_cons (pv 7) (pa_cons (pv 5) (pa_cons (pv 4) (pa_cons (pe_cal G2 hr2 (pa_cons (pv 2) (pa_cons (pv 8) pa_nil)) pass0) (pa_cons (pv 9) pa_nil))))) pass0))) (pss_one (ps_ret pe_bl)) pss_nil)))
      (pss_one (ps_if (pt_cmpR (op_neDK (K := K) hu6) (pe_cal G8 hr9 (pa_cons (pv 7) (pa_cons (pe_tup (pa_cons pe_int (pa_cons (pe_fld (pv 5) rfl) pa_nil))) (pa_cons pe_str (pa_cons pe_str pa_nil)))) pass0) (pe_ifExp (pt_cmpR op_eq (pv 6) pe_str (nomark _)) (pe_tup (pa_cons pe_str (pa_cons (pe_tup (pa_cons pe_int (pa_cons (pe_fld (pv 5) rfl) pa_nil))) pa_nil))) (pe_tup (pa_cons pe_str (pa_cons (pe_tup (pa_cons pe_int (pa_cons (pe_fld (pv 5) rfl) pa_nil))) pa_nil)))) (nomark _)) (pss_one (ps_ret pe_bl)) pss_nil))))))))))))
      (pss_one (ps_ret pe_bl))), ?_⟩
    refine tSeqI ?_
    refine ⟨_, rfl, by decide, by decide, ?_⟩
    refine for_it (walk_range (lo := 0) (n := 2)) (fun i σ H' => ∃ x1 x2 x3 x4 x5 x6 x7 x8 x9 x10 x11 : Option V, σ = [some (.ref sa), x1, x2, x3, x4, x5, x6, x7, x8, x9, x10, x11] ∧ Gr T H H') ⟨none, none, none, none, none, none, none, none, none, none, none, rfl, .refl⟩ (fun _ _ _ _ _ => trivial) (fun kk u σ H1 H1' hkk q y => ?_) fun σ H1 q => ?_
    · obtain ⟨x1, x2, x3, x4, x5, x6, x7, x8, x9, x10, x11, rfl, g0⟩ := q
      obtain ⟨rfl, rfl⟩ := y
      refine gNameI ?_
      -- the box
      refine tSeqAsg ?_
      refine ⟨_, rfl, _, rfl, sa, ns, kk, by show [V.ref sa, V.int (0 + (kk : Int))] = _; rw [Int.zero_add], g0.sqL hs, hkk, fun q H2 b0 b1 b2 hq g1 hbx => ?_⟩
      have L1 : Loc T H1' [(q, bx b0 b1 b2)] H2 := ⟨g1, by simp, fun p hp => by rw [List.mem_singleton.mp hp]; exact hq, fun p hp => by rw [List.mem_singleton.mp hp]; exact hbx, fun p hp => by rw [List.mem_singleton.mp hp]; exact pl_lst⟩
      clear hbx g1 hq
      -- how many signals
      refine tSeqAsg ?_
      refine ⟨_, rfl, _, rfl, q, 2, b0, b1, b2, rfl, L1.get (i := 0) rfl, by decide, by decide, fun c2 b0 b1 b2 hc2 => ⟨_, _, rfl, rfl, by show 10 ≤ sizeLine; decide, fun S hS => ?_⟩⟩
      have L2' : Loc T H1' _ _ := ((L1.set (i := 0) (u := bx b0 b1 b2) rfl pl_lst).new (o := .lst [V.int 1, V.int 2, V.int 2, V.int 3, V.int 3, V.int 1, V.int 2, V.int 3, V.int 2, V.int (4 + (c2 : Int))]) hS pl_lst)
      refine ⟨q, S, _, b0, b1, b2, rfl, L2'.get (i := 1) rfl, L2'.get (i := 0) rfl, fun e => ?_, List.cons_ne_nil _ _, by show 10 ≤ 1000; decide, fun i v b0 b1 b2 ev => ?_⟩
      · have := L2'.nd
        simp [e] at this
      obtain ⟨sg, rfl, sg1, sg5⟩ : ∃ sg : Nat, v = .int (sg : Nat) ∧ 1 ≤ sg ∧ sg ≤ 5 := sig_at hc2 ev
      have L3 : Loc T H1' [(q, bx b0 b1 b2)] _ := (L2'.set (i := 1) (u := bx b0 b1 b2) rfl pl_lst).sub (List.sublist_cons_self _ _)
      generalize upd _ q (bx b0 b1 b2) = H3 at L3
      clear L1 L2' hS ev
      try dsimp only
      -- the tables
      refine tSeqAsg ?_
      refine ⟨_, rfl, _, rfl, _, _, rfl, rfl, _, rfl, ifKey (a := 2) (b := 5) (Pm := fun m => 1 ≤ m ∧ m ≤ 5) (by decide) (by decide) fun most hm => ?_⟩
      refine ⟨_, rfl, H1', q, most, sg, b0, b1, b2, rfl, L3, hm.1, hm.2, sg1, sg5, fun Hb H4 c d b0 b1 b2 gb Lb htb hds => ?_⟩
      clear hm L3
      try dsimp only
      -- the device
      refine tSeqI ?_
      refine ⟨q, bx b0 b1 b2, Lb.get (i := 0) rfl, trivial, fun od => ?_⟩
      have L4 : Loc T Hb [(q, .frz od (bx b0 b1 b2))] _ := Lb.set (i := 0) rfl pl_frz
      generalize upd H4 q (.frz od (bx b0 b1 b2)) = H5 at L4
      refine ⟨_, rfl, fun dp dx hdp hdx ne => ?_⟩
      have gx : Gr T H5 (upd H5 dx (.own dp)) := .new hdx
      refine ⟨upd H5 dx (.own dp), dp, dx, c, d, rfl, Loc.start.new (by rw [upd_ne (Ne.symm ne)]; exact hdp) pl_ins, htb.gr (L4.g.trans gx), fun H6 g6 hD => ⟨rfl, ?_⟩⟩
      obtain ⟨Hc, gc, Lc, kc⟩ := (L4.mono (gx.trans g6)).freeze
      have hDc := hD.kp kc
      refine ⟨Lc.get (i := 0) rfl, ?_⟩
      have L6 : Loc T Hc [(q, bx b0 b1 b2)] _ := Lc.set (i := 0) rfl pl_lst
      generalize upd H6 q (bx b0 b1 b2) = H7 at L6
      have htc := htb.gr gc
      have g0c := g0.trans (gb.trans gc)
      clear hD kc Lc g6 gx L4 Lb
      try dsimp only
      -- both kinds
      refine ⟨by show 2 ≤ sizeLine; decide, fun t ht => ⟨t, rfl, ⟨_, SqT.of upd_same⟩, ?_⟩⟩
      have L7 := L6.mono (.new (o := .tup [V.str "states", V.str "pairs"]) ht)
      obtain ⟨He, ge, Le, ke⟩ := L7.rebase (List.Sublist.refl _)
      have hte : He t = some (.tup [V.str "states", V.str "pairs"]) := ke t _ upd_same fun h => by
        have e : t = q := by simpa using h
        rw [e, L6.get (i := 0) rfl] at ht
        cases ht
      have htb2 := htc.gr ge
      have hDe := hDc.gr ge
      have gHe := g0c.trans ge
      clear ke L7 L6 ht
      refine for_it (walk_tup (K := K) (a := t) (xs := [V.str "states", V.str "pairs"])) (fun i σ H' => ∃ (Hd : Hp) (b0 b1 b2 : Int) (x6 x7 x8 x9 x10 x11 : Option V), σ = [some (.ref sa), some (.int (0 + (kk : Int))), some (.ref q), some (.int (sg : Nat)), some (.ref c), some (.ref dp), x6, x7, x8, x9, x10, x11] ∧ Gr T He Hd ∧ Loc T Hd [(q, bx b0 b1 b2)] H') ⟨He, b0, b1, b2, x6, x7, x8, x9, x10, x11, rfl, .refl, Le⟩ (fun i σ H' hil z => ?_) (fun i u σ H8 H8' hil z y => ?_) fun σ H8 z => ?_
      · obtain ⟨Hd, b0, b1, b2, x6, x7, x8, x9, x10, x11, rfl, gd, Ld⟩ := z
        exact SqT.of (Ld.g.tup (gd.tup hte))
      · obtain ⟨Hd, b0, b1, b2, x6, x7, x8, x9, x10, x11, rfl, gd, Ld⟩ := z
        obtain ⟨rfl, eu⟩ := y
        obtain ⟨κ, rfl⟩ := kd_at eu
        refine gNameI ?_
        have htd := htb2.gr gd
        have hDd := hDe.gr gd
        have hTd := (gHe.trans gd).tab hT
        -- the web, its nodes, the dict of what comes
        refine tSeqI ?_
        refine ⟨q, bx b0 b1 b2, Ld.get (i := 0) rfl, trivial, fun od => ?_⟩
        have L8 : Loc T Hd [(q, .frz od (bx b0 b1 b2))] _ := Ld.set (i := 0) rfl pl_frz
        generalize upd H8' q (.frz od (bx b0 b1 b2)) = H9 at L8
        refine ⟨_, rfl, _, rfl, fun wp wx hwp hwx ne => ?_⟩
        have gx : Gr T H9 (upd H9 wx (.own wp)) := .new hwx
        have g9 := L8.g.trans gx
        refine ⟨κ, d, upd H9 wx (.own wp), wp, wx, dp, rfl, Loc.start.new (by rw [upd_ne (Ne.symm ne)]; exact hwp) pl_ins, hDd.gr g9, g9.tab hTd, fun H10 ks g10 hW => ⟨rfl, ?_⟩⟩
        have g10' := g9.trans g10
        refine ⟨_, rfl, _, rfl, κ, d, c, rfl, htd.gr g10', fun nl H11 nv hnl hnv g11 hNV => ⟨κ, fun cm hcm => ⟨_, _, _, rfl, ?_⟩⟩⟩
        have L11 := L8.mono ((gx.trans g10).trans g11)
        obtain ⟨Hf, gf, Lf, kf⟩ := L11.freeze
        have hWf := (hW.gr g11).kp kf
        have hnf := kf.lst hnv
        have hNf := hNV.tk kf.tk
        have htf := htd.gr gf
        have hDf := hDd.gr gf
        have hTf := gf.tab hTd
        have Lm := Lf.new (o := FD κ [] fun _ => .non) hcm pl_FD
        refine ⟨Lm.get (i := 1) rfl, ?_⟩
        have Lu : Loc T Hf [(cm, FD κ [] fun _ => .non), (q, bx b0 b1 b2)] _ := Lm.set (i := 1) rfl pl_lst
        generalize upd (upd H11 cm (FD κ [] fun _ => .non)) q (bx b0 b1 b2) = H12 at Lu
        clear Lm Lf kf L11 hnv hNV hW g10' g9 gx L8 hwp hwx hcm hnl
        try dsimp only
        -- come
        refine tSeqI ?_
        refine ⟨q, bx b0 b1 b2, Lu.get (i := 1) rfl, trivial, fun od => ?_⟩
        have Lk : Loc T Hf [(cm, FD κ [] fun _ => .non), (q, .frz od (bx b0 b1 b2))] _ := Lu.set (i := 1) rfl pl_frz
        generalize upd H12 q (.frz od (bx b0 b1 b2)) = H13 at Lk
        clear Lu
        have s5 := d.s5
        have n10 := nds_len (κ := κ) (d := d)
        obtain ⟨dx', tb, ts, hdv, _⟩ := id hDf.ex
        refine ⟨_, rfl, nl, rfl, ⟨_, SqL.of (Lk.g.lst hnf)⟩, ?_⟩
        refine for_it (walk_list (K := K) (a := nl) (xs := nv)) (fun i σ H' => ∃ (Hg : Hp) (f : Nd → V) (x10 : Option V), σ = [some (.ref sa), some (.int (0 + (kk : Int))), some (.ref q), some (.int (sg : Nat)), some (.ref c), some (.ref dp), some (.str (kdT κ)), some (.ref wp), some (.ref nl), some (.ref cm), x10, x11] ∧ Gr T Hf Hg ∧
          Loc T Hg [(cm, FD κ ((nds κ d).take i) f), (q, .frz od (bx b0 b1 b2))] H' ∧ ∀ m ∈ (nds κ d).take i, ∃ (l : Addr) (cv : List V) (cs : List Nd), f m = .ref l ∧ Hg l = some (.lst cv) ∧ NVs κ Hg cv cs ∧ (∀ y, y ∈ cs ↔ Reach (stp κ d) m y) ∧ cs.length ≤ 10) ⟨Hf, fun _ => .non, x10, rfl, .refl, Lk, fun m hm => by simp at hm⟩ (fun i σ H' hil z => ?_) (fun i u σ H14 H14' hil z y => ?_) fun σ H14 z => ?_
        · obtain ⟨Hg, f, x10, rfl, gg, Lg, _⟩ := z
          exact SqL.of (Lg.g.lst (gg.lst hnf))
        · obtain ⟨Hg, f, x10, rfl, gg, Lg, hf⟩ := z
          obtain ⟨rfl, eu⟩ := y
          obtain ⟨n, en, hn⟩ := hNf.2 i u eu
          have hi : InN κ d n := mem_nds.mp (List.mem_of_getElem? en)
          have nn : n ∉ (nds κ d).take i := not_take nds_nd en
          have gG := gg.trans Lg.g
          refine gNameI ?_
          refine ⟨_, rfl, _, rfl, _, rfl, _, rfl, dp, Cd, dx', _, _, rfl, gG.ins hdv, DC.cl, DC.n2, rfl, κ, d, c, u, n, rfl, htf.gr gG, hn.gr gG, hi, fun lq H15 cv cs hlq hlcv g15 hNVs hiff hlen => ?_⟩
          have L15 := Lg.mono g15
          have hput := fd_put (x := .ref lq) (L15.get (i := 0) rfl) (fun m hm => (mem_nds.mp (List.mem_of_mem_take hm)).ok) ((hn.gr gG).gr g15) (Nat.lt_of_le_of_lt (List.length_take_le' _ _) (lt_line (by have := nds_len (κ := κ) (d := d); omega)))
          rw [if_neg nn, ← take_snoc en] at hput
          refine ⟨_, rfl, _, rfl, cm, _, rfl, hput, ?_⟩
          obtain ⟨Hg2, g2, L2', kp, tk⟩ := L15.rebaseT (List.Sublist.refl _) (fun p hp xs e => by
            rcases List.mem_cons.mp hp with rfl | hp
            · cases κ <;> cases e
            · rw [List.mem_singleton.mp hp] at e
              cases e)
          have hl2 : Hg2 lq = some (.lst cv) := kp lq _ hlcv fun h => by
            have h1 := Lg.get (i := 0) rfl
            have h2 := Lg.get (i := 1) rfl
            rcases List.mem_cons.mp h with e | h
            · have e : lq = cm := e
              rw [← e, hlq] at h1
              cases h1
            · have e : lq = q := List.mem_singleton.mp h
              rw [← e, hlq] at h2
              cases h2
          refine ⟨Hg2, fup f n (.ref lq), some u, rfl, gg.trans g2, L2'.set (i := 0) rfl pl_FD, fun m hm => ?_⟩
          rw [take_snoc en] at hm
          by_cases e : m = n
          · subst e
            exact ⟨lq, cv, cs, fup_same _ _ _, hl2, hNVs.tk tk, hiff, hlen⟩
          · rcases List.mem_append.mp hm with h | h
            · obtain ⟨l, cv', cs', h1, h2, h3, h4, h5⟩ := hf m h
              exact ⟨l, cv', cs', by rw [fup_ne _ _ e]; exact h1, g2.lst h2, h3.gr g2, h4, h5⟩
            · exact absurd (List.mem_singleton.mp h) e
        · obtain ⟨Hg, f, x10, rfl, gg, Lg, hf⟩ := z
          rw [hNf.1, List.take_length] at Lg hf
          refine ⟨Lg.get (i := 1) rfl, ?_⟩
          have Lu : Loc T Hg [(cm, FD κ (nds κ d) f), (q, bx b0 b1 b2)] _ := Lg.set (i := 1) rfl pl_lst
          generalize upd H14 q (bx b0 b1 b2) = H15 at Lu
          obtain ⟨Hh, gh, Lh, kh⟩ := Lu.rebase (M := [(q, bx b0 b1 b2)]) (List.sublist_cons_self _ _)
          have hcm : Hh cm = some (FD κ (nds κ d) f) := kh cm _ (Lu.get (i := 0) rfl) fun h => by
            have := Lu.nd
            rw [List.map_singleton, List.mem_singleton] at h
            subst h
            simp at this
          have gfh := gg.trans gh
          have hCm : ComeD κ Hh cm d := ⟨f, nds κ d, hcm, fun _ => Iff.rfl, fun m hm => by
            obtain ⟨l, cv', cs', h1, h2, h3, h4, h5⟩ := hf m hm
            exact ⟨l, cv', cs', h1, gh.lst h2, h3.gr gh, h4, h5⟩⟩
          have hWh := hWf.gr gfh
          have hnh := gfh.lst hnf
          have hNh := hNf.gr gfh
          have hth := htf.gr gfh
          have hDh := hDf.gr gfh
          have hTh := gfh.tab hTf
          have hdh := gfh.ins hdv
          have gdh := gd.trans (gf.trans gfh)
          clear Lu Lg hf kh
          try dsimp only
          -- some nodes
          refine tSeqI ?_
          refine ⟨_, rfl, Nat.zero_le _, fun e he => neNil (SqL.of ((Gr.new (T := T) he).lst (Lh.g.lst hnh))) (dpAll (fun v n h => NV.dp h) (NVs.gr (NVs.gr hNh Lh.g) (.new (T := T) he))) (nd_lay κ _) ndD_depth (SqL.of upd_same) ⟨_, rfl, ?_⟩⟩
          refine ifKeyC (a := 3) (b := 0) (Pm := fun m => m ≤ 3 ∧ (0 < m → nds κ d ≠ [])) (fun h => ⟨Nat.le_refl _, fun _ e => by rw [e] at h; cases h⟩) (fun _ => ⟨Nat.zero_le _, fun h => absurd h (by decide)⟩) fun mm hmm => ?_
          have Le' := Lh.mono (.new (o := .lst []) he)
          generalize upd H15 e (.lst []) = H16 at Le'
          clear Lh he
          refine ⟨_, rfl, by have := hmm.1; omega, by have := hmm.1; omega, ?_⟩
          refine for_it (walk_range (lo := 0) (n := mm)) (fun i σ H' => ∃ (b0 b1 b2 : Int) (x11 : Option V), σ = [some (.ref sa), some (.int (0 + (kk : Int))), some (.ref q), some (.int (sg : Nat)), some (.ref c), some (.ref dp), some (.str (kdT κ)), some (.ref wp), some (.ref nl), some (.ref cm), x10, x11] ∧ Loc T Hh [(q, bx b0 b1 b2)] H') ⟨b0, b1, b2, x11, rfl, Le'⟩ (fun _ _ _ _ _ => trivial) (fun i u σ H17 H17' hil z y => ?_) fun σ H17 z => ?_
          · obtain ⟨b0, b1, b2, x11, rfl, Li⟩ := z
            obtain ⟨rfl, rfl⟩ := y
            refine gNameI ?_
            have nne : nds κ d ≠ [] := hmm.2 (by omega)
            have nvl : nv.length ≤ 10 := by rw [hNf.1]; exact n10
            refine ⟨_, rfl, _, rfl, _, rfl, _, rfl, _, rfl, q, nl, nv, b0, b1, b2, rfl, Li.get (i := 0) rfl, Li.g.lst hnh, fun e => (by
              have h1 := hnh
              rw [e, Li.frs (i := 0) rfl] at h1
              cases h1), fun e => nne (List.eq_nil_of_length_eq_zero (by rw [← hNf.1, e]; rfl)), by omega, fun j v b0 b1 b2 ev => ?_⟩
            obtain ⟨n, en, hn⟩ := hNh.2 j v ev
            have hi : InN κ d n := mem_nds.mp (List.mem_of_getElem? en)
            have Lj : Loc T Hh [(q, bx b0 b1 b2)] _ := Li.set (i := 0) rfl pl_lst
            generalize upd H17' q (bx b0 b1 b2) = H18 at Lj
            have gj := Lj.g
            refine ⟨_, rfl, κ, d, wp, dp, c, cm, ks, v, n, rfl, hWh.gr gj, hDh.gr gj, hth.gr gj, hn.gr gj, hi, hCm.gr gj, gj.tab hTh, fun H19 g19 => ⟨true, rfl, iteF ⟨b0, b1, b2, _, rfl, Lj.mono g19⟩⟩⟩
          · obtain ⟨b0, b1, b2, x11, rfl, Li⟩ := z
            try dsimp only
            -- what is no node
            have gi := Li.g
            refine ⟨_, rfl, _, rfl, dp, Cd, dx', _, _, rfl, gi.ins hdh, DC.cl, DC.n1, rfl, by show 2 ≤ sizeLine; decide, fun b1' hb1 => ?_⟩
            have gb1 : Gr T H17 (upd H17 b1' (.tup [.int 0, .int d.m])) := .new hb1
            refine ⟨κ, d, wp, ks, .ref b1', .str "?", "str", "keeps", rfl, hWh.gr (gi.trans gb1), (gi.trans gb1).tab hTh, .str _, .inr ⟨b1', rfl, upd_same, fun H18 bb g18 hbb => ?_⟩⟩
            have hb1' := g18.tup (upd_same (H := H17) (a := b1') (o := .tup [.int 0, .int d.m]))
            have g18' := gb1.trans g18
            clear hb1 gb1
            refine ⟨_, rfl, rfl, _, rfl, ?_⟩
            have gz := gi.trans g18'
            cases κ with
            | st =>
              refine iteT ⟨_, rfl, dp, Cd, dx', _, _, rfl, gz.ins hdh, DC.cl, DC.n1, rfl, by show 2 ≤ sizeLine; decide, fun b2' hb2 => ⟨by show 2 ≤ sizeLine; decide, fun b3' hb3 => ?_⟩⟩
              have g2 : Gr T H18 (upd H18 b2' (.tup [.int 0, .int d.m])) := .new hb2
              have g3 : Gr T (upd H18 b2' (.tup [.int 0, .int d.m])) (upd (upd H18 b2' (.tup [.int 0, .int d.m])) b3' (.tup [.str "state", .ref b2'])) := .new hb3
              exact neSame (by decide +kernel) ((g2.trans g3).tup hb1') (g3.tup upd_same) ((g2.trans g3).tup hbb) upd_same ⟨_, rfl, iteF ⟨Hh, b0, b1, b2, _, _, _, _, _, _, rfl, gdh, Li.mono (g18'.trans (g2.trans g3))⟩⟩
            | pr =>
              refine iteF ⟨_, rfl, dp, Cd, dx', _, _, rfl, gz.ins hdh, DC.cl, DC.n1, rfl, by show 2 ≤ sizeLine; decide, fun b2' hb2 => ⟨by show 2 ≤ sizeLine; decide, fun b3' hb3 => ?_⟩⟩
              have g2 : Gr T H18 (upd H18 b2' (.tup [.int 0, .int d.m])) := .new hb2
              have g3 : Gr T (upd H18 b2' (.tup [.int 0, .int d.m])) (upd (upd H18 b2' (.tup [.int 0, .int d.m])) b3' (.tup [.str "pair", .ref b2'])) := .new hb3
              exact neSame (by decide +kernel) ((g2.trans g3).tup hb1') (g3.tup upd_same) ((g2.trans g3).tup hbb) upd_same ⟨_, rfl, iteF ⟨Hh, b0, b1, b2, _, _, _, _, _, _, rfl, gdh, Li.mono (g18'.trans (g2.trans g3))⟩⟩
      · obtain ⟨Hd, b0, b1, b2, x6, x7, x8, x9, x10, x11, rfl, gd, Ld⟩ := z
        exact ⟨_, _, _, _, _, _, _, _, _, _, _, rfl, gHe.trans (gd.trans Ld.g)⟩
    · obtain ⟨x1, x2, x3, x4, x5, x6, x7, x8, x9, x10, x11, rfl, g0⟩ := q
      exact k _
end
end Bk
end
section
/-! The head's facts: the kit's, the own errors', the two defs that make lambdas. -/
namespace Bk
open PySem L2 LamX PySem.Spec PyProof.Rows
/-- an own error: its class, its field, its __init__, the built-in one behind -/
structure ErD where
  x : Str
  n : Str
  qual : Str
  params : Arguments
  body : List Stmt
  scope : Scope
  B : String
  newId : String
  initId : String
  tail : List Value
abbrev ErV : Type := Option (Str × Str × Arguments × FuncBody × Scope × Addr × Addr)
def iniAt (K : PySem.W.Frag) (x : Str) : Addr := He.fAd K (x, some "__init__")
def erW (K : PySem.W.Frag) (d : ErD) : ErV := match K.lookup (iniAt K d.x) with
  | some ⟨_, _, .func fd, _⟩ => some (fd.name, fd.qualname, fd.params, fd.body, fd.scope, fd.globals, fd.builtins)
  | _ => none
def ErD.val (d : ErD) : ErV := some (("__init__" : Str), d.qual, d.params, .stmts d.body, d.scope, mainGlobals, builtinsNs)
def isNoneB : Value → Bool
  | .none => true
  | _ => false
theorem isNoneB_ok {v : Value} (h : isNoneB v = true) : v = .none := by
  cases v with
  | none => rfl
  | _ => cases h
/-- the closure is the one cell that holds the class -/
def closB (K : PySem.W.Frag) (C : Addr) : List (Str × Addr) → Bool
  | [(z, cc)] => decide (z = ("__class__" : Str)) && (match K.lookup cc with
    | some ⟨_, _, .cell (some v), _⟩ => decide (v = .ref C)
    | _ => false)
  | _ => false
theorem closB_ok {K : PySem.W.Frag} {C : Addr} {l : List (Str × Addr)} (h : closB K C l = true) : ∃ cc, l = [(("__class__" : Str), cc)] ∧ ∃ cl cld csl, K.lookup cc = some ⟨cl, cld, .cell (some (.ref C)), csl⟩ := by
  match l, h with
  | [(z, cc)], h =>
    obtain ⟨h1, h2⟩ := He.ba (show (decide (z = ("__class__" : Str)) && (match K.lookup cc with
      | some ⟨_, _, .cell (some v), _⟩ => decide (v = .ref C)
      | _ => false)) = true from h)
    refine ⟨cc, by rw [of_decide_eq_true h1], ?_⟩
    cases q : K.lookup cc with
    | none =>
      rw [q] at h2
      cases h2
    | some o =>
      obtain ⟨oc, od, dt, osl⟩ := o
      rw [q] at h2
      cases dt with
      | cell v =>
        cases v with
        | none => cases h2
        | some v => exact ⟨oc, od, osl, by rw [show v = .ref C from of_decide_eq_true h2]⟩
      | _ => cases h2
/-- the code object's file -/
def fileB (K : PySem.W.Frag) (file : Str) (c : Value) : Bool := match c with
  | .ref a => (match K.lookup a with
    | some ⟨_, _, .fields vs, _⟩ => (match (vs[2]? : Option Value) with
      | some (.str z _) => file == z
      | _ => false)
    | _ => false)
  | _ => false
theorem fileB_ok {K : PySem.W.Frag} {file : Str} {c : Value} (h : fileB K file c = true) : ∃ a, c = .ref a ∧ ∃ ccl cdd vs ccs f tf, K.lookup a = some ⟨ccl, cdd, .fields vs, ccs⟩ ∧ vs[2]? = some (.str f tf) ∧ (file == f) = true := by
  cases c with
  | ref a =>
    refine ⟨a, rfl, ?_⟩
    have h : (match K.lookup a with
      | some ⟨_, _, .fields vs, _⟩ => (match (vs[2]? : Option Value) with
        | some (.str z _) => file == z
        | _ => false)
      | _ => false) = true := h
    cases q : K.lookup a with
    | none =>
      rw [q] at h
      cases h
    | some o =>
      obtain ⟨oc, od, dt, osl⟩ := o
      rw [q] at h
      cases dt with
      | fields vs =>
        have h : (match (vs[2]? : Option Value) with
          | some (.str z _) => file == z
          | _ => false) = true := h
        cases e : (vs[2]? : Option Value) with
        | none =>
          rw [e] at h
          cases h
        | some u =>
          rw [e] at h
          cases u with
          | str z t => exact ⟨oc, od, vs, osl, z, t, rfl, e, h⟩
          | _ => cases h
      | _ => cases h
  | _ => cases h
def erF (K : PySem.W.Frag) (file : Str) (d : ErD) : Bool := match K.lookup (iniAt K d.x) with
  | some ⟨_, _, .func fd, _⟩ => isNoneB fd.defaults && (isNoneB fd.kwdefaults && (PySem.W.codeIn K fd.code d.qual && (fileB K file fd.code && closB K (He.ga K d.x) fd.closure)))
  | _ => false
theorem erF_ok {K : PySem.W.Frag} {file : Str} {d : ErD} (h : erF K file d = true) (e : erW K d = d.val) : ∃ oc od doc pm an cda ct cc osl,
    K.lookup (iniAt K d.x) = some ⟨oc, od, .func (PySem.W.ksFn "__init__" d.qual d.params d.body d.scope .none .none doc pm an (.ref cda) ct cc), osl⟩ ∧ PySem.W.codeIn K (.ref cda) d.qual = true ∧
    (∃ ccl cdd vs ccs f tf, K.lookup cda = some ⟨ccl, cdd, .fields vs, ccs⟩ ∧ vs[2]? = some (.str f tf) ∧ (file == f) = true) ∧ ∃ cl cld csl, K.lookup cc = some ⟨cl, cld, .cell (some (.ref (He.ga K d.x))), csl⟩ := by
  unfold erF at h
  unfold erW at e
  cases q : K.lookup (iniAt K d.x) with
  | none =>
    rw [q] at h
    cases h
  | some o =>
    obtain ⟨oc, od, dt, osl⟩ := o
    rw [q] at h e
    cases dt with
    | func fd =>
      obtain ⟨n1, n2, n3, n4, n5, n6, n7, n8, n9, n10, n11, n12, n13, n14, n15⟩ := fd
      have e2 : (some (n1, n2, n3, n4, n5, n6, n15) : ErV) = some (("__init__" : Str), d.qual, d.params, .stmts d.body, d.scope, mainGlobals, builtinsNs) := e
      simp only [Option.some.injEq, Prod.mk.injEq] at e2
      obtain ⟨h1, h2, h3, h4, h5, h6, h7⟩ := e2
      subst h1 h2 h3 h4 h5 h6 h7
      obtain ⟨k1, k⟩ := He.ba (show (isNoneB n8 && (isNoneB n9 && (PySem.W.codeIn K n13 d.qual && (fileB K file n13 && closB K (He.ga K d.x) n7)))) = true from h)
      obtain ⟨k2, k⟩ := He.ba k
      obtain ⟨k3, k⟩ := He.ba k
      obtain ⟨k4, k5⟩ := He.ba k
      have e8 := isNoneB_ok k1
      have e9 := isNoneB_ok k2
      obtain ⟨a, e13, hf⟩ := fileB_ok k4
      obtain ⟨cc, e7, hc⟩ := closB_ok k5
      subst e8 e9 e13 e7
      exact ⟨oc, od, n10, n11, n12, a, n14, cc, osl, rfl, k3, hf, hc⟩
    | _ => cases h
/-- the class object -/
theorem excK {K : PySem.W.Frag} {C : Addr} {bmB : List Value} {newId : String} (q : PySem.W.excInitIn K C bmB newId = true) : ∃ nm N qn bs bm hdct sn sub ab col dd k0 k1 k2 k3 k5,
    K.lookup C = some (excClassObj nm qn C N bs bm hdct sn sub ab col dd k0 k1 k2 k3 k5 newId) ∧ PySem.W.excTail bmB bm = true := by
  unfold PySem.W.excInitIn at q
  split at q
  · rename_i dd cd sl ho
    split at q
    · rename_i C' bm k0 k1 k2 k3 n k5 hm hs
      simp only [Bool.and_eq_true, beq_iff_eq, Bool.not_eq_true'] at q
      obtain ⟨⟨⟨rfl, rfl⟩, hdel⟩, ht⟩ := q
      obtain ⟨nm, bs, mro, ns, qn, hd, sn, sub, ab, col, del⟩ := cd
      dsimp only at hm hdel
      subst hm hdel
      have hsl : sl = #[k0, k1, k2, k3, some (.builtin n), k5] := by
        obtain ⟨l⟩ := sl
        simp only at hs
        rw [hs]
      subst hsl
      exact ⟨nm, ns, qn, bs, bm, hd, sn, sub, ab, col, dd, k0, k1, k2, k3, k5, ho, ht⟩
    · cases q
  · cases q
def erC (K : PySem.W.Frag) (d : ErD) : Bool :=
  He.eqO (PySem.W.ks_superIn K (He.ga K d.x) (He.ga K d.x) "__init__") (some (some (.builtin d.initId))) && (He.eqO (PySem.W.findIn K (.ref (He.ga K d.x)) "__setattr__") (some (some (.builtin "object.__setattr__"))) &&
  (He.eqO (PySem.W.findIn K (.ref (He.ga K d.x)) d.n) (some none) && (He.eqO (PySem.W.findIn K (.ref (He.ga K d.x)) "__init__") (some (some (.ref (iniAt K d.x)))) &&
  (decide (PySem.W.typeIn K (.ref (iniAt K d.x)) = some (.type "function")) && (PySem.W.keepIn K (.ref (He.ga K d.x)) && (decide (PySem.W.subIn K (.ref (He.ga K d.x)) (.type "BaseException") = some true) &&
  (decide (PySem.W.typeIn K (.ref (He.ga K d.x)) = some (.type "type")) && (PySem.W.hasDictIn K (He.ga K d.x) && (decide (PySem.W.subIn K (.ref (He.ga K d.x)) (.type d.B) = some true) &&
  (decide (PySem.W.mroIn K (He.ga K d.x) (.ref (He.ga K d.x)) = some true) && (He.eqO (PySem.W.nsIn K cStatics "thirdparty.any") (some none) && (PySem.W.excInitIn K (He.ga K d.x) d.tail d.newId && xfB K (He.ga K d.x)))))))))))))
/-- what is known of the tail -/
structure TlF (OB : String) (l : List Value) : Prop where
  hOB : l.contains (.type OB) = true
  noA : l.contains (.type "AttributeError") = false
  noN : l.contains (.type "NameError") = false
  hO : l.contains (.type "object") = true
  pass : ∀ self : Value, refuseLoop self "__setattr__" l = pure ()
/-- what is known of the text of an own __init__ -/
def SynF (d : ErD) : Prop := ∃ (msg : Str) (p1 p2 q0 q1 q2 q3 q4 q5 q6 q7 q8 q9 : Pos), d.params = PySem.Bk.eA d.n p1 p2 ∧ d.body = PySem.Bk.eB d.n msg q0 q1 q2 q3 q4 q5 q6 q7 q8 q9 ∧ d.scope = PySem.Bk.eS d.n ∧ PySem.Bk.SupAt msg q0 q1 q2 q3 q4
theorem errT {P : Program} {K : PySem.W.Frag} {h : Heap} {mg : Str → Option Value} {d : ErD} {OB : String} (X : K.In h) (G : h.Ns mainGlobals mg) (hg : (He.Fa.glo d.x).ok K = true) (hs : (He.Fa.free "super").ok K = true) (hC : erC K d = true) (hF : erF K P.main.file d = true) (hW : erW K d = d.val)
    (tl : TlF OB d.tail) (sy : SynF d) (hn : d.n = "at" ∨ d.n = "state" ∨ d.n = "pair") (ts : (P.main.scope.names.lookup ("super" : Str)).isSome = false) :
    PySem.Bk.ErrT P K mg OB d.newId d.B d.initId d.x d.n (He.ga K d.x) (iniAt K d.x) ∧ XfC K (He.ga K d.x) := by
  unfold erC at hC
  obtain ⟨c1, hC⟩ := He.ba hC
  obtain ⟨c2, hC⟩ := He.ba hC
  obtain ⟨c3, hC⟩ := He.ba hC
  obtain ⟨c4, hC⟩ := He.ba hC
  obtain ⟨c5, hC⟩ := He.ba hC
  obtain ⟨c6, hC⟩ := He.ba hC
  obtain ⟨c7, hC⟩ := He.ba hC
  obtain ⟨c8, hC⟩ := He.ba hC
  obtain ⟨c9, hC⟩ := He.ba hC
  obtain ⟨c10, hC⟩ := He.ba hC
  obtain ⟨c11, hC⟩ := He.ba hC
  obtain ⟨c12, hC⟩ := He.ba hC
  obtain ⟨c13, c14⟩ := He.ba hC
  obtain ⟨nm, N, qn, bs, bm, hdct, sn, sub, ab, col, dd, k0, k1, k2, k3, k5, hl, ht⟩ := excK c13
  have hd : hdct = true := by
    unfold PySem.W.hasDictIn PySem.W.clsIn at c9
    rw [hl] at c9
    exact c9
  subst hd
  obtain ⟨oc, od, doc, pm, an, cda, ct, cc, osl, f1, f2, f3, f4⟩ := erF_ok hF hW
  obtain ⟨msg, p1, p2, q0, q1, q2, q3, q4, q5, q6, q7, q8, q9, s1, s2, s3, s4⟩ := sy
  rw [s1, s2, s3] at f1
  refine ⟨⟨He.glo_ok X G hg, ⟨nm, qn, N, bs, bm, sn, sub, ab, col, dd, k0, k1, k2, k3, k5, hl, ?_⟩, He.eqO_ok c1, He.eqO_ok c2, He.eqO_ok c3, He.eqO_ok c4, of_decide_eq_true c5, c6, of_decide_eq_true c7, of_decide_eq_true c8, c9, of_decide_eq_true c10, of_decide_eq_true c11, He.eqO_ok c12, ts, He.free_ok X G hs, by kernel_rfl,
    ⟨oc, od, d.qual, doc, pm, an, cda, ct, cc, osl, msg, p1, p2, q0, q1, q2, q3, q4, q5, q6, q7, q8, q9, f1, f2, ?_, f4, s4⟩, hn⟩, xfB_ok c14⟩
  · exact ⟨by rw [PySem.W.excTail_contains _ _ ht]; exact tl.hOB, by rw [PySem.W.excTail_contains _ _ ht]; exact tl.noA, by rw [PySem.W.excTail_contains _ _ ht]; exact tl.noN, by rw [PySem.W.excTail_contains _ _ ht]; exact tl.hO, fun self => PySem.W.excTail_pass self (tl.pass self) _ ht⟩
  · obtain ⟨ccl, cdd, vs, ccs, f, tf, g1, g2, g3⟩ := f3
    exact ⟨ccl, cdd, vs, ccs, f, tf, g1, g2, g3⟩
/-- what a caught error's class is asked -/
def excDB (K : PySem.W.Frag) (D : Addr) : Bool := (PySem.W.clsIn K D).isSome && (He.eqO (PySem.W.findIn K (.ref D) "__getattribute__") (some (some (.builtin "BaseException.__getattribute__"))) && (He.eqO (PySem.W.findIn K (.ref D) "__getattr__") (some none) && (decide (PySem.W.subIn K (.ref D) (.type "BaseException") = some true) &&
  (He.eqO (PySem.W.findIn K (.ref D) "__class__") (some (some (.builtin "object.__class__"))) && (He.eqO (PySem.W.specialIn K (.builtin "object.__class__") "__get__") (some (some (.builtin "getset_descriptor.__get__"))) && (decide (PySem.W.takesIn K (.builtin "object.__class__") = some true) && decide (PySem.W.mroIn K D (.type "object") = some true)))))))
theorem excDB_ok {K : PySem.W.Frag} {D : Addr} (h : excDB K D = true) : ExcD K D := by
  unfold excDB at h
  obtain ⟨c1, h⟩ := He.ba h
  obtain ⟨c2, h⟩ := He.ba h
  obtain ⟨c3, h⟩ := He.ba h
  obtain ⟨c4, h⟩ := He.ba h
  obtain ⟨c5, h⟩ := He.ba h
  obtain ⟨c6, h⟩ := He.ba h
  obtain ⟨c7, c8⟩ := He.ba h
  exact ⟨c1, He.eqO_ok c2, He.eqO_ok c3, of_decide_eq_true c4, He.eqO_ok c5, He.eqO_ok c6, of_decide_eq_true c7, of_decide_eq_true c8⟩
/-! ### the Hook -/
def kOf (g : Addr → Option Obj) : PySem.W.Frag := He.frT g (cStatics :: He.asD g 5)
structure SaysZ (fa : List He.Fa) (fn : List He.DefD) (er : List ErD) (tf : List He.Defn) (ex : PySem.W.Frag → Bool) (h : Heap) (K : PySem.W.Frag) : Prop where
  d : He.SaysD fa fn K
  er : er.map (erW K) = er.map ErD.val
  more : ex K = true
  hd : ∀ p ∈ tf, PySem.W.codeHdIn K (He.cT K p).1 (He.cT K p).2 = true
  out : ∀ p ∈ tf, K.lookup (He.cT K p).2 = none
  empty : ∀ p ∈ tf, h.get? (He.cT K p).2 = some { cls := .none, data := .fields #[] }
abbrev AlZ : Type := He.AlD × List ErV × Bool
def obsZ (fa : List He.Fa) (fn : List He.DefD) (er : List ErD) (tf : List He.Defn) (ex : PySem.W.Frag → Bool) (g : Addr → Option Obj) : AlZ := (He.obsD fa fn (kOf g), er.map (erW (kOf g)), ex (kOf g) && He.tabsB g tf (kOf g))
def valZ (fn : List He.DefD) (er : List ErD) : AlZ := (He.valD fn, er.map ErD.val, true)
theorem saysZ_of {fa : List He.Fa} {fn : List He.DefD} {er : List ErD} {tf : List He.Defn} {ex : PySem.W.Frag → Bool} {h : Heap} (e : obsZ fa fn er tf ex h.get? = valZ fn er) : SaysZ fa fn er tf ex h (kOf h.get?) := by
  have e1 : He.obsD fa fn (kOf h.get?) = He.valD fn := congrArg (fun z : AlZ => z.1) e
  have e2 : er.map (erW (kOf h.get?)) = er.map ErD.val := congrArg (fun z : AlZ => z.2.1) e
  have e3 : (ex (kOf h.get?) && He.tabsB h.get? tf (kOf h.get?)) = true := congrArg (fun z : AlZ => z.2.2) e
  obtain ⟨h1, h2⟩ := He.ba e3
  have tab : ∀ p ∈ tf, PySem.W.codeHdIn (kOf h.get?) (He.cT (kOf h.get?) p).1 (He.cT (kOf h.get?) p).2 = true ∧ ∃ o, h.get? (He.cT (kOf h.get?) p).2 = some o ∧ He.emptyTab o = true := fun p hp => by
    obtain ⟨h3, h4⟩ := He.ba (List.all_eq_true.mp h2 p hp)
    refine ⟨h3, ?_⟩
    cases q : h.get? (He.cT (kOf h.get?) p).2 with
    | none =>
      rw [q] at h4
      cases h4
    | some o =>
      rw [q] at h4
      exact ⟨o, rfl, h4⟩
  refine ⟨e1, e2, h1, fun p hp => (tab p hp).1, fun p hp => ?_, fun p hp => ?_⟩
  · obtain ⟨_, o, q, z⟩ := tab p hp
    exact He.frT_none q z
  · obtain ⟨_, o, q, z⟩ := tab p hp
    rw [q, He.emptyTab_eq z]
def hookZ (fa : List He.Fa) (fn : List He.DefD) (er : List ErD) (tf : List He.Defn) (ex : PySem.W.Frag → Bool) : PySem.W.Hook where
  α := AlZ
  obs := fun s => obsZ fa fn er tf ex s.heap.get?
  val := fun _ => valZ fn er
  says := fun _ h => ∃ K : PySem.W.Frag, K.In h ∧ SaysZ fa fn er tf ex h K
  of := fun _ _ e => ⟨_, He.frT_in, saysZ_of e⟩
  keeps := fun _ _ _ ⟨K, hK, c⟩ k => ⟨K, PySem.W.Frag.In.keeps hK k, ⟨c.d, c.er, c.more, c.hd, c.out, fun p hp => k _ _ (c.empty p hp)⟩⟩
theorem obsZ_eq {fa : List He.Fa} {fn : List He.DefD} {er : List ErD} {tf : List He.Defn} {ex : PySem.W.Frag → Bool} {g : Addr → Option Obj} {s : Shared} (h : ∀ a, g a = s.heap.get? a) : obsZ fa fn er tf ex g = (hookZ fa fn er tf ex).obs s := by
  have e : g = s.heap.get? := funext h
  rw [e] <;> rfl
theorem SaysZ.ers {fa : List He.Fa} {fn : List He.DefD} {er : List ErD} {tf : List He.Defn} {ex : PySem.W.Frag → Bool} {h : Heap} {K : PySem.W.Frag} (c : SaysZ fa fn er tf ex h K) {d : ErD} (hd : d ∈ er) : erW K d = d.val := by
  obtain ⟨i, hi, e⟩ := List.mem_iff_getElem.mp hd
  have e1 := congrArg (fun l : List ErV => l[i]?) c.er
  simp only [List.getElem?_map, List.getElem?_eq_getElem hi, Option.map_some, Option.some.injEq] at e1
  rw [← e]
  exact e1
/-! ### defs -/
theorem funOf {K : PySem.W.Frag} {x qual : Str} {st : Stmt} {f : Addr} {fd : FuncData} (F : FunD K x qual (defArgs st) (defBody st) (defScope st) [] [] f fd) : Fun K x qual st f fd := by
  obtain ⟨⟨oc, od, dV, kV, doc, pm, an, cdv, ct, osl, e1, e2, e3, e4, e5⟩, kp⟩ := F
  rcases e4 with ⟨_, rfl⟩ | ⟨z, _⟩
  · exact ⟨⟨oc, od, kV, doc, pm, an, cdv, ct, osl, e1, e2, e3⟩, kp⟩
  · exact absurd rfl z
theorem funCOf {K : PySem.W.Frag} {x qual : Str} {st : Stmt} {p : He.Defn} {fd : FuncData} (F : FunD K x qual (defArgs st) (defBody st) (defScope st) [] [] (He.fAd K p) fd) : FunC K x qual st (He.fAd K p) fd (He.codeOf K p) := by
  obtain ⟨⟨oc, od, dV, kV, doc, pm, an, cdv, ct, osl, e1, e2, e3, e4, e5⟩, kp⟩ := F
  rcases e4 with ⟨_, rfl⟩ | ⟨z, _⟩
  · obtain ⟨c, rfl⟩ := He.codeIn_ref e3
    have ec : He.codeOf K p = c := He.codeOf_eq e2 (by rw [e1])
    rw [ec]
    exact ⟨⟨oc, od, kV, doc, pm, an, ct, osl, e1, e2, e3⟩, kp⟩
  · exact absurd rfl z
end Bk
end
section
set_option maxHeartbeats 0
/-! The head of this law: its facts, its run. -/
namespace BkHd
open PySem PySem.Spec PyProof.Rows L2 Bk
def fn1 : List He.DefD := [⟨("is_integer", none), "is_integer", "is_integer", defArgs (top 12), defBody (top 12), defScope (top 12), [], []⟩, ⟨("is_number", none), "is_number", "is_number", defArgs (top 13), defBody (top 13), defScope (top 13), [], []⟩, ⟨("is_text", none), "is_text", "is_text", defArgs (top 14), defBody (top 14), defScope (top 14), [], []⟩, ⟨("is_sequence", none), "is_sequence", "is_sequence", defArgs (top 15), defBody (top 15), defScope (top 15), [], []⟩, ⟨("is_lot_of", none), "is_lot_of", "is_lot_of", defArgs (top 16), defBody (top 16), defScope (top 16), [], []⟩, ⟨("lot_within", none), "lot_within", "lot_within", defArgs (top 17), defBody (top 17), defScope (top 17), [], []⟩, ⟨("greatest_lots", none), "greatest_lots", "greatest_lots", defArgs (top 18), defBody (top 18), defScope (top 18), [], []⟩, ⟨("Device", some "__init__"), "__init__", "Device.__init__", defArgs (inClass (top 20) 0), defBody (inClass (top 20) 0), defScope (inClass (top 20) 0), [], []⟩, ⟨("Device", some "effect"), "effect", "Device.effect", defArgs (inClass (top 20) 4), defBody (inClass (top 20) 4), defScope (inClass (top 20) 4), [], []⟩, ⟨("is_table", none), "is_table", "is_table", defArgs (top 21), defBody (top 21), defScope (top 21), [], []⟩, ⟨("need_state", none), "need_state", "need_state", defArgs (top 22), defBody (top 22), defScope (top 22), [], []⟩, ⟨("need_pair", none), "need_pair", "need_pair", defArgs (top 23), defBody (top 23), defScope (top 23), [], []⟩, ⟨("check_row", none), "check_row", "check_row", defArgs (top 24), defBody (top 24), defScope (top 24), [], []⟩, ⟨("check_lot", none), "check_lot", "check_lot", defArgs (top 25), defBody (top 25), defScope (top 25), [], []⟩, ⟨("joined_effects", none), "joined_effects", "joined_effects", defArgs (top 26), defBody (top 26), defScope (top 26), [], []⟩, ⟨("said_effect", none), "said_effect", "said_effect", defArgs (top 27), defBody (top 27), defScope (top 27), [], []⟩, ⟨("pair_of", none), "pair_of", "pair_of", defArgs (top 29), defBody (top 29), defScope (top 29), [], []⟩, ⟨("next_node", none), "next_node", "next_node", defArgs (top 30), defBody (top 30), defScope (top 30), [], []⟩, ⟨("strong_parts", none), "strong_parts", "strong_parts", defArgs (top 31), defBody (top 31), defScope (top 31), [], []⟩, ⟨("numbered_parts", none), "numbered_parts", "numbered_parts", defArgs (top 32), defBody (top 32), defScope (top 32), [], []⟩]
def fn2 : List He.DefD := [⟨("Web", some "__init__"), "__init__", "Web.__init__", defArgs (inClass (top 33) 0), defBody (inClass (top 33) 0), defScope (inClass (top 33) 0), [], []⟩, ⟨("Web", some "lot_held"), "lot_held", "Web.lot_held", defArgs (inClass (top 33) 1), defBody (inClass (top 33) 1), defScope (inClass (top 33) 1), [], []⟩, ⟨("Web", some "need_node"), "need_node", "Web.need_node", defArgs (inClass (top 33) 2), defBody (inClass (top 33) 2), defScope (inClass (top 33) 2), [], []⟩, ⟨("Web", some "knot_of"), "knot_of", "Web.knot_of", defArgs (inClass (top 33) 4), defBody (inClass (top 33) 4), defScope (inClass (top 33) 4), [], []⟩, ⟨("Web", some "great_lots"), "great_lots", "Web.great_lots", defArgs (inClass (top 33) 7), defBody (inClass (top 33) 7), defScope (inClass (top 33) 7), [], []⟩, ⟨("Web", some "keeps"), "keeps", "Web.keeps", defArgs (inClass (top 33) 8), defBody (inClass (top 33) 8), defScope (inClass (top 33) 8), [], []⟩, ⟨("Web", some "keep_rows"), "keep_rows", "Web.keep_rows", defArgs (inClass (top 33) 9), defBody (inClass (top 33) 9), defScope (inClass (top 33) 9), [], []⟩, ⟨("Web", some "closed_row"), "closed_row", "Web.closed_row", defArgs (inClass (top 33) 10), defBody (inClass (top 33) 10), defScope (inClass (top 33) 10), [], []⟩, ⟨("first_rows", none), "first_rows", "first_rows", defArgs (top 34), defBody (top 34), defScope (top 34), [], []⟩, ⟨("_law_box", none), "_law_box", "_law_box", defArgs (top 36), defBody (top 36), defScope (top 36), [], []⟩, ⟨("_law_take", none), "_law_take", "_law_take", defArgs (top 37), defBody (top 37), defScope (top 37), [], []⟩, ⟨("_law_pick", none), "_law_pick", "_law_pick", defArgs (top 38), defBody (top 38), defScope (top 38), [], []⟩, ⟨("_law_tables", none), "_law_tables", "_law_tables", defArgs (top 39), defBody (top 39), defScope (top 39), [], []⟩, ⟨("_law_nodes", none), "_law_nodes", "_law_nodes", defArgs (top 42), defBody (top 42), defScope (top 42), [], []⟩, ⟨("_law_next", none), "_law_next", "_law_next", defArgs (top 43), defBody (top 43), defScope (top 43), [], []⟩, ⟨("_law_come", none), "_law_come", "_law_come", defArgs (top 44), defBody (top 44), defScope (top 44), [], []⟩, ⟨("_law_lots", none), "_law_lots", "_law_lots", defArgs (top 45), defBody (top 45), defScope (top 45), [], []⟩, ⟨("_law_round", none), "_law_round", "_law_round", defArgs (top 46), defBody (top 46), defScope (top 46), [], []⟩, ⟨("_law_refused", none), "_law_refused", "_law_refused", defArgs (top 47), defBody (top 47), defScope (top 47), [], []⟩, ⟨("_law_rows_right", none), "_law_rows_right", "_law_rows_right", defArgs (top 48), defBody (top 48), defScope (top 48), [], []⟩, ⟨("_law_node_right", none), "_law_node_right", "_law_node_right", defArgs (top 49), defBody (top 49), defScope (top 49), [], []⟩, ⟨("law", none), "law", "law", defArgs (top 50), defBody (top 50), defScope (top 50), [], []⟩]
def fn : List He.DefD := fn1 ++ fn2
def fa0 : List He.Fa := [.glo "is_integer", .glo "is_number", .glo "is_text", .glo "is_sequence", .glo "is_lot_of", .glo "lot_within", .glo "greatest_lots", .glo "is_table", .glo "need_state", .glo "need_pair", .glo "check_row", .glo "check_lot", .glo "joined_effects", .glo "said_effect", .glo "pair_of", .glo "next_node", .glo "strong_parts", .glo "numbered_parts", .glo "first_rows", .glo "_law_box", .glo "_law_take", .glo "_law_pick", .glo "_law_tables", .glo "_law_nodes", .glo "_law_next", .glo "_law_come", .glo "_law_lots", .glo "_law_round", .glo "_law_refused", .glo "_law_rows_right"]
def fa1 : List He.Fa := [.glo "_law_node_right", .glo "law", .glo "Device", .cls "Device", .mkr "Device", .keep "Device", .glo "Web", .cls "Web", .mkr "Web", .keep "Web", .glo "Refused", .keep "Refused", .glo "NoState", .keep "NoState", .glo "NoPair", .keep "NoPair", .glo "BackError", .keep "BackError", .noat "Device" "states", .noat "Device" "signals", .noat "Device" "tables", .noat "Web" "device", .noat "Web" "kind", .noat "Web" "nodes", .noat "Web" "_next", .noat "Web" "_steps", .noat "Web" "knots", .noat "Web" "_home", .noat "Web" "held", .noat "Web" "_great"]
def fa2 : List He.Fa := [.meth "Device" "effect", .meth "Web" "lot_held", .meth "Web" "need_node", .meth "Web" "knot_of", .meth "Web" "great_lots", .meth "Web" "keeps", .meth "Web" "keep_rows", .meth "Web" "closed_row", .free "isinstance", .free "int", .free "bool", .free "str", .free "list", .free "tuple", .free "len", .free "range", .free "enumerate", .free "zip", .free "sorted", .free "min", .free "max", .free "all", .free "any", .free "abs", .free "repr", .free "super", .str "SIGNALS" "abcde", .int "MOST_STATES" 60, .int "MOST_SIGNS" 10000, .exm "Refused" "Refused" true]
def fa3 : List He.Fa := [.exm "Refused" "NoState" false, .exm "Refused" "NoPair" false, .exm "NoState" "Refused" false, .exm "NoState" "NoState" true, .exm "NoState" "NoPair" false, .exm "NoPair" "Refused" false, .exm "NoPair" "NoState" false, .exm "NoPair" "NoPair" true]
def fa : List He.Fa := fa0 ++ fa1 ++ fa2 ++ fa3
def lo1 : List Str := ["_wall", "BackError", "BadDevice", "BadRow", "Refused", "NoState", "NoPair", "SIGNALS", "MOST_STATES", "MOST_SIGNS", "is_integer", "is_number", "is_text", "is_sequence", "is_lot_of", "lot_within", "greatest_lots", "Device", "is_table", "need_state", "need_pair", "check_row", "check_lot", "joined_effects", "said_effect", "pair_of", "next_node", "strong_parts", "numbered_parts", "Web"]
def lo2 : List Str := ["first_rows", "_law_box", "_law_take", "_law_pick", "_law_tables", "_law_row", "_law_after", "_law_nodes", "_law_next", "_law_come", "_law_lots", "_law_round", "_law_refused", "_law_rows_right", "_law_node_right"]
def loose : List Str := lo1 ++ lo2
abbrev pNum : He.Defn := ("numbered_parts", none)
abbrev pClo : He.Defn := ("Web", some "closed_row")
def tf : List He.Defn := [pNum, pClo]
abbrev keTail : List Value := [.type "KeyError", .type "LookupError", .type "Exception", .type "BaseException", .type "object"]
abbrev vTail : List Value := [.type "ValueError", .type "Exception", .type "BaseException", .type "object"]
def eR : ErD := ⟨"Refused", "at", "Refused.__init__", defArgs (inClass (top 5) 0), defBody (inClass (top 5) 0), defScope (inClass (top 5) 0), "ValueError", "ValueError.__new__", "ValueError.__init__", vTail⟩
def eSt : ErD := ⟨"NoState", "state", "NoState.__init__", defArgs (inClass (top 6) 0), defBody (inClass (top 6) 0), defScope (inClass (top 6) 0), "KeyError", "LookupError.__new__", "KeyError.__init__", keTail⟩
def ePr : ErD := ⟨"NoPair", "pair", "NoPair.__init__", defArgs (inClass (top 7) 0), defBody (inClass (top 7) 0), defScope (inClass (top 7) 0), "KeyError", "LookupError.__new__", "KeyError.__init__", keTail⟩
def er : List ErD := [eR, eSt, ePr]
abbrev lw : PySem.W.OpenLaw := PySem.Challenge.rw_backinstep_k07_whole_what_can_be_kept_up
abbrev R : PySem.W.OpenRow := PySem.W.OpenLaw.row lw
def ex (K : PySem.W.Frag) : Bool := (er.all fun d => erC K d && erF K lw.prog.main.file d) && (excDB K (He.ga K "Refused") && (decide (PySem.W.kitOne K (.ref (He.ga K "Refused")) (.ref (He.ga K "BackError")) = some true) && decide ((He.cT K pNum).2 ≠ (He.cT K pClo).2)))
abbrev hk : PySem.W.Hook := hookZ fa fn er tf ex
def ob (s : PySem.W.SharedT) : AlZ := obsZ fa fn er tf ex (HandSHeadRun.getT s)
theorem ob_eq (s : PySem.W.SharedT) : ob s = hk.obs s.abs := obsZ_eq (HandSHeadRun.getT_eq s)
theorem run (w : World) : HandSHeadRun.RunEq R (PySem.W.view R.prog [50]) hk ob 4000 loose w := by
  intro os
  kernel_rfl
end BkHd
end
section
/-! All promises from the head's facts. -/
namespace BkHd
open PySem PySem.Spec PyProof.Rows L2 Bk LamX
theorem syR : SynF eR := ⟨"refused", _, _, _, _, _, _, _, _, _, _, _, _, rfl, rfl, rfl, ⟨_, fun env => rfl⟩⟩
theorem sySt : SynF eSt := ⟨"no such state", _, _, _, _, _, _, _, _, _, _, _, _, rfl, rfl, rfl, ⟨_, fun env => rfl⟩⟩
theorem syPr : SynF ePr := ⟨"no such pair", _, _, _, _, _, _, _, _, _, _, _, _, rfl, rfl, rfl, ⟨_, fun env => rfl⟩⟩
theorem tlV : TlF "ValueError" vTail := ⟨by decide +kernel, by decide +kernel, by decide +kernel, by decide +kernel, fun self => PySem.F.store_ValueError.passes self⟩
theorem tlK : TlF "LookupError" keTail := ⟨by decide +kernel, by decide +kernel, by decide +kernel, by decide +kernel, fun self => by kernel_rfl⟩
theorem topS : (lw.prog.main.scope.names.lookup ("super" : Str)).isSome = false := by kernel_rfl
/-- the tables of the two defs that make lambdas -/
def TT (K : PySem.W.Frag) : List (Addr × Str) := [((He.cT K pNum).2, ("numbered_parts" : Str) ++ ".<locals>." ++ "<lambda>"), ((He.cT K pClo).2, ("Web.closed_row" : Str) ++ ".<locals>." ++ "<lambda>")]
theorem kbOf {K : PySem.W.Frag} {x qual : Str} {st : Stmt} {f : Addr} {fd : FuncData} {ks : List Str} (F : Fun K x qual st f fd)
    (h : ∀ (kV doc pm : Value) (an : Option Addr) (cdv ct : Value) (us ws : List Value), us.length = 1 → ws.length = ks.length → bindArgs (PySem.W.fnOf x qual (defArgs st) (defBody st) (defScope st) .none kV doc pm an cdv ct) ⟨us, ks.zip ws⟩ = pure ((("self" : Str) :: ks).zip (us ++ ws))) :
    ∀ (s : Shared) (u : Value) (ws : List Value), ws.length = ks.length → BindsTo s fd ⟨[u], ks.zip ws⟩ ((("self" : Str) :: ks).zip ([u] ++ ws)) := by
  obtain ⟨oc, od, kV, doc, pm, an, cdv, ct, osl, rfl, lk, hcd⟩ := F.ex
  exact kb_self (K := K) (h kV doc pm an cdv ct)
theorem bindC {K : PySem.W.Frag} {x qual : Str} {st : Stmt} {f c : Addr} {fd : FuncData} {ps : List Str} (F : FunC K x qual st f fd c)
    (h : ∀ (kV doc pm : Value) (an : Option Addr) (cdv ct : Value) (us : List Value), us.length = ps.length → bindArgs (PySem.W.fnOf x qual (defArgs st) (defBody st) (defScope st) .none kV doc pm an cdv ct) ⟨us, []⟩ = pure (ps.zip us)) : Binds K fd ps [] := by
  obtain ⟨oc, od, kV, doc, pm, an, ct, osl, rfl, lk, hcd⟩ := F.ex
  exact .all (h kV doc pm an (.ref c) ct)
theorem facts {w : World} {K : PySem.W.Frag} {h : Heap} {mg : Str → Option Value} {f : Addr} (X : K.In h) (G : h.Ns mainGlobals mg) (hfa : mg ("law" : Str) = some (.ref f)) (c : SaysZ fa fn er tf ex h K) :
    ∃ fd : FuncData, (∀ (s : Shared) (v : Value), BindsTo s fd ⟨[v], []⟩ [("_law_script", v)]) ∧
      ∀ base : Heap, K.In base → base.Ns mainGlobals mg → (∀ p ∈ tf.map (He.cT K), TabB base mg p.1 p.2) → FnG lw.prog w K mg base CX0 11 f fd ["_law_script"] (spLaw (TT K) K) := by
  obtain ⟨m1, m2⟩ := He.ba (show ((er.all fun d => erC K d && erF K lw.prog.main.file d) && (excDB K (He.ga K "Refused") && (decide (PySem.W.kitOne K (.ref (He.ga K "Refused")) (.ref (He.ga K "BackError")) = some true) && decide ((He.cT K pNum).2 ≠ (He.cT K pClo).2)))) = true from c.more)
  obtain ⟨m3, m4⟩ := He.ba m2
  obtain ⟨m5, m6⟩ := He.ba m4
  have hne := of_decide_eq_true m6
  have erk : ∀ d ∈ er, erC K d = true ∧ erF K lw.prog.main.file d = true := fun d hd => He.ba (List.all_eq_true.mp m1 d hd)
  have iR : eR ∈ er := List.mem_cons_self
  have iS : eSt ∈ er := List.mem_cons_of_mem _ List.mem_cons_self
  have iP : ePr ∈ er := List.mem_cons_of_mem _ (List.mem_cons_of_mem _ List.mem_cons_self)
  obtain ⟨ER, xfR⟩ := errT (P := lw.prog) (d := eR) (OB := "ValueError") X G (c.d.fact 40 (f := .glo "Refused") rfl) (c.d.fact 85 (f := .free "super") rfl) (erk _ iR).1 (erk _ iR).2 (c.ers iR) tlV syR (.inl rfl) topS
  obtain ⟨ES, xfS⟩ := errT (P := lw.prog) (d := eSt) (OB := "LookupError") X G (c.d.fact 42 (f := .glo "NoState") rfl) (c.d.fact 85 (f := .free "super") rfl) (erk _ iS).1 (erk _ iS).2 (c.ers iS) tlK sySt (.inr (.inl rfl)) topS
  obtain ⟨EP, xfP⟩ := errT (P := lw.prog) (d := ePr) (OB := "LookupError") X G (c.d.fact 44 (f := .glo "NoPair") rfl) (c.d.fact 85 (f := .free "super") rfl) (erk _ iP).1 (erk _ iP).2 (c.ers iP) tlK syPr (.inr (.inr rfl)) topS
  have B : Bt mg := ⟨(He.free_ok X G (c.d.fact 68 (f := .free "isinstance") rfl)), (He.free_ok X G (c.d.fact 69 (f := .free "int") rfl)), (He.free_ok X G (c.d.fact 70 (f := .free "bool") rfl)), (He.free_ok X G (c.d.fact 71 (f := .free "str") rfl)), (He.free_ok X G (c.d.fact 72 (f := .free "list") rfl)), (He.free_ok X G (c.d.fact 73 (f := .free "tuple") rfl)), (He.free_ok X G (c.d.fact 74 (f := .free "len") rfl)), (He.free_ok X G (c.d.fact 75 (f := .free "range") rfl)), (He.free_ok X G (c.d.fact 76 (f := .free "enumerate") rfl)), (He.free_ok X G (c.d.fact 77 (f := .free "zip") rfl)), (He.free_ok X G (c.d.fact 78 (f := .free "sorted") rfl)), (He.free_ok X G (c.d.fact 79 (f := .free "min") rfl)), (He.free_ok X G (c.d.fact 80 (f := .free "max") rfl)), (He.free_ok X G (c.d.fact 81 (f := .free "all") rfl)), (He.free_ok X G (c.d.fact 82 (f := .free "any") rfl)), (He.free_ok X G (c.d.fact 83 (f := .free "abs") rfl)), (He.free_ok X G (c.d.fact 84 (f := .free "repr") rfl))⟩
  have GC : Gc mg := ⟨(He.str_ok X G (c.d.fact 86 (f := .str "SIGNALS" "abcde") rfl)), (He.int_ok X G (c.d.fact 87 (f := .int "MOST_STATES" 60) rfl)), (He.int_ok X G (c.d.fact 88 (f := .int "MOST_SIGNS" 10000) rfl))⟩
  have DC : DvC K mg (He.ga K "Device") := ⟨(He.cls_ok (c.d.fact 33 (f := .cls "Device") rfl)), (He.noat_ok (c.d.fact 48 (f := .noat "Device" "states") rfl)), (He.noat_ok (c.d.fact 49 (f := .noat "Device" "signals") rfl)), (He.noat_ok (c.d.fact 50 (f := .noat "Device" "tables") rfl))⟩
  have W : WbC K mg (He.ga K "Web") := ⟨(He.cls_ok (c.d.fact 37 (f := .cls "Web") rfl)), (He.noat_ok (c.d.fact 51 (f := .noat "Web" "device") rfl)), (He.noat_ok (c.d.fact 52 (f := .noat "Web" "kind") rfl)), (He.noat_ok (c.d.fact 53 (f := .noat "Web" "nodes") rfl)), (He.noat_ok (c.d.fact 54 (f := .noat "Web" "_next") rfl)), (He.noat_ok (c.d.fact 55 (f := .noat "Web" "_steps") rfl)), (He.noat_ok (c.d.fact 56 (f := .noat "Web" "knots") rfl)), (He.noat_ok (c.d.fact 57 (f := .noat "Web" "_home") rfl)), (He.noat_ok (c.d.fact 58 (f := .noat "Web" "held") rfl)), (He.noat_ok (c.d.fact 59 (f := .noat "Web" "_great") rfl))⟩
  have EH : ErrH K mg (He.ga K "Refused") (He.ga K "NoState") (He.ga K "NoPair") (He.ga K "BackError") := ⟨(He.glo_ok X G (c.d.fact 40 (f := .glo "Refused") rfl)), (He.glo_ok X G (c.d.fact 42 (f := .glo "NoState") rfl)), (He.glo_ok X G (c.d.fact 44 (f := .glo "NoPair") rfl)), (He.glo_ok X G (c.d.fact 46 (f := .glo "BackError") rfl)), (He.exm_ok (c.d.fact 89 (f := .exm "Refused" "Refused" true) rfl)), (He.exm_ok (c.d.fact 92 (f := .exm "NoState" "Refused" false) rfl)), (He.exm_ok (c.d.fact 93 (f := .exm "NoState" "NoState" true) rfl)), (He.exm_ok (c.d.fact 95 (f := .exm "NoPair" "Refused" false) rfl)), (He.exm_ok (c.d.fact 96 (f := .exm "NoPair" "NoState" false) rfl)), (He.exm_ok (c.d.fact 97 (f := .exm "NoPair" "NoPair" true) rfl)), xfR, xfS, xfP, ER.noN, ES.noN, EP.noN, excDB_ok m3, of_decide_eq_true m5⟩
  obtain ⟨d_is_integer, F_is_integer⟩ := c.d.def_ 0 rfl
  obtain ⟨d_is_number, F_is_number⟩ := c.d.def_ 1 rfl
  obtain ⟨d_is_text, F_is_text⟩ := c.d.def_ 2 rfl
  obtain ⟨d_is_sequence, F_is_sequence⟩ := c.d.def_ 3 rfl
  obtain ⟨d_is_lot_of, F_is_lot_of⟩ := c.d.def_ 4 rfl
  obtain ⟨d_lot_within, F_lot_within⟩ := c.d.def_ 5 rfl
  obtain ⟨d_greatest_lots, F_greatest_lots⟩ := c.d.def_ 6 rfl
  obtain ⟨d_Device___init__, F_Device___init__⟩ := c.d.def_ 7 rfl
  obtain ⟨d_Device_effect, F_Device_effect⟩ := c.d.def_ 8 rfl
  obtain ⟨d_is_table, F_is_table⟩ := c.d.def_ 9 rfl
  obtain ⟨d_need_state, F_need_state⟩ := c.d.def_ 10 rfl
  obtain ⟨d_need_pair, F_need_pair⟩ := c.d.def_ 11 rfl
  obtain ⟨d_check_row, F_check_row⟩ := c.d.def_ 12 rfl
  obtain ⟨d_check_lot, F_check_lot⟩ := c.d.def_ 13 rfl
  obtain ⟨d_joined_effects, F_joined_effects⟩ := c.d.def_ 14 rfl
  obtain ⟨d_said_effect, F_said_effect⟩ := c.d.def_ 15 rfl
  obtain ⟨d_pair_of, F_pair_of⟩ := c.d.def_ 16 rfl
  obtain ⟨d_next_node, F_next_node⟩ := c.d.def_ 17 rfl
  obtain ⟨d_strong_parts, F_strong_parts⟩ := c.d.def_ 18 rfl
  obtain ⟨d_numbered_parts, F_numbered_parts⟩ := c.d.def_ 19 rfl
  obtain ⟨d_Web___init__, F_Web___init__⟩ := c.d.def_ 20 rfl
  obtain ⟨d_Web_lot_held, F_Web_lot_held⟩ := c.d.def_ 21 rfl
  obtain ⟨d_Web_need_node, F_Web_need_node⟩ := c.d.def_ 22 rfl
  obtain ⟨d_Web_knot_of, F_Web_knot_of⟩ := c.d.def_ 23 rfl
  obtain ⟨d_Web_great_lots, F_Web_great_lots⟩ := c.d.def_ 24 rfl
  obtain ⟨d_Web_keeps, F_Web_keeps⟩ := c.d.def_ 25 rfl
  obtain ⟨d_Web_keep_rows, F_Web_keep_rows⟩ := c.d.def_ 26 rfl
  obtain ⟨d_Web_closed_row, F_Web_closed_row⟩ := c.d.def_ 27 rfl
  obtain ⟨d_first_rows, F_first_rows⟩ := c.d.def_ 28 rfl
  obtain ⟨d__law_box, F__law_box⟩ := c.d.def_ 29 rfl
  obtain ⟨d__law_take, F__law_take⟩ := c.d.def_ 30 rfl
  obtain ⟨d__law_pick, F__law_pick⟩ := c.d.def_ 31 rfl
  obtain ⟨d__law_tables, F__law_tables⟩ := c.d.def_ 32 rfl
  obtain ⟨d__law_nodes, F__law_nodes⟩ := c.d.def_ 33 rfl
  obtain ⟨d__law_next, F__law_next⟩ := c.d.def_ 34 rfl
  obtain ⟨d__law_come, F__law_come⟩ := c.d.def_ 35 rfl
  obtain ⟨d__law_lots, F__law_lots⟩ := c.d.def_ 36 rfl
  obtain ⟨d__law_round, F__law_round⟩ := c.d.def_ 37 rfl
  obtain ⟨d__law_refused, F__law_refused⟩ := c.d.def_ 38 rfl
  obtain ⟨d__law_rows_right, F__law_rows_right⟩ := c.d.def_ 39 rfl
  obtain ⟨d__law_node_right, F__law_node_right⟩ := c.d.def_ 40 rfl
  obtain ⟨d_law, F_law⟩ := c.d.def_ 41 rfl
  have el := hfa.symm.trans (He.glo_ok X G (c.d.fact 31 (f := .glo "law") rfl))
  cases el
  refine ⟨d_law, fun s v => FunD.bindsA (ps := ["_law_script"]) F_law (fun _ _ _ _ _ _ us hl => match us, hl with | [_], _ => rfl) s [v] rfl, fun base KB GB TB => ?_⟩
  have LN : LamT (TT K) base mg (He.codeOf K pNum) (He.cT K pNum).2 (("numbered_parts" : Str) ++ ".<locals>." ++ "<lambda>") := ⟨TB _ (List.mem_map_of_mem (f := He.cT K) (show pNum ∈ tf from List.mem_cons_self)), List.mem_cons_self, fun p hp e => by
    rcases List.mem_cons.mp hp with rfl | hp
    · rfl
    · rw [List.mem_singleton.mp hp] at e
      exact absurd e.symm hne⟩
  have LC : LamT (TT K) base mg (He.codeOf K pClo) (He.cT K pClo).2 (("Web.closed_row" : Str) ++ ".<locals>." ++ "<lambda>") := ⟨TB _ (List.mem_map_of_mem (f := He.cT K) (show pClo ∈ tf from List.mem_cons_of_mem _ List.mem_cons_self)), List.mem_cons_of_mem _ List.mem_cons_self, fun p hp e => by
    rcases List.mem_cons.mp hp with rfl | hp
    · exact absurd e hne
    · rw [List.mem_singleton.mp hp]⟩
  have c_is_integer : CalF lw.prog w K mg base CX0 1 "is_integer" ["value"] (spIsInteger K) := ⟨_, _, ok_isInteger (funOf F_is_integer) B, (He.glo_ok X G (c.d.fact 0 (f := .glo "is_integer") rfl)), F_is_integer.kp, FunD.bindsN F_is_integer (fun _ _ _ _ _ _ us hl => match us, hl with | [_], _ => rfl)⟩
  have c_is_number : CalF lw.prog w K mg base CX0 2 "is_number" ["value"] (spIsNumber K) := ⟨_, _, ok_isNumber (funOf F_is_number) c_is_integer, (He.glo_ok X G (c.d.fact 1 (f := .glo "is_number") rfl)), F_is_number.kp, FunD.bindsN F_is_number (fun _ _ _ _ _ _ us hl => match us, hl with | [_], _ => rfl)⟩
  have c_is_text : CalF lw.prog w K mg base CX0 1 "is_text" ["value"] (spIsText K) := ⟨_, _, ok_isText (funOf F_is_text) B, (He.glo_ok X G (c.d.fact 2 (f := .glo "is_text") rfl)), F_is_text.kp, FunD.bindsN F_is_text (fun _ _ _ _ _ _ us hl => match us, hl with | [_], _ => rfl)⟩
  have c_is_sequence : CalF lw.prog w K mg base CX0 1 "is_sequence" ["value"] (spIsSequence (TT K) K) := ⟨_, _, ok_isSequence (funOf F_is_sequence) B, (He.glo_ok X G (c.d.fact 3 (f := .glo "is_sequence") rfl)), F_is_sequence.kp, FunD.bindsN F_is_sequence (fun _ _ _ _ _ _ us hl => match us, hl with | [_], _ => rfl)⟩
  have c_is_table : CalF lw.prog w K mg base CX0 3 "is_table" ["value", "many"] (spIsTable (TT K) K) := ⟨_, _, ok_isTable (funOf F_is_table) B GC c_is_sequence c_is_number, (He.glo_ok X G (c.d.fact 7 (f := .glo "is_table") rfl)), F_is_table.kp, FunD.bindsN F_is_table (fun _ _ _ _ _ _ us hl => match us, hl with | [_, _], _ => rfl)⟩
  have i_Device : MakF lw.prog w K mg base CX0 4 (He.ga K "Device") "Device" ["tables"] (spDevInit (TT K) (He.ga K "Device")) := ⟨_, _, ok_devInit (funOf F_Device___init__) B GC DC c_is_sequence c_is_table, (He.mkr_ok (c.d.fact 34 (f := .mkr "Device") rfl)), (He.glo_ok X G (c.d.fact 32 (f := .glo "Device") rfl)), FunD.bindsN F_Device___init__ (fun _ _ _ _ _ _ us hl => match us, hl with | [_, _], _ => rfl)⟩
  have c_is_lot_of : CalF lw.prog w K mg base CX0 2 "is_lot_of" ["value", "signals"] (spIsLotOf (TT K) K) := ⟨_, _, ok_isLotOf (funOf F_is_lot_of) c_is_text, (He.glo_ok X G (c.d.fact 4 (f := .glo "is_lot_of") rfl)), F_is_lot_of.kp, FunD.bindsN F_is_lot_of (fun _ _ _ _ _ _ us hl => match us, hl with | [_, _], _ => rfl)⟩
  have c_lot_within : CalF lw.prog w K mg base CX0 1 "lot_within" ["lot", "other"] (spLotWithin (TT K)) := ⟨_, _, ok_lotWithin (funOf F_lot_within) B, (He.glo_ok X G (c.d.fact 5 (f := .glo "lot_within") rfl)), F_lot_within.kp, FunD.bindsN F_lot_within (fun _ _ _ _ _ _ us hl => match us, hl with | [_, _], _ => rfl)⟩
  have c_greatest_lots : CalF lw.prog w K mg base CX0 2 "greatest_lots" ["lots"] (spGreatest (TT K) K) := ⟨_, _, ok_greatest (funOf F_greatest_lots) B c_lot_within, (He.glo_ok X G (c.d.fact 6 (f := .glo "greatest_lots") rfl)), F_greatest_lots.kp, FunD.bindsN F_greatest_lots (fun _ _ _ _ _ _ us hl => match us, hl with | [_], _ => rfl)⟩
  have c_check_lot : CalF lw.prog w K mg base (L2.CX lw.prog w) 3 "check_lot" ["device", "lot"] (spCheckLot (TT K) K (He.ga K "Device") (He.ga K "Refused")) := ⟨_, _, ok_checkLot (funOf F_check_lot) DC ER c_is_lot_of, (He.glo_ok X G (c.d.fact 11 (f := .glo "check_lot") rfl)), F_check_lot.kp, FunD.bindsN F_check_lot (fun _ _ _ _ _ _ us hl => match us, hl with | [_, _], _ => rfl)⟩
  have c_need_state : CalF lw.prog w K mg base (L2.CX lw.prog w) 3 "need_state" ["device", "state"] (spNeedState (TT K) K (He.ga K "Device") (He.ga K "NoState")) := ⟨_, _, ok_needState (funOf F_need_state) DC ES c_is_number, (He.glo_ok X G (c.d.fact 8 (f := .glo "need_state") rfl)), F_need_state.kp, FunD.bindsN F_need_state (fun _ _ _ _ _ _ us hl => match us, hl with | [_, _], _ => rfl)⟩
  have c_need_pair : CalF lw.prog w K mg base (L2.CX lw.prog w) 3 "need_pair" ["device", "pair"] (spNeedPair (TT K) (He.ga K "Device") (He.ga K "NoPair")) := ⟨_, _, ok_needPair (funOf F_need_pair) B DC EP c_is_number, (He.glo_ok X G (c.d.fact 9 (f := .glo "need_pair") rfl)), F_need_pair.kp, FunD.bindsN F_need_pair (fun _ _ _ _ _ _ us hl => match us, hl with | [_, _], _ => rfl)⟩
  have c_check_row : CalF lw.prog w K mg base CX0 2 "check_row" ["device", "row"] (spCheckRow (TT K) (He.ga K "Device")) := ⟨_, _, ok_checkRow (funOf F_check_row) B GC DC c_is_text, (He.glo_ok X G (c.d.fact 10 (f := .glo "check_row") rfl)), F_check_row.kp, FunD.bindsN F_check_row (fun _ _ _ _ _ _ us hl => match us, hl with | [_, _], _ => rfl)⟩
  have o_Device_effect := ok_effect (P := lw.prog) (w := w) (base := base) (T := (TT K)) (funOf F_Device_effect) B GC DC c_check_row
  have m_Device_effect : MetF lw.prog w K mg base CX0 3 (He.ga K "Device") "effect" ["row"] (spEffect (TT K) (He.ga K "Device")) := ⟨_, _, o_Device_effect, (He.meth_ok (c.d.fact 60 (f := .meth "Device" "effect") rfl)), FunD.bindsN F_Device_effect (fun _ _ _ _ _ _ us hl => match us, hl with | [_, _], _ => rfl)⟩
  have c_pair_of : CalF lw.prog w K mg base CX0 1 "pair_of" ["one", "other"] (spPairOf (TT K)) := ⟨_, _, ok_pairOf (funOf F_pair_of), (He.glo_ok X G (c.d.fact 14 (f := .glo "pair_of") rfl)), F_pair_of.kp, FunD.bindsN F_pair_of (fun _ _ _ _ _ _ us hl => match us, hl with | [_, _], _ => rfl)⟩
  have c_next_node : CalF lw.prog w K mg base CX0 2 "next_node" ["device", "kind", "node", "number"] (spNext (TT K) (He.ga K "Device")) := ⟨_, _, ok_next (funOf F_next_node) DC c_pair_of, (He.glo_ok X G (c.d.fact 15 (f := .glo "next_node") rfl)), F_next_node.kp, FunD.bindsN F_next_node (fun _ _ _ _ _ _ us hl => match us, hl with | [_, _, _, _], _ => rfl)⟩
  have c_joined_effects : CalF lw.prog w K mg base CX0 1 "joined_effects" ["one", "other"] (spJoined (TT K)) := ⟨_, _, ok_joined (funOf F_joined_effects) B, (He.glo_ok X G (c.d.fact 12 (f := .glo "joined_effects") rfl)), F_joined_effects.kp, FunD.bindsN F_joined_effects (fun _ _ _ _ _ _ us hl => match us, hl with | [_, _], _ => rfl)⟩
  have c_said_effect : CalF lw.prog w K mg base CX0 2 "said_effect" ["effect", "times"] (spSaid (TT K)) := ⟨_, _, ok_said (funOf F_said_effect) B c_joined_effects, (He.glo_ok X G (c.d.fact 13 (f := .glo "said_effect") rfl)), F_said_effect.kp, FunD.bindsN F_said_effect (fun _ _ _ _ _ _ us hl => match us, hl with | [_, _], _ => rfl)⟩
  have c_first_rows : CalF lw.prog w K mg base CX0 1 "first_rows" ["next_nodes", "start", "signals"] (spFirst (TT K) K) := ⟨_, _, ok_first (funOf F_first_rows) B, (He.glo_ok X G (c.d.fact 18 (f := .glo "first_rows") rfl)), F_first_rows.kp, FunD.bindsN F_first_rows (fun _ _ _ _ _ _ us hl => match us, hl with | [_, _, _], _ => rfl)⟩
  have c_strong_parts : CalF lw.prog w K mg base CX0 1 "strong_parts" ["nodes", "steps"] (spStrong (TT K) K) := ⟨_, _, ok_strong (funOf F_strong_parts) B, (He.glo_ok X G (c.d.fact 16 (f := .glo "strong_parts") rfl)), F_strong_parts.kp, FunD.bindsN F_strong_parts (fun _ _ _ _ _ _ us hl => match us, hl with | [_, _], _ => rfl)⟩
  have c_numbered_parts : CalF lw.prog w K mg base CX0 3 "numbered_parts" ["parts", "steps"] (spNumbered (TT K) K) := ⟨_, _, ok_numbered (funCOf F_numbered_parts) B LN, (He.glo_ok X G (c.d.fact 17 (f := .glo "numbered_parts") rfl)), F_numbered_parts.kp, FunD.bindsN F_numbered_parts (fun _ _ _ _ _ _ us hl => match us, hl with | [_, _], _ => rfl)⟩
  have o_Web_lot_held := ok_lotHeld (P := lw.prog) (w := w) (base := base) (T := (TT K)) (funOf F_Web_lot_held) B GC W
  have m_Web_lot_held : MetF lw.prog w K mg base CX0 1 (He.ga K "Web") "lot_held" ["knot", "signals"] (spLotHeld (TT K) K (He.ga K "Web")) := ⟨_, _, o_Web_lot_held, (He.meth_ok (c.d.fact 61 (f := .meth "Web" "lot_held") rfl)), FunD.bindsN F_Web_lot_held (fun _ _ _ _ _ _ us hl => match us, hl with | [_, _, _], _ => rfl)⟩
  have i_Web : MakF lw.prog w K mg base CX0 4 (He.ga K "Web") "Web" ["device", "kind"] (spWebInit (TT K) K (He.ga K "Device") (He.ga K "Web")) := ⟨_, _, ok_webInit (funOf F_Web___init__) B DC W c_next_node c_strong_parts c_numbered_parts m_Web_lot_held c_greatest_lots, (He.mkr_ok (c.d.fact 38 (f := .mkr "Web") rfl)), (He.glo_ok X G (c.d.fact 36 (f := .glo "Web") rfl)), FunD.bindsN F_Web___init__ (fun _ _ _ _ _ _ us hl => match us, hl with | [_, _, _], _ => rfl)⟩
  have o_Web_need_node := ok_needNode (funOf F_Web_need_node) W c_need_state c_need_pair
  have m_Web_need_node : MetF lw.prog w K mg base (L2.CX lw.prog w) 4 (He.ga K "Web") "need_node" ["node"] (spNeedNode (TT K) K (He.ga K "Device") (He.ga K "Web") (He.ga K "NoState") (He.ga K "NoPair")) := ⟨_, _, o_Web_need_node, (He.meth_ok (c.d.fact 62 (f := .meth "Web" "need_node") rfl)), FunD.bindsN F_Web_need_node (fun _ _ _ _ _ _ us hl => match us, hl with | [_, _], _ => rfl)⟩
  have o_Web_knot_of := ok_knotOf (funOf F_Web_knot_of) W m_Web_need_node
  have m_Web_knot_of : MetF lw.prog w K mg base (L2.CX lw.prog w) 5 (He.ga K "Web") "knot_of" ["node"] (spKnotOf (TT K) K (He.ga K "Device") (He.ga K "Web") (He.ga K "NoState") (He.ga K "NoPair")) := ⟨_, _, o_Web_knot_of, (He.meth_ok (c.d.fact 63 (f := .meth "Web" "knot_of") rfl)), FunD.bindsN F_Web_knot_of (fun _ _ _ _ _ _ us hl => match us, hl with | [_, _], _ => rfl)⟩
  have o_Web_great_lots := ok_greatLots (funOf F_Web_great_lots) W m_Web_knot_of
  have m_Web_great_lots : MetF lw.prog w K mg base (L2.CX lw.prog w) 6 (He.ga K "Web") "great_lots" ["node"] (spGreatLots (TT K) K (He.ga K "Device") (He.ga K "Web") (He.ga K "NoState") (He.ga K "NoPair")) := ⟨_, _, o_Web_great_lots, (He.meth_ok (c.d.fact 64 (f := .meth "Web" "great_lots") rfl)), FunD.bindsN F_Web_great_lots (fun _ _ _ _ _ _ us hl => match us, hl with | [_, _], _ => rfl)⟩
  have k_Web_great_lots : MetK lw.prog w K mg base (L2.CX lw.prog w) 6 (He.ga K "Web") "great_lots" ["node"] (spGreatLots (TT K) K (He.ga K "Device") (He.ga K "Web") (He.ga K "NoState") (He.ga K "NoPair")) := ⟨_, _, o_Web_great_lots, (He.meth_ok (c.d.fact 64 (f := .meth "Web" "great_lots") rfl)), kbOf (x := "great_lots") (qual := "Web.great_lots") (st := inClass (top 33) 7) (funOf F_Web_great_lots) (fun _ _ _ _ _ _ us ws h1 h2 => match us, ws, h1, h2 with | [_], [_], _, _ => rfl)⟩
  have o_Web_keeps := ok_keeps (funOf F_Web_keeps) B W m_Web_great_lots c_check_lot c_lot_within
  have m_Web_keeps : MetF lw.prog w K mg base (L2.CX lw.prog w) 7 (He.ga K "Web") "keeps" ["node", "lot"] (spKeeps (TT K) K (He.ga K "Device") (He.ga K "Web") (He.ga K "NoState") (He.ga K "NoPair") (He.ga K "Refused")) := ⟨_, _, o_Web_keeps, (He.meth_ok (c.d.fact 65 (f := .meth "Web" "keeps") rfl)), FunD.bindsN F_Web_keeps (fun _ _ _ _ _ _ us hl => match us, hl with | [_, _, _], _ => rfl)⟩
  have k_Web_keeps : MetK lw.prog w K mg base (L2.CX lw.prog w) 7 (He.ga K "Web") "keeps" ["node", "lot"] (spKeeps (TT K) K (He.ga K "Device") (He.ga K "Web") (He.ga K "NoState") (He.ga K "NoPair") (He.ga K "Refused")) := ⟨_, _, o_Web_keeps, (He.meth_ok (c.d.fact 65 (f := .meth "Web" "keeps") rfl)), kbOf (x := "keeps") (qual := "Web.keeps") (st := inClass (top 33) 8) (funOf F_Web_keeps) (fun _ _ _ _ _ _ us ws h1 h2 => match us, ws, h1, h2 with | [_], [_, _], _, _ => rfl)⟩
  have o_Web_closed_row := ok_closed (P := lw.prog) (w := w) (funCOf F_Web_closed_row) B GC W DC c_first_rows LC
  have m_Web_closed_row : MetF lw.prog w K mg base CX0 3 (He.ga K "Web") "closed_row" ["at", "lot"] (spClosed (TT K) K (He.ga K "Device") (He.ga K "Web")) := ⟨_, _, o_Web_closed_row, (He.meth_ok (c.d.fact 67 (f := .meth "Web" "closed_row") rfl)), FunD.bindsN F_Web_closed_row (fun _ _ _ _ _ _ us hl => match us, hl with | [_, _, _], _ => rfl)⟩
  have o_Web_keep_rows := ok_keepRows (funOf F_Web_keep_rows) B W DC m_Web_keeps c_first_rows c_lot_within m_Web_closed_row
  have m_Web_keep_rows : MetF lw.prog w K mg base (L2.CX lw.prog w) 8 (He.ga K "Web") "keep_rows" ["node", "lot"] (spKeepRows (TT K) K (He.ga K "Device") (He.ga K "Web") (He.ga K "NoState") (He.ga K "NoPair") (He.ga K "Refused")) := ⟨_, _, o_Web_keep_rows, (He.meth_ok (c.d.fact 66 (f := .meth "Web" "keep_rows") rfl)), FunD.bindsN F_Web_keep_rows (fun _ _ _ _ _ _ us hl => match us, hl with | [_, _, _], _ => rfl)⟩
  have k_Web_keep_rows : MetK lw.prog w K mg base (L2.CX lw.prog w) 8 (He.ga K "Web") "keep_rows" ["node", "lot"] (spKeepRows (TT K) K (He.ga K "Device") (He.ga K "Web") (He.ga K "NoState") (He.ga K "NoPair") (He.ga K "Refused")) := ⟨_, _, o_Web_keep_rows, (He.meth_ok (c.d.fact 66 (f := .meth "Web" "keep_rows") rfl)), kbOf (x := "keep_rows") (qual := "Web.keep_rows") (st := inClass (top 33) 9) (funOf F_Web_keep_rows) (fun _ _ _ _ _ _ us ws h1 h2 => match us, ws, h1, h2 with | [_], [_, _], _, _ => rfl)⟩
  have c__law_take : CalF lw.prog w K mg base CX0 1 "_law_take" ["_law_box_here", "_law_many"] spTake := ⟨_, _, ok_take (funOf F__law_take) B, (He.glo_ok X G (c.d.fact 20 (f := .glo "_law_take") rfl)), F__law_take.kp, FunD.bindsN F__law_take (fun _ _ _ _ _ _ us hl => match us, hl with | [_, _], _ => rfl)⟩
  have c__law_pick : CalF lw.prog w K mg base CX0 2 "_law_pick" ["_law_box_here", "_law_some"] spPick := ⟨_, _, ok_pick (funOf F__law_pick) B c__law_take, (He.glo_ok X G (c.d.fact 21 (f := .glo "_law_pick") rfl)), F__law_pick.kp, FunD.bindsN F__law_pick (fun _ _ _ _ _ _ us hl => match us, hl with | [_, _], _ => rfl)⟩
  have c__law_box : CalF lw.prog w K mg base CX0 1 "_law_box" ["_law_script", "_law_k"] (spBox (TT K) K) := ⟨_, _, ok_box (funOf F__law_box) B, (He.glo_ok X G (c.d.fact 19 (f := .glo "_law_box") rfl)), F__law_box.kp, FunD.bindsN F__law_box (fun _ _ _ _ _ _ us hl => match us, hl with | [_, _], _ => rfl)⟩
  have c__law_tables : CalF lw.prog w K mg base CX0 3 "_law_tables" ["_law_box_here", "_law_most", "_law_signals"] (spTables (TT K)) := ⟨_, _, ok_tables (funOf F__law_tables) B c__law_take c__law_pick, (He.glo_ok X G (c.d.fact 22 (f := .glo "_law_tables") rfl)), F__law_tables.kp, FunD.bindsN F__law_tables (fun _ _ _ _ _ _ us hl => match us, hl with | [_, _, _], _ => rfl)⟩
  have c__law_nodes : CalF lw.prog w K mg base CX0 1 "_law_nodes" ["_law_tables_here", "_law_kind"] (spNodes (TT K)) := ⟨_, _, ok_nodes (funOf F__law_nodes) B, (He.glo_ok X G (c.d.fact 23 (f := .glo "_law_nodes") rfl)), F__law_nodes.kp, FunD.bindsN F__law_nodes (fun _ _ _ _ _ _ us hl => match us, hl with | [_, _], _ => rfl)⟩
  have c__law_next : CalF lw.prog w K mg base CX0 1 "_law_next" ["_law_tables_here", "_law_kind", "_law_node", "_law_at"] (spLNext (TT K)) := ⟨_, _, ok_lnext (funOf F__law_next) B, (He.glo_ok X G (c.d.fact 24 (f := .glo "_law_next") rfl)), F__law_next.kp, FunD.bindsN F__law_next (fun _ _ _ _ _ _ us hl => match us, hl with | [_, _, _, _], _ => rfl)⟩
  have c__law_lots : CalF lw.prog w K mg base CX0 1 "_law_lots" ["_law_signals"] (spLots (TT K)) := ⟨_, _, ok_lots (funOf F__law_lots), (He.glo_ok X G (c.d.fact 26 (f := .glo "_law_lots") rfl)), F__law_lots.kp, FunD.bindsN F__law_lots (fun _ _ _ _ _ _ us hl => match us, hl with | [_], _ => rfl)⟩
  have c__law_come : CalF lw.prog w K mg base CX0 2 "_law_come" ["_law_tables_here", "_law_kind", "_law_node", "_law_signals"] (spCome (TT K)) := ⟨_, _, ok_come (funOf F__law_come) B c__law_next, (He.glo_ok X G (c.d.fact 25 (f := .glo "_law_come") rfl)), F__law_come.kp, FunD.bindsN F__law_come (fun _ _ _ _ _ _ us hl => match us, hl with | [_, _, _, _], _ => rfl)⟩
  have c__law_round : CalF lw.prog w K mg base CX0 2 "_law_round" ["_law_tables_here", "_law_kind", "_law_node", "_law_signals", "_law_come_here"] (spRound (TT K)) := ⟨_, _, ok_round (funOf F__law_round) c__law_next, (He.glo_ok X G (c.d.fact 27 (f := .glo "_law_round") rfl)), F__law_round.kp, FunD.bindsN F__law_round (fun _ _ _ _ _ _ us hl => match us, hl with | [_, _, _, _, _], _ => rfl)⟩
  have c__law_rows_right : CalF lw.prog w K mg base CX0 4 "_law_rows_right" ["_law_device", "_law_tables_here", "_law_kind", "_law_node", "_law_lot", "_law_told"] (spRowsR (TT K) K (He.ga K "Device")) := ⟨_, _, ok_rowsR (funOf F__law_rows_right) B DC c__law_next c_said_effect m_Device_effect, (He.glo_ok X G (c.d.fact 29 (f := .glo "_law_rows_right") rfl)), F__law_rows_right.kp, FunD.bindsN F__law_rows_right (fun _ _ _ _ _ _ us hl => match us, hl with | [_, _, _, _, _, _], _ => rfl)⟩
  have c__law_refused : CalF lw.prog w K mg base CX0 9 "_law_refused" ["_law_web", "_law_node", "_law_lot", "_law_word"] (spRefused (TT K) K (He.ga K "Device") (He.ga K "Web")) := ⟨_, _, ok_refused (funOf F__law_refused) B W EH k_Web_keep_rows k_Web_keeps, (He.glo_ok X G (c.d.fact 28 (f := .glo "_law_refused") rfl)), F__law_refused.kp, FunD.bindsN F__law_refused (fun _ _ _ _ _ _ us hl => match us, hl with | [_, _, _, _], _ => rfl)⟩
  have c__law_node_right : CalG lw.prog w K mg base CX0 10 "_law_node_right" ["_law_web","_law_device","_law_tables_here","_law_node","_law_come_here"] (spNodeR (TT K) K (He.ga K "Device") (He.ga K "Web")) := ⟨_, _, ok_nodeR (funOf F__law_node_right) B W DC c__law_round c__law_lots k_Web_great_lots m_Web_keeps k_Web_keep_rows m_Web_keep_rows c__law_rows_right c__law_refused, (He.glo_ok X G (c.d.fact 30 (f := .glo "_law_node_right") rfl)), F__law_node_right.kp, FunD.bindsN F__law_node_right (fun _ _ _ _ _ _ us hl => match us, hl with | [_, _, _, _, _], _ => rfl)⟩
  exact ok_law (funOf F_law) B W DC i_Device i_Web c__law_box c__law_pick c__law_take c__law_tables c__law_nodes c__law_come c__law_node_right c__law_refused
end BkHd
end
section
/-! The law's end where a def asks that no guard stands. -/
namespace Bk
open PySem L2 LamX PySem.Spec PyProof.Rows
/-- what is tracked when the law's def is called: the tables, the script where the written part does not tell it -/
def H0 (tabs : List Addr) (a : Addr) (own : Bool) (o : Obj) (xs : List V) : Hp := fun b => if b ∈ tabs then some (.tbl #[]) else if b = a ∧ own = true then some (.frz o (.lst xs)) else none
section
variable {tabs : List Addr} {a b : Addr} {own : Bool} {o : Obj} {xs : List V} {u : HO}
theorem H0.tab (h : b ∈ tabs) : H0 tabs a own o xs b = some (.tbl #[]) := if_pos h
theorem H0.scr (h : a ∉ tabs) (ho : own = true) : H0 tabs a own o xs a = some (.frz o (.lst xs)) := (if_neg h).trans (if_pos ⟨rfl, ho⟩)
theorem H0.cases (h : H0 tabs a own o xs b = some u) : (b ∈ tabs ∧ u = .tbl #[]) ∨ (b ∉ tabs ∧ b = a ∧ own = true ∧ u = .frz o (.lst xs)) := by
  unfold H0 at h
  split at h
  · rename_i hb
    exact .inl ⟨hb, (Option.some.inj h).symm⟩
  · rename_i hb
    split at h
    · rename_i ha
      exact .inr ⟨hb, ha.1, ha.2, (Option.some.inj h).symm⟩
    · cases h
end
section
variable {P : Program} {w : World} {K : PySem.W.Frag} {mg mb : Str → Option Value} {k : Nat} {fa a : Addr} {cs : List (Addr × Addr)} {fd : FuncData} {x : Str} {sp : Sp} {s : Shared} {vs : List Value} {ns : List Int}
theorem lawEnd (KX : K.In s.heap) (hns : s.heap.Ns mainGlobals mg) (hb : s.heap.Ns builtinsNs mb) (hbb : ∀ x : Str, x ≠ "__name__" → mb x = bootBuiltins x) (hlim : s.heap.NoLimit) (hg : s.gens = #[])
    (hT : ∀ p ∈ cs, s.heap.get? p.2 = some { cls := .none, data := .fields #[] }) (nT : ∀ p ∈ cs, K.lookup p.2 = none) (C : ∀ p ∈ cs, PySem.W.CodeHd s.heap p.1 p.2)
    (hbm : ∃ (bm : Addr) (ob : Obj), mg "__builtins__" = some (.ref bm) ∧ bm ≠ builtinsNs ∧ s.heap.get? bm = some ob ∧ ob.cls = .type "module" ∧ ob.dict = some builtinsNs ∧ ob.data = .plain)
    (ha : s.heap.get? a = some { cls := .type "list", data := .seq vs.toArray }) (hi : IntsAre vs ns) (hl : ns.length ≤ sizeLine) (hr : Room k callerA)
    (F : ∀ base : Heap, K.In base → base.Ns mainGlobals mg → (∀ p ∈ cs, TabB base mg p.1 p.2) → FnG P w K mg base CX0 k fa fd [x] sp) (hbind : ∀ (s : Shared) (u : Value), BindsTo s fd ⟨[u], []⟩ [(x, u)])
    (hsp : ∀ H : Hp, (∀ p ∈ cs, H p.2 = some (.tbl #[])) → SqL K H a (ns.map V.int) → sp [.ref a] H (fun v _ => v = .bl true) fun _ _ _ => False) :
    codeAny (model P w) callerA (.call (.ref fa) ⟨[.ref a], []⟩) (fun r s' => r = .ok (.ret (.bool true)) ∧ OldK s.heap s'.heap ∧ s'.os = s.os ∧ AllBare s'.gens) s := by
  have rv := vals_ints hi
  have isT : ∀ {b : Addr}, b ∈ cs.map (·.2) → s.heap.get? b = some { cls := .none, data := .fields #[] } := fun {b} h => by
    obtain ⟨p, hp, rfl⟩ := List.mem_map.mp h
    exact hT p hp
  have notK : ∀ {b : Addr}, b ∈ cs.map (·.2) → K.lookup b = none := fun {b} h => by
    obtain ⟨p, hp, rfl⟩ := List.mem_map.mp h
    exact nT p hp
  have inT : ∀ {p : Addr × Addr}, p ∈ cs → p.2 ∈ cs.map (·.2) := fun {p} hp => List.mem_map_of_mem hp
  have aT : a ∉ cs.map (·.2) := fun h => by
    have e := isT h
    rw [ha] at e
    exact Data.noConfusion (congrArg Obj.data (Option.some.inj e))
  generalize hH : H0 (cs.map (·.2)) a (K.lookup a).isNone { cls := .type "list", data := .seq vs.toArray } (ns.map V.int) = H
  have hc : ∀ {b : Addr} {u : HO}, H b = some u → (b ∈ cs.map (·.2) ∧ u = .tbl #[]) ∨ (b ∉ cs.map (·.2) ∧ b = a ∧ (K.lookup a).isNone = true ∧ u = .frz { cls := .type "list", data := .seq vs.toArray } (.lst (ns.map V.int))) := fun {b u} h => by
    rw [← hH] at h
    exact H0.cases h
  have hHt : ∀ p ∈ cs, H p.2 = some (.tbl #[]) := fun p hp => by
    rw [← hH]
    exact H0.tab (inT hp)
  have hS : SqL K H a (ns.map V.int) := by
    cases hk : K.lookup a with
    | none =>
      refine .inl (.inr ⟨{ cls := .type "list", data := .seq vs.toArray }, ?_⟩)
      rw [← hH]
      exact H0.scr aT (by rw [hk]; rfl)
    | some o =>
      have e := KX a o hk
      rw [ha] at e
      cases e
      exact .inr ⟨_, vs.toArray, _, hk, rfl, rfl, rfl, by rw [List.size_toArray, hi.length]; exact hl, by simpa using rv⟩
  -- what is no list and no empty table is not tracked
  have free : ∀ {b : Addr} {o : Obj}, s.heap.get? b = some o → (∀ us n, o.data ≠ .seq us n) → o.data ≠ .fields #[] → H b = none := fun {b o} e n1 n2 => by
    cases q : H b with
    | none => rfl
    | some u =>
      rcases hc q with ⟨h1, _⟩ | ⟨_, rfl, _⟩
      · rw [isT h1] at e
        cases e
        exact absurd rfl n2
      · rw [ha] at e
        cases e
        exact absurd rfl (n1 _ _)
  have dict : ∀ {b : Addr} {m : Str → Option Value}, s.heap.Ns b m → (hidT s.heap H).Ns b m := fun {b m} h => by
    obtain ⟨o, es, ep, e, hd, r⟩ := h
    exact ⟨o, es, ep, hidT_get e (free e (fun us n z => by rw [hd] at z; cases z) fun z => by rw [hd] at z; cases z), hd, r⟩
  have KB : K.In (hidT s.heap H) := fun b o e => hidT_get (KX b o e) (by
    cases q : H b with
    | none => rfl
    | some u =>
      rcases hc q with ⟨h1, _⟩ | ⟨_, rfl, h2, _⟩
      · rw [notK h1] at e
        cases e
      · rw [e] at h2
        cases h2)
  obtain ⟨mc, l1, l2⟩ := hlim
  have M : L2.Mod K mg (hidT s.heap H) := ⟨KB, dict hns, ⟨mb, dict hb, hbb⟩, mc, dict l1, l2⟩
  have TB : ∀ p ∈ cs, TabB (hidT s.heap H) mg p.1 p.2 := fun p hp => by
    obtain ⟨og, eg, epg, gg, gd, _⟩ := id hns
    refine ⟨?_, ?_, fun z => ?_⟩
    · obtain ⟨o, us, file, tf, fl, tg, b9, n10, tt, g1, g2, g3, g4, g⟩ := C p hp
      refine ⟨o, us, file, tf, fl, tg, b9, n10, tt, hidT_get g1 (free g1 (fun us n z => by rw [g3] at z; cases z) fun z => ?_), g2, g3, g4, g⟩
      rw [g3] at z
      cases z
      simp at g4
    · obtain ⟨bm, ob, b1, b2, b3, b4, b5, b6⟩ := hbm
      refine ⟨bm, ob, b1, b2, fun z => ?_, fun z => ?_, hidT_get b3 (free b3 (fun us n z => by rw [b6] at z; cases z) fun z => by rw [b6] at z; cases z), b4, b5, b6⟩
      · rw [z, gg] at b3
        cases b3
        rw [gd] at b6
        cases b6
      · rw [z, hT p hp] at b3
        cases b3
        cases b6
    · rw [z, hT p hp] at gg
      cases gg
      cases gd
  have hok : HOk P w H s.heap := fun b u e => by
    rcases hc e with ⟨h1, rfl⟩ | ⟨_, rfl, _, rfl⟩
    · exact isT h1
    · exact ⟨ha, by rw [List.length_map]; exact hl, vs, _, rv, ha⟩
  have E0 : Env0 P w K mg (hidT s.heap H) callerA [] s H := ⟨rfl, M, fun b o e => of_hidT e, Nat.le_of_eq (hidT_size _ _), trivial, fun b h => absurd h (List.not_mem_nil), hok, .of_eq hg⟩
  refine codeAny_mono ((F _ KB (dict hns) TB).run callerA [] s H ⟨[.ref a], []⟩ [.ref a] [.ref a] _ _ hr rfl E0 (hbind s (.ref a)) (.cons rfl .nil) (hsp H hHt hS)) fun r s' h => ?_
  cases r with
  | error e => exact h.elim
  | ok fl =>
    cases fl with
    | ret u =>
      obtain ⟨v, H', os, bare, un, hok', r', rfl⟩ := h
      cases (show u = Value.bool true from r')
      have grown : ∀ {b : Addr}, b ∈ cs.map (·.2) → ∃ more : Array Value, s'.heap.get? b = some { cls := .none, data := .fields more } := fun {b} h => by
        obtain ⟨p, hp, rfl⟩ := List.mem_map.mp h
        obtain ⟨more, z⟩ := un.tbls p.2 #[] (hHt p hp)
        exact ⟨_, hok' p.2 _ z⟩
      have same : ∀ {b : Addr} {o : Obj}, b ∉ cs.map (·.2) → s.heap.get? b = some o → s'.heap.get? b = some o := fun {b o} nb e => by
        cases q : H b with
        | none => exact un.keep b o e q (List.not_mem_nil) (List.not_mem_nil)
        | some u =>
          rcases hc q with ⟨h1, _⟩ | ⟨_, rfl, _, rfl⟩
          · exact absurd h1 nb
          · obtain ⟨e2, _⟩ := hok' b _ (un.frzs b _ _ q)
            rw [ha] at e
            cases e
            exact e2
      refine ⟨rfl, ⟨fun b o e => ?_, fun b o e => ?_⟩, os, bare⟩
      · by_cases hb : b ∈ cs.map (·.2)
        · obtain ⟨more, hm⟩ := grown hb
          obtain ⟨p, hp, rfl⟩ := List.mem_map.mp hb
          rw [hT p hp] at e
          cases e
          exact .inr (.inl ⟨((C p hp).tab (hT p hp)).isCodeTable, rfl, #[], more, rfl, by rw [Array.empty_append]; exact hm⟩)
        · exact .inl (same hb e)
      · by_cases hb : b ∈ cs.map (·.2)
        · obtain ⟨more, hm⟩ := grown hb
          exact ⟨_, hm⟩
        · exact ⟨o, same hb e⟩
    | _ => exact False.elim h
/-- the law's walk by it -/
theorem walkG {l : PySem.W.OpenLaw} {n k : Nat} {q : Program} {loose : List Str} {XP : (Str → Option Value) → Heap → Prop} {YP : World → Heap → Prop} {d : DefRec} {x : Str}
    (hn : l.most = some n) (hn2 : n ≤ sizeLine) (hdf : d.params.defaults = []) (hr : Room k callerA)
    (F : ∀ (w : World) (mg : Str → Option Value) (fa : Addr) (h : Heap), YP w h → h.Ns mainGlobals mg → mg d.name = some (.ref fa) → ∃ (K : PySem.W.Frag) (fd : FuncData) (cs : List (Addr × Addr)) (sp : Sp), K.In h ∧ (∀ p ∈ cs, h.get? p.2 = some { cls := .none, data := .fields #[] }) ∧ (∀ p ∈ cs, K.lookup p.2 = none) ∧
      (∀ p ∈ cs, PySem.W.CodeHd h p.1 p.2) ∧ (∀ (s : Shared) (u : Value), BindsTo s fd ⟨[u], []⟩ [(x, u)]) ∧ (∀ (H : Hp) (a : Addr) (ns : List Int), (∀ p ∈ cs, H p.2 = some (.tbl #[])) → SqL K H a (ns.map V.int) → sp [.ref a] H (fun v _ => v = .bl true) fun _ _ _ => False) ∧
      ∀ base : Heap, K.In base → base.Ns mainGlobals mg → (∀ p ∈ cs, TabB base mg p.1 p.2) → FnG l.prog w K mg base CX0 k fa fd [x] sp) :
    PySem.W.WalkO q loose XP YP l.row.toRowW d [] (fun f vs => PySem.call f vs) := by
  refine Att.attach_callB hn hdf fun w s₀ s₁ mg mb fa o pm cd doc a vs ns G Y ho hd hcd hmg hobj hints hlen hbits hg => ?_
  obtain ⟨K, fd, cs, sp, KX, hT, nT, C, hb, hsp, hF⟩ := F w mg fa _ Y G.T.g hmg
  exact lawEnd KX G.T.g G.T.b G.T.builtins G.T.nolimit hg hT nT C G.T.bmain hobj hints (Nat.le_trans hlen hn2) hr hF hb fun H hH hS => hsp H a ns hH hS
end
end Bk
end
/-! The law. -/
namespace BkHd
open PySem PySem.Spec PyProof.Rows L2 Bk LamX
theorem tab0 {H : Hp} {P : Addr} {q : Str} (h : H P = some (.tbl #[])) : TabS H P q := ⟨#[], h, trivial, fun pos cv e => nomatch e⟩
theorem tabs0 {K : PySem.W.Frag} {H : Hp} (h : ∀ p ∈ tf.map (He.cT K), H p.2 = some (.tbl #[])) : Tabs (TT K) H := fun p hp => by
  have h1 := h _ (List.mem_map_of_mem (f := He.cT K) (show pNum ∈ tf from List.mem_cons_self))
  have h2 := h _ (List.mem_map_of_mem (f := He.cT K) (show pClo ∈ tf from List.mem_cons_of_mem _ List.mem_cons_self))
  rcases List.mem_cons.mp hp with rfl | hp
  · exact tab0 h1
  · rw [List.mem_singleton.mp hp]
    exact tab0 h2
end BkHd
open PySem PySem.W PySem.Calls PyProof.Rows
set_option maxHeartbeats 0 in
theorem PySem.Challenge.cw_backinstep_k07_whole_what_can_be_kept_up_holds : PySem.Challenge.rw_backinstep_k07_whole_what_can_be_kept_up.Holds := by
  w_on; o_law
  refine HandSHeadRun.head_any (r := OpenLaw.row PySem.Challenge.rw_backinstep_k07_whole_what_can_be_kept_up) (q := view (OpenLaw.row PySem.Challenge.rw_backinstep_k07_whole_what_can_be_kept_up).prog [50]) (H := BkHd.hk) (ob := BkHd.ob) (M := 4000) (loose := BkHd.loose) (d := HandSHeadRun.topDef (OpenLaw.row PySem.Challenge.rw_backinstep_k07_whole_what_can_be_kept_up).prog 50) (kwd := []) BkHd.ob_eq
    (by kernel_rfl) (fun s => by kernel_rfl) BkHd.run (by kernel_rfl) (by kernel_rfl) (by kernel_rfl) (by rfl) (by first | assumption | decide +kernel) (by decide +kernel) ⟨rfl, rfl, rfl, rfl, rfl, by decide +kernel⟩ ?hw ?hc
  case hw => w_witness2
  case hc =>
    refine Bk.walkG (l := PySem.Challenge.rw_backinstep_k07_whole_what_can_be_kept_up) (n := 63) (k := 11) (x := "_law_script") rfl (by decide) (by kernel_rfl) ⟨rfl, by decide, by decide⟩ fun w mg fa h Y G hmg0 => ?_
    obtain ⟨K, KX, c⟩ := Y
    have hmg : mg ("law" : PySem.Str) = some (.ref fa) := by
      have e : (HandSHeadRun.topDef (OpenLaw.row PySem.Challenge.rw_backinstep_k07_whole_what_can_be_kept_up).prog 50).name = ("law" : PySem.Str) := by kernel_rfl
      rw [← e]
      exact hmg0
    obtain ⟨fd, hb, hF⟩ := BkHd.facts (w := w) KX G hmg c
    have mem : ∀ {p : Addr × Addr}, p ∈ BkHd.tf.map (He.cT K) → ∃ t, t ∈ BkHd.tf ∧ He.cT K t = p := fun {p} hp => List.mem_map.mp hp
    refine ⟨K, fd, BkHd.tf.map (He.cT K), Bk.spLaw (BkHd.TT K) K, KX, fun p hp => ?_, fun p hp => ?_, fun p hp => ?_, hb, fun H a ns hH hS => ⟨a, ns, rfl, hS, BkHd.tabs0 hH, fun _ => rfl⟩, hF⟩
    · obtain ⟨t, ht, rfl⟩ := mem hp
      exact c.empty t ht
    · obtain ⟨t, ht, rfl⟩ := mem hp
      exact c.out t ht
    · obtain ⟨t, ht, rfl⟩ := mem hp
      exact codeHd_of_K KX (c.hd t ht)
