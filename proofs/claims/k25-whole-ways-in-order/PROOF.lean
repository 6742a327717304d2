import PyProof.Rows.All
import Wide.All
import OpenK.AllK
import Wide.FinOn
import HandS.ForMost
import KE.GoesMore
import KE.GoesComp
import KE.GoesDict
import PyProof.ListOps
import PyProof.MeetsSeq
import PyProof.AutoSeq1
import KE.KDictList
import KE.KIsAll
import PyProof.DictStraight
import PyProof.Rows.StrRules
import PyProof.EqAt
import PyProof.DictDisplay
import PyProof.DictUpdate
import HandS.Set
import HandS.SetTxt0
import HandS.SetFor
import KE.SortData
import HandS.Words
import PyProof.Rows.TupSub
import PyProof.RulesMatch
import PyProof.RulesAssignMore
import HandS.List
import PyProof.NeKinds
import HandS.Style
import HandS.GenYield
import PyProof.GenRules
import PyProof.GenQ
import HandS.GenList
import HandS.IsInst
import HandS.Flow
import HandS.Steps
import HandS.Walk
import HandS.Deep
import HandS.ClsMeth
import HandS.DictComp
import HandS.WordsDict
import HandS.More
import HandS.WideBits
import HandS.Wide
import PyProof.ReprRoads
import HandS.OwnEq
import KE.KEqNest
import PyProof.ReprLen
import PyProof.StrLawsRepr
import HandS.Conv
import HandS.HeadHook1
import HandS.Ends
import KE.KStateDown
import HandS.Head0
import HandS.Head1
import HandS.Head2
import PySem.Challenge.RW_movegrants_k25_whole_ways_in_order
set_option Elab.async false
set_option linter.all false
set_option maxRecDepth 100000
set_option maxHeartbeats 2000000
/-! K25, part RA: names of a running frame, over the bare heap -/
namespace K25
open PySem PySem.Spec PyProof.Rows L2

/-- all that stood stands -/
def Keep (h h' : Heap) : Prop := ∀ b o, h.get? b = some o → h'.get? b = some o
theorem Keep.refl (h : Heap) : Keep h h := fun _ _ e => e
theorem Keep.trans {h h1 h2 : Heap} (a : Keep h h1) (b : Keep h1 h2) : Keep h h2 := fun x o e => b x o (a x o e)
theorem Keep.push (h : Heap) (o : Obj) : Keep h (h.push o) := fun _ _ e => Heap.get?_push_of_some _ e
/-- all that stood stands, but what is at the places of S -/
def KeepX (S : Addr → Prop) (h h' : Heap) : Prop := ∀ b o, ¬ S b → h.get? b = some o → h'.get? b = some o
theorem Keep.x {S : Addr → Prop} {h h' : Heap} (k : Keep h h') : KeepX S h h' := fun b o _ e => k b o e
theorem KeepX.trans {S : Addr → Prop} {h h1 h2 : Heap} (a : KeepX S h h1) (b : KeepX S h1 h2) : KeepX S h h2 := fun x o n e => b x o n (a x o n e)
theorem KeepX.mono {S T : Addr → Prop} {h h' : Heap} (k : KeepX S h h') (i : ∀ b, S b → T b) : KeepX T h h' := fun b o n e => k b o (fun z => n (i b z)) e

/-- the names that a frame (or a comprehension's block) holds -/
structure Frm (env : Env) (h : Heap) (r : List (Str × Value)) : Prop where
  kind : env.scope.kind = .function
  ns : ∃ m, h.Ns env.locals m ∧ ∀ x v, env.kindOf x = some .local → r.lookup x = some v → m x = some v
  cl : ∀ x, env.kindOf x = some .cell ∨ env.kindOf x = some .free → ∃ c w, env.cells.lookup x = some c ∧ h.IsCell c w ∧ ∀ v, r.lookup x = some v → w = some v
  inj : ∀ x y c, env.cells.lookup x = some c → env.cells.lookup y = some c → x = y

/-- the frame's own places -/
def Own (env : Env) (b : Addr) : Prop := b = env.locals ∨ ∃ x, (env.kindOf x = some .cell ∨ env.kindOf x = some .free) ∧ env.cells.lookup x = some b

/-- the place of one name -/
def At (env : Env) (x : Str) (b : Addr) : Prop := b = env.locals ∨ (env.kindOf x = some .cell ∧ env.cells.lookup x = some b)
theorem at_own {env : Env} {x : Str} (b : Addr) (h : At env x b) : Own env b := h.imp id fun ⟨k, e⟩ => ⟨x, .inl k, e⟩

section
variable {M : Model} {A : Around} {E : Value → Shared → Prop} {s : Shared} {env : Env} {h h' : Heap} {r : List (Str × Value)} {x : Str} {v : Value}

theorem Frm.at (F : Frm env h r) (k : ∀ b o, Own env b → h.get? b = some o → h'.get? b = some o) : Frm env h' r := by
  refine ⟨F.kind, ?_, fun x hx => ?_, F.inj⟩
  · obtain ⟨m, hn, hm⟩ := F.ns
    exact ⟨m, hn.at' fun o e => k _ o (.inl rfl) e, hm⟩
  · obtain ⟨c, w, hc, ⟨o, ho, hd⟩, hw⟩ := F.cl x hx
    exact ⟨c, w, hc, ⟨o, k c o (.inr ⟨x, hx, hc⟩) ho, hd⟩, hw⟩
theorem Frm.keep (F : Frm env h r) (k : Keep h h') : Frm env h' r := F.at fun b o _ e => k b o e
theorem Frm.less {r' : List (Str × Value)} (F : Frm env h r) (i : ∀ x v, r'.lookup x = some v → r.lookup x = some v) : Frm env h r' := by
  refine ⟨F.kind, ?_, fun x hx => ?_, F.inj⟩
  · obtain ⟨m, hn, hm⟩ := F.ns
    exact ⟨m, hn, fun x v k e => hm x v k (i x v e)⟩
  · obtain ⟨c, w, hc, z, hw⟩ := F.cl x hx
    exact ⟨c, w, hc, z, fun v e => hw v (i x v e)⟩
theorem Frm.cne (F : Frm env h r) {c : Addr} (hx : env.kindOf x = some .cell ∨ env.kindOf x = some .free) (hc : env.cells.lookup x = some c) : c ≠ env.locals := fun z => by
  obtain ⟨c', w, e, ⟨o, ho, hd⟩, _⟩ := F.cl x hx
  rw [hc] at e
  cases e
  obtain ⟨m, ⟨o', es, ep, ho', hd', _⟩, _⟩ := F.ns
  rw [z, ho'] at ho
  cases ho
  rw [hd'] at hd
  cases hd

/-- a name is read -/
theorem Frm.load {pos : Pos} {Q : Value → Shared → Prop} (F : Frm env s.heap r) (hv : r.lookup x = some v) (hk : env.kindOf x = some .local ∨ env.kindOf x = some .cell ∨ env.kindOf x = some .free) (q : Q v s)
    (hd : (x == ("__debug__" : Str)) = false := by decide) (hcd : (x == ("__classdict__" : Str)) = false := by decide) : wpAny M A (eval (.Name x pos) env) Q E s := by
  rcases hk with hk | hk
  · obtain ⟨m, hn, hm⟩ := F.ns
    exact wpAny_Name (wpAny_loadName_local F.kind hk hn (hm x v hk hv) q) hd
  · obtain ⟨c, w, hc, hcell, hw⟩ := F.cl x hk
    rw [hw v hv] at hcell
    rcases hk with hk | hk
    · exact wpAny_Name (wpAny_loadName_cell F.kind hk hc hcell q) hd
    · exact wpAny_Name (wpAny_loadName_free F.kind hk hc hcell q hcd) hd

theorem lookup_cons_ne {l : List (Str × Value)} {x y : Str} (n : x ≠ y) : List.lookup x ((y, v) :: l) = l.lookup x := by
  rw [List.lookup_cons]
  have : (x == y) = false := beq_eq_false_iff_ne.mpr n
  rw [this]
theorem lookup_cons_eq {l : List (Str × Value)} {x : Str} : List.lookup x ((x, v) :: l) = some v := by
  rw [List.lookup_cons, beq_self_eq_true]

/-- a name is stored: what else changes is nothing -/
theorem Frm.store {Q : Unit → Shared → Prop} (F : Frm env s.heap r) (hk : env.kindOf x = some .local ∨ env.kindOf x = some .cell)
    (q : ∀ h' tk, Frm env h' ((x, v) :: r) → KeepX (At env x) s.heap h' → h'.objs.size = s.heap.objs.size → Q () { s with heap := h', toks := tk }) :
    wpAny M A (storeName env x v) Q E s := by
  have hcls : (env.scope.kind == .class || (env.scope.kind == .module && env.locals != env.globals)) = false := by rw [F.kind]; rfl
  rcases hk with hk | hk
  · obtain ⟨m, hn, hm⟩ := F.ns
    refine wpAny_storeName_local hk hn (fun h' hn' hs => q h' _ ⟨F.kind, ⟨_, hn', fun y u ky e => ?_⟩, fun y hy => ?_, F.inj⟩ (fun b o nb e => (hs.2 b fun z => nb (.inl z)).trans e) hs.1) hcls
    · by_cases hyx : y = x
      · subst hyx
        rw [lookup_cons_eq] at e
        cases e
        simp
      · rw [lookup_cons_ne hyx] at e
        simp only [hyx, if_false]
        exact hm y u ky e
    · obtain ⟨c, w, hc, z, hw⟩ := F.cl y hy
      refine ⟨c, w, hc, z.sameBut hs (F.cne hy hc), fun u e => hw u ?_⟩
      have hyx : y ≠ x := by
        rintro rfl
        rw [hk] at hy
        rcases hy with hy | hy <;> cases hy
      rw [lookup_cons_ne hyx] at e
      exact e
  · obtain ⟨c, w, hc, z, hw⟩ := F.cl x (.inl hk)
    refine wpAny_storeName_cell F.kind hk hc z fun h' hc' hs => q h' s.toks ⟨F.kind, ?_, fun y hy => ?_, F.inj⟩ (fun b o nb e => (hs.2 b fun z => nb (.inr ⟨hk, by rw [z]; exact hc⟩)).trans e) hs.1
    · obtain ⟨m, hn, hm⟩ := F.ns
      refine ⟨m, hn.sameBut hs (Ne.symm (F.cne (.inl hk) hc)), fun y u ky e => ?_⟩
      have hyx : y ≠ x := by
        rintro rfl
        rw [hk] at ky
        cases ky
      rw [lookup_cons_ne hyx] at e
      exact hm y u ky e
    · by_cases hyx : y = x
      · subst hyx
        refine ⟨c, some v, hc, hc', fun u e => ?_⟩
        rw [lookup_cons_eq] at e
        exact e
      · obtain ⟨c', w', hc2, z2, hw2⟩ := F.cl y hy
        have : c' ≠ c := fun z => hyx (F.inj y x c (by rw [← z]; exact hc2) hc)
        refine ⟨c', w', hc2, z2.sameBut hs this, fun u e => hw2 u ?_⟩
        rw [lookup_cons_ne hyx] at e
        exact e
end

/-! ### a call's frame -/
def bindA : List (Str × Value) → List (Str × Value) → List (Str × Value)
  | [], m => m
  | p :: r, m => bindA r (p :: m)
theorem bindL_A {kindOf : Str → Option NameKind} {x : Str} (hx : kindOf x = some .local) : ∀ (l : List (Str × Value)) (m : Str → Option Value) (r : List (Str × Value)), m x = r.lookup x → bindL kindOf l m x = (bindA l r).lookup x
  | [], m, r, e => e
  | (n, v) :: l, m, r, e => by
    unfold bindL bindA
    refine bindL_A hx l _ _ ?_
    by_cases hn : x = n
    · subst hn
      rw [if_pos hx, lookup_cons_eq]
      simp
    · rw [lookup_cons_ne hn]
      split
      · simp only [hn, if_false]
        exact e
      · exact e
theorem bindC_A {kindOf : Str → Option NameKind} {x : Str} (hx : kindOf x ≠ some .local) : ∀ (l : List (Str × Value)) (m : Str → Option Value) (r : List (Str × Value)), m x = r.lookup x → bindC kindOf l m x = (bindA l r).lookup x
  | [], m, r, e => e
  | (n, v) :: l, m, r, e => by
    unfold bindC bindA
    refine bindC_A hx l _ _ ?_
    by_cases hn : x = n
    · subst hn
      rw [if_neg hx, lookup_cons_eq]
      simp
    · rw [lookup_cons_ne hn]
      split
      · exact e
      · simp only [hn, if_false]
        exact e
theorem Frm.start {env : Env} {s s1 : Shared} {binds : List (Str × Value)} (hk : env.scope.kind = .function) (hf : ∀ y ∈ env.scope.names, y.2 ≠ .free) (hc : env.cells = cellsFrom (s.heap.objs.size + 1) env.scope.names [])
    (x : InCallC s env.locals (bindL env.kindOf binds fun _ => none) env.cells (bindC env.kindOf binds fun _ => none) s1) : Frm env s1.heap (bindA binds []) := by
  refine ⟨hk, ⟨_, x.toInCall.ns, fun y v ky e => ?_⟩, fun y hy => ?_, fun y z c h1 h2 => name_of_addr x.apart (PySem.mem_of_lookup h1) (PySem.mem_of_lookup h2)⟩
  · rw [bindL_A ky binds _ [] rfl]
    exact e
  · rcases hy with hy | hy
    · obtain ⟨c, e⟩ := cell_has (n := s.heap.objs.size + 1) hy
      rw [← hc] at e
      refine ⟨c, _, e, x.cell y c e, fun v q => ?_⟩
      rw [bindC_A (by rw [show env.kindOf y = some .cell from hy]; decide) binds _ [] rfl]
      exact q
    · exact absurd rfl (hf _ (PySem.mem_of_lookup hy))

/-! ### a comprehension's block -/
/-- its own names forgotten -/
theorem Frm.block {env : Env} {h h' : Heap} {r : List (Str × Value)} {scope : Scope} {C : Addr} (F : Frm env h r) (hkind : scope.kind = .function) (k : Keep h h') (nC : h'.Ns C fun _ => none)
    (hu : ∀ y ∈ scope.names, scope.names.lookup y.1 = some y.2) (hcell : ∀ y ∈ scope.names, y.2 ≠ .cell) (hfree : ∀ y ∈ scope.names, y.2 = .free → env.kindOf y.1 = some .cell ∨ env.kindOf y.1 = some .free)
    (hr : ∀ x v, r.lookup x = some v → scope.names.lookup x ≠ some .local) :
    closureFor scope env = pure (cloFrom env.cells scope.names []) ∧ Frm (compEnvC scope (cloFrom env.cells scope.names []) C env) h' r := by
  have hf : ∀ y ∈ scope.names, y.2 = .free → ∃ c, env.cells.lookup y.1 = some c := fun y hy e => by
    rcases hfree y hy e with q | q
    · obtain ⟨c, _, e, _⟩ := F.cl y.1 (.inl q)
      exact ⟨c, e⟩
    · obtain ⟨c, _, e, _⟩ := F.cl y.1 (.inr q)
      exact ⟨c, e⟩
  have mem : ∀ {y c}, (y, c) ∈ cloFrom env.cells scope.names [] → env.cells.lookup y = some c ∧ (y, NameKind.free) ∈ scope.names := fun {y c} hm => by
    rcases cloFrom_mem hm with hm | ⟨h1, rfl⟩
    · cases hm
    · obtain ⟨c, hc⟩ := hf _ h1 rfl
      rw [hc]
      exact ⟨rfl, h1⟩
  have look : ∀ {y}, (y, NameKind.free) ∈ scope.names → ∃ c, (cloFrom env.cells scope.names []).lookup y = some c ∧ env.cells.lookup y = some c := fun {y} hy => by
    obtain ⟨c', e'⟩ := L2.mem_lookup (cloFrom_has (cells := env.cells) (acc := []) hy)
    exact ⟨c', e', (mem (PySem.mem_of_lookup e')).1⟩
  have kinds : ∀ {y k}, (compEnvC scope (cloFrom env.cells scope.names []) C env).kindOf y = some k → ∃ k', scope.names.lookup y = some k' ∧ (k = k' ∨ (k' = .free ∧ k = .cell)) := fun {y k} e => by
    have e2 : (relS scope env.scope).names.lookup y = some k := e
    exact lookup_relS e2
  refine ⟨closure_ok hf, hkind, ⟨_, nC, fun y v ky e => ?_⟩, fun y hy => ?_, fun y z c h1 h2 => ?_⟩
  · obtain ⟨k', e1, e2⟩ := kinds ky
    have : k' = .local := by
      rcases e2 with e2 | ⟨_, e2⟩
      · exact e2.symm
      · cases e2
    rw [this] at e1
    exact absurd e1 (hr y v e)
  · have hfr : (y, NameKind.free) ∈ scope.names := by
      have key : ∀ k, (compEnvC scope (cloFrom env.cells scope.names []) C env).kindOf y = some k → (k = .cell ∨ k = .free) → (y, NameKind.free) ∈ scope.names := fun k e hk => by
        obtain ⟨k', e1, e2⟩ := kinds e
        have hm := PySem.mem_of_lookup e1
        have : k' = .free := by
          rcases e2 with e2 | ⟨e2, _⟩
          · subst e2
            rcases hk with hk | hk
            · exact absurd hk (hcell _ hm)
            · exact hk
          · exact e2
        rw [this] at hm
        exact hm
      rcases hy with hy | hy
      · exact key _ hy (.inl rfl)
      · exact key _ hy (.inr rfl)
    obtain ⟨c, e1, e2⟩ := look hfr
    have hk := hfree _ hfr rfl
    obtain ⟨c', w, e3, z, hw⟩ := F.cl y hk
    rw [e2] at e3
    cases e3
    exact ⟨c, w, e1, z.keeps k, hw⟩
  · exact F.inj y z c (mem (PySem.mem_of_lookup h1)).1 (mem (PySem.mem_of_lookup h2)).1
end K25

set_option Elab.async false
set_option linter.all false
set_option maxRecDepth 100000
set_option maxHeartbeats 2000000
/-! K25, part RB: the context over the bare heap, steps, names, calls -/
namespace K25
open PySem PySem.Spec PyProof.Rows L2

structure RX where
  P : Program
  w : World
  K : PySem.W.Frag
  mg : Str → Option Value
  base : Heap
  A : Around
  env : Env
structure RX.Ok (X : RX) : Prop where
  mod : L2.Mod X.K X.mg X.base
  glob : X.env.globals = mainGlobals
  blt : X.env.builtins = builtinsNs
  above : ∀ b, Own X.env b → X.base.objs.size ≤ b
  hd : X.A.handled = none

/-- from s to s': the heap but what is at S is kept; generators and the outer world stay -/
def Step (S : Addr → Prop) (s s' : Shared) : Prop := ∃ h' tk d, s' = { s with heap := h', toks := tk, drawn := d } ∧ KeepX S s.heap h'
abbrev No : Addr → Prop := fun _ => False
theorem Step.refl {S : Addr → Prop} (s : Shared) : Step S s s := ⟨s.heap, s.toks, s.drawn, rfl, fun _ _ _ e => e⟩
theorem Step.of {S : Addr → Prop} {s : Shared} {h' : Heap} {tk : Nat} {d : Drawn} (k : KeepX S s.heap h') : Step S s { s with heap := h', toks := tk, drawn := d } := ⟨h', tk, d, rfl, k⟩
theorem Step.ofK {S : Addr → Prop} {s : Shared} {h' : Heap} {tk : Nat} {d : Drawn} (k : Keep s.heap h') : Step S s { s with heap := h', toks := tk, drawn := d } := .of k.x
theorem Step.keep {S : Addr → Prop} {s s' : Shared} (st : Step S s s') : KeepX S s.heap s'.heap := by
  obtain ⟨_, _, _, rfl, k⟩ := st
  exact k
theorem Step.keep0 {s s' : Shared} (st : Step No s s') : Keep s.heap s'.heap := fun b o e => st.keep b o (fun z => z) e
theorem Step.os {S : Addr → Prop} {s s' : Shared} (st : Step S s s') : s'.os = s.os := by
  obtain ⟨_, _, _, rfl, _⟩ := st
  rfl
theorem Step.gens {S : Addr → Prop} {s s' : Shared} (st : Step S s s') : s'.gens = s.gens := by
  obtain ⟨_, _, _, rfl, _⟩ := st
  rfl
theorem Step.mono {S T : Addr → Prop} {s s' : Shared} (st : Step S s s') (i : ∀ b, S b → T b) : Step T s s' := by
  obtain ⟨h', tk, d, rfl, k⟩ := st
  exact ⟨h', tk, d, rfl, k.mono i⟩
theorem Step.trans {S : Addr → Prop} {s s1 s2 : Shared} (a : Step S s s1) (b : Step S s1 s2) : Step S s s2 := by
  obtain ⟨h1, t1, d1, rfl, k1⟩ := a
  obtain ⟨h2, t2, d2, rfl, k2⟩ := b
  exact ⟨h2, t2, d2, rfl, KeepX.trans k1 k2⟩
theorem Step.any {S : Addr → Prop} {s s' : Shared} (st : Step No s s') : Step S s s' := st.mono fun _ z => z.elim
/-- what changed was new -/
theorem Step.old {s s' : Shared} (st : Step (fun b => s.heap.objs.size ≤ b) s s') : Step No s s' := by
  obtain ⟨h', tk, d, rfl, k⟩ := st
  exact ⟨h', tk, d, rfl, fun b o _ e => k b o (fun z => absurd (Nat.lt_of_lt_of_le (Heap.lt_size e) z) (Nat.lt_irrefl _)) e⟩

structure RI (X : RX) (r : List (Str × Value)) (s : Shared) : Prop where
  ok : X.Ok
  bk : Keep X.base s.heap
  frm : Frm X.env s.heap r

section
variable {X : RX} {r : List (Str × Value)} {s s' : Shared} {S : Addr → Prop} {E : Value → Shared → Prop} {x : Str} {v : Value}

theorem RI.step (I : RI X r s) (st : Step S s s') (n : ∀ b, S b → ¬ Own X.env b ∧ X.base.objs.size ≤ b) : RI X r s' :=
  ⟨I.ok, fun b o e => st.keep b o (fun z => absurd (Nat.lt_of_lt_of_le (Heap.lt_size e) (n b z).2) (Nat.lt_irrefl _)) (I.bk b o e), I.frm.at fun b o ow e => st.keep b o (fun z => (n b z).1 ow) e⟩
theorem RI.step0 (I : RI X r s) (st : Step No s s') : RI X r s' := I.step st fun _ z => z.elim
theorem RI.less {r' : List (Str × Value)} (I : RI X r s) (i : ∀ x v, r'.lookup x = some v → r.lookup x = some v) : RI X r' s := ⟨I.ok, I.bk, I.frm.less i⟩
theorem RI.tok (I : RI X r s) (t : Nat) : RI X r { s with toks := t } := ⟨I.ok, I.bk, I.frm⟩
theorem RI.lt (I : RI X r s) {b : Addr} (o : Own X.env b) : b < s.heap.objs.size := by
  rcases o with rfl | ⟨x, hk, hc⟩
  · obtain ⟨m, hn, _⟩ := I.frm.ns
    exact hn.lt
  · obtain ⟨c, w, e, ⟨o, ho, _⟩, _⟩ := I.frm.cl x hk
    rw [hc] at e
    cases e
    exact Heap.lt_size ho
theorem RI.new (I : RI X r s) {b : Addr} (h : s.heap.objs.size ≤ b) : ¬ Own X.env b ∧ X.base.objs.size ≤ b :=
  ⟨fun o => absurd (Nat.lt_of_lt_of_le (I.lt o) h) (Nat.lt_irrefl _), Nat.le_trans (Nat.le_of_lt (Nat.lt_of_le_of_lt (I.ok.above _ (.inl rfl)) (I.lt (.inl rfl)))) h⟩
theorem RI.kIn (I : RI X r s) : X.K.In s.heap := I.ok.mod.kin.keeps I.bk
theorem RI.sz (I : RI X r s) : X.base.objs.size ≤ s.heap.objs.size := Nat.le_trans (I.ok.above _ (.inl rfl)) (Nat.le_of_lt (I.lt (.inl rfl)))
theorem RI.lim (I : RI X r s) : s.heap.NoLimit := I.ok.mod.nolimit.keeps I.bk
theorem RI.fr (I : RI X r s) : ∃ m, Fr X.base X.env.locals s.heap m := by
  obtain ⟨m, hn, _⟩ := I.frm.ns
  exact ⟨m, hn, I.bk, I.ok.above _ (.inl rfl)⟩

theorem r_name {pos : Pos} {Q : Value → Shared → Prop} (I : RI X r s) (hv : r.lookup x = some v) (q : Q v s) (hk : X.env.kindOf x = some .local ∨ X.env.kindOf x = some .cell ∨ X.env.kindOf x = some .free := by first | exact .inl rfl | exact .inr (.inl rfl) | exact .inr (.inr rfl))
    (hd : (x == ("__debug__" : Str)) = false := by decide) (hcd : (x == ("__classdict__" : Str)) = false := by decide) : wpAny (model X.P X.w) X.A (eval (.Name x pos) X.env) Q E s :=
  I.frm.load hv hk q hd hcd
theorem r_glob {pos : Pos} {Q : Value → Shared → Prop} (I : RI X r s) (hm : X.mg x = some v) (q : Q v s) (hx : X.env.kindOf x = some .globalImplicit := by rfl) (hd : (x == ("__debug__" : Str)) = false := by decide) :
    wpAny (model X.P X.w) X.A (eval (.Name x pos) X.env) Q E s :=
  Calls.Name_function_global I.frm.kind hx (Calls.loadGlobal_global (by rw [I.ok.glob]; exact I.ok.mod.glob.keeps I.bk) hm q) hd
theorem r_blt {pos : Pos} {Q : Value → Shared → Prop} (I : RI X r s) (hm : X.mg x = none) (hv : bootBuiltins x = some v) (q : Q v s) (hx : X.env.kindOf x = some .globalImplicit := by rfl) (hn : x ≠ "__name__" := by decide) (hd : (x == ("__debug__" : Str)) = false := by decide) :
    wpAny (model X.P X.w) X.A (eval (.Name x pos) X.env) Q E s := by
  obtain ⟨mb, h1, h2⟩ := I.ok.mod.blt
  exact Calls.Name_function_global I.frm.kind hx (Calls.loadGlobal_builtin (by rw [I.ok.glob]; exact I.ok.mod.glob.keeps I.bk) hm (by rw [I.ok.blt]; exact h1.keeps I.bk) ((h2 x hn).trans hv) q) hd
theorem r_store {Q : Unit → Shared → Prop} (I : RI X r s) (hk : X.env.kindOf x = some .local ∨ X.env.kindOf x = some .cell) (q : ∀ s', RI X ((x, v) :: r) s' → Step (At X.env x) s s' → s'.heap.objs.size = s.heap.objs.size → Q () s') :
    wpAny (model X.P X.w) X.A (storeName X.env x v) Q E s :=
  I.frm.store hk fun h' tk F k z => q _ ⟨I.ok, fun b o e => k b o (fun ow => absurd (Nat.lt_of_lt_of_le (Heap.lt_size e) (I.ok.above b (at_own b ow))) (Nat.lt_irrefl _)) (I.bk b o e), F⟩ (.of (d := s.drawn) k) z
/-- x = e -/
theorem r_set {e : Expr} {pos' pos : Pos} {Q : Flow → Shared → Prop} (h : wpAny (model X.P X.w) X.A (eval e X.env) (fun v s1 => ∃ r1, RI X r1 s1 ∧ ∀ s', RI X ((x, v) :: r1) s' → Step (At X.env x) s1 s' → s'.heap.objs.size = s1.heap.objs.size → Q .next s') E s)
    (hk : X.env.kindOf x = some .local ∨ X.env.kindOf x = some .cell := by first | exact .inl rfl | exact .inr rfl) (hs : swapsWith e (some (.Name x pos')) pos.line X.env = pure false := by rfl) :
    wpAny (model X.P X.w) X.A (exec (.Assign [.Name x pos'] e pos) X.env) Q E s :=
  wpAny_Assign_Name (thn h fun v s1 ⟨r1, I1, q⟩ => r_store I1 hk q) hs

/-! ### calls -/
theorem r_call {p pos : Pos} {e : Expr} {es : List Expr} {f : Addr} {Q : Value → Shared → Prop} (I : RI X r s) (hm : X.mg x = some (.ref f)) (hk : PySem.W.keepIn X.K (.ref f) = true)
    (h : wpAny (model X.P X.w) X.A (spliced (backTo pos (starEach (e :: es) X.env))) (fun vs s1 => X.K.In s1.heap ∧ wpAny (model X.P X.w) X.A (call (.ref f) vs) Q E s1) E s)
    (hx : X.env.kindOf x = some .globalImplicit := by rfl) (hd : (x == ("__debug__" : Str)) = false := by decide)
    (he : starEach (e :: es) X.env = (false, eval e X.env) :: starEach es X.env := by rfl) (hpl : (backTo pos (starEach es X.env)).any (·.1) = false := by rfl) :
    wpAny (model X.P X.w) X.A (eval (.Call (.Name x p) (e :: es) [] pos) X.env) Q E s := by
  refine wpAny_Call_Name_kw (r_glob I hm ?_ hx hd)
  exact PySem.W.callWith_K (h₀ := X.base) I.ok.mod.kin hk h he hpl
theorem r_callB {p pos : Pos} {e : Expr} {es : List Expr} {id : String} {Q : Value → Shared → Prop} (I : RI X r s) (hm : X.mg x = none) (hv : bootBuiltins x = some (.builtin id))
    (h : wpAny (model X.P X.w) X.A (spliced (backTo pos (starEach (e :: es) X.env))) (fun vs s1 => wpAny (model X.P X.w) X.A (call (.builtin id) vs) Q E s1) E s)
    (hx : X.env.kindOf x = some .globalImplicit := by rfl) (hn : x ≠ "__name__" := by decide) (hd : (x == ("__debug__" : Str)) = false := by decide)
    (he : starEach (e :: es) X.env = (false, eval e X.env) :: starEach es X.env := by rfl) (hpl : (backTo pos (starEach es X.env)).any (·.1) = false := by rfl) :
    wpAny (model X.P X.w) X.A (eval (.Call (.Name x p) (e :: es) [] pos) X.env) Q E s := by
  refine wpAny_Call_Name_kw (r_blt I hm hv ?_ hx hn hd)
  exact PyProof.Rows.callWith_builtin1 h he hpl
theorem r_callT {p pos : Pos} {e : Expr} {es : List Expr} {T : String} {Q : Value → Shared → Prop} (I : RI X r s) (hm : X.mg x = none) (hv : bootBuiltins x = some (.type T))
    (h : wpAny (model X.P X.w) X.A (spliced (backTo pos (starEach (e :: es) X.env))) (fun vs s1 => wpAny (model X.P X.w) X.A (call (.type T) vs) Q E s1) E s)
    (hx : X.env.kindOf x = some .globalImplicit := by rfl) (hn : x ≠ "__name__" := by decide) (hd : (x == ("__debug__" : Str)) = false := by decide)
    (he : starEach (e :: es) X.env = (false, eval e X.env) :: starEach es X.env := by rfl) (hpl : (backTo pos (starEach es X.env)).any (·.1) = false := by rfl) :
    wpAny (model X.P X.w) X.A (eval (.Call (.Name x p) (e :: es) [] pos) X.env) Q E s := by
  refine wpAny_Call_Name_kw (r_blt I hm hv ?_ hx hn hd)
  exact PyProof.Rows.callWith_type1 h he hpl
/-- the written arguments, one, two -/
theorem r_arg1 {e : Expr} {pos : Pos} {Q : List Value → Shared → Prop} (h : wpAny (model X.P X.w) X.A (eval e X.env) (fun v s1 => Q [v] s1) E s) (he : starEach [e] X.env = (false, eval e X.env) :: starEach [] X.env := by rfl) :
    wpAny (model X.P X.w) X.A (spliced (backTo pos (starEach [e] X.env))) Q E s := by
  rw [he]
  exact Calls.spliced_cons (thn h fun v s1 q => Calls.spliced_nil q)
theorem r_arg2 {e e' : Expr} {pos : Pos} {Q : List Value → Shared → Prop} (h : wpAny (model X.P X.w) X.A (eval e X.env) (fun v s1 => wpAny (model X.P X.w) X.A (eval e' X.env) (fun v' s2 => Q [v, v'] s2) E s1) E s)
    (he : starEach [e, e'] X.env = (false, eval e X.env) :: (false, eval e' X.env) :: starEach [] X.env := by rfl) :
    wpAny (model X.P X.w) X.A (spliced (backTo pos (starEach [e, e'] X.env))) Q E s := by
  rw [he]
  exact Calls.spliced_cons (thn h fun v s1 q => Calls.spliced_cons (thn q fun v' s2 q' => Calls.spliced_nil q'))
end

/-! ### what a def promises, over the bare heap -/
abbrev RPre := List Value → Heap → Prop
abbrev RPost := List Value → Heap → Heap → Value → Prop
structure RFn (P : Program) (w : World) (base : Heap) (k : Nat) (f : Addr) (fd : FuncData) (ps : List Str) (pre : RPre) (post : RPost) : Prop where
  run : ∀ (A : Around) (s : Shared) (args : Args) (us : List Value), Room k A → Keep base s.heap → base.objs.size ≤ s.heap.objs.size → BindsTo s fd args (ps.zip us) → us.length = ps.length → pre us s.heap →
    codeAny (model P w) A (.call (.ref f) args) (fun r s' => ∃ v, r = .ok (.ret v) ∧ Step No s s' ∧ post us s.heap s'.heap v) s
/-- a def by its body -/
theorem rfn {P : Program} {w : World} {K : PySem.W.Frag} {mg : Str → Option Value} {base : Heap} {k : Nat} {x qual : Str} {st : Stmt} {f : Addr} {fd : FuncData} {N ps : List Str} {pre : RPre} {post : RPost} (F : Fun K x qual st f fd) (S : FnScope N ps (defScope st)) (mod : L2.Mod K mg base)
    (hbody : ∀ (cdv : Value) (A : Around) (s : Shared) (us : List Value) (s1 : Shared), Room k (A.deeper (envOfC qual (defScope st) s.heap.objs.size f cdv)) → us.length = ps.length → pre us s.heap → Step No s s1 → (∀ b, Own (envOfC qual (defScope st) s.heap.objs.size f cdv) b → s.heap.objs.size ≤ b) →
      RI ⟨P, w, K, mg, base, A.deeper (envOfC qual (defScope st) s.heap.objs.size f cdv), envOfC qual (defScope st) s.heap.objs.size f cdv⟩ (bindA (ps.zip us) []) s1 →
      wpAny (model P w) (A.deeper (envOfC qual (defScope st) s.heap.objs.size f cdv)) (execs (defBody st) (envOfC qual (defScope st) s.heap.objs.size f cdv))
        (fun fl s' => Step (fun b => s.heap.objs.size ≤ b) s s' ∧ ∃ v, (fl = .ret v ∨ (fl = .next ∧ v = .none)) ∧ post us s.heap s'.heap v) (fun _ _ => False) s1) : RFn P w base (k + 1) f fd ps pre post := by
  obtain ⟨oc, od, kV, doc, pm, an, cdv, ct, osl, rfl, lk, hcd⟩ := F.ex
  refine ⟨fun A s args us hr hb bsz hbt hl hp => ?_⟩
  have KX : K.In s.heap := mod.kin.keeps hb
  have lim : s.heap.NoLimit := mod.nolimit.keeps hb
  have hkind : ∀ y ∈ ps.zip us, (defScope st).names.lookup y.1 = some .local ∨ ((defScope st).names.lookup y.1 = some .cell ∧ ((cellsFrom (s.heap.objs.size + 1) (defScope st).names []).lookup y.1).isSome = true) := fun ⟨n, v⟩ hy => by
    rcases S.par n (List.of_mem_zip hy).1 with q | q
    · exact .inl q
    · exact .inr ⟨q, PySem.W.cellsFrom_some _ _ _ (.inl q)⟩
  refine codeAny_call_function hr.depth (KX _ _ lk) rfl S.co S.gen rfl (PySem.W.codeRec_of KX hcd) (hbt _ _ _ _ ?_)
  refine wpAny_newFunctionEnv_cells S.kind hkind fun env he s1 xx => ?_
  subst he
  refine ⟨lim.keeps xx.toInCall.keep, codeAny_func ?_⟩
  have ow : ∀ b, Own (envOfC qual (defScope st) s.heap.objs.size f cdv) b → s.heap.objs.size ≤ b := fun b ow => by
    rcases ow with rfl | ⟨y, _, hc⟩
    · exact Nat.le_refl _
    · exact Nat.le_of_lt (xx.above _ _ (PySem.mem_of_lookup hc))
  have st1 : Step No s s1 := by
    obtain ⟨h1, tk, e, k1⟩ := xx.done
    rw [e]
    exact .ofK k1
  have I : RI ⟨P, w, K, mg, base, A.deeper (envOfC qual (defScope st) s.heap.objs.size f cdv), envOfC qual (defScope st) s.heap.objs.size f cdv⟩ (bindA (ps.zip us) []) s1 :=
    ⟨⟨mod, rfl, rfl, fun b z => Nat.le_trans bsz (ow b z), hr.hd⟩, fun b o e => st1.keep0 b o (hb b o e), Frm.start S.kind S.nofree rfl xx⟩
  refine wpAny_mono (hbody cdv A s us s1 (hr.deeper _) hl hp st1 ow I) (fun fl s' ⟨h1, v, hv, h2⟩ => ?_) fun e s' hs => hs.elim
  refine ⟨v, ?_, h1.old, h2⟩
  rcases hv with rfl | ⟨rfl, rfl⟩
  · rfl
  · rfl
section
variable {X : RX} {r : List (Str × Value)} {s : Shared} {E : Value → Shared → Prop} {k : Nat} {f : Addr} {fd : FuncData} {ps : List Str} {pre : RPre} {post : RPost}
theorem RFn.call {A : Around} {us : List Value} {Q : Value → Shared → Prop} (F : RFn X.P X.w X.base k f fd ps pre post) (hr : Room k A) (hb : Binds X.K fd ps []) (I : RI X r s) (hl : us.length = ps.length) (h : pre us s.heap)
    (q : ∀ v s', Step No s s' → post us s.heap s'.heap v → Q v s') : wpAny (model X.P X.w) A (PySem.call (.ref f) us) Q E s := by
  have hb' := hb s us I.kIn (by rw [List.append_nil]; exact hl)
  rw [List.append_nil] at hb'
  refine wpAny_call (codeAny_mono (F.run A s ⟨us, []⟩ us hr I.bk I.sz hb' hl h) fun rr s' ⟨v, e, st, hp⟩ => ?_)
  subst e
  exact q v s' st hp
end
end K25

set_option Elab.async false
set_option linter.all false
set_option maxRecDepth 100000
set_option maxHeartbeats 2000000
/-! K25, part RC: data over the bare heap; attributes, methods, dicts, lists -/
namespace K25
open PySem PySem.Spec PyProof.Rows L2

def Tx (x : Str) (v : Value) : Prop := ∃ t, v = .str x t
def LsR {α : Type} (R : α → Value → Prop) (h : Heap) (a : Addr) (xs : List α) : Prop := ∃ its : List Value, Paired R xs its ∧ h.PlainList a its.toArray
abbrev TxL (h : Heap) (a : Addr) (xs : List Str) : Prop := LsR Tx h a xs
abbrev Opt := Option (Str × Str)
def OptV (h : Heap) : Opt → Value → Prop
  | none, v => v = .none
  | some p, v => ∃ q u1 u2, v = .ref q ∧ h.IsTuple q #[u1, u2] ∧ Tx p.1 u1 ∧ Tx p.2 u2
def DcR {α : Type} (P : Program) (w : World) (R : Heap → α → Value → Prop) (h : Heap) (d : Addr) (T : List (Str × α)) : Prop :=
  ∃ vs : List (Key × Value), Paired (fun (p : Str × α) (q : Key × Value) => q.1 = .inr p.1 ∧ R h p.2 q.2) T vs ∧ h.DictOf (mixKind P w) d vs ∧ (d == sysModules) = false ∧ T.length ≤ sizeLine
/-- the options of one node -/
def OptL (h : Heap) (os : List Opt) (v : Value) : Prop := ∃ l, v = .ref l ∧ LsR (OptV h) h l os ∧ os.length ≤ 250
abbrev Tbl := List (Str × List Opt)
structure Cho (P : Program) (w : World) (C : Addr) (h : Heap) (a : Addr) (T : Tbl) : Prop where
  ex : ∃ dx mA d, ObjM h a dx C mA ∧ mA "own_options" = some (.ref d) ∧ (∀ m : Str, m ≠ "own_options" → mA m = none) ∧ DcR P w OptL h d T
/-- the parents of each node -/
def RowV (h : Heap) (xs : List Str) (v : Value) : Prop := ∃ l, v = .ref l ∧ TxL h l xs ∧ xs.length ≤ 250

theorem OptV.keep {h h' : Heap} (k : Keep h h') {o : Opt} {v : Value} (x : OptV h o v) : OptV h' o v := by
  cases o with
  | none => exact x
  | some p =>
    obtain ⟨q, u1, u2, e, ⟨o, ho, r⟩, t1, t2⟩ := x
    exact ⟨q, u1, u2, e, ⟨o, k _ _ ho, r⟩, t1, t2⟩
theorem LsR.keep {α : Type} {R : α → Value → Prop} {h h' : Heap} {a : Addr} {xs : List α} (k : Keep h h') (x : LsR R h a xs) : LsR R h' a xs := by
  obtain ⟨its, p, n, e⟩ := x
  exact ⟨its, p, n, k _ _ e⟩
theorem LsR.keepX {α : Type} {R : α → Value → Prop} {h h' : Heap} {a : Addr} {xs : List α} {S : Addr → Prop} (k : KeepX S h h') (n : ¬ S a) (x : LsR R h a xs) : LsR R h' a xs := by
  obtain ⟨its, p, m, e⟩ := x
  exact ⟨its, p, m, k _ _ n e⟩
theorem LsR.imp {α : Type} {R R' : α → Value → Prop} {h : Heap} {a : Addr} {xs : List α} (i : ∀ x v, R x v → R' x v) (x : LsR R h a xs) : LsR R' h a xs := by
  obtain ⟨its, p, e⟩ := x
  exact ⟨its, Paired.mapP p i, e⟩
theorem LsR.lt {α : Type} {R : α → Value → Prop} {h : Heap} {a : Addr} {xs : List α} (x : LsR R h a xs) : a < h.objs.size := by
  obtain ⟨its, p, n, e⟩ := x
  exact Heap.lt_size e
theorem OptL.keep {h h' : Heap} (k : Keep h h') {os : List Opt} {v : Value} (x : OptL h os v) : OptL h' os v := by
  obtain ⟨l, e, p, z⟩ := x
  exact ⟨l, e, (p.keep k).imp fun _ _ y => y.keep k, z⟩
theorem RowV.keep {h h' : Heap} (k : Keep h h') {os : List Str} {v : Value} (x : RowV h os v) : RowV h' os v := by
  obtain ⟨l, e, p, z⟩ := x
  exact ⟨l, e, p.keep k, z⟩
theorem DcR.keep {α : Type} {P : Program} {w : World} {R : Heap → α → Value → Prop} {h h' : Heap} {d : Addr} {T : List (Str × α)} (hR : ∀ b v, R h b v → R h' b v) (k : Keep h h') (x : DcR P w R h d T) : DcR P w R h' d T := by
  obtain ⟨vs, p, ⟨o, es, ep, ho, r⟩, y, z⟩ := x
  exact ⟨vs, Paired.mapP p fun _ _ q => ⟨q.1, hR _ _ q.2⟩, ⟨o, es, ep, k _ _ ho, r⟩, y, z⟩
theorem Cho.keep {P : Program} {w : World} {C : Addr} {h h' : Heap} {a : Addr} {T : Tbl} (k : Keep h h') (x : Cho P w C h a T) : Cho P w C h' a T := by
  obtain ⟨dx, mA, d, ⟨h1, h2, h3⟩, h4, h5, h6⟩ := x.ex
  refine ⟨dx, mA, d, ⟨k _ _ h1, ?_, h3⟩, h4, h5, h6.keep (fun b v => OptL.keep k) k⟩
  obtain ⟨o, es, ep, e, r⟩ := h2
  exact ⟨o, es, ep, k _ _ e, r⟩

theorem pairs_get {α : Type} {R : α → Value → Prop} {x : Str} : ∀ {T : List (Str × α)} {vs : List (Key × Value)}, Paired (fun (p : Str × α) (q : Key × Value) => q.1 = .inr p.1 ∧ R p.2 q.2) T vs →
    match T.lookup x with | some b => ∃ v, valueAt vs (.inr x) = some v ∧ R b v | none => valueAt vs (.inr x) = none
  | _, _, .nil => rfl
  | _, _, .cons (a := (k, b)) (b := (k', v)) ⟨e, r⟩ t => by
    have ih := pairs_get (x := x) t
    cases (show k' = Sum.inr k from e)
    by_cases hx : x = k
    · subst hx
      rw [List.lookup_cons, beq_self_eq_true]
      exact ⟨v, by unfold valueAt; rw [List.find?_cons_of_pos (by simp)]; rfl, r⟩
    · rw [List.lookup_cons, show (x == k) = false from beq_eq_false_iff_ne.mpr hx]
      have e2 : ∀ l : List (Key × Value), valueAt ((Sum.inr k, v) :: l) (.inr x) = valueAt l (.inr x) := fun l => by
        unfold valueAt
        rw [List.find?_cons_of_neg (by simpa using fun z : k = x => hx z.symm)]
      simp only [e2]
      exact ih

/-- a list or a dict refers to b -/
def RefIn (h : Heap) (a b : Addr) : Prop := ∃ o, h.get? a = some o ∧ ((∃ its n, o.data = .seq its n ∧ Value.ref b ∈ its) ∨ ∃ es n, o.data = .dict es n ∧ ∃ e ∈ es, e.val = Value.ref b)
theorem pairs_mem {P : Program} {w : World} {κ : Type} [DecidableEq κ] {knd : PySem.KeyKind P w κ} {es : List DictEntry} {vs : List (κ × Value)} (p : Pairs knd es vs) : ∀ k v, (k, v) ∈ vs → ∃ e ∈ es, e.val = v := by
  induction p with
  | nil => intro k v h; cases h
  | @cons e kv es kvs h1 h2 _ ih =>
    intro k v h
    rcases List.mem_cons.mp h with z | z
    · exact ⟨_, .head _, by rw [h2, ← z]⟩
    · obtain ⟨e, he, q⟩ := ih k v z
      exact ⟨e, .tail _ he, q⟩
theorem mem_pairs {P : Program} {w : World} {κ : Type} [DecidableEq κ] {knd : PySem.KeyKind P w κ} {es : List DictEntry} {vs : List (κ × Value)} (p : Pairs knd es vs) : ∀ e, e ∈ es → ∃ k, (k, e.val) ∈ vs := by
  induction p with
  | nil => intro e h; cases h
  | @cons e kv es kvs h1 h2 _ ih =>
    intro e' h
    rcases List.mem_cons.mp h with rfl | z
    · exact ⟨kv.1, by rw [h2]; exact .head _⟩
    · obtain ⟨k, q⟩ := ih e' z
      exact ⟨k, .tail _ q⟩
/-- what a dict refers to are its values -/
theorem ref_dict {P : Program} {w : World} {h : Heap} {d b : Addr} {vs : List (Key × Value)} (D : h.DictOf (mixKind P w) d vs) (r : RefIn h d b) : ∃ k, (k, Value.ref b) ∈ vs := by
  obtain ⟨o, es, ep, ho, ex, hdat, hk, hp, nd⟩ := D
  obtain ⟨o', ho', z⟩ := r
  rw [ho] at ho'
  cases ho'
  rcases z with ⟨its, n, e, _⟩ | ⟨es', n, e, ee, he, hv⟩
  · rw [hdat] at e; cases e
  · rw [hdat] at e
    cases e
    obtain ⟨k, q⟩ := mem_pairs hp ee (by simpa using he)
    exact ⟨k, by rw [← hv]; exact q⟩

section
variable {X : RX} {r : List (Str × Value)} {s s' : Shared} {E : Value → Shared → Prop} {x : Str} {v : Value} {A : Around}

/-! ### tests -/
theorem r_cmp {op : CmpOp} {a b : Expr} {pos : Pos} {Q : Value → Shared → Prop} (h : wpAny (model X.P X.w) X.A (eval a X.env) (fun u s1 => wpAny (model X.P X.w) X.A (eval b X.env) (fun v s2 => wpAny (model X.P X.w) X.A (compareOp op u v) Q E s2) E s1) E s)
    (hm : behindInMarks op b = false := by first | exact nobehind _ (by decide) (by decide) | rfl) : wpAny (model X.P X.w) X.A (eval (.Compare a [op] [b] pos) X.env) Q E s := wpAny_Compare1 h hm
theorem r_tcmp {op : CmpOp} {a b : Expr} {pos : Pos} {whole : Sem Value} {Q : Bool → Shared → Prop} (h : wpAny (model X.P X.w) X.A (eval a X.env) (fun u s1 => wpAny (model X.P X.w) X.A (eval b X.env) (fun v s2 => wpAny (model X.P X.w) X.A (compareOp op u v) (fun c s3 => wpAny (model X.P X.w) X.A (truthy c) Q E s3) E s2) E s1) E s)
    (hm : behindInMarks op b = false := by first | exact nobehind _ (by decide) (by decide) | rfl) : wpAny (model X.P X.w) X.A (isTrue (.Compare a [op] [b] pos) X.env whole) Q E s := wpAny_isTrue_Compare1 h hm

/-! ### own attributes and methods -/
theorem r_fld {n f : Str} {npos pos : Pos} {a dx C : Addr} {mA : Str → Option Value} {Q : Value → Shared → Prop} (I : RI X r s) (hn : r.lookup n = some (.ref a)) (O : ObjM s.heap a dx C mA) (c : Cls X.K C) (na : NoAttr X.K C f) (hv : mA f = some v) (hh : PySem.W.handedIn v = true)
    (q : Q v { s with toks := s.toks + 1 }) (hk : X.env.kindOf n = some .local ∨ X.env.kindOf n = some .cell ∨ X.env.kindOf n = some .free := by first | exact .inl rfl | exact .inr (.inl rfl) | exact .inr (.inr rfl))
    (hb : attributeBase (.Name n npos) f X.env (eval (.Name n npos) X.env) = eval (.Name n npos) X.env := by rfl) (hd : (n == ("__debug__" : Str)) = false := by decide) (hcd : (n == ("__classdict__" : Str)) = false := by decide) :
    wpAny (model X.P X.w) X.A (eval (.Attribute (.Name n npos) f pos) X.env) Q E s :=
  attr_of hb (r_name I hn (get_map I.kIn O (c.get f) c.hd na hv hh q) hk hd hcd)
theorem r_meth0 {n m : Str} {npos apos pos : Pos} {a dx C g : Addr} {mA : Str → Option Value} {Q : Value → Shared → Prop} {pl : Sem Bool} (I : RI X r s) (hn : r.lookup n = some (.ref a)) (O : ObjM s.heap a dx C mA) (c : Cls X.K C) (hm : Meth X.K C m g) (ha : mA m = none)
    (h : wpAny (model X.P X.w) X.A (call (.ref g) [.ref a]) Q E s)
    (hk : X.env.kindOf n = some .local ∨ X.env.kindOf n = some .cell ∨ X.env.kindOf n = some .free := by first | exact .inl rfl | exact .inr (.inl rfl) | exact .inr (.inr rfl)) (hd : (n == ("__debug__" : Str)) = false := by decide) (hcd : (n == ("__classdict__" : Str)) = false := by decide)
    (ht : eval (.Call (.Attribute (.Name n npos) m apos) [] [] pos) X.env = (do
      let ov ← eval (.Name n npos) X.env
      standAt apos.atName
      let (f, first) ← holding [ov] (getMethod ov m pl)
      callWith pos f first (backTo pos (starEach [] X.env)) (backToKw pos (keywordEach [] X.env))) := by rfl) :
    wpAny (model X.P X.w) X.A (eval (.Call (.Attribute (.Name n npos) m apos) [] [] pos) X.env) Q E s :=
  PySem.W.methodCall_KW (pl := pl) (r_name I hn (get_meth I.kIn O (c.get m) hm.at_ hm.fn ha (PySem.W.callWith_K0 (first := [.ref a]) I.kIn hm.kp h)) hk hd hcd) ht
theorem r_meth1 {n m : Str} {npos apos pos : Pos} {e : Expr} {a dx C g : Addr} {mA : Str → Option Value} {Q : Value → Shared → Prop} {pl : Sem Bool} (I : RI X r s) (hn : r.lookup n = some (.ref a)) (O : ObjM s.heap a dx C mA) (c : Cls X.K C) (hm : Meth X.K C m g) (ha : mA m = none)
    (h : wpAny (model X.P X.w) X.A (eval e X.env) (fun u s1 => X.K.In s1.heap ∧ wpAny (model X.P X.w) X.A (call (.ref g) [.ref a, u]) Q E s1) E s)
    (hk : X.env.kindOf n = some .local ∨ X.env.kindOf n = some .cell ∨ X.env.kindOf n = some .free := by first | exact .inl rfl | exact .inr (.inl rfl) | exact .inr (.inr rfl)) (hd : (n == ("__debug__" : Str)) = false := by decide) (hcd : (n == ("__classdict__" : Str)) = false := by decide)
    (ht : eval (.Call (.Attribute (.Name n npos) m apos) [e] [] pos) X.env = (do
      let ov ← eval (.Name n npos) X.env
      standAt apos.atName
      let (f, first) ← holding [ov] (getMethod ov m pl)
      callWith pos f first (backTo pos (starEach [e] X.env)) (backToKw pos (keywordEach [] X.env))) := by rfl)
    (he : starEach [e] X.env = (false, eval e X.env) :: starEach [] X.env := by rfl) :
    wpAny (model X.P X.w) X.A (eval (.Call (.Attribute (.Name n npos) m apos) [e] [] pos) X.env) Q E s :=
  PySem.W.methodCall_KW (pl := pl) (r_name I hn (get_meth I.kIn O (c.get m) hm.at_ hm.fn ha (PySem.W.callWith_K (first := [.ref a]) (h₀ := X.base) I.ok.mod.kin hm.kp (r_arg1 h he) he rfl)) hk hd hcd) ht

/-! ### dicts by text -/
theorem DcR.at {α : Type} {P : Program} {w : World} {R : Heap → α → Value → Prop} {h : Heap} {d : Addr} {T : List (Str × α)} (D : DcR P w R h d T) (x : Str) : ∃ vs, h.DictOf (mixKind P w) d vs ∧ (d == sysModules) = false ∧
    match T.lookup x with | some b => ∃ v, valueAt vs (.inr x) = some v ∧ R h b v | none => valueAt vs (.inr x) = none := by
  obtain ⟨vs, p, dd, lo, _⟩ := D
  exact ⟨vs, dd, lo, pairs_get p⟩
theorem r_dget {α : Type} {R : Heap → α → Value → Prop} {d : Addr} {T : List (Str × α)} {b : α} {u : Value} {Q : Value → Shared → Prop} (D : DcR X.P X.w R s.heap d T) (hx : T.lookup x = some b) (hu : Tx x u)
    (q : ∀ v, R s.heap b v → Q v { s with toks := s.toks + 1 }) : wpAny (model X.P X.w) A (getItem (.ref d) u) Q E s := by
  obtain ⟨vs, dd, lo, g⟩ := D.at x
  rw [hx] at g
  obtain ⟨v, hv, rv⟩ := g
  obtain ⟨t, rfl⟩ := hu
  exact wpAny_getItem_of (mixKind_str _ _ x t) dd.mapOf hv (q v rv)
theorem r_din {α : Type} {R : Heap → α → Value → Prop} {d : Addr} {T : List (Str × α)} {u : Value} {Q : Value → Shared → Prop} (D : DcR X.P X.w R s.heap d T) (hu : Tx x u)
    (q : Q (.bool (T.lookup x).isSome) { s with toks := s.toks + 1 }) : wpAny (model X.P X.w) A (compareOp .In u (.ref d)) Q E s := by
  obtain ⟨vs, dd, lo, g⟩ := D.at x
  obtain ⟨t, rfl⟩ := hu
  refine wpAny_in_of (mixKind_str _ _ x t) lo dd.mapOf ?_
  cases hx : T.lookup x with
  | none =>
    rw [hx] at g q
    rw [show valueAt vs (.inr x) = none from g]
    exact q
  | some b =>
    rw [hx] at g q
    obtain ⟨v, hv, _⟩ := g
    rw [hv]
    exact q
/-- d[e] -/
theorem r_dsub {α : Type} {R : Heap → α → Value → Prop} {T : List (Str × α)} {b : α} {o i : Expr} {pos : Pos} {Q : Value → Shared → Prop} (hx : T.lookup x = some b)
    (h : wpAny (model X.P X.w) X.A (eval o X.env) (fun ov s1 => wpAny (model X.P X.w) X.A (eval i X.env) (fun u s2 => ∃ d, ov = .ref d ∧ DcR X.P X.w R s2.heap d T ∧ Tx x u ∧ ∀ v, R s2.heap b v → Q v { s2 with toks := s2.toks + 1 }) E s1) E s)
    (hs : NoSl i := by intro _ _; with_unfolding_all rfl) : wpAny (model X.P X.w) X.A (eval (.Subscript o i pos) X.env) Q E s := by
  refine subD_of PySem.F.slot_dict_getitem.lookup hs (thn h fun ov s1 h1 => thn h1 fun u s2 ⟨d, e, D, hu, q⟩ => ?_)
  subst e
  refine ⟨?_, r_dget D hx hu q⟩
  obtain ⟨vs, _, ⟨o, es, ep, ho, ex, _⟩, _⟩ := D
  exact ⟨o, ho, ex.1⟩
/-- list(d) -/
theorem r_listD {α : Type} {R : Heap → α → Value → Prop} {d : Addr} {T : List (Str × α)} {Q : Value → Shared → Prop} (hh : A.handled = none) (D : DcR X.P X.w R s.heap d T)
    (q : ∀ a s', Step No s s' → s.heap.objs.size ≤ a → TxL s'.heap a (T.map (·.1)) → Q (.ref a) s') : wpAny (model X.P X.w) A (call (.type "list") [.ref d]) Q E s := by
  obtain ⟨vs, p, dd, lo, z⟩ := D
  obtain ⟨ep, hat⟩ := dd.dictAt
  refine PySem.W.kdl_call (PySem.W.kdl_dict (knd := mixKind X.P X.w) (kvs := vs) (ep := ep) lo) hh hat (by rw [← p.length]; exact z) fun h' tk acc c' hk hD hacc => ?_
  have key : ∀ {T : List (Str × α)} {vs : List (Key × Value)} {its : List Value}, Paired (fun (p : Str × α) (q : Key × Value) => q.1 = .inr p.1 ∧ R s.heap p.2 q.2) T vs → its.length = vs.length →
      (∀ (i : Nat) (v : Value), its[i]? = some v → ∃ (k : Key) (y : Value), vs[i]? = some (k, y) ∧ (mixKind X.P X.w).is k v = true) → Paired Tx (T.map (·.1)) its := by
    intro T vs its p
    induction p generalizing its with
    | nil =>
      intro hl _
      cases its with
      | nil => exact .nil
      | cons _ _ => cases hl
    | @cons a b l1 l2 r1 t ih =>
      intro hl hi
      cases its with
      | nil => cases hl
      | cons v its =>
        obtain ⟨k, y, e, hk⟩ := hi 0 v rfl
        cases e
        have : (k : Key) = .inr a.1 := r1.1
        subst this
        refine .cons ?_ (ih (by simpa using hl) fun i v e => hi (i + 1) v (by simpa using e))
        rcases keyIs_shape (k := .inr a.1) (v := v) hk with ⟨i, u, e1, _⟩ | ⟨z, u, e1, e2⟩
        · cases e1
        · have e3 := Sum.inr.inj e1
          subst e3
          exact ⟨u, e2⟩
  refine q _ _ (.ofK hk) (Nat.le_refl _) ⟨acc.toList, key p (by rw [Array.length_toList]; exact hacc.1) fun i v e => hacc.2 i v (by rw [← Array.getElem?_toList]; exact e), c', by rw [Array.toArray_toList]; exact hD⟩
/-- list(l) -/
theorem r_listL {α : Type} {R : α → Value → Prop} {l : Addr} {xs : List α} {Q : Value → Shared → Prop} (L : LsR R s.heap l xs) (hz : xs.length ≤ sizeLine)
    (q : ∀ a s', Step No s s' → s.heap.objs.size ≤ a → LsR R s'.heap a xs → Q (.ref a) s') : wpAny (model X.P X.w) A (call (.type "list") [.ref l]) Q E s := by
  obtain ⟨its, p, pl⟩ := L
  have hlen := p.length
  obtain ⟨o, ho, hc, n, hd⟩ := pl.isList
  exact call_list_seq l (.inl rfl) ho hc hd (fun h' c' kp e => q _ _ (.ofK kp) (Nat.le_refl _) ⟨its, p, c', e⟩) (by simp only [List.size_toArray] <;> omega)
/-- isinstance(x, str) -/
theorem r_isStr {u : Value} {Q : Value → Shared → Prop} (hu : Tx x u) (q : Q (.bool true) s) : wpAny (model X.P X.w) A (call (.builtin "isinstance") [u, .type "str"]) Q E s := by
  obtain ⟨t, rfl⟩ := hu
  exact IsiPair.str_str q
/-! ### o in a thing of one's own class -/
theorem r_notInOwn {a dx C g : Addr} {mA : Str → Option Value} {Q : Value → Shared → Prop} (I : RI X r s) (O : ObjM s.heap a dx C mA) (hm : Meth X.K C "__contains__" g)
    (h : wpAny (model X.P X.w) A (call (.ref g) [.ref a, v]) (fun u s' => ∃ b, u = .bool b ∧ Q (.bool (!b)) s') E s) : wpAny (model X.P X.w) A (compareOp .NotIn v (.ref a)) Q E s := by
  obtain ⟨m, F⟩ := I.fr
  obtain ⟨od, J, _⟩ := O.look
  refine PySem.W.notIn_K F I.ok.mod.kin J hm.at_ hm.fn (thn h fun u s' ⟨b, e, q⟩ => ?_)
  subst e
  exact wpAny_truthy_bool q
/-- an expression as a statement -/
theorem r_expr {e : Expr} {pos : Pos} {Q : Flow → Shared → Prop} (h : wpAny (model X.P X.w) X.A (eval e X.env) (fun _ => Q .next) E s) (hi : interactive X.env = false := by rfl) (hs : swapsWith e none pos.line X.env = pure false := by rfl) :
    wpAny (model X.P X.w) X.A (exec (.Expr e pos) X.env) Q E s := wpAny_Expr_any h hi hs
end
end K25

set_option Elab.async false
set_option linter.all false
set_option maxRecDepth 100000
set_option maxHeartbeats 2000000
/-! K25, part RD: list comprehensions over the bare heap -/
namespace K25
open PySem PySem.Spec PyProof.Rows L2

theorem paired_append {α β : Type} {R : α → β → Prop} : ∀ {xs ys : List α} {us ws : List β}, Paired R xs us → Paired R ys ws → Paired R (xs ++ ys) (us ++ ws)
  | _, _, _, _, .nil, s => s
  | _, _, _, _, .cons r t, s => .cons r (paired_append t s)
theorem paired_get {α β : Type} {R : α → β → Prop} : ∀ {xs : List α} {us : List β} (i : Nat) {u : β}, Paired R xs us → us[i]? = some u → ∃ x, xs[i]? = some x ∧ R x u
  | _, _, _, _, .nil, e => by cases e
  | _, _, 0, _, .cons r t, e => by cases e; exact ⟨_, rfl, r⟩
  | _, _, i + 1, _, .cons r t, e => paired_get i t e
/-- the context of a comprehension's block -/
def RX.blk (X : RX) (scope : Scope) (C : Addr) : RX := { X with env := compEnvC scope (cloFrom X.env.cells scope.names []) C X.env }

/-- what can be walked: n turns, the i-th value holds P -/
def Src (X : RX) (target : Expr) (xv : Value) (h : Heap) (n : Nat) (P : Nat → Value → Prop) : Prop :=
  ∀ (s : Shared) (Q : Value → Shared → Prop) (E : Value → Shared → Prop), s.heap = h →
    (∀ fp Y St s', Step No s s' → s.heap.objs.size < s'.heap.objs.size → Goes X.P X.w X.A target s.heap.objs.size fp [s.heap.objs.size] n Y St → (∀ b ∈ fp, b = s.heap.objs.size ∨ b < s.heap.objs.size) → (∀ i v h', Y i v h' → P i v) → St 0 s'.heap → Q (.ref s.heap.objs.size) s') →
    wpAny (model X.P X.w) X.A (pyIter xv) Q E s

section
variable {X : RX} {r : List (Str × Value)} {s s' : Shared} {E : Value → Shared → Prop} {target : Expr}

theorem Src.list {h : Heap} {l : Addr} {its : Array Value} {n : Nat} (hh : X.A.handled = none) (hl : h.IsList l its) (hn : n = its.size) : Src X target (.ref l) h n (fun i v => its[i]? = some v) := by
  intro s Q E e q
  subst e hn
  obtain ⟨o, ho, r⟩ := id hl
  have lt := Heap.lt_size ho
  refine wpAny_pyIter_list hl (q _ _ _ _ (.ofK (tk := s.toks) (d := s.drawn) (Keep.push _ _)) (by rw [Heap.size_push]; exact Nat.lt_succ_self _) (Goes.list hh _ l (Nat.ne_of_lt lt) its) (fun b hb => ?_) (fun i v h' y => y) ⟨⟨_, Heap.get?_push_size _ rfl, rfl, rfl⟩, hl.push _⟩)
  rcases List.mem_cons.mp hb with rfl | hb
  · exact .inl rfl
  · rw [List.mem_singleton.mp hb]
    exact .inr lt
theorem Src.keys {α : Type} {R : Heap → α → Value → Prop} {h : Heap} {d : Addr} {T : List (Str × α)} (hh : X.A.handled = none) (D : DcR X.P X.w R h d T) : Src X target (.ref d) h T.length (fun i v => ∃ p, T[i]? = some p ∧ Tx p.1 v) := by
  intro s Q E e q
  subst e
  obtain ⟨vs, p, dd, lo, z⟩ := D
  obtain ⟨ep, hat⟩ := dd.dictAt
  have lt : d < s.heap.objs.size := hat.lt_size
  have q' := fun fp Y St => q fp Y St { s with heap := s.heap.push { cls := .type "dict_keyiterator", data := .fields #[.ref d, .int 0 0, .int vs.length 0, .int ep 0] } } (.ofK (tk := s.toks) (d := s.drawn) (Keep.push _ _)) (by show _ < (Heap.push _ _).objs.size; rw [Heap.size_push]; exact Nat.lt_succ_self _)
  rw [p.length] at q'
  refine wpAny_pyIter_dict lo hat (q' _ _ _ (Goes.dictKeys hh _ d (Nat.ne_of_lt lt) vs ep) (fun b hb => ?_) (fun i v h' y => ?_) ⟨⟨_, Heap.get?_push_size _ rfl, rfl, rfl⟩, hat.push _⟩)
  · rcases List.mem_cons.mp hb with rfl | hb
    · exact .inl rfl
    · rw [List.mem_singleton.mp hb]
      exact .inr lt
  · obtain ⟨k, y, e, hk⟩ := y
    have key : ∀ {T : List (Str × α)} {vs : List (Key × Value)} (i : Nat), Paired (fun (p : Str × α) (q : Key × Value) => q.1 = .inr p.1 ∧ R s.heap p.2 q.2) T vs → vs[i]? = some (k, y) → ∃ p, T[i]? = some p ∧ k = .inr p.1 := by
      intro T vs i p
      induction p generalizing i with
      | nil => intro e; cases e
      | @cons a b l1 l2 r1 t ih =>
        intro e
        cases i with
        | zero => cases e; exact ⟨a, rfl, r1.1⟩
        | succ i => exact ih i e
    obtain ⟨pp, e1, e2⟩ := key i p e
    subst e2
    refine ⟨pp, e1, ?_⟩
    rcases keyIs_shape (k := .inr pp.1) (v := v) hk with ⟨i, u, e1, _⟩ | ⟨z, u, e1, e2⟩
    · cases e1
    · have e3 := Sum.inr.inj e1
      subst e3
      exact ⟨u, e2⟩

theorem blk_ok {scope : Scope} {C : Addr} (ok : X.Ok) (hC : X.base.objs.size ≤ C) (hfree : ∀ y ∈ scope.names, y.2 = .free → X.env.kindOf y.1 = some .cell ∨ X.env.kindOf y.1 = some .free) (hex : ∀ y ∈ scope.names, y.2 = .free → ∃ c, X.env.cells.lookup y.1 = some c) : (X.blk scope C).Ok := by
  refine ⟨ok.mod, ok.glob, ok.blt, fun b hb => ?_, ok.hd⟩
  rcases hb with rfl | ⟨y, _, hc⟩
  · exact hC
  · have hm := PySem.mem_of_lookup hc
    rcases cloFrom_mem hm with hm | ⟨h1, e⟩
    · cases hm
    · obtain ⟨c, e2⟩ := hex _ h1 rfl
      refine ok.above b (.inr ⟨y, hfree _ h1 rfl, ?_⟩)
      rw [e]
      simp only at e2 ⊢
      rw [e2]
      rfl

/-- a comprehension's block as the text has it -/
structure BlkOk (X : RX) (scope : Scope) (nm : Str) : Prop where
  kind : scope.kind = .function
  uniq : ∀ y ∈ scope.names, scope.names.lookup y.1 = some y.2
  cell : ∀ y ∈ scope.names, y.2 ≠ .cell
  free : ∀ y ∈ scope.names, y.2 = .free → X.env.kindOf y.1 = some .cell ∨ X.env.kindOf y.1 = some .free
  loc : scope.names.lookup nm = some .local
def blkC (sc out : Scope) (nm : Str) : Bool :=
  decide (sc.kind = .function) && sc.names.all (fun y => decide (sc.names.lookup y.1 = some y.2)) && sc.names.all (fun y => !decide (y.2 = .cell)) && sc.names.all (fun y => !decide (y.2 = .free) || decide (out.names.lookup y.1 = some .cell) || decide (out.names.lookup y.1 = some .free)) && decide (sc.names.lookup nm = some .local)
theorem blk_by {X : RX} {sc out : Scope} {nm : Str} (h : blkC sc out nm = true) (e : X.env.scope = out) : BlkOk X sc nm := by
  unfold blkC at h
  simp only [Bool.and_eq_true, decide_eq_true_eq, List.all_eq_true, Bool.or_eq_true, Bool.not_eq_true', decide_eq_false_iff_not] at h
  obtain ⟨⟨⟨⟨h1, h2⟩, h3⟩, h4⟩, h5⟩ := h
  refine ⟨h1, h2, h3, fun y hy z => ?_, h5⟩
  show X.env.scope.names.lookup y.1 = _ ∨ X.env.scope.names.lookup y.1 = _
  rw [e]
  rcases h4 y hy with (h | h) | h
  · exact absurd z h
  · exact .inl h
  · exact .inr h
/-- no name of r is one of the block's own -/
def aparC (sc : Scope) (l : List Str) : Bool := l.all fun x => !decide (sc.names.lookup x = some .local)
theorem apar_by {sc : Scope} {r : List (Str × Value)} {l : List Str} (h : aparC sc l = true) (e : r.map (·.1) = l) : ∀ x v, r.lookup x = some v → sc.names.lookup x ≠ some .local := fun x v hv z => by
  have hm : x ∈ l := by rw [← e]; exact List.mem_map.mpr ⟨_, PySem.mem_of_lookup hv, rfl⟩
  have := List.all_eq_true.mp h x hm
  rw [decide_eq_true z] at this
  cases this
/-- one turn's end -/
def TurnTo (sT : Shared) (O : List Value → Heap → Prop) (ys : List Value) (s' : Shared) : Prop := Step No sT s' ∧ O ys s'.heap

theorem lcV_turn {α β : Type} {xs : List α} {g : α → Option β} {Rout : β → Value → Prop} {nm : Str} {elt : Expr} {ifs : List Expr} {Z : RX} {r1 : List (Str × Value)} {s1 : Shared} {P : Nat → Value → Prop}
    (turn : ∀ i x v sT, xs[i]? = some x → P i v → RI Z ((nm, v) :: r1) sT → Step No s1 sT →
        wpAny (model Z.P Z.w) Z.A (testsOf ifs Z.env) (fun ok s5 => ok = (g x).isSome ∧ Step No sT s5 ∧ ∀ y, g x = some y → wpAny (model Z.P Z.w) Z.A (eval elt Z.env) (fun u s6 => Step No sT s6 ∧ Rout y u) (fun _ _ => False) s5) (fun _ _ => False) sT)
    (i : Nat) (v : Value) (ys : List Value) (sT : Shared) (hi : i < xs.length) (hP : P i v) (IT : RI Z ((nm, v) :: r1) sT) (st : Step No s1 sT) (hO : Paired Rout ((xs.take i).filterMap g) ys) :
    wpAny (model Z.P Z.w) Z.A (testsOf ifs Z.env) (fun ok s5 => if ok = true then wpAny (model Z.P Z.w) Z.A (eval elt Z.env) (fun x s6 => TurnTo sT (fun ys _ => Paired Rout ((xs.take (i + 1)).filterMap g) ys) (ys ++ [x]) s6) (fun _ _ => False) s5 else TurnTo sT (fun ys _ => Paired Rout ((xs.take (i + 1)).filterMap g) ys) ys s5) (fun _ _ => False) sT := by
  have hx : xs[i]? = some xs[i] := List.getElem?_eq_getElem hi
  refine wpAny_mono (turn i _ v sT hx hP IT st) (fun ok s5 ⟨e, st5, q⟩ => ?_) fun _ _ z => z
  have tk : (xs.take (i + 1)).filterMap g = (xs.take i).filterMap g ++ (g xs[i]).toList := by
    rw [List.take_add_one, hx, List.filterMap_append]
    cases e2 : g xs[i] <;> simp [e2]
  cases e2 : g xs[i] with
  | none =>
    rw [e2] at e tk
    subst e
    refine ⟨st5, ?_⟩
    show Paired Rout ((xs.take (i + 1)).filterMap g) ys
    rw [tk]
    simpa using hO
  | some y =>
    rw [e2] at e tk
    subst e
    refine wpAny_mono (q y e2) (fun u s6 ⟨st6, ru⟩ => ⟨st6, ?_⟩) fun _ _ z => z
    show Paired Rout ((xs.take (i + 1)).filterMap g) (ys ++ [u])
    rw [tk]
    exact paired_append hO (.cons ru .nil)
/-- what a list comprehension owes where its source is known -/
theorem lc_core {nm : Str} {np : Pos} {elt : Expr} {ifs : List Expr} {scope : Scope} {use : Option (Value → Sem Unit)} {Q : Value → Shared → Prop} {r1 : List (Str × Value)} {s1 : Shared} {n : Nat} {P : Nat → Value → Prop} (B0 : BlkOk X scope nm) (ex : ∀ y ∈ scope.names, y.2 = .free → ∃ c, X.env.cells.lookup y.1 = some c)
    (I1 : RI X r1 s1) (hr : ∀ x v, r1.lookup x = some v → scope.names.lookup x ≠ some .local) (hn : n ≤ sizeLine)
    (body : ∀ (C : Addr) (S : Addr → Prop), s1.heap.objs.size ≤ C → (∀ b, S b → s1.heap.objs.size ≤ b) → ∃ O : Nat → List Value → Heap → Prop,
        (∀ h', Keep s1.heap h' → O 0 [] h') ∧ (∀ i ys h h', O i ys h → KeepX S h h' → O i ys h') ∧
        (∀ i v ys sT, i < n → P i v → RI (X.blk scope C) ((nm, v) :: r1) sT → Step No s1 sT → (∀ b, S b → b < sT.heap.objs.size) → O i ys sT.heap →
          wpAny (model X.P X.w) X.A (testsOf ifs (X.blk scope C).env) (fun ok s5 => if ok = true then wpAny (model X.P X.w) X.A (eval elt (X.blk scope C).env) (fun x s6 => TurnTo sT (O (i + 1)) (ys ++ [x]) s6) (fun _ _ => False) s5 else TurnTo sT (O (i + 1)) ys s5) (fun _ _ => False) sT) ∧
        (∀ D ys sT, Step No s1 sT → s1.heap.objs.size ≤ D → D ≠ C → S D → S C → RI (X.blk scope C) r1 sT → sT.heap.PlainList D ys.toArray → O n ys sT.heap → compEnds (model X.P X.w) X.A E use Q (.ref D) (X.blk scope C).env (.ok .next) sT))
    {fp : List Addr} {Y : Nat → Value → Heap → Prop} {St : Nat → Heap → Prop} {s2 : Shared} (st2 : Step No s1 s2) (hlt : s1.heap.objs.size < s2.heap.objs.size) (W : Goes X.P X.w X.A (.Name nm np) s1.heap.objs.size fp [s1.heap.objs.size] n Y St)
    (hfp : ∀ b ∈ fp, b = s1.heap.objs.size ∨ b < s1.heap.objs.size) (hY : ∀ i v h', Y i v h' → P i v) (hSt : St 0 s2.heap) :
    LcGoes X.P X.w X.A E X.env scope (cloFrom X.env.cells scope.names []) (.Name nm np) ifs elt use Q (.ref s1.heap.objs.size) s2 := by
  obtain ⟨hkind, hu, hcell, hfree, hloc⟩ := B0
  refine ⟨s1.heap.objs.size, fp, [s1.heap.objs.size], n, Y, St, rfl, W, hn, hSt, fun b hb => ?_, fun D C s3 B => ?_⟩
  · rcases hfp b hb with e | e
    · rw [e]; exact hlt
    · exact Nat.lt_trans e hlt
  obtain ⟨⟨h3, t3, rfl⟩, old, nD, nC, hDC, nm3⟩ := B
  have nD1 : s1.heap.objs.size ≤ D := Nat.le_of_lt (Nat.lt_of_lt_of_le hlt nD)
  have nC1 : s1.heap.objs.size ≤ C := Nat.le_of_lt (Nat.lt_of_lt_of_le hlt nC)
  have hIC : s1.heap.objs.size ≠ C := Nat.ne_of_lt (Nat.lt_of_lt_of_le hlt nC)
  obtain ⟨O, o0, ost, oturn, odone⟩ := body C (fun b => b = D ∨ b = s1.heap.objs.size ∨ b = C) nC1 fun b hb => by
    rcases hb with rfl | rfl | rfl
    · exact nD1
    · exact Nat.le_refl _
    · exact nC1
  have st3 : Step No s1 { s2 with heap := h3, toks := t3 } := st2.trans (.ofK (d := s2.drawn) old)
  have F3 : Frm (X.blk scope C).env h3 r1 := (Frm.block I1.frm hkind st3.keep0 nm3 hu hcell hfree hr).2
  have okb : (X.blk scope C).Ok := blk_ok I1.ok (Nat.le_trans I1.sz nC1) hfree ex
  have I3 : RI (X.blk scope C) r1 { s2 with heap := h3, toks := t3 } := ⟨okb, fun b o e => st3.keep0 b o (I1.bk b o e), F3⟩
  have hlocK : (X.blk scope C).env.kindOf nm = some .local := lookup_relabel_local hloc
  have ownb : ∀ b, Own (X.blk scope C).env b → b = C ∨ b < s1.heap.objs.size := fun b hb => by
    rcases hb with rfl | ⟨y, _, hc⟩
    · exact .inl rfl
    · have hm := PySem.mem_of_lookup hc
      rcases cloFrom_mem hm with hm | ⟨h1, e⟩
      · cases hm
      · obtain ⟨c, e2⟩ := ex _ h1 rfl
        refine .inr (I1.lt (.inr ⟨y, hfree _ h1 rfl, ?_⟩))
        rw [e]
        simp only at e2 ⊢
        rw [e2]
        rfl
  have atC : ∀ b, At (X.blk scope C).env nm b → b = C := fun b hb => by
    rcases hb with rfl | ⟨k, _⟩
    · rfl
    · rw [hlocK] at k; cases k
  have drop : ∀ {v : Value} {sT : Shared}, RI (X.blk scope C) ((nm, v) :: r1) sT → RI (X.blk scope C) r1 sT := fun {v sT} IT => IT.less fun x u e => by
    by_cases hx : x = nm
    · subst hx
      exact absurd hloc (hr _ _ e)
    · rw [lookup_cons_ne hx]; exact e
  have toOld : ∀ {sa sb : Shared} {S : Addr → Prop}, Step No s1 sa → Step S sa sb → (∀ b, S b → s1.heap.objs.size ≤ b) → Step No s1 sb := fun {sa sb S} a b hS =>
    ((a.any (S := fun b => s1.heap.objs.size ≤ b)).trans (b.mono hS)).old
  refine ⟨fun i ys sT => Step No s1 sT ∧ RI (X.blk scope C) r1 sT ∧ O i ys sT.heap, ⟨st3, I3, o0 _ st3.keep0⟩, ?_, ?_, ?_⟩
  · rintro i ys sT h' tk ⟨a, b, c⟩ hk _
    have stp : Step (fun b => b = D ∨ b = s1.heap.objs.size) sT { sT with heap := h', toks := tk } := .of (d := sT.drawn) fun b o nb e => hk b o (by
      intro hm
      rcases List.mem_cons.mp hm with z | z
      · exact nb (.inl z)
      · exact nb (.inr (List.mem_singleton.mp z))) e
    have ge : ∀ b, (b = D ∨ b = s1.heap.objs.size) → s1.heap.objs.size ≤ b := fun b hb => by
      rcases hb with rfl | rfl
      · exact nD1
      · exact Nat.le_refl _
    refine ⟨toOld a stp ge, b.step stp fun x hx => ⟨fun ow => ?_, Nat.le_trans I1.sz (ge x hx)⟩, ost _ _ _ _ c (stp.keep.mono fun x hx => ?_)⟩
    · rcases ownb x ow with z | z
      · rcases hx with e | e
        · exact hDC (e.symm.trans z)
        · exact hIC (e.symm.trans z)
      · exact absurd (Nat.lt_of_lt_of_le z (ge x hx)) (Nat.lt_irrefl _)
    · rcases hx with z | z
      · exact .inl z
      · exact .inr (.inl z)
  · rintro i v ys sT hi hy hst ⟨a, b, c⟩ hpl
    have ltD : D < sT.heap.objs.size := by
      obtain ⟨n', e⟩ := hpl
      exact Heap.lt_size e
    refine wpAny_assign_Name (r_store (X := X.blk scope C) b (.inl hlocK) fun s4 I4 st4 hsz => ?_)
    have st4' : Step (fun b => b = C) sT s4 := st4.mono atC
    have a4 : Step No s1 s4 := toOld a st4' fun x e => by rw [e]; exact nC1
    have ltC : C < s4.heap.objs.size := I4.lt (.inl rfl)
    have o4 : O i ys s4.heap := ost _ _ _ _ c (st4'.keep.mono fun x e => .inr (.inr e))
    have fin : ∀ {s6 : Shared} {zs : List Value}, TurnTo s4 (O (i + 1)) zs s6 → (Step No s1 s6 ∧ RI (X.blk scope C) r1 s6 ∧ O (i + 1) zs s6.heap) ∧ St (i + 1) s6.heap ∧ s6.heap.PlainList D ys.toArray := fun {s6 zs} ⟨st6, o6⟩ => by
      refine ⟨⟨a4.trans st6, (drop I4).step0 st6, o6⟩, W.frame (i + 1) _ _ hst fun x hx o e => st6.keep0 _ _ (st4'.keep _ _ ?_ e), hpl.at fun o e => st6.keep0 _ _ (st4'.keep _ _ hDC e)⟩
      rcases hfp x hx with z | z
      · rw [z]; exact hIC
      · exact Nat.ne_of_lt (Nat.lt_of_lt_of_le z nC1)
    refine wpAny_mono (oturn i v ys s4 hi (hY i v _ hy) I4 a4 (fun x hx => ?_) o4) (fun ok s5 h5 => ?_) (fun _ _ z => z.elim)
    · rcases hx with rfl | rfl | rfl
      · rw [hsz]; exact ltD
      · exact Nat.lt_trans (Nat.lt_of_lt_of_le hlt nC) ltC
      · exact ltC
    · cases ok with
      | true =>
        simp only [if_true] at h5 ⊢
        exact wpAny_mono h5 (fun x s6 h6 => fin h6) fun _ _ z => z.elim
      | false =>
        simp only [Bool.false_eq_true, if_false] at h5 ⊢
        exact fin h5
  · rintro ys sT ⟨a, b, c⟩ hpl
    exact odone D ys sT a nD1 hDC (.inl rfl) (.inr (.inr rfl)) b hpl c

/-- [elt for nm in iter if ..] -/
theorem r_lc {r0 : List (Str × Value)} {nm : Str} {np pos : Pos} {iter elt : Expr} {ifs : List Expr} {scope : Scope} {Q : Value → Shared → Prop} (I0 : RI X r0 s) (B0 : BlkOk X scope nm)
    (h : wpAny (model X.P X.w) X.A (eval iter X.env) (fun xv s1 => ∃ r1 n P, RI X r1 s1 ∧ (∀ x v, r1.lookup x = some v → scope.names.lookup x ≠ some .local) ∧ n ≤ sizeLine ∧ Src X (.Name nm np) xv s1.heap n P ∧
      ∀ (C : Addr) (S : Addr → Prop), s1.heap.objs.size ≤ C → (∀ b, S b → s1.heap.objs.size ≤ b) → ∃ O : Nat → List Value → Heap → Prop,
        (∀ h', Keep s1.heap h' → O 0 [] h') ∧ (∀ i ys h h', O i ys h → KeepX S h h' → O i ys h') ∧
        (∀ i v ys sT, i < n → P i v → RI (X.blk scope C) ((nm, v) :: r1) sT → Step No s1 sT → (∀ b, S b → b < sT.heap.objs.size) → O i ys sT.heap →
          wpAny (model X.P X.w) X.A (testsOf ifs (X.blk scope C).env) (fun ok s5 => if ok = true then wpAny (model X.P X.w) X.A (eval elt (X.blk scope C).env) (fun x s6 => TurnTo sT (O (i + 1)) (ys ++ [x]) s6) (fun _ _ => False) s5 else TurnTo sT (O (i + 1)) ys s5) (fun _ _ => False) sT) ∧
        (∀ D ys s', Step No s1 s' → s1.heap.objs.size ≤ D → s'.heap.PlainList D ys.toArray → O n ys s'.heap → Q (.ref D) s')) E s)
    (hs : ∀ x, foldedSetIterable iter X.env x = pure x := by intro _; rfl) :
    wpAny (model X.P X.w) X.A (eval (.ListComp elt [⟨.Name nm np, iter, ifs, 0⟩] scope pos) X.env) Q E s := by
  have ex : ∀ y ∈ scope.names, y.2 = .free → ∃ c, X.env.cells.lookup y.1 = some c := fun y hy e => by
    obtain ⟨c, _, e2, _⟩ := I0.frm.cl y.1 (B0.free y hy e)
    exact ⟨c, e2⟩
  refine ListComp_goes (cl := cloFrom X.env.cells scope.names []) (closure_ok ex) B0.cell B0.kind (fun y hy e => by rw [B0.uniq y hy, e]) (thn h fun xv s1 ⟨r1, n, P, I1, hr, hn, src, body⟩ => src s1 _ _ rfl fun fp Y St s2 st2 hlt W hfp hY hSt => ?_) hs
  refine lc_core B0 ex I1 hr hn (fun C S hC hS => ?_) st2 hlt W hfp hY hSt
  obtain ⟨O, o0, ost, oturn, odone⟩ := body C S hC hS
  refine ⟨O, o0, ost, oturn, fun D ys sT a nD hDC inD inC b hpl c => ?_⟩
  obtain ⟨m, hn', _⟩ := b.frm.ns
  refine ⟨m, hn', fun h' sb => odone D ys _ ?_ nD (hpl.extBut sb.extBut hDC) (ost _ _ _ _ c fun x o nx e => sb.extBut x o (fun z => nx (by rw [z]; exact inC)) e)⟩
  exact ((a.any (S := fun b => s1.heap.objs.size ≤ b)).trans (.of (tk := sT.toks) (d := sT.drawn) fun x o nx e => sb.extBut x o (fun z => nx (by rw [z]; exact hC)) e)).old

/-- y = [elt for nm in iter if ..] on one line, y a plain local; the items are values that lean on no heap -/
theorem r_setlcV {α β : Type} {xs : List α} {g : α → Option β} {Rout : β → Value → Prop} {r0 : List (Str × Value)} {y nm : Str} {py np pos spos : Pos} {iter elt : Expr} {ifs : List Expr} {scope : Scope} {Q : Flow → Shared → Prop} (I0 : RI X r0 s) (B0 : BlkOk X scope nm) (hy : X.env.kindOf y = some .local)
    (h : wpAny (model X.P X.w) X.A (eval iter X.env) (fun xv s1 => ∃ r1 P, RI X r1 s1 ∧ (∀ x v, r1.lookup x = some v → scope.names.lookup x ≠ some .local) ∧ xs.length ≤ sizeLine ∧ Src X (.Name nm np) xv s1.heap xs.length P ∧
      (∀ C i x v sT, xs[i]? = some x → P i v → RI (X.blk scope C) ((nm, v) :: r1) sT → Step No s1 sT →
        wpAny (model X.P X.w) X.A (testsOf ifs (X.blk scope C).env) (fun ok s5 => ok = (g x).isSome ∧ Step No sT s5 ∧ ∀ y, g x = some y → wpAny (model X.P X.w) X.A (eval elt (X.blk scope C).env) (fun u s6 => Step No sT s6 ∧ Rout y u) (fun _ _ => False) s5) (fun _ _ => False) sT) ∧
      (∀ D s', Step (At X.env y) s1 s' → s1.heap.objs.size ≤ D → RI X ((y, .ref D) :: r1) s' → LsR Rout s'.heap D (xs.filterMap g) → Q .next s')) E s)
    (hsw : swapsWith (.ListComp elt [⟨.Name nm np, iter, ifs, 0⟩] scope pos) (some (.Name y py)) spos.line X.env = pure true) (hs : ∀ x, foldedSetIterable iter X.env x = pure x := by intro _; rfl) :
    wpAny (model X.P X.w) X.A (exec (.Assign [.Name y py] (.ListComp elt [⟨.Name nm np, iter, ifs, 0⟩] scope pos) spos) X.env) Q E s := by
  have ex : ∀ y ∈ scope.names, y.2 = .free → ∃ c, X.env.cells.lookup y.1 = some c := fun y hy e => by
    obtain ⟨c, _, e2, _⟩ := I0.frm.cl y.1 (B0.free y hy e)
    exact ⟨c, e2⟩
  refine Assign_ListComp_goes (cl := cloFrom X.env.cells scope.names []) hsw (closure_ok ex) B0.cell B0.kind (fun y hy e => by rw [B0.uniq y hy, e]) (thn h fun xv s1 ⟨r1, P, I1, hr, hn, src, turn, fin⟩ => src s1 _ _ rfl fun fp Y St s2 st2 hlt W hfp hY hSt => ?_) hs
  refine lc_core B0 ex I1 hr hn (fun C S hC hS => ⟨fun i ys _ => Paired Rout ((xs.take i).filterMap g) ys, fun _ _ => .nil, fun _ _ _ _ o _ => o, fun i v ys sT hi hP IT st _ hO => lcV_turn (turn C) i v ys sT hi hP IT st hO, fun D ys sT a nD hDC inD inC b hpl c => ?_⟩) st2 hlt W hfp hY hSt
  have IT := I1.step0 a
  show wpAny _ _ (assign (.Name y py) X.env (.ref D)) _ _ _
  refine wpAny_assign_Name (r_store IT (.inl hy) fun s3 I3 st3 hsz => ?_)
  have atL : ∀ b, At X.env y b → b = X.env.locals := fun b hb => by
    rcases hb with rfl | ⟨k, _⟩
    · rfl
    · rw [hy] at k; cases k
  have ltL : X.env.locals < s1.heap.objs.size := I1.lt (.inl rfl)
  obtain ⟨m, hn', _⟩ := b.frm.ns
  have nC : ¬ At X.env y C := fun z => absurd (Nat.lt_of_lt_of_le ltL (by rw [← atL C z]; exact hC)) (Nat.lt_irrefl _)
  refine ⟨m, hn'.at' fun o e => st3.keep C o nC e, fun h' sb => ?_⟩
  have st4 : Step (fun b => b = C) s3 { s3 with heap := h' } := .of (tk := s3.toks) (d := s3.drawn) fun x o nx e => sb.extBut x o nx e
  refine fin D _ ?_ nD (I3.step st4 fun x e => by rw [e]; exact I1.new hC) ⟨ys, ?_, (hpl.at fun o e => st3.keep D o (fun z => absurd (Nat.lt_of_lt_of_le ltL (by rw [← atL D z]; exact nD)) (Nat.lt_irrefl _)) e).extBut sb.extBut hDC⟩
  · obtain ⟨g1, t1, d1, e1, k1⟩ := a
    obtain ⟨g2, t2, d2, e2, k2⟩ := st3
    obtain ⟨g3, t3, d3, e3, k3⟩ := st4
    subst e1
    subst e2
    refine .of (tk := t2) (d := d2) fun x o nx e => sb.extBut x o (fun z => ?_) (k2 x o nx (k1 x o (fun z => z) e))
    exact absurd (Nat.lt_of_lt_of_le (Heap.lt_size e) (by rw [z]; exact hC)) (Nat.lt_irrefl _)
  · have c' : Paired Rout ((xs.take xs.length).filterMap g) ys := c
    rw [List.take_length] at c'
    exact c'

/-- .. whose items are values that lean on no heap: at x its value is g x, or x is left out -/
theorem r_lcV {α β : Type} {xs : List α} {g : α → Option β} {Rout : β → Value → Prop} {r0 : List (Str × Value)} {nm : Str} {np pos : Pos} {iter elt : Expr} {ifs : List Expr} {scope : Scope} {Q : Value → Shared → Prop} (I0 : RI X r0 s) (B0 : BlkOk X scope nm)
    (h : wpAny (model X.P X.w) X.A (eval iter X.env) (fun xv s1 => ∃ r1 P, RI X r1 s1 ∧ (∀ x v, r1.lookup x = some v → scope.names.lookup x ≠ some .local) ∧ xs.length ≤ sizeLine ∧ Src X (.Name nm np) xv s1.heap xs.length P ∧
      (∀ C i x v sT, xs[i]? = some x → P i v → RI (X.blk scope C) ((nm, v) :: r1) sT → Step No s1 sT →
        wpAny (model X.P X.w) X.A (testsOf ifs (X.blk scope C).env) (fun ok s5 => ok = (g x).isSome ∧ Step No sT s5 ∧ ∀ y, g x = some y → wpAny (model X.P X.w) X.A (eval elt (X.blk scope C).env) (fun u s6 => Step No sT s6 ∧ Rout y u) (fun _ _ => False) s5) (fun _ _ => False) sT) ∧
      (∀ D s', Step No s1 s' → s1.heap.objs.size ≤ D → LsR Rout s'.heap D (xs.filterMap g) → Q (.ref D) s')) E s)
    (hs : ∀ x, foldedSetIterable iter X.env x = pure x := by intro _; rfl) :
    wpAny (model X.P X.w) X.A (eval (.ListComp elt [⟨.Name nm np, iter, ifs, 0⟩] scope pos) X.env) Q E s := by
  refine r_lc I0 B0 (thn h fun xv s1 ⟨r1, P, I1, hr, hz, src, turn, fin⟩ => ⟨r1, xs.length, P, I1, hr, hz, src, fun C S _ _ => ?_⟩) hs
  refine ⟨fun i ys _ => Paired Rout ((xs.take i).filterMap g) ys, fun _ _ => .nil, fun _ _ _ _ o _ => o, fun i v ys sT hi hP IT st _ hO => lcV_turn (turn C) i v ys sT hi hP IT st hO, fun D ys s' st hD hpl hO => fin D s' st hD ⟨ys, ?_, hpl⟩⟩
  have hO' : Paired Rout ((xs.take xs.length).filterMap g) ys := hO
  rw [List.take_length] at hO'
  exact hO'
end
end K25

set_option Elab.async false
set_option linter.all false
set_option maxRecDepth 100000
set_option maxHeartbeats 4000000
/-! K25, part RM: {k: v, **d} -/
namespace K25
open PySem PySem.Spec PyProof.Rows L2
section
variable {P : Program} {w : World} {κ : Type} [DecidableEq κ] {knd : PySem.KeyKind P w κ} {A : Around} {E : Value → Shared → Prop} {s : Shared}

theorem keyFound {es : Array DictEntry} {l : List (κ × Value)} {x : κ} (hp : Pairs knd es.toList l) (hn : x ∉ l.map (·.1)) : (es.findIdx? fun e => knd.is x e.key) = none := by
  have e1 : (es.findIdx? fun e => knd.is x e.key) = l.findIdx? fun kv => decide (kv.1 = x) := by
    rw [← hp.findIdx x]; obtain ⟨l⟩ := es; simp
  rw [e1, List.findIdx?_eq_none_iff]
  intro kv hkv
  exact decide_eq_false fun z => hn (by rw [← z]; exact List.mem_map.mpr ⟨kv, hkv, rfl⟩)

/-- a new key goes to the end -/
theorem put_new {d : Addr} {l : List (κ × Value)} {x : κ} {key v : Value} {Q : Unit → Shared → Prop} (hkey : knd.is x key = true) (hm : s.heap.DictOf knd d l) (hn : x ∉ l.map (·.1)) (hz : l.length ≤ sizeLine)
    (q : ∀ h', h'.DictOf knd d (l ++ [(x, v)]) → Heap.SameBut d s.heap h' → Q () { s with heap := h' }) : wpAny (model P w) A (dictPut d (knd.hash x) key v) Q E s := by
  obtain ⟨o, es, ep, ho, ex, hd, hk, hp, nd⟩ := hm
  have len := hp.length
  unfold dictPut
  refine wpAny_bind (wpAny_dictFind_of hkey ho hd hk ?_)
  rw [keyFound hp hn]
  have room : es.size ≤ sizeLine := by rw [← Array.length_toList, len]; exact hz
  refine wpAny_updateDictKeys (hz := room) ho hd (q _ ⟨_, _, ep + 1, Heap.get?_update_self _ ho (Obj.isFreed_of_dict (Obj.data_mapDictKeys hd _)), ex.mapDictKeys _, Obj.data_mapDictKeys hd _, hk.push hkey _, ?_, ?_⟩ (.update ..))
  · rw [Array.toList_push]
    exact hp.append hkey _ v
  · rw [List.map_append, List.nodup_append]
    exact ⟨nd, by simp, fun a ha b hb z => hn (by rw [show x = b from (List.mem_singleton.mp hb).symm, ← z]; exact ha)⟩

/-- **m into d, no key of m stands in d -/
theorem merge_new {d m : Addr} {l more : List (κ × Value)} {Q : Unit → Shared → Prop} (dm : d ≠ m) (lo : (m == sysModules) = false) (hd : s.heap.DictOf knd d l) (hne : l ≠ []) (hm : s.heap.DictOf knd m more) (hn : ∀ x ∈ more.map (·.1), x ∉ l.map (·.1))
    (hz : l.length + more.length ≤ sizeLine) (q : ∀ h', h'.DictOf knd d (l ++ more) → Heap.SameBut d s.heap h' → Q () { s with heap := h' }) : wpAny (model P w) A (mergeMapping d (.ref m) false) Q E s := by
  obtain ⟨od, esd, epd, hod, exd, hdd, hkd, hpd, ndd⟩ := id hd
  obtain ⟨om, esm, epm, hom, exm, hdm, hkm, hpm, ndm⟩ := id hm
  have hT : s.TypeIs (.ref m) "dict" := ⟨om, hom, exm.1⟩
  have lenm : esm.size = more.length := by rw [← Array.length_toList, hpm.length]
  unfold mergeMapping
  refine wpAny_bind (wpAny_isInstance hT PySem.F.sub_dict_dict ?_)
  rw [if_pos rfl]
  refine wpAny_bind (wpAny_specialOf hT PySem.F.slot_dict_iter.lookup ?_)
  rw [beq_self_eq_true]
  refine wpAny_bind (wpAny_pure ?_)
  dsimp only
  rw [if_neg (by rw [lo]; exact Bool.false_ne_true)]
  refine wpAny_bind (wpAny_dictEntries hod hdd ?_)
  have full : ¬ esd.isEmpty = true := fun z => by
    have e := hpd.length
    rw [Array.isEmpty_iff.mp z] at e
    exact hne (List.length_eq_zero_iff.mp (by simpa using e.symm))
  rw [if_neg full]
  refine wpAny_bind (wpAny_dictEntries hom hdm ?_)
  refine wpAny_bind (wpAny_dictEpoch hom hdm ?_)
  refine wpAny_bind (wpAny_forIn_list _ (fun rest _ s' => ∃ h' i, s' = { s with heap := h' } ∧ rest = List.range' i (esm.size - i) ∧ i ≤ esm.size ∧ h'.DictOf knd d (l ++ more.take i) ∧ Heap.SameBut d s.heap h') _ ?_ ?_ _ _ ⟨s.heap, 0, rfl, (show List.range esm.size = _ by rw [List.range_eq_range', Nat.sub_zero]), Nat.zero_le _, by simpa using hd, .refl _ _⟩)
  · rintro i rest _ s' ⟨h', j, rfl, hr, hj, hd', sb⟩
    have hlt : j < esm.size := by
      rcases Nat.lt_or_ge j esm.size with z | z
      · exact z
      · rw [Nat.sub_eq_zero_of_le z] at hr; cases hr
    have e : esm.size - j = (esm.size - (j + 1)) + 1 := by omega
    rw [e, List.range'_succ] at hr
    obtain ⟨rfl, hrest⟩ := List.cons.inj hr
    have hom' : h'.get? m = some om := (sb.2 m dm.symm).trans hom
    refine wpAny_bind (wpAny_dictEntries hom' hdm ?_)
    rw [Array.getElem?_eq_getElem hlt]
    have hi : more[i]? = some (more[i]'(by omega)) := List.getElem?_eq_getElem _
    generalize more[i]'(by omega) = kv at hi
    obtain ⟨x, v⟩ := kv
    obtain ⟨hkey, hval⟩ := hpm.get? (e := esm[i]) (by simp [hlt]) hi
    obtain ⟨x', hkey', hhash⟩ := hkm esm[i] (Array.getElem_mem hlt)
    obtain rfl : x' = x := knd.inj _ _ _ hkey' hkey
    have tk : more.take (i + 1) = more.take i ++ [(x', v)] := by rw [List.take_add_one, hi]; rfl
    have fresh : x' ∉ (l ++ more.take i).map (·.1) := fun z => by
      rw [List.map_append] at z
      rcases List.mem_append.mp z with z | z
      · exact hn x' (List.mem_map.mpr ⟨_, List.mem_of_getElem? hi, rfl⟩) z
      · have nd2 : ((more.take (i + 1)).map (·.1)).Nodup := ndm.sublist ((List.take_sublist _ _).map _)
        rw [tk, List.map_append, List.nodup_append] at nd2
        exact nd2.2.2 _ z _ (.head _) rfl
    refine wpAny_bind (wpAny_holding ?_)
    show wpAny _ _ (dictPut d esm[i].hash esm[i].key esm[i].val) _ _ _
    rw [hhash, hval]
    refine put_new hkey hd' fresh (by rw [List.length_append, List.length_take]; omega) fun h2 hd2 sb2 => ?_
    have hom2 : h2.get? m = some om := (sb2.2 m dm.symm).trans hom'
    refine wpAny_bind (wpAny_dictEpoch hom2 hdm ?_)
    rw [if_neg (by simp)]
    exact wpAny_pure ⟨h2, i + 1, rfl, hrest, hlt, by rw [tk, ← List.append_assoc]; exact hd2, sb.trans sb2⟩
  · rintro _ s' ⟨h', j, rfl, hr, hj, hd', sb⟩
    have hj' : j = esm.size := by
      rcases Nat.lt_or_ge j esm.size with z | z
      · have e : esm.size - j = (esm.size - (j + 1)) + 1 := by omega
        rw [e, List.range'_succ] at hr
        cases hr
      · exact Nat.le_antisymm hj z
    refine wpAny_pure (q h' ?_ sb)
    rw [hj', lenm, List.take_length] at hd'
    exact hd'
theorem display_star {kS vS cS : Sem Value} {Q : Value → Shared → Prop}
    (h : wpAny (model P w) A (subDict [(kS, vS)]) (fun d s1 => wpAny (model P w) A cS (fun m s2 => wpAny (model P w) A (mergeMapping d m false) (fun _ s3 => Q (.ref d) s3) (fun _ _ => False) s2) E s1) E s) : wpAny (model P w) A (dictDisplay [(some kS, vS), (none, cS)]) Q E s := by
  unfold dictDisplay
  simp only [List.forIn_cons, List.forIn_nil, List.nil_append, List.length_cons, List.length_nil, pure_bind, bind_assoc, List.isEmpty_cons, List.isEmpty_nil, if_true, Bool.false_eq_true, if_false, Nat.zero_add]
  rw [if_neg (by decide), pure_bind]
  dsimp only
  simp only [List.isEmpty_cons, Bool.false_eq_true, if_false, bind_assoc, pure_bind]
  refine wpAny_bind (thn h fun d s1 h1 => ?_)
  refine wpAny_bind (wpAny_holding (thn h1 fun m s2 h2 => ?_))
  refine wpAny_bind (wpAny_onRaise (wpAny_tryCatch (wpAny_onRaise (wpAny_holding (wpAny_mono h2 (fun _ s3 q => ?_) fun _ _ z => z.elim)))))
  exact wpAny_pure q
end
end K25

set_option Elab.async false
set_option linter.all false
set_option maxRecDepth 100000
set_option maxHeartbeats 4000000
/-! K25, part RE: sorted(set(xs)) of a list of texts -/
namespace K25
open PySem PySem.Spec PyProof.Rows L2 PySem.Froz

/-- the payload of a set that holds the texts l, its table as one that was only added to -/
structure PayT (P : Program) (w : World) (D : SD) (l : List Str) : Prop where
  ok : TxOk P w D l
  ris : Ris D.2.2.place.toList
  led : w.params.followText "set-order" = true ∨ D.2.2.led = true
def SetT (P : Program) (w : World) (h : Heap) (a : Addr) (l : List Str) : Prop := ∃ D, h.get? a = some (sObj "set" D) ∧ PayT P w D l
section
variable {P : Program} {w : World} {A : Around} {E : Value → Shared → Prop} {s : Shared} {a : Addr} {l : List Str} {k : Str}

theorem addTx_place (hsh : Int) (v : Value) (D : SD) (r : Ris D.2.2.place.toList) : Ris (addTx hsh v D).2.2.place.toList ∧ (addTx hsh v D).2.2.led = D.2.2.led := by
  have r1 := layNew_ris D.2.2 D.1 hsh v r
  have e1 := layNew_led D.2.2 D.1 hsh v
  unfold addTx
  generalize layNew D.2.2 D.1 hsh v = Z at r1 e1 ⊢
  have both : ∀ t : SetTable, (t = Z.2.1 ∨ t = { Z.2.1 with plain := false }) → Ris (tailTx D.2.1 Z.1 t Z.2.2.1).2.2.place.toList ∧ (tailTx D.2.1 Z.1 t Z.2.2.1).2.2.led = D.2.2.led := by
    intro t ht
    have hp : t.place = Z.2.1.place ∧ t.led = Z.2.1.led := by rcases ht with rfl | rfl <;> exact ⟨rfl, rfl⟩
    unfold tailTx
    split
    · exact ⟨relayAll_ris _ _ _, (relayAll_led _ _ _).trans (hp.2.trans e1)⟩
    · exact ⟨by rw [hp.1]; exact r1, hp.2.trans e1⟩
  split
  · exact both _ (.inr rfl)
  · exact both _ (.inl rfl)

/-- one text more -/
theorem setT_add {u : Tok} {Q : Bool → Shared → Prop} (R : SetT P w s.heap a l) (room : l.length + 1 < scanBound)
    (q : ∀ b h', Heap.SameBut a s.heap h' → SetT P w h' a (if k ∈ l then l else k :: l) → Q b { s with heap := h' }) : wpAny (model P w) A (setAddHashed a (.str k u) (hashStr w k)) Q E s := by
  obtain ⟨D, ho, ok, rr, ll⟩ := R
  by_cases hk : k ∈ l
  · rw [if_pos hk] at q
    have hd : (sObj "set" D).data = .set D.1 D.2.1 D.2.2 := rfl
    have big : D.1.size < scanBound := by rw [ok.sz]; omega
    unfold setAddHashed setAddHashedIn
    refine wpAny_holding (wpAny_bind (wpAny_setState_of ho hd ok.fit ?_))
    simp only [byScan_of (knd := strKind P w) (x := Value.str k u) rfl big ok.el, if_true]
    unfold setAddByScan
    refine wpAny_bind (wpAny_bind (wpAny_rule (wpAny_bind (wpAny_setScan_of (knd := strKind P w) (k := k) (is_str k u) ho hd ok.fit ok.el ?_))))
    obtain ⟨e, he, hq⟩ := (ok.mem k).mp hk
    cases hf : List.findIdx? (fun e => (strKind P w).is k e.2) D.1.toList with
    | none =>
      have c := List.findIdx?_eq_none_iff.mp hf e he
      rw [hq] at c
      cases c
    | some j => exact wpAny_pure (wpAny_pure (q _ s.heap (.refl a s.heap) ⟨D, ho, ok, rr, ll⟩))
  · rw [if_neg hk] at q
    obtain ⟨r2, l2⟩ := addTx_place (hashStr w k) (.str k u) D rr
    refine add_x ho ok hk room (q _ _ (.update _ _ _) ⟨_, ?_, add_ok u ok, r2, ll.imp id fun z => l2.trans z⟩)
    exact Heap.get?_update_self _ ho rfl
theorem SetT.at {h h' : Heap} (R : SetT P w h a l) (k : ∀ o, h.get? a = some o → h'.get? a = some o) : SetT P w h' a l := by
  obtain ⟨D, ho, r⟩ := R
  exact ⟨D, k _ ho, r⟩

/-- the texts xs are put in, one by one -/
theorem setT_loop {I S : Addr} {fp wr : List Addr} {G : Array GenState → Array GenState → Prop} {n : Nat} {Pv : Nat → Value → Prop} {St : Nat → Shared → Prop} {R : Result → Shared → Prop} (W : WalksS P w A.in1 I fp wr G n Pv St) (far : S ∉ fp) (xs : List Str) (hn : n = xs.length)
    (room : xs.length + 1 < scanBound) (val : ∀ i v, Pv i v → ∃ x, xs[i]? = some x ∧ Tx x v) : ∀ (left i : Nat) (s : Shared) (l : List Str), n = i + left → St i s → l.Nodup → (∀ x, x ∈ l ↔ x ∈ xs.take i) → l.length ≤ i → SetT P w s.heap S l →
      (∀ s' l', Moved (S :: wr) G s s' → l'.Nodup → (∀ x, x ∈ l' ↔ x ∈ xs) → SetT P w s'.heap S l' → R (.ok (.ret .none)) s') → codeAny (model P w) A (.builtin "set.update.loop" ⟨[.ref S, .ref I], []⟩) R s := by
  have farW : S ∉ wr := fun z => far (W.sub _ z)
  have more : ∀ b ∈ wr, b ∈ S :: wr := fun _ z => .tail _ z
  intro left
  induction left with
  | zero =>
    intro i s l hi hst nd mem _ hS fin
    have hi' : n = i := by omega
    subst hi'
    refine codeAny_builtin F.entry_set_update_loop ?_
    rw [Around.under_plainId F.plain_set_update_loop _]
    show wpAny _ A.in1 (pyNext (.ref I) >>= _) _ _ s
    refine wpAny_bind (W.done s _ _ hst fun s' hm => wpAny_pure ?_)
    exact fin s' l (hm.mono more) nd (fun x => by rw [mem x, hn, List.take_length]) (hS.at fun o e => hm.heap S o farW e)
  | succ left ih =>
    intro i s l hi hst nd mem len hS fin
    refine codeAny_builtin F.entry_set_update_loop ?_
    rw [Around.under_plainId F.plain_set_update_loop _]
    show wpAny _ A.in1 (pyNext (.ref I) >>= _) _ _ s
    refine wpAny_bind (W.item i s _ _ (by omega) hst fun v s' hP hst' hm => ?_)
    obtain ⟨x, hx, u, rfl⟩ := val i v hP
    have hS' := hS.at (h' := s'.heap) fun o e => hm.heap S o farW e
    show wpAny _ A.in1 (holding [Value.str x u] (setAdd S (.str x u)) >>= _) _ _ s'
    refine wpAny_bind (wpAny_holding ?_)
    unfold setAdd
    refine wpAny_holding (wpAny_bind ((strKind P w).pyHash (k := x) (is_str x u) ?_))
    refine setT_add (s := { s' with toks := s'.toks + 1 }) hS' (by omega) fun b h' sb hS2 => ?_
    have tk : xs.take (i + 1) = xs.take i ++ [x] := by rw [List.take_add_one, hx]; rfl
    refine wpAny_pure ⟨plainId_quiet F.plain_set_update_loop _, ih (i + 1) _ _ (by omega) (W.frame _ s' _ _ hst' (Nat.le_succ _) fun c hc o e => ?_) ?_ (fun y => ?_) ?_ hS2 fun s'' l'' hm'' => fin s'' l'' (Moved.trans W.gtrans ((hm.mono more).then_heap (Nat.le_succ _) fun c o hc e => ?_) hm'')⟩
    · exact (sb.2 c fun z => far (z ▸ hc)).trans e
    · split
      · exact nd
      · exact List.nodup_cons.mpr ⟨by assumption, nd⟩
    · rw [tk, List.mem_append, List.mem_singleton]
      split
      · next hk => exact (mem y).trans ⟨.inl, fun z => z.elim id fun z => by rw [z]; exact (mem x).mp hk⟩
      · rw [List.mem_cons, mem y]; exact Or.comm
    · split
      · omega
      · rw [List.length_cons]; omega
    · exact (sb.2 c fun z => hc (z ▸ .head _)).trans e

set_option maxRecDepth 100000 in
/-- set(xs), xs a list of texts -/
theorem call_setT {la : Addr} {xs : List Str} {Q : Value → Shared → Prop} (hh : A.handled = none) (L : TxL s.heap la xs) (room : xs.length + 1 < scanBound)
    (q : ∀ s' l', Step No s s' → l'.Nodup → (∀ x, x ∈ l' ↔ x ∈ xs) → SetT P w s'.heap s.heap.objs.size l' → Q (.ref s.heap.objs.size) s') : wpAny (model P w) A (call (.type "set") [.ref la]) Q E s := by
  obtain ⟨its, pr, pl⟩ := L
  have hl := pl.isList
  have nlen := pr.length
  obtain ⟨c0, c1, mro⟩ := PySem.F.called_set.mro
  have hmade := PySem.F.called_set.made
  have hsub := PySem.F.called_set.sub
  have nt := PySem.F.called_set.notType
  have cc := PySem.F.called_set.canCreate
  have ct := PySem.F.typeCall_set_1 (.ref la)
  refine wpAny_call (codeAny_of_tree ?_)
  show wpAny _ _ (callAny (.type "set") ⟨[.ref la], []⟩) _ _ _
  refine wpAny_pure ⟨Code.quiet_builtin _ (by decide +kernel), codeAny_builtin PySem.F.entry_type_call ?_⟩
  rw [Around.under_plain (weight_type_call_type "set" [.ref la] []) rfl]
  repeat (any_goals (first | assumption | wp_step))
  have hcode := code_set_led1 (P := P) (w := w) (A := A.in1) (E := E) (s := s) (.ref la) (Q₁ := fun obj s₁ => obj = .ref s.heap.objs.size ∧ s₁ = { s with heap := s.heap.push ({ cls := .type "set", dict := none, data := .set #[] 0 (.fresh 0 0 (!w.params.followText "set-order")) } : Obj) }) ⟨rfl, rfl⟩
  refine codeAny_mono hcode fun r s₁ hr => ?_
  cases r with
  | error e => exact hr
  | ok fl =>
    cases fl with
    | ret obj =>
      obtain ⟨rfl, rfl⟩ := hr
      have h0 : (s.heap.push ({ cls := .type "set", dict := none, data := .set #[] 0 (.fresh 0 0 (!w.params.followText "set-order")) } : Obj)).get? s.heap.objs.size = some ({ cls := .type "set", dict := none, data := .set #[] 0 (.fresh 0 0 (!w.params.followText "set-order")) } : Obj) := Heap.get?_push_size _ rfl
      have hT : Shared.TypeIs { s with heap := s.heap.push ({ cls := .type "set", dict := none, data := .set #[] 0 (.fresh 0 0 (!w.params.followText "set-order")) } : Obj) } (.ref s.heap.objs.size) "set" := ⟨_, h0, rfl⟩
      have hli := PySem.F.called_set.init.lookup
      have hbi := PySem.F.called_set.init.bind (.ref s.heap.objs.size)
      repeat (any_goals (first | assumption | wp_step))
      refine codeAny_mono (codeAny_call_builtin (R := wants (fun r s₂ => r = .none ∧ Q (.ref s.heap.objs.size) s₂) E) PySem.F.called_set.init.plain PySem.F.entry_set_init (check_set_init_1 hT ?_)) fun r₂ s₂ hr₂ => ?_
      · have hl1 : (s.heap.push ({ cls := .type "set", dict := none, data := .set #[] 0 (.fresh 0 0 (!w.params.followText "set-order")) } : Obj)).IsList la its.toArray := hl.push _
        obtain ⟨ol, hol, hcl, nl, hdl⟩ := id hl
        obtain ⟨ocls, odict, odata, oslots⟩ := ol
        simp only at hcl hdl
        subst hcl; subst hdl
        have hol' : (s.heap.push ({ cls := .type "set", dict := none, data := .set #[] 0 (.fresh 0 0 (!w.params.followText "set-order")) } : Obj)).get? la = some { cls := .type "list", dict := odict, data := .seq its.toArray nl, slots := oslots } := Heap.get?_push_of_some _ hol
        have f1 := PySem.F.sub_list_set
        have f2 := PySem.F.sub_list_frozenset
        have f3 : (Value.type "list" == Value.type "dict") = false := by decide
        unfold Builtin.«set.__init__» noKeywords Builtin.Frozenset.updateFrom
        generalize hPI : pyIter = PI
        wp_walk
        subst hPI
        refine wpAny_pyIter_list hl1 ?_
        refine wpAny_bind (wpAny_runValue ?_)
        have ltl : la < s.heap.objs.size := Heap.lt_size hol
        have sz1 : (s.heap.push ({ cls := .type "set", dict := none, data := .set #[] 0 (.fresh 0 0 (!w.params.followText "set-order")) } : Obj)).objs.size = s.heap.objs.size + 1 := Heap.size_push ..
        have far : s.heap.objs.size ∉ [(s.heap.push ({ cls := .type "set", dict := none, data := .set #[] 0 (.fresh 0 0 (!w.params.followText "set-order")) } : Obj)).objs.size, la] := fun z => by
          rcases List.mem_cons.mp z with z | z
          · rw [sz1] at z; exact absurd z (Nat.ne_of_lt (Nat.lt_succ_self _))
          · exact absurd (List.mem_singleton.mp z) (Nat.ne_of_gt ltl)
        refine setT_loop ((Walks.list (A := A.in1.in1.in1) (by simp [hh]) _ la (by rw [sz1]; exact Nat.ne_of_lt (Nat.lt_succ_of_lt ltl)) its.toArray).toS) far xs (by simpa using nlen.symm) room (fun i v hv => paired_get i pr (by simpa using hv)) its.toArray.size 0 _ [] (by simp)
          ⟨⟨_, Heap.get?_push_size _ rfl, rfl, rfl⟩, hl1.push _⟩ List.nodup_nil (fun x => by simp) (Nat.le_refl _) ?_ fun s' l' hm nd mem hS => ?_
        · refine ⟨(#[], 0, .fresh 0 0 (!w.params.followText "set-order")), ?_, .nil rfl, .nil, ?_⟩
          · exact Heap.get?_push_of_some _ h0
          · show _ ∨ (!w.params.followText "set-order") = true
            cases w.params.followText "set-order"
            · exact .inr rfl
            · exact .inl rfl
        · obtain ⟨h', g2, d', tk', os'⟩ := s'
          have eg : g2 = s.gens := hm.gens
          have ed : d' = s.drawn := hm.drawn
          have eo : os' = s.os := hm.os
          subst eg; subst ed; subst eo
          refine wpAny_pure ?_
          show wpAny _ _ (ret Value.none) _ _ _
          refine wpAny_pure ⟨rfl, q _ l' (.ofK (d := s.drawn) fun b o e => ?_) nd mem hS⟩
          have lb : b < s.heap.objs.size := Heap.lt_size e
          refine hm.heap b o (fun z => ?_) (Heap.get?_push_of_some _ (Heap.get?_push_of_some _ e))
          rcases List.mem_cons.mp z with z | z
          · exact absurd z (Nat.ne_of_lt lb)
          · have z := List.mem_singleton.mp z
            rw [sz1] at z
            exact absurd z (Nat.ne_of_lt (Nat.lt_succ_of_lt lb))
      · cases r₂ with
        | error e => exact hr₂
        | ok fl₂ =>
          cases fl₂ with
          | ret r =>
            obtain ⟨rfl, hq⟩ := hr₂
            repeat (any_goals (first | assumption | wp_step))
          | _ => exact hr₂.elim
    | _ => exact hr.elim
end
end K25

set_option Elab.async false
set_option linter.all false
set_option maxRecDepth 100000
/-! K25, part MA: the order of texts, sorted lists without doubles -/
namespace K25
open PySem
abbrev Str := PySem.Str
def tle (a b : Str) : Bool := decide (a.cps.toList ≤ b.cps.toList)
def tlt (a b : Str) : Prop := a.cps.toList < b.cps.toList
theorem str_ext {a b : Str} (h : a.cps.toList = b.cps.toList) : a = b := by
  cases a; cases b
  have : (_ : Array Nat) = _ := Array.toList_inj.mp h
  simp only at this
  rw [this]
theorem tle_trans (a b c : Str) (h : tle a b = true) (h' : tle b c = true) : tle a c = true :=
  decide_eq_true (List.le_trans (of_decide_eq_true h) (of_decide_eq_true h'))
theorem tle_total (a b : Str) : (tle a b || tle b a) = true := by
  rcases List.le_total a.cps.toList b.cps.toList with h | h
  · rw [Bool.or_eq_true]; exact .inl (decide_eq_true h)
  · rw [Bool.or_eq_true]; exact .inr (decide_eq_true h)
theorem tlt_irrefl (a : Str) : ¬ tlt a a := List.lt_irrefl _
theorem tlt_trans {a b c : Str} (h : tlt a b) (h' : tlt b c) : tlt a c := List.lt_trans h h'
theorem tlt_of {a b : Str} (h : tle a b = true) (n : a ≠ b) : tlt a b := by
  have h1 : a.cps.toList ≤ b.cps.toList := of_decide_eq_true h
  rcases Classical.em (tlt a b) with z | z
  · exact z
  · exact absurd (str_ext (List.le_antisymm h1 (List.not_lt.mp z))) n
/-- sorted, no doubles -/
abbrev Up (l : List Str) : Prop := l.Pairwise tlt
theorem up_nodup {l : List Str} (u : Up l) : l.Nodup := List.Pairwise.imp (S := fun a b => a ≠ b) (fun {a b} (h : tlt a b) (e : a = b) => by rw [← e] at h; exact tlt_irrefl a h) u
theorem up_unique : ∀ {l l' : List Str}, Up l → Up l' → (∀ x, x ∈ l ↔ x ∈ l') → l = l'
  | [], [], _, _, _ => rfl
  | [], b :: t, _, _, h => absurd ((h b).mpr (.head _)) (by simp)
  | a :: r, [], _, _, h => absurd ((h a).mp (.head _)) (by simp)
  | a :: r, b :: t, u, u', h => by
    obtain ⟨u1, u2⟩ := List.pairwise_cons.mp u
    obtain ⟨v1, v2⟩ := List.pairwise_cons.mp u'
    have e : a = b := by
      rcases List.mem_cons.mp ((h a).mp (.head _)) with z | z
      · exact z
      · rcases List.mem_cons.mp ((h b).mpr (.head _)) with y | y
        · exact y.symm
        · exact absurd (tlt_trans (v1 a z) (u1 b y)) (tlt_irrefl b)
    subst e
    rw [up_unique u2 v2 fun x => ?_]
    constructor
    · intro hx
      rcases List.mem_cons.mp ((h x).mp (.tail _ hx)) with z | z
      · exact absurd (by rw [z] at hx; exact u1 a hx) (tlt_irrefl a)
      · exact z
    · intro hx
      rcases List.mem_cons.mp ((h x).mpr (.tail _ hx)) with z | z
      · exact absurd (by rw [z] at hx; exact v1 a hx) (tlt_irrefl a)
      · exact z
/-- sorted(set(xs)) -/
def srt (xs : List Str) : List Str := xs.eraseDups.mergeSort tle
theorem up_sort {l : List Str} (nd : l.Nodup) : Up (l.mergeSort tle) := by
  have h1 : (l.mergeSort tle).Pairwise fun a b => tle a b = true := List.pairwise_mergeSort tle_trans tle_total l
  have h2 : (l.mergeSort tle).Nodup := (List.mergeSort_perm l tle).nodup_iff.mpr nd
  exact List.Pairwise.imp₂ (fun a b h n => tlt_of h n) h1 h2
theorem mem_sort {l : List Str} {x : Str} : x ∈ l.mergeSort tle ↔ x ∈ l := (List.mergeSort_perm l tle).mem_iff
theorem nodup_dups : ∀ (n : Nat) (l : List Str), l.length ≤ n → l.eraseDups.Nodup
  | _, [], _ => by simp
  | 0, _ :: _, h => by simp at h
  | n + 1, a :: l, h => by
    rw [List.eraseDups_cons]
    refine List.nodup_cons.mpr ⟨fun z => ?_, nodup_dups n _ ?_⟩
    · have := List.mem_eraseDups.mp z
      simp at this
    · exact Nat.le_trans (List.length_filter_le _ _) (Nat.le_of_succ_le_succ h)
theorem srt_up (xs : List Str) : Up (srt xs) := up_sort (nodup_dups _ xs (Nat.le_refl _))
theorem mem_srt {xs : List Str} {x : Str} : x ∈ srt xs ↔ x ∈ xs := by
  unfold srt
  rw [mem_sort, List.mem_eraseDups]
/-- any sorted list without doubles that has the same texts -/
theorem srt_eq {xs ys : List Str} (u : Up ys) (h : ∀ x, x ∈ ys ↔ x ∈ xs) : ys = srt xs := up_unique u (srt_up xs) fun x => (h x).trans mem_srt.symm
end K25

set_option Elab.async false
set_option linter.all false
set_option maxRecDepth 100000
set_option maxHeartbeats 4000000
/-! K25, part RF: sorted of a set of texts -/
namespace K25
open PySem PySem.Spec PyProof.Rows L2 PySem.Froz
section
variable {P : Program} {w : World} {A : Around} {E : Value → Shared → Prop} {s : Shared} {a : Addr} {l : List PySem.Str}

theorem perm_of : ∀ {l m : List PySem.Str}, l.Nodup → (∀ x, x ∈ l → x ∈ m) → m.length ≤ l.length → m.Perm l
  | [], m, _, _, h => by
    rw [List.eq_nil_of_length_eq_zero (Nat.le_zero.mp h)]
  | a :: r, m, nd, i, h => by
    obtain ⟨n1, n2⟩ := List.nodup_cons.mp nd
    have am := i a (.head _)
    refine (List.perm_cons_erase am).trans (.cons a (perm_of n2 (fun x hx => ?_) ?_))
    · exact (List.mem_erase_of_ne (fun z : x = a => n1 (by rw [← z]; exact hx))).mpr (i x (.tail _ hx))
    · rw [List.length_erase_of_mem am]
      rw [List.length_cons] at h
      omega
theorem len_of : ∀ {l m : List PySem.Str}, l.Nodup → (∀ x, x ∈ l → x ∈ m) → l.length ≤ m.length
  | [], m, _, _ => Nat.zero_le _
  | a :: r, m, nd, i => by
    obtain ⟨n1, n2⟩ := List.nodup_cons.mp nd
    have am := i a (.head _)
    have := len_of n2 (m := m.erase a) fun x hx => (List.mem_erase_of_ne (fun z : x = a => n1 (by rw [← z]; exact hx))).mpr (i x (.tail _ hx))
    have e := List.length_erase_of_mem am
    have p : 0 < m.length := List.length_pos_of_mem am
    rw [List.length_cons]
    omega
def txOf : Value → PySem.Str
  | .str x _ => x
  | _ => Str.empty
theorem pay_texts {D : SD} (p : PayT P w D l) {vs : List Value} (pm : vs.Perm (D.1.toList.map (·.2))) (nd : l.Nodup) : Paired Tx (vs.map txOf) vs ∧ (vs.map txOf).Perm l := by
  have each : ∀ v ∈ vs, Tx (txOf v) v := fun v hv => by
    obtain ⟨e, he, rfl⟩ := List.mem_map.mp (pm.mem_iff.mp hv)
    obtain ⟨⟨k, hk, _⟩, _⟩ := p.ok.el e he
    obtain ⟨t, e2⟩ : ∃ t, e.2 = .str k t := by
      have hk' : Value.isStrOf k e.2 = true := hk
      obtain ⟨t, e3⟩ := Value.isStrOf_shape hk'
      exact ⟨t, e3⟩
    rw [e2]
    exact ⟨t, rfl⟩
  have pr : ∀ us : List Value, (∀ v ∈ us, Tx (txOf v) v) → Paired Tx (us.map txOf) us := by
    intro us
    induction us with
    | nil => intro _; exact .nil
    | cons v us ih => intro h; exact .cons (h v (.head _)) (ih fun x hx => h x (.tail _ hx))
  refine ⟨pr vs each, ?_⟩
  have memL : ∀ x, x ∈ l → x ∈ vs.map txOf := fun x hx => by
    obtain ⟨e, he, hq⟩ := (p.ok.mem x).mp hx
    have hq' : Value.isStrOf x e.2 = true := hq
    obtain ⟨t, e3⟩ := Value.isStrOf_shape hq'
    exact List.mem_map.mpr ⟨e.2, pm.mem_iff.mpr (List.mem_map.mpr ⟨e, he, rfl⟩), by rw [e3]; rfl⟩
  have len : (vs.map txOf).length = l.length := by rw [List.length_map, pm.length_eq, List.length_map, Array.length_toList]; exact p.ok.sz
  exact perm_of nd memL (by omega)

theorem sorted_setT {Q : Value → Shared → Prop} (R : SetT P w s.heap a l) (nd : l.Nodup) (hh : A.handled = none) (hu : A.units + 10 < cLine) (room : l.length + 1 < scanBound)
    (q : ∀ s' p ys, Step No s s' → s.heap.objs.size ≤ p → TxL s'.heap p ys → Up ys → (∀ x, x ∈ ys ↔ x ∈ l) → Q (.ref p) s') : wpAny (model P w) A (call (.builtin "sorted") [.ref a]) Q E s := by
  obtain ⟨D, ho, p⟩ := R
  have big : D.1.size < scanBound := by rw [p.ok.sz]; omega
  refine Calls.call_function_entry kind_sorted plain_sorted entry_sorted (args_sorted1 _) ?_
  unfold Builtin.«sorted»
  refine wpAny_bind (m := checkCount "sorted" 1 1 _) (wpAny_pure ?_)
  refine wpAny_bind (collect_set (A := A.in1) hh ⟨_, ho, rfl, rfl⟩ p.ok.fit big p.ris p.led fun s1 vs k1 hz g1 o1 pm => ?_)
  obtain ⟨pr, pl⟩ := pay_texts p pm nd
  have vlen : vs.length = l.length := by rw [← pl.length_eq, List.length_map]
  have fits : vs.length ≤ sizeLine := by
    rw [vlen]
    have : scanBound ≤ sizeLine := by decide
    omega
  refine wpAny_bind (wpAny_newList ?_ fits)
  have hoL : (s1.heap.push (seqObj "list" vs.toArray 0)).get? s1.heap.objs.size = some (seqObj "list" vs.toArray 0) := Heap.get?_push_size _ rfl
  have toE : ∀ {xs : List PySem.Str} {us : List Value}, Paired Tx xs us → PySem.W.EachIs (fun v b => Tx b v) us xs := fun h => by
    induction h with
    | nil => exact .nil
    | cons r _ ih => exact .cons r ih
  have ofE : ∀ {xs : List PySem.Str} {us : List Value}, PySem.W.EachIs (fun v b => Tx b v) us xs → Paired Tx xs us := fun h => by
    induction h with
    | nil => exact .nil
    | cons r _ ih => exact .cons r ih
  refine wpAny_bind (wpAny_holding (PySem.W.list_sort_data (enc := fun b => PyData.str b) (R := fun v b => Tx b v) (bs := vs.map txOf) hoL (toE pr) ((toE pr).mono fun v b ⟨t, e⟩ => ⟨[], by rw [e]; exact .str b t, by simp⟩) ?_ ?_ ?_ ?_ fun out ol oe => ?_))
  · intro d hd d' hd'
    obtain ⟨x, _, rfl⟩ := List.mem_map.mp hd
    obtain ⟨y, _, rfl⟩ := List.mem_map.mp hd'
    rfl
  · refine .inr fun d hd => ?_
    obtain ⟨x, _, rfl⟩ := List.mem_map.mp hd
    exact (⟨fun z => (nomatch z), fun _ z => (nomatch z)⟩ : PyData.str x ≠ PyData.none ∧ ∀ xs, PyData.str x ≠ PyData.tuple xs)
  · rw [List.length_map]; exact fits
  · intro x _
    show A.units + 1 + 1 + 0 < cLine
    omega
  · obtain ⟨c, hc⟩ := sortedHeap_at (vs := vs) (out := out.toArray) hoL
    rw [PySem.W.dataLe_str] at oe
    refine wpAny_pure ⟨_, rfl, q _ s1.heap.objs.size ((vs.map txOf).mergeSort tle) ?_ hz ⟨out, ofE oe, c, hc⟩ (up_sort (pl.nodup_iff.mpr nd)) fun x => by rw [mem_sort, pl.mem_iff]⟩
    obtain ⟨h1, g2, d1, t1, os1⟩ := s1
    have eg : g2 = s.gens := g1
    have eo : os1 = s.os := o1
    subst eg; subst eo
    refine .ofK (d := d1) (tk := t1) fun b o e => ?_
    have e1 := k1 b o e
    have lt := Heap.lt_size e1
    show (sortedHeap (h1.push (seqObj "list" vs.toArray 0)) h1.objs.size vs out.toArray).get? b = some o
    rw [sortedHeap_old (Nat.ne_of_lt lt) (by rw [size_push']; exact Nat.lt_succ_of_lt lt)]
    exact Heap.get?_push_of_some _ e1
end
end K25

set_option Elab.async false
set_option linter.all false
set_option maxRecDepth 100000
set_option maxHeartbeats 4000000
/-! K25, part RG: the small methods of Choices, over the bare heap -/
namespace K25
open PySem PySem.Spec PyProof.Rows L2
def top (i : Nat) : Stmt := PySem.Challenge.pw_movegrants_k25_whole_ways_in_order.main.body.getD i (.Pass ⟨0, 0, 0, 0⟩)
abbrev meth (j : Nat) : Stmt := inClass (top 31) j
theorem scContains : FnScope ["self", "value"] ["self", "value"] (defScope (meth 2)) := ⟨rfl, rfl, rfl, by decide +kernel, rfl, by decide +kernel, by decide +kernel⟩
theorem scNodes : FnScope ["self"] ["self"] (defScope (meth 7)) := ⟨rfl, rfl, rfl, by decide +kernel, rfl, by decide +kernel, by decide +kernel⟩
theorem scReq : FnScope ["self", "value"] ["self", "value"] (defScope (meth 8)) := ⟨rfl, rfl, rfl, by decide +kernel, rfl, by decide +kernel, by decide +kernel⟩
theorem scOpt : FnScope ["self", "node"] ["self", "node"] (defScope (meth 9)) := ⟨rfl, rfl, rfl, by decide +kernel, rfl, by decide +kernel, by decide +kernel⟩
theorem scPar : FnScope ["self", "node"] ["self", "node"] (defScope (meth 10)) := ⟨rfl, rfl, rfl, by decide +kernel, rfl, by decide +kernel, by decide +kernel⟩

section
variable {P : Program} {w : World} {K : PySem.W.Frag} {mg : PySem.Str → Option Value} {base : Heap} {k : Nat} {f C : Addr} {fd : FuncData}

theorem rf_contains (F : Fun K "__contains__" "Choices.__contains__" (meth 2) f fd) (mod : L2.Mod K mg base) (mi : mg "isinstance" = none) (ms : mg "str" = none) (c : Cls K C) (na : NoAttr K C "own_options") (T : Tbl) (x : PySem.Str) :
    RFn P w base (k + 1) f fd ["self", "value"] (fun us h => ∃ a v, us = [.ref a, v] ∧ Cho P w C h a T ∧ Tx x v) (fun _ _ _ r => r = .bool (T.lookup x).isSome) := by
  refine rfn F scContains mod fun cdv A s us s1 hr hl hp st ow I => ?_
  obtain ⟨a, v, rfl, hC, hx⟩ := hp
  refine wpAny_execs_cons (wpAny_Return_some (BoolOp_and ?_))
  refine r_callB I mi rfl (r_arg2 (r_name I rfl (r_blt I ms rfl (r_isStr hx ?_))))
  refine wpAny_truthy_bool ?_
  show wpAny _ _ _ _ _ _
  refine BoolOp_one (r_cmp (r_name I rfl ?_))
  obtain ⟨dx, mA, d, O, h1, h2, D⟩ := (hC.keep st.keep0).ex
  refine r_fld I rfl O c na h1 rfl ?_
  refine r_din (X := ⟨P, w, K, mg, base, _, _⟩) D hx ⟨st.any.trans (.ofK (Keep.refl _)), _, .inl rfl, rfl⟩
theorem rf_nodes (F : Fun K "nodes" "Choices.nodes" (meth 7) f fd) (mod : L2.Mod K mg base) (ml : mg "list" = none) (c : Cls K C) (na : NoAttr K C "own_options") (T : Tbl) :
    RFn P w base (k + 1) f fd ["self"] (fun us h => ∃ a, us = [.ref a] ∧ Cho P w C h a T) (fun _ h h' r => ∃ l, r = .ref l ∧ h.objs.size ≤ l ∧ TxL h' l (T.map (·.1))) := by
  refine rfn F scNodes mod fun cdv A s us s1 hr hl hp st ow I => ?_
  obtain ⟨a, rfl, hC⟩ := hp
  obtain ⟨dx, mA, d, O, h1, h2, D⟩ := (hC.keep st.keep0).ex
  refine wpAny_execs_cons (wpAny_Return_some (r_callT I ml rfl (r_arg1 (r_fld I rfl O c na h1 rfl ?_))))
  refine r_listD (X := ⟨P, w, K, mg, base, _, _⟩) (s := { s1 with toks := s1.toks + 1 }) hr.hd D fun l s' st' hn hL => ?_
  exact ⟨st.any.trans ((Step.ofK (Keep.refl s1.heap)).trans st'.any), _, .inl rfl, l, rfl, Nat.le_trans (Nat.le_trans (Nat.le_of_lt (Nat.lt_of_le_of_lt (ow _ (.inl rfl)) (I.lt (.inl rfl)))) hn) (Nat.le_refl _), hL⟩

theorem rf_req {fc : Addr} {fdc : FuncData} (F : Fun K "require_node" "Choices.require_node" (meth 8) f fd) (mod : L2.Mod K mg base) (hm : Meth K C "__contains__" fc) (bc : Binds K fdc ["self", "value"] []) (T : Tbl) (x : PySem.Str)
    (Fc : RFn P w base k fc fdc ["self", "value"] (fun us h => ∃ a v, us = [.ref a, v] ∧ Cho P w C h a T ∧ Tx x v) (fun _ _ _ r => r = .bool (T.lookup x).isSome)) (hx : (T.lookup x).isSome = true) :
    RFn P w base (k + 1) f fd ["self", "value"] (fun us h => ∃ a v, us = [.ref a, v] ∧ Cho P w C h a T ∧ Tx x v) (fun _ _ _ r => r = .none) := by
  refine rfn F scReq mod fun cdv A s us s1 hr hl hp st ow I => ?_
  obtain ⟨a, v, rfl, hC, hv⟩ := hp
  have hC1 := hC.keep st.keep0
  obtain ⟨dx, mA, d, O, h1, h2, D⟩ := id hC1.ex
  refine wpAny_execs_cons (wpAny_If (r_tcmp (r_name I rfl (r_name I rfl ?_))))
  refine r_notInOwn I O hm (RFn.call (X := ⟨P, w, K, mg, base, _, _⟩) Fc hr bc I rfl ⟨a, v, rfl, hC1, hv⟩ fun u s' st' e => ⟨_, e, wpAny_truthy_bool ?_⟩)
  rw [hx]
  show wpAny _ _ (execs [] _) _ _ _
  exact wpAny_execs_nil (wpAny_execs_nil ⟨st.any.trans st'.any, _, .inr ⟨rfl, rfl⟩, rfl⟩)

theorem rf_opt {fq : Addr} {fdq : FuncData} (F : Fun K "options" "Choices.options" (meth 9) f fd) (mod : L2.Mod K mg base) (ml : mg "list" = none) (c : Cls K C) (na : NoAttr K C "own_options") (hm : Meth K C "require_node" fq) (bq : Binds K fdq ["self", "value"] []) (T : Tbl) (x : PySem.Str) (os : List Opt)
    (Fq : RFn P w base k fq fdq ["self", "value"] (fun us h => ∃ a v, us = [.ref a, v] ∧ Cho P w C h a T ∧ Tx x v) (fun _ _ _ r => r = .none)) (hx : T.lookup x = some os) :
    RFn P w base (k + 1) f fd ["self", "node"] (fun us h => ∃ a v, us = [.ref a, v] ∧ Cho P w C h a T ∧ Tx x v) (fun _ h h' r => ∃ l, r = .ref l ∧ h.objs.size ≤ l ∧ LsR (OptV h') h' l os ∧ os.length ≤ 250) := by
  refine rfn F scOpt mod fun cdv A s us s1 hr hl hp st ow I => ?_
  obtain ⟨a, v, rfl, hC, hv⟩ := hp
  have hC1 := hC.keep st.keep0
  obtain ⟨dx, mA, d, O, h1, h2, D⟩ := id hC1.ex
  refine wpAny_execs_cons (r_expr (X := ⟨P, w, K, mg, base, _, _⟩) (r_meth1 I rfl O c hm (h2 _ (by decide)) (r_name I rfl ⟨I.kIn, RFn.call (X := ⟨P, w, K, mg, base, _, _⟩) Fq hr bq I rfl ⟨a, v, rfl, hC1, hv⟩ fun u s2 st2 e => ?_⟩)))
  have I2 := I.step0 st2
  have hC2 := hC1.keep st2.keep0
  obtain ⟨dx, mA, d, O, h1, h2, D⟩ := id hC2.ex
  refine wpAny_execs_cons (wpAny_Return_some (r_callT I2 ml rfl (r_arg1 (r_dsub (X := ⟨P, w, K, mg, base, _, _⟩) hx (r_fld I2 rfl O c na h1 rfl (r_name (I2.tok _) rfl ⟨d, rfl, D, hv, fun lv ⟨lo, e, L, hz⟩ => ?_⟩))))))
  subst e
  refine r_listL (X := ⟨P, w, K, mg, base, _, _⟩) (R := OptV s2.heap) (s := { s2 with toks := s2.toks + 1 + 1 }) L (Nat.le_trans hz (by decide)) fun l s' st' hn hL => ?_
  refine ⟨st.any.trans (st2.any.trans ((Step.ofK (Keep.refl s2.heap)).trans st'.any)), _, .inl rfl, l, rfl, Nat.le_trans (Nat.le_of_lt (Nat.lt_of_le_of_lt (ow _ (.inl rfl)) (I2.lt (.inl rfl)))) hn, hL.imp fun o u z => z.keep st'.keep0, hz⟩
end
end K25

set_option Elab.async false
set_option linter.all false
set_option maxRecDepth 100000
set_option maxHeartbeats 4000000
/-! K25, part RH: parents, require_known, edges_of -/
namespace K25
open PySem PySem.Spec PyProof.Rows L2

/-- the parents of a node by its options -/
def parO (os : List Opt) : List PySem.Str := srt (os.filterMap fun o => o.map (·.1))
theorem Step.toks {S : Addr → Prop} {s : Shared} (t : Nat) : Step S s { s with toks := t } := .ofK (d := s.drawn) (Keep.refl _)

section
variable {P : Program} {w : World} {K : PySem.W.Frag} {mg : PySem.Str → Option Value} {base : Heap} {k : Nat} {f C : Addr} {fd : FuncData}

theorem rf_par {fo : Addr} {fdo : FuncData} (F : Fun K "parents" "Choices.parents" (meth 10) f fd) (mod : L2.Mod K mg base) (m1 : mg "sorted" = none) (m2 : mg "set" = none) (c : Cls K C) (hm : Meth K C "options" fo) (bo : Binds K fdo ["self", "node"] []) (T : Tbl) (x : PySem.Str) (os : List Opt)
    (Fo : RFn P w base k fo fdo ["self", "node"] (fun us h => ∃ a v, us = [.ref a, v] ∧ Cho P w C h a T ∧ Tx x v) (fun _ h h' r => ∃ l, r = .ref l ∧ h.objs.size ≤ l ∧ LsR (OptV h') h' l os ∧ os.length ≤ 250)) :
    RFn P w base (k + 1) f fd ["self", "node"] (fun us h => ∃ a v, us = [.ref a, v] ∧ Cho P w C h a T ∧ Tx x v) (fun _ h h' r => ∃ l, r = .ref l ∧ h.objs.size ≤ l ∧ TxL h' l (parO os) ∧ os.length ≤ 250) := by
  refine rfn F scPar mod fun cdv A s us s1 hr hl hp st ow I => ?_
  obtain ⟨a, v, rfl, hC, hv⟩ := hp
  have hC1 := hC.keep st.keep0
  obtain ⟨dx, mA, d, O, h1, h2, D⟩ := id hC1.ex
  refine wpAny_execs_cons (wpAny_Return_some (r_callB I m1 rfl (r_arg1 (r_callT I m2 rfl (r_arg1 ?_)))))
  refine r_lcV (xs := os) (g := fun o => o.map (·.1)) (Rout := Tx) I (blk_by (out := defScope (meth 10)) (by decide +kernel) rfl) ?_
  refine r_meth1 I rfl O c hm (h2 _ (by decide)) (r_name I rfl ⟨I.kIn, RFn.call (X := ⟨P, w, K, mg, base, _, _⟩) Fo hr bo I rfl ⟨a, v, rfl, hC1, hv⟩ fun u s2 st2 ⟨l, e, hn, L, hz⟩ => ?_⟩)
  subst e
  obtain ⟨its, pr, pl⟩ := L
  have I2 := I.step0 st2
  refine ⟨_, _, I2, apar_by (l := ["node", "self"]) (by decide +kernel) rfl, Nat.le_trans hz (by decide), Src.list hr.hd pl.isList (by rw [List.size_toArray]; exact pr.length), fun C' i o v' sT hx hP IT stT => ?_, fun D s' st' hD hL => ?_⟩
  · obtain ⟨o', e1, ro⟩ := paired_get i pr (by simpa using hP)
    rw [hx] at e1
    cases e1
    have ro' := OptV.keep stT.keep0 ro
    refine wpAny_tests_one (r_tcmp (r_name IT rfl (Constant_none (isnot_none_gen (wpAny_truthy_bool ?_)))))
    cases o with
    | none =>
      have e : v' = .none := ro'
      subst e
      exact ⟨rfl, .refl _, fun y z => by cases z⟩
    | some p =>
      obtain ⟨q, u1, u2, e, hT, t1, t2⟩ := ro'
      subst e
      refine ⟨rfl, .refl _, fun y z => ?_⟩
      cases z
      exact Subscript_ (r_name IT rfl (wpAny_Constant_int (item_tuple (s := { sT with toks := sT.toks + 1 }) hT (by decide) (by decide) (j := 0) (x := u1) rfl rfl ⟨.toks _, t1⟩)))
  · have hlen : (os.filterMap fun o => o.map (·.1)).length + 1 < scanBound := by
      have h1 := List.length_filterMap_le (fun o : Opt => o.map (·.1)) os
      have h2 : 252 < scanBound := by decide
      omega
    refine call_setT (P := P) (w := w) hr.hd hL hlen fun s3 l' st3 nd mem hS => ?_
    have hlen' : l'.length + 1 < scanBound := by
      have : l'.length ≤ (os.filterMap fun o => o.map (·.1)).length := (len_of nd fun x hx => (mem x).mp hx)
      omega
    refine sorted_setT (P := P) (w := w) hS nd hr.hd (Nat.lt_of_le_of_lt (Nat.add_le_add_left (by decide) _) hr.units) hlen' fun s4 p ys st4 hp hy up my => ?_
    refine ⟨st.any.trans (st2.any.trans (st'.any.trans (st3.any.trans st4.any))), _, .inl rfl, p, rfl, ?_, ?_, hz⟩
    · have l1 : s.heap.objs.size < s2.heap.objs.size := Nat.lt_of_le_of_lt (ow _ (.inl rfl)) (I2.lt (.inl rfl))
      have l2 := hL.lt
      obtain ⟨_, ho, _⟩ := hS
      have l3 := Heap.lt_size ho
      exact Nat.le_of_lt (Nat.lt_of_lt_of_le l1 (Nat.le_trans hD (Nat.le_of_lt (Nat.lt_trans l2 (Nat.lt_of_lt_of_le l3 hp)))))
    · rw [show parO os = ys from (srt_eq up fun x => (my x).trans (mem x)).symm]
      exact hy
end
end K25

set_option Elab.async false
set_option linter.all false
set_option maxRecDepth 100000
set_option maxHeartbeats 4000000
/-! K25, part RN: {x: e for x in xs} over the bare heap -/
namespace K25
open PySem PySem.Spec PyProof.Rows L2
section
variable {X : RX} {r : List (PySem.Str × Value)} {s s' : Shared} {E : Value → Shared → Prop} {target : Expr}
theorem RI.big (I : RI X r s) : sysModules < s.heap.objs.size := Nat.lt_trans (by decide) (I.ok.mod.glob.keeps I.bk).lt

/-- a dict's entries in the order of the keys -/
abbrev Ents {β : Type} (O : β → Value → Prop) (T : List (PySem.Str × β)) (vs : List (Key × Value)) : Prop := Paired (fun (p : PySem.Str × β) (q : Key × Value) => q.1 = .inr p.1 ∧ O p.2 q.2) T vs
theorem ents_keys {β : Type} {O : β → Value → Prop} : ∀ {T : List (PySem.Str × β)} {vs : List (Key × Value)}, Ents O T vs → vs.map (·.1) = T.map fun p => Sum.inr p.1
  | _, _, .nil => rfl
  | _, _, .cons r t => by rw [List.map_cons, List.map_cons, ents_keys t, r.1]

/-- {kx: vx for nm in xs}: the keys are the texts xs themselves, all different -/
theorem r_dc {β : Type} {xs : List PySem.Str} {g : PySem.Str → β} {O : (Addr → Prop) → Heap → β → Value → Prop} {r0 : List (PySem.Str × Value)} {nm : PySem.Str} {np pos : Pos} {iter kx vx : Expr} {scope : Scope} {Q : Value → Shared → Prop} (I0 : RI X r0 s) (B0 : BlkOk X scope nm) (nd : xs.Nodup)
    (ost : ∀ S h h' b v, O S h b v → KeepX S h h' → O S h' b v)
    (h : wpAny (model X.P X.w) X.A (eval iter X.env) (fun xv s1 => ∃ r1 P, RI X r1 s1 ∧ (∀ x v, r1.lookup x = some v → scope.names.lookup x ≠ some .local) ∧ xs.length ≤ sizeLine ∧ Src X (.Name nm np) xv s1.heap xs.length P ∧
      (∀ C S i x v sT, s1.heap.objs.size ≤ C → (∀ b, S b → b < sT.heap.objs.size) → xs[i]? = some x → P i v → RI (X.blk scope C) ((nm, v) :: r1) sT → Step No s1 sT →
        wpAny (model X.P X.w) X.A (eval kx (X.blk scope C).env) (fun kv s6 => Tx x kv ∧ wpAny (model X.P X.w) X.A (eval vx (X.blk scope C).env) (fun vv s7 => Step No sT s7 ∧ O S s7.heap (g x) vv) (fun _ _ => False) s6) (fun _ _ => False) sT) ∧
      (∀ D S vs s', Step No s1 s' → s1.heap.objs.size ≤ D → D < s'.heap.objs.size → s'.heap.DictOf (mixKind X.P X.w) D vs → Ents (O S s'.heap) (xs.map fun x => (x, g x)) vs → Q (.ref D) s')) E s)
    (hs : ∀ x, foldedSetIterable iter X.env x = pure x := by intro _; rfl) :
    wpAny (model X.P X.w) X.A (eval (.DictComp kx vx [⟨.Name nm np, iter, [], 0⟩] scope pos) X.env) Q E s := by
  obtain ⟨hkind, hu, hcell, hfree, hloc⟩ := B0
  have ex : ∀ y ∈ scope.names, y.2 = .free → ∃ c, X.env.cells.lookup y.1 = some c := fun y hy e => by
    obtain ⟨c, _, e2, _⟩ := I0.frm.cl y.1 (hfree y hy e)
    exact ⟨c, e2⟩
  refine DictComp_goes (cl := cloFrom X.env.cells scope.names []) (closure_ok ex) hcell hkind (fun y hy e => by rw [hu y hy, e]) (thn h fun xv s1 ⟨r1, P, I1, hr, hn, src, turn, fin⟩ => src s1 _ _ rfl fun fp Y St s2 st2 hlt W hfp hY hSt => ?_) hs
  refine ⟨s1.heap.objs.size, fp, [s1.heap.objs.size], xs.length, Y, St, rfl, W, hSt, fun D C s3 B hD0 => ?_⟩
  obtain ⟨⟨h3, t3, rfl⟩, old, nD, nC, hDC, nm3⟩ := B
  have nD1 : s1.heap.objs.size ≤ D := Nat.le_of_lt (Nat.lt_of_lt_of_le hlt nD)
  have nC1 : s1.heap.objs.size ≤ C := Nat.le_of_lt (Nat.lt_of_lt_of_le hlt nC)
  have hIC : s1.heap.objs.size ≠ C := Nat.ne_of_lt (Nat.lt_of_lt_of_le hlt nC)
  have hID : s1.heap.objs.size ≠ D := Nat.ne_of_lt (Nat.lt_of_lt_of_le hlt nD)
  have st3 : Step No s1 { s2 with heap := h3, toks := t3 } := st2.trans (.ofK (d := s2.drawn) old)
  have F3 : Frm (X.blk scope C).env h3 r1 := (Frm.block I1.frm hkind st3.keep0 nm3 hu hcell hfree hr).2
  have okb : (X.blk scope C).Ok := blk_ok I1.ok (Nat.le_trans I1.sz nC1) hfree ex
  have I3 : RI (X.blk scope C) r1 { s2 with heap := h3, toks := t3 } := ⟨okb, fun b o e => st3.keep0 b o (I1.bk b o e), F3⟩
  have hlocK : (X.blk scope C).env.kindOf nm = some .local := lookup_relabel_local hloc
  have ownb : ∀ b, Own (X.blk scope C).env b → b = C ∨ b < s1.heap.objs.size := fun b hb => by
    rcases hb with rfl | ⟨y, _, hc⟩
    · exact .inl rfl
    · have hm := PySem.mem_of_lookup hc
      rcases cloFrom_mem hm with hm | ⟨h1, e⟩
      · cases hm
      · obtain ⟨c, e2⟩ := ex _ h1 rfl
        refine .inr (I1.lt (.inr ⟨y, hfree _ h1 rfl, ?_⟩))
        rw [e]
        simp only at e2 ⊢
        rw [e2]
        rfl
  have atC : ∀ b, At (X.blk scope C).env nm b → b = C := fun b hb => by
    rcases hb with rfl | ⟨k, _⟩
    · rfl
    · rw [hlocK] at k; cases k
  have drop : ∀ {v : Value} {sT : Shared}, RI (X.blk scope C) ((nm, v) :: r1) sT → RI (X.blk scope C) r1 sT := fun {v sT} IT => IT.less fun x u e => by
    by_cases hx : x = nm
    · subst hx
      exact absurd hloc (hr _ _ e)
    · rw [lookup_cons_ne hx]; exact e
  have toOld : ∀ {sa sb : Shared} {S : Addr → Prop}, Step No s1 sa → Step S sa sb → (∀ b, S b → s1.heap.objs.size ≤ b) → Step No s1 sb := fun {sa sb S} a b hS =>
    ((a.any (S := fun b => s1.heap.objs.size ≤ b)).trans (b.mono hS)).old
  have notOwn : ∀ {x : Addr}, (x = D ∨ x = s1.heap.objs.size) → ¬ Own (X.blk scope C).env x ∧ X.base.objs.size ≤ x := fun {x} hx => by
    have ge : s1.heap.objs.size ≤ x := by
      rcases hx with rfl | rfl
      · exact nD1
      · exact Nat.le_refl _
    refine ⟨fun ow => ?_, Nat.le_trans I1.sz ge⟩
    rcases ownb x ow with z | z
    · rcases hx with e | e
      · exact hDC (e.symm.trans z)
      · exact hIC (e.symm.trans z)
    · exact absurd (Nat.lt_of_lt_of_le z ge) (Nat.lt_irrefl _)
  generalize hS0 : (fun b => b = D ∨ b = s1.heap.objs.size ∨ b = C) = S
  have inD : S D := by rw [← hS0]; exact .inl rfl
  have inI : S s1.heap.objs.size := by rw [← hS0]; exact .inr (.inl rfl)
  have inC : S C := by rw [← hS0]; exact .inr (.inr rfl)
  have entsTo : ∀ {h h' : Heap} {T : List (PySem.Str × β)} {vs : List (Key × Value)}, KeepX S h h' → Ents (O S h) T vs → Ents (O S h') T vs := fun k e => Paired.mapP e fun _ _ z => ⟨z.1, ost _ _ _ _ _ z.2 k⟩
  refine ⟨fun i sT => Step No s1 sT ∧ RI (X.blk scope C) r1 sT ∧ ∃ vs, sT.heap.DictOf (mixKind X.P X.w) D vs ∧ Ents (O S sT.heap) ((xs.take i).map fun x => (x, g x)) vs,
    ⟨st3, I3, [], ⟨_, #[], 0, hD0, ⟨rfl, rfl, rfl⟩, rfl, fun e he => by simp at he, .nil, .nil⟩, .nil⟩, ?_, ?_, ?_⟩
  · rintro i sT h' tk ⟨a, b, vs, dd, en⟩ hk _
    have stp : Step (fun b => b = s1.heap.objs.size) sT { sT with heap := h', toks := tk } := .of (d := sT.drawn) fun b o nb e => hk b o (fun hm => nb (List.mem_singleton.mp hm)) e
    refine ⟨toOld a stp fun b e => Nat.le_of_eq e.symm, b.step stp fun x hx => notOwn (.inr hx), vs, ?_, entsTo (stp.keep.mono fun x e => by rw [e]; exact inI) en⟩
    obtain ⟨o, es, ep, ho, rest⟩ := dd
    exact ⟨o, es, ep, stp.keep D o hID.symm ho, rest⟩
  · rintro i v sT hi hy hst ⟨a, b, vs, dd, en⟩
    have hx : xs[i]? = some xs[i] := List.getElem?_eq_getElem hi
    refine wpAny_assign_Name (r_store (X := X.blk scope C) b (.inl hlocK) fun s4 I4 st4 hsz => ?_)
    have st4' : Step (fun b => b = C) sT s4 := st4.mono atC
    have a4 : Step No s1 s4 := toOld a st4' fun x e => by rw [e]; exact nC1
    have ltC : C < s4.heap.objs.size := I4.lt (.inl rfl)
    have dd4 : s4.heap.DictOf (mixKind X.P X.w) D vs := by
      obtain ⟨o, es, ep, ho, rest⟩ := dd
      exact ⟨o, es, ep, st4'.keep D o hDC ho, rest⟩
    have ltD : D < s4.heap.objs.size := by
      obtain ⟨o, es, ep, ho, rest⟩ := dd4
      exact Heap.lt_size ho
    have en4 := entsTo (st4'.keep.mono fun x e => by rw [e]; exact inC) en
    refine wpAny_tests_nil ?_
    rw [if_pos rfl]
    refine wpAny_mono (turn C S i xs[i] v s4 nC1 (fun x hx => ?_) hx (hY i v _ hy) I4 a4) (fun kv s6 ⟨hkv, h6⟩ => wpAny_mono h6 (fun vv s7 ⟨st7, o7⟩ => ?_) fun _ _ z => z.elim) fun _ _ z => z.elim
    · rw [← hS0] at hx
      rcases hx with rfl | rfl | rfl
      · exact ltD
      · exact Nat.lt_trans (Nat.lt_of_lt_of_le hlt nC) ltC
      · exact ltC
    · obtain ⟨t, rfl⟩ := hkv
      have dd7 : s7.heap.DictOf (mixKind X.P X.w) D vs := dd4.keep st7.keep0
      have en7 := entsTo (fun b o _ e => st7.keep0 b o e) en4
      have len : vs.length = i := by
        have := en7.length
        rw [List.length_map, List.length_take] at this
        omega
      have fresh : (Sum.inr xs[i] : Key) ∉ vs.map (·.1) := fun z => by
        rw [ents_keys en7, List.map_map] at z
        obtain ⟨y, hy, e⟩ := List.mem_map.mp z
        have e' : y = xs[i] := Sum.inr.inj e
        have ndt : (xs.take (i + 1)).Nodup := nd.sublist (List.take_sublist _ _)
        rw [List.take_add_one, hx] at ndt
        have := (List.nodup_append.mp ndt).2.2 y hy xs[i] (by simp)
        exact this e'
      unfold dictSet
      refine wpAny_holding (wpAny_bind ((mixKind X.P X.w).pyHash (k := .inr xs[i]) (mixKind_str _ _ _ t) ?_))
      refine wpAny_dictSetHashed_pairs (s := { s7 with toks := s7.toks + 1 }) (mixKind_str _ _ _ t) dd7 (fun h8 dd8 sb => ?_) (by omega)
      have st8 : Step (fun b => b = D) s7 { s7 with heap := h8, toks := s7.toks + 1 } := .of (d := s7.drawn) fun b o nb e => sb.extBut b o nb e
      rw [stored, if_neg (by
        rw [List.any_eq_true]
        rintro ⟨kv, hkv, e⟩
        exact fresh (List.mem_map.mpr ⟨kv, hkv, of_decide_eq_true e⟩))] at dd8
      have k8 : KeepX S s7.heap h8 := st8.keep.mono fun x e => by rw [e]; exact inD
      refine ⟨⟨toOld (a4.trans st7) st8 fun x e => by rw [e]; exact nD1, ((drop I4).step0 st7).step st8 fun x e => notOwn (.inl e), _, dd8, ?_⟩, ?_⟩
      · rw [List.take_add_one, hx, List.map_append]
        exact paired_append (entsTo k8 en7) (.cons ⟨rfl, ost _ _ _ _ _ o7 k8⟩ .nil)
      · refine W.frame (i + 1) _ _ hst fun x hx o e => st8.keep _ _ ?_ (st7.keep0 _ _ (st4'.keep _ _ ?_ e))
        · rcases hfp x hx with z | z
          · rw [z]; exact hID
          · exact Nat.ne_of_lt (Nat.lt_of_lt_of_le z nD1)
        · rcases hfp x hx with z | z
          · rw [z]; exact hIC
          · exact Nat.ne_of_lt (Nat.lt_of_lt_of_le z nC1)
  · rintro sT ⟨a, b, vs, dd, en⟩
    obtain ⟨m, hn', _⟩ := b.frm.ns
    refine ⟨m, hn', fun h' sb => ?_⟩
    have stp : Step (fun b => b = C) sT { sT with heap := h' } := .of (tk := sT.toks) (d := sT.drawn) fun x o nx e => sb.extBut x o nx e
    have dd' : h'.DictOf (mixKind X.P X.w) D vs := by
      obtain ⟨o, es, ep, ho, rest⟩ := dd
      exact ⟨o, es, ep, stp.keep D o hDC ho, rest⟩
    have ltD : D < h'.objs.size := by
      obtain ⟨o, es, ep, ho, rest⟩ := dd'
      exact Heap.lt_size ho
    rw [List.take_length] at en
    exact fin D S vs _ (toOld a stp fun x e => by rw [e]; exact nC1) nD1 ltD dd' (entsTo (stp.keep.mono fun x e => by rw [e]; exact inC) en)
end
end K25

set_option Elab.async false
set_option linter.all false
set_option maxRecDepth 100000
set_option maxHeartbeats 4000000
/-! K25, part RO: require_known, edges_of -/
namespace K25
open PySem PySem.Spec PyProof.Rows L2
def root : PySem.Str := "root"
theorem scKnown : FnScope ["choices", "value"] ["choices", "value"] (defScope (top 35)) := ⟨rfl, rfl, rfl, by decide +kernel, rfl, by decide +kernel, by decide +kernel⟩
theorem scEdges : FnScope ["choices"] ["choices"] (defScope (top 33)) := ⟨rfl, rfl, rfl, by decide +kernel, rfl, by decide +kernel, by decide +kernel⟩
/-- the parents of every node, the root's first -/
def edg (T : Tbl) : List (PySem.Str × List PySem.Str) := (root, []) :: T.map fun p => (p.1, parO p.2)
theorem parO_len (os : List Opt) : (parO os).length ≤ os.length := by
  refine Nat.le_trans (len_of (up_nodup (srt_up _)) fun x hx => mem_srt.mp hx) (List.length_filterMap_le _ _)
theorem lookup_mem {α : Type} : ∀ {T : List (PySem.Str × α)} {p : PySem.Str × α}, (T.map (·.1)).Nodup → p ∈ T → T.lookup p.1 = some p.2
  | (x, a) :: T, p, nd, h => by
    obtain ⟨n1, n2⟩ := List.nodup_cons.mp nd
    rcases List.mem_cons.mp h with rfl | h
    · rw [List.lookup_cons, beq_self_eq_true]
    · have : p.1 ≠ x := fun z => n1 (List.mem_map.mpr ⟨p, h, z⟩)
      rw [List.lookup_cons, show (p.1 == x) = false from beq_eq_false_iff_ne.mpr this]
      exact lookup_mem n2 h
section
variable {P : Program} {w : World} {K : PySem.W.Frag} {mg : PySem.Str → Option Value} {base : Heap} {k : Nat} {f C : Addr} {fd : FuncData}

theorem DcR.nodup {α : Type} {R : Heap → α → Value → Prop} {h : Heap} {d : Addr} {T : List (PySem.Str × α)} (D : DcR P w R h d T) : (T.map (·.1)).Nodup := by
  obtain ⟨vs, p, ⟨o, es, ep, ho, ex, hd, hk, hp, nd⟩, _⟩ := D
  have e : vs.map (·.1) = T.map fun p => Sum.inr p.1 := ents_keys (O := R h) p
  rw [e] at nd
  exact List.pairwise_map.mpr ((List.pairwise_map.mp nd).imp fun {a b} n z => n (by rw [z]))

theorem rf_known {fc : Addr} {fdc : FuncData} (F : Fun K "require_known" "require_known" (top 35) f fd) (mod : L2.Mod K mg base) (hm : Meth K C "__contains__" fc) (bc : Binds K fdc ["self", "value"] []) (mR : ∃ t, mg "ROOT" = some (.str root t)) (T : Tbl) (x : PySem.Str)
    (Fc : RFn P w base k fc fdc ["self", "value"] (fun us h => ∃ a v, us = [.ref a, v] ∧ Cho P w C h a T ∧ Tx x v) (fun _ _ _ r => r = .bool (T.lookup x).isSome)) (hx : x = root ∨ (T.lookup x).isSome = true) :
    RFn P w base (k + 1) f fd ["choices", "value"] (fun us h => ∃ a v, us = [.ref a, v] ∧ Cho P w C h a T ∧ Tx x v) (fun _ _ _ r => r = .none) := by
  obtain ⟨tR, mR⟩ := mR
  refine rfn F scKnown mod fun cdv A s us s1 hr hl hp st ow I => ?_
  obtain ⟨a, v, rfl, hC, hv⟩ := hp
  have hC1 := hC.keep st.keep0
  obtain ⟨dx, mA, d, O, h1, h2, D⟩ := id hC1.ex
  obtain ⟨tv, ev⟩ := id hv
  refine wpAny_execs_cons (wpAny_If (isTrue_and (r_tcmp (r_name I rfl (r_glob I mR ?_)))))
  rw [ev]
  refine PyProof.Rows.ne_str (wpAny_truthy_bool ?_)
  by_cases hxr : x = root
  · rw [show (x != root) = false from by rw [hxr]; simp]
    exact wpAny_execs_nil (wpAny_execs_nil ⟨st.any, _, .inr ⟨rfl, rfl⟩, rfl⟩)
  · rw [show (x != root) = true from bne_iff_ne.mpr hxr]
    have hx' := hx.resolve_left hxr
    show wpAny _ _ (isTrue _ _ _) _ _ _
    refine isTrue_and (r_tcmp (r_name I rfl (r_name I rfl ?_)))
    refine r_notInOwn I O hm (RFn.call (X := ⟨P, w, K, mg, base, _, _⟩) Fc hr bc I rfl ⟨a, v, by rw [ev], hC1, hv⟩ fun u s' st' e => ⟨_, e, wpAny_truthy_bool ?_⟩)
    rw [hx']
    show wpAny _ _ (execs [] _) _ _ _
    exact wpAny_execs_nil (wpAny_execs_nil ⟨st.any.trans st'.any, _, .inr ⟨rfl, rfl⟩, rfl⟩)
theorem rf_edges {fn fp : Addr} {fdn fdp : FuncData} (F : Fun K "edges_of" "edges_of" (top 33) f fd) (mod : L2.Mod K mg base) (c : Cls K C) (hn : Meth K C "nodes" fn) (bn : Binds K fdn ["self"] []) (hp : Meth K C "parents" fp) (bp : Binds K fdp ["self", "node"] []) (mR : ∃ t, mg "ROOT" = some (.str root t)) (T : Tbl) (hroot : root ∉ T.map (·.1)) (h40 : T.length ≤ 40)
    (Fn : RFn P w base k fn fdn ["self"] (fun us h => ∃ a, us = [.ref a] ∧ Cho P w C h a T) (fun _ h h' r => ∃ l, r = .ref l ∧ h.objs.size ≤ l ∧ TxL h' l (T.map (·.1))))
    (Fp : ∀ x os, T.lookup x = some os → RFn P w base k fp fdp ["self", "node"] (fun us h => ∃ a v, us = [.ref a, v] ∧ Cho P w C h a T ∧ Tx x v) (fun _ h h' r => ∃ l, r = .ref l ∧ h.objs.size ≤ l ∧ TxL h' l (parO os) ∧ os.length ≤ 250)) :
    RFn P w base (k + 1) f fd ["choices"] (fun us h => ∃ a, us = [.ref a] ∧ Cho P w C h a T) (fun _ h h' r => ∃ d, r = .ref d ∧ h.objs.size ≤ d ∧ DcR P w RowV h' d (edg T) ∧ ∀ b, RefIn h' d b → h.objs.size ≤ b) := by
  obtain ⟨tR, mR⟩ := mR
  refine rfn F scEdges mod fun cdv A s us s1 hr hl hpre st ow I => ?_
  obtain ⟨a, rfl, hC⟩ := hpre
  have hC1 := hC.keep st.keep0
  obtain ⟨dx, mA, d, O, h1, h2, D⟩ := id hC1.ex
  have ndT : (T.map (·.1)).Nodup := D.nodup
  have hzT : T.length ≤ sizeLine := by obtain ⟨_, _, _, _, z⟩ := D; exact z
  refine wpAny_execs_cons (wpAny_Return_some ?_)
  show wpAny _ _ (eval (.Dict [some _, none] [_, _] _) _) _ _ _
  rw [arm_eval_Dict]
  refine wpAny_bind (wpAny_standAt ?_)
  show wpAny _ _ (dictDisplay [(some _, _), (none, _)]) _ _ _
  refine display_star ?_
  refine wpAny_subDict (knd := mixKind P w) (show 1 ≤ 15 by decide) ?_
  generalize hDd : s1.heap.objs.size = Dd
  generalize hsA : ({ s1 with heap := s1.heap.push { cls := .type "dict", data := .dict #[] } } : Shared) = sA
  have stA : Step No s1 sA := by rw [← hsA]; exact .ofK (tk := s1.toks) (d := s1.drawn) (Keep.push _ _)
  have IA := I.step0 stA
  have szA : sA.heap.objs.size = Dd + 1 := by rw [← hsA, ← hDd]; exact Heap.size_push ..
  have ddA : sA.heap.DictOf (mixKind P w) Dd [] := by
    rw [← hsA, ← hDd]
    exact ⟨_, #[], 0, Heap.get?_push_size _ rfl, ⟨rfl, rfl, rfl⟩, rfl, fun e he => by simp at he, .nil, .nil⟩
  refine evalPairs_cons (r_glob IA mR (wpAny_bind (wpAny_List_spliced (Calls.spliced_nil ⟨Nat.zero_le _, wpAny_bind (wpAny_standAt (wpAny_pure (evalPairs_nil ?_)))⟩))))
  generalize hsB : ({ sA with heap := sA.heap.push { cls := .type "list", data := .seq ([] : List Value).toArray } } : Shared) = sB
  have stB : Step No sA sB := by rw [← hsB]; exact .ofK (tk := sA.toks) (d := sA.drawn) (Keep.push _ _)
  have nlB : TxL sB.heap sA.heap.objs.size [] := by
    rw [← hsB]
    exact ⟨[], .nil, 0, Heap.get?_push_size _ rfl⟩
  refine ⟨[(.inr root, .ref sA.heap.objs.size)], ⟨mixKind_str P w root tR, rfl, True.intro⟩, ddA.keep stB.keep0, fun h' dd sb => ?_⟩
  generalize hsC : ({ sB with heap := h', toks := sB.toks + [(Value.str root tR, Value.ref sA.heap.objs.size)].length } : Shared) = sC
  have stC : Step (fun b => b = Dd) sB sC := by rw [← hsC]; exact .of (d := sB.drawn) fun b o nb e => sb.extBut b o nb e
  have ddC : sC.heap.DictOf (mixKind P w) Dd [(.inr root, .ref sA.heap.objs.size)] := by rw [← hsC]; exact dd
  have hDn : ¬ Own (envOfC "edges_of" (defScope (top 33)) s.heap.objs.size f cdv) Dd ∧ base.objs.size ≤ Dd := by
    rw [← hDd]; exact I.new (Nat.le_refl _)
  have IC := ((IA.step0 stB).step stC fun b e => by rw [e]; exact hDn)
  have stAC : Step No s1 sC := by
    have h0 : Step (fun b => s1.heap.objs.size ≤ b) s1 sC := stA.any.trans (stB.any.trans (stC.mono fun b e => by rw [e, hDd]; exact Nat.le_refl _))
    exact h0.old
  have nlC : TxL sC.heap sA.heap.objs.size [] := nlB.keepX stC.keep fun z => by
    rw [szA] at z
    exact absurd z (Nat.ne_of_gt (Nat.lt_succ_self _))
  refine wpAny_bind ?_
  refine r_dc (xs := T.map (·.1)) (g := fun x => parO ((T.lookup x).getD [])) (O := fun S h b v => ∃ l, v = .ref l ∧ ¬ S l ∧ TxL h l b ∧ b.length ≤ 250 ∧ s.heap.objs.size ≤ l) IC (blk_by (out := defScope (top 33)) (by decide +kernel) rfl) ndT (fun S h h' b v ⟨l, e, n, L, z, z2⟩ k => ⟨l, e, n, L.keepX k n, z, z2⟩) ?_
  have hCC := hC1.keep stAC.keep0
  obtain ⟨dx, mA, d, O, h1, h2, D⟩ := id hCC.ex
  refine r_meth0 IC rfl O c hn (h2 _ (by decide)) (RFn.call (X := ⟨P, w, K, mg, base, _, _⟩) Fn hr bn IC rfl ⟨a, rfl, hCC⟩ fun u s2 st2 ⟨l, e, hnew, L⟩ => ?_)
  subst e
  obtain ⟨its, pr, pl⟩ := L
  have I2 := IC.step0 st2
  refine ⟨_, _, I2, apar_by (l := ["choices"]) (by decide +kernel) rfl, by rw [List.length_map]; exact hzT, Src.list hr.hd pl.isList (by rw [List.size_toArray]; exact pr.length), fun C' S i x v sT hC' hS hx hP IT stT => ?_, fun D' S vs s' st' hD ltD ddD en => ?_⟩
  · obtain ⟨x', e1, tx⟩ := paired_get i pr (by simpa using hP)
    rw [hx] at e1
    cases e1
    refine r_name IT rfl ⟨tx, ?_⟩
    have hxT : x ∈ T.map (·.1) := List.mem_of_getElem? hx
    obtain ⟨p, hp1, hp2⟩ := List.mem_map.mp hxT
    have lk := lookup_mem ndT hp1
    rw [hp2] at lk
    have hCT := hCC.keep (st2.keep0.trans stT.keep0)
    obtain ⟨dx, mA, d, O, h1, h2, D⟩ := id hCT.ex
    refine r_meth1 IT rfl O c hp (h2 _ (by decide)) (r_name IT rfl ⟨IT.kIn, RFn.call (X := ⟨P, w, K, mg, base, _, _⟩) (Fp x p.2 lk) hr bp IT rfl ⟨a, v, rfl, hCT, tx⟩ fun u s7 st7 ⟨l, e, hl1, hl2, hl3⟩ => ⟨st7, l, e, fun z => ?_, ?_, ?_, ?_⟩⟩)
    · exact absurd (Nat.lt_of_lt_of_le (hS l z) hl1) (Nat.lt_irrefl _)
    · rw [lk]; exact hl2
    · rw [lk]; exact Nat.le_trans (parO_len _) hl3
    · exact Nat.le_trans (Nat.le_of_lt (Nat.lt_of_le_of_lt (ow _ (.inl rfl)) (I2.lt (.inl rfl)))) (Nat.le_trans hC' (Nat.le_trans (Nat.le_of_lt (IT.lt (.inl rfl))) hl1))
  · refine wpAny_bind (wpAny_standAt (wpAny_pure ?_))
    have stD : Step No s1 s' := stAC.trans (st2.trans st')
    have ne : Dd ≠ D' := by
      have q1 : Dd < sC.heap.objs.size := by obtain ⟨o, es, ep, ho, _⟩ := ddC; exact Heap.lt_size ho
      have q2 : Dd < s2.heap.objs.size := by
        obtain ⟨o, es, ep, ho, _⟩ := ddC
        exact Heap.lt_size (st2.keep0 _ _ ho)
      exact Nat.ne_of_lt (Nat.lt_of_lt_of_le q2 hD)
    have big : sysModules < D' := Nat.lt_of_lt_of_le I2.big hD
    refine merge_new (knd := mixKind P w) (l := [(.inr root, .ref sA.heap.objs.size)]) (more := vs) ne (beq_eq_false_iff_ne.mpr (Nat.ne_of_gt big)) (ddC.keep (st2.keep0.trans st'.keep0)) (by simp) ddD (fun x hx z => ?_) ?_ fun h9 dd9 sb9 => ?_
    · rw [ents_keys en, List.map_map, List.map_map] at hx
      obtain ⟨p, hp1, rfl⟩ := List.mem_map.mp hx
      have z' : (Sum.inr p.1 : Key) = Sum.inr root := by simpa using z
      exact hroot (List.mem_map.mpr ⟨p, hp1, Sum.inr.inj z'⟩)
    · have := en.length
      rw [List.length_map, List.length_map] at this
      rw [← this]
      exact Nat.le_trans (Nat.add_le_add_left h40 1) (by decide)
    · have sameT : ((T.map (·.1)).map fun x => (x, parO ((T.lookup x).getD []))) = T.map fun p => (p.1, parO p.2) := by
        rw [List.map_map]
        refine List.map_congr_left fun p hp => ?_
        show (p.1, parO ((T.lookup p.1).getD [])) = _
        rw [lookup_mem ndT hp]
        rfl
      rw [sameT] at en
      have st9 : Step (fun b => b = Dd) s' { s' with heap := h9 } := .of (tk := s'.toks) (d := s'.drawn) fun b o nb e => sb9.extBut b o nb e
      have dd' : s'.heap.DictOf (mixKind P w) Dd [(.inr root, .ref sA.heap.objs.size)] := ddC.keep (st2.keep0.trans st'.keep0)
      have apart : ∀ {l : Addr} {xs : List PySem.Str}, TxL s'.heap l xs → ¬ l = Dd := fun L z => by
        obtain ⟨o, es, ep, ho, ex, _⟩ := dd'
        obtain ⟨its, _, n, e⟩ := L
        rw [z, ho] at e
        have e1 := ex.1
        rw [Option.some.inj e] at e1
        exact absurd (Value.type.inj e1) (by decide)
      have old : s.heap.objs.size ≤ Dd := by
        rw [← hDd]
        exact Nat.le_of_lt (Nat.lt_of_le_of_lt (ow _ (.inl rfl)) (I.lt (.inl rfl)))
      refine ⟨st.any.trans (stD.any.trans (st9.mono fun b e => by rw [e]; exact old)), _, .inl rfl, Dd, rfl, old, ⟨(.inr root, .ref sA.heap.objs.size) :: vs, .cons ⟨rfl, _, rfl, ?_, by decide⟩ (Paired.mapP en fun p q z => ⟨z.1, ?_⟩), dd9, ?_, ?_⟩, fun b rb => ?_⟩
      · have L := nlC.keep (st2.keep0.trans st'.keep0)
        exact L.keepX st9.keep (apart L)
      · obtain ⟨l, e, _, L, z2, _⟩ := z.2
        exact ⟨l, e, L.keepX st9.keep (apart L), z2⟩
      · refine beq_eq_false_iff_ne.mpr (Nat.ne_of_gt (Nat.lt_of_lt_of_le ?_ (Nat.le_of_eq hDd)))
        exact I.big
      · show (T.map _).length + 1 ≤ sizeLine
        rw [List.length_map]
        exact Nat.le_trans (Nat.add_le_add_right h40 1) (by decide)
      · obtain ⟨kk, hm⟩ := ref_dict dd9 rb
        rcases List.mem_cons.mp hm with z | z
        · cases z
          rw [szA]
          exact Nat.le_succ_of_le old
        · obtain ⟨i, hi⟩ := List.getElem?_of_mem z
          obtain ⟨p, _, _, l, e, _, _, _, hl⟩ := paired_get i en hi
          cases e
          exact hl
end
end K25

set_option Elab.async false
set_option linter.all false
set_option maxRecDepth 100000
set_option maxHeartbeats 4000000
/-! K25, part RP: lists that change; reached_from -/
namespace K25
open PySem PySem.Spec PyProof.Rows L2
section
variable {X : RX} {r : List (PySem.Str × Value)} {s s' : Shared} {E : Value → Shared → Prop} {α : Type} {R : α → Value → Prop}

/-- l.m(e), m a method of lists -/
theorem r_lm1 {n name : PySem.Str} {id : String} {npos apos cpos : Pos} {e : Expr} {l : Addr} {xs : List α} {Q : Value → Shared → Prop} (I : RI X r s) (hn : r.lookup n = some (.ref l)) (L : LsR R s.heap l xs) (slot : Slot "list" name id) (hty : typeOf (.builtin id) = pure (.type "method_descriptor"))
    (h : wpAny (model X.P X.w) X.A (eval e X.env) (fun v s1 => wpAny (model X.P X.w) X.A (call (.builtin id) [.ref l, v]) Q E s1) E s)
    (hk : X.env.kindOf n = some .local ∨ X.env.kindOf n = some .cell ∨ X.env.kindOf n = some .free := by first | exact .inl rfl | exact .inr (.inl rfl) | exact .inr (.inr rfl)) (hd : (n == ("__debug__" : PySem.Str)) = false := by decide) (hcd : (n == ("__classdict__" : PySem.Str)) = false := by decide)
    (hbase : attributeBase (.Name n npos) name X.env (eval (.Name n npos) X.env) = eval (.Name n npos) X.env := by rfl)
    (hfew : ((backTo cpos (starEach [e] X.env)).all (fun x => !x.1) && (backToKw cpos (keywordEach [] X.env)).all (fun x => x.1.isSome) && decide ([e].length + ([] : List Keyword).length + (if ([] : List Keyword).isEmpty then 0 else 1) < 30)) = true := by rfl)
    (hline : (apos.endLine == cpos.line) = true := by rfl) (hs : starEach [e] X.env = (false, eval e X.env) :: starEach [] X.env := by rfl) :
    wpAny (model X.P X.w) X.A (eval (.Call (.Attribute (.Name n npos) name apos) [e] [] cpos) X.env) Q E s := by
  refine wpAny_Call_method_late hbase hfew hline rfl (r_name I hn ?_ hk hd hcd)
  obtain ⟨its, _, m, ho⟩ := L
  refine ⟨"list", id, PySem.F.plainAttrs_list, slot, hty, ⟨_, ho, rfl⟩, fun a ea => ?_, ?_⟩
  · cases ea
    exact ⟨_, ho, rfl⟩
  · rw [hs]
    exact Calls.callWith_builtin rfl (Calls.evalArgs_plain (Calls.spliced_cons (thn h fun v s1 q => Calls.spliced_nil q)))
theorem r_lm0 {n name : PySem.Str} {id : String} {npos apos cpos : Pos} {l : Addr} {xs : List α} {Q : Value → Shared → Prop} (I : RI X r s) (hn : r.lookup n = some (.ref l)) (L : LsR R s.heap l xs) (slot : Slot "list" name id) (hty : typeOf (.builtin id) = pure (.type "method_descriptor"))
    (h : wpAny (model X.P X.w) X.A (call (.builtin id) [.ref l]) Q E s)
    (hk : X.env.kindOf n = some .local ∨ X.env.kindOf n = some .cell ∨ X.env.kindOf n = some .free := by first | exact .inl rfl | exact .inr (.inl rfl) | exact .inr (.inr rfl)) (hd : (n == ("__debug__" : PySem.Str)) = false := by decide) (hcd : (n == ("__classdict__" : PySem.Str)) = false := by decide)
    (hbase : attributeBase (.Name n npos) name X.env (eval (.Name n npos) X.env) = eval (.Name n npos) X.env := by rfl) (hline : (apos.endLine == cpos.line) = true := by rfl) :
    wpAny (model X.P X.w) X.A (eval (.Call (.Attribute (.Name n npos) name apos) [] [] cpos) X.env) Q E s := by
  refine wpAny_Call_method0_late hbase hline (r_name I hn ?_ hk hd hcd)
  obtain ⟨its, _, m, ho⟩ := L
  refine ⟨"list", id, PySem.F.plainAttrs_list, slot, hty, ⟨_, ho, rfl⟩, fun a ea => ?_, ?_⟩
  · cases ea
    exact ⟨_, ho, rfl⟩
  · exact Calls.callWith_builtin rfl (PySem.evalArgs_none h)
theorem paired_refl : ∀ (l : List α), Paired (fun (a b : α) => a = b) l l
  | [] => .nil
  | _ :: r => .cons rfl (paired_refl r)
theorem paired_snoc {β : Type} {R : α → β → Prop} : ∀ {xs : List α} {y : α} {us : List β}, Paired R (xs ++ [y]) us → ∃ us' u, us = us' ++ [u] ∧ Paired R xs us' ∧ R y u
  | [], y, _, .cons h .nil => ⟨[], _, rfl, .nil, h⟩
  | x :: xs, y, _, .cons h t => by
    obtain ⟨us', u, e, p, q⟩ := paired_snoc t
    subst e
    exact ⟨_ :: us', u, rfl, .cons h p, q⟩
theorem seq_upd {h : Heap} {l : Addr} {its : Array Value} {m : Nat} (f : Array Value → Array Value) (ho : h.get? l = some { cls := .type "list", data := .seq its m }) : ∃ m', (h.update l (Obj.mapSeq f)).get? l = some { cls := .type "list", data := .seq (f its) m' } := ⟨_, Heap.get?_update_self _ ho rfl⟩
/-- l.pop() -/
theorem r_popP {n : PySem.Str} {npos apos cpos : Pos} {l : Addr} {us : List Value} {u : Value} {Q : Value → Shared → Prop} (I : RI X r s) (hn : r.lookup n = some (.ref l)) (pl : s.heap.PlainList l (us ++ [u]).toArray) (hz : us.length + 1 ≤ sizeLine)
    (q : ∀ s', Step (fun b => b = l) s s' → s'.heap.PlainList l us.toArray → s'.heap.objs.size = s.heap.objs.size → Q u s')
    (hk : X.env.kindOf n = some .local ∨ X.env.kindOf n = some .cell ∨ X.env.kindOf n = some .free := by first | exact .inl rfl | exact .inr (.inl rfl) | exact .inr (.inr rfl)) (hd : (n == ("__debug__" : PySem.Str)) = false := by decide) (hcd : (n == ("__classdict__" : PySem.Str)) = false := by decide)
    (hbase : attributeBase (.Name n npos) "pop" X.env (eval (.Name n npos) X.env) = eval (.Name n npos) X.env := by rfl) (hline : (apos.endLine == cpos.line) = true := by rfl) :
    wpAny (model X.P X.w) X.A (eval (.Call (.Attribute (.Name n npos) "pop" apos) [] [] cpos) X.env) Q E s := by
  refine r_lm0 (R := fun (a b : Value) => a = b) (xs := us ++ [u]) I hn ⟨us ++ [u], paired_refl _, pl⟩ PySem.F.slot_list_pop PySem.F.type_list_pop ?_ hk hd hcd hbase hline
  obtain ⟨m, ho⟩ := pl
  have hy : (us ++ [u]).toArray[(us ++ [u]).toArray.size - 1]? = some u := by simp
  refine call_meets PySem.F.slot_list_pop ⟨_, ho, rfl⟩ PySem.F.entry_list_pop (PySem.F.args_list_pop_1 _) (MeetsSeq.list_pop_last l (us ++ [u]).toArray m u hy (by simp; omega)) ⟨ho, ?_⟩
  refine q _ (.of (tk := s.toks) (d := s.drawn) fun b o nb e => (Heap.get?_update_other _ _ (Ne.symm nb)).trans e) ?_ (Heap.size_update ..)
  have e2 : (us ++ [u]).toArray.eraseIdxIfInBounds ((us ++ [u]).toArray.size - 1) = us.toArray := by
    rw [List.eraseIdxIfInBounds_toArray, List.size_toArray, List.length_append, List.length_singleton, Nat.add_sub_cancel]
    congr 1
    rw [List.eraseIdx_append_of_length_le (Nat.le_refl _), Nat.sub_self]
    simp
  obtain ⟨m', e1⟩ := seq_upd (fun xs => xs.eraseIdxIfInBounds ((us ++ [u]).toArray.size - 1)) ho
  exact ⟨m', by rw [← e2]; exact e1⟩
theorem r_pop {n : PySem.Str} {npos apos cpos : Pos} {l : Addr} {xs : List α} {y : α} {Q : Value → Shared → Prop} (I : RI X r s) (hn : r.lookup n = some (.ref l)) (L : LsR R s.heap l (xs ++ [y])) (hz : xs.length + 1 ≤ sizeLine)
    (q : ∀ v s', R y v → Step (fun b => b = l) s s' → LsR R s'.heap l xs → s'.heap.objs.size = s.heap.objs.size → Q v s')
    (hk : X.env.kindOf n = some .local ∨ X.env.kindOf n = some .cell ∨ X.env.kindOf n = some .free := by first | exact .inl rfl | exact .inr (.inl rfl) | exact .inr (.inr rfl)) (hd : (n == ("__debug__" : PySem.Str)) = false := by decide) (hcd : (n == ("__classdict__" : PySem.Str)) = false := by decide)
    (hbase : attributeBase (.Name n npos) "pop" X.env (eval (.Name n npos) X.env) = eval (.Name n npos) X.env := by rfl) (hline : (apos.endLine == cpos.line) = true := by rfl) :
    wpAny (model X.P X.w) X.A (eval (.Call (.Attribute (.Name n npos) "pop" apos) [] [] cpos) X.env) Q E s := by
  obtain ⟨its, p, pl⟩ := L
  obtain ⟨us, u, rfl, p1, ry⟩ := paired_snoc p
  have len := p1.length
  exact r_popP I hn pl (by omega) (fun s' st pl' z => q u s' ry st ⟨us, p1, pl'⟩ z) hk hd hcd hbase hline
/-- l.extend(m) -/
theorem r_extendP {n : PySem.Str} {npos apos cpos : Pos} {e : Expr} {l : Addr} {its : List Value} {Q : Value → Shared → Prop} (I : RI X r s) (hn : r.lookup n = some (.ref l)) (L : s.heap.PlainList l its.toArray)
    (h : wpAny (model X.P X.w) X.A (eval e X.env) (fun v s1 => ∃ b its2, v = .ref b ∧ s1.heap.PlainList l its.toArray ∧ s1.heap.PlainList b its2.toArray ∧ its.length + its2.length ≤ sizeLine ∧ ∀ s', Step (fun b => b = l) s1 s' → s'.heap.PlainList l (its ++ its2).toArray → s'.heap.objs.size = s1.heap.objs.size → Q .none s') E s)
    (hk : X.env.kindOf n = some .local ∨ X.env.kindOf n = some .cell ∨ X.env.kindOf n = some .free := by first | exact .inl rfl | exact .inr (.inl rfl) | exact .inr (.inr rfl)) (hd : (n == ("__debug__" : PySem.Str)) = false := by decide) (hcd : (n == ("__classdict__" : PySem.Str)) = false := by decide)
    (hbase : attributeBase (.Name n npos) "extend" X.env (eval (.Name n npos) X.env) = eval (.Name n npos) X.env := by rfl)
    (hfew : ((backTo cpos (starEach [e] X.env)).all (fun x => !x.1) && (backToKw cpos (keywordEach [] X.env)).all (fun x => x.1.isSome) && decide ([e].length + ([] : List Keyword).length + (if ([] : List Keyword).isEmpty then 0 else 1) < 30)) = true := by rfl)
    (hline : (apos.endLine == cpos.line) = true := by rfl) (hs : starEach [e] X.env = (false, eval e X.env) :: starEach [] X.env := by rfl) :
    wpAny (model X.P X.w) X.A (eval (.Call (.Attribute (.Name n npos) "extend" apos) [e] [] cpos) X.env) Q E s := by
  refine r_lm1 (R := fun (a b : Value) => a = b) I hn ⟨its, paired_refl _, L⟩ PySem.F.slot_list_extend PySem.F.type_list_extend (thn h fun v s1 ⟨b, its2, ev, ⟨m, ho⟩, ⟨m2, ho2⟩, hz, q⟩ => ?_) hk hd hcd hbase hfew hline hs
  subst ev
  have hsz : its.toArray.size + its2.toArray.size ≤ sizeLine := by rw [List.size_toArray, List.size_toArray]; omega
  have short : ¬ (!its.toArray.isEmpty && Builtin.List.listTooLong (its.toArray.size + its2.toArray.size)) = true := by
    rw [notLongL hsz, Bool.and_false]
    exact Bool.false_ne_true
  refine call_meets PySem.F.slot_list_extend ⟨_, ho, rfl⟩ PySem.F.entry_list_extend (PySem.F.args_list_extend_2 _ _) (AutoSeq1.list_extend_list_list_0 l its.toArray m b its2.toArray m2 short (by rw [List.size_toArray]; omega) (by omega)) ⟨ho, ho2, ?_⟩
  refine q _ (.of (tk := s1.toks) (d := s1.drawn) fun b o nb e => (Heap.get?_update_other _ _ (Ne.symm nb)).trans e) ?_ (Heap.size_update ..)
  obtain ⟨m', e1⟩ := seq_upd (fun x => x ++ its2.toArray) ho
  exact ⟨m', by rw [← List.append_toArray]; exact e1⟩
theorem r_extend {n : PySem.Str} {npos apos cpos : Pos} {e : Expr} {l : Addr} {xs zs : List α} {Q : Value → Shared → Prop} (I : RI X r s) (hn : r.lookup n = some (.ref l)) (L : LsR R s.heap l xs)
    (h : wpAny (model X.P X.w) X.A (eval e X.env) (fun v s1 => ∃ b, v = .ref b ∧ Step No s s1 ∧ LsR R s1.heap b zs ∧ xs.length + zs.length ≤ sizeLine ∧ ∀ s', Step (fun b => b = l) s1 s' → LsR R s'.heap l (xs ++ zs) → s'.heap.objs.size = s1.heap.objs.size → Q .none s') E s)
    (hk : X.env.kindOf n = some .local ∨ X.env.kindOf n = some .cell ∨ X.env.kindOf n = some .free := by first | exact .inl rfl | exact .inr (.inl rfl) | exact .inr (.inr rfl)) (hd : (n == ("__debug__" : PySem.Str)) = false := by decide) (hcd : (n == ("__classdict__" : PySem.Str)) = false := by decide)
    (hbase : attributeBase (.Name n npos) "extend" X.env (eval (.Name n npos) X.env) = eval (.Name n npos) X.env := by rfl)
    (hfew : ((backTo cpos (starEach [e] X.env)).all (fun x => !x.1) && (backToKw cpos (keywordEach [] X.env)).all (fun x => x.1.isSome) && decide ([e].length + ([] : List Keyword).length + (if ([] : List Keyword).isEmpty then 0 else 1) < 30)) = true := by rfl)
    (hline : (apos.endLine == cpos.line) = true := by rfl) (hs : starEach [e] X.env = (false, eval e X.env) :: starEach [] X.env := by rfl) :
    wpAny (model X.P X.w) X.A (eval (.Call (.Attribute (.Name n npos) "extend" apos) [e] [] cpos) X.env) Q E s := by
  obtain ⟨its, p, pl⟩ := L
  refine r_extendP I hn pl (thn h fun v s1 ⟨b, ev, st, ⟨its2, p2, pl2⟩, hz, q⟩ => ⟨b, its2, ev, pl.at fun o e => st.keep0 _ _ e, pl2, ?_, fun s' st' pl' z => q s' st' ⟨its ++ its2, paired_append p p2, pl'⟩ z⟩) hk hd hcd hbase hfew hline hs
  have l1 := p.length
  have l2 := p2.length
  omega
/-- a, b = x, y where the pair is laid and taken apart -/
theorem r_pair {a b : PySem.Str} {pa pb pt pt2 pos : Pos} {e1 e2 : Expr} {kt k2 : Nat} {Q : Flow → Shared → Prop}
    (h : wpAny (model X.P X.w) X.A (eval e1 X.env) (fun v1 s1 => wpAny (model X.P X.w) X.A (eval e2 X.env) (fun v2 s2 => ∃ r2, RI X r2 s2 ∧
      ∀ s' sM, Step No s2 sM → Step (fun c => At X.env a c ∨ At X.env b c) sM s' → RI X ((b, v2) :: (a, v1) :: r2) s' → s'.heap.objs.size = sM.heap.objs.size → Q .next s') E s1) E s) (hh : X.A.handled = none)
    (ka : X.env.kindOf a = some .local ∨ X.env.kindOf a = some .cell) (kb : X.env.kindOf b = some .local ∨ X.env.kindOf b = some .cell)
    (hst : starEach [e1, e2] X.env = (false, eval e1 X.env) :: (false, eval e2 X.env) :: starEach [] X.env := by rfl)
    (hs : swapsWithSole [.Tuple [.Name a pa, .Name b pb] kt pt] (.Tuple [e1, e2] k2 pt2) pos.line X.env = pure false := by rfl) (hw : swappedStores [.Tuple [.Name a pa, .Name b pb] kt pt] (.Tuple [e1, e2] k2 pt2) X.env = pure none := by rfl) :
    wpAny (model X.P X.w) X.A (exec (.Assign [.Tuple [.Name a pa, .Name b pb] kt pt] (.Tuple [e1, e2] k2 pt2) pos) X.env) Q E s := by
  refine wpAny_Assign_stores (wpAny_Tuple_spliced (r_arg2 (thn h fun v1 s1 h1 => thn h1 fun v2 s2 ⟨r2, I2, q⟩ => ⟨show 2 ≤ sizeLine by decide, ?_⟩) hst)) hs hw
  show wpAny _ _ (assign (.Tuple [.Name a pa, .Name b pb] kt pt) X.env (.ref s2.heap.objs.size)) _ _ _
  have st1 : Step No s2 { s2 with heap := s2.heap.push { cls := .type "tuple", data := .seq [v1, v2].toArray } } := .ofK (tk := s2.toks) (d := s2.drawn) (Keep.push _ _)
  refine wpAny_assign_Tuple (items := #[v1, v2]) hh ⟨_, Heap.get?_push_size _ rfl, rfl, 0, rfl⟩ rfl rfl fun h' hx => ?_
  have st2 : Step No { s2 with heap := s2.heap.push { cls := .type "tuple", data := .seq [v1, v2].toArray } } { s2 with heap := h' } := .ofK (tk := s2.toks) (d := s2.drawn) fun b o e => hx b o (Nat.ne_of_lt (Heap.lt_size e)) e
  show wpAny _ _ (assignInOrder [assign (.Name a pa) _, assign (.Name b pb) _] [v1, v2]) _ _ _
  have I3 := I2.step0 (st1.trans st2)
  refine wpAny_assignInOrder_more (wpAny_assign_Name (r_store I3 ka fun s4 I4 st4 z4 => ?_))
  refine wpAny_assignInOrder_more (wpAny_assign_Name (r_store I4 kb fun s5 I5 st5 z5 => wpAny_assignInOrder_none ?_))
  exact q s5 _ (st1.trans st2) ((st4.mono fun _ => .inl).trans (st5.mono fun _ => .inr)) I5 (z5.trans z4)
end
end K25

set_option Elab.async false
set_option linter.all false
set_option maxRecDepth 100000
/-! K25, part MB: the search of reached_from, in plain Lean -/
namespace K25
open PySem
abbrev Gr := List (Str × List Str)
def par (G : Gr) (x : Str) : List Str := (G.lookup x).getD []
def rloop (G : Gr) : Nat → List Str → List Str → List Str
  | 0, found, _ => found
  | n + 1, found, waiting => match waiting.getLast? with
    | none => found
    | some y => rloop G n (found ++ (par G y).filter fun z => !found.contains z) (waiting.dropLast ++ (par G y).filter fun z => !found.contains z)
def fuelR (G : Gr) : Nat := 2 * G.length + 2
def rch (G : Gr) (x : Str) : List Str := rloop G (fuelR G) [x] [x]
/-- every parent is a node of its own, the rows are sorted -/
structure GrOk (G : Gr) : Prop where
  nd : (G.map (·.1)).Nodup
  up : ∀ p ∈ G, Up p.2
  cl : ∀ p ∈ G, ∀ y ∈ p.2, y ∈ G.map (·.1)
theorem lookup_some {α : Type} : ∀ {G : List (Str × α)} {x : Str}, x ∈ G.map (·.1) → ∃ b, G.lookup x = some b ∧ (x, b) ∈ G
  | (k, b) :: G, x, h => by
    by_cases e : x = k
    · subst e
      exact ⟨b, by rw [List.lookup_cons, beq_self_eq_true], .head _⟩
    · rcases List.mem_cons.mp h with z | z
      · exact absurd z e
      · obtain ⟨c, h1, h2⟩ := lookup_some z
        exact ⟨c, by rw [List.lookup_cons, show (x == k) = false from beq_eq_false_iff_ne.mpr e]; exact h1, .tail _ h2⟩
theorem par_up {G : Gr} (ok : GrOk G) (x : Str) : Up (par G x) ∧ ∀ y ∈ par G x, y ∈ G.map (·.1) := by
  by_cases h : x ∈ G.map (·.1)
  · obtain ⟨b, e, m⟩ := lookup_some h
    unfold par
    rw [e]
    exact ⟨ok.up _ m, ok.cl _ m⟩
  · have e : G.lookup x = none := by
      cases q : G.lookup x with
      | none => rfl
      | some b =>
        refine absurd ?_ h
        clear ok h
        induction G with
        | nil => cases q
        | cons p G ih =>
          rw [List.lookup_cons] at q
          by_cases e : x = p.1
          · rw [e]; exact .head _
          · rw [show (x == p.1) = false from beq_eq_false_iff_ne.mpr e] at q
            exact .tail _ (ih q)
    unfold par
    rw [e]
    exact ⟨.nil, fun y hy => by cases hy⟩
/-- where the loop stands -/
structure RSt (G : Gr) (x : Str) (n : Nat) (found waiting : List Str) : Prop where
  nd : found.Nodup
  fk : ∀ y ∈ found, y ∈ G.map (·.1)
  wk : ∀ y ∈ waiting, y ∈ G.map (·.1)
  le : 2 * (G.length - found.length) + waiting.length ≤ n
  top : n ≤ fuelR G
  eq : rloop G n found waiting = rch G x
theorem nodup_le : ∀ {l m : List Str}, l.Nodup → (∀ x, x ∈ l → x ∈ m) → l.length ≤ m.length
  | [], _, _, _ => Nat.zero_le _
  | a :: r, m, nd, i => by
    obtain ⟨n1, n2⟩ := List.nodup_cons.mp nd
    have am := i a (.head _)
    have h1 := nodup_le n2 (m := m.erase a) fun x hx => (List.mem_erase_of_ne (fun z : x = a => n1 (by rw [← z]; exact hx))).mpr (i x (.tail _ hx))
    have e := List.length_erase_of_mem am
    have p : 0 < m.length := List.length_pos_of_mem am
    rw [List.length_cons]
    omega
theorem RSt.start {G : Gr} {x : Str} (h : x ∈ G.map (·.1)) : RSt G x (fuelR G) [x] [x] := by
  refine ⟨List.pairwise_singleton _ _, fun y hy => by rw [List.mem_singleton.mp hy]; exact h, fun y hy => by rw [List.mem_singleton.mp hy]; exact h, ?_, Nat.le_refl _, rfl⟩
  unfold fuelR
  simp only [List.length_singleton]
  omega
theorem RSt.turn {G : Gr} {x : Str} {n : Nat} {found ws : List Str} {y : Str} (ok : GrOk G) (h : RSt G x n found (ws ++ [y])) :
    ∃ m, n = m + 1 ∧ RSt G x m (found ++ (par G y).filter fun z => !found.contains z) (ws ++ (par G y).filter fun z => !found.contains z) := by
  obtain ⟨nd, fk, wk, le, top, eq⟩ := h
  obtain ⟨pu, pk⟩ := par_up ok y
  rw [List.length_append, List.length_singleton] at le
  cases n with
  | zero => omega
  | succ m =>
    have fresh : (found ++ (par G y).filter fun z => !found.contains z).Nodup := by
      refine List.nodup_append.mpr ⟨nd, (up_nodup pu).filter _, fun a ha b hb e => ?_⟩
      have := (List.mem_filter.mp hb).2
      rw [← e] at this
      simp at this
      exact this ha
    have fk' : ∀ z ∈ found ++ (par G y).filter fun z => !found.contains z, z ∈ G.map (·.1) := fun z hz => by
      rcases List.mem_append.mp hz with hz | hz
      · exact fk z hz
      · exact pk z (List.mem_filter.mp hz).1
    have bound := nodup_le fresh fk'
    rw [List.length_map, List.length_append] at bound
    refine ⟨m, rfl, fresh, fk', fun z hz => ?_, ?_, Nat.le_of_succ_le top, ?_⟩
    · rcases List.mem_append.mp hz with hz | hz
      · exact wk z (List.mem_append_left _ hz)
      · exact pk z (List.mem_filter.mp hz).1
    · rw [List.length_append, List.length_append]
      omega
    · rw [← eq]
      simp only [rloop, List.getLast?_concat, List.dropLast_concat]
theorem RSt.stop {G : Gr} {x : Str} {n : Nat} {found : List Str} (h : RSt G x n found []) : found = rch G x := by
  rw [← h.eq]
  cases n <;> rfl
end K25

set_option Elab.async false
set_option linter.all false
set_option maxRecDepth 100000
set_option maxHeartbeats 4000000
/-! K25, part RQ: reached_from -/
namespace K25
open PySem PySem.Spec PyProof.Rows L2
section
variable {X : RX} {r : List (PySem.Str × Value)} {s s' : Shared} {E : Value → Shared → Prop} {α : Type} {R : α → Value → Prop} {x : PySem.Str}

/-- l != [] -/
theorem t_neNil {n : PySem.Str} {np lp cp : Pos} {whole : Sem Value} {l : Addr} {xs : List α} {Q : Bool → Shared → Prop} (I : RI X r s) (hn : r.lookup n = some (.ref l)) (L : LsR R s.heap l xs) (hu : X.A.units < cLine) (q : ∀ s', Step No s s' → Q (!xs.isEmpty) s')
    (hk : X.env.kindOf n = some .local ∨ X.env.kindOf n = some .cell ∨ X.env.kindOf n = some .free := by first | exact .inl rfl | exact .inr (.inl rfl) | exact .inr (.inr rfl)) (hd : (n == ("__debug__" : PySem.Str)) = false := by decide) (hcd : (n == ("__classdict__" : PySem.Str)) = false := by decide) :
    wpAny (model X.P X.w) X.A (isTrue (.Compare (.Name n np) [.NotEq] [.List [] lp] cp) X.env whole) Q E s := by
  refine r_tcmp (r_name I hn (wpAny_List_spliced (Calls.spliced_nil ⟨Nat.zero_le _, ?_⟩)) hk hd hcd)
  have st : Step No s { s with heap := s.heap.push { cls := .type "list", data := .seq ([] : List Value).toArray } } := .ofK (tk := s.toks) (d := s.drawn) (Keep.push _ _)
  obtain ⟨its, p, pl⟩ := L.keep st.keep0
  have nl : (s.heap.push { cls := .type "list", data := .seq ([] : List Value).toArray }).IsList s.heap.objs.size #[] := ⟨_, Heap.get?_push_size _ rfl, rfl, 0, rfl⟩
  have len := p.length
  show wpAny _ _ (richCompare .NotEq (.ref l) (.ref s.heap.objs.size)) _ _ _
  cases xs with
  | nil =>
    cases p
    exact SeqAt.RcNeAt.lists (s := { s with heap := _ }) (e := fun _ => true) pl.isList nl rfl hu (fun j h1 => absurd h1 (Nat.not_lt_zero _)) X.P X.w _ _ (wpAny_truthy_bool (q _ st))
  | cons x xs =>
    exact SeqAt.RcNeAt.lists_lengths (s := { s with heap := _ }) pl.isList nl (by rw [List.size_toArray, ← len]; simp) hu X.P X.w _ _ (wpAny_truthy_bool (q _ st))
theorem any_tx : ∀ {xs : List PySem.Str} {its : List Value}, Paired Tx xs its → its.any (fun v => txOf v == x) = xs.contains x
  | _, _, .nil => rfl
  | _, _, .cons ⟨t, e⟩ p => by
    subst e
    rw [List.any_cons, List.contains_cons, any_tx p]
    congr 1
    show (_ == x) = (x == _)
    exact BEq.comm
theorem eq_tx {A : Around} {xs : List PySem.Str} {its : List Value} {t : Tok} (p : Paired Tx xs its) : ∀ v ∈ its, SeqAt.EqAt A s v (.str x t) (txOf v == x) := by
  induction p with
  | nil => intro v hv; cases hv
  | cons h _ ih =>
    intro v hv
    rcases List.mem_cons.mp hv with rfl | hv
    · obtain ⟨u, rfl⟩ := h
      exact SeqAt.EqAt.str_str _ u x t
    · exact ih v hv
/-- x in l, x not in l, l a list of texts -/
theorem r_inL {l : Addr} {xs : List PySem.Str} {u : Value} {Q : Value → Shared → Prop} (L : TxL s.heap l xs) (hx : Tx x u) (q : Q (.bool (xs.contains x)) s) : wpAny (model X.P X.w) X.A (compareOp .In u (.ref l)) Q E s := by
  obtain ⟨its, p, pl⟩ := L
  obtain ⟨t, rfl⟩ := hx
  refine SeqAt.in_listAt (fun v => txOf v == x) pl.isList (fun v hv => eq_tx p v (by simpa using hv)) ?_
  rw [List.any_toArray, any_tx p]
  exact q
theorem r_notInL {l : Addr} {xs : List PySem.Str} {u : Value} {Q : Value → Shared → Prop} (L : TxL s.heap l xs) (hx : Tx x u) (q : Q (.bool (!xs.contains x)) s) : wpAny (model X.P X.w) X.A (compareOp .NotIn u (.ref l)) Q E s := by
  obtain ⟨its, p, pl⟩ := L
  obtain ⟨t, rfl⟩ := hx
  refine SeqAt.notIn_listAt (fun v => txOf v == x) pl.isList (fun v hv => eq_tx p v (by simpa using hv)) ?_
  rw [List.any_toArray, any_tx p]
  exact q
/-- [e] of one item -/
theorem r_list1 {e : Expr} {pos : Pos} {Q : Value → Shared → Prop} (h : wpAny (model X.P X.w) X.A (eval e X.env) (fun v s1 => ∀ s', Step No s1 s' → s'.heap.PlainList s1.heap.objs.size #[v] → Q (.ref s1.heap.objs.size) s') E s)
    (he : starEach [e] X.env = (false, eval e X.env) :: starEach [] X.env := by rfl) : wpAny (model X.P X.w) X.A (eval (.List [e] pos) X.env) Q E s := by
  refine wpAny_List_spliced (r_arg1 (thn h fun v s1 q => ⟨show 1 ≤ sizeLine by decide, q _ (.ofK (tk := s1.toks) (d := s1.drawn) (Keep.push _ _)) ⟨0, Heap.get?_push_size _ rfl⟩⟩) he)
end

theorem RI.drop {X : RX} {r : List (PySem.Str × Value)} {s : Shared} {y : PySem.Str} {v : Value} (I : RI X ((y, v) :: r) s) (h : r.lookup y = none) : RI X r s := I.less fun x u e => by
  by_cases hx : x = y
  · rw [hx, h] at e; cases e
  · rw [lookup_cons_ne hx]; exact e
theorem filterMap_not (found xs : List PySem.Str) : (xs.filterMap fun z => if found.contains z then none else some z) = xs.filter fun z => !found.contains z := by
  induction xs with
  | nil => rfl
  | cons a r ih =>
    rw [List.filterMap_cons, List.filter_cons]
    cases h : found.contains a <;> simp only [if_true, Bool.false_eq_true, if_false, Bool.not_true, Bool.not_false, ih]
theorem scReach : FnScope ["edges", "node", "found", "waiting", "fresh"] ["edges", "node"] (defScope (top 34)) := ⟨rfl, rfl, rfl, by decide +kernel, rfl, by decide +kernel, by decide +kernel⟩
section
variable {P : Program} {w : World} {K : PySem.W.Frag} {mg : PySem.Str → Option Value} {base : Heap} {k : Nat} {f C : Addr} {fd : FuncData}
theorem rf_reach (F : Fun K "reached_from" "reached_from" (top 34) f fd) (mod : L2.Mod K mg base) (G : Gr) (ok : GrOk G) (h41 : G.length ≤ 41) (x : PySem.Str) (hx : x ∈ G.map (·.1)) :
    RFn P w base (k + 1) f fd ["edges", "node"] (fun us h => ∃ d v, us = [.ref d, v] ∧ DcR P w RowV h d G ∧ Tx x v) (fun _ h h' r => ∃ l, r = .ref l ∧ h.objs.size ≤ l ∧ TxL h' l (rch G x)) := by
  refine rfn F scReach mod fun cdv A s us s1 hr hl hp st ow I => ?_
  obtain ⟨d, v, rfl, hD, hv⟩ := hp
  refine wpAny_execs_cons (r_pair (X := ⟨P, w, K, mg, base, _, _⟩) ?_ hr.hd (.inr rfl) (.inl rfl))
  refine r_list1 (X := ⟨P, w, K, mg, base, _, _⟩) (r_name I rfl fun s2 st2 hA => ?_)
  have I2 := I.step0 st2
  refine r_list1 (X := ⟨P, w, K, mg, base, _, _⟩) (r_name I2 rfl fun s3 st3 hB => ⟨_, I2.step0 st3, fun s4 sM stM st4 I4 z4 => ?_⟩)
  have ltA : s1.heap.objs.size < s2.heap.objs.size := by
    obtain ⟨n, e⟩ := hA
    exact Heap.lt_size e
  have oA := I.new (Nat.le_refl _)
  have oB := I2.new (Nat.le_refl _)
  have old1 : s.heap.objs.size ≤ s1.heap.objs.size := Nat.le_of_lt (Nat.lt_of_le_of_lt (ow _ (.inl rfl)) (I.lt (.inl rfl)))
  generalize hea : s1.heap.objs.size = a at *
  generalize heb : s2.heap.objs.size = b at *
  have stO : Step (fun c => s.heap.objs.size ≤ c) s s4 := st.any.trans (st2.any.trans (st3.any.trans (stM.any.trans (st4.mono fun c hc => ow c (hc.elim (at_own c) (at_own c))))))
  have nAt : ∀ {c : Addr}, ¬ Own (envOfC "reached_from" (defScope (top 34)) s.heap.objs.size f cdv) c → ¬ (At (envOfC "reached_from" (defScope (top 34)) s.heap.objs.size f cdv) "found" c ∨ At (envOfC "reached_from" (defScope (top 34)) s.heap.objs.size f cdv) "waiting" c) := fun n z => n (z.elim (at_own _) (at_own _))
  have LA : TxL s4.heap a [x] := by
    refine LsR.keepX st4.keep (nAt oA.1) (LsR.keep (st3.keep0.trans stM.keep0) (⟨[v], .cons hv .nil, hA⟩ : TxL s2.heap a [x]))
  have LB : TxL s4.heap b [x] := by
    refine LsR.keepX st4.keep (nAt oB.1) (LsR.keep stM.keep0 (⟨[v], .cons hv .nil, hB⟩ : TxL s3.heap b [x]))
  refine wpAny_execs_cons (wpAny_While (codeAny_whileLoop (fun n sT => ∃ found waiting, Step (fun c => s.heap.objs.size ≤ c) s sT ∧ RI ⟨P, w, K, mg, base, _, _⟩ [("waiting", .ref b), ("found", .ref a), ("node", v), ("edges", .ref d)] sT ∧ TxL sT.heap a found ∧ TxL sT.heap b waiting ∧ RSt G x n found waiting) ?_ (fuelR G) ⟨_, _, stO, I4, LA, LB, .start hx⟩))
  rintro n sT ⟨found, waiting, stT, IT, La, Lb, hst⟩
  refine t_neNil IT rfl Lb (Nat.lt_of_le_of_lt (Nat.le_add_right _ 64) hr.units) fun s5 st5 => ?_
  have I5 := IT.step0 st5
  have La5 := La.keep st5.keep0
  have Lb5 := Lb.keep st5.keep0
  have stT5 : Step (fun c => s.heap.objs.size ≤ c) s s5 := stT.trans st5.any
  rcases List.eq_nil_or_concat waiting with rfl | ⟨ws, y, rfl⟩
  · show wpAny _ _ (execs [] _) _ _ _
    refine wpAny_execs_nil ?_
    show wpAny _ _ (execs _ _) _ _ _
    refine wpAny_execs_cons (wpAny_Return_some (r_name I5 rfl ⟨stT5, _, .inl rfl, a, rfl, old1, ?_⟩))
    rw [← hst.stop]
    exact La5
  · rw [List.concat_eq_append] at *
    rw [show (!(ws ++ [y]).isEmpty) = true by cases ws <;> rfl]
    show wpAny _ _ (execs _ _) _ _ _
    have hwz : ws.length + 1 ≤ 2 * 41 + 2 := by
      have h1 := hst.le
      have h2 := hst.top
      unfold fuelR at h2
      rw [List.length_append, List.length_singleton] at h1
      omega
    obtain ⟨row, hrow, hmem⟩ := lookup_some (hst.wk y (List.mem_append_right _ (.head _)))
    obtain ⟨m, rfl, hst'⟩ := hst.turn ok
    have hpar : par G y = row := by unfold par; rw [hrow]; rfl
    rw [hpar] at hst'
    refine wpAny_execs_cons (r_setlcV (xs := row) (g := fun z => if found.contains z then none else some z) (Rout := Tx) I5 (blk_by (out := defScope (top 34)) (by decide +kernel) rfl) rfl ?_ rfl)
    refine r_dsub (R := RowV) hrow (r_name I5 rfl (r_pop I5 rfl Lb5 (Nat.le_trans hwz (by decide)) fun u s6 hu st6 Lb6 z6 => ?_))
    have nb : ∀ c, c = b → ¬ Own (envOfC "reached_from" (defScope (top 34)) s.heap.objs.size f cdv) c ∧ base.objs.size ≤ c := fun c e => by rw [e]; exact oB
    have I6 := I5.step st6 nb
    have oldB : s.heap.objs.size ≤ b := Nat.le_trans old1 (Nat.le_of_lt ltA)
    have stT6 : Step (fun c => s.heap.objs.size ≤ c) s s6 := stT5.trans (st6.mono fun c e => by rw [e]; exact oldB)
    have neAB : ¬ a = b := Nat.ne_of_lt ltA
    have La6 : TxL s6.heap a found := La5.keepX st6.keep neAB
    refine ⟨d, rfl, hD.keep (fun _ _ => RowV.keep stT6.old.keep0) stT6.old.keep0, hu, fun vr ⟨lr, er, Lr, zr⟩ => ?_⟩
    subst er
    obtain ⟨its, pr, pl⟩ := Lr
    have I7 := I6.tok (s6.toks + 1)
    refine ⟨_, _, I7, apar_by (l := ["waiting", "found", "node", "edges"]) (by decide +kernel) rfl, Nat.le_trans zr (by decide), Src.list hr.hd pl.isList (by rw [List.size_toArray]; exact pr.length), fun C' i z vz s8 hz hP I8 st8 => ?_, fun D s9 st9 hD9 I9 L9 => ?_⟩
    · obtain ⟨z', e1, tz⟩ := paired_get i pr (by simpa using hP)
      rw [hz] at e1
      cases e1
      refine wpAny_tests_one (r_tcmp (r_name I8 rfl (r_name I8 rfl (r_notInL (La6.keep st8.keep0) tz (wpAny_truthy_bool ?_)))))
      cases found.contains z with
      | true => exact ⟨rfl, .refl _, fun y e => by cases e⟩
      | false => exact ⟨rfl, .refl _, fun y e => by cases e; exact r_name I8 rfl ⟨.refl _, tz⟩⟩
    · rw [filterMap_not] at L9
      have atO : ∀ c, At (envOfC "reached_from" (defScope (top 34)) s.heap.objs.size f cdv) "fresh" c → s.heap.objs.size ≤ c := fun c hc => ow c (at_own c hc)
      have stT9 : Step (fun c => s.heap.objs.size ≤ c) s s9 := stT6.trans ((Step.toks (s6.toks + 1)).trans (st9.mono atO))
      have La9 : TxL s9.heap a found := La6.keepX st9.keep fun z => oA.1 (at_own _ z)
      have Lb9 : TxL s9.heap b ws := Lb6.keepX st9.keep fun z => oB.1 (at_own _ z)
      have fz : found.length ≤ 41 := by
        have h1 := nodup_le hst.nd hst.fk
        rw [List.length_map] at h1
        omega
      have rz : (row.filter fun z => !found.contains z).length ≤ 250 := Nat.le_trans (List.length_filter_le _ _) zr
      have ltD : b < D := Nat.lt_of_lt_of_le Lb6.lt hD9
      have neDA : ¬ D = a := fun z => absurd ltD (by rw [z]; exact Nat.not_lt.mpr (Nat.le_of_lt ltA))
      have neDB : ¬ D = b := Nat.ne_of_gt ltD
      have big : 84 + 250 ≤ sizeLine := by decide
      refine wpAny_execs_cons (r_expr (X := ⟨P, w, K, mg, base, _, _⟩) (r_extend I9 rfl La9 (r_name I9 rfl ⟨D, rfl, .refl _, L9, by omega, fun s10 st10 La10 z10 => ?_⟩)))
      have I10 := I9.step st10 fun c e => by rw [e]; exact oA
      have Lb10 := Lb9.keepX st10.keep (Nat.ne_of_gt ltA)
      have L10 := L9.keepX st10.keep neDA
      refine wpAny_execs_cons (r_expr (X := ⟨P, w, K, mg, base, _, _⟩) (r_extend I10 rfl Lb10 (r_name I10 rfl ⟨D, rfl, .refl _, L10, by omega, fun s11 st11 Lb11 z11 => ?_⟩)))
      have I11 := I10.step st11 nb
      have La11 := La10.keepX st11.keep neAB
      exact wpAny_execs_nil ⟨m, Nat.lt_succ_self m, _, _, stT9.trans ((st10.mono fun c e => by rw [e]; exact old1).trans (st11.mono fun c e => by rw [e]; exact oldB)), I11.drop rfl, La11, Lb11, hst'⟩
end
end K25

set_option Elab.async false
set_option linter.all false
set_option maxRecDepth 100000
set_option maxHeartbeats 4000000
/-! K25, part RS: has_way -/
namespace K25
open PySem PySem.Spec PyProof.Rows L2
/-- a table as Choices takes it -/
structure TOk (T : Tbl) : Prop where
  nd : (T.map (·.1)).Nodup
  nr : root ∉ T.map (·.1)
  h40 : T.length ≤ 40
  cl : ∀ p ∈ T, ∀ z ∈ parO p.2, z = root ∨ z ∈ T.map (·.1)
theorem edg_keys (T : Tbl) : (edg T).map (·.1) = root :: T.map (·.1) := by
  unfold edg
  rw [List.map_cons, List.map_map]
  rfl
theorem edg_ok {T : Tbl} (ok : TOk T) : GrOk (edg T) := by
  refine ⟨?_, fun p hp => ?_, fun p hp y hy => ?_⟩
  · rw [edg_keys]
    exact List.nodup_cons.mpr ⟨ok.nr, ok.nd⟩
  · rcases List.mem_cons.mp hp with rfl | hp
    · exact .nil
    · obtain ⟨q, _, rfl⟩ := List.mem_map.mp hp
      exact srt_up _
  · rw [edg_keys]
    rcases List.mem_cons.mp hp with rfl | hp
    · cases hy
    · obtain ⟨q, hq, rfl⟩ := List.mem_map.mp hp
      rcases ok.cl q hq y hy with z | z
      · rw [z]; exact .head _
      · exact .tail _ z
theorem edg_len {T : Tbl} (ok : TOk T) : (edg T).length ≤ 41 := by
  unfold edg
  rw [List.length_cons, List.length_map]
  exact Nat.succ_le_succ ok.h40
/-- a node of the table, or the root -/
def Known (T : Tbl) (x : PySem.Str) : Prop := x = root ∨ (T.lookup x).isSome = true
theorem lookup_isSome {α : Type} {T : List (PySem.Str × α)} {x : PySem.Str} (h : (T.lookup x).isSome = true) : x ∈ T.map (·.1) := by
  induction T with
  | nil => cases h
  | cons p T ih =>
    rw [List.lookup_cons] at h
    by_cases e : x = p.1
    · rw [e]; exact .head _
    · rw [show (x == p.1) = false from beq_eq_false_iff_ne.mpr e] at h
      exact .tail _ (ih h)
theorem Known.key {T : Tbl} {x : PySem.Str} (h : Known T x) : x ∈ (edg T).map (·.1) := by
  rw [edg_keys]
  rcases h with rfl | h
  · exact .head _
  · exact .tail _ (lookup_isSome h)
/-- what the defs below ways promise, for one table -/
structure Base (P : Program) (w : World) (K : PySem.W.Frag) (mg : PySem.Str → Option Value) (base : Heap) (C : Addr) (k : Nat) (T : Tbl) : Prop where
  known : ∃ f fd, mg "require_known" = some (.ref f) ∧ PySem.W.keepIn K (.ref f) = true ∧ Binds K fd ["choices", "value"] [] ∧ ∀ x, Known T x → RFn P w base k f fd ["choices", "value"] (fun us h => ∃ a v, us = [.ref a, v] ∧ Cho P w C h a T ∧ Tx x v) (fun _ _ _ r => r = .none)
  edges : ∃ f fd, mg "edges_of" = some (.ref f) ∧ PySem.W.keepIn K (.ref f) = true ∧ Binds K fd ["choices"] [] ∧ RFn P w base k f fd ["choices"] (fun us h => ∃ a, us = [.ref a] ∧ Cho P w C h a T) (fun _ h h' r => ∃ d, r = .ref d ∧ h.objs.size ≤ d ∧ DcR P w RowV h' d (edg T) ∧ ∀ b, RefIn h' d b → h.objs.size ≤ b)
  reach : ∃ f fd, mg "reached_from" = some (.ref f) ∧ PySem.W.keepIn K (.ref f) = true ∧ Binds K fd ["edges", "node"] [] ∧ ∀ x, x ∈ (edg T).map (·.1) → RFn P w base k f fd ["edges", "node"] (fun us h => ∃ d v, us = [.ref d, v] ∧ DcR P w RowV h d (edg T) ∧ Tx x v) (fun _ h h' r => ∃ l, r = .ref l ∧ h.objs.size ≤ l ∧ TxL h' l (rch (edg T) x))
theorem scHas : FnScope ["choices", "node", "other"] ["choices", "node", "other"] (defScope (top 36)) := ⟨rfl, rfl, rfl, by decide +kernel, rfl, by decide +kernel, by decide +kernel⟩
section
variable {P : Program} {w : World} {K : PySem.W.Frag} {mg : PySem.Str → Option Value} {base : Heap} {k : Nat} {f C : Addr} {fd : FuncData} {T : Tbl} {x y : PySem.Str}
theorem rf_has (F : Fun K "has_way" "has_way" (top 36) f fd) (mod : L2.Mod K mg base) (B : Base P w K mg base C k T) (hx : Known T x) (hy : Known T y) :
    RFn P w base (k + 1) f fd ["choices", "node", "other"] (fun us h => ∃ a v u, us = [.ref a, v, u] ∧ Cho P w C h a T ∧ Tx x v ∧ Tx y u) (fun _ _ _ r => r = .bool ((rch (edg T) x).contains y)) := by
  obtain ⟨fk, fdk, mk, kk, bk, Fk⟩ := B.known
  obtain ⟨fe, fde, me, ke, be, Fe⟩ := B.edges
  obtain ⟨fr, fdr, mr, kr, br, Fr⟩ := B.reach
  refine rfn F scHas mod fun cdv A s us s1 hr hl hp st ow I => ?_
  obtain ⟨a, v, u, rfl, hC, hv, hu⟩ := hp
  have hC1 := hC.keep st.keep0
  refine wpAny_execs_cons (r_expr (X := ⟨P, w, K, mg, base, _, _⟩) (r_call I mk kk (r_arg2 (r_name I rfl (r_name I rfl ⟨I.kIn, RFn.call (X := ⟨P, w, K, mg, base, _, _⟩) (Fk x hx) hr bk I rfl ⟨a, v, rfl, hC1, hv⟩ fun _ s2 st2 _ => ?_⟩)))))
  have I2 := I.step0 st2
  have hC2 := hC1.keep st2.keep0
  refine wpAny_execs_cons (r_expr (X := ⟨P, w, K, mg, base, _, _⟩) (r_call I2 mk kk (r_arg2 (r_name I2 rfl (r_name I2 rfl ⟨I2.kIn, RFn.call (X := ⟨P, w, K, mg, base, _, _⟩) (Fk y hy) hr bk I2 rfl ⟨a, u, rfl, hC2, hu⟩ fun _ s3 st3 _ => ?_⟩)))))
  have I3 := I2.step0 st3
  have hC3 := hC2.keep st3.keep0
  refine wpAny_execs_cons (wpAny_Return_some (r_cmp (r_name I3 rfl ?_)))
  refine r_call I3 mr kr (r_arg2 (r_call I3 me ke (r_arg1 (r_name I3 rfl ⟨I3.kIn, RFn.call (X := ⟨P, w, K, mg, base, _, _⟩) Fe hr be I3 rfl ⟨a, rfl, hC3⟩ fun e s4 st4 ⟨d, ed, _, hD, _⟩ => ?_⟩))))
  subst ed
  have I4 := I3.step0 st4
  refine r_name I4 rfl ⟨I4.kIn, RFn.call (X := ⟨P, w, K, mg, base, _, _⟩) (Fr x hx.key) hr br I4 rfl ⟨d, v, rfl, hD, hv⟩ fun e s5 st5 ⟨l, el, _, hL⟩ => ?_⟩
  subst el
  exact r_inL (X := ⟨P, w, K, mg, base, _, _⟩) hL hu ⟨st.any.trans (st2.any.trans (st3.any.trans (st4.any.trans st5.any))), _, .inl rfl, rfl⟩
end
end K25

set_option Elab.async false
set_option linter.all false
set_option maxRecDepth 100000
/-! K25, part MC: the ways, in plain Lean -/
namespace K25
open PySem
/-- the nodes that lead on from a way -/
def foll (G : Gr) (us way : List Str) : List Str := (par G (way.getLastD (Str.ofString ""))).filter fun p => us.contains p && !way.contains p
def ends (way : List Str) (other : Str) : Bool := way.getLast? == some other
/-- the ways that begin with way, in order; k: how many nodes may still come -/
def dfs (G : Gr) (us : List Str) (other : Str) : Nat → List Str → List (List Str)
  | 0, way => if ends way other then [way] else []
  | k + 1, way => if ends way other then [way] else (foll G us way).flatMap fun p => dfs G us other k (way ++ [p])
/-- how many turns the stack takes for one way -/
def cost (G : Gr) (us : List Str) (other : Str) : Nat → List Str → Nat
  | 0, _ => 1
  | k + 1, way => if ends way other then 1 else 1 + ((foll G us way).map fun p => cost G us other k (way ++ [p])).sum
/-- a way that may stand on the stack -/
structure WayOk (G : Gr) (way : List Str) : Prop where
  ne : way ≠ []
  nd : way.Nodup
  key : ∀ x ∈ way, x ∈ G.map (·.1)
def left (G : Gr) (way : List Str) : Nat := G.length - way.length
def D (G : Gr) (us : List Str) (other : Str) (way : List Str) : List (List Str) := dfs G us other (left G way) way
def C (G : Gr) (us : List Str) (other : Str) (way : List Str) : Nat := cost G us other (left G way) way
def outs (G : Gr) (us : List Str) (other : Str) (rows : List (List Str)) : List (List Str) := rows.reverse.flatMap (D G us other)
def costs (G : Gr) (us : List Str) (other : Str) (rows : List (List Str)) : Nat := (rows.map (C G us other)).sum
section
variable {G : Gr} {us : List Str} {other : Str} {way ws : List Str}
theorem WayOk.le (w : WayOk G way) : way.length ≤ G.length := by
  have := nodup_le w.nd w.key
  rwa [List.length_map] at this
theorem foll_mem (p : Str) (h : p ∈ foll G us way) : p ∉ way ∧ p ∈ par G (way.getLastD (Str.ofString "")) ∧ p ∈ us := by
  have := List.mem_filter.mp h
  simp only [Bool.and_eq_true, Bool.not_eq_true', List.contains_eq_mem, decide_eq_true_eq, decide_eq_false_iff_not] at this
  exact ⟨this.2.2, this.1, this.2.1⟩
theorem WayOk.snoc (ok : GrOk G) (w : WayOk G way) {p : Str} (h : p ∈ foll G us way) : WayOk G (way ++ [p]) := by
  obtain ⟨h1, h2, _⟩ := foll_mem p h
  refine ⟨by simp, List.nodup_append.mpr ⟨w.nd, List.pairwise_singleton _ _, fun a ha b hb e => h1 ?_⟩, fun x hx => ?_⟩
  · rw [List.mem_singleton.mp hb] at e
    rw [← e]; exact ha
  · rcases List.mem_append.mp hx with hx | hx
    · exact w.key x hx
    · rw [List.mem_singleton.mp hx]
      exact (par_up ok _).2 p h2
theorem left_snoc (ok : GrOk G) (w : WayOk G way) {p : Str} (h : p ∈ foll G us way) : left G way = left G (way ++ [p]) + 1 := by
  have := (w.snoc ok h).le
  rw [List.length_append, List.length_singleton] at this
  unfold left
  rw [List.length_append, List.length_singleton]
  omega
theorem D_end (e : ends way other = true) : D G us other way = [way] := by
  unfold D
  cases left G way <;> simp only [dfs, e, if_true]
theorem flatMap_congr' {α β : Type} {l : List α} {f g : α → List β} (h : ∀ x ∈ l, f x = g x) : l.flatMap f = l.flatMap g := by
  induction l with
  | nil => rfl
  | cons a r ih => rw [List.flatMap_cons, List.flatMap_cons, h a (.head _), ih fun x hx => h x (.tail _ hx)]
theorem D_go (ok : GrOk G) (w : WayOk G way) (e : ends way other = false) : D G us other way = (foll G us way).flatMap fun p => D G us other (way ++ [p]) := by
  unfold D
  cases hl : left G way with
  | zero =>
    have : foll G us way = [] := by
      cases hf : foll G us way with
      | nil => rfl
      | cons p r =>
        have := left_snoc (us := us) ok w (p := p) (by rw [hf]; exact .head _)
        omega
    rw [this]
    simp only [dfs, e, Bool.false_eq_true, if_false, List.flatMap_nil]
  | succ k =>
    simp only [dfs, e, Bool.false_eq_true, if_false]
    refine flatMap_congr' fun p hp => ?_
    have := left_snoc (us := us) ok w hp
    rw [show left G (way ++ [p]) = k by omega]
theorem C_pos : 0 < C G us other way := by
  unfold C
  cases left G way <;> simp only [cost]
  · exact Nat.one_pos
  · split <;> omega
theorem C_go (ok : GrOk G) (w : WayOk G way) (e : ends way other = false) : C G us other way = 1 + ((foll G us way).map fun p => C G us other (way ++ [p])).sum := by
  unfold C
  cases hl : left G way with
  | zero =>
    have : foll G us way = [] := by
      cases hf : foll G us way with
      | nil => rfl
      | cons p r =>
        have := left_snoc (us := us) ok w (p := p) (by rw [hf]; exact .head _)
        omega
    rw [this]
    simp only [cost, List.map_nil, List.sum_nil, Nat.add_zero]
  | succ k =>
    simp only [cost, e, Bool.false_eq_true, if_false]
    congr 2
    refine List.map_congr_left fun p hp => ?_
    have := left_snoc (us := us) ok w hp
    rw [show left G (way ++ [p]) = k by omega]
theorem outs_snoc (rows : List (List Str)) : outs G us other (rows ++ [way]) = D G us other way ++ outs G us other rows := by
  unfold outs
  rw [List.reverse_append, List.reverse_singleton, List.singleton_append, List.flatMap_cons]
theorem outs_push (rows : List (List Str)) : outs G us other (rows ++ (foll G us way).reverse.map fun p => way ++ [p]) = ((foll G us way).flatMap fun p => D G us other (way ++ [p])) ++ outs G us other rows := by
  unfold outs
  rw [List.reverse_append, List.flatMap_append, ← List.map_reverse, List.reverse_reverse, List.flatMap_map]
theorem costs_snoc (rows : List (List Str)) : costs G us other (rows ++ [way]) = costs G us other rows + C G us other way := by
  unfold costs
  rw [List.map_append, List.sum_append, List.map_singleton, List.sum_singleton]
theorem costs_push (rows : List (List Str)) : costs G us other (rows ++ (foll G us way).reverse.map fun p => way ++ [p]) = costs G us other rows + ((foll G us way).map fun p => C G us other (way ++ [p])).sum := by
  unfold costs
  rw [List.map_append, List.sum_append, List.map_map, List.map_reverse, List.sum_reverse]
  rfl
end
end K25

set_option Elab.async false
set_option linter.all false
set_option maxRecDepth 100000
set_option maxHeartbeats 4000000
/-! K25, part RT: the generator ways, one turn of its loop -/
namespace K25
open PySem PySem.Spec PyProof.Rows L2
section
variable {X : RX} {r : List (PySem.Str × Value)} {s s' : Shared} {E : Value → Shared → Prop} {α : Type} {R : α → Value → Prop} {x : PySem.Str}

/-- l[-1] -/
theorem r_last {n : PySem.Str} {np p1 p2 pos : Pos} {k : Nat} {l : Addr} {xs : List α} {y : α} {Q : Value → Shared → Prop} (I : RI X r s) (hn : r.lookup n = some (.ref l)) (L : LsR R s.heap l (xs ++ [y])) (hz : xs.length + 1 ≤ sizeLine) (q : ∀ v s', R y v → Step No s s' → s'.heap = s.heap → Q v s')
    (hk : X.env.kindOf n = some .local ∨ X.env.kindOf n = some .cell ∨ X.env.kindOf n = some .free := by first | exact .inl rfl | exact .inr (.inl rfl) | exact .inr (.inr rfl)) (hd : (n == ("__debug__" : PySem.Str)) = false := by decide) (hcd : (n == ("__classdict__" : PySem.Str)) = false := by decide) :
    wpAny (model X.P X.w) X.A (eval (.Subscript (.Name n np) (.UnaryOp .USub (.Constant (.int 1) k p1) p2) pos) X.env) Q E s := by
  refine Subscript_ (r_name I hn (UnaryOp_ (wpAny_Constant_int (PyProof.Rows.neg_int ?_))) hk hd hcd)
  obtain ⟨its, p, pl⟩ := L
  obtain ⟨us, u, rfl, p1, ry⟩ := paired_snoc p
  have len := p1.length
  have line := L2.line63
  refine subscriptTail_builtinR (x := u) pl.isList.typeIs PySem.slot_list_getitem.lookup (wpAny_getItem_list_neg (s := { s with toks := s.toks + 1 + 1 }) (Q := fun r s' => r = u ∧ Q r s') pl.isList (by decide) ?_ (by decide) ?_ ⟨rfl, q u _ ry (.toks _) rfl⟩) (by with_unfolding_all rfl)
  · rw [List.size_toArray, List.length_append, List.length_singleton]; omega
  · rw [List.size_toArray, List.length_append, List.length_singleton]
    rw [show ((-1 : Int) + ((us.length + 1 : Nat) : Int)).toNat = us.length by omega]
    simp
theorem paired_reverse {β : Type} {R : α → β → Prop} : ∀ {xs : List α} {us : List β}, Paired R xs us → Paired R xs.reverse us.reverse
  | _, _, .nil => .nil
  | _, _, .cons h t => by
    rw [List.reverse_cons, List.reverse_cons]
    exact paired_append (paired_reverse t) (.cons h .nil)
/-- l[::-1] -/
theorem r_rev {n : PySem.Str} {np p1 p2 p3 pos : Pos} {k : Nat} {l : Addr} {xs : List α} {Q : Value → Shared → Prop} (I : RI X r s) (hn : r.lookup n = some (.ref l)) (L : LsR R s.heap l xs) (hz : xs.length ≤ sizeLine) (q : ∀ a s', Step No s s' → s.heap.objs.size ≤ a → LsR R s'.heap a xs.reverse → Q (.ref a) s')
    (hk : X.env.kindOf n = some .local ∨ X.env.kindOf n = some .cell ∨ X.env.kindOf n = some .free := by first | exact .inl rfl | exact .inr (.inl rfl) | exact .inr (.inr rfl)) (hd : (n == ("__debug__" : PySem.Str)) = false := by decide) (hcd : (n == ("__classdict__" : PySem.Str)) = false := by decide) :
    wpAny (model X.P X.w) X.A (eval (.Subscript (.Name n np) (.Slice none none (some (.UnaryOp .USub (.Constant (.int 1) k p1) p2)) p3) pos) X.env) Q E s := by
  refine Subscript_ (r_name I hn (wpAny_Slice (wpAny_pure (wpAny_pure ?_))) hk hd hcd)
  refine UnaryOp_ (wpAny_Constant_int (PyProof.Rows.neg_int ?_))
  obtain ⟨its, p, pl⟩ := L
  have len := p.length
  generalize hs1 : ({ s with toks := s.toks + 1 + 1, heap := s.heap.push { cls := .type "slice", data := .fields #[.none, .none, .int (-1) (s.toks + 1)] } } : Shared) = s1
  have st : Step No s s1 := by rw [← hs1]; exact .ofK (d := s.drawn) (Keep.push _ _)
  have pl1 : s1.heap.PlainList l its.toArray := pl.at fun o e => st.keep0 _ _ e
  have sl : s1.heap.IsSliceOf s.heap.objs.size .none .none (.int (-1) (s.toks + 1)) := by rw [← hs1]; exact Heap.IsSliceOf.new _ _ _ _
  have nsz : s.heap.objs.size < s1.heap.objs.size := by rw [← hs1]; show _ < (Heap.push _ _).objs.size; rw [Heap.size_push]; exact Nat.lt_succ_self _
  show wpAny _ _ (subscriptTail _ _ (.ref l) (.ref s.heap.objs.size)) _ _ _
  refine tail_any (ops := [.ref l, .ref s.heap.objs.size]) pl1.isList.typeIs PySem.slot_list_getitem.lookup ?_ (by with_unfolding_all rfl)
  refine wpAny_getItem_list_slice pl1.isList sl .none .none (.int _ _) (by decide) ?_ (by rw [List.size_toArray]; omega)
  rw [PySem.W.krv_pick]
  exact q _ _ (st.trans (.ofK (tk := s1.toks) (d := s1.drawn) (Keep.push _ _))) (Nat.le_of_lt nsz) ⟨its.reverse, paired_reverse p, 0, Heap.get?_push_size _ rfl⟩
end

/-! ### what a generator's frame leads to -/
def Holds (env : Env) (h : Heap) (x : PySem.Str) (v : Value) : Prop := (env.kindOf x = some .local ∧ h.nsMap env.locals x = some v) ∨ (env.kindOf x = some .cell ∧ ∃ c, env.cells.lookup x = some c ∧ h.IsCell c (some v))
def wNames : List PySem.Str := ["waiting", "useful", "edges"]
def Foot (env : Env) (h : Heap) (b : Addr) : Prop := Own env b ∨ ∃ x ∈ wNames, ∃ a, Holds env h x (.ref a) ∧ (b = a ∨ RefIn h a b)
theorem holds_eq {env : Env} {h : Heap} {r : List (PySem.Str × Value)} {x : PySem.Str} {v u : Value} (F : Frm env h r) (hr : r.lookup x = some u) (H : Holds env h x v) : v = u := by
  rcases H with ⟨k, e⟩ | ⟨k, c, hc, o, ho, hd⟩
  · obtain ⟨m, hn, hm⟩ := F.ns
    rw [← hn.eq_nsMap, hm x u k hr] at e
    exact (Option.some.inj e).symm
  · obtain ⟨c', w, e, ⟨o', ho', hd'⟩, hw⟩ := F.cl x (.inl k)
    rw [hc] at e
    cases e
    rw [ho] at ho'
    cases ho'
    rw [hd] at hd'
    have := Data.cell.inj hd'
    rw [hw u hr] at this
    exact Option.some.inj this
theorem holds_of {env : Env} {h : Heap} {r : List (PySem.Str × Value)} {x : PySem.Str} {u : Value} (F : Frm env h r) (hr : r.lookup x = some u) (hk : env.kindOf x = some .local ∨ env.kindOf x = some .cell) : Holds env h x u := by
  rcases hk with k | k
  · obtain ⟨m, hn, hm⟩ := F.ns
    exact .inl ⟨k, by rw [← hn.eq_nsMap]; exact hm x u k hr⟩
  · obtain ⟨c', w, e, cell, hw⟩ := F.cl x (.inl k)
    rw [hw u hr] at cell
    exact .inr ⟨k, c', e, cell⟩
/-- all at A stays -/
def KeptOn (A : Addr → Prop) (h h' : Heap) : Prop := ∀ b o, A b → h.get? b = some o → h'.get? b = some o
end K25

set_option Elab.async false
set_option linter.all false
set_option maxRecDepth 100000
set_option maxHeartbeats 4000000
/-! K25, part RU: where the generator's loop stands -/
namespace K25
open PySem PySem.Spec PyProof.Rows L2
section
variable {P : Program} {w : World}
theorem ents_mem {β : Type} {O O' : β → Value → Prop} : ∀ {T : List (PySem.Str × β)} {vs : List (Key × Value)}, Ents O T vs → (∀ k v b, (k, v) ∈ vs → O b v → O' b v) → Ents O' T vs
  | _, _, .nil, _ => .nil
  | _, _, .cons (b := (k, v)) r t, h => .cons ⟨r.1, h k v _ (.head _) r.2⟩ (ents_mem t fun k v b hm => h k v b (.tail _ hm))
/-- the rows of a dict lean on the dict and on what it refers to -/
theorem rows_at {h h' : Heap} {d : Addr} {G : Gr} (D : DcR P w RowV h d G) (hd : ∀ o, h.get? d = some o → h'.get? d = some o) (hr : ∀ b o, RefIn h d b → h.get? b = some o → h'.get? b = some o) : DcR P w RowV h' d G := by
  obtain ⟨vs, p, ⟨o, es, ep, ho, ex, hdat, hk, hp, nd⟩, lo, z⟩ := D
  refine ⟨vs, ents_mem p fun k v b hm ⟨l, e, L, z2⟩ => ⟨l, e, ?_, z2⟩, ⟨o, es, ep, hd o ho, ex, hdat, hk, hp, nd⟩, lo, z⟩
  obtain ⟨ee, he, hv⟩ := pairs_mem hp k v hm
  obtain ⟨its, q, n, eo⟩ := L
  exact ⟨its, q, n, hr l _ ⟨o, ho, .inr ⟨es, ep, hdat, ee, (Array.mem_toList_iff.mp he : ee ∈ es), by rw [hv, e]⟩⟩ eo⟩
theorem ref_list {h : Heap} {W : Addr} {its : Array Value} (L : h.PlainList W its) {b : Addr} : RefIn h W b ↔ Value.ref b ∈ its := by
  obtain ⟨n, e⟩ := L
  constructor
  · rintro ⟨o, ho, z⟩
    rw [e] at ho
    cases ho
    rcases z with ⟨its', n', hd, hm⟩ | ⟨es, n', hd, _⟩
    · cases hd
      exact hm
    · cases hd
  · intro hm
    exact ⟨_, e, .inl ⟨its, n, rfl, hm⟩⟩
theorem ref_text {h : Heap} {u : Addr} {xs : List PySem.Str} (L : TxL h u xs) {b : Addr} : ¬ RefIn h u b := fun z => by
  obtain ⟨its, p, pl⟩ := L
  have hm : Value.ref b ∈ its := by simpa using (ref_list pl).mp z
  obtain ⟨i, hi⟩ := List.getElem?_of_mem hm
  obtain ⟨x, _, t, e⟩ := paired_get i p hi
  cases e
end

abbrev rr (W u d : Addr) (vo : Value) : List (PySem.Str × Value) := [("waiting", .ref W), ("useful", .ref u), ("edges", .ref d), ("other", vo)]
/-- where the loop stands -/
structure Core (X : RX) (G : Gr) (us : List PySem.Str) (y : PySem.Str) (s : Shared) (rows : List (List PySem.Str)) (W u d : Addr) (its : List Value) (vo : Value) : Prop where
  ri : RI X (rr W u d vo) s
  hy : Tx y vo
  lu : TxL s.heap u us
  ld : DcR X.P X.w RowV s.heap d G
  lw : s.heap.PlainList W its.toArray
  pr : Paired (fun row v => ∃ l, v = .ref l ∧ TxL s.heap l row) rows its
  nd : its.Nodup
  off : ∀ b, (b = W ∨ b = u ∨ b = d ∨ Value.ref b ∈ its) → ¬ Own X.env b ∧ X.base.objs.size ≤ b
  dis : ∀ l, Value.ref l ∈ its → l ≠ W ∧ l ≠ u ∧ l ≠ d ∧ ¬ RefIn s.heap d l
  uw : u ≠ W
  dw : d ≠ W
  rw : ∀ b, RefIn s.heap d b → b ≠ W ∧ ¬ Own X.env b
  ok : ∀ way ∈ rows, WayOk G way
  ix : ∀ i row, rows[i]? = some row → i < 41 * row.length
/-- the kinds of its names -/
structure EnvW (env : Env) : Prop where
  kw : env.kindOf "waiting" = some .local
  ku : env.kindOf "useful" = some .cell
  ke : env.kindOf "edges" = some .cell
  ko : env.kindOf "other" = some .cell
section
variable {X : RX} {G : Gr} {us : List PySem.Str} {y : PySem.Str} {s s' : Shared} {rows : List (List PySem.Str)} {W u d : Addr} {its : List Value} {vo : Value}
theorem Core.foot (c : Core X G us y s rows W u d its vo) {b : Addr} (h : Foot X.env s.heap b) : Own X.env b ∨ b = W ∨ b = u ∨ b = d ∨ Value.ref b ∈ its ∨ RefIn s.heap d b := by
  rcases h with h | ⟨x, hx, a, ha, hb⟩
  · exact .inl h
  have three : x = "waiting" ∨ x = "useful" ∨ x = "edges" := by simpa [wNames] using hx
  rcases three with rfl | rfl | rfl
  · have := holds_eq c.ri.frm (u := .ref W) rfl ha
    cases this
    rcases hb with rfl | hb
    · exact .inr (.inl rfl)
    · exact .inr (.inr (.inr (.inr (.inl (by simpa using (ref_list c.lw).mp hb)))))
  · have := holds_eq c.ri.frm (u := .ref u) rfl ha
    cases this
    rcases hb with rfl | hb
    · exact .inr (.inr (.inl rfl))
    · exact absurd hb (ref_text c.lu)
  · have := holds_eq c.ri.frm (u := .ref d) rfl ha
    cases this
    rcases hb with rfl | hb
    · exact .inr (.inr (.inr (.inl rfl)))
    · exact .inr (.inr (.inr (.inr (.inr hb))))
theorem Core.in_foot (c : Core X G us y s rows W u d its vo) (ev : EnvW X.env) {b : Addr} (h : Own X.env b ∨ b = W ∨ b = u ∨ b = d ∨ Value.ref b ∈ its ∨ RefIn s.heap d b) : Foot X.env s.heap b := by
  have hW := holds_of c.ri.frm (x := "waiting") (u := .ref W) rfl (.inl ev.kw)
  have hU := holds_of c.ri.frm (x := "useful") (u := .ref u) rfl (.inr ev.ku)
  have hD := holds_of c.ri.frm (x := "edges") (u := .ref d) rfl (.inr ev.ke)
  rcases h with h | rfl | rfl | rfl | h | h
  · exact .inl h
  · exact .inr ⟨_, by simp [wNames], _, hW, .inl rfl⟩
  · exact .inr ⟨_, by simp [wNames], _, hU, .inl rfl⟩
  · exact .inr ⟨_, by simp [wNames], _, hD, .inl rfl⟩
  · exact .inr ⟨_, by simp [wNames], _, hW, .inr ((ref_list c.lw).mpr (by simpa using h))⟩
  · exact .inr ⟨_, by simp [wNames], _, hD, .inr h⟩
/-- it sleeps, all that it leads to stays -/
theorem Core.sleep (c : Core X G us y s rows W u d its vo) (ev : EnvW X.env) (hb : Keep X.base s'.heap) (hk : KeptOn (Foot X.env s.heap) s.heap s'.heap) : Core X G us y s' rows W u d its vo ∧ ∀ b, Foot X.env s'.heap b → Foot X.env s.heap b := by
  have kw : ∀ o, s.heap.get? W = some o → s'.heap.get? W = some o := fun o e => hk W o (c.in_foot ev (.inr (.inl rfl))) e
  have ku : ∀ o, s.heap.get? u = some o → s'.heap.get? u = some o := fun o e => hk u o (c.in_foot ev (.inr (.inr (.inl rfl)))) e
  have kd : ∀ o, s.heap.get? d = some o → s'.heap.get? d = some o := fun o e => hk d o (c.in_foot ev (.inr (.inr (.inr (.inl rfl))))) e
  have refs : ∀ b, RefIn s'.heap d b → RefIn s.heap d b := fun b ⟨o, ho, z⟩ => by
    obtain ⟨_, _, ⟨o', _, _, ho', _⟩, _⟩ := c.ld
    have := kd o' ho'
    rw [ho] at this
    cases this
    exact ⟨o, ho', z⟩
  have c' : Core X G us y s' rows W u d its vo := by
    refine ⟨⟨c.ri.ok, hb, c.ri.frm.at fun b o ow e => hk b o (.inl ow) e⟩, c.hy, ?_, rows_at c.ld kd fun b o h e => hk b o (c.in_foot ev (.inr (.inr (.inr (.inr (.inr h)))))) e, c.lw.at kw, ?_, c.nd, c.off, fun l hl => let ⟨a1, a2, a3, a4⟩ := c.dis l hl; ⟨a1, a2, a3, fun z => a4 (refs l z)⟩, c.uw, c.dw, fun b h => c.rw b (refs b h), c.ok, c.ix⟩
    · obtain ⟨i, p, n, e⟩ := c.lu
      exact ⟨i, p, n, ku _ e⟩
    · have pr := c.pr
      have mem : ∀ l, Value.ref l ∈ its → ∀ o, s.heap.get? l = some o → s'.heap.get? l = some o := fun l hl o e => hk l o (c.in_foot ev (.inr (.inr (.inr (.inr (.inl hl)))))) e
      clear c hk
      induction pr with
      | nil => exact .nil
      | cons h _ ih =>
        obtain ⟨l, rfl, i, p, n, e⟩ := h
        exact .cons ⟨l, rfl, i, p, n, mem l (.head _) _ e⟩ (ih fun l hl => mem l (.tail _ hl))
  refine ⟨c', fun b h => c.in_foot ev ?_⟩
  rcases c'.foot h with h | h | h | h | h | h
  · exact .inl h
  · exact .inr (.inl h)
  · exact .inr (.inr (.inl h))
  · exact .inr (.inr (.inr (.inl h)))
  · exact .inr (.inr (.inr (.inr (.inl h))))
  · exact .inr (.inr (.inr (.inr (.inr (refs b h)))))
end

/-- among what the segment may change, or new -/
def Mine (env : Env) (h₀ : Heap) (b : Addr) : Prop := Foot env h₀ b ∨ h₀.get? b = none
theorem mine_new {env : Env} {s₀ s : Shared} (st : Step (Foot env s₀.heap) s₀ s) {b : Addr} (h : s.heap.objs.size ≤ b) : Mine env s₀.heap b := by
  rcases Classical.em (Foot env s₀.heap b) with z | z
  · exact .inl z
  · refine .inr ?_
    cases q : s₀.heap.get? b with
    | none => rfl
    | some o => exact absurd (Nat.lt_of_lt_of_le (Heap.lt_size (st.keep b o z q)) h) (Nat.lt_irrefl _)
/-- what the generator's turn hands out, and what it wants meanwhile -/
def YW (base : Heap) (env : Env) (all : List (List PySem.Str)) : Protocol := fun n s₀ v s kap => ∃ (l : Addr) (A : Addr → Prop) (way : List PySem.Str), v = .ref l ∧ n + 1 ≤ all.length ∧ all[all.length - (n + 1)]? = some way ∧ TxL s.heap l way ∧ ¬ A l ∧
  Mine env s₀.heap l ∧ ¬ Own env l ∧ Step (Foot env s₀.heap) s₀ s ∧ (∀ b, A b → Mine env s₀.heap b ∧ ∃ o, s.heap.get? b = some o) ∧
  ∀ s'', Keep base s''.heap → KeptOn A s.heap s''.heap → (∀ b, Foot env s''.heap b → A b) ∧ kap (.send .none) s''
def RWe (env : Env) : GenEnd := fun n s₀ r s => ((r = .ok (.ret .none) ∨ r = .ok .next) ∧ (n = 0 ∧ Step (Foot env s₀.heap) s₀ s)) ∨ ∃ e, r = .error e ∧ False
section
variable {X : RX} {G : Gr} {us : List PySem.Str} {y : PySem.Str} {s s' : Shared} {rows : List (List PySem.Str)} {W u d : Addr} {its : List Value} {vo : Value}
theorem Core.there (c : Core X G us y s rows W u d its vo) {b : Addr} (h : Foot X.env s.heap b) : ∃ o, s.heap.get? b = some o := by
  rcases c.foot h with h | rfl | rfl | rfl | h | h
  · rcases h with rfl | ⟨x, hk, hc⟩
    · obtain ⟨m, ⟨o, _, _, ho, _⟩, _⟩ := c.ri.frm.ns
      exact ⟨o, ho⟩
    · obtain ⟨c', w', e, ⟨o, ho, _⟩, _⟩ := c.ri.frm.cl x hk
      rw [hc] at e
      cases e
      exact ⟨o, ho⟩
  · obtain ⟨n, e⟩ := c.lw
    exact ⟨_, e⟩
  · obtain ⟨_, _, n, e⟩ := c.lu
    exact ⟨_, e⟩
  · obtain ⟨_, _, ⟨o, _, _, ho, _⟩, _⟩ := c.ld
    exact ⟨o, ho⟩
  · obtain ⟨i, hi⟩ := List.getElem?_of_mem h
    obtain ⟨_, _, l, e, _, _, n, eo⟩ := paired_get i c.pr hi
    cases e
    exact ⟨_, eo⟩
  · obtain ⟨vs, en, dd, _⟩ := c.ld
    obtain ⟨k, hm⟩ := ref_dict dd h
    obtain ⟨i, hi⟩ := List.getElem?_of_mem hm
    obtain ⟨_, _, _, l, e, ⟨_, _, n, eo⟩, _⟩ := paired_get i en hi
    cases e
    exact ⟨_, eo⟩
/-- the loop's things are the segment's own -/
structure Lk (env : Env) (s₀ s : Shared) (W u d : Addr) (its : List Value) : Prop where
  st : Step (Foot env s₀.heap) s₀ s
  nw : Mine env s₀.heap W
  nu : Mine env s₀.heap u
  nd : Mine env s₀.heap d
  ni : ∀ b, Value.ref b ∈ its → Mine env s₀.heap b
  nr : ∀ b, RefIn s.heap d b → Mine env s₀.heap b
theorem Lk.foot {s₀ : Shared} (k : Lk X.env s₀ s W u d its) (c : Core X G us y s rows W u d its vo) {b : Addr} (h : Foot X.env s.heap b) : Mine X.env s₀.heap b := by
  rcases c.foot h with h | rfl | rfl | rfl | h | h
  · exact .inl (.inl h)
  · exact k.nw
  · exact k.nu
  · exact k.nd
  · exact k.ni b h
  · exact k.nr b h
theorem Lk.step0 {s₀ s1 : Shared} (k : Lk X.env s₀ s W u d its) (c : Core X G us y s rows W u d its vo) (st : Step No s s1) : Lk X.env s₀ s1 W u d its := by
  refine ⟨k.st.trans st.any, k.nw, k.nu, k.nd, k.ni, fun b ⟨o, ho, z⟩ => k.nr b ?_⟩
  obtain ⟨_, _, ⟨o', _, _, ho', _⟩, _⟩ := c.ld
  have := st.keep0 _ _ ho'
  rw [ho] at this
  cases this
  exact ⟨o, ho', z⟩
theorem Core.step0 {s1 : Shared} (c : Core X G us y s rows W u d its vo) (ev : EnvW X.env) (st : Step No s s1) : Core X G us y s1 rows W u d its vo :=
  (c.sleep ev (fun b o e => st.keep0 b o (c.ri.bk b o e)) fun b o _ e => st.keep0 b o e).1
theorem Core.len (c : Core X G us y s rows W u d its vo) (hG : G.length ≤ 41) : rows.length ≤ 1681 := by
  cases h : rows.length with
  | zero => omega
  | succ k =>
    have hk : k < rows.length := by omega
    have h1 := c.ix k _ (List.getElem?_eq_getElem hk)
    have h2 := (c.ok _ (List.getElem_mem hk)).le
    omega
theorem ref_same {h h' : Heap} {d b : Addr} (hd : ∀ o, h.get? d = some o → h'.get? d = some o) (ho : ∃ o, h.get? d = some o) : RefIn h' d b → RefIn h d b := fun ⟨o, e, z⟩ => by
  obtain ⟨o', e'⟩ := ho
  have := hd o' e'
  rw [e] at this
  cases this
  exact ⟨o, e', z⟩
theorem rows_keep {h h' : Heap} : ∀ {rows : List (List PySem.Str)} {its : List Value}, Paired (fun row v => ∃ l, v = Value.ref l ∧ TxL h l row) rows its → (∀ b o, Value.ref b ∈ its → h.get? b = some o → h'.get? b = some o) → Paired (fun row v => ∃ l, v = Value.ref l ∧ TxL h' l row) rows its
  | _, _, .nil, _ => .nil
  | _, _, .cons ⟨l, e, i, p, n, eo⟩ t, k => .cons ⟨l, e, i, p, n, k l _ (by rw [e]; exact .head _) eo⟩ (rows_keep t fun b o hb => k b o (.tail _ hb))
theorem mine_step {env : Env} {s₀ s1 s2 : Shared} {S : Addr → Prop} (a : Step (Foot env s₀.heap) s₀ s1) (b : Step S s1 s2) (m : ∀ c, S c → Mine env s₀.heap c) : Step (Foot env s₀.heap) s₀ s2 := by
  obtain ⟨h1, t1, d1, rfl, k1⟩ := a
  obtain ⟨h2, t2, d2, rfl, k2⟩ := b
  refine ⟨h2, t2, d2, rfl, fun c o nc e => k2 c o (fun z => ?_) (k1 c o nc e)⟩
  rcases m c z with q | q
  · exact nc q
  · rw [q] at e; cases e
theorem Core.d_there (c : Core X G us y s rows W u d its vo) : ∃ o, s.heap.get? d = some o := by
  obtain ⟨_, _, ⟨o, _, _, ho, _⟩, _⟩ := c.ld
  exact ⟨o, ho⟩
/-- the frame and the waiting list change -/
theorem Core.move {s1 : Shared} {S : Addr → Prop} {rows' : List (List PySem.Str)} {its' : List Value} (c : Core X G us y s rows W u d its vo) (st : Step S s s1) (hS : ∀ b, S b → b = W ∨ Own X.env b) (ri : RI X (rr W u d vo) s1)
    (lw : s1.heap.PlainList W its'.toArray) (pr : Paired (fun row v => ∃ l, v = .ref l ∧ TxL s1.heap l row) rows' its') (nd : its'.Nodup) (off : ∀ l, Value.ref l ∈ its' → ¬ Own X.env l ∧ X.base.objs.size ≤ l) (dis : ∀ l, Value.ref l ∈ its' → l ≠ W ∧ l ≠ u ∧ l ≠ d ∧ ¬ RefIn s.heap d l)
    (ok : ∀ way ∈ rows', WayOk G way) (ix : ∀ i row, rows'[i]? = some row → i < 41 * row.length) : Core X G us y s1 rows' W u d its' vo := by
  have nu : ¬ S u := fun z => (hS u z).elim c.uw (c.off u (.inr (.inl rfl))).1
  have nd' : ¬ S d := fun z => (hS d z).elim c.dw (c.off d (.inr (.inr (.inl rfl)))).1
  have kd : ∀ o, s.heap.get? d = some o → s1.heap.get? d = some o := fun o e => st.keep d o nd' e
  have back : ∀ b, RefIn s1.heap d b → RefIn s.heap d b := fun b => ref_same kd c.d_there
  refine ⟨ri, c.hy, c.lu.keepX st.keep nu, rows_at c.ld kd fun b o hr e => st.keep b o (fun z => (hS b z).elim (c.rw b hr).1 (c.rw b hr).2) e, lw, pr, nd, fun b hb => ?_, fun l hl => let ⟨a1, a2, a3, a4⟩ := dis l hl; ⟨a1, a2, a3, fun z => a4 (back l z)⟩, c.uw, c.dw, fun b h => c.rw b (back b h), ok, ix⟩
  rcases hb with h | h | h | h
  · exact c.off b (.inl h)
  · exact c.off b (.inr (.inl h))
  · exact c.off b (.inr (.inr (.inl h)))
  · exact off b h
theorem Lk.move {s₀ s1 : Shared} {S : Addr → Prop} {its' : List Value} (k : Lk X.env s₀ s W u d its) (c : Core X G us y s rows W u d its vo) (st : Step S s s1) (hS : ∀ b, S b → b = W ∨ Own X.env b) (ni : ∀ b, Value.ref b ∈ its' → Mine X.env s₀.heap b) : Lk X.env s₀ s1 W u d its' := by
  have nd' : ¬ S d := fun z => (hS d z).elim c.dw (c.off d (.inr (.inr (.inl rfl)))).1
  refine ⟨mine_step k.st st fun b z => (hS b z).elim (fun e => by rw [e]; exact k.nw) fun o => .inl (.inl o), k.nw, k.nu, k.nd, ni, fun b h => k.nr b (ref_same (fun o e => st.keep d o nd' e) c.d_there h)⟩
theorem Core.wake (c : Core X G us y s rows W u d its vo) (ev : EnvW X.env) : Lk X.env s s W u d its :=
  ⟨.refl _, .inl (c.in_foot ev (.inr (.inl rfl))), .inl (c.in_foot ev (.inr (.inr (.inl rfl)))), .inl (c.in_foot ev (.inr (.inr (.inr (.inl rfl))))), fun b h => .inl (c.in_foot ev (.inr (.inr (.inr (.inr (.inl h)))))), fun b h => .inl (c.in_foot ev (.inr (.inr (.inr (.inr (.inr h))))))⟩
end
end K25

set_option Elab.async false
set_option linter.all false
set_option maxRecDepth 100000
set_option maxHeartbeats 4000000
/-! K25, part RV: the generator's loop -/
namespace K25
open PySem PySem.Spec PyProof.Rows L2
section
variable {M : Model} {A : Around} {R : GenEnd} {Y : Protocol} {n : Nat} {s₀ : Shared} {c : Code} {fs : List Frame} {s : Shared} {env : Env} {B : Around}
  {K : Flow → Sem PySem.Fin} {H : Value → Sem PySem.Fin} {gd : Bool → Bool} {lv : List Value → List Value}
/-- a statement that hands out nothing -/
theorem sg_cons {st : Stmt} {rest : List Stmt} (ov : A.over c fs = B)
    (h : wpAny M B (exec st env) (fun f s' => f = .next ∧ Seg M A R Y n s₀ c ((execs rest env).wrap K H gd lv) fs s') (fun _ _ => False) s) : Seg M A R Y n s₀ c ((execs (st :: rest) env).wrap K H gd lv) fs s := by
  refine seg_execs_cons (seg_wrap ?_)
  rw [ov]
  refine wpAny_mono h (fun f s' q => ?_) fun _ _ z => z.elim
  obtain ⟨e, q⟩ := q
  subst e
  exact q
theorem sg_execs {sts : List Stmt} (ov : A.over c fs = B) (h : wpAny M B (execs sts env) (fun f s' => f = .next ∧ Seg M A R Y n s₀ c (K .next) fs s') (fun _ _ => False) s) : Seg M A R Y n s₀ c ((execs sts env).wrap K H gd lv) fs s := by
  refine seg_wrap ?_
  rw [ov]
  refine wpAny_mono h (fun f s' q => ?_) fun _ _ z => z.elim
  obtain ⟨e, q⟩ := q
  subst e
  exact q
/-- if with a yield within -/
theorem sg_if {t : Expr} {b o : List Stmt} {pos : Pos} (ov : A.over c fs = B)
    (h : wpAny M B (isTrue t env (eval t env)) (fun d s' => if d = true then Seg M A R Y n s₀ c ((execs b env).wrap K H gd lv) fs s' else Seg M A R Y n s₀ c ((execs o env).wrap K H gd lv) fs s') (fun _ _ => False) s) :
    Seg M A R Y n s₀ c ((exec (.If t b o pos) env).wrap K H gd lv) fs s := by
  rw [exec_If]
  show Seg M A R Y n s₀ c (.at pos fun _ => ((isTrue t env (eval t env)) >>= fun d => if d = true then execs b env else execs o env).wrap K H gd lv) fs s
  refine seg_at ?_
  rw [Sem.bind_eq_wrap', Sem.wrap_wrap]
  refine seg_wrap ?_
  rw [ov]
  refine wpAny_mono h (fun d s' q => ?_) fun _ _ z => z.elim
  cases d with
  | true => exact q
  | false => exact q
end
def wst : Stmt := (defBody (top 37)).getD 5 (.Pass ⟨0, 0, 0, 0⟩)
def wtest : Expr := match wst with | .While t _ _ _ => t | _ => .Constant .none 0 ⟨0, 0, 0, 0⟩
def wbody : List Stmt := match wst with | .While _ b _ _ => b | _ => []
section
variable {P : Program} {w : World} {K : PySem.W.Frag} {mg : PySem.Str → Option Value} {base : Heap} {nL f : Addr} {cdv : Value} {B A : Around} {G : Gr} {us : List PySem.Str} {y : PySem.Str} {all : List (List PySem.Str)} {F : Frame} {fs : List Frame}
abbrev envW (nL f : Addr) (cdv : Value) : Env := envOfC "ways" (defScope (top 37)) nL f cdv
theorem evW : EnvW (envW nL f cdv) := ⟨rfl, rfl, rfl, rfl⟩
theorem filterMap_if (q : PySem.Str → Bool) (xs : List PySem.Str) : (xs.filterMap fun p => if q p then some p else none) = xs.filter q := by
  induction xs with
  | nil => rfl
  | cons a r ih =>
    rw [List.filterMap_cons, List.filter_cons]
    cases h : q a <;> simp only [if_true, Bool.false_eq_true, if_false, ih]
theorem paired_map {α β γ : Type} {R : γ → β → Prop} {g : α → γ} : ∀ {xs : List α} {us : List β}, Paired (fun x u => R (g x) u) xs us → Paired R (xs.map g) us
  | _, _, .nil => .nil
  | _, _, .cons h t => .cons h (paired_map t)
theorem way_last {way : List PySem.Str} (h : way ≠ []) : ∃ ws z, way = ws ++ [z] := by
  rcases List.eq_nil_or_concat way with z | ⟨ws, z, e⟩
  · exact absurd z h
  · exact ⟨ws, z, by rw [e, List.concat_eq_append]⟩
theorem ways_loop (ok : GrOk G) (hG : G.length ≤ 41) (ov : A.over (.whileLoop wtest wbody [] (envW nL f cdv)) (F :: fs) = B) (hsp : splitAtGen (F :: fs) = none) (hgf : (F :: fs).any Frame.guarded = false) (hd : B.handled = none) (hu : B.units + 64 < cLine)
    (hend : ∀ s₀ s, Step (Foot (envW nL f cdv) s₀.heap) s₀ s → Seg (model P w) A (RWe (envW nL f cdv)) (YW base (envW nL f cdv) all) 0 s₀ (.whileLoop wtest wbody [] (envW nL f cdv)) (.pure (.done .next)) (F :: fs) s) :
    ∀ (m : Nat) (rows : List (List PySem.Str)) (n : Nat) (s₀ s : Shared) (W u d : Addr) (its : List Value) (vo : Value), costs G us y rows < m → Core ⟨P, w, K, mg, base, B, envW nL f cdv⟩ G us y s rows W u d its vo → Lk (envW nL f cdv) s₀ s W u d its → n = (outs G us y rows).length → (∃ pre, all = pre ++ outs G us y rows) →
      Seg (model P w) A (RWe (envW nL f cdv)) (YW base (envW nL f cdv) all) n s₀ (.whileLoop wtest wbody [] (envW nL f cdv)) ((model P w).den (.whileLoop wtest wbody [] (envW nL f cdv))) (F :: fs) s := by
  intro m
  induction m with
  | zero =>
    intro rows n s₀ s W u d its vo hm
    exact absurd hm (Nat.not_lt_zero _)
  | succ m ih =>
    intro rows n s₀ s W u d its vo hm c k hn hp
    have line := L2.line63
    have big : 2000 ≤ sizeLine := by decide
    refine seg_whileLoop ?_
    rw [ov]
    refine wpAny_mono (E := fun _ _ => False) (t_neNil (X := ⟨P, w, K, mg, base, B, envW nL f cdv⟩) (R := fun row v => ∃ l, v = Value.ref l ∧ TxL s.heap l row) (xs := rows) c.ri rfl ⟨its, c.pr, c.lw⟩ (Nat.lt_of_le_of_lt (Nat.le_add_right _ 64) hu) (fun s1 st1 => ?_)) (fun b s' q => q) fun _ _ z => z.elim
    have k1 := k.step0 (X := ⟨P, w, K, mg, base, B, envW nL f cdv⟩) c st1
    have c1 := c.step0 evW st1
    rcases List.eq_nil_or_concat rows with rfl | ⟨ws, way, rfl⟩
    · subst hn
      exact seg_execs_nil (hend s₀ s1 k1.st)
    · rw [List.concat_eq_append] at *
      rw [show (!(ws ++ [way]).isEmpty) = true by cases ws <;> rfl]
      rw [if_pos rfl]
      have hlen := c.len hG
      rw [List.length_append, List.length_singleton] at hlen
      obtain ⟨us', u', rfl, pr', l, rfl, hl⟩ := paired_snoc c1.pr
      have ul := pr'.length
      have hok := c.ok way (List.mem_append_right _ (.head _))
      obtain ⟨pre', z, hz⟩ := way_last hok.ne
      show Seg _ _ _ _ _ _ _ ((execs wbody (envW nL f cdv)).wrap _ _ _ _) _ _
      refine sg_cons ov (r_set (X := ⟨P, w, K, mg, base, B, envW nL f cdv⟩) (r_popP (X := ⟨P, w, K, mg, base, B, envW nL f cdv⟩) c1.ri rfl c1.lw (by omega) fun s2 st2 pl2 z2 => ⟨_, c1.ri.step st2 (fun b e => c1.off b (.inl e)), fun s3 I3 st3 z3 => ⟨rfl, ?_⟩⟩))
      have nl := c1.dis l (List.mem_append_right _ (.head _))
      have ol := c1.off l (.inr (.inr (.inr (List.mem_append_right _ (.head _)))))
      have oW := c1.off W (.inl rfl)
      have nAt : ∀ {b : Addr} {x : PySem.Str}, ¬ Own (envW nL f cdv) b → ¬ At (envW nL f cdv) x b := fun h z => h (at_own _ z)
      have st13 : Step (fun b => b = W ∨ Own (envW nL f cdv) b) s1 s3 := (st2.mono fun b e => .inl e).trans (st3.mono fun b e => .inr (at_own b e))
      have hl3 : TxL s3.heap l way := (hl.keepX st2.keep nl.1).keepX st3.keep (nAt ol.1)
      have pl3 : s3.heap.PlainList W us'.toArray := pl2.at fun o e => st3.keep W o (nAt oW.1) e
      have ndi := List.nodup_append.mp c1.nd
      have sub : ∀ b, Value.ref b ∈ us' → Value.ref b ∈ us' ++ [Value.ref l] := fun b h => List.mem_append_left _ h
      have pr3 : Paired (fun row v => ∃ l, v = .ref l ∧ TxL s3.heap l row) ws us' := by
        have mem : ∀ b, Value.ref b ∈ us' → b ≠ W ∧ ¬ Own (envW nL f cdv) b := fun b h => ⟨(c1.dis b (sub b h)).1, (c1.off b (.inr (.inr (.inr (sub b h))))).1⟩
        exact rows_keep pr' fun b o hb e => st13.keep b o (fun z => z.elim (mem b hb).1 (mem b hb).2) e
      have ri3 : RI ⟨P, w, K, mg, base, B, envW nL f cdv⟩ (rr W u d vo) s3 := I3.drop rfl
      have c3 : Core ⟨P, w, K, mg, base, B, envW nL f cdv⟩ G us y s3 ws W u d us' vo :=
        c1.move st13 (fun b z => z) ri3 pl3 pr3 ndi.1 (fun b h => c1.off b (.inr (.inr (.inr (sub b h))))) (fun b h => c1.dis b (sub b h)) (fun v hv => c.ok v (List.mem_append_left _ hv)) fun i row h => c.ix i row (by
          rw [List.getElem?_append_left (List.getElem?_eq_some_iff.mp h).1]
          exact h)
      have k3 : Lk (envW nL f cdv) s₀ s3 W u d us' := k1.move (X := ⟨P, w, K, mg, base, B, envW nL f cdv⟩) c1 st13 (fun b z => z) fun b h => k1.ni b (sub b h)
      have mineL : Mine (envW nL f cdv) s₀.heap l := k1.ni l (List.mem_append_right _ (.head _))
      rw [hz] at hl3
      refine seg_execs_cons (sg_if ov (r_tcmp (X := ⟨P, w, K, mg, base, B, envW nL f cdv⟩) (r_last I3 rfl hl3 ?_ fun v4 s4 hv4 st4 e4 => ?_)))
      · have := hok.le
        rw [hz, List.length_append, List.length_singleton] at this
        omega
      have I4 := I3.step0 st4
      refine r_name (X := ⟨P, w, K, mg, base, B, envW nL f cdv⟩) I4 rfl ?_
      obtain ⟨t4, rfl⟩ := hv4
      obtain ⟨ty, ey⟩ := c.hy
      rw [ey]
      refine PyProof.Rows.eq_str (wpAny_truthy_bool ?_)
      have c4 := c3.step0 evW st4
      have k4 := k3.step0 (X := ⟨P, w, K, mg, base, B, envW nL f cdv⟩) c3 st4
      have hl4 := hl3.keep st4.keep0
      have hends : ends way y = (z == y) := by
        unfold ends
        rw [hz, List.getLast?_concat]
        rfl
      rw [outs_snoc] at hn hp
      cases hzy : z == y with
      | true =>
        rw [hzy] at hends
        rw [D_end hends] at hn hp
        rw [if_pos rfl]
        obtain ⟨pre, hp⟩ := hp
        obtain ⟨n, rfl⟩ : ∃ j, n = j + 1 := ⟨(outs G us y ws).length, by rw [hn, List.length_append, List.length_singleton, Nat.add_comm]⟩
        have hn' : n = (outs G us y ws).length := by
          rw [List.length_append, List.length_singleton] at hn
          omega
        have hall : all.length = pre.length + (n + 1) := by
          rw [hp, List.length_append, List.length_append, List.length_singleton, hn']
          omega
        refine seg_execs_cons (seg_Expr_Yield hsp rfl hgf ?_)
        rw [ov]
        refine r_name (X := ⟨P, w, K, mg, base, B, envW nL f cdv⟩) I4 rfl ?_
        intro kap hk
        have notA : ¬ Foot (envW nL f cdv) s4.heap l := fun z => by
          rcases c4.foot z with h | h | h | h | h | h
          · exact ol.1 h
          · exact nl.1 h
          · exact nl.2.1 h
          · exact nl.2.2.1 h
          · exact ndi.2.2 _ h _ (.head _) rfl
          · have st14 := st13.trans (st4.any)
            refine nl.2.2.2 (ref_same (fun o e => st14.keep d o (fun z => z.elim c1.dw (c1.off d (.inr (.inr (.inl rfl)))).1) e) c1.d_there h)
        refine ⟨l, Foot (envW nL f cdv) s4.heap, way, rfl, by omega, ?_, by rw [hz]; exact hl4, notA, mineL, ol.1, k4.st, fun b hb => ⟨k4.foot (X := ⟨P, w, K, mg, base, B, envW nL f cdv⟩) c4 hb, c4.there hb⟩, fun s'' hb hk2 => ?_⟩
        · rw [hall, Nat.add_sub_cancel, hp, List.getElem?_append_right (Nat.le_refl _), Nat.sub_self]
          rfl
        · obtain ⟨c5, f5⟩ := c4.sleep evW hb hk2
          refine ⟨f5, hk .none s'' ?_⟩
          refine seg_execs_nil (seg_execs_nil (seg_again rfl ?_))
          refine ih ws n s'' s'' W u d us' vo ?_ c5 (c5.wake evW) hn' ⟨pre ++ [way], by rw [hp, List.append_assoc]⟩
          rw [costs_snoc] at hm
          have := C_pos (G := G) (us := us) (other := y) (way := way)
          omega
      | false =>
        rw [hzy] at hends
        rw [D_go ok hok hends, ← outs_push] at hn hp
        rw [if_neg Bool.false_ne_true]
        have hzk : z ∈ G.map (·.1) := hok.key z (by rw [hz]; exact List.mem_append_right _ (.head _))
        obtain ⟨row, hrow, hmem⟩ := lookup_some hzk
        have hfoll : foll G us way = row.filter fun p => us.contains p && !way.contains p := by
          unfold foll par
          rw [hz, List.getLastD_concat, hrow]
          rfl
        have hwl : way.length ≤ 41 := Nat.le_trans hok.le hG
        have hprel : pre'.length + 1 ≤ sizeLine := by
          rw [hz, List.length_append, List.length_singleton] at hwl
          omega
        refine sg_execs ov (wpAny_execs_cons ?_)
        refine r_setlcV (X := ⟨P, w, K, mg, base, B, envW nL f cdv⟩) (xs := row) (g := fun p => if us.contains p && !way.contains p then some p else none) (Rout := Tx) I4 (blk_by (out := defScope (top 37)) (by decide +kernel) rfl) rfl ?_ rfl
        refine r_dsub (X := ⟨P, w, K, mg, base, B, envW nL f cdv⟩) (R := RowV) hrow (r_name (X := ⟨P, w, K, mg, base, B, envW nL f cdv⟩) I4 rfl (r_last (X := ⟨P, w, K, mg, base, B, envW nL f cdv⟩) I4 rfl hl4 hprel fun v5 s5 hv5 st5 e5 => ?_))
        have I5 := I4.step0 st5
        have c5 := c4.step0 evW st5
        have k5 := k4.step0 (X := ⟨P, w, K, mg, base, B, envW nL f cdv⟩) c4 st5
        have hl5 := hl4.keep st5.keep0
        refine ⟨d, rfl, c5.ld, hv5, fun vr ⟨lr, er, Lr, zr⟩ => ?_⟩
        subst er
        obtain ⟨its, pr, pl⟩ := Lr
        have I6 := I5.tok (s5.toks + 1)
        refine ⟨_, _, I6, apar_by (l := ["way", "waiting", "useful", "edges", "other"]) (by decide +kernel) rfl, Nat.le_trans zr (by decide), Src.list hd pl.isList (by rw [List.size_toArray]; exact pr.length), fun C' i p vp sT hx hP IT stT => ?_, fun D7 s7 st7 hD7 I7 L7 => ?_⟩
        · obtain ⟨p', e1, tp⟩ := paired_get i pr (by simpa using hP)
          rw [hx] at e1
          cases e1
          have LU : TxL sT.heap u us := c5.lu.keep stT.keep0
          have LW : TxL sT.heap l way := by rw [hz]; exact hl5.keep stT.keep0
          refine wpAny_tests_one (isTrue_and (r_tcmp (r_name IT rfl (r_name IT rfl (r_inL LU tp (wpAny_truthy_bool ?_))))))
          cases us.contains p with
          | false => exact ⟨rfl, .refl _, fun y e => by cases e⟩
          | true =>
            rw [if_pos rfl]
            refine isTrue_and (r_tcmp (r_name IT rfl (r_name IT rfl (r_notInL LW tp (wpAny_truthy_bool ?_)))))
            cases way.contains p with
            | true => exact ⟨rfl, .refl _, fun y e => by cases e⟩
            | false =>
              refine isTrue_and_nil ⟨rfl, .refl _, fun y e => ?_⟩
              cases e
              exact r_name IT rfl ⟨.refl _, tp⟩
        · have hfm : (row.filterMap fun p => if us.contains p && !way.contains p then some p else none) = foll G us way := by
            rw [hfoll]
            exact filterMap_if _ row
          rw [hfm] at L7
          have st57 : Step (fun b => b = W ∨ Own (envW nL f cdv) b) s5 s7 := (Step.toks (s5.toks + 1)).trans (st7.mono fun b e => .inr (at_own b e))
          have ri7 : RI ⟨P, w, K, mg, base, B, envW nL f cdv⟩ (rr W u d vo) s7 := (I7.drop rfl).drop rfl
          have oT : ∀ b, ¬ Own (envW nL f cdv) b → ∀ o, s5.heap.get? b = some o → s7.heap.get? b = some o := fun b h o e => st7.keep b o (fun z => h (at_own b z)) e
          have pl7 : s7.heap.PlainList W us'.toArray := c5.lw.at (oT W oW.1)
          have c7 : Core ⟨P, w, K, mg, base, B, envW nL f cdv⟩ G us y s7 ws W u d us' vo :=
            c5.move st57 (fun b z => z) ri7 pl7 (rows_keep c5.pr fun b o hb e => oT b (c5.off b (.inr (.inr (.inr hb)))).1 o e) c5.nd (fun b h => c5.off b (.inr (.inr (.inr h)))) c5.dis c5.ok c5.ix
          have k7 : Lk (envW nL f cdv) s₀ s7 W u d us' := k5.move (X := ⟨P, w, K, mg, base, B, envW nL f cdv⟩) c5 st57 (fun b z => z) k5.ni
          have LW7 : TxL s7.heap l way := by
            rw [hz]
            exact hl5.keepX st57.keep fun z => z.elim nl.1 ol.1
          have fz : (foll G us way).length ≤ 41 := by
            rw [hfoll]
            have h1 := nodup_le (up_nodup (ok.up _ hmem)) (ok.cl _ hmem)
            rw [List.length_map] at h1
            exact Nat.le_trans (List.length_filter_le _ _) (Nat.le_trans h1 hG)
          refine wpAny_execs_cons (r_expr (X := ⟨P, w, K, mg, base, B, envW nL f cdv⟩) (r_extendP (X := ⟨P, w, K, mg, base, B, envW nL f cdv⟩) I7 rfl c7.lw ?_))
          refine r_lc (X := ⟨P, w, K, mg, base, B, envW nL f cdv⟩) I7 (blk_by (out := defScope (top 37)) (by decide +kernel) rfl) ?_
          refine r_rev (X := ⟨P, w, K, mg, base, B, envW nL f cdv⟩) I7 rfl L7 (by omega) fun a8 s8 st8 ha8 L8 => ?_
          obtain ⟨its8, pr8, pl8⟩ := L8
          have I8 := I7.step0 st8
          have len8 := pr8.length
          rw [List.length_reverse] at len8
          refine ⟨_, its8.length, _, I8, apar_by (l := ["following", "way", "waiting", "useful", "edges", "other"]) (by decide +kernel) rfl, by omega, Src.list hd pl8.isList (by rw [List.size_toArray]), fun C' S hC' hS =>
            ⟨fun i ys h => Paired (fun p v => ∃ l', v = Value.ref l' ∧ TxL h l' (way ++ [p]) ∧ s8.heap.objs.size ≤ l' ∧ ¬ S l') ((foll G us way).reverse.take i) ys ∧ ys.Nodup, fun _ _ => ⟨.nil, .nil⟩, fun i ys h h' o kx => ⟨Paired.mapP o.1 fun p v ⟨l', e, L, q1, q2⟩ => ⟨l', e, L.keepX kx q2, q1, q2⟩, o.2⟩, fun i v ys sT hi hP IT stT hS' hO => ?_, fun D9 ys s9 st9 hD9 hpl9 hO => ?_⟩⟩
          · obtain ⟨p, hp8, tp⟩ := paired_get i pr8 (by simpa using hP)
            refine wpAny_tests_nil ?_
            rw [if_pos rfl]
            refine wpAny_BinOp (r_name (X := RX.blk ⟨P, w, K, mg, base, B, envW nL f cdv⟩ _ C') IT rfl (r_list1 (X := RX.blk ⟨P, w, K, mg, base, B, envW nL f cdv⟩ _ C') (r_name (X := RX.blk ⟨P, w, K, mg, base, B, envW nL f cdv⟩ _ C') IT rfl fun sU stU hlU => ?_)))
            obtain ⟨wits, wpr, wn, we⟩ := LW7.keep (st8.keep0.trans (stT.keep0.trans stU.keep0))
            obtain ⟨vn, ve⟩ := hlU
            have wlen := wpr.length
            refine PySem.P.add_list we ve ?_ (by rw [List.size_toArray, ← wlen]; show way.length + 1 ≤ sizeLine; omega)
            have stP : Step No sU { sU with heap := sU.heap.push { cls := .type "list", data := .seq (wits.toArray ++ #[v]) } } := .ofK (tk := sU.toks) (d := sU.drawn) (Keep.push _ _)
            have stTP := stU.trans stP
            have szT : sT.heap.objs.size < sU.heap.objs.size := Heap.lt_size ve
            have szP : s8.heap.objs.size ≤ sU.heap.objs.size := Nat.le_trans (Nat.le_trans hC' (Nat.le_of_lt (IT.lt (.inl rfl)))) (Nat.le_of_lt szT)
            refine ⟨stTP, ?_, ?_⟩
            · show Paired _ ((foll G us way).reverse.take (i + 1)) _
              rw [List.take_add_one, hp8]
              refine paired_append (Paired.mapP hO.1 fun p v ⟨l', e, L, q1, q2⟩ => ⟨l', e, L.keep stTP.keep0, q1, q2⟩) (.cons ⟨_, rfl, ⟨wits ++ [v], paired_append wpr (.cons tp .nil), 0, ?_⟩, szP, fun z => absurd (hS' _ z) (Nat.not_lt.mpr (Nat.le_of_lt szT))⟩ .nil)
              have := Heap.get?_push_size sU.heap (o := { cls := .type "list", data := .seq (wits.toArray ++ #[v]) }) rfl
              rw [show (wits ++ [v]).toArray = wits.toArray ++ #[v] by simp]
              exact this
            · refine List.nodup_append.mpr ⟨hO.2, List.pairwise_singleton _ _, fun a ha b hb e => ?_⟩
              rw [List.mem_singleton.mp hb] at e
              subst e
              obtain ⟨j, hj⟩ := List.getElem?_of_mem ha
              obtain ⟨_, _, l', e, L, _⟩ := paired_get j hO.1 hj
              cases e
              exact absurd (Nat.lt_trans L.lt szT) (Nat.lt_irrefl _)
          · have hOp : Paired (fun p v => ∃ l', v = Value.ref l' ∧ TxL s9.heap l' (way ++ [p]) ∧ s8.heap.objs.size ≤ l' ∧ ¬ S l') ((foll G us way).reverse.take its8.length) ys := hO.1
            have full : (foll G us way).reverse.take its8.length = (foll G us way).reverse := List.take_of_length_le (by rw [List.length_reverse]; omega)
            rw [full] at hOp
            have ylen := hOp.length
            rw [List.length_reverse] at ylen
            have st79 : Step No s7 s9 := st8.trans st9
            have c9 := c7.step0 evW st79
            have k9 := k7.step0 (X := ⟨P, w, K, mg, base, B, envW nL f cdv⟩) c7 st79
            refine ⟨D9, ys, rfl, c9.lw, hpl9, by omega, fun s11 st11 pl11 z11 => ?_⟩
            have newY : ∀ b, Value.ref b ∈ ys → s8.heap.objs.size ≤ b := fun b hb => by
              obtain ⟨j, hj⟩ := List.getElem?_of_mem hb
              obtain ⟨_, _, l', e, _, q, _⟩ := paired_get j hOp hj
              cases e
              exact q
            have c8 := c7.step0 evW st8
            have lt8 : ∀ b, Foot (envW nL f cdv) s8.heap b → b < s8.heap.objs.size := fun b hb => by
              obtain ⟨o, e⟩ := c8.there hb
              exact Heap.lt_size e
            have inF : ∀ b, (Own (envW nL f cdv) b ∨ b = W ∨ b = u ∨ b = d ∨ Value.ref b ∈ us' ∨ RefIn s8.heap d b) → b < s8.heap.objs.size := fun b h => lt8 b (c8.in_foot evW h)
            have farY : ∀ b, Value.ref b ∈ ys → ¬ (Own (envW nL f cdv) b ∨ b = W ∨ b = u ∨ b = d ∨ Value.ref b ∈ us' ∨ RefIn s8.heap d b) := fun b hb z => absurd (Nat.lt_of_lt_of_le (inF b z) (newY b hb)) (Nat.lt_irrefl _)
            have I9 := I7.step0 st79
            have I11 := I9.step st11 fun b e => by rw [e]; exact oW
            have pr11 : Paired (fun row v => ∃ l, v = .ref l ∧ TxL s11.heap l row) (ws ++ (foll G us way).reverse.map fun p => way ++ [p]) (us' ++ ys) := by
              refine paired_append (rows_keep c9.pr fun b o hb e => st11.keep b o (c9.dis b hb).1 e) ?_
              have : Paired (fun row v => ∃ l, v = Value.ref l ∧ TxL s9.heap l row) ((foll G us way).reverse.map fun p => way ++ [p]) ys := paired_map (Paired.mapP hOp fun p v ⟨l', e, L, _⟩ => ⟨l', e, L⟩)
              exact rows_keep this fun b o hb e => st11.keep b o (fun z => farY b hb (.inr (.inl z))) e
            have c11 : Core ⟨P, w, K, mg, base, B, envW nL f cdv⟩ G us y s11 (ws ++ (foll G us way).reverse.map fun p => way ++ [p]) W u d (us' ++ ys) vo := by
              refine c9.move st11 (fun b z => .inl z) ((I11.drop rfl).drop rfl) pl11 pr11 ?_ (fun b hb => ?_) (fun b hb => ?_) (fun v hv => ?_) fun i row hi => ?_
              · refine List.nodup_append.mpr ⟨c9.nd, hO.2, fun a ha b hb e => ?_⟩
                subst e
                obtain ⟨j, hj⟩ := List.getElem?_of_mem hb
                obtain ⟨_, _, l', e, _⟩ := paired_get j hOp hj
                subst e
                exact farY l' hb (.inr (.inr (.inr (.inr (.inl ha)))))
              · rcases List.mem_append.mp hb with hb | hb
                · exact c9.off b (.inr (.inr (.inr hb)))
                · exact I8.new (newY b hb)
              · rcases List.mem_append.mp hb with hb | hb
                · exact c9.dis b hb
                · refine ⟨fun z => farY b hb (.inr (.inl z)), fun z => farY b hb (.inr (.inr (.inl z))), fun z => farY b hb (.inr (.inr (.inr (.inl z)))), fun z => farY b hb (.inr (.inr (.inr (.inr (.inr ?_)))))⟩
                  exact ref_same (fun o e => st9.keep0 _ _ e) c8.d_there z
              · rcases List.mem_append.mp hv with hv | hv
                · exact c9.ok v hv
                · obtain ⟨p, hpm, rfl⟩ := List.mem_map.mp hv
                  exact hok.snoc ok (List.mem_reverse.mp hpm)
              · rcases Nat.lt_or_ge i ws.length with h | h
                · rw [List.getElem?_append_left h] at hi
                  exact c9.ix i row hi
                · rw [List.getElem?_append_right h, List.getElem?_map] at hi
                  obtain ⟨p, hp1, rfl⟩ := Option.map_eq_some_iff.mp hi
                  have hj := (List.getElem?_eq_some_iff.mp hp1).1
                  rw [List.length_reverse] at hj
                  have h0 := c.ix ws.length way (by rw [List.getElem?_append_right (Nat.le_refl _), Nat.sub_self]; rfl)
                  rw [List.length_append, List.length_singleton]
                  omega
            have k11 : Lk (envW nL f cdv) s₀ s11 W u d (us' ++ ys) := k9.move (X := ⟨P, w, K, mg, base, B, envW nL f cdv⟩) c9 st11 (fun b z => .inl z) fun b hb => by
              rcases List.mem_append.mp hb with hb | hb
              · exact k9.ni b hb
              · exact mine_new (k7.step0 (X := ⟨P, w, K, mg, base, B, envW nL f cdv⟩) c7 st8).st (newY b hb)
            refine wpAny_execs_nil ⟨rfl, ?_⟩
            refine seg_execs_nil (seg_again rfl ?_)
            refine ih _ n s₀ s11 W u d (us' ++ ys) vo ?_ c11 k11 hn hp
            rw [costs_snoc, C_go ok hok hends] at hm
            rw [costs_push]
            omega
end
end K25

set_option Elab.async false
set_option linter.all false
set_option maxRecDepth 100000
set_option maxHeartbeats 4000000
/-! K25, part RY: the generator from its first turn on -/
namespace K25
open PySem PySem.Spec PyProof.Rows L2 GenW
/-- the nodes from which y can be reached -/
def usf (T : Tbl) (y : PySem.Str) : List PySem.Str := ((edg T).map (·.1)).filter fun h => (rch (edg T) h).contains y
def wrows (T : Tbl) (x y : PySem.Str) : List (List PySem.Str) := if (usf T y).contains x then [[x]] else []
/-- all ways, as the generator hands them out -/
def wall (T : Tbl) (x y : PySem.Str) : List (List PySem.Str) := outs (edg T) (usf T y) y (wrows T x y)
theorem filterMap_pairs {β : Type} (q : PySem.Str → Bool) (T : List (PySem.Str × β)) : (T.filterMap fun p => if q p.1 then some p.1 else none) = (T.map (·.1)).filter q := by
  induction T with
  | nil => rfl
  | cons a r ih =>
    rw [List.filterMap_cons, List.map_cons, List.filter_cons]
    cases h : q a.1 <;> simp only [if_true, Bool.false_eq_true, if_false, ih]
section
variable {P : Program} {w : World} {K : PySem.W.Frag} {mg : PySem.Str → Option Value} {base : Heap} {nL f : Addr} {cdv : Value} {A : Around} {C a : Addr} {k : Nat} {T : Tbl} {x y : PySem.Str} {vn vo : Value}
theorem ways_seg (B : Base P w K mg base C k T) (tok : TOk T) (hx : Known T x) (hy : Known T y) (hr : Room k (A.deeper (envW nL f cdv))) (s : Shared) (I : RI ⟨P, w, K, mg, base, A.deeper (envW nL f cdv), envW nL f cdv⟩ [("other", vo), ("node", vn), ("choices", .ref a)] s)
    (hC : Cho P w C s.heap a T) (hn : Tx x vn) (ho : Tx y vo) (hF : ∀ b, Foot (envW nL f cdv) s.heap b → Own (envW nL f cdv) b) :
    Seg (model P w) A (RWe (envW nL f cdv)) (YW base (envW nL f cdv) (wall T x y)) (wall T x y).length s (.func (defBody (top 37)) (envW nL f cdv)) ((model P w).den (.func (defBody (top 37)) (envW nL f cdv))) [] s := by
  obtain ⟨fk, fdk, mk, kk, bk, Fk⟩ := B.known
  obtain ⟨fe, fde, me, ke, be, Fe⟩ := B.edges
  obtain ⟨fr, fdr, mr, kr, br, Fr⟩ := B.reach
  have gok := edg_ok tok
  have ov := over_func (A := A) (body := defBody (top 37)) (env := envW nL f cdv)
  refine seg_func ?_
  refine sg_cons ov (r_expr (X := ⟨P, w, K, mg, base, _, _⟩) (r_call I mk kk (r_arg2 (r_name I rfl (r_name I rfl ⟨I.kIn, RFn.call (X := ⟨P, w, K, mg, base, _, _⟩) (Fk x hx) hr bk I rfl ⟨a, vn, rfl, hC, hn⟩ fun _ s2 st2 _ => ⟨rfl, ?_⟩⟩)))))
  have I2 := I.step0 st2
  have hC2 := hC.keep st2.keep0
  refine sg_cons ov (r_expr (X := ⟨P, w, K, mg, base, _, _⟩) (r_call I2 mk kk (r_arg2 (r_name I2 rfl (r_name I2 rfl ⟨I2.kIn, RFn.call (X := ⟨P, w, K, mg, base, _, _⟩) (Fk y hy) hr bk I2 rfl ⟨a, vo, rfl, hC2, ho⟩ fun _ s3 st3 _ => ⟨rfl, ?_⟩⟩)))))
  have I3 := I2.step0 st3
  have hC3 := hC2.keep st3.keep0
  refine sg_cons ov (r_set (X := ⟨P, w, K, mg, base, _, _⟩) (r_call I3 me ke (r_arg1 (r_name I3 rfl ⟨I3.kIn, RFn.call (X := ⟨P, w, K, mg, base, _, _⟩) Fe hr be I3 rfl ⟨a, rfl, hC3⟩ fun e s4 st4 ⟨d, ed, newD, hD, newR⟩ => ?_⟩))))
  subst ed
  have I4 := I3.step0 st4
  refine ⟨_, I4, fun s5 I5 st5 z5 => ⟨rfl, ?_⟩⟩
  have farD : ¬ Own (envW nL f cdv) d ∧ base.objs.size ≤ d := I3.new newD
  have farR : ∀ b, RefIn s4.heap d b → ¬ Own (envW nL f cdv) b ∧ base.objs.size ≤ b := fun b h => I3.new (newR b h)
  have dTh : ∃ o, s4.heap.get? d = some o := by
    obtain ⟨_, _, ⟨o, _, _, ho, _⟩, _⟩ := hD
    exact ⟨o, ho⟩
  have k5 : ∀ b, ¬ Own (envW nL f cdv) b → ∀ o, s4.heap.get? b = some o → s5.heap.get? b = some o := fun b h o e => st5.keep b o (fun z => h (at_own b z)) e
  have hD5 : DcR P w RowV s5.heap d (edg T) := rows_at hD (k5 d farD.1) fun b o hr e => k5 b (farR b hr).1 o e
  have ref5 : ∀ b, RefIn s5.heap d b → RefIn s4.heap d b := fun b => ref_same (k5 d farD.1) dTh
  refine sg_cons ov (r_set (X := ⟨P, w, K, mg, base, _, _⟩) ?_)
  refine r_lcV (X := ⟨P, w, K, mg, base, _, _⟩) (xs := edg T) (g := fun p => if (rch (edg T) p.1).contains y then some p.1 else none) (Rout := Tx) I5 (blk_by (out := defScope (top 37)) (by decide +kernel) rfl) ?_
  refine r_name I5 rfl ⟨_, _, I5, apar_by (l := ["edges", "other", "node", "choices"]) (by decide +kernel) rfl, Nat.le_trans (edg_len tok) (by decide), Src.keys hr.hd hD5, fun C' i p vp sT hp hP IT stT => ?_, fun D6 s6 st6 hD6 L6 => ?_⟩
  · obtain ⟨p', e1, tp⟩ := hP
    rw [hp] at e1
    cases e1
    have hpk : p.1 ∈ (edg T).map (·.1) := List.mem_map.mpr ⟨p, List.mem_of_getElem? hp, rfl⟩
    have hDT : DcR P w RowV sT.heap d (edg T) := hD5.keep (fun _ _ => RowV.keep stT.keep0) stT.keep0
    refine wpAny_tests_one (r_tcmp (r_name IT rfl (r_call IT mr kr (r_arg2 (r_name IT rfl (r_name IT rfl ⟨IT.kIn, RFn.call (X := RX.blk ⟨P, w, K, mg, base, _, _⟩ _ C') (Fr p.1 hpk) hr br IT rfl ⟨d, vp, rfl, hDT, tp⟩ fun e s8 st8 ⟨l, el, _, hL⟩ => ?_⟩))))))
    subst el
    refine r_inL (X := RX.blk ⟨P, w, K, mg, base, _, _⟩ _ C') hL ho (wpAny_truthy_bool ?_)
    cases (rch (edg T) p.1).contains y with
    | false => exact ⟨rfl, st8, fun y e => by cases e⟩
    | true => exact ⟨rfl, st8, fun y e => by cases e; exact r_name (X := RX.blk ⟨P, w, K, mg, base, _, _⟩ _ C') (IT.step0 st8) rfl ⟨st8, tp⟩⟩
  · rw [filterMap_pairs (fun h => (rch (edg T) h).contains y) (edg T)] at L6
    have I6 := I5.step0 st6
    refine ⟨_, I6, fun s7 I7 st7 z7 => ⟨rfl, ?_⟩⟩
    have farU : ¬ Own (envW nL f cdv) D6 ∧ base.objs.size ≤ D6 := I5.new hD6
    have k7 : ∀ b, ¬ Own (envW nL f cdv) b → ∀ o, s6.heap.get? b = some o → s7.heap.get? b = some o := fun b h o e => st7.keep b o (fun z => h (at_own b z)) e
    have L7 : TxL s7.heap D6 (usf T y) := L6.keepX st7.keep fun z => farU.1 (at_own _ z)
    have dTh5 : ∃ o, s5.heap.get? d = some o := by
      obtain ⟨o, e⟩ := dTh
      exact ⟨o, k5 d farD.1 o e⟩
    have ref7 : ∀ b, RefIn s7.heap d b → RefIn s4.heap d b := fun b h => ref5 b (ref_same (fun o e => k7 d farD.1 o (st6.keep0 _ _ e)) dTh5 h)
    have hD7 : DcR P w RowV s7.heap d (edg T) := rows_at hD5 (fun o e => k7 d farD.1 o (st6.keep0 _ _ e)) fun b o hr e => k7 b (farR b (ref5 b hr)).1 o (st6.keep0 _ _ e)
    have ltD7 : d < s7.heap.objs.size := by
      obtain ⟨_, _, ⟨o, _, _, ho, _⟩, _⟩ := hD7
      exact Heap.lt_size ho
    have ltU7 := L7.lt
    have neUD : D6 ≠ d := fun z => by
      obtain ⟨o, e⟩ := dTh5
      exact absurd (Nat.lt_of_lt_of_le (Heap.lt_size e) (by rw [← z]; exact hD6)) (Nat.lt_irrefl _)
    have own0 : ∀ b, Own (envW nL f cdv) b → Mine (envW nL f cdv) s.heap b := fun b h => .inl (.inl h)
    have st07 : Step (Foot (envW nL f cdv) s.heap) s s7 := by
      have h4 : Step (Foot (envW nL f cdv) s.heap) s s4 := (st2.any.trans st3.any).trans st4.any
      have h5 := mine_step h4 st5 fun b h => own0 b (at_own b h)
      exact mine_step (h5.trans st6.any) st7 fun b h => own0 b (at_own b h)
    have mineOf : ∀ b, ¬ Own (envW nL f cdv) b → s3.heap.objs.size ≤ b → Mine (envW nL f cdv) s.heap b := fun b _ h => mine_new (s := s3) (st2.any.trans st3.any) h
    have s34 : s3.heap.objs.size ≤ s5.heap.objs.size := Nat.le_of_lt (by
      obtain ⟨o, e⟩ := dTh5
      exact Nat.lt_of_le_of_lt newD (Heap.lt_size e))
    have fin : ∀ (W : Addr) (its : List Value) (s8 : Shared), Step No s7 s8 → s7.heap.objs.size ≤ W → s8.heap.PlainList W its.toArray → Paired (fun row v => ∃ l, v = Value.ref l ∧ TxL s8.heap l row) (wrows T x y) its → its.Nodup → (∀ b, Value.ref b ∈ its → s7.heap.objs.size ≤ b ∧ b ≠ W) →
        ∃ r1, RI ⟨P, w, K, mg, base, A.deeper (envW nL f cdv), envW nL f cdv⟩ r1 s8 ∧ ∀ s', RI ⟨P, w, K, mg, base, A.deeper (envW nL f cdv), envW nL f cdv⟩ (("waiting", .ref W) :: r1) s' → Step (At (envW nL f cdv) "waiting") s8 s' → s'.heap.objs.size = s8.heap.objs.size → Flow.next = Flow.next ∧
          Seg (model P w) A (RWe (envW nL f cdv)) (YW base (envW nL f cdv) (wall T x y)) (wall T x y).length s (.func (defBody (top 37)) (envW nL f cdv)) ((execs ((defBody (top 37)).drop 5) (envW nL f cdv)).wrap (fun f => .pure (.done (.ret (match f with | .ret v => v | _ => .none)))) (fun e => (leaving (envW nL f cdv) e).wrap (fun _ => .raise e) .raise id id) id id) [] s' := by
      intro W its s8 st8 hW lw pr nd far
      refine ⟨_, I7.step0 st8, fun s9 I9 st9 z9 => ⟨rfl, ?_⟩⟩
      have farW : ¬ Own (envW nL f cdv) W ∧ base.objs.size ≤ W := I7.new hW
      have farI : ∀ b, Value.ref b ∈ its → ¬ Own (envW nL f cdv) b ∧ base.objs.size ≤ b := fun b h => I7.new (far b h).1
      have k9 : ∀ b, ¬ Own (envW nL f cdv) b → ∀ o, s8.heap.get? b = some o → s9.heap.get? b = some o := fun b h o e => st9.keep b o (fun z => h (at_own b z)) e
      have dTh7 : ∃ o, s7.heap.get? d = some o := by
        obtain ⟨o, e⟩ := dTh5
        exact ⟨o, k7 d farD.1 o (st6.keep0 _ _ e)⟩
      have ref9 : ∀ b, RefIn s9.heap d b → RefIn s4.heap d b := fun b h => ref7 b (ref_same (fun o e => k9 d farD.1 o (st8.keep0 _ _ e)) dTh7 h)
      have lt7 : ∀ b, (∃ o, s7.heap.get? b = some o) → b < s7.heap.objs.size := fun b ⟨o, e⟩ => Heap.lt_size e
      have rTh7 : ∀ b, RefIn s4.heap d b → b < s7.heap.objs.size := fun b h => by
        obtain ⟨vs, en, dd, _⟩ := hD
        obtain ⟨kk, hm⟩ := ref_dict dd h
        obtain ⟨j, hj⟩ := List.getElem?_of_mem hm
        obtain ⟨_, _, _, l, e, ⟨_, _, n, eo⟩, _⟩ := paired_get j en hj
        cases e
        exact Heap.lt_size (k7 b (farR b h).1 _ (st6.keep0 _ _ (k5 b (farR b h).1 _ eo)))
      have hD9 : DcR P w RowV s9.heap d (edg T) := rows_at hD7 (fun o e => k9 d farD.1 o (st8.keep0 _ _ e)) fun b o hr e => k9 b (farR b (ref7 b hr)).1 o (st8.keep0 _ _ e)
      have c9 : Core ⟨P, w, K, mg, base, A.deeper (envW nL f cdv), envW nL f cdv⟩ (edg T) (usf T y) y s9 (wrows T x y) W D6 d its vo := by
        refine ⟨(I9.less fun z v e => ?_), ho, (L7.keep st8.keep0).keepX st9.keep fun z => farU.1 (at_own _ z), hD9, lw.at (k9 W farW.1), rows_keep pr fun b o hb e => k9 b (farI b hb).1 o e, nd, fun b hb => ?_, fun l hl => ?_, Nat.ne_of_lt (Nat.lt_of_lt_of_le ltU7 hW), Nat.ne_of_lt (Nat.lt_of_lt_of_le ltD7 hW), fun b h => ⟨Nat.ne_of_lt (Nat.lt_of_lt_of_le (rTh7 b (ref9 b h)) hW), (farR b (ref9 b h)).1⟩, fun way hw => ?_, fun i row hi => ?_⟩
        · by_cases q1 : z = "waiting"
          · subst q1; exact e
          by_cases q2 : z = "useful"
          · subst q2; exact e
          by_cases q3 : z = "edges"
          · subst q3; exact e
          by_cases q4 : z = "other"
          · subst q4; exact e
          rw [lookup_cons_ne q1, lookup_cons_ne q2, lookup_cons_ne q3, lookup_cons_ne q4] at e
          cases e
        · rcases hb with rfl | rfl | rfl | h
          · exact farW
          · exact farU
          · exact farD
          · exact farI b h
        · obtain ⟨q1, q2⟩ := far l hl
          exact ⟨q2, Nat.ne_of_gt (Nat.lt_of_lt_of_le ltU7 q1), Nat.ne_of_gt (Nat.lt_of_lt_of_le ltD7 q1), fun z => absurd (Nat.lt_of_lt_of_le (rTh7 l (ref9 l z)) q1) (Nat.lt_irrefl _)⟩
        · unfold wrows at hw
          split at hw
          · rw [List.mem_singleton.mp hw]
            exact ⟨by simp, List.pairwise_singleton _ _, fun z hz => by rw [List.mem_singleton.mp hz]; exact hx.key⟩
          · cases hw
        · unfold wrows at hi
          split at hi
          · cases i with
            | zero => cases hi; exact (by decide : 0 < 41 * 1)
            | succ i => cases hi
          · cases hi
      have st09 : Step (Foot (envW nL f cdv) s.heap) s s9 := mine_step (st07.trans st8.any) st9 fun b h => own0 b (at_own b h)
      have new7 : ∀ b, s7.heap.objs.size ≤ b → Mine (envW nL f cdv) s.heap b := fun b h => mine_new st07 h
      have lk9 : Lk (envW nL f cdv) s s9 W D6 d its :=
        ⟨st09, new7 W hW, mineOf D6 farU.1 (Nat.le_trans s34 hD6), mineOf d farD.1 newD, fun b h => new7 b (far b h).1, fun b h => mineOf b (farR b (ref9 b h)).1 (newR b (ref9 b h))⟩
      refine seg_execs_cons (seg_While fun p => ?_)
      refine ways_loop gok (edg_len tok) ((over_loop rfl rfl).trans ov) rfl rfl hr.hd hr.units (fun s₀ sE stE => ?_) _ (wrows T x y) _ s s9 W D6 d its vo (Nat.lt_succ_self _) c9 lk9 rfl ⟨[], rfl⟩
      refine seg_leaf (.ok .next) ?_
      exact seg_execs_nil (env := envW nL f cdv) (seg_end (.ok (.ret .none)) (.inl ⟨.inl rfl, rfl, stE⟩))
    refine sg_cons ov (r_set (X := ⟨P, w, K, mg, base, _, _⟩) (wpAny_IfExp (r_tcmp (r_name I7 rfl (r_name I7 rfl (r_inL (X := ⟨P, w, K, mg, base, _, _⟩) L7 hn (wpAny_truthy_bool ?_)))))))
    cases hu : (usf T y).contains x with
    | true =>
      have hrows : wrows T x y = [[x]] := by unfold wrows; rw [hu]; rfl
      rw [if_pos rfl]
      refine r_list1 (X := ⟨P, w, K, mg, base, _, _⟩) (r_list1 (X := ⟨P, w, K, mg, base, _, _⟩) (r_name I7 rfl fun sA stA hA sB stB hB => ?_))
      have ltA : s7.heap.objs.size < sA.heap.objs.size := by
        obtain ⟨n, e⟩ := hA
        exact Heap.lt_size e
      refine fin sA.heap.objs.size [.ref s7.heap.objs.size] sB (stA.trans stB) (Nat.le_of_lt ltA) hB (by rw [hrows]; exact .cons ⟨_, rfl, [vn], .cons hn .nil, hA.at fun o e => stB.keep0 _ _ e⟩ .nil) (List.pairwise_singleton _ _) fun b hb => ?_
      have : b = s7.heap.objs.size := Value.ref.inj (List.mem_singleton.mp hb)
      rw [this]
      exact ⟨Nat.le_refl _, Nat.ne_of_lt ltA⟩
    | false =>
      have hrows : wrows T x y = [] := by unfold wrows; rw [hu]; rfl
      rw [if_neg Bool.false_ne_true]
      refine wpAny_List_spliced (Calls.spliced_nil ⟨Nat.zero_le _, ?_⟩)
      exact fin s7.heap.objs.size [] _ (.ofK (tk := s7.toks) (d := s7.drawn) (Keep.push _ _)) (Nat.le_refl _) ⟨0, Heap.get?_push_size _ rfl⟩ (by rw [hrows]; exact .nil) .nil fun b hb => by cases hb
end
end K25

set_option Elab.async false
set_option linter.all false
set_option maxRecDepth 100000
set_option maxHeartbeats 4000000
/-! K25, part RZ: a living generator, its next item, its making -/
namespace K25
open PySem PySem.Spec PyProof.Rows L2 GenW

/-- one generator's state turns, the heap changes within A -/
def GStep (g : Nat) (A : Addr → Prop) (s s' : Shared) : Prop := ∃ h tk d x, s' = { s with heap := h, toks := tk, drawn := d, gens := (s.setGen g x).gens } ∧ KeepX A s.heap h ∧ x.bare = true
theorem GStep.keep {g : Nat} {A : Addr → Prop} {s s' : Shared} (h : GStep g A s s') : KeepX A s.heap s'.heap := by
  obtain ⟨_, _, _, _, rfl, k, _⟩ := h
  exact k
theorem GStep.other {g i : Nat} {A : Addr → Prop} {s s' : Shared} (h : GStep g A s s') (n : i ≠ g) : s'.gens[i]? = s.gens[i]? := by
  obtain ⟨_, _, _, x, rfl, k, _⟩ := h
  show (s.gens.setIfInBounds g x)[i]? = _
  rw [Array.getElem?_setIfInBounds_ne (Ne.symm n)]
theorem GStep.bare {g : Nat} {A : Addr → Prop} {s s' : Shared} (h : GStep g A s s') (b : AllBare s.gens) : AllBare s'.gens := by
  obtain ⟨_, _, _, x, rfl, k, hx⟩ := h
  exact allBare_setGen b hx
theorem GStep.os {g : Nat} {A : Addr → Prop} {s s' : Shared} (h : GStep g A s s') : s'.os = s.os := by
  obtain ⟨_, _, _, x, rfl, k, hx⟩ := h
  rfl

/-- the generator at ga has n items left of all; A: what it leans on; it goes on wherever A, the base and Pre stand -/
structure Live (P : Program) (w : World) (base : Heap) (env : Env) (all : List (List PySem.Str)) (Aw : Around) (Pre : Heap → Prop) (n : Nat) (ga : Addr) (g : Nat) (A : Addr → Prop) (s : Shared) : Prop where
  gen : s.heap.IsGen ga g
  off : ¬ A ga
  there : ∀ b, A b → (∃ o, s.heap.get? b = some o) ∧ base.get? b = none
  goes : ∃ gs, s.gens[g]? = some gs ∧ gs.bare = true ∧ ∀ s2, Keep base s2.heap → KeptOn A s.heap s2.heap → Pre s2.heap → (∀ b, Foot env s2.heap b → A b) ∧ gs.Goes (model P w) Aw (RWe env) (YW base env all) n (.send .none) s2
section
variable {P : Program} {w : World} {base : Heap} {env : Env} {all : List (List PySem.Str)} {Aw A0 : Around} {Pre : Heap → Prop} {n : Nat} {ga : Addr} {g : Nat} {A : Addr → Prop} {s s' : Shared} {E : Value → Shared → Prop}
/-- while others act -/
theorem Live.stay (L : Live P w base env all Aw Pre n ga g A s) (k : KeptOn (fun b => A b ∨ b = ga) s.heap s'.heap) (hg : s'.gens[g]? = s.gens[g]?) : Live P w base env all Aw Pre n ga g A s' := by
  obtain ⟨⟨o, nm, qn, ho, hr⟩, off, there, gs, e, hb, go⟩ := L
  refine ⟨⟨o, nm, qn, k ga o (.inr rfl) ho, hr⟩, off, fun b hA => ?_, gs, hg.trans e, hb, fun s2 h1 h2 => go s2 h1 fun b o hA e => h2 b o hA (k b o (.inl hA) e)⟩
  obtain ⟨⟨o, e⟩, h⟩ := there b hA
  exact ⟨⟨o, k b o (.inl hA) e⟩, h⟩
/-- its next item -/
theorem live_next {Q : Option Value → Shared → Prop} (L : Live P w base env all A0.in1 Pre n ga g A s) (hh : A0.handled = none) (hroom : A0.depth < recursionLimit) (kb : Keep base s.heap) (lim : base.NoLimit) (pre : Pre s.heap)
    (hP : n = 0 → ∀ s', GStep g A s s' → Q none s')
    (hY : ∀ m l A' way s', n = m + 1 → m + 1 ≤ all.length → all[all.length - (m + 1)]? = some way → GStep g A s s' → TxL s'.heap l way → (∀ b, A' b → A b ∨ s.heap.get? b = none) → ¬ A' l → (A l ∨ s.heap.get? l = none) → l ≠ ga → Live P w base env all A0.in1 Pre m ga g A' s' → Q (some (.ref l)) s') :
    wpAny (model P w) A0 (pyNext (.ref ga)) Q E s := by
  obtain ⟨gen, off, there, gs, hgs, hbare, go⟩ := L
  obtain ⟨hF, hgo⟩ := go (s.setGen g .running) kb (fun b o _ e => e) pre
  have gsz : g < s.gens.size := (Array.getElem?_eq_some_iff.mp hgs).1
  have subA : ∀ {h' : Heap}, KeepX (Foot env s.heap) s.heap h' → KeepX A s.heap h' := fun k => k.mono fun b z => hF b z
  have toG : ∀ {s1 : Shared} (x : GenState), x.bare = true → Step (Foot env s.heap) (s.setGen g .running) s1 → ∀ h', Keep s1.heap h' → GStep g A s { s1.setGen g x with heap := h' } := fun {s1} x hx st h' kh => by
    obtain ⟨h1, t1, d1, rfl, k1⟩ := st
    refine ⟨h', t1, d1, x, ?_, fun b o nb e => kh b o (k1 b o (fun z => nb (hF b z)) e), hx⟩
    show ({ s with heap := h', toks := t1, drawn := d1, gens := (s.gens.setIfInBounds g .running).setIfInBounds g x } : Shared) = { s with heap := h', toks := t1, drawn := d1, gens := s.gens.setIfInBounds g x }
    rw [Array.setIfInBounds_setIfInBounds]
  refine next_genG (P := P) (w := w) (n := n) (Er := fun _ _ => False) (F := fun n s₀ s₁ => n = 0 ∧ Step (Foot env s₀.heap) s₀ s₁) hh (lim.keeps kb) hroom gen hgs hgo (fun v s1 gs' hb hy => ?_) (fun s1 ⟨h0, st⟩ h' kh => ?_) fun e s1 z => z.elim
  · obtain ⟨l, A', way, rfl, hn1, hway, hl, nA, mine, nOwn, st, thereA, wake⟩ := hy
    have gst := toG gs' hb st s1.heap (Keep.refl _)
    have kX : KeepX A s.heap s1.heap := gst.keep
    have kb1 : Keep base s1.heap := fun b o e => kX b o (fun z => by
      rw [(there b z).2] at e
      cases e) (kb b o e)
    cases n with
    | zero => exact (wake s1 kb1 fun b o _ e => e).2.elim
    | succ m =>
      rw [Nat.add_sub_cancel] at hn1 hway
      have mA : ∀ b, Mine env s.heap b → A b ∨ s.heap.get? b = none := fun b z => z.imp (hF b) id
      have genL := gen
      obtain ⟨og, nm, qn, hog, hr⟩ := gen
      refine hY m l A' way _ rfl hn1 hway gst hl (fun b hb => mA b (thereA b hb).1) nA (mA l mine) (fun z => ?_) ⟨⟨og, nm, qn, kX ga og off hog, hr⟩, fun z => ?_, fun b hb => ⟨(thereA b hb).2, ?_⟩, gs', ?_, hb, fun s2 h1 h2 _ => wake s2 h1 h2⟩
      · obtain ⟨_, _, nn, el⟩ := hl
        rw [z, kX ga og off hog] at el
        have hc := hr.1
        rw [Option.some.inj el] at hc
        exact absurd (Value.type.inj hc) (by decide)
      · rcases mA ga (thereA ga z).1 with q | q
        · exact off q
        · rw [hog] at q; cases q
      · cases q : base.get? b with
        | none => rfl
        | some o =>
          rcases mA b (thereA b hb).1 with z | z
          · rw [(there b z).2] at q; cases q
          · rw [kb b o q] at z; cases z
      · refine setGen_at ?_
        obtain ⟨h1, t1, d1, rfl, k1⟩ := st
        show g < (s.gens.setIfInBounds g .running).size
        rw [Array.size_setIfInBounds]
        exact gsz
  · exact hP h0 _ (toG .finished rfl st h' kh)
end

/-- a generator was made -/
def GMake (s s' : Shared) : Prop := ∃ h tk gs, s' = { s with heap := h, toks := tk, gens := s.gens.push gs } ∧ Keep s.heap h ∧ gs.bare = true
theorem GMake.keep {s s' : Shared} (m : GMake s s') : Keep s.heap s'.heap := by
  obtain ⟨_, _, _, rfl, k, _⟩ := m
  exact k
theorem GMake.gens {s s' : Shared} (m : GMake s s') {i : Nat} (h : i < s.gens.size) : s'.gens[i]? = s.gens[i]? := by
  obtain ⟨_, _, gs, rfl, k, _⟩ := m
  show (s.gens.push gs)[i]? = _
  rw [Array.getElem?_push_lt h, Array.getElem?_eq_getElem h]
theorem GMake.bare {s s' : Shared} (m : GMake s s') (b : AllBare s.gens) : AllBare s'.gens := by
  obtain ⟨_, _, gs, rfl, k, hb⟩ := m
  exact b.push hb
theorem scWays : GScope ["choices", "node", "other"] ["choices", "node", "other"] (defScope (top 37)) := ⟨rfl, rfl, rfl, by decide +kernel, rfl, by decide +kernel, by decide +kernel⟩
section
variable {P : Program} {w : World} {K : PySem.W.Frag} {mg : PySem.Str → Option Value} {base : Heap} {C a f : Addr} {fd : FuncData} {k : Nat} {T : Tbl} {x y : PySem.Str} {vn vo : Value}
theorem ways_make (F : Fun K "ways" "ways" (top 37) f fd) (mod : L2.Mod K mg base) (B : Base P w K mg base C k T) (tok : TOk T) (hx : Known T x) (hy : Known T y) (A : Around) (s : Shared) (args : Args) (hr : Room (k + 1) A) (kb : Keep base s.heap) (bsz : base.objs.size ≤ s.heap.objs.size)
    (hbt : BindsTo s fd args ([("choices" : PySem.Str), "node", "other"].zip [.ref a, vn, vo])) (hC : Cho P w C s.heap a T) (hn : Tx x vn) (ho : Tx y vo) :
    codeAny (model P w) A (.call (.ref f) args) (fun r s' => ∃ ga env, r = .ok (.ret (.ref ga)) ∧ GMake s s' ∧ s.heap.objs.size ≤ ga ∧ (∀ b, Own env b → s.heap.objs.size ≤ b) ∧
      ∀ Aw, Room (k + 1) Aw → Live P w base env (wall T x y) Aw (fun h => Cho P w C h a T) (wall T x y).length ga s.gens.size (Own env) s') s := by
  obtain ⟨oc, od, kV, doc, pm, an, cdv, ct, osl, rfl, lk, hcd⟩ := F.ex
  have KX : K.In s.heap := mod.kin.keeps kb
  have lim : s.heap.NoLimit := mod.nolimit.keeps kb
  have hkind : ∀ y ∈ [("choices" : PySem.Str), "node", "other"].zip [Value.ref a, vn, vo], (defScope (top 37)).names.lookup y.1 = some .local ∨ ((defScope (top 37)).names.lookup y.1 = some .cell ∧ ((cellsFrom (s.heap.objs.size + 1) (defScope (top 37)).names []).lookup y.1).isSome = true) := fun ⟨n, v⟩ hy => by
    rcases scWays.par n (List.of_mem_zip hy).1 with q | q
    · exact .inl q
    · exact .inr ⟨q, PySem.W.cellsFrom_some _ _ _ (.inl q)⟩
  refine codeAny_call_generator hr.depth (KX _ _ lk) rfl scWays.co scWays.gen rfl (PySem.W.codeRec_of KX hcd) (hbt _ _ _ _ ?_)
  refine wpAny_newFunctionEnv_cells scWays.kind hkind fun env he s1 xx => ?_
  subst he
  refine ⟨lim.keeps xx.toInCall.keep, ?_⟩
  show ∃ ga env, _
  have xx : InCallC s s.heap.objs.size (bindL (envW s.heap.objs.size f cdv).kindOf ([("choices" : PySem.Str), "node", "other"].zip [Value.ref a, vn, vo]) fun _ => none) (cellsFrom (s.heap.objs.size + 1) (defScope (top 37)).names []) (bindC (envW s.heap.objs.size f cdv).kindOf ([("choices" : PySem.Str), "node", "other"].zip [Value.ref a, vn, vo]) fun _ => none) s1 := xx
  have ow : ∀ b, Own (envW s.heap.objs.size f cdv) b → s.heap.objs.size ≤ b := fun b ow => by
    rcases ow with rfl | ⟨y, _, hc⟩
    · exact Nat.le_refl _
    · exact Nat.le_of_lt (xx.above _ _ (PySem.mem_of_lookup hc))
  have F0 : Frm (envW s.heap.objs.size f cdv) s1.heap (bindA ([("choices" : PySem.Str), "node", "other"].zip [Value.ref a, vn, vo]) []) := Frm.start (env := envW s.heap.objs.size f cdv) (s := s) scWays.kind scWays.nofree rfl xx
  have F1 : Frm (envW s.heap.objs.size f cdv) s1.heap [("other", vo), ("node", vn), ("choices", .ref a)] := F0
  have lt1 : s.heap.objs.size < s1.heap.objs.size := xx.toInCall.ns.lt
  obtain ⟨h1, tk, es1, hk1⟩ := xx.done
  generalize hgo : ({ cls := .type "generator", data := .fields #[.int s1.gens.size 0, .str _ s1.toks, .str _ (s1.toks + 1)] } : Obj) = go
  have goc : go.cls = .type "generator" ∧ (∃ nm qn, go.data = .fields #[.int s1.gens.size 0, nm, qn]) ∧ go.slots = #[] := by rw [← hgo]; exact ⟨rfl, ⟨_, _, rfl⟩, rfl⟩
  have gof : go.isFreed = false := by rw [← hgo]; rfl
  clear hgo
  have gen1 : s1.gens = s.gens := by rw [es1]
  have hat : (s1.heap.push go).get? s1.heap.objs.size = some go := Heap.get?_push_size _ gof
  refine ⟨s1.heap.objs.size, envW s.heap.objs.size f cdv, rfl, ⟨s1.heap.push go, s1.toks + 1 + 1, .fresh (.func (defBody (top 37)) (envW s.heap.objs.size f cdv)), ?_, fun b o e => Heap.get?_push_of_some _ (xx.toInCall.keep b o e), rfl⟩, Nat.le_of_lt lt1, ow, fun Aw hrw => ?_⟩
  · rw [es1]
    rfl
  have thereOwn : ∀ b, Own (envW s.heap.objs.size f cdv) b → ∃ o, s1.heap.get? b = some o := fun b ow => by
    rcases ow with rfl | ⟨z, hk, hc⟩
    · obtain ⟨m, ⟨o, _, _, ho, _⟩, _⟩ := F1.ns
      exact ⟨o, ho⟩
    · obtain ⟨c', w', e, ⟨o, ho, _⟩, _⟩ := F1.cl z hk
      rw [hc] at e
      cases e
      exact ⟨o, ho⟩
  refine ⟨?_, fun z => ?_, fun b hb => ⟨?_, ?_⟩, .fresh (.func (defBody (top 37)) (envW s.heap.objs.size f cdv)), ?_, rfl, fun s2 kb2 kept pre => ?_⟩
  · obtain ⟨g1, ⟨nm, qn, g2⟩, g3⟩ := goc
    rw [gen1] at g2
    exact ⟨go, nm, qn, hat, g1, g2, g3⟩
  · obtain ⟨o, e⟩ := thereOwn _ z
    exact absurd (Heap.lt_size e) (Nat.lt_irrefl _)
  · obtain ⟨o, e⟩ := thereOwn b hb
    exact ⟨o, Heap.get?_push_of_some _ e⟩
  · exact Heap.get?_none_of_le (Nat.le_trans bsz (ow b hb))
  · show (s1.gens.push _)[s.gens.size]? = _
    rw [gen1]
    exact Array.getElem?_push_size ..
  · have k12 : ∀ b o, Own (envW s.heap.objs.size f cdv) b → s1.heap.get? b = some o → s2.heap.get? b = some o := fun b o ow e => kept b o ow (Heap.get?_push_of_some _ e)
    have F2 := F1.at k12
    have noH : ∀ z ∈ wNames, ∀ v, ¬ Holds (envW s.heap.objs.size f cdv) s2.heap z v := by
      intro z hz v H
      have three : z = "waiting" ∨ z = "useful" ∨ z = "edges" := by simpa [wNames] using hz
      rcases three with rfl | rfl | rfl
      · rcases H with ⟨_, e⟩ | ⟨kk, _⟩
        · have n2 := xx.toInCall.ns.at' fun o e => k12 _ o (.inl rfl) e
          rw [show s2.heap.nsMap (envW s.heap.objs.size f cdv).locals = _ from n2.eq_nsMap.symm, bindL_A (x := "waiting") rfl _ _ [] rfl] at e
          cases e
        · cases kk
      · rcases H with ⟨kk, _⟩ | ⟨_, c, hc, o, ho, hd⟩
        · cases kk
        · have q := xx.cell _ c hc
          rw [bindC_A (x := "useful") (show (some NameKind.cell : Option NameKind) ≠ some .local by decide) _ _ [] rfl] at q
          obtain ⟨o', ho', hd'⟩ := q
          have := k12 c o' (.inr ⟨_, .inl rfl, hc⟩) ho'
          rw [ho] at this
          cases this
          rw [hd] at hd'
          cases (Data.cell.inj hd')
      · rcases H with ⟨kk, _⟩ | ⟨_, c, hc, o, ho, hd⟩
        · cases kk
        · have q := xx.cell _ c hc
          rw [bindC_A (x := "edges") (show (some NameKind.cell : Option NameKind) ≠ some .local by decide) _ _ [] rfl] at q
          obtain ⟨o', ho', hd'⟩ := q
          have := k12 c o' (.inr ⟨_, .inl rfl, hc⟩) ho'
          rw [ho] at this
          cases this
          rw [hd] at hd'
          cases (Data.cell.inj hd')
    have hF : ∀ b, Foot (envW s.heap.objs.size f cdv) s2.heap b → Own (envW s.heap.objs.size f cdv) b := fun b hb => by
      rcases hb with hb | ⟨z, hz, a', H, _⟩
      · exact hb
      · exact absurd H (noH z hz _)
    refine ⟨hF, rfl, ?_⟩
    exact ways_seg B tok hx hy (hrw.deeper _) s2 ⟨⟨mod, rfl, rfl, fun b h => Nat.le_trans bsz (ow b h), hrw.hd⟩, kb2, F2⟩ pre hn ho hF
end
end K25

set_option Elab.async false
set_option linter.all false
set_option maxRecDepth 100000
set_option maxHeartbeats 4000000
/-! K25, part RL: list(ways(..)) -/
namespace K25
open PySem PySem.Spec PyProof.Rows L2 GenW
abbrev RowV2 (h : Heap) (way : List PySem.Str) (v : Value) : Prop := ∃ l, v = Value.ref l ∧ TxL h l way
section
variable {P : Program} {w : World} {base H0 : Heap} {env : Env} {all : List (List PySem.Str)} {C a : Addr} {T : Tbl} {ga : Addr} {g : Nat} {E : Value → Shared → Prop}
/-- the list at S fills -/
theorem drainW {A : Around} {R : Result → Shared → Prop} {S : Addr} {res : Value} (hh : A.handled = none) (hroom : A.depth < recursionLimit) (lim : base.NoLimit) (hb0 : Keep base H0) (hC : Cho P w C H0 a T) (hS0 : H0.get? S = none) (hSg : S ≠ ga) (hlen : all.length ≤ sizeLine) (os : OsState) :
    ∀ (n : Nat) (A' : Addr → Prop) (s : Shared) (acc : Array Value) (c : Nat), Live P w base env all A.in1.in1 (fun h => Cho P w C h a T) n ga g A' s → n ≤ all.length → Keep H0 s.heap → (∀ b, A' b → H0.get? b = none) → ¬ A' S → s.heap.get? S = some (lstObj acc c) → AllBare s.gens → s.os = os →
      Paired (RowV2 s.heap) (all.take (all.length - n)) acc.toList → (∀ l, Value.ref l ∈ acc.toList → ¬ A' l ∧ l ≠ S ∧ ∃ o, s.heap.get? l = some o) →
      (∀ s' acc c, Keep H0 s'.heap → AllBare s'.gens → s'.os = os → s'.heap.get? S = some (lstObj acc c) → Paired (RowV2 s'.heap) all acc.toList → (∀ l, Value.ref l ∈ acc.toList → l ≠ S ∧ H0.get? l = none) → R (.ok (.ret res)) s') →
      (∀ l, Value.ref l ∈ acc.toList → H0.get? l = none) →
      codeAny (model P w) A (.builtin "list.extend.loop" ⟨[.ref S, .ref ga, res], []⟩) R s := by
  intro n
  induction n with
  | zero =>
    intro A' s acc c L hn kH farA nS hS hb hos pr mem fin new
    refine codeAny_builtin PySem.F.entry_extend_loop ?_
    rw [Around.under_plainId PySem.F.plain_extend_loop _]
    show wpAny _ A.in1 (pyNext (.ref ga) >>= _) _ _ s
    refine wpAny_bind (live_next (A0 := A.in1) L hh hroom (fun b o e => kH b o (hb0 b o e)) lim (hC.keep kH) (fun _ s' gst => ?_) fun m l A2 way s' e => by cases e)
    have k2 := gst.keep
    refine wpAny_pure (fin s' acc c (fun b o e => k2 b o (fun z => by rw [farA b z] at e; cases e) (kH b o e)) (gst.bare hb) (gst.os.trans hos) (k2 S _ nS hS) ?_ fun l hl => ⟨(mem l hl).2.1, new l hl⟩)
    rw [Nat.sub_zero, List.take_length] at pr
    exact rows_keep pr fun b o hb e => k2 b o (mem b hb).1 e
  | succ n ih =>
    intro A' s acc c L hn kH farA nS hS hb hos pr mem fin new
    refine codeAny_builtin PySem.F.entry_extend_loop ?_
    rw [Around.under_plainId PySem.F.plain_extend_loop _]
    show wpAny _ A.in1 (pyNext (.ref ga) >>= _) _ _ s
    refine wpAny_bind (live_next (A0 := A.in1) L hh hroom (fun b o e => kH b o (hb0 b o e)) lim (hC.keep kH) (fun e => by cases e) fun m l A2 way s1 e hm hway gst hl subA nA2 lnew lga L2 => ?_)
    obtain rfl : n = m := Nat.succ.inj e
    have k2 := gst.keep
    have accz : acc.size < sizeLine := by
      have := pr.length
      have e2 : acc.toList.length = acc.size := Array.length_toList
      rw [List.length_take, e2] at this
      omega
    have hS1 := k2 S _ nS hS
    have lS : l ≠ S := fun z => by
      rcases lnew with q | q
      · exact nS (z ▸ q)
      · rw [z, hS] at q; cases q
    show wpAny _ A.in1 (updateSeq S (·.push (.ref l)) >>= _) _ _ _
    refine wpAny_bind (wpAny_updateSeq hS1 rfl (wpAny_pure ⟨plainId_quiet PySem.F.plain_extend_loop _, ?_⟩) (Nat.le_of_lt accz) (by show (acc.push _).size ≤ sizeLine + 1; rw [Array.size_push]; omega))
    have k3 : ∀ b o, b ≠ S → s1.heap.get? b = some o → (s1.heap.update S (Obj.mapSeq (·.push (.ref l)))).get? b = some o := fun b o hbS e => (Heap.get?_update_other _ _ (Ne.symm hbS)).trans e
    have hS2 := Heap.get?_update_self (Obj.mapSeq (·.push (Value.ref l))) hS1 rfl
    have kH1 : Keep H0 s1.heap := fun b o e => k2 b o (fun z => by rw [farA b z] at e; cases e) (kH b o e)
    have nS2 : ¬ A2 S := fun z => by
      rcases subA S z with q | q
      · exact nS q
      · rw [hS] at q; cases q
    have farA2 : ∀ b, A2 b → H0.get? b = none := fun b z => by
      rcases subA b z with q | q
      · exact farA b q
      · cases q2 : H0.get? b with
        | none => rfl
        | some o => rw [kH b o q2] at q; cases q
    have lH0 : H0.get? l = none := by
      rcases lnew with q | q
      · exact farA l q
      · cases q2 : H0.get? l with
        | none => rfl
        | some o => rw [kH l o q2] at q; cases q
    have mem2 : ∀ b, Value.ref b ∈ acc.toList → ¬ A2 b ∧ b ≠ S ∧ ∃ o, s1.heap.get? b = some o := fun b hb => by
      obtain ⟨h1, h2, o, h3⟩ := mem b hb
      refine ⟨fun z => ?_, h2, o, k2 b o h1 h3⟩
      rcases subA b z with q | q
      · exact h1 q
      · rw [h3] at q; cases q
    refine ih A2 _ (acc.push (.ref l)) _ (L2.stay (fun b o hb e => k3 b o (fun z => by
      rcases hb with q | q
      · rw [z] at q; exact nS2 q
      · exact hSg (z.symm.trans q)) e) rfl) (Nat.le_of_succ_le hn) (fun b o e => k3 b o (fun z => by rw [z, hS0] at e; cases e) (kH1 b o e)) farA2 nS2 hS2 (gst.bare hb) (gst.os.trans hos) ?_ ?_ fin ?_
    · have : all.take (all.length - n) = all.take (all.length - (n + 1)) ++ [way] := by
        rw [show all.length - n = (all.length - (n + 1)) + 1 by omega, List.take_add_one, hway]
        rfl
      rw [this, Array.toList_push]
      refine paired_append (rows_keep (rows_keep pr fun b o hb e => k2 b o (mem b hb).1 e) fun b o hb e => k3 b o (mem b hb).2.1 e) (.cons ⟨l, rfl, ?_⟩ .nil)
      obtain ⟨i, p, q, eo⟩ := hl
      exact ⟨i, p, q, k3 l _ lS eo⟩
    · intro b hb
      rw [Array.toList_push] at hb
      rcases List.mem_append.mp hb with hb | hb
      · obtain ⟨h1, h2, o, h3⟩ := mem2 b hb
        exact ⟨h1, h2, o, k3 b o h2 h3⟩
      · have e := Value.ref.inj (List.mem_singleton.mp hb)
        subst e
        obtain ⟨i, p, q, eo⟩ := hl
        exact ⟨nA2, lS, _, k3 b _ lS eo⟩
    · intro b hb
      rw [Array.toList_push] at hb
      rcases List.mem_append.mp hb with hb | hb
      · exact new b hb
      · rw [Value.ref.inj (List.mem_singleton.mp hb)]
        exact lH0
/-- list(g), g a generator that has not begun -/
theorem list_gen {A : Around} {Q : Value → Shared → Prop} {A' : Addr → Prop} {s : Shared} (hh : A.handled = none) (hroom : A.depth < recursionLimit) (lim : base.NoLimit) (hb0 : Keep base H0) (hC : Cho P w C H0 a T) (hlen : all.length ≤ sizeLine)
    (L : Live P w base env all A.in1.in1.in1 (fun h => Cho P w C h a T) all.length ga g A' s) (kH : Keep H0 s.heap) (farA : ∀ b, A' b → H0.get? b = none) (hb : AllBare s.gens)
    (q : ∀ s' S acc c, Keep H0 s'.heap → AllBare s'.gens → s'.os = s.os → s.heap.objs.size ≤ S → s'.heap.get? S = some (lstObj acc c) → Paired (RowV2 s'.heap) all acc.toList → (∀ l, Value.ref l ∈ acc.toList → l ≠ S ∧ H0.get? l = none) → Q (.ref S) s') :
    wpAny (model P w) A (call (.type "list") [.ref ga]) Q E s := by
  obtain ⟨og, nm, qn, hog, hgr⟩ := L.gen
  have ltG := Heap.lt_size hog
  have neG : s.heap.objs.size ≠ ga := Nat.ne_of_gt ltG
  let S0 : Obj := { cls := .type "list", data := .seq #[] }
  refine callType_codes (Q₁ := fun obj t => obj = .ref s.heap.objs.size ∧ t = { s with heap := s.heap.push { cls := .type "list", data := .seq #[] } }) PySem.F.called_list (PySem.F.typeCall_list_1 _) PySem.F.entry_list_init (code_list_new _ ⟨rfl, rfl⟩) fun obj t ht => ?_
  obtain ⟨rfl, rfl⟩ := ht
  have at0 : (s.heap.push { cls := .type "list", data := .seq #[] }).get? s.heap.objs.size = some { cls := .type "list", data := .seq #[] } := Heap.get?_push_size _ rfl
  refine ⟨⟨_, at0, rfl⟩, PySem.F.args_list_init_2 _ _, ?_⟩
  show wpAny _ A.in1.in1 (do let was ← Builtin.List.listItems (.ref s.heap.objs.size); Builtin.List.listUpdate (.ref s.heap.objs.size) (fun _ => #[]); letGo was.toList.reverse; Builtin.List.listExtendWith (.ref s.heap.objs.size) (.ref ga) .none) _ _ _
  refine wpAny_bind ?_
  unfold Builtin.List.listItems
  refine wpAny_bind (wpAny_seqItems at0 rfl (wpAny_pure ?_))
  show wpAny _ A.in1.in1 (updateSeq s.heap.objs.size (fun _ => #[]) >>= fun _ => letGo (#[] : Array Value).toList.reverse >>= fun _ => Builtin.List.listExtendWith (.ref s.heap.objs.size) (.ref ga) .none) _ _ _
  refine wpAny_bind (wpAny_updateSeq at0 rfl ?_)
  have at1 := Heap.get?_update_self (Obj.mapSeq (fun _ => (#[] : Array Value))) at0 rfl
  refine wpAny_bind (wpAny_letGo ?_)
  unfold Builtin.List.listExtendWith
  have go1 : ∀ (h : Heap) (f : Obj → Obj), Keep s.heap h → Keep s.heap (h.update s.heap.objs.size f) := fun h f kk b o e => (Heap.get?_update_other _ _ (Nat.ne_of_gt (Heap.lt_size e))).trans (kk b o e)
  have kp := go1 _ (Obj.mapSeq (fun _ => (#[] : Array Value))) (Keep.push s.heap { cls := .type "list", data := .seq #[] })
  have genAt : ∀ {h : Heap}, Keep s.heap h → h.IsGen ga g := fun {h} kk => L.gen.keeps kk
  refine wpAny_bind (wpAny_typeOf (Heap.IsGen.typeIs (s := { s with heap := _ }) (genAt kp)) ?_)
  have f1 : Builtin.List.listSameRef (.ref s.heap.objs.size) (.ref ga) = false := by simp [Builtin.List.listSameRef, neG]
  have f2 : (Value.type "generator" == Value.type "list") = false := by decide
  have f3 : (Value.type "generator" == Value.type "tuple") = false := by decide
  simp only [f1, f2, f3, Bool.or_false, Bool.false_eq_true, if_false]
  refine wpAny_bind (wpAny_pyIter_gen (s := { s with heap := _ }) (genAt kp) ?_)
  refine wpAny_bind (wpAny_holding ?_)
  unfold Builtin.List.listLengthHint
  refine wpAny_bind (wpAny_specialOf (Heap.IsGen.typeIs (s := { s with heap := _ }) (genAt kp)) F.gen_no_len ?_)
  show wpAny _ A.in1.in1 (specialOf (Value.ref ga) (Str.ofString "__length_hint__") >>= _) _ _ _
  refine wpAny_bind (wpAny_specialOf (Heap.IsGen.typeIs (s := { s with heap := _ }) (genAt kp)) F.gen_no_hint ?_)
  refine wpAny_pure ?_
  show wpAny _ A.in1.in1 (rule "list.extend.makes-room" >>= fun _ => Builtin.List.listTouch (.ref s.heap.objs.size) >>= fun _ => again (.builtin "list.extend.loop" ⟨[.ref s.heap.objs.size, .ref ga, .none], []⟩)) _ _ _
  refine wpAny_bind (wpAny_rule (wpAny_bind ?_))
  show wpAny _ A.in1.in1 (updateSeq s.heap.objs.size (·.push .none) >>= fun _ => updateSeq s.heap.objs.size (·.pop)) _ _ _
  refine wpAny_bind (wpAny_updateSeq at1 rfl ?_)
  have at2 := Heap.get?_update_self (Obj.mapSeq (·.push Value.none)) at1 rfl
  refine wpAny_updateSeq (hz := by seq_fits) at2 rfl ?_
  have at3 := Heap.get?_update_self (Obj.mapSeq (·.pop)) at2 rfl
  have kp3 := go1 _ (Obj.mapSeq (·.pop)) (go1 _ (Obj.mapSeq (·.push Value.none)) kp)
  refine wpAny_pure ⟨plainId_quiet PySem.F.plain_extend_loop _, ?_⟩
  refine drainW (H0 := H0) (A := A.in1) hh hroom lim hb0 hC ?_ neG hlen s.os all.length A' _ #[] _ (L.stay (fun b o _ e => kp3 b o e) rfl) (Nat.le_refl _) (kH.trans kp3) farA (fun z => ?_) at3 hb rfl (by rw [Nat.sub_self]; exact .nil) (fun l hl => by simp at hl) (fun s' acc c k' b' o' e' p' n' => ⟨rfl, q s' _ acc c k' b' o' (Nat.le_refl _) e' p' n'⟩) (fun l hl => by simp at hl)
  · cases e : H0.get? s.heap.objs.size with
    | none => rfl
    | some o => exact absurd (Heap.lt_size (kH _ o e)) (Nat.lt_irrefl _)
  · obtain ⟨⟨o, e⟩, _⟩ := L.there _ z
    exact absurd (Heap.lt_size e) (Nat.lt_irrefl _)
end
end K25

set_option Elab.async false
set_option linter.all false
set_option maxRecDepth 100000
set_option maxHeartbeats 4000000
/-! K25, part HB: from the abstract heap to the bare one and back -/
namespace K25
open PySem PySem.Spec PyProof.Rows L2
/-- the bare context of a def that runs -/
def rx (X : Cx) : RX := ⟨X.prog, X.w, X.K, X.mg, X.base, X.A, X.env⟩
section
variable {X : Cx} {pins : List (Addr × Obj)} {σ : L2.St} {H H' : Hp} {s s' : Shared}
theorem rx_ok (I : Inv X pins σ H s) (hc : X.calm = true) (hf : ∀ x, X.fn x = true) : (rx X).Ok := by
  refine ⟨I.ok.mod, I.ok.glob, I.ok.blt, fun b hb => ?_, I.ok.hd hc⟩
  rcases hb with rfl | ⟨x, _, hx⟩
  · exact Nat.le_trans I.ok.bsz I.ok.above
  · exact Nat.le_trans I.ok.bsz (I.ok.cab x b (hf x) hx)
theorem Inv.ri (I : Inv X pins σ H s) (hc : X.calm = true) (hf : ∀ x, X.fn x = true) : ∀ l : List (Nat × PySem.Str × V), (∀ e ∈ l, X.N[e.1]? = some e.2.1 ∧ σ[e.1]? = some (some e.2.2) ∧ Vis X.env.scope e.2.1) →
    ∃ r : List (PySem.Str × Value), Paired (fun (e : Nat × PySem.Str × V) (p : PySem.Str × Value) => p.1 = e.2.1 ∧ RelV e.2.2 p.2) l r ∧ RI (rx X) r s := by
  intro l hl
  obtain ⟨m, hn, hm⟩ := I.loc
  have build : ∀ l : List (Nat × PySem.Str × V), (∀ e ∈ l, X.N[e.1]? = some e.2.1 ∧ σ[e.1]? = some (some e.2.2) ∧ Vis X.env.scope e.2.1) →
      ∃ r : List (PySem.Str × Value), Paired (fun (e : Nat × PySem.Str × V) (p : PySem.Str × Value) => p.1 = e.2.1 ∧ RelV e.2.2 p.2) l r ∧ ∀ p ∈ r, Look X.env s.heap m p.1 p.2 := by
    intro l
    induction l with
    | nil => intro _; exact ⟨[], .nil, fun p hp => by cases hp⟩
    | cons e l ih =>
      intro h
      obtain ⟨r, p, q⟩ := ih fun e' he => h e' (.tail _ he)
      obtain ⟨h1, h2, h3⟩ := h e (.head _)
      obtain ⟨u, ru, lk⟩ := hm e.1 e.2.1 e.2.2 h1 h2 h3
      refine ⟨(e.2.1, u) :: r, .cons ⟨rfl, ru⟩ p, fun p hp => ?_⟩
      rcases List.mem_cons.mp hp with rfl | hp
      · exact lk
      · exact q p hp
  obtain ⟨r, p, q⟩ := build l hl
  refine ⟨r, p, rx_ok I hc hf, I.bk, I.ok.kind, ⟨m, hn, fun x v k e => ?_⟩, fun x hx => ?_, I.ok.inj⟩
  · rcases q _ (PySem.mem_of_lookup e) with ⟨_, z⟩ | ⟨z, _⟩
    · exact z
    · rw [show X.env.kindOf x = some .local from k] at z
      rcases z with z | z <;> cases z
  · obtain ⟨c, hcx⟩ := I.ok.has x hx
    obtain ⟨v0, hv0⟩ := I.cell x c hcx
    refine ⟨c, v0, hcx, hv0, fun v e => ?_⟩
    rcases q _ (PySem.mem_of_lookup e) with ⟨z, _⟩ | ⟨_, c', e', z⟩
    · have hx : X.env.kindOf x = some .cell ∨ X.env.kindOf x = some .free := hx
      rw [show X.env.kindOf x = some .local from z] at hx
      rcases hx with hx | hx <;> cases hx
    · have : c = c' := Option.some.inj (hcx.symm.trans e')
      subst this
      obtain ⟨o1, e1, d1⟩ := hv0
      obtain ⟨o2, e2, d2⟩ := z
      rw [e1] at e2
      cases e2
      rw [d1] at d2
      exact Data.cell.inj d2
theorem hok_none (ok : HOk X.prog X.w H s.heap) {b : Addr} (h : s.heap.get? b = none) : H b = none := by
  cases q : H b with
  | none => rfl
  | some o =>
    exfalso
    have : ∀ (u : HO), ObjOk X.prog X.w H s.heap b u → ∃ o, s.heap.get? b = some o := by
      intro u
      induction u with
      | lst xs => rintro ⟨_, _, _, _, e⟩; exact ⟨_, e⟩
      | tup xs => rintro ⟨_, _, _, _, e, _⟩; exact ⟨_, e⟩
      | dK kvs => rintro ⟨_, _, _, _, o, _, _, e, _⟩; exact ⟨o, e⟩
      | dT kvs => rintro ⟨_, _, _, _, o, _, _, e, _⟩; exact ⟨o, e⟩
      | set S n => rintro ⟨o, _, _, _, e, _⟩; exact ⟨o, e⟩
      | ins C dx fs => rintro ⟨_, _, _, e, _⟩; exact ⟨_, e⟩
      | own y => rintro ⟨o, e⟩; exact ⟨o, e⟩
      | xd fs => rintro ⟨_, ⟨o, _, _, e, _⟩, _⟩; exact ⟨o, e⟩
      | met f y => intro e; exact ⟨_, e⟩
      | rng lo hi => rintro ⟨_, _, _, e⟩; exact ⟨_, e⟩
      | frz o u _ => rintro ⟨e, _⟩; exact ⟨o, e⟩
      | tbl ps => intro e; exact ⟨_, e⟩
      | ext φ => rintro ⟨_, e, _⟩; exact e
    obtain ⟨o', e⟩ := this o (ok b o q)
    rw [h] at e
    cases e
/-- all that stood stands, new things are tracked -/
theorem Inv.grown (I : Inv X pins σ H s) (os : s'.os = s.os) (hb : AllBare s'.gens) (k : Keep s.heap s'.heap) (new : ∀ b, H' b ≠ H b → s.heap.get? b = none) (ok : ∀ b u, H' b = some u → H b = none → ObjOk X.prog X.w H' s'.heap b u) : Inv X pins σ H' s' := by
  have same : ∀ b u, H b = some u → H' b = some u := fun b u e => by
    rcases Classical.em (H' b = H b) with z | z
    · rw [z]; exact e
    · rw [hok_none I.hok (new b z)] at e; cases e
  refine I.call' (ch := []) os ⟨fun b o e _ _ _ => k b o e, fun b o e _ _ _ => ⟨o.slots, k b o e⟩, fun b o e n _ => ?_, fun b o e _ => ⟨o, k b o e⟩, fun b xs e => same b _ e, fun b o u e => same b _ e, fun b ps e => ⟨#[], by rw [same b _ e]; simp⟩⟩ (fun b u e => ?_) hb fun b z => by cases z
  · rcases Classical.em (H' b = H b) with z | z
    · rw [z]; exact n
    · rw [new b z] at e; cases e
  · cases q : H b with
    | none => exact ok b u e q
    | some u' =>
      have e2 := same b u' q
      rw [e] at e2
      cases e2
      exact (I.hok b u q).stay (fun c v _ z => k c v z) (fun c z => same c _ z) fun c xs z => same c _ z
end

/-! ### the table of Choices -/
def optV : Opt → V → Prop := fun o v => match o with | none => v = .non | some p => ∃ t, v = .ref t
/-- the options of a node as the abstract heap has them -/
def OptH (H : Hp) (o : Opt) (v : V) : Prop := match o with | none => v = .non | some p => ∃ t, v = .ref t ∧ H t = some (.tup [.str p.1, .str p.2])
def RowH (H : Hp) (os : List Opt) (v : V) : Prop := ∃ l vs, v = .ref l ∧ H l = some (.lst vs) ∧ Paired (OptH H) os vs ∧ os.length ≤ 250
def TblH (H : Hp) (d : Addr) (T : Tbl) : Prop := ∃ kvs : List (Key × V), H d = some (.dK kvs) ∧ Paired (fun (p : PySem.Str × List Opt) (q : Key × V) => q.1 = .inr p.1 ∧ RowH H p.2 q.2) T kvs
def ChoH (C : Addr) (H : Hp) (a : Addr) (T : Tbl) : Prop := ∃ dx d, H a = some (.ins C dx [("own_options", .ref d)]) ∧ TblH H d T
theorem OptH.same {H H' : Hp} (k : Same H H') {o : Opt} {v : V} (h : OptH H o v) : OptH H' o v := by
  cases o with
  | none => exact h
  | some p =>
    obtain ⟨t, e, q⟩ := h
    exact ⟨t, e, k _ _ q⟩
theorem RowH.same {H H' : Hp} (k : Same H H') {o : List Opt} {v : V} (h : RowH H o v) : RowH H' o v := by
  obtain ⟨l, vs, e, q, p, z⟩ := h
  exact ⟨l, vs, e, k _ _ q, Paired.mapP p fun _ _ => OptH.same k, z⟩
theorem TblH.same {H H' : Hp} (k : Same H H') {d : Addr} {T : Tbl} (h : TblH H d T) : TblH H' d T := by
  obtain ⟨kvs, e, p⟩ := h
  exact ⟨kvs, k _ _ e, Paired.mapP p fun _ _ z => ⟨z.1, z.2.same k⟩⟩
theorem ChoH.same {C : Addr} {H H' : Hp} (k : Same H H') {a : Addr} {T : Tbl} (h : ChoH C H a T) : ChoH C H' a T := by
  obtain ⟨dx, d, e, p⟩ := h
  exact ⟨dx, d, k _ _ e, p.same k⟩
theorem paired_comp {α β γ : Type} {R : α → β → Prop} {Q : β → γ → Prop} {Z : α → γ → Prop} (h : ∀ a b c, R a b → Q b c → Z a c) : ∀ {xs : List α} {ys : List β} {zs : List γ}, Paired R xs ys → Paired Q ys zs → Paired Z xs zs
  | _, _, _, .nil, .nil => .nil
  | _, _, _, .cons r t, .cons q u => .cons (h _ _ _ r q) (paired_comp h t u)
section
variable {P : Program} {w : World} {C : Addr} {H : Hp} {h : Heap}
theorem OptH.raw (ok : HOk P w H h) {o : Opt} {v : V} {u : Value} (q : OptH H o v) (r : RelV v u) : OptV h o u := by
  cases o with
  | none =>
    cases (show v = .non from q)
    exact r
  | some p =>
    obtain ⟨t, rfl, e⟩ := q
    cases (show u = .ref t from r)
    obtain ⟨_, its, rs, ht⟩ := ok t _ e
    cases rs with
    | cons r1 rs =>
      cases rs with
      | cons r2 rs =>
        cases rs
        exact ⟨t, _, _, rfl, ht, r1, r2⟩
theorem TblH.raw (ok : HOk P w H h) {d : Addr} {T : Tbl} (q : TblH H d T) : DcR P w OptL h d T := by
  obtain ⟨kvs, e, p⟩ := q
  obtain ⟨z, lo, vs, rel, dd⟩ := ok d _ e
  refine ⟨vs, paired_comp (fun a b c r1 r2 => ?_) p rel, dd, lo, by rw [p.length]; exact z⟩
  obtain ⟨e1, l, ws, e2, hl, pr, lz⟩ := r1
  refine ⟨by rw [← r2.1]; exact e1, ?_⟩
  have rv := r2.2
  rw [e2] at rv
  obtain ⟨_, its, n, rs, hat⟩ := ok l _ hl
  exact ⟨l, rv, ⟨its, paired_comp (fun a b c q1 q2 => q1.raw ok q2) pr rs, n, hat⟩, lz⟩
theorem ChoH.raw (ok : HOk P w H h) {a : Addr} {T : Tbl} (q : ChoH C H a T) : Cho P w C h a T := by
  obtain ⟨dx, d, e, p⟩ := q
  obtain ⟨mA, O, rf, _⟩ := ins_get ok e
  refine ⟨dx, mA, d, O, ?_, fun m hm => ?_, p.raw ok⟩
  · obtain ⟨u, hu, ru⟩ := RelO.some_of (v := .ref d) (o := mA "own_options") (by rw [show (some (V.ref d)) = List.lookup ("own_options" : PySem.Str) [(("own_options" : PySem.Str), V.ref d)] from by rw [List.lookup_cons, beq_self_eq_true]]; exact rf _)
    rw [hu, show u = Value.ref d from ru]
  · refine RelO.none_of ?_
    have := rf m
    rw [List.lookup_cons, show (m == ("own_options" : PySem.Str)) = false from beq_eq_false_iff_ne.mpr hm] at this
    exact this
end
end K25

set_option Elab.async false
set_option linter.all false
set_option maxRecDepth 100000
/-! K25, part MD: every way is one -/
namespace K25
open PySem
section
variable {G : Gr} {us : List Str} {other : Str}
theorem dfs_ok (ok : GrOk G) : ∀ (k : Nat) (way : List Str), WayOk G way → ∀ v ∈ dfs G us other k way, WayOk G v ∧ ends v other = true ∧ ∃ t, v = way ++ t
  | 0, way, w, v, hv => by
    simp only [dfs] at hv
    split at hv
    · rw [List.mem_singleton.mp hv]
      exact ⟨w, by assumption, [], by simp⟩
    · cases hv
  | k + 1, way, w, v, hv => by
    simp only [dfs] at hv
    split at hv
    · rw [List.mem_singleton.mp hv]
      exact ⟨w, by assumption, [], by simp⟩
    · obtain ⟨p, hp, hv⟩ := List.mem_flatMap.mp hv
      obtain ⟨h1, h2, t, e⟩ := dfs_ok ok k (way ++ [p]) (w.snoc ok hp) v hv
      exact ⟨h1, h2, p :: t, by rw [e, List.append_assoc]; rfl⟩
theorem outs_ok (ok : GrOk G) {rows : List (List Str)} (h : ∀ r ∈ rows, WayOk G r) : ∀ v ∈ outs G us other rows, WayOk G v ∧ ends v other = true := fun v hv => by
  obtain ⟨r, hr, hv⟩ := List.mem_flatMap.mp hv
  obtain ⟨h1, h2, _⟩ := dfs_ok ok _ r (h r (List.mem_reverse.mp hr)) v hv
  exact ⟨h1, h2⟩
/-- few nodes, few ways -/
theorem dfs_few (n : Nat) (hn : ∀ way, (foll G us way).length ≤ n) (h1 : 1 ≤ n) : ∀ (k : Nat) (way : List Str), (dfs G us other k way).length ≤ n ^ k
  | 0, way => by
    simp only [dfs]
    split <;> simp
  | k + 1, way => by
    simp only [dfs]
    split
    · exact Nat.one_le_pow _ _ h1
    · have : ∀ l : List Str, (l.flatMap fun p => dfs G us other k (way ++ [p])).length ≤ l.length * n ^ k := by
        intro l
        induction l with
        | nil => simp
        | cons a r ih =>
          rw [List.flatMap_cons, List.length_append, List.length_cons, Nat.succ_mul]
          have := dfs_few n hn h1 k (way ++ [a])
          omega
      refine Nat.le_trans (this _) ?_
      rw [Nat.pow_succ, Nat.mul_comm]
      exact Nat.mul_le_mul_left _ (hn way)
end
end K25

set_option Elab.async false
set_option linter.all false
set_option maxRecDepth 100000
set_option maxHeartbeats 4000000
/-! K25, part HC: list(ways(..)), has_way(..) over the abstract heap -/
namespace K25
open PySem PySem.Spec PyProof.Rows L2
/-- a list of lists of texts -/
def RowsH (H : Hp) (S : Addr) (rows : List (List PySem.Str)) : Prop := ∃ ls : List Addr, H S = some (.lst (ls.map V.ref)) ∧ Paired (fun (row : List PySem.Str) (l : Addr) => H l = some (.lst (row.map V.str))) rows ls
theorem RowsH.same {H H' : Hp} (k : Same H H') {S : Addr} {rows : List (List PySem.Str)} (h : RowsH H S rows) : RowsH H' S rows := by
  obtain ⟨ls, e, p⟩ := h
  exact ⟨ls, k _ _ e, Paired.mapP p fun _ _ z => k _ _ z⟩
theorem tx_vals : ∀ {xs : List PySem.Str} {its : List Value}, Paired Tx xs its → Vals (xs.map V.str) its
  | _, _, .nil => .nil
  | _, _, .cons h t => .cons h (tx_vals t)
theorem refs_vals : ∀ ls : List Addr, Vals (ls.map V.ref) (ls.map Value.ref)
  | [] => .nil
  | _ :: r => .cons rfl (refs_vals r)
theorem tx_inj : ∀ {xs ys : List PySem.Str} {its : List Value}, Paired Tx xs its → Paired Tx ys its → xs = ys
  | _, _, _, .nil, .nil => rfl
  | _, _, _, .cons ⟨t, e⟩ p, .cons ⟨t', e'⟩ q => by
    rw [e] at e'
    cases e'
    rw [tx_inj p q]
theorem txl_inj {h : Heap} {a : Addr} {xs ys : List PySem.Str} (L : TxL h a xs) (L' : TxL h a ys) : xs = ys := by
  obtain ⟨i, p, n, e⟩ := L
  obtain ⟨j, q, m, e'⟩ := L'
  rw [e] at e'
  have := (Data.seq.inj (congrArg Obj.data (Option.some.inj e'))).1
  have : i = j := by simpa using this
  subst this
  exact tx_inj p q
theorem zip_lookup : ∀ {ls : List Addr} {rows : List (List PySem.Str)} {l : Addr} {row : List PySem.Str}, (ls.zip rows).lookup l = some row → ∃ i : Nat, ls[i]? = some l ∧ rows[i]? = some row
  | [], _, _, _, h => by cases h
  | _ :: _, [], _, _, h => by cases h
  | a :: ls, r :: rows, l, row, h => by
    rw [List.zip_cons_cons, List.lookup_cons] at h
    by_cases e : l = a
    · rw [show (l == a) = true from beq_iff_eq.mpr e] at h
      exact ⟨0, by rw [e]; rfl, h⟩
    · rw [show (l == a) = false from beq_eq_false_iff_ne.mpr e] at h
      obtain ⟨i, h1, h2⟩ := zip_lookup h
      exact ⟨i + 1, h1, h2⟩
theorem zip_has : ∀ {ls : List Addr} {rows : List (List PySem.Str)} {i : Nat} {l : Addr}, ls.length = rows.length → ls[i]? = some l → ∃ row, (ls.zip rows).lookup l = some row
  | [], _, _, _, _, h => by cases h
  | _ :: _, [], _, _, e, _ => by cases e
  | a :: ls, r :: rows, i, l, e, h => by
    rw [List.zip_cons_cons, List.lookup_cons]
    by_cases q : l = a
    · rw [show (l == a) = true from beq_iff_eq.mpr q]
      exact ⟨r, rfl⟩
    · rw [show (l == a) = false from beq_eq_false_iff_ne.mpr q]
      cases i with
      | zero => cases h; exact absurd rfl q
      | succ i => exact zip_has (i := i) (by simpa using e) h
section
variable {X : Cx} {pins : List (Addr × Obj)} {σ : L2.St} {H : Hp} {s s' : Shared}
/-- a new list of new (or shared) lists is tracked -/
theorem Inv.rows (I : Inv X pins σ H s) (os : s'.os = s.os) (hb : AllBare s'.gens) (k : Keep s.heap s'.heap) {S : Addr} {acc : Array Value} {c : Nat} {rows : List (List PySem.Str)} (hS : s'.heap.get? S = some { cls := .type "list", dict := none, data := .seq acc c, slots := #[] })
    (pr : Paired (RowV2 s'.heap) rows acc.toList) (newS : s.heap.get? S = none) (new : ∀ l, Value.ref l ∈ acc.toList → l ≠ S ∧ s.heap.get? l = none) (z1 : rows.length ≤ sizeLine) (z2 : ∀ r ∈ rows, r.length ≤ sizeLine) : ∃ H2, Same H H2 ∧ RowsH H2 S rows ∧ H S = none ∧ Inv X pins σ H2 s' := by
  obtain ⟨ls, e1, p1⟩ : ∃ ls : List Addr, acc.toList = ls.map Value.ref ∧ Paired (fun row l => TxL s'.heap l row) rows ls := by
    clear hS new
    generalize acc.toList = its at pr
    induction pr with
    | nil => exact ⟨[], rfl, .nil⟩
    | cons h _ ih =>
      obtain ⟨ls, e, p⟩ := ih (Nat.le_of_succ_le z1) (fun r hr => z2 r (.tail _ hr))
      obtain ⟨l, rfl, L⟩ := h
      exact ⟨l :: ls, by rw [e]; rfl, .cons L p⟩
  have len := p1.length
  have newL : ∀ l ∈ ls, l ≠ S ∧ s.heap.get? l = none := fun l hl => new l (by rw [e1]; exact List.mem_map.mpr ⟨l, hl, rfl⟩)
  let H2 : Hp := fun b => if b = S then some (.lst (ls.map V.ref)) else match (ls.zip rows).lookup b with
    | some row => some (.lst (row.map V.str))
    | none => H b
  have at2 : ∀ (i : Nat) (l : Addr) (row : List PySem.Str), ls[i]? = some l → rows[i]? = some row → H2 l = some (.lst (row.map V.str)) := fun i l row h1 h2 => by
    have nS := (newL l (List.mem_of_getElem? h1)).1
    obtain ⟨row', q⟩ := zip_has len.symm h1
    obtain ⟨j, j1, j2⟩ := zip_lookup q
    have same : row' = row := by
      obtain ⟨x1, y1, z1⟩ := paired_get j p1 j1
      obtain ⟨x2, y2, z2⟩ := paired_get i p1 h1
      rw [j2] at y1
      rw [h2] at y2
      cases y1
      cases y2
      exact txl_inj z1 z2
    show (if l = S then _ else _) = _
    rw [if_neg nS, q, same]
  have chg : ∀ b, H2 b ≠ H b → s.heap.get? b = none := fun b hb => by
    by_cases e : b = S
    · rw [e]; exact newS
    · have : H2 b = match (ls.zip rows).lookup b with | some row => some (.lst (row.map V.str)) | none => H b := if_neg e
      rw [this] at hb
      cases q : (ls.zip rows).lookup b with
      | none => rw [q] at hb; exact absurd rfl hb
      | some row =>
        obtain ⟨i, h1, _⟩ := zip_lookup q
        exact (newL b (List.mem_of_getElem? h1)).2
  refine ⟨H2, fun b o e => ?_, ⟨ls, if_pos rfl, ?_⟩, hok_none I.hok newS, K25.Inv.grown I os hb k chg fun b u e n => ?_⟩
  · rcases Classical.em (H2 b = H b) with q | q
    · rw [q]; exact e
    · rw [hok_none I.hok (chg b q)] at e; cases e
  · have : ∀ (rs : List (List PySem.Str)) (as : List Addr) (k : Nat), Paired (fun row l => TxL s'.heap l row) rs as → (∀ (i : Nat) (l : Addr) (row : List PySem.Str), as[i]? = some l → rs[i]? = some row → H2 l = some (.lst (row.map V.str))) → Paired (fun (row : List PySem.Str) (l : Addr) => H2 l = some (.lst (row.map V.str))) rs as := by
      intro rs as k p
      induction p with
      | nil => intro _; exact .nil
      | cons h _ ih => intro g; exact .cons (g 0 _ _ rfl rfl) (ih fun i l row a b => g (i + 1) l row a b)
    exact this rows ls 0 p1 at2
  · by_cases eS : b = S
    · subst eS
      have : H2 b = some (.lst (ls.map V.ref)) := if_pos rfl
      rw [this] at e
      cases e
      refine ⟨by rw [List.length_map, ← len]; exact z1, acc.toList, c, ?_, hS⟩
      rw [e1]
      exact refs_vals ls
    · have : H2 b = match (ls.zip rows).lookup b with | some row => some (.lst (row.map V.str)) | none => H b := if_neg eS
      rw [this] at e
      cases q : (ls.zip rows).lookup b with
      | none => rw [q] at e; rw [n] at e; cases e
      | some row =>
        rw [q] at e
        cases e
        obtain ⟨i, h1, h2⟩ := zip_lookup q
        obtain ⟨r', y1, its, pp, m, eo⟩ := paired_get i p1 h1
        rw [h2] at y1
        cases y1
        exact ⟨by rw [List.length_map]; exact z2 row (List.mem_of_getElem? h2), its, m, tx_vals pp, eo⟩
end
end K25

set_option Elab.async false
set_option linter.all false
set_option maxRecDepth 100000
set_option maxHeartbeats 4000000
/-! K25, part HE: rules for list(ways(..)) and has_way(..) -/
namespace K25
open PySem PySem.Spec PyProof.Rows L2
abbrev psW : List PySem.Str := ["choices", "node", "other"]
/-- the generator def as it stands -/
structure WaysFn (P : Program) (w : World) (K : PySem.W.Frag) (mg : PySem.Str → Option Value) (base : Heap) (C : Addr) (k : Nat) (f : Addr) (fd : FuncData) : Prop where
  at_ : mg "ways" = some (.ref f)
  kp : PySem.W.keepIn K (.ref f) = true
  fn : Fun K "ways" "ways" (top 37) f fd
  bs : Binds K fd psW []
  lower : ∀ T, TOk T → Base P w K mg base C k T
theorem wrows_ok {T : Tbl} {x y : PySem.Str} (hx : Known T x) : ∀ r ∈ wrows T x y, WayOk (edg T) r := fun r hr => by
  unfold wrows at hr
  split at hr
  · rw [List.mem_singleton.mp hr]
    exact ⟨by simp, List.pairwise_singleton _ _, fun z hz => by rw [List.mem_singleton.mp hz]; exact hx.key⟩
  · cases hr
theorem wall_short {T : Tbl} (tok : TOk T) {x y : PySem.Str} (hx : Known T x) : ∀ r ∈ wall T x y, r.length ≤ 41 := fun r hr =>
  Nat.le_trans (outs_ok (edg_ok tok) (wrows_ok hx) r hr).1.le (edg_len tok)
section
variable {X : Cx} {pins : List (Addr × Obj)} {σ : L2.St} {H : Hp} {s : Shared} {C f a : Addr} {fd : FuncData} {k : Nat} {T : Tbl} {x y : PySem.Str} {vn vo : Value} {E : Value → Shared → Prop}
theorem Inv.bz (I : Inv X pins σ H s) : X.base.objs.size ≤ s.heap.objs.size := Nat.le_trans I.ok.bsz I.sz
/-- the call that makes the generator -/
theorem run_ways {A : Around} {us : List Value} {kw : List (PySem.Str × Value)} {Q : Value → Shared → Prop} (W : WaysFn X.prog X.w X.K X.mg X.base C k f fd) (I : Inv X pins σ H s) (hr : Room (k + 1) A) (hbt : BindsTo s fd ⟨us, kw⟩ (psW.zip [.ref a, vn, vo])) (hC : ChoH C H a T) (tok : TOk T) (hx : Known T x) (hy : Known T y) (hn : Tx x vn) (ho : Tx y vo)
    (q : ∀ ga env s1, GMake s s1 → s.heap.objs.size ≤ ga → (∀ b, Own env b → s.heap.objs.size ≤ b) → (∀ Aw, Room (k + 1) Aw → Live X.prog X.w X.base env (wall T x y) Aw (fun h => Cho X.prog X.w C h a T) (wall T x y).length ga s.gens.size (Own env) s1) → Q (.ref ga) s1) :
    wpAny (model X.prog X.w) A (call (.ref f) us kw) Q E s := by
  refine wpAny_call (codeAny_mono (ways_make W.fn I.ok.mod (W.lower T tok) tok hx hy A s ⟨us, kw⟩ hr I.bk (Inv.bz I) hbt (hC.raw I.hok) hn ho) fun r s1 ⟨ga, env, e, gm, h1, h2, h3⟩ => ?_)
  subst e
  exact q ga env s1 gm h1 h2 h3
theorem run_list {Q : VK} {s1 : Shared} {ga : Addr} {env : Env} (I : Inv X pins σ H s) (hc : X.calm = true) (hr : Room (k + 4) X.A) (hC : ChoH C H a T) (tok : TOk T) (hx : Known T x) (hz : (wall T x y).length ≤ sizeLine) (gm : GMake s s1) (hga : s.heap.objs.size ≤ ga) (ow : ∀ b, Own env b → s.heap.objs.size ≤ b)
    (live : ∀ Aw, Room (k + 1) Aw → Live X.prog X.w X.base env (wall T x y) Aw (fun h => Cho X.prog X.w C h a T) (wall T x y).length ga s.gens.size (Own env) s1)
    (q : ∀ H2 S, Same H H2 → RowsH H2 S (wall T x y) → H S = none → Q (.ref S) H2) : wpAny (model X.prog X.w) X.A (call (.type "list") [.ref ga]) (EP X pins σ Q) X.xe s1 := by
  have far : ∀ b, s.heap.objs.size ≤ b → s.heap.get? b = none := fun b h => Heap.get?_none_of_le h
  refine list_gen (H0 := s.heap) (C := C) (a := a) (T := T) (I.ok.hd hc) hr.depth I.ok.mod.nolimit I.bk (hC.raw I.hok) hz (live _ hr.in1.in1.in1) gm.keep (fun b hb => far b (ow b hb)) (gm.bare I.bare) fun s' S acc c kp hb os hS hat pr new => ?_
  have os' : s'.os = s.os := by
    obtain ⟨_, _, _, rfl, _⟩ := gm
    exact os
  have newS : s.heap.get? S = none := by
    cases e : s.heap.get? S with
    | none => rfl
    | some o => exact absurd (Nat.lt_of_lt_of_le (Heap.lt_size (gm.keep S o e)) hS) (Nat.lt_irrefl _)
  obtain ⟨H2, h1, h2, h3, I2⟩ := K25.Inv.rows I os' hb kp hat pr newS new hz fun r hr => Nat.le_trans (wall_short tok hx r hr) (by decide)
  exact ⟨.ref S, H2, I2, rfl, q H2 S h1 h2 h3⟩
/-- list(ways(e1, e2, e3)) -/
def tListWays (C : Addr) (t : TA) : TE := fun σ H Q => t σ H fun vs H1 => ∃ a x y T, vs = [.ref a, .str x, .str y] ∧ ChoH C H1 a T ∧ TOk T ∧ Known T x ∧ Known T y ∧ (wall T x y).length ≤ sizeLine ∧ ∀ H2 S, Same H1 H2 → RowsH H2 S (wall T x y) → H1 S = none → Q (.ref S) H2
theorem pe_listWays {e1 : Expr} {es : List Expr} {t : TA} {p pp pos pos2 : Pos} (W : WaysFn X.prog X.w X.K X.mg X.base C k f fd) (hc : X.calm = true) (hr : Room (k + 4) X.A) (ha : PA X (e1 :: es) t) (ml : X.mg "list" = none) (gl : Gl X "list" := by rfl) (gw : Gl X "ways" := by rfl)
    (h2 : starEach [.Call (.Name "ways" pp) (e1 :: es) [] pos2] X.env = (false, eval (.Call (.Name "ways" pp) (e1 :: es) [] pos2) X.env) :: starEach [] X.env := by rfl)
    (he : starEach (e1 :: es) X.env = (false, eval e1 X.env) :: starEach es X.env := by rfl) (hpl : (backTo pos2 (starEach es X.env)).any (·.1) = false := by rfl) :
    PE X (.Call (.Name "list" p) [.Call (.Name "ways" pp) (e1 :: es) [] pos2] [] pos) (tListWays C t) := by
  refine ⟨fun pins s σ H Q I h => ?_⟩
  refine wpAny_Call_Name_kw (ld_blt I gl ml rfl ?_)
  refine PyProof.Rows.callWith_type1 ?_ h2 rfl
  rw [h2]
  refine Calls.spliced_cons (wpAny_Call_Name_kw (ld_glob I gw W.at_ ?_))
  refine PySem.W.callWith_K (h₀ := X.base) I.ok.mod.kin W.kp (thn (ha.run pos2 pins s σ H _ I h) fun us s1 ⟨vs, H1, I1, r, a, x, y, T, ev, hC, tok, hx, hy, hz, q⟩ => ⟨I1.kIn, ?_⟩) he hpl
  subst ev
  obtain ⟨u1, u2, u3, rfl, r1, r2, r3⟩ : ∃ u1 u2 u3, us = [u1, u2, u3] ∧ RelV (.ref a) u1 ∧ RelV (.str x) u2 ∧ RelV (.str y) u3 := by
    cases r with
    | cons p1 r => cases r with
      | cons p2 r => cases r with
        | cons p3 r => cases r; exact ⟨_, _, _, rfl, p1, p2, p3⟩
  cases (show u1 = Value.ref a from r1)
  have hb := W.bs s1 [.ref a, u2, u3] I1.kIn rfl
  refine run_ways W I1 (hr.mono (by omega)) hb hC tok hx hy r2 r3 fun ga env s2 gm h1 h2 live => Calls.spliced_nil ?_
  exact run_list I1 hc hr hC tok hx hz gm h1 h2 live q
/-- list(ways(k1=e1, k2=e2, k3=e3)) -/
theorem pe_listWaysK {kws : List Keyword} {t : TA} {g : List V → List V} {ks : List PySem.Str} {p pp pos pos2 : Pos} (W : WaysFn X.prog X.w X.K X.mg X.base C k f fd) (hc : X.calm = true) (hr : Room (k + 4) X.A) (ha : PK X kws t) (ml : X.mg "list" = none)
    (hb : ∀ (s : Shared) (us : List Value) (vs : List V), X.K.In s.heap → Vals vs us → us.length = 3 → ∃ u1 u2 u3, BindsTo s fd ⟨[], ks.zip us⟩ (psW.zip [u1, u2, u3]) ∧ Vals (g vs) [u1, u2, u3])
    (hall : (backToKw pos2 (keywordEach kws X.env)).all (·.1.isSome) = true := by rfl) (hks : (backToKw pos2 (keywordEach kws X.env)).filterMap (·.1) = ks := by rfl) (gl : Gl X "list" := by rfl) (gw : Gl X "ways" := by rfl)
    (h2 : starEach [.Call (.Name "ways" pp) [] kws pos2] X.env = (false, eval (.Call (.Name "ways" pp) [] kws pos2) X.env) :: starEach [] X.env := by rfl)
    (hpl : ((backTo pos2 (starEach [] X.env)).any (·.1) || (backToKw pos2 (keywordEach kws X.env)).any (·.1.isNone)) = false := by rfl) :
    PE X (.Call (.Name "list" p) [.Call (.Name "ways" pp) [] kws pos2] [] pos) (tListWays C fun σ H Q => t σ H fun vs H1 => vs.length = 3 ∧ Q (g vs) H1) := by
  refine ⟨fun pins s σ H Q I h => ?_⟩
  refine wpAny_Call_Name_kw (ld_blt I gl ml rfl ?_)
  refine PyProof.Rows.callWith_type1 ?_ h2 rfl
  rw [h2]
  refine Calls.spliced_cons (wpAny_Call_Name_kw (ld_glob I gw W.at_ ?_))
  refine PySem.W.callWith_KW0 (h₀ := X.base) I.ok.mod.kin W.kp hall (thn (ha.run pos2 pins s σ H _ I h) fun us s1 ⟨vs, H1, I1, r, l3, a, x, y, T, ev, hC, tok, hx, hy, hz, q⟩ => ⟨I1.kIn, ?_⟩) hpl
  rw [hks]
  obtain ⟨u1, u2, u3, hbt, r3⟩ := hb s1 us vs I1.kIn r (by rw [← r.length]; exact l3)
  rw [ev] at r3
  cases r3 with
  | cons q1 r3 => cases r3 with
    | cons q2 r3 => cases r3 with
      | cons q3 r3 =>
        cases (show u1 = Value.ref a from q1)
        refine run_ways W I1 (hr.mono (by omega)) hbt hC tok hx hy q2 q3 fun ga env s2 gm h1 h2 live => Calls.spliced_nil ?_
        exact run_list I1 hc hr hC tok hx hz gm h1 h2 live q
end
/-! ### has_way -/
def spHas (C : Addr) : Sp := fun vs H Q _ => ∃ a x y T, vs = [.ref a, .str x, .str y] ∧ ChoH C H a T ∧ TOk T ∧ Known T x ∧ Known T y ∧ Q (.bl ((rch (edg T) x).contains y)) H
theorem ok_has {P : Program} {w : World} {K : PySem.W.Frag} {mg : PySem.Str → Option Value} {base : Heap} {C f : Addr} {fd : FuncData} {k : Nat} (F : Fun K "has_way" "has_way" (top 36) f fd) (hB : ∀ T, TOk T → Base P w K mg base C k T) : FnOk P w K mg base CX0 (k + 1) f fd ["choices", "node", "other"] (spHas C) := by
  refine ⟨fun vs H Q E h => ?_, fun A outer s H args us vs Q E hr e0 hb r h => ?_⟩
  · obtain ⟨_, _, _, _, rfl, _⟩ := h
    rfl
  · obtain ⟨a, x, y, T, rfl, hC, tok, hx, hy, q⟩ := h
    obtain ⟨u1, u2, u3, rfl, r1, r2, r3⟩ : ∃ u1 u2 u3, us = [u1, u2, u3] ∧ RelV (.ref a) u1 ∧ RelV (.str x) u2 ∧ RelV (.str y) u3 := by
      cases r with
      | cons p1 r => cases r with
        | cons p2 r => cases r with
          | cons p3 r => cases r; exact ⟨_, _, _, rfl, p1, p2, p3⟩
    cases (show u1 = Value.ref a from r1)
    refine codeAny_mono ((rf_has F e0.mod (hB T tok) hx hy).run A s args _ hr (fun b o e => (e0.bs b o e).1) e0.bsz hb rfl ⟨a, u2, u3, rfl, hC.raw e0.hok, r2, r3⟩) fun rr s' ⟨v, e, st, ev⟩ => ?_
    subst e ev
    have kp := st.keep0
    obtain ⟨h', tk, d, rfl, _⟩ := st
    exact ⟨.bl _, H, rfl, e0.bare, Un.kept kp, e0.hok.kept kp, rfl, q⟩
end K25

set_option Elab.async false
set_option linter.all false
set_option maxRecDepth 100000
set_option maxHeartbeats 4000000
/-! K25, part HF: for .. in ways(..), first item only -/
namespace K25
open PySem PySem.Spec PyProof.Rows L2
section
variable {X : Cx} {pins : List (Addr × Obj)} {σ : L2.St} {H : Hp} {s : Shared} {C f a : Addr} {fd : FuncData} {k : Nat} {T : Tbl} {x y : PySem.Str} {vn vo : Value}
/-- a call of ways by position, the generator as run_ways tells it -/
theorem eval_ways {e1 : Expr} {es : List Expr} {t : TA} {pp pos2 : Pos} {R : Value → Shared → Prop} {Qt : List V → Hp → Prop} (W : WaysFn X.prog X.w X.K X.mg X.base C k f fd) (hr : Room (k + 4) X.A) (ha : PA X (e1 :: es) t) (gw : Gl X "ways")
    (he : starEach (e1 :: es) X.env = (false, eval e1 X.env) :: starEach es X.env) (hpl : (backTo pos2 (starEach es X.env)).any (·.1) = false) (I : Inv X pins σ H s) (h : t σ H Qt)
    (hq : ∀ vs H1, Qt vs H1 → ∃ a x y T, vs = [.ref a, .str x, .str y] ∧ ChoH C H1 a T ∧ TOk T ∧ Known T x ∧ Known T y ∧ ∀ s1 ga env s2, Inv X pins σ H1 s1 → GMake s1 s2 → s1.heap.objs.size ≤ ga → (∀ b, Own env b → s1.heap.objs.size ≤ b) → (∀ Aw, Room (k + 1) Aw → Live X.prog X.w X.base env (wall T x y) Aw (fun h => Cho X.prog X.w C h a T) (wall T x y).length ga s1.gens.size (Own env) s2) → R (.ref ga) s2) :
    wpAny (model X.prog X.w) X.A (eval (.Call (.Name "ways" pp) (e1 :: es) [] pos2) X.env) R X.xe s := by
  refine wpAny_Call_Name_kw (ld_glob I gw W.at_ ?_)
  refine PySem.W.callWith_K (h₀ := X.base) I.ok.mod.kin W.kp (thn (ha.run pos2 pins s σ H _ I h) fun us s1 ⟨vs, H1, I1, r, q⟩ => ⟨I1.kIn, ?_⟩) he hpl
  obtain ⟨a, x, y, T, ev, hC, tok, hx, hy, q2⟩ := hq vs H1 q
  subst ev
  obtain ⟨u1, u2, u3, rfl, r1, r2, r3⟩ : ∃ u1 u2 u3, us = [u1, u2, u3] ∧ RelV (.ref a) u1 ∧ RelV (.str x) u2 ∧ RelV (.str y) u3 := by
    cases r with
    | cons p1 r => cases r with
      | cons p2 r => cases r with
        | cons p3 r => cases r; exact ⟨_, _, _, rfl, p1, p2, p3⟩
  cases (show u1 = Value.ref a from r1)
  have hb := W.bs s1 [.ref a, u2, u3] I1.kIn rfl
  exact run_ways W I1 (hr.mono (by omega)) hb hC tok hx hy r2 r3 fun ga env s2 gm h1 h2 live => q2 s1 ga env s2 I1 gm h1 h2 live
theorem GMake.os {s s' : Shared} (m : GMake s s') : s'.os = s.os := by
  obtain ⟨_, _, _, rfl, _⟩ := m
  rfl
def tForWays1 (C : Addr) (t : TA) (i : Nat) (tb : TS) : TS := fun D σ H => t σ H fun vs H1 => ∃ a x y T, vs = [.ref a, .str x, .str y] ∧ ChoH C H1 a T ∧ TOk T ∧ Known T x ∧ Known T y ∧ (wall T x y = [] → D.nx σ H1) ∧ ∀ way rest, wall T x y = way :: rest → ∀ H2 l, H1 l = none → Same H1 H2 → H2 l = some (.lst (way.map V.str)) → tb { nx := fun _ _ => False, ct := fun _ _ => False, bk := D.nx, rt := D.rt } (σ.set i (some (.ref l))) H2
theorem ps_forWays1 {e1 : Expr} {es : List Expr} {t : TA} {pp pos2 pos px : Pos} {body : List Stmt} {tb : TS} {z : PySem.Str} {i : Nat} (W : WaysFn X.prog X.w X.K X.mg X.base C k f fd) (hp : PassesOwn (model X.prog X.w) X.A X.env X.xe) (hc : X.calm = true) (hr : Room (k + 4) X.A) (ha : PA X (e1 :: es) t) (hN : X.N.Nodup) (hi : X.N[i]? = some z) (hx : L2.Loc X.env.scope z) (hb : PSs X body tb) (gw : Gl X "ways" := by rfl)
    (hf : X.fn z = true ∨ X.env.scope.names.lookup z = some .local := by first | exact .inl rfl | exact .inr rfl | assumption)
    (he : starEach (e1 :: es) X.env = (false, eval e1 X.env) :: starEach es X.env := by rfl) (hpl : (backTo pos2 (starEach es X.env)).any (·.1) = false := by rfl)
    (hs : ∀ x, foldedSetIterable (.Call (.Name "ways" pp) (e1 :: es) [] pos2) X.env x = pure x := by intro _; rfl) :
    PS X (.For (.Name z px) (.Call (.Name "ways" pp) (e1 :: es) [] pos2) body [] pos) (tForWays1 C t i tb) := by
  refine ⟨fun pins s σ H D I h => ?_⟩
  refine wpAny_For (eval_ways W hr ha gw he hpl I h fun vs H1 ⟨a, x, y, T, ev, hC, tok, hkx, hky, q0, q1⟩ => ⟨a, x, y, T, ev, hC, tok, hkx, hky, fun s1 ga env s2 I1 gm h1 h2 live => ?_⟩) hs
  have L := live X.A.in1 (hr.in1.mono (by omega))
  refine wpAny_pyIter_gen L.gen ?_
  have far : ∀ b, Own env b → s1.heap.get? b = none := fun b h => Heap.get?_none_of_le (h2 b h)
  refine codeAny_forLoop_any (fun n s' => s' = s2) ?_ 0 rfl
  rintro n s3 rfl
  have grow : ∀ {s4 : Shared}, GStep s1.gens.size (Own env) s3 s4 → Keep s1.heap s4.heap := fun gst b o e => gst.keep b o (fun w => by rw [far b w] at e; cases e) (gm.keep b o e)
  refine wpAny_passesOwn hp (live_next L (I1.ok.hd hc) hr.depth (fun b o e => gm.keep b o (I1.bk b o e)) I1.ok.mod.nolimit ((hC.raw I1.hok).keep gm.keep) (fun h0 s4 gst => ?_) fun m l A' way s4 hm hle hway gst hl sub nA lnew lga L2 => ?_)
  · have I4 : Inv X pins σ H1 s4 := K25.Inv.grown I1 (gst.os.trans gm.os) (gst.bare (gm.bare I1.bare)) (grow gst) (fun b hb => absurd rfl hb) fun b u e n => by rw [n] at e; cases e
    exact wpAny_execs_nil ⟨σ, H1, I4, q0 (List.length_eq_zero_iff.mp h0)⟩
  · have k4 := grow gst
    have lfar : s1.heap.get? l = none := by
      rcases lnew with w | w
      · exact far l w
      · cases e : s1.heap.get? l with
        | none => rfl
        | some o => rw [gm.keep l o e] at w; cases w
    obtain ⟨og, nm, qn, hog, hgr⟩ := L2.gen
    refine letGo_of_cls hog hgr.1 hgr.2.1 (by decide) ?_
    rw [show (wall T x y).length - (m + 1) = 0 by omega] at hway
    cases ew : wall T x y with
    | nil => rw [ew] at hway; cases hway
    | cons w0 rest =>
      rw [ew] at hway
      cases hway
      let H2 : Hp := fun b => if b = l then some (.lst (way.map V.str)) else H1 b
      have n1 := hok_none I1.hok lfar
      have sm : Same H1 H2 := fun b o e => by
        show (if b = l then _ else _) = _
        rw [if_neg (fun z => by rw [z, n1] at e; cases e)]
        exact e
      have I4 : Inv X pins σ H2 s4 := K25.Inv.grown I1 (gst.os.trans gm.os) (gst.bare (gm.bare I1.bare)) k4 (fun b hb => by
        by_cases e : b = l
        · rw [e]; exact lfar
        · exact absurd (if_neg e) hb) fun b u e n => by
          by_cases eb : b = l
          · rw [eb] at e ⊢
            have : u = .lst (way.map V.str) := (Option.some.inj ((if_pos rfl).symm.trans e)).symm
            subst this
            obtain ⟨its, pp, m, eo⟩ := hl
            exact ⟨by rw [List.length_map]; exact Nat.le_trans (wall_short tok hkx way (by rw [ew]; exact .head _)) (by decide), its, m, tx_vals pp, eo⟩
          · rw [show H2 b = H1 b from if_neg eb, n] at e; cases e
      refine wpAny_passesOwn hp (wpAny_assign_Name (store_ok I4 hN hi hx (show RelV (.ref l) (.ref l) from rfl) (fun s5 I5 => ?_) hf))
      refine wpAny_passesOwn hp (thn (hb.run pins s5 _ H2 _ I5 (q1 way rest ew H2 l n1 sm (if_pos rfl))) fun fl s6 q6 => ?_)
      cases fl with
      | next => obtain ⟨_, _, _, z⟩ := q6; exact z.elim
      | cont => obtain ⟨_, _, _, z⟩ := q6; exact z.elim
      | brk => obtain ⟨σ7, H7, I7, q7⟩ := q6; exact ⟨σ7, H7, I7, q7⟩
      | ret v => exact q6
end
end K25

set_option Elab.async false
set_option linter.all false
set_option maxRecDepth 100000
set_option maxHeartbeats 4000000
/-! K25, part HG: sources that zip draws from -/
namespace K25
open PySem PySem.Spec PyProof.Rows L2 GenW
open Builtin.SmallTypes (nextOf)
/-- one draw: F may change, and the generators at g -/
def Turn (g : Nat → Prop) (F : Addr → Prop) (s s' : Shared) : Prop := ∃ h tk d gs, s' = { s with heap := h, toks := tk, drawn := d, gens := gs } ∧ KeepX F s.heap h ∧ (∀ i, ¬ g i → gs[i]? = s.gens[i]?) ∧ (AllBare s.gens → AllBare gs)
theorem Turn.keep {g : Nat → Prop} {F : Addr → Prop} {s s' : Shared} (h : Turn g F s s') : KeepX F s.heap s'.heap := by
  obtain ⟨_, _, _, _, rfl, k, _⟩ := h
  exact k
theorem Turn.gens {g : Nat → Prop} {F : Addr → Prop} {s s' : Shared} (h : Turn g F s s') : ∀ i, ¬ g i → s'.gens[i]? = s.gens[i]? := by
  obtain ⟨_, _, _, _, rfl, _, k, _⟩ := h
  exact k
theorem Turn.bare {g : Nat → Prop} {F : Addr → Prop} {s s' : Shared} (h : Turn g F s s') : AllBare s.gens → AllBare s'.gens := by
  obtain ⟨_, _, _, _, rfl, _, _, k⟩ := h
  exact k
theorem Turn.os {g : Nat → Prop} {F : Addr → Prop} {s s' : Shared} (h : Turn g F s s') : s'.os = s.os := by
  obtain ⟨_, _, _, _, rfl, _⟩ := h
  rfl
theorem Turn.trans {g g' g2 : Nat → Prop} {F F' F2 : Addr → Prop} {s s' s2 : Shared} (h : Turn g F s s') (h' : Turn g' F' s' s2) (eg : ∀ i, g i ∨ g' i → g2 i) (eF : ∀ b, F b ∨ F' b → F2 b) : Turn g2 F2 s s2 := by
  obtain ⟨_, _, _, _, rfl, k, k1, k2⟩ := h
  obtain ⟨_, _, _, _, rfl, q, q1, q2⟩ := h'
  exact ⟨_, _, _, _, rfl, fun b o n e => q b o (fun z => n (eF b (.inr z))) (k b o (fun z => n (eF b (.inl z))) e), fun i n => (q1 i fun z => n (eg i (.inr z))).trans (k1 i fun z => n (eg i (.inl z))), fun z => q2 (k2 z)⟩
theorem Turn.heap {g : Nat → Prop} {F : Addr → Prop} {s : Shared} {h : Heap} (k : KeepX F s.heap h) : Turn g F s { s with heap := h } := ⟨h, s.toks, s.drawn, s.gens, rfl, k, fun _ _ => rfl, fun z => z⟩
/-- what zip draws from: D n F s is 'n items left, leaning on F' -/
structure Srz (P : Program) (w : World) (H0 : Heap) (A : Around) (it : Addr) (g : Nat → Prop) (Y : Nat → Value → Heap → Prop) (D : Nat → (Addr → Prop) → Shared → Prop) : Prop where
  stay : ∀ n F s s', D n F s → KeptOn F s.heap s'.heap → (∀ i, g i → s'.gens[i]? = s.gens[i]?) → D n F s'
  there : ∀ n F s b, D n F s → F b → ∃ o, s.heap.get? b = some o
  yst : ∀ m v h h', Y m v h → (∀ l o, v = .ref l → h.get? l = some o → h'.get? l = some o) → Y m v h'
  next : ∀ n F s (Q : Value → Shared → Prop) (E : Value → Shared → Prop), D n F s → Keep H0 s.heap →
    (n = 0 → ∀ s' e, Turn g F s s' → (∃ o, s'.heap.get? e = some o ∧ o.cls = .type "StopIteration") → E (.ref e) s') →
    (∀ m F' v s', n = m + 1 → Turn g F s s' → Y m v s'.heap → (∀ b, F' b → F b ∨ s.heap.get? b = none) → (∀ l, v = .ref l → ¬ F' l ∧ (F l ∨ s.heap.get? l = none) ∧ ∃ o, s'.heap.get? l = some o) → D m F' s' → Q v s') →
    wpAny (model P w) A (nextOf (.ref it)) Q E s
section
variable {P : Program} {w : World} {base H0 : Heap} {env : Env} {all : List (List PySem.Str)} {C a : Addr} {T : Tbl} {A0 : Around} {ga gi : Nat}
theorem Srz.gen (hh : A0.handled = none) (hroom : A0.depth < recursionLimit) (lim : base.NoLimit) (hb0 : Keep base H0) (hC : Cho P w C H0 a T) :
    Srz P w H0 A0 ga (· = gi) (fun m v h => ∃ l way, v = .ref l ∧ m + 1 ≤ all.length ∧ all[all.length - (m + 1)]? = some way ∧ TxL h l way)
      (fun n F s => ∃ A, F = (fun b => A b ∨ b = ga) ∧ Live P w base env all A0.in1 (fun h => Cho P w C h a T) n ga gi A s) where
  stay := by
    rintro n F s s' ⟨A, rfl, L⟩ k hg
    exact ⟨A, rfl, L.stay k (hg gi rfl)⟩
  there := by
    rintro n F s b ⟨A, rfl, L⟩ hb
    rcases hb with hb | rfl
    · exact (L.there b hb).1
    · obtain ⟨o, nm, qn, ho, _⟩ := L.gen
      exact ⟨o, ho⟩
  yst := by
    rintro m v h h' ⟨l, way, rfl, h1, h2, its, p, n, e⟩ k
    exact ⟨l, way, rfl, h1, h2, its, p, n, k l _ rfl e⟩
  next := by
    rintro n F s Q E ⟨A, rfl, L⟩ kH qE qY
    have kb : Keep base s.heap := fun b o e => kH b o (hb0 b o e)
    obtain ⟨gen, off, there, gs, hgs, hbare, go⟩ := L
    obtain ⟨hF, hgo⟩ := go (s.setGen gi .running) kb (fun b o _ e => e) (hC.keep kH)
    have gsz : gi < s.gens.size := (Array.getElem?_eq_some_iff.mp hgs).1
    have toT : ∀ {s1 : Shared} (x : GenState), x.bare = true → Step (Foot env s.heap) (s.setGen gi .running) s1 → ∀ h', Keep s1.heap h' → Turn (· = gi) (fun b => A b ∨ b = ga) s { s1.setGen gi x with heap := h' } := fun {s1} x hx st h' kh => by
      obtain ⟨h1, t1, d1, rfl, k1⟩ := st
      refine ⟨h', t1, d1, (s.setGen gi x).gens, ?_, fun b o nb e => kh b o (k1 b o (fun z => nb (.inl (hF b z))) e), fun i hi => ?_, fun hb => allBare_setGen hb hx⟩
      · show ({ s with heap := h', toks := t1, drawn := d1, gens := (s.gens.setIfInBounds gi .running).setIfInBounds gi x } : Shared) = { s with heap := h', toks := t1, drawn := d1, gens := s.gens.setIfInBounds gi x }
        rw [Array.setIfInBounds_setIfInBounds]
      · show (s.gens.setIfInBounds gi x)[i]? = _
        rw [Array.getElem?_setIfInBounds_ne (Ne.symm hi)]
    unfold Builtin.SmallTypes.nextOf
    refine wpAny_bind (wpAny_callSpecial?_slot (name := Str.ofString "__next__") gen.typeIs slot_gen_next (wpAny_call_entry slot_gen_next gen.typeIs entry_gen_next ?_ (args_gen_next _)))
    show wpAny _ A0.in1 (Builtin.Generator.genWake (.ref ga) (.send .none)) _ _ s
    unfold Builtin.Generator.genWake
    refine wpAny_bind (wpAny_holding (wpAny_genNumber gen (wpAny_bind (wpAny_genState hgs ?_))))
    cases gs with
    | running => exact hgo.elim
    | finished => exact hgo.elim
    | _ =>
      refine wpAny_bind (wpAny_roomToWake (lim.keeps kb) hroom ?_)
      show wpAny _ A0.in1 (.resume gi (.send .none) [] _) _ _ s
      refine wpAny_resumeQ hgs hgo (fun x s1 hx => ?_) (fun v s1 gs' hb hv => ?_)
      · rcases hx with ⟨hr, h0, st⟩ | ⟨e, _, he⟩
        · have hres : End.result (.ret x) = .returned .none := by
            rcases hr with hr | hr <;> rw [hr] <;> rfl
          first | rw [hres] | simp only [hres]
          show wpAny _ A0.in1 (newExc (.type "StopIteration") [] >>= _) _ _ _
          refine wpAny_bind ?_
          simp only [newExc, newTuple]
          refine wpAny_bind (wpAny_newObj_type ?_ (by size_fits))
          refine wpAny_bind (m := firstArgMember _ _) (wpAny_of_eq (a := Value.none) (by first | rfl | (simp only [firstArgMember]; rfl)) ?_)
          refine wpAny_newObj_type ?_ (by size_fits)
          simp only [raiseNew]
          refine wpAny_bind (wpAny_bind (wpAny_handled ?_))
          first | rw [show A0.in1.handled = none from hh] | rw [hh]
          refine wpAny_throw ?_
          exact qE h0 _ _ (toT .finished rfl st _ fun b o hb => Heap.get?_push_of_some _ (Heap.get?_push_of_some _ hb)) ⟨_, Heap.get?_push_size _ rfl, rfl⟩
        · exact he.elim
      · refine wpAny_pure ⟨v, rfl, wpAny_pure ?_⟩
        obtain ⟨l, A', way, rfl, hn1, hway, hl, nA, mine, nOwn, st, thereA, wake⟩ := hv
        have gst := toT gs' hb st s1.heap (Keep.refl _)
        have kX : KeepX A s.heap s1.heap := fun b o nb e => st.keep b o (fun z => nb (hF b z)) e
        have kb1 : Keep base s1.heap := fun b o e => kX b o (fun z => by rw [(there b z).2] at e; cases e) (kb b o e)
        cases n with
        | zero => exact (wake s1 kb1 fun b o _ e => e).2.elim
        | succ m =>
          rw [Nat.add_sub_cancel] at hn1 hway
          have mA : ∀ b, Mine env s.heap b → A b ∨ s.heap.get? b = none := fun b z => z.imp (hF b) id
          have genL := gen
          obtain ⟨og, nm, qn, hog, hr⟩ := gen
          have lga : l ≠ ga := fun z => by
            obtain ⟨_, _, nn, el⟩ := hl
            rw [z, kX ga og off hog] at el
            have hc := hr.1
            rw [Option.some.inj el] at hc
            exact absurd (Value.type.inj hc) (by decide)
          have nA'ga : ¬ A' ga := fun z => by
            rcases mA ga (thereA ga z).1 with q | q
            · exact off q
            · rw [hog] at q; cases q
          refine qY m (fun b => A' b ∨ b = ga) (.ref l) _ rfl gst ⟨l, way, rfl, hn1, hway, hl⟩ (fun b hb => ?_) (fun l' e => ?_) ⟨A', rfl, ⟨og, nm, qn, kX ga og off hog, hr⟩, nA'ga, fun b hb => ⟨(thereA b hb).2, ?_⟩, gs', ?_, hb, fun s2 h1 h2 _ => wake s2 h1 h2⟩
          · rcases hb with hb | hb
            · exact (mA b (thereA b hb).1).imp .inl id
            · exact .inl (.inr hb)
          · cases e
            refine ⟨fun z => ?_, (mA l mine).imp .inl id, ?_⟩
            · rcases z with z | z
              · exact nA z
              · exact lga z
            · obtain ⟨_, _, nn, el⟩ := hl
              exact ⟨_, el⟩
          · cases q : base.get? b with
            | none => rfl
            | some o =>
              rcases mA b (thereA b hb).1 with z | z
              · rw [(there b z).2] at q; cases q
              · rw [kb b o q] at z; cases z
          · refine setGen_at ?_
            obtain ⟨h1, t1, d1, rfl, k1⟩ := st
            show gi < (s.gens.setIfInBounds gi .running).size
            rw [Array.size_setIfInBounds]
            exact gsz
/-- range(.., ..), from k on -/
theorem Srz.range (hh : A0.handled = none) (I : Addr) (k : Int) : Srz P w H0 A0 I (fun _ => False) (fun _ v _ => ∃ i t, v = .int i t) (fun n F s => F = (fun b => b = I) ∧ ∃ x : Int, IsRangeIter s.heap I x n 1) where
  stay := by
    rintro n F s s' ⟨rfl, x, e⟩ k _
    exact ⟨rfl, x, k I _ rfl e⟩
  there := by
    rintro n F s b ⟨rfl, x, e⟩ rfl
    exact ⟨_, e⟩
  yst := fun m v h h' e _ => e
  next := by
    rintro n F s Q E ⟨rfl, x, hit⟩ kH qE qY
    have hT : s.TypeIs (.ref I) "range_iterator" := ⟨_, hit, rfl⟩
    unfold Builtin.SmallTypes.nextOf
    cases n with
    | zero =>
      refine wpAny_bind (wpAny_callSpecial?_slot (name := Str.ofString "__next__") hT F.slot_range_iterator_next (wpAny_call_entry F.slot_range_iterator_next hT F.entry_range_iterator_next ?_ (F.args_range_iterator_next_1 _)))
      show wpAny _ A0.in1 (field (.ref I) 0 >>= _) _ _ s
      refine wpAny_bind (wpAny_field hit rfl (x := rawInt x) rfl ?_)
      show wpAny _ A0.in1 (field (.ref I) 1 >>= _) _ _ s
      refine wpAny_bind (wpAny_field hit rfl (x := rawInt ((0 : Nat) : Int)) rfl ?_)
      show wpAny _ A0.in1 (field (.ref I) 2 >>= _) _ _ s
      refine wpAny_bind (wpAny_field hit rfl (x := rawInt 1) rfl ?_)
      show wpAny _ A0.in1 (if ((0 : Nat) : Int) ≤ 0 then _ else _) _ _ s
      rw [if_pos (show ((0 : Nat) : Int) ≤ 0 from Int.le_refl 0)]
      refine wpAny_bind (wpAny_rule (wpAny_bind ?_))
      show wpAny _ A0.in1 (newExc (.type "StopIteration") [] >>= _) _ _ _
      refine wpAny_bind ?_
      simp only [newExc, newTuple]
      refine wpAny_bind (wpAny_newObj_type ?_ (by size_fits))
      refine wpAny_bind (m := firstArgMember _ _) (wpAny_of_eq (a := Value.none) (by first | rfl | (simp only [firstArgMember]; rfl)) ?_)
      refine wpAny_newObj_type ?_ (by size_fits)
      simp only [raiseNew]
      refine wpAny_bind (wpAny_handled ?_)
      first | rw [show A0.in1.handled = none from hh] | rw [hh]
      refine wpAny_bind (wpAny_pure (wpAny_throw ?_))
      exact qE rfl _ _ (.heap fun b o _ e => Heap.get?_push_of_some _ (Heap.get?_push_of_some _ e)) ⟨_, Heap.get?_push_size _ rfl, rfl⟩
    | succ m =>
      refine wpAny_bind (wpAny_callSpecial?_slot (name := Str.ofString "__next__") hT F.slot_range_iterator_next
        (call_meets F.slot_range_iterator_next hT F.entry_range_iterator_next (F.args_range_iterator_next_1 _) (AutoRange.range_iterator___next___range_iterator_1 I x ((m + 1 : Nat) : Int) 1 (by omega)) ⟨hit, ?_⟩))
      have sb := (Heap.SameBut.update (h := s.heap) (a := I) (f := Obj.mapFields fun x_1 => x_1.setIfInBounds 0 (rawInt (x + 1)))).trans (Heap.SameBut.update (h := s.heap.update I (Obj.mapFields fun x_1 => x_1.setIfInBounds 0 (rawInt (x + 1)))) (a := I) (f := Obj.mapFields fun x => x.setIfInBounds 1 (rawInt (((m + 1 : Nat) : Int) - 1))))
      refine wpAny_pure (qY m (fun b => b = I) _ _ rfl ⟨_, s.toks + 1, s.drawn, s.gens, rfl, fun b o nb e => sb.extBut b o nb e, fun _ _ => rfl, fun z => z⟩ ⟨x, s.toks, rfl⟩ (fun b hb => .inl hb) (fun l e => by cases e) ⟨rfl, x + 1, ?_⟩)
      have q := Heap.get?_update_self (Obj.mapFields fun x => x.setIfInBounds 1 (rawInt (((m + 1 : Nat) : Int) - 1))) (Heap.get?_update_self (Obj.mapFields fun x_1 => x_1.setIfInBounds 0 (rawInt (x + 1))) hit rfl) rfl
      have e : ((m + 1 : Nat) : Int) - 1 = (m : Int) := by omega
      rw [e] at q ⊢
      exact q
end
end K25

set_option Elab.async false
set_option linter.all false
set_option maxRecDepth 100000
set_option maxHeartbeats 4000000
/-! K25, part HI: zip of two sources -/
namespace K25
open PySem PySem.Spec PyProof.Rows L2 GenW
/-- the zip object z over the sources i1, i2, with f0 in its first field -/
structure Zst (z TI TO i1 i2 : Addr) (f0 : Value) (D1 D2 : Nat → (Addr → Prop) → Shared → Prop) (n1 n2 : Nat) (F1 F2 : Addr → Prop) (s : Shared) : Prop where
  zip : IsZip s.heap z TI TO f0
  ti : IsPair s.heap TI (.ref i1) (.ref i2)
  to : ∃ a b, IsPair s.heap TO a b
  d1 : D1 n1 F1 s
  d2 : D2 n2 F2 s
  apart : ∀ b, F1 b → ¬ F2 b
  off1 : ∀ b, b = z ∨ b = TI ∨ b = TO → ¬ F1 b
  off2 : ∀ b, b = z ∨ b = TI ∨ b = TO → ¬ F2 b
  ne : TI ≠ z ∧ TO ≠ z ∧ TI ≠ TO
section
variable {P : Program} {w : World} {H0 : Heap} {A : Around} {z TI TO i1 i2 : Addr} {g1 g2 : Nat → Prop} {Y1 Y2 : Nat → Value → Heap → Prop} {D1 D2 : Nat → (Addr → Prop) → Shared → Prop} {n1 n2 : Nat} {F1 F2 : Addr → Prop} {s : Shared} {E : Value → Shared → Prop}
abbrev ZF (F1 F2 : Addr → Prop) (z TO : Addr) : Addr → Prop := fun b => F1 b ∨ F2 b ∨ b = z ∨ b = TO
abbrev ZG (g1 g2 : Nat → Prop) : Nat → Prop := fun i => g1 i ∨ g2 i
theorem zip_next {Q : Option Value → Shared → Prop} (S1 : Srz P w H0 A.in1 i1 g1 Y1 D1) (S2 : Srz P w H0 A.in1 i2 g2 Y2 D2) (hg : ∀ i, g1 i → ¬ g2 i) (Z : Zst z TI TO i1 i2 .none D1 D2 n1 n2 F1 F2 s) (kH : Keep H0 s.heap) (far : ∀ b, ZF F1 F2 z TO b → H0.get? b = none)
    (qE : (n1 = 0 ∨ n2 = 0) → ∀ s', Turn (ZG g1 g2) (ZF F1 F2 z TO) s s' → Q none s')
    (qY : ∀ m1 m2 F1' F2' v1 v2 Tp s', n1 = m1 + 1 → n2 = m2 + 1 → Turn (ZG g1 g2) (ZF F1 F2 z TO) s s' → IsPair s'.heap Tp v1 v2 → Tp ≠ z → Y1 m1 v1 s'.heap → Y2 m2 v2 s'.heap → (∀ b, F1' b ∨ F2' b → F1 b ∨ F2 b ∨ s.heap.get? b = none) →
      (∀ l, v1 = .ref l ∨ v2 = .ref l → ¬ ZF F1' F2' z TO l ∧ (F1 l ∨ F2 l ∨ s.heap.get? l = none) ∧ ∃ o, s'.heap.get? l = some o) → Zst z TI TO i1 i2 (rawInt Tp) D1 D2 m1 m2 F1' F2' s' → Q (some (.ref Tp)) s') :
    wpAny (model P w) A (pyNext (.ref z)) Q E s := by
  obtain ⟨hz, hTI, ⟨a0, b0, hTO⟩, d1, d2, apart, off1, off2, ne1, ne2, ne3⟩ := Z
  have hT : s.TypeIs (.ref z) "zip" := ⟨_, hz, rfl⟩
  have keepH : ∀ {g : Nat → Prop} {s1 : Shared}, Turn g (ZF F1 F2 z TO) s s1 → Keep H0 s1.heap := fun t b o e => t.keep b o (fun q => by rw [far b q] at e; cases e) (kH b o e)
  unfold pyNext
  refine wpAny_bind (wpAny_attempt (wpAny_callSpecial?_slot (name := Str.ofString "__next__") hT F.slot_zip_next (wpAny_call_entry F.slot_zip_next hT F.entry_zip_next ?_ (F.args_zip_next_1 _))))
  -- where a source has ended
  have over : ∀ {E2 : Value → Shared → Prop} (s' : Shared) (e : Addr), (n1 = 0 ∨ n2 = 0) → Turn (ZG g1 g2) (ZF F1 F2 z TO) s s' → IsZip s'.heap z TI TO .ellipsis → (∃ o, s'.heap.get? e = some o ∧ o.cls = .type "StopIteration") →
      wpAny (model P w) A.in1 (setField (.ref z) 0 .none) (fun _ s2 => wpAny (model P w) A (isInstance (.ref e) (.type "StopIteration") >>= fun r => if r = true then pure none else throw (.ref e)) Q E s2) E2 s' := fun {E2} s' e hn t hz' ⟨oe, hoe, hce⟩ => by
    have hez : e ≠ z := fun x => by subst x; rw [hz'] at hoe; cases hoe; simp at hce
    refine wpAny_setField_rec hz' (by simp) fun h3 _ hs3 => ?_
    refine wpAny_bind (wpAny_isInstance (T := "StopIteration") (b := true) ⟨oe, hs3.extBut _ _ hez hoe, hce⟩ isSubtype_stop ?_)
    refine wpAny_pure (qE hn _ (t.trans (.heap (g := fun _ => False) (F := fun b => b = z) fun b o nb e => hs3.extBut b o nb e) (fun i q => q.elim id fun q => q.elim) fun b q => q.elim id fun q => .inr (.inr (.inl q))))
  show wpAny _ A.in1 (field (.ref z) 2 >>= _) _ _ _
  refine wpAny_bind (wpAny_field hz rfl (x := .bool false) rfl ?_)
  show wpAny _ A.in1 (field (.ref z) 3 >>= _) _ _ _
  refine wpAny_bind (wpAny_field hz rfl (x := .ref TI) rfl ?_)
  refine wpAny_bind (wpAny_seqItems hTI rfl ?_)
  show wpAny _ A.in1 (Builtin.SmallTypes.ownedTupleIsFree (.ref z) >>= _) _ _ _
  refine wpAny_bind ?_
  unfold Builtin.SmallTypes.ownedTupleIsFree
  refine wpAny_bind (wpAny_field hz rfl (x := .none) rfl (wpAny_pure ?_))
  simp only [if_true]
  refine wpAny_bind (wpAny_rule (wpAny_bind (wpAny_field hz rfl (x := .ref TO) rfl ?_)))
  refine wpAny_bind (wpAny_setField_rec hz (by simp) fun h1 hz1 hs1 => ?_)
  replace hz1 : IsZip h1 z TI TO .ellipsis := hz1
  have t1 : Turn (ZG g1 g2) (ZF F1 F2 z TO) s { s with heap := h1 } := .heap fun b o nb e => hs1.extBut b o (fun q => nb (.inr (.inr (.inl q)))) e
  have d1' : D1 n1 F1 { s with heap := h1 } := S1.stay _ _ _ _ d1 (fun b o hb e => hs1.extBut b o (fun q => off1 b (.inl q) hb) e) fun _ _ => rfl
  have d2' : D2 n2 F2 { s with heap := h1 } := S2.stay _ _ _ _ d2 (fun b o hb e => hs1.extBut b o (fun q => off2 b (.inl q) hb) e) fun _ _ => rfl
  have hTO1 := hs1.extBut _ _ ne2 hTO
  have hTI1 := hs1.extBut _ _ ne1 hTI
  refine wpAny_bind ?_
  simp only [List.zipIdx_cons, List.zipIdx_nil, List.forIn_cons, List.forIn_nil]
  refine wpAny_bind (wpAny_bind (wpAny_onRaise ?_))
  show wpAny _ A.in1 (Builtin.SmallTypes.nextOf (.ref i1) >>= _) _ _ _
  refine wpAny_bind (S1.next n1 F1 { s with heap := h1 } _ _ d1' (keepH t1) (fun h0 s2 e tt he => ?_) fun m1 F1' v1 s2 e1 tt y1 sub1 ref1 d1n => ?_)
  · have t2 : Turn (ZG g1 g2) (ZF F1 F2 z TO) s s2 := t1.trans tt (fun i q => q.elim id .inl) fun b q => q.elim id .inl
    exact over s2 e (.inl h0) t2 (tt.keep _ _ (off1 z (.inl rfl)) hz1) he
  · have t2 : Turn (ZG g1 g2) (ZF F1 F2 z TO) s s2 := t1.trans tt (fun i q => q.elim id .inl) fun b q => q.elim id .inl
    have hz2 := tt.keep _ _ (off1 z (.inl rfl)) hz1
    have hTO2 := tt.keep _ _ (off1 TO (.inr (.inr rfl))) hTO1
    have hTI2 := tt.keep _ _ (off1 TI (.inr (.inl rfl))) hTI1
    have d2n : D2 n2 F2 s2 := S2.stay _ _ _ _ d2' (fun b o hb e => tt.keep b o (fun q => apart b q hb) e) fun i hi => tt.gens i fun q => hg i q hi
    refine wpAny_pure ?_
    refine wpAny_bind (wpAny_seqItems hTO2 rfl ?_)
    refine wpAny_bind (wpAny_updateSeq_pair hTO2 fun h3 hTO3 hs3 => ?_)
    replace hTO3 : IsPair h3 TO v1 b0 := hTO3
    have u3 : Turn (ZG g1 g2) (ZF F1 F2 z TO) s2 { s2 with heap := h3 } := .heap fun b o nb e => hs3.extBut b o (fun q => nb (.inr (.inr (.inr q)))) e
    have t3 : Turn (ZG g1 g2) (ZF F1 F2 z TO) s { s2 with heap := h3 } := t2.trans u3 (fun i q => q.elim id id) fun b q => q.elim id id
    have new1 : ∀ b, F1' b → F1 b ∨ s.heap.get? b = none := fun b hb => (sub1 b hb).imp id fun q => by
      cases e : s.heap.get? b with
      | none => rfl
      | some o =>
        by_cases ez : b = z
        · rw [ez, hz1] at q; cases q
        · rw [hs1.extBut b o ez e] at q; cases q
    have apart1 : ∀ b, F1' b → ¬ F2 b := fun b h1 h2 => by
      rcases new1 b h1 with q | q
      · exact apart b q h2
      · obtain ⟨o, e⟩ := S2.there _ _ _ b d2 h2
        rw [e] at q; cases q
    have off1' : ∀ b, b = z ∨ b = TI ∨ b = TO → ¬ F1' b := fun b hb h1 => by
      rcases new1 b h1 with q | q
      · exact off1 b hb q
      · rcases hb with rfl | rfl | rfl
        · rw [hz] at q; cases q
        · rw [hTI] at q; cases q
        · rw [hTO] at q; cases q
    have d1' : D1 m1 F1' { s2 with heap := h3 } := S1.stay _ _ _ _ d1n (fun b o hb e => hs3.extBut b o (fun q => off1' b (.inr (.inr q)) hb) e) fun _ _ => rfl
    have d2' : D2 n2 F2 { s2 with heap := h3 } := S2.stay _ _ _ _ d2n (fun b o hb e => hs3.extBut b o (fun q => off2 b (.inr (.inr q)) hb) e) fun _ _ => rfl
    have vold : ∀ l, v1 = .ref l → ¬ F2 l ∧ (F1 l ∨ s.heap.get? l = none) ∧ l ≠ z ∧ l ≠ TO := fun l e => by
      obtain ⟨_, q, _⟩ := ref1 l e
      have q' : F1 l ∨ s.heap.get? l = none := q.imp id fun q => by
        cases e : s.heap.get? l with
        | none => rfl
        | some o =>
          by_cases ez : l = z
          · rw [ez, hz1] at q; cases q
          · rw [hs1.extBut l o ez e] at q; cases q
      rcases q' with q | q
      · exact ⟨apart l q, .inl q, fun e => off1 l (.inl e) q, fun e => off1 l (.inr (.inr e)) q⟩
      · refine ⟨fun h => ?_, .inr q, fun e => ?_, fun e => ?_⟩
        · obtain ⟨o, e⟩ := S2.there _ _ _ l d2 h
          rw [e] at q; cases q
        · rw [e, hz] at q; cases q
        · rw [e, hTO] at q; cases q
    refine wpAny_bind (wpAny_letGo (wpAny_pure ?_))
    refine wpAny_bind (wpAny_bind (wpAny_onRaise ?_))
    show wpAny _ A.in1 (Builtin.SmallTypes.nextOf (.ref i2) >>= _) _ _ _
    have hz3 := hs3.extBut _ _ (Ne.symm ne2) hz2
    have hTI3 := hs3.extBut _ _ ne3 hTI2
    refine wpAny_bind (S2.next n2 F2 { s2 with heap := h3 } _ _ d2' (keepH t3) (fun h0 s4 e tt4 he => ?_) fun m2 F2' v2 s4 e2 tt4 y2 sub2 ref2 d2n => ?_)
    · have t4 : Turn (ZG g1 g2) (ZF F1 F2 z TO) s s4 := t3.trans tt4 (fun i q => q.elim id .inr) fun b q => q.elim id fun q => .inr (.inl q)
      exact over s4 e (.inr h0) t4 (tt4.keep _ _ (off2 z (.inl rfl)) hz3) he
    · have t4 : Turn (ZG g1 g2) (ZF F1 F2 z TO) s s4 := t3.trans tt4 (fun i q => q.elim id .inr) fun b q => q.elim id fun q => .inr (.inl q)
      have hz4 := tt4.keep _ _ (off2 z (.inl rfl)) hz3
      have hTO4 := tt4.keep _ _ (off2 TO (.inr (.inr rfl))) hTO3
      have hTI4 := tt4.keep _ _ (off2 TI (.inr (.inl rfl))) hTI3
      have d1n4 : D1 m1 F1' s4 := S1.stay _ _ _ _ d1' (fun b o hb e => tt4.keep b o (fun q => apart1 b hb q) e) fun i hi => tt4.gens i fun q => hg i hi q
      refine wpAny_pure ?_
      refine wpAny_bind (wpAny_seqItems hTO4 rfl ?_)
      refine wpAny_bind (wpAny_updateSeq_pair hTO4 fun h5 hTO5 hs5 => ?_)
      replace hTO5 : IsPair h5 TO v1 v2 := hTO5
      refine wpAny_bind (wpAny_letGo (wpAny_pure (wpAny_pure ?_)))
      refine wpAny_bind (wpAny_seqItems hTO5 rfl ?_)
      refine wpAny_bind (wpAny_newTuple ?_)
      have hz5 : IsZip h5 z TI TO .ellipsis := hs5.extBut _ _ (Ne.symm ne2) hz4
      have hTI5 := hs5.extBut _ _ ne3 hTI4
      show wpAny _ A.in1 (Builtin.SmallTypes.ownedTupleHandOut (.ref z) (.ref h5.objs.size) >>= _) _ _ _
      refine wpAny_bind ?_
      unfold Builtin.SmallTypes.ownedTupleHandOut
      have hz6 : IsZip (h5.push { cls := .type "tuple", data := .seq #[v1, v2] }) z TI TO .ellipsis := Heap.get?_push_of_some _ hz5
      refine wpAny_bind (wpAny_setField_rec hz6 (by simp) fun h7 hz7 hs7 => ?_)
      replace hz7 : IsZip h7 z TI TO (rawInt h5.objs.size) := hz7
      refine wpAny_setField_rec hz7 (by simp) fun h8 hz8 hs8 => ?_
      replace hz8 : IsZip h8 z TI TO (rawInt h5.objs.size) := hz8
      have up : ∀ c o, c ≠ z → h5.get? c = some o → h8.get? c = some o := fun c o c1 e => hs8.extBut _ _ c1 (hs7.extBut _ _ c1 (Heap.get?_push_of_some _ e))
      have Tz : h5.objs.size ≠ z := Nat.ne_of_gt (Heap.lt_size hz5)
      have hTp : IsPair h8 h5.objs.size v1 v2 := hs8.extBut _ _ Tz (hs7.extBut _ _ Tz (Heap.get?_push_size _ rfl))
      refine wpAny_pure ⟨_, rfl, wpAny_pure ?_⟩
      have u8 : Turn (ZG g1 g2) (ZF F1 F2 z TO) s4 { s4 with heap := h8 } := .heap fun b o nb e => up b o (fun q => nb (.inr (.inr (.inl q)))) (hs5.extBut b o (fun q => nb (.inr (.inr (.inr q)))) e)
      have t8 : Turn (ZG g1 g2) (ZF F1 F2 z TO) s { s4 with heap := h8 } := t4.trans u8 (fun i q => q.elim id id) fun b q => q.elim id id
      have up4 : ∀ c o, c ≠ z → c ≠ TO → s4.heap.get? c = some o → h8.get? c = some o := fun c o c1 c2 e => up c o c1 (hs5.extBut c o c2 e)
      -- what stood before the second draw
      have old3 : ∀ b o, ¬ F1 b → b ≠ z → b ≠ TO → s.heap.get? b = some o → h3.get? b = some o := fun b o n1 n2 n3 e => hs3.extBut b o n3 (tt.keep b o n1 (hs1.extBut b o n2 e))
      have new2 : ∀ b, F2' b → F2 b ∨ h3.get? b = none := sub2
      have off2' : ∀ b, b = z ∨ b = TI ∨ b = TO → ¬ F2' b := fun b hb h2 => by
        rcases new2 b h2 with q | q
        · exact off2 b hb q
        · rcases hb with rfl | rfl | rfl
          · rw [hz3] at q; cases q
          · rw [hTI3] at q; cases q
          · rw [hTO3] at q; cases q
      have apart2 : ∀ b, F1' b → ¬ F2' b := fun b h1 h2 => by
        rcases new2 b h2 with q | q
        · exact apart1 b h1 q
        · obtain ⟨o, e⟩ := S1.there _ _ _ b d1' h1
          rw [show h3.get? b = some o from e] at q; cases q
      have fresh3 : ∀ b, h3.get? b = none → F1 b ∨ F2 b ∨ s.heap.get? b = none := fun b q => by
        cases e : s.heap.get? b with
        | none => exact .inr (.inr rfl)
        | some o =>
          by_cases f1 : F1 b
          · exact .inl f1
          · by_cases ez : b = z
            · rw [ez, hz3] at q; cases q
            · by_cases et : b = TO
              · rw [et, hTO3] at q; cases q
              · rw [old3 b o f1 ez et e] at q; cases q
      refine qY m1 m2 F1' F2' v1 v2 h5.objs.size _ e1 e2 t8 hTp Tz (S1.yst _ _ _ _ y1 fun l o el e => ?_) (S2.yst _ _ _ _ y2 fun l o el e => ?_) (fun b hb => ?_) (fun l el => ?_) ⟨hz8, up _ _ ne1 hTI5, ⟨_, _, up _ _ ne2 hTO5⟩, S1.stay _ _ _ _ d1n4 (fun b o hb e => up4 b o (fun q => off1' b (.inl q) hb) (fun q => off1' b (.inr (.inr q)) hb) e) fun _ _ => rfl,
        S2.stay _ _ _ _ d2n (fun b o hb e => up4 b o (fun q => off2' b (.inl q) hb) (fun q => off2' b (.inr (.inr q)) hb) e) fun _ _ => rfl, apart2, off1', off2', ne1, ne2, ne3⟩
      · obtain ⟨v2', _, v3, v4⟩ := vold l el
        exact up4 l o v3 v4 (tt4.keep l o v2' (hs3.extBut l o v4 e))
      · obtain ⟨w1, w2, w3⟩ := ref2 l el
        have nz : l ≠ z := fun q => by
          rcases w2 with w | w
          · exact off2 l (.inl q) w
          · rw [q] at w; rw [show h3.get? z = _ from hz3] at w; cases w
        have nt : l ≠ TO := fun q => by
          rcases w2 with w | w
          · exact off2 l (.inr (.inr q)) w
          · rw [q] at w; rw [show h3.get? TO = _ from hTO3] at w; cases w
        exact up4 l o nz nt e
      · rcases hb with hb | hb
        · exact (new1 b hb).imp id .inr
        · rcases new2 b hb with q | q
          · exact .inr (.inl q)
          · exact fresh3 b q
      · rcases el with el | el
        · obtain ⟨v2', vo, v3, v4⟩ := vold l el
          obtain ⟨w1, w2, o, w3⟩ := ref1 l el
          have at3 : h3.get? l = some o := hs3.extBut l o v4 w3
          refine ⟨fun q => ?_, vo.imp id .inr, o, up4 l o v3 v4 (tt4.keep l o v2' at3)⟩
          rcases q with q | q | q | q
          · exact w1 q
          · rcases new2 l q with q | q
            · exact v2' q
            · rw [at3] at q; cases q
          · exact v3 q
          · exact v4 q
        · obtain ⟨w1, w2, o, w3⟩ := ref2 l el
          have nz : l ≠ z := fun q => by
            rcases w2 with w | w
            · exact off2 l (.inl q) w
            · rw [q] at w; rw [show h3.get? z = _ from hz3] at w; cases w
          have nt : l ≠ TO := fun q => by
            rcases w2 with w | w
            · exact off2 l (.inr (.inr q)) w
            · rw [q] at w; rw [show h3.get? TO = _ from hTO3] at w; cases w
          refine ⟨fun q => ?_, ?_, o, up4 l o nz nt w3⟩
          · rcases q with q | q | q | q
            · rcases w2 with w | w
              · exact apart1 l q w
              · obtain ⟨o, e⟩ := S1.there _ _ _ l d1' q
                rw [show h3.get? l = some o from e] at w; cases w
            · exact w1 q
            · exact nz q
            · exact nt q
          · rcases w2 with w | w
            · exact .inr (.inl w)
            · exact fresh3 l w
/-- the pair is handed out -/
theorem zip_go {Q : Unit → Shared → Prop} {elts : List Expr} {x1} {pos : Pos} {Tp : Addr} (S1 : Srz P w H0 A.in1 i1 g1 Y1 D1) (S2 : Srz P w H0 A.in1 i2 g2 Y2 D2) (Z : Zst z TI TO i1 i2 (rawInt Tp) D1 D2 n1 n2 F1 F2 s)
    (q : ∀ h', Heap.SameBut z s.heap h' → Zst z TI TO i1 i2 .none D1 D2 n1 n2 F1 F2 { s with heap := h' } → Q () { s with heap := h' }) :
    wpAny (model P w) A (letOwnedTupleGo (.Tuple elts x1 pos) (.ref z) (.ref Tp)) Q E s := by
  obtain ⟨hz, hTI, ⟨a0, b0, hTO⟩, d1, d2, apart, off1, off2, ne1, ne2, ne3⟩ := Z
  refine wpAny_letOwnedTupleGo_zip hz fun h' hz' hs => q h' hs ⟨hz', hs.extBut _ _ ne1 hTI, ⟨a0, b0, hs.extBut _ _ ne2 hTO⟩, S1.stay _ _ _ _ d1 (fun b o hb e => hs.extBut b o (fun q => off1 b (.inl q) hb) e) fun _ _ => rfl, S2.stay _ _ _ _ d2 (fun b o hb e => hs.extBut b o (fun q => off2 b (.inl q) hb) e) fun _ _ => rfl, apart, off1, off2, ne1, ne2, ne3⟩
end
end K25

set_option Elab.async false
set_option linter.all false
set_option maxRecDepth 100000
set_option maxHeartbeats 4000000
/-! K25, part HJ: [elt for a, b in zip(..)] -/
namespace K25
open PySem PySem.Spec PyProof.Rows L2 GenW
section
variable {P : Program} {w : World} {H0 : Heap} {A : Around} {z TI TO i1 i2 D : Addr} {g1 g2 : Nat → Prop} {Y1 Y2 : Nat → Value → Heap → Prop} {D1 D2 : Nat → (Addr → Prop) → Shared → Prop} {cenv : Env}
variable {Item : Nat → List Addr → Heap → Value → Prop}
/-- the results so far -/
def Outs (H0 : Heap) (Item : Nat → List Addr → Heap → Value → Prop) (off : Addr → Prop) (h : Heap) (ys : List Value) : Prop := ∀ j u, ys[j]? = some u → ∃ as, Item j as h u ∧ ∀ b ∈ as, ¬ off b ∧ (∃ o, h.get? b = some o) ∧ H0.get? b = none
theorem Outs.mono {off off' : Addr → Prop} {h h' : Heap} {ys : List Value} (hi : ∀ i as h h' u, Item i as h u → (∀ b ∈ as, ∀ o, h.get? b = some o → h'.get? b = some o) → Item i as h' u) (x : Outs H0 Item off h ys)
    (k : ∀ b o, ¬ off b → h.get? b = some o → h'.get? b = some o) (l : ∀ b o, h.get? b = some o → off' b → off b) : Outs H0 Item off' h' ys := fun j u e => by
  obtain ⟨as, i, q⟩ := x j u e
  exact ⟨as, hi _ _ _ _ _ i fun b hb o e => k b o (q b hb).1 e, fun b hb => ⟨fun z => by
    obtain ⟨n, ⟨o, e⟩, _⟩ := q b hb
    exact n (l b o e z), by
    obtain ⟨n, ⟨o, e⟩, _⟩ := q b hb
    exact ⟨o, k b o n e⟩, (q b hb).2.2⟩⟩
theorem Zst.stay {f0 : Value} {n1 n2 : Nat} {F1 F2 : Addr → Prop} {s s' : Shared} (S1 : Srz P w H0 A i1 g1 Y1 D1) (S2 : Srz P w H0 A i2 g2 Y2 D2) (Z : Zst z TI TO i1 i2 f0 D1 D2 n1 n2 F1 F2 s) (k : ∀ b o, ZF F1 F2 z TO b ∨ b = TI → s.heap.get? b = some o → s'.heap.get? b = some o) (hg : s'.gens = s.gens) : Zst z TI TO i1 i2 f0 D1 D2 n1 n2 F1 F2 s' := by
  obtain ⟨hz, hTI, ⟨a0, b0, hTO⟩, d1, d2, r1, r2, r3, r4⟩ := Z
  exact ⟨k _ _ (.inl (.inr (.inr (.inl rfl)))) hz, k _ _ (.inr rfl) hTI, ⟨a0, b0, k _ _ (.inl (.inr (.inr (.inr rfl)))) hTO⟩, S1.stay _ _ _ _ d1 (fun b o hb e => k b o (.inl (.inl hb)) e) fun _ _ => by rw [hg], S2.stay _ _ _ _ d2 (fun b o hb e => k b o (.inl (.inr (.inl hb))) e) fun _ _ => by rw [hg], r1, r2, r3, r4⟩
theorem zip_loop {nm1 nm2 : PySem.Str} {p1 p2 pt pos : Pos} {ttl : Nat} {elt iter : Expr} {scope : Scope} {R : Result → Shared → Prop} {s0 : Shared} {N1 N2 : Nat} {F1 F2 : Addr → Prop}
    (hh : A.handled = none) (hp : (cenv.scope.kind == .class || (cenv.scope.kind == .module && cenv.locals != cenv.globals)) = false) (k1 : cenv.kindOf nm1 = some .local) (k2 : cenv.kindOf nm2 = some .local) (ne : nm1 ≠ nm2)
    (S1 : Srz P w H0 A.in1 i1 g1 Y1 D1) (S2 : Srz P w H0 A.in1 i2 g2 Y2 D2) (hg : ∀ i, g1 i → ¬ g2 i) (hN : min N1 N2 ≤ sizeLine)
    (item : ∀ i as h h' u, Item i as h u → (∀ b ∈ as, ∀ o, h.get? b = some o → h'.get? b = some o) → Item i as h' u)
    (helt : ∀ i v1 v2 sT m, i < N1 → i < N2 → Y1 (N1 - (i + 1)) v1 sT.heap → Y2 (N2 - (i + 1)) v2 sT.heap → sT.heap.Ns cenv.locals m → m nm1 = some v1 → m nm2 = some v2 → ∀ (Q : Value → Shared → Prop) (E : Value → Shared → Prop),
      (∀ u s' as, Step No sT s' → Item i as s'.heap u → (∀ b ∈ as, (v1 = .ref b ∨ v2 = .ref b) ∨ sT.heap.objs.size ≤ b) → (∀ b ∈ as, ∃ o, s'.heap.get? b = some o) → Q u s') → wpAny (model P w) A (eval elt cenv) Q E sT)
    (Z : Zst z TI TO i1 i2 .none D1 D2 N1 N2 F1 F2 s0) (kH : Keep H0 s0.heap) (far : ∀ b, ZF F1 F2 z TO b ∨ b = D ∨ b = cenv.locals → H0.get? b = none) (offD : ∀ b, b = D ∨ b = cenv.locals → ¬ ZF F1 F2 z TO b ∧ b ≠ TI) (DC : D ≠ cenv.locals) (hb : AllBare s0.gens)
    {m0 : PySem.Str → Option Value} (hn : s0.heap.Ns cenv.locals m0) (hD : s0.heap.PlainList D #[])
    (fin : ∀ s' ys m, Keep H0 s'.heap → AllBare s'.gens → s'.os = s0.os → s'.heap.Ns cenv.locals m → s'.heap.PlainList D ys.toArray → ys.length = min N1 N2 → Outs H0 Item (fun b => b = D ∨ b = cenv.locals) s'.heap ys → R (.ok .next) s') :
    codeAny (model P w) A (.compLoop (.ListComp elt [⟨.Tuple [.Name nm1 p1, .Name nm2 p2] ttl pt, iter, [], 0⟩] scope pos) 0 (.ref z) (.ref D) cenv) R s0 := by
  refine compLoop_list_any (fun k s' => ∃ i ys m F1 F2, k = min N1 N2 + 1 - i ∧ i ≤ min N1 N2 ∧ ys.length = i ∧ Zst z TI TO i1 i2 .none D1 D2 (N1 - i) (N2 - i) F1 F2 s' ∧ Keep H0 s'.heap ∧ (∀ b, ZF F1 F2 z TO b ∨ b = D ∨ b = cenv.locals → H0.get? b = none) ∧ (∀ b, b = D ∨ b = cenv.locals → ¬ ZF F1 F2 z TO b ∧ b ≠ TI) ∧ AllBare s'.gens ∧ s'.os = s0.os ∧
    s'.heap.Ns cenv.locals m ∧ s'.heap.PlainList D ys.toArray ∧ Outs H0 Item (fun b => ZF F1 F2 z TO b ∨ b = D ∨ b = cenv.locals) s'.heap ys) ?_ (min N1 N2 + 1) ⟨0, [], m0, F1, F2, rfl, Nat.zero_le _, rfl, Z, kH, far, offD, hb, rfl, hn, hD, fun j u e => by cases e⟩
  clear Z kH far offD hb hn hD
  rintro k s1 ⟨i, ys, m, F1, F2, rfl, hi, hlen, Z, kH, far, offD, hb, hos, hn, hD, outs⟩
  have nsAt : ∀ {h h' : Heap}, h.Ns cenv.locals m → (∀ b o, b = D ∨ b = cenv.locals → h.get? b = some o → h'.get? b = some o) → h'.Ns cenv.locals m := fun n k => n.at fun o e => k _ o (.inr rfl) e
  refine zip_next S1 S2 hg Z kH (fun b hb => far b (.inl hb)) (fun hend s2 t => ?_) fun m1 m2 F1' F2' v1 v2 Tp s2 e1 e2 t hTp Tz y1 y2 sub refs Z2 => ?_
  · have hi' : i = min N1 N2 := by omega
    subst hi'
    have kF : ∀ b o, ¬ ZF F1 F2 z TO b → s1.heap.get? b = some o → s2.heap.get? b = some o := t.keep
    refine fin s2 ys m (fun b o e => kF b o (fun q => by rw [far b (.inl q)] at e; cases e) (kH b o e)) (t.bare hb) (t.os.trans hos) (hn.at fun o e => kF _ o (offD _ (.inr rfl)).1 e) (hD.at fun o e => kF _ o (offD _ (.inl rfl)).1 e) hlen (outs.mono item (fun b o n e => kF b o (fun q => n (.inl q)) e) fun b o _ q => .inr q)
  · have kF : ∀ b o, ¬ ZF F1 F2 z TO b → s1.heap.get? b = some o → s2.heap.get? b = some o := t.keep
    have hi1 : i < N1 := by omega
    have hi2 : i < N2 := by omega
    rw [show m1 = N1 - (i + 1) by omega] at y1 Z2
    rw [show m2 = N2 - (i + 1) by omega] at y2 Z2
    have kH2 : Keep H0 s2.heap := fun b o e => kF b o (fun q => by rw [far b (.inl q)] at e; cases e) (kH b o e)
    have offD2 : ∀ b, b = D ∨ b = cenv.locals → ¬ ZF F1' F2' z TO b ∧ b ≠ TI := fun b hb => by
      obtain ⟨q1, q2⟩ := offD b hb
      refine ⟨fun x => ?_, q2⟩
      have ex : ∃ o, s1.heap.get? b = some o := by
        rcases hb with rfl | rfl
        · obtain ⟨n, e⟩ := hD
          exact ⟨_, e⟩
        · obtain ⟨o, _, _, e, _⟩ := hn
          exact ⟨o, e⟩
      have old : F1 b ∨ F2 b ∨ s1.heap.get? b = none → False := fun y => by
        rcases y with y | y | y
        · exact q1 (.inl y)
        · exact q1 (.inr (.inl y))
        · obtain ⟨o, e⟩ := ex
          rw [e] at y; cases y
      rcases x with x | x | x | x
      · exact old (sub b (.inl x))
      · exact old (sub b (.inr x))
      · exact q1 (.inr (.inr (.inl x)))
      · exact q1 (.inr (.inr (.inr x)))
    have far2 : ∀ b, ZF F1' F2' z TO b ∨ b = D ∨ b = cenv.locals → H0.get? b = none := fun b hb => by
      have old : F1 b ∨ F2 b ∨ s1.heap.get? b = none → H0.get? b = none := fun y => by
        rcases y with y | y | y
        · exact far b (.inl (.inl y))
        · exact far b (.inl (.inr (.inl y)))
        · cases e : H0.get? b with
          | none => rfl
          | some o => rw [kH b o e] at y; cases y
      rcases hb with (x | x | x) | x
      · exact old (sub b (.inl x))
      · exact old (sub b (.inr x))
      · exact far b (.inl (.inr (.inr x)))
      · exact far b (.inr x)
    have outs2 : Outs H0 Item (fun b => ZF F1' F2' z TO b ∨ b = D ∨ b = cenv.locals) s2.heap ys := outs.mono item (fun b o n e => kF b o (fun q => n (.inl q)) e) fun b o e q => by
      have old : F1 b ∨ F2 b ∨ s1.heap.get? b = none → ZF F1 F2 z TO b := fun y => by
        rcases y with y | y | y
        · exact .inl y
        · exact .inr (.inl y)
        · rw [e] at y; cases y
      rcases q with (x | x | x) | x
      · exact .inl (old (sub b (.inl x)))
      · exact .inl (old (sub b (.inr x)))
      · exact .inl (.inr (.inr x))
      · exact .inr x
    refine zip_go S1 S2 Z2 fun h3 sb3 Z3 => ?_
    have ht3 : h3.IsTuple Tp #[v1, v2] := ⟨_, sb3.extBut _ _ Tz hTp, rfl, _, rfl⟩
    refine wpAny_assign_Tuple (s := { s2 with heap := h3 }) hh ht3 rfl rfl fun h4 x4 => ?_
    replace x4 : Heap.ExtBut h3.objs.size h3 h4 := x4
    have k34 : ∀ b o, h3.get? b = some o → h4.get? b = some o := fun b o e => x4 b o (Nat.ne_of_lt (Heap.lt_size e)) e
    have Cz : cenv.locals ≠ z := fun e => (offD2 _ (.inr rfl)).1 (.inr (.inr (.inl e)))
    have hn4 : h4.Ns cenv.locals m := (hn.at fun o e => kF _ o (offD _ (.inr rfl)).1 e).at fun o e => k34 _ o (sb3.extBut _ o Cz e)
    show wpAny _ A (do holding [v2] (assign (.Name nm1 p1) cenv v1); holding [] (assign (.Name nm2 p2) cenv v2); pure ()) _ _ _
    refine wpAny_bind (wpAny_holding (wpAny_assign_Name (wpAny_storeName_local k1 hn4 (fun h5 hn5 sb5 => ?_) hp)))
    refine wpAny_bind (wpAny_holding (wpAny_assign_Name (wpAny_storeName_local k2 hn5 (fun h6 hn6 sb6 => wpAny_pure ?_) hp)))
    replace sb5 : Heap.SameBut cenv.locals h4 h5 := sb5
    replace sb6 : Heap.SameBut cenv.locals h5 h6 := sb6
    have k36 : ∀ b o, b ≠ cenv.locals → h3.get? b = some o → h6.get? b = some o := fun b o nC e => sb6.extBut b o nC (sb5.extBut b o nC (k34 b o e))
    have k26 : ∀ b o, b ≠ z → b ≠ cenv.locals → s2.heap.get? b = some o → h6.get? b = some o := fun b o nz nC e => k36 b o nC (sb3.extBut b o nz e)
    have nF1 : ∀ l, v1 = .ref l ∨ v2 = .ref l → l ≠ z ∧ l ≠ cenv.locals ∧ l ≠ D ∧ H0.get? l = none := fun l el => by
      obtain ⟨q1, q2, q3⟩ := refs l el
      have ex : ∀ b, b = D ∨ b = cenv.locals → l ≠ b := fun b hb e => by
        subst e
        have ex : ∃ o, s1.heap.get? l = some o := by
          rcases hb with rfl | rfl
          · obtain ⟨n, e⟩ := hD
            exact ⟨_, e⟩
          · obtain ⟨o, _, _, e, _⟩ := hn
            exact ⟨o, e⟩
        rcases q2 with y | y | y
        · exact (offD l hb).1 (.inl y)
        · exact (offD l hb).1 (.inr (.inl y))
        · obtain ⟨o, e⟩ := ex
          rw [e] at y; cases y
      refine ⟨fun e => q1 (.inr (.inr (.inl e))), ex _ (.inr rfl), ex _ (.inl rfl), ?_⟩
      rcases q2 with y | y | y
      · exact far l (.inl (.inl y))
      · exact far l (.inl (.inr (.inl y)))
      · cases e : H0.get? l with
        | none => rfl
        | some o => rw [kH l o e] at y; cases y
    refine wpAny_pure ?_
    simp only [if_true]
    have hN6 : (fun x => if x = nm2 then some v2 else if x = nm1 then some v1 else m x) nm1 = some v1 := by
      show (if nm1 = nm2 then _ else _) = _
      rw [if_neg ne, if_pos rfl]
    refine helt i v1 v2 _ _ hi1 hi2 (S1.yst _ _ _ _ y1 fun l o el e => k26 l o (nF1 l (.inl el)).1 (nF1 l (.inl el)).2.1 e) (S2.yst _ _ _ _ y2 fun l o el e => k26 l o (nF1 l (.inr el)).1 (nF1 l (.inr el)).2.1 e) hn6 hN6 (if_pos rfl) _ _ fun u s7 as st7 it7 f7 e7 => ?_
    have k67 := st7.keep0
    have k27 : ∀ b o, b ≠ z → b ≠ cenv.locals → s2.heap.get? b = some o → s7.heap.get? b = some o := fun b o nz nC e => k67 b o (k26 b o nz nC e)
    have Dz : D ≠ z := fun e => (offD2 _ (.inl rfl)).1 (.inr (.inr (.inl e)))
    have hD7 : s7.heap.PlainList D ys.toArray := hD.at fun o e => k27 _ o Dz DC (kF _ o (offD _ (.inl rfl)).1 e)
    have gens7 : s7.gens = s2.gens := by
      obtain ⟨_, _, _, rfl, _⟩ := st7
      rfl
    have os7 : s7.os = s2.os := by
      obtain ⟨_, _, _, rfl, _⟩ := st7
      rfl
    refine wpAny_list_append_plain (hsz := by rw [List.size_toArray]; omega) hD7 fun h8 hD8 sb8 => ?_
    have k28 : ∀ b o, b ≠ z → b ≠ cenv.locals → b ≠ D → s2.heap.get? b = some o → h8.get? b = some o := fun b o nz nC nD e => sb8.extBut b o nD (k27 b o nz nC e)
    have lt6 : ∀ {b o}, b ≠ z → b ≠ cenv.locals → s2.heap.get? b = some o → b < h6.objs.size := fun nz nC e => Heap.lt_size (k26 _ _ nz nC e)
    refine ⟨min N1 N2 + 1 - (i + 1), by omega, i + 1, ys ++ [u], _, F1', F2', rfl, by omega, by rw [List.length_append, hlen]; rfl, Zst.stay S1 S2 Z3 (fun b o hb e => ?_) gens7, fun b o e => ?_, far2, offD2, ?_, os7.trans (t.os.trans hos), (hn6.at fun o e => k67 _ o e).at fun o e => sb8.extBut _ o (Ne.symm DC) e, ?_, ?_⟩
    · have nDC : ∀ c, c = D ∨ c = cenv.locals → b ≠ c := fun c hc e => by
        rw [e] at hb
        rcases hb with hb | hb
        · exact (offD2 c hc).1 hb
        · exact (offD2 c hc).2 hb
      exact sb8.extBut b o (nDC _ (.inl rfl)) (k67 b o (k36 b o (nDC _ (.inr rfl)) e))
    · refine k28 b o (fun q => ?_) (fun q => ?_) (fun q => ?_) (kH2 b o e)
      · rw [q, far2 z (.inl (.inr (.inr (.inl rfl))))] at e; cases e
      · rw [q, far2 _ (.inr (.inr rfl))] at e; cases e
      · rw [q, far2 _ (.inr (.inl rfl))] at e; cases e
    · show AllBare s7.gens
      rw [gens7]
      exact t.bare hb
    · have e : ys.toArray.push u = (ys ++ [u]).toArray := by simp
      rw [← e]
      exact hD8
    · intro j x hx
      by_cases hj : j < ys.length
      · rw [List.getElem?_append_left hj] at hx
        obtain ⟨as', it', q⟩ := outs2 j x hx
        have kk : ∀ b ∈ as', ∀ o, s2.heap.get? b = some o → h8.get? b = some o := fun b hb o e => k28 b o (fun z' => (q b hb).1 (.inl (.inr (.inr (.inl z'))))) (fun z' => (q b hb).1 (.inr (.inr z'))) (fun z' => (q b hb).1 (.inr (.inl z'))) e
        refine ⟨as', item _ _ _ _ _ it' kk, fun b hb => ⟨(q b hb).1, ?_, (q b hb).2.2⟩⟩
        obtain ⟨o, e⟩ := (q b hb).2.1
        exact ⟨o, kk b hb o e⟩
      · have hj' : j = i := by
          have := (List.getElem?_eq_some_iff.mp hx).1
          rw [List.length_append, List.length_singleton] at this
          omega
        subst hj'
        rw [List.getElem?_append_right (by omega), hlen, Nat.sub_self] at hx
        cases hx
        have ok : ∀ b ∈ as, ¬ (ZF F1' F2' z TO b ∨ b = D ∨ b = cenv.locals) ∧ H0.get? b = none := fun b hb => by
          rcases f7 b hb with q | q
          · obtain ⟨q1, q2, q3, q4⟩ := nF1 b q
            refine ⟨fun z' => ?_, q4⟩
            rcases z' with z' | z' | z'
            · exact (refs b q).1 z'
            · exact q3 z'
            · exact q2 z'
          · replace q : h6.objs.size ≤ b := q
            have no : ∀ {c o}, h6.get? c = some o → b ≠ c := fun e z' => absurd (Nat.lt_of_lt_of_le (Heap.lt_size e) (by rw [← z']; exact q)) (Nat.lt_irrefl _)
            have noF : ∀ {c o}, c ≠ cenv.locals → h3.get? c = some o → b ≠ c := fun nC e => no (k36 _ _ nC e)
            obtain ⟨hz3, hTI3, ⟨_, _, hTO3⟩, d1, d2, _⟩ := Z3
            obtain ⟨oC, _, _, eC, _⟩ := hn6
            have bC : b ≠ cenv.locals := no eC
            refine ⟨fun z' => ?_, ?_⟩
            · rcases z' with (z' | z' | z' | z') | z' | z'
              · obtain ⟨o, e⟩ := S1.there _ _ _ b d1 z'
                exact noF bC e rfl
              · obtain ⟨o, e⟩ := S2.there _ _ _ b d2 z'
                exact noF bC e rfl
              · exact noF (fun e => Cz e.symm) hz3 z'
              · exact noF (fun e => (offD2 _ (.inr rfl)).1 (.inr (.inr (.inr e.symm)))) hTO3 z'
              · obtain ⟨n, e⟩ := hD
                exact no (k26 _ _ Dz DC (kF _ _ (offD _ (.inl rfl)).1 e)) z'
              · exact bC z'
            · cases e : H0.get? b with
              | none => rfl
              | some o =>
                have e2 := kH2 b o e
                by_cases bz : b = z
                · exact absurd bz (noF (fun e => Cz e.symm) hz3)
                · exact absurd rfl (no (k26 b o bz bC e2))
        have kk : ∀ b ∈ as, ∀ o, s7.heap.get? b = some o → h8.get? b = some o := fun b hb o e => sb8.extBut b o (fun z' => (ok b hb).1 (.inr (.inl z'))) e
        refine ⟨as, item _ _ _ _ _ it7 kk, fun b hb => ⟨(ok b hb).1, ?_, (ok b hb).2⟩⟩
        obtain ⟨o, e⟩ := e7 b hb
        exact ⟨o, kk b hb o e⟩
end
end K25

set_option Elab.async false
set_option linter.all false
set_option maxRecDepth 100000
set_option maxHeartbeats 4000000
/-! K25, part HK: zip(..) begins -/
namespace K25
open PySem PySem.Spec PyProof.Rows L2 GenW
abbrev zkT (f : Heap → Heap) (i1 : Value) (i2 : Heap → Value) (h : Heap) : Heap := (f h).push { cls := .type "tuple", data := .seq #[i1, i2 h] }
abbrev zkO (f : Heap → Heap) (i1 : Value) (i2 : Heap → Value) (h : Heap) : Heap := (zkT f i1 i2 h).push { cls := .type "tuple", data := .seq #[.none, .none] }
abbrev zkZ (f : Heap → Heap) (i1 : Value) (i2 : Heap → Value) (h : Heap) : Heap := (zkO f i1 i2 h).push { cls := .type "zip", data := .fields #[.none, .bool false, .bool false, .ref (f h).objs.size, .ref (zkT f i1 i2 h).objs.size] }
theorem meets_zk {v1 v2 i1 : Value} {i2 : Heap → Value} {f : Heap → Heap} {H1 H2 : Heap → Prop}
    (B1 : ∀ (prog : Program) (w : World) (A : Around) (E : Value → Shared → Prop) (s : Shared) (Q : Value → Shared → Prop), H1 s.heap → Q i1 s → wpAny (model prog w) A (pyIter v1) Q E s)
    (B2 : ∀ (prog : Program) (w : World) (A : Around) (E : Value → Shared → Prop) (s : Shared) (Q : Value → Shared → Prop), H2 s.heap → Q (i2 s.heap) { s with heap := f s.heap } → wpAny (model prog w) A (pyIter v2) Q E s) :
    Meets (Builtin.«zip.__new__» ⟨[.type "zip", v1, v2], []⟩) (fun _ R s => (H1 s.heap ∧ H2 s.heap) ∧ R (.ok (.ret (.ref (zkO f i1 i2 s.heap).objs.size))) { s with heap := zkZ f i1 i2 s.heap }) :=
  .of_wp fun prog w A R s h => by
    obtain ⟨hp, g, d, tk, os⟩ := s; obtain ⟨⟨h1, h2⟩, h⟩ := h
    have hsub := sub_zip
    have q1 : ∀ {A' : Around} {E : Value → Shared → Prop} {Q : Value → Shared → Prop}, Q i1 ⟨hp, g, d, tk, os⟩ → wpAny (model prog w) A' (pyIter v1) Q E ⟨hp, g, d, tk, os⟩ :=
      fun q => B1 prog w _ _ ⟨hp, g, d, tk, os⟩ _ h1 q
    have q2 : ∀ {A' : Around} {E : Value → Shared → Prop} {Q : Value → Shared → Prop}, Q (i2 hp) ⟨f hp, g, d, tk, os⟩ → wpAny (model prog w) A' (pyIter v2) Q E ⟨hp, g, d, tk, os⟩ :=
      fun q => B2 prog w _ _ ⟨hp, g, d, tk, os⟩ _ h2 q
    wp_walk using q1, q2
    exact ⟨_, rfl, h⟩
section
variable {prog : Program} {w : World} {A : Around} {E : Value → Shared → Prop} {s : Shared}
theorem call_zk {v1 v2 : Value} {i1 : Value} {i2 : Heap → Value} {f : Heap → Heap} {H1 H2 : Heap → Prop} {Q : Value → Shared → Prop}
    (B1 : ∀ (prog : Program) (w : World) (A : Around) (E : Value → Shared → Prop) (s : Shared) (Q : Value → Shared → Prop), H1 s.heap → Q i1 s → wpAny (model prog w) A (pyIter v1) Q E s)
    (B2 : ∀ (prog : Program) (w : World) (A : Around) (E : Value → Shared → Prop) (s : Shared) (Q : Value → Shared → Prop), H2 s.heap → Q (i2 s.heap) { s with heap := f s.heap } → wpAny (model prog w) A (pyIter v2) Q E s)
    (h1 : H1 s.heap) (h2 : H2 s.heap)
    (h : ∀ z TI TO h', IsZip h' z TI TO .none → IsPair h' TI i1 (i2 s.heap) → IsPair h' TO .none .none → (∀ c o, (f s.heap).get? c = some o → h'.get? c = some o) → (f s.heap).objs.size ≤ TI → TI < TO → TO < z → Q (.ref z) { s with heap := h' }) :
    wpAny (model prog w) A (call (.type "zip") [v1, v2]) Q E s := by
  refine callType_new F.called_zip (by decide) (F.typeCall_zip_2 _ _) (F.newCall_zip_2 _ _) (fun obj => F.args_object_init_3 obj _ _) F.entry_zip_new (meets_zk B1 B2) ⟨⟨h1, h2⟩, ?_⟩
  have gZ : (zkZ f i1 i2 s.heap).get? (zkO f i1 i2 s.heap).objs.size = some { cls := .type "zip", data := .fields #[.none, .bool false, .bool false, .ref (f s.heap).objs.size, .ref (zkT f i1 i2 s.heap).objs.size] } := Heap.get?_push_size _ rfl
  have gO : (zkZ f i1 i2 s.heap).get? (zkT f i1 i2 s.heap).objs.size = some { cls := .type "tuple", data := .seq #[.none, .none] } := Heap.get?_push_of_some _ (Heap.get?_push_size _ rfl)
  have gT : (zkZ f i1 i2 s.heap).get? (f s.heap).objs.size = some { cls := .type "tuple", data := .seq #[i1, i2 s.heap] } := Heap.get?_push_of_some _ (Heap.get?_push_of_some _ (Heap.get?_push_size _ rfl))
  show _ ∧ _
  exact ⟨⟨_, gZ, rfl⟩, h _ _ _ _ gZ gT gO (fun c o e => Heap.get?_push_of_some _ (Heap.get?_push_of_some _ (Heap.get?_push_of_some _ e))) (Nat.le_refl _) (by rw [Heap.size_push]; exact Nat.lt_succ_self _) (by rw [Heap.size_push (h := zkT f i1 i2 s.heap)]; exact Nat.lt_succ_self _)⟩
end
end K25

set_option Elab.async false
set_option linter.all false
set_option maxRecDepth 100000
set_option maxHeartbeats 4000000
/-! K25, part HL: y = [elt for a, b in zip(..)] over the abstract heap -/
namespace K25
open PySem PySem.Spec PyProof.Rows L2 GenW
/-- what stands where a zip of two sources has begun (s1: the last state that the abstract heap H1 tells) -/
def ZipAt (X : Cx) (pins : List (Addr × Obj)) (σ : L2.St) (elt : Expr) (scope : Scope) (nm1 nm2 : PySem.Str) (i : Nat) (D : Ends) (v : Value) (s2 : Shared) : Prop :=
  ∃ (H1 : Hp) (s1 : Shared) (z TI TO i1 i2 : Addr) (g1 g2 : Nat → Prop) (Y1 Y2 : Nat → Value → Heap → Prop) (D1 D2 : Nat → (Addr → Prop) → Shared → Prop) (N1 N2 : Nat) (F1 F2 : Addr → Prop) (Item : Nat → List Addr → Heap → Value → Prop),
    v = .ref z ∧ Inv X pins σ H1 s1 ∧ Keep s1.heap s2.heap ∧ s1.heap.objs.size ≤ s2.heap.objs.size ∧ AllBare s2.gens ∧ s2.os = s1.os ∧
    Srz X.prog X.w s1.heap X.A.in1 i1 g1 Y1 D1 ∧ Srz X.prog X.w s1.heap X.A.in1 i2 g2 Y2 D2 ∧ (∀ i, g1 i → ¬ g2 i) ∧ min N1 N2 ≤ sizeLine ∧
    (∀ i as h h' u, Item i as h u → (∀ b ∈ as, ∀ o, h.get? b = some o → h'.get? b = some o) → Item i as h' u) ∧
    (∀ C i v1 v2 sT m, i < N1 → i < N2 → Y1 (N1 - (i + 1)) v1 sT.heap → Y2 (N2 - (i + 1)) v2 sT.heap → sT.heap.Ns C m → m nm1 = some v1 → m nm2 = some v2 → ∀ (Q : Value → Shared → Prop) (E : Value → Shared → Prop),
      (∀ u s' as, Step No sT s' → Item i as s'.heap u → (∀ b ∈ as, (v1 = .ref b ∨ v2 = .ref b) ∨ sT.heap.objs.size ≤ b) → (∀ b ∈ as, ∃ o, s'.heap.get? b = some o) → Q u s') → wpAny (model X.prog X.w) X.A (eval elt (compEnvC scope [] C X.env)) Q E sT) ∧
    Zst z TI TO i1 i2 .none D1 D2 N1 N2 F1 F2 s2 ∧ (∀ b, ZF F1 F2 z TO b → s1.heap.get? b = none) ∧
    (∀ s' ys Dl C, Keep s1.heap s'.heap → AllBare s'.gens → s'.os = s1.os → s1.heap.objs.size ≤ Dl → s1.heap.objs.size ≤ C → Dl ≠ C → s'.heap.PlainList Dl ys.toArray → ys.length = min N1 N2 → Outs s1.heap Item (fun b => b = Dl ∨ b = C) s'.heap ys → ∃ H2, Inv X pins σ H2 s' ∧ H2 C = none ∧ D.nx (σ.set i (some (.ref Dl))) H2)
section
variable {X : Cx} {pins : List (Addr × Obj)} {σ : L2.St} {H : Hp} {s : Shared}
theorem exec_zip {y nm1 nm2 : PySem.Str} {py p1 p2 pt pos spos : Pos} {ttl i : Nat} {elt iter : Expr} {scope : Scope} {D : Ends} (hc : X.calm = true) (hN : X.N.Nodup) (hy : X.N[i]? = some y) (hyl : X.env.scope.names.lookup y = some .local)
    (hsw : swapsWith (.ListComp elt [⟨.Tuple [.Name nm1 p1, .Name nm2 p2] ttl pt, iter, [], 0⟩] scope pos) (some (.Name y py)) spos.line X.env = pure true) (hkind : scope.kind = .function) (hnames : ∀ z ∈ scope.names, z.2 = .local) (hlk : ∀ z ∈ scope.names, scope.names.lookup z.1 = some .local)
    (l1 : scope.names.lookup nm1 = some .local) (l2 : scope.names.lookup nm2 = some .local) (ne : nm1 ≠ nm2)
    (h : wpAny (model X.prog X.w) X.A (eval iter X.env) (ZipAt X pins σ elt scope nm1 nm2 i D) X.xe s)
    (hs : ∀ x, foldedSetIterable iter X.env x = pure x := by intro _; rfl) :
    wpAny (model X.prog X.w) X.A (exec (.Assign [.Name y py] (.ListComp elt [⟨.Tuple [.Name nm1 p1, .Name nm2 p2] ttl pt, iter, [], 0⟩] scope pos) spos) X.env) (SP X pins D) X.xe s := by
  have clos : closureFor scope X.env = pure [] := by
    rw [closure_ok fun y hy e => by rw [hnames y hy] at e; cases e]
    have : ∀ (l : List (PySem.Str × NameKind)) acc, (∀ z ∈ l, z.2 = .local) → cloFrom X.env.cells l acc = acc := by
      intro l
      induction l with
      | nil => intro acc _; rfl
      | cons a l ih =>
        intro acc hz
        obtain ⟨n, k⟩ := a
        have : k = .local := hz _ (.head _)
        subst this
        exact ih acc fun z hz' => hz z (.tail _ hz')
    rw [this _ _ hnames]
  rw [exec_Assign_Name_used _ _ _ _ hsw]
  refine wpAny_bind (wpAny_standAt (wpAny_bind ?_))
  show wpAny _ X.A (do let _ ← comprehension (.ListComp elt [⟨.Tuple [.Name nm1 p1, .Name nm2 p2] ttl pt, iter, [], 0⟩] scope pos) scope X.env _ (newList []) false (eval iter X.env) (some (assign (.Name y py) X.env))) _ _ s
  refine wpAny_bind (wpAny_mono (comprehension_at (use := some (assign (.Name y py) X.env)) (Q := fun _ s' => SP X pins D .next s') rfl hs clos hkind (fun z hz e => hlk z hz) (thn h fun xv s2 hz => ?_)) (fun _ s' hq => wpAny_pure (wpAny_pure hq)) fun _ _ e => e)
  obtain ⟨H1, s1, z, TI, TO, i1, i2, g1, g2, Y1, Y2, D1, D2, N1, N2, F1, F2, Item, rfl, I1, k12, sz12, hb2, os2, S1, S2, hg, hmin, item, helt, Z, far, fin⟩ := hz
  refine wpAny_pyIter_zip Z.zip ?_
  refine wpAny_newObj_type (wpAny_newFunctionEnv (fun z hz e => by rw [hnames z hz] at e; cases e) (by intro y hy; simp at hy) (fun h₁ hns₁ hsb₁ => ?_) hkind)
  dsimp only at hns₁ hsb₁ ⊢
  generalize hH2 : s2.heap.push { cls := .type "list", dict := none, data := .seq ([] : List Value).toArray } = H2 at hns₁ hsb₁ ⊢
  have hC : H2.objs.size = s2.heap.objs.size + 1 := by rw [← hH2, Heap.size_push]
  have hDC : s2.heap.objs.size ≠ H2.objs.size := by rw [hC]; exact Nat.ne_of_lt (Nat.lt_succ_self _)
  have old : ∀ b o, s2.heap.get? b = some o → h₁.get? b = some o := fun b o e => hsb₁.extBut b o (by rw [hC]; exact Nat.ne_of_lt (Nat.lt_succ_of_lt (Heap.lt_size e))) (Heap.get?_push_of_some _ (hH2 ▸ Heap.get?_push_of_some _ e))
  have hacc : h₁.PlainList s2.heap.objs.size #[] := ⟨_, hsb₁.extBut _ _ hDC (Heap.get?_push_of_some _ (hH2 ▸ Heap.get?_push_size _ rfl))⟩
  have Cge : s1.heap.objs.size ≤ H2.objs.size := by omega
  have kcls : ∀ C, ((compEnvC scope [] C X.env).scope.kind == .class || ((compEnvC scope [] C X.env).scope.kind == .module && (compEnvC scope [] C X.env).locals != (compEnvC scope [] C X.env).globals)) = false := fun C => by
    have : (compEnvC scope [] C X.env).scope.kind = .function := by
      show (relabel scope X.env).kind = _
      rw [show (relabel scope X.env).kind = scope.kind from rfl, hkind]
    rw [this]
    rfl
  have live : ∀ b, s2.heap.objs.size ≤ b → ∀ o, s2.heap.get? b ≠ some o := fun b hb o e => absurd (Nat.lt_of_lt_of_le (Heap.lt_size e) hb) (Nat.lt_irrefl _)
  have Z1 : Zst z TI TO i1 i2 .none D1 D2 N1 N2 F1 F2 { s2 with heap := h₁, toks := s2.toks + ([] : List (PySem.Str × Value)).length } := Zst.stay S1 S2 Z (fun b o _ e => old b o e) rfl
  have ex2 : ∀ b, ZF F1 F2 z TO b ∨ b = TI → ∃ o, s2.heap.get? b = some o := fun b hb => by
    obtain ⟨hz, hTI, ⟨a0, b0, hTO⟩, d1, d2, r1, r2, r3, r4⟩ := Z
    rcases hb with (q | q | q | q) | q
    · exact S1.there _ _ _ b d1 q
    · exact S2.there _ _ _ b d2 q
    · exact ⟨_, q ▸ hz⟩
    · exact ⟨_, q ▸ hTO⟩
    · exact ⟨_, q ▸ hTI⟩
  have loop : ∀ s₃ : Shared, s₃ = { s2 with heap := h₁, toks := s2.toks + ([] : List (PySem.Str × Value)).length } →
      codeAny (model X.prog X.w) X.A (.compLoop (.ListComp elt [⟨.Tuple [.Name nm1 p1, .Name nm2 p2] ttl pt, iter, [], 0⟩] scope pos) 0 (.ref z) (.ref s2.heap.objs.size) (compEnvC scope [] H2.objs.size X.env))
        (compEnds (model X.prog X.w) X.A X.xe (some (assign (.Name y py) X.env)) (fun _ s' => SP X pins D .next s') (.ref s2.heap.objs.size) (compEnvC scope [] H2.objs.size X.env)) s₃ := by
    rintro s₃ rfl
    refine zip_loop (H0 := s1.heap) (D := s2.heap.objs.size) (I1.ok.hd hc) (kcls _) (lookup_relabel_local l1) (lookup_relabel_local l2) ne S1 S2 hg hmin item (helt _) Z1 (fun b o e => old b o (k12 b o e)) (fun b hb => ?_) (fun b hb => ⟨fun q => ?_, fun q => ?_⟩) hDC hb2 hns₁ hacc fun s' ys m kH hb os hn hD len outs => ?_
    · rcases hb with q | q | q
      · exact far b q
      · rw [q]; exact Heap.get?_none_of_le sz12
      · rw [q]; exact Heap.get?_none_of_le Cge
    · obtain ⟨o, e⟩ := ex2 b (.inl q)
      rcases hb with q | q
      · exact live b (by rw [q]; exact Nat.le_refl _) o e
      · exact live b (by rw [q]; show _ ≤ H2.objs.size; omega) o e
    · obtain ⟨o, e⟩ := ex2 b (.inr q)
      rcases hb with q | q
      · exact live b (by rw [q]; exact Nat.le_refl _) o e
      · exact live b (by rw [q]; show _ ≤ H2.objs.size; omega) o e
    · obtain ⟨Hn, In, hCn, nx⟩ := fin s' ys s2.heap.objs.size H2.objs.size kH hb (os.trans os2) sz12 Cge hDC hD len outs
      show wpAny _ _ (assign (.Name y py) X.env (.ref s2.heap.objs.size)) _ _ _
      refine wpAny_assign_Name (store_ok2 (v := V.ref s2.heap.objs.size) In hN hy (.inl hyl) rfl (fun s4 I4 ⟨a, sb, ha⟩ => ?_) (.inr hyl))
      obtain ⟨f0, f1, f2, f3, f4, f5⟩ := I1.fpOk Cge hCn
      have haC : H2.objs.size ≠ a := by
        rcases ha with q | q
        · rw [q]; exact f1
        · exact fun e => f4 y a q e.symm
      refine ⟨m, hn.sameBut sb haC, fun h3 sb3 => ?_⟩
      exact ⟨_, Hn, I4.turned (t' := s4.toks) (fun b o hb e => (sb3.2 b hb).trans e) f0 f1 f3 f4 f5, nx⟩
  exact codeAny_compStart_list (loop _ rfl) (wpAny_pyIter_zip Z1.zip (loop _ rfl))
end
end K25

set_option Elab.async false
set_option linter.all false
set_option maxRecDepth 100000
set_option maxHeartbeats 4000000
/-! K25, part HM: the two comprehensions over zip(ways(..), ..) -/
namespace K25
open PySem PySem.Spec PyProof.Rows L2 GenW
section
variable {X : Cx} {pins : List (Addr × Obj)} {σ : L2.St} {H : Hp} {s s' : Shared}
/-- new things are told -/
theorem Inv.lay (I : Inv X pins σ H s) (os : s'.os = s.os) (hb : AllBare s'.gens) (k : Keep s.heap s'.heap) (New : Addr → HO → Prop) (fn : ∀ b u u', New b u → New b u' → u = u') (far : ∀ b u, New b u → s.heap.get? b = none)
    (ok : ∀ H2 : Hp, (∀ b u, New b u → H2 b = some u) → ∀ b u, New b u → ObjOk X.prog X.w H2 s'.heap b u) : ∃ H2, Same H H2 ∧ (∀ b u, New b u → H2 b = some u) ∧ (∀ b, (∀ u, ¬ New b u) → H2 b = H b) ∧ Inv X pins σ H2 s' := by
  classical
  let H2 : Hp := fun b => if h : ∃ u, New b u then some h.choose else H b
  have at2 : ∀ b u, New b u → H2 b = some u := fun b u n => by
    have h : ∃ u, New b u := ⟨u, n⟩
    show (if h : ∃ u, New b u then some h.choose else H b) = _
    rw [dif_pos h, fn _ _ _ h.choose_spec n]
  have no : ∀ b, (∀ u, ¬ New b u) → H2 b = H b := fun b n => dif_neg fun ⟨u, h⟩ => n u h
  have chg : ∀ b, H2 b ≠ H b → ∃ u, New b u := fun b hb => Classical.byContradiction fun q => hb (no b fun u n => q ⟨u, n⟩)
  refine ⟨H2, fun b o e => ?_, at2, no, K25.Inv.grown I os hb k (fun b hb => ?_) fun b u e n => ?_⟩
  · rcases Classical.em (H2 b = H b) with q | q
    · rw [q]; exact e
    · obtain ⟨u, n⟩ := chg b q
      rw [hok_none I.hok (far b u n)] at e; cases e
  · obtain ⟨u, n⟩ := chg b hb
    exact far b u n
  · obtain ⟨u', n'⟩ := chg b (by rw [e, n]; exact fun q => by cases q)
    have := at2 b u' n'
    rw [e] at this
    cases this
    exact ok H2 at2 b u n'
/-- names as arguments: nothing changes -/
theorem args_var {E : Value → Shared → Prop} {Q : List Value → Shared → Prop} (I : Inv X pins σ H s) {x : PySem.Str} {p pos : Pos} {i : Nat} {v : V} {es : List Expr} (hN : X.N[i]? = some x) (hv : Vis X.env.scope x) (e : σ[i]? = some (some v)) (h : ∀ u, RelV v u → wpAny (model X.prog X.w) X.A (spliced (backTo pos (starEach es X.env))) (fun us s' => Q (u :: us) s') E s)
    (he : starEach (.Name x p :: es) X.env = (false, eval (.Name x p) X.env) :: starEach es X.env := by rfl) (hd : (x == ("__debug__" : PySem.Str)) = false := by decide) (hcd : (x == ("__classdict__" : PySem.Str)) = false := by decide) : wpAny (model X.prog X.w) X.A (spliced (backTo pos (starEach (.Name x p :: es) X.env))) Q E s := by
  rw [he]
  refine Calls.spliced_cons ?_
  obtain ⟨m, hn, hl⟩ := I.loc
  obtain ⟨u, r, l⟩ := hl i x v hN e hv
  rcases l with ⟨hk, hm⟩ | ⟨hk, c, hc, hcell⟩
  · exact wpAny_Name (wpAny_loadName_local I.ok.kind hk hn hm (h u r)) hd
  · rcases hk with hk | hk
    · exact wpAny_Name (wpAny_loadName_cell I.ok.kind hk hc hcell (h u r)) hd
    · exact wpAny_Name (wpAny_loadName_free I.ok.kind hk hc hcell (h u r) hcd) hd
theorem Inv.made {X : Cx} {pins : List (Addr × Obj)} {σ : L2.St} {H : Hp} {s s' : Shared} (I : Inv X pins σ H s) (gm : GMake s s') : Inv X pins σ H s' :=
  K25.Inv.grown I gm.os (gm.bare I.bare) gm.keep (fun b hb => absurd rfl hb) fun b u e n => by rw [n] at e; cases e
variable {C f a : Addr} {fd : FuncData} {k : Nat} {T : Tbl} {x y : PySem.Str}
/-- ways(n1, n2, n3), the arguments plain names -/
theorem eval_waysN {x1 x2 x3 : PySem.Str} {p1 p2 p3 pp pos2 : Pos} {j1 j2 j3 : Nat} {R : Value → Shared → Prop} {E : Value → Shared → Prop} (W : WaysFn X.prog X.w X.K X.mg X.base C k f fd) (hr : Room (k + 4) X.A) (I : Inv X pins σ H s) (gw : Gl X "ways")
    (n1 : X.N[j1]? = some x1) (n2 : X.N[j2]? = some x2) (n3 : X.N[j3]? = some x3) (v1 : Vis X.env.scope x1) (v2 : Vis X.env.scope x2) (v3 : Vis X.env.scope x3) (e1 : σ[j1]? = some (some (.ref a))) (e2 : σ[j2]? = some (some (.str x))) (e3 : σ[j3]? = some (some (.str y)))
    (d1 : (x1 == ("__debug__" : PySem.Str)) = false) (c1 : (x1 == ("__classdict__" : PySem.Str)) = false) (d2 : (x2 == ("__debug__" : PySem.Str)) = false) (c2 : (x2 == ("__classdict__" : PySem.Str)) = false) (d3 : (x3 == ("__debug__" : PySem.Str)) = false) (c3 : (x3 == ("__classdict__" : PySem.Str)) = false)
    (hC : ChoH C H a T) (tok : TOk T) (hx : Known T x) (hy : Known T y)
    (hq : ∀ ga env s2, GMake s s2 → s.heap.objs.size ≤ ga → (∀ b, Own env b → s.heap.objs.size ≤ b) → (∀ Aw, Room (k + 1) Aw → Live X.prog X.w X.base env (wall T x y) Aw (fun h => Cho X.prog X.w C h a T) (wall T x y).length ga s.gens.size (Own env) s2) → R (.ref ga) s2) :
    wpAny (model X.prog X.w) X.A (eval (.Call (.Name "ways" pp) [.Name x1 p1, .Name x2 p2, .Name x3 p3] [] pos2) X.env) R E s := by
  refine wpAny_Call_Name_kw (ld_glob I gw W.at_ ?_)
  refine PySem.W.callWith_K (h₀ := X.base) I.ok.mod.kin W.kp (args_var I n1 v1 e1 (fun u1 r1 => args_var I n2 v2 e2 (fun u2 r2 => args_var I n3 v3 e3 (fun u3 r3 => Calls.spliced_nil ⟨I.kIn, ?_⟩) rfl d3 c3) rfl d2 c2) rfl d1 c1) rfl rfl
  cases (show u1 = Value.ref a from r1)
  have hb := W.bs s [.ref a, u2, u3] I.kIn rfl
  exact run_ways W I (hr.mono (by omega)) hb hC tok hx hy r2 r3 fun ga env s2 gm h1 h2 live => hq ga env s2 gm h1 h2 live
end
end K25

set_option Elab.async false
set_option linter.all false
set_option maxRecDepth 100000
set_option maxHeartbeats 4000000
/-! K25, part HN: pairs = [[a, b] for a, b in zip(ways(..), ways(..))] -/
namespace K25
open PySem PySem.Spec PyProof.Rows L2 GenW
/-- a list of pairs of equal rows, all apart -/
def PairsH (H : Hp) (S : Addr) (rows : List (List PySem.Str)) : Prop := ∃ ls : List Addr, H S = some (.lst (ls.map V.ref)) ∧ Paired (fun (row : List PySem.Str) (l : Addr) => ∃ l1 l2, H l = some (.lst [.ref l1, .ref l2]) ∧ H l1 = some (.lst (row.map V.str)) ∧ H l2 = some (.lst (row.map V.str))) rows ls
/-- a raw list of two things -/
abbrev Two (h : Heap) (a : Addr) (u v : Value) : Prop := ∃ n, h.get? a = some { cls := .type "list", dict := none, data := .seq #[u, v] n, slots := #[] }
def ItemP (all : List (List PySem.Str)) : Nat → List Addr → Heap → Value → Prop := fun j as h u => ∃ a l1 l2 way, as = [a, l1, l2] ∧ u = .ref a ∧ all[j]? = some way ∧ Two h a (.ref l1) (.ref l2) ∧ TxL h l1 way ∧ TxL h l2 way
theorem paired_of {α β : Type} {R : α → β → Prop} : ∀ {xs : List α} {ys : List β}, xs.length = ys.length → (∀ (i : Nat) x y, xs[i]? = some x → ys[i]? = some y → R x y) → Paired R xs ys
  | [], [], _, _ => .nil
  | x :: xs, y :: ys, e, h => .cons (h 0 x y rfl rfl) (paired_of (by simpa using e) fun i x y a b => h (i + 1) x y a b)
  | [], _ :: _, e, _ => by cases e
  | _ :: _, [], e, _ => by cases e
section
variable {X : Cx} {pins : List (Addr × Obj)} {σ : L2.St} {H : Hp} {s s' : Shared}
theorem Inv.pairs (I : Inv X pins σ H s) (os : s'.os = s.os) (hb : AllBare s'.gens) (k : Keep s.heap s'.heap) {D C : Addr} {ys : List Value} {all : List (List PySem.Str)} (hD : s'.heap.PlainList D ys.toArray) (newD : s.heap.get? D = none) (newC : s.heap.get? C = none) (DC : D ≠ C)
    (len : ys.length = all.length) (outs : Outs s.heap (ItemP all) (fun b => b = D ∨ b = C) s'.heap ys) (z1 : all.length ≤ sizeLine) (z2 : ∀ r ∈ all, r.length ≤ sizeLine) : ∃ H2, Same H H2 ∧ PairsH H2 D all ∧ H2 C = none ∧ H D = none ∧ Inv X pins σ H2 s' := by
  obtain ⟨nD, eD⟩ := hD
  -- the pairs' own addresses
  have get : ∀ j (hj : j < ys.length), ∃ a l1 l2 way, ys[j]? = some (.ref a) ∧ all[j]? = some way ∧ Two s'.heap a (.ref l1) (.ref l2) ∧ TxL s'.heap l1 way ∧ TxL s'.heap l2 way ∧ ∀ b, b = a ∨ b = l1 ∨ b = l2 → b ≠ D ∧ b ≠ C ∧ s.heap.get? b = none := fun j hj => by
    obtain ⟨as, ⟨a, l1, l2, way, rfl, e, h1, h2, h3, h4⟩, q⟩ := outs j ys[j] (List.getElem?_eq_getElem hj)
    refine ⟨a, l1, l2, way, by rw [List.getElem?_eq_getElem hj, e], h1, h2, h3, h4, fun b hb => ?_⟩
    have : b ∈ [a, l1, l2] := by rcases hb with rfl | rfl | rfl <;> simp
    obtain ⟨n, _, m⟩ := q b this
    exact ⟨fun e => n (.inl e), fun e => n (.inr e), m⟩
  let ls : List Addr := ys.map fun u => match u with | .ref a => a | _ => 0
  have ysr : ys = ls.map Value.ref := by
    refine List.ext_getElem? fun j => ?_
    rw [List.getElem?_map, List.getElem?_map]
    by_cases hj : j < ys.length
    · obtain ⟨a, l1, l2, way, e, _⟩ := get j hj
      rw [e]
      rfl
    · rw [List.getElem?_eq_none (Nat.le_of_not_lt hj)]
      rfl
  let New : Addr → HO → Prop := fun b u => (b = D ∧ u = .lst (ls.map V.ref)) ∨ (∃ (l1 l2 : Addr) (way : List PySem.Str) (j : Nat), ys[j]? = some (.ref b) ∧ all[j]? = some way ∧ Two s'.heap b (.ref l1) (.ref l2) ∧ u = .lst [.ref l1, .ref l2]) ∨ (∃ (way : List PySem.Str) (j : Nat) (a l1 l2 : Addr), ys[j]? = some (.ref a) ∧ all[j]? = some way ∧ Two s'.heap a (.ref l1) (.ref l2) ∧ TxL s'.heap l1 way ∧ TxL s'.heap l2 way ∧ (b = l1 ∨ b = l2) ∧ u = .lst (way.map V.str))
  have two_inj : ∀ {b : Addr} {u v u' v' : Value}, Two s'.heap b u v → Two s'.heap b u' v' → u = u' ∧ v = v' := fun {b u v u' v'} ⟨n, e⟩ ⟨m, e'⟩ => by
    rw [e] at e'
    have := (Data.seq.inj (congrArg Obj.data (Option.some.inj e'))).1
    have := congrArg Array.toList this
    simp only at this
    cases this
    exact ⟨rfl, rfl⟩
  have two_txl : ∀ {b l1 l2 : Addr} {way : List PySem.Str}, Two s'.heap b (.ref l1) (.ref l2) → TxL s'.heap b way → False := fun {b l1 l2 way} ⟨n, e⟩ ⟨its, p, m, e'⟩ => by
    rw [e] at e'
    have := (Data.seq.inj (congrArg Obj.data (Option.some.inj e'))).1
    have : [Value.ref l1, .ref l2] = its := by
      have := congrArg Array.toList this
      simpa using this
    subst this
    cases p with
    | cons h _ =>
      obtain ⟨t, e⟩ := h
      cases e
  have pick : ∀ {j : Nat} {a : Addr}, ys[j]? = some (.ref a) → ∃ l1 l2 way, all[j]? = some way ∧ Two s'.heap a (.ref l1) (.ref l2) ∧ TxL s'.heap l1 way ∧ TxL s'.heap l2 way ∧ ∀ b, b = a ∨ b = l1 ∨ b = l2 → b ≠ D ∧ b ≠ C ∧ s.heap.get? b = none := fun {j a} e => by
    obtain ⟨a', l1, l2, way, e', h⟩ := get j (List.getElem?_eq_some_iff.mp e).1
    rw [e] at e'
    cases e'
    exact ⟨l1, l2, way, h⟩
  have leaf : ∀ {b : Addr} {way : List PySem.Str} {j : Nat} {a l1 l2 : Addr}, ys[j]? = some (.ref a) → all[j]? = some way → Two s'.heap a (.ref l1) (.ref l2) → TxL s'.heap l1 way → TxL s'.heap l2 way → (b = l1 ∨ b = l2) → TxL s'.heap b way ∧ b ≠ D ∧ b ≠ C ∧ s.heap.get? b = none := fun {b way j a l1 l2} h1 h2 h3 h4 h5 hb => by
    obtain ⟨l1', l2', way', q1, q2, q3, q4, q5⟩ := pick h1
    obtain ⟨e1, e2⟩ := two_inj h3 q2
    cases e1
    cases e2
    rcases hb with rfl | rfl
    · exact ⟨h4, q5 _ (.inr (.inl rfl))⟩
    · exact ⟨h5, q5 _ (.inr (.inr rfl))⟩
  have okN : ∀ b u, New b u → b ≠ C ∧ s.heap.get? b = none := fun b u n => by
    rcases n with ⟨rfl, _⟩ | ⟨l1, l2, way, j, h1, h2, h3, _⟩ | ⟨way, j, a, l1, l2, h1, h2, h3, h4, h5, hb, _⟩
    · exact ⟨DC, newD⟩
    · obtain ⟨_, _, _, _, _, _, _, q⟩ := pick h1
      exact (q b (.inl rfl)).2
    · exact (leaf h1 h2 h3 h4 h5 hb).2.2
  obtain ⟨H2, sm, at2, no, I2⟩ := K25.Inv.lay I os hb k New (fun b u u' n n' => by
      rcases n with ⟨rfl, rfl⟩ | ⟨l1, l2, way, j, h1, h2, h3, rfl⟩ | ⟨way, j, a, l1, l2, h1, h2, h3, h4, h5, hb, rfl⟩ <;> rcases n' with ⟨e, rfl⟩ | ⟨l1', l2', way', j', h1', h2', h3', rfl⟩ | ⟨way', j', a', l1', l2', h1', h2', h3', h4', h5', hb', rfl⟩
      · rfl
      · obtain ⟨_, _, _, _, _, _, _, q⟩ := pick h1'
        exact absurd rfl (q b (.inl rfl)).1
      · exact absurd rfl (leaf h1' h2' h3' h4' h5' hb').2.1
      · obtain ⟨_, _, _, _, _, _, _, q⟩ := pick h1
        exact absurd e (q b (.inl rfl)).1
      · obtain ⟨e1, e2⟩ := two_inj h3 h3'
        cases e1
        cases e2
        rfl
      · exact (two_txl h3 (leaf h1' h2' h3' h4' h5' hb').1).elim
      · exact absurd e (leaf h1 h2 h3 h4 h5 hb).2.1
      · exact (two_txl h3' (leaf h1 h2 h3 h4 h5 hb).1).elim
      · rw [txl_inj (leaf h1 h2 h3 h4 h5 hb).1 (leaf h1' h2' h3' h4' h5' hb').1])
    (fun b u n => (okN b u n).2) fun H2 at2 b u n => by
      rcases n with ⟨rfl, rfl⟩ | ⟨l1, l2, way, j, h1, h2, ⟨n, h3⟩, rfl⟩ | ⟨way, j, a, l1, l2, h1, h2, h3, h4, h5, hb, rfl⟩
      · refine ⟨by rw [List.length_map, List.length_map, len]; exact z1, ys, nD, ?_, eD⟩
        rw [ysr]
        exact refs_vals ls
      · exact ⟨show 2 ≤ sizeLine by decide, _, n, .cons rfl (.cons rfl .nil), h3⟩
      · obtain ⟨its, p, m, e⟩ := (leaf h1 h2 h3 h4 h5 hb).1
        exact ⟨by rw [List.length_map]; exact z2 way (List.mem_of_getElem? h2), its, m, tx_vals p, e⟩
  refine ⟨H2, sm, ⟨ls, at2 D _ (.inl ⟨rfl, rfl⟩), paired_of (by rw [List.length_map, len]) fun j row l e1 e2 => ?_⟩, ?_, hok_none I.hok newD, I2⟩
  · have e3 : ys[j]? = some (.ref l) := by rw [ysr, List.getElem?_map, e2]; rfl
    obtain ⟨l1, l2, way, q1, q2, q3, q4, q5⟩ := pick e3
    rw [e1] at q1
    cases q1
    exact ⟨l1, l2, at2 l _ (.inr (.inl ⟨l1, l2, row, j, e3, e1, q2, rfl⟩)), at2 l1 _ (.inr (.inr ⟨row, j, l, l1, l2, e3, e1, q2, q3, q4, .inl rfl, rfl⟩)), at2 l2 _ (.inr (.inr ⟨row, j, l, l1, l2, e3, e1, q2, q3, q4, .inr rfl, rfl⟩))⟩
  · rw [no C fun u n => (okN C u n).1 rfl]
    exact hok_none I.hok newC
variable {C f : Addr} {fd : FuncData} {k : Nat}
/-- the pairs' statement -/
def tSetPairs (C : Addr) (j1 j2 j3 i : Nat) : TS := fun D σ H => ∃ a x y T, σ[j1]? = some (some (.ref a)) ∧ σ[j2]? = some (some (.str x)) ∧ σ[j3]? = some (some (.str y)) ∧ ChoH C H a T ∧ TOk T ∧ Known T x ∧ Known T y ∧ (wall T x y).length ≤ sizeLine ∧ ∀ H2 S, Same H H2 → PairsH H2 S (wall T x y) → H S = none → D.nx (σ.set i (some (.ref S))) H2
theorem ps_setPairs {y0 nm1 nm2 x1 x2 x3 : PySem.Str} {py p1 p2 q1 q2 q3 q4 q5 q6 pp1 pp2 pos2 pos3 pz posz pt pos spos n1 n2 pl : Pos} {ttl i j1 j2 j3 : Nat} {scope : Scope} (W : WaysFn X.prog X.w X.K X.mg X.base C k f fd) (hc : X.calm = true) (hr : Room (k + 4) X.A) (hN : X.N.Nodup) (hy : X.N[i]? = some y0) (hyl : X.env.scope.names.lookup y0 = some .local)
    (hsw : swapsWith (.ListComp (.List [.Name nm1 n1, .Name nm2 n2] pl) [⟨.Tuple [.Name nm1 p1, .Name nm2 p2] ttl pt, .Call (.Name "zip" pz) [.Call (.Name "ways" pp1) [.Name x1 q1, .Name x2 q2, .Name x3 q3] [] pos2, .Call (.Name "ways" pp2) [.Name x1 q4, .Name x2 q5, .Name x3 q6] [] pos3] [] posz, [], 0⟩] scope pos) (some (.Name y0 py)) spos.line X.env = pure true)
    (hkind : scope.kind = .function) (hnames : ∀ z ∈ scope.names, z.2 = .local) (hlk : ∀ z ∈ scope.names, scope.names.lookup z.1 = some .local) (l1 : scope.names.lookup nm1 = some .local) (l2 : scope.names.lookup nm2 = some .local) (ne : nm1 ≠ nm2)
    (mz : X.mg "zip" = none) (gz : Gl X "zip") (gw : Gl X "ways") (e1 : X.N[j1]? = some x1) (e2 : X.N[j2]? = some x2) (e3 : X.N[j3]? = some x3) (v1 : Vis X.env.scope x1) (v2 : Vis X.env.scope x2) (v3 : Vis X.env.scope x3)
    (dd : ∀ x ∈ [x1, x2, x3, nm1, nm2], (x == ("__debug__" : PySem.Str)) = false ∧ (x == ("__classdict__" : PySem.Str)) = false) :
    PS X (.Assign [.Name y0 py] (.ListComp (.List [.Name nm1 n1, .Name nm2 n2] pl) [⟨.Tuple [.Name nm1 p1, .Name nm2 p2] ttl pt, .Call (.Name "zip" pz) [.Call (.Name "ways" pp1) [.Name x1 q1, .Name x2 q2, .Name x3 q3] [] pos2, .Call (.Name "ways" pp2) [.Name x1 q4, .Name x2 q5, .Name x3 q6] [] pos3] [] posz, [], 0⟩] scope pos) spos) (tSetPairs C j1 j2 j3 i) := by
  refine ⟨fun pins s σ H D I ⟨a, x, y, T, g1, g2, g3, hC, tok, hx, hyk, hz, q⟩ => ?_⟩
  obtain ⟨d1, c1⟩ := dd x1 (by simp)
  obtain ⟨d2, c2⟩ := dd x2 (by simp)
  obtain ⟨d3, c3⟩ := dd x3 (by simp)
  refine exec_zip (σ := σ) hc hN hy hyl hsw hkind hnames hlk l1 l2 ne ?_
  refine wpAny_Call_Name_kw (ld_blt I gz mz PyProof.Rows.boot_zip (PyProof.Rows.callWith_type1 ?_ rfl rfl))
  refine Calls.spliced_cons (eval_waysN W hr I gw e1 e2 e3 v1 v2 v3 g1 g2 g3 d1 c1 d2 c2 d3 c3 hC tok hx hyk fun ga env s2 gm o1 o2 live => ?_)
  have I2 := K25.Inv.made I gm
  refine Calls.spliced_cons (eval_waysN W hr I2 gw e1 e2 e3 v1 v2 v3 g1 g2 g3 d1 c1 d2 c2 d3 c3 hC tok hx hyk fun ga' env' s3 gm' o1' o2' live' => Calls.spliced_nil ?_)
  have hr2 : Room (k + 1) X.A.in1.in1 := (hr.in1.in1).mono (by omega)
  have L0 := live _ hr2
  have L2 := live' _ hr2
  have ltga : ga < s2.heap.objs.size := by
    obtain ⟨o, _, _, e, _⟩ := L0.gen
    exact Heap.lt_size e
  have ltga' : ga' < s3.heap.objs.size := by
    obtain ⟨o, _, _, e, _⟩ := L2.gen
    exact Heap.lt_size e
  have sz2 : s.heap.objs.size ≤ s2.heap.objs.size := by omega
  have gsz : s2.gens.size = s.gens.size + 1 := by
    obtain ⟨_, _, gs, rfl, _⟩ := gm
    exact Array.size_push ..
  have L1 := L0.stay (fun b o _ e => gm'.keep b o e) (gm'.gens (by omega))
  have own2 : ∀ b, Own env b → b < s2.heap.objs.size := fun b hb => by
    obtain ⟨⟨o, e⟩, _⟩ := L0.there b hb
    exact Heap.lt_size e
  have own3 : ∀ b, Own env' b → b < s3.heap.objs.size := fun b hb => by
    obtain ⟨⟨o, e⟩, _⟩ := L2.there b hb
    exact Heap.lt_size e
  refine call_zk (f := id) (i1 := .ref ga) (i2 := fun _ => .ref ga') (H1 := fun h => h.IsGen ga s.gens.size) (H2 := fun h => h.IsGen ga' s2.gens.size) (fun prog w A E s Q h q => wpAny_pyIter_gen h q) (fun prog w A E s Q h q => wpAny_pyIter_gen h q) L1.gen L2.gen fun z TI TO h' hz' hTI hTO kp z1 z2 z3 => ?_
  have z1 : s3.heap.objs.size ≤ TI := z1
  have z2 : @LT.lt Nat _ TI TO := z2
  have z3 : @LT.lt Nat _ TO z := z3
  have far : ∀ b, s.heap.objs.size ≤ b → s.heap.get? b = none := fun b hb => Heap.get?_none_of_le hb
  have S := fun (gx ix : Nat) (envx : Env) => Srz.gen (P := X.prog) (w := X.w) (base := X.base) (H0 := s.heap) (env := envx) (all := wall T x y) (C := C) (a := a) (T := T) (A0 := X.A.in1) (ga := gx) (gi := ix) (I.ok.hd hc) hr.in1.depth I.ok.mod.nolimit I.bk (hC.raw I.hok)
  have k23 := gm'.keep
  refine ⟨H, s, z, TI, TO, ga, ga', _, _, _, _, _, _, (wall T x y).length, (wall T x y).length, (fun b => Own env b ∨ b = ga), (fun b => Own env' b ∨ b = ga'), ItemP (wall T x y), rfl, I, fun b o e => kp b o (k23 b o (gm.keep b o e)), ?_, gm'.bare (gm.bare I.bare), gm'.os.trans gm.os, S ga s.gens.size env, S ga' s2.gens.size env', fun i h1 h2 => ?_, by rw [Nat.min_self]; exact hz, ?_, ?_, ⟨hz', hTI, ⟨_, _, hTO⟩, ⟨_, rfl, L1.stay (fun b o _ e => kp b o e) rfl⟩, ⟨_, rfl, L2.stay (fun b o _ e => kp b o e) rfl⟩, ?_, ?_, ?_, Nat.ne_of_lt (Nat.lt_trans z2 z3), Nat.ne_of_lt z3, Nat.ne_of_lt z2⟩, ?_, ?_⟩
  · show s.heap.objs.size ≤ h'.objs.size
    have : @LT.lt Nat _ z h'.objs.size := Heap.lt_size hz'
    omega
  · have e1 : i = s.gens.size := h1
    have e2 : i = s2.gens.size := h2
    omega
  · rintro i as h h' u ⟨b, m1, m2, way, rfl, rfl, e1, ⟨n, e2⟩, ⟨i1, p1, n1, e3⟩, ⟨i2, p2, n2, e4⟩⟩ kk
    exact ⟨b, m1, m2, way, rfl, rfl, e1, ⟨n, kk _ (by simp) _ e2⟩, ⟨i1, p1, n1, kk _ (by simp) _ e3⟩, ⟨i2, p2, n2, kk _ (by simp) _ e4⟩⟩
  · rintro Cb j u1 u2 sT m hj _ ⟨m1, way, rfl, t1, t2, t3⟩ ⟨m2, way', rfl, t1', t2', t3'⟩ hn hm1 hm2 Q E qq
    have idx : (wall T x y).length - ((wall T x y).length - (j + 1) + 1) = j := by omega
    rw [idx] at t2 t2'
    rw [t2] at t2'
    cases t2'
    have kf : (compEnvC scope [] Cb X.env).scope.kind = .function := by
      show (relabel scope X.env).kind = _
      rw [show (relabel scope X.env).kind = scope.kind from rfl, hkind]
    refine wpAny_List_spliced (Calls.spliced_cons (wpAny_Name (wpAny_loadName_local kf (lookup_relabel_local l1) hn hm1 (Calls.spliced_cons (wpAny_Name (wpAny_loadName_local kf (lookup_relabel_local l2) hn hm2 (Calls.spliced_nil ⟨by show 2 ≤ sizeLine; decide, ?_⟩)) (dd nm2 (by simp)).1))) (dd nm1 (by simp)).1))
    have kk : Keep sT.heap (sT.heap.push { cls := .type "list", data := .seq [Value.ref m1, .ref m2].toArray }) := Keep.push _ _
    refine qq _ _ [sT.heap.objs.size, m1, m2] (.ofK (tk := sT.toks) (d := sT.drawn) kk) ⟨_, m1, m2, way, rfl, rfl, t2, ⟨0, Heap.get?_push_size _ rfl⟩, ?_, ?_⟩ (fun b hb => ?_) fun b hb => ?_
    · obtain ⟨i1, p1, n1, e3⟩ := t3
      exact ⟨i1, p1, n1, kk _ _ e3⟩
    · obtain ⟨i1, p1, n1, e3⟩ := t3'
      exact ⟨i1, p1, n1, kk _ _ e3⟩
    · rcases List.mem_cons.mp hb with rfl | hb
      · exact .inr (Nat.le_refl _)
      · rcases List.mem_cons.mp hb with rfl | hb
        · exact .inl (.inl rfl)
        · rw [List.mem_singleton.mp hb]
          exact .inl (.inr rfl)
    · obtain ⟨i1, p1, n1, e3⟩ := t3
      obtain ⟨i2, p2, n2, e4⟩ := t3'
      rcases List.mem_cons.mp hb with rfl | hb
      · exact ⟨_, Heap.get?_push_size _ rfl⟩
      · rcases List.mem_cons.mp hb with rfl | hb
        · exact ⟨_, kk _ _ e3⟩
        · rw [List.mem_singleton.mp hb]
          exact ⟨_, kk _ _ e4⟩
  · intro b h1 h2
    have lb : @LT.lt Nat _ b s2.heap.objs.size := by
      rcases h1 with h1 | h1
      · exact own2 b h1
      · rw [h1]; exact ltga
    rcases h2 with h2 | h2
    · exact absurd (Nat.lt_of_lt_of_le lb (o2' b h2)) (Nat.lt_irrefl _)
    · rw [h2] at lb; exact absurd (Nat.lt_of_lt_of_le lb o1') (Nat.lt_irrefl _)
  · intro b hb h1
    have lb : @LT.lt Nat _ b s2.heap.objs.size := by
      rcases h1 with h1 | h1
      · exact own2 b h1
      · rw [h1]; exact ltga
    rcases hb with hb | hb | hb <;> rw [hb] at lb <;> omega
  · intro b hb h1
    have lb : @LT.lt Nat _ b s3.heap.objs.size := by
      rcases h1 with h1 | h1
      · exact own3 b h1
      · rw [h1]; exact ltga'
    rcases hb with hb | hb | hb <;> rw [hb] at lb <;> omega
  · intro b hb
    refine far b ?_
    rcases hb with (hb | hb) | (hb | hb) | hb | hb
    · exact o2 b hb
    · rw [hb]; omega
    · exact Nat.le_trans sz2 (o2' b hb)
    · rw [hb]; omega
    · rw [hb]; omega
    · rw [hb]; omega
  · intro s' ys Dl Cc kH hb os d1 c1 DC hpl len outs
    rw [Nat.min_self] at len
    obtain ⟨H2, sm, ph, hC2, hS, I2⟩ := K25.Inv.pairs I os hb kH hpl (far _ d1) (far _ c1) DC len outs hz fun r hr => Nat.le_trans (wall_short tok hx r hr) (by decide)
    exact ⟨H2, I2, hC2, q H2 Dl sm ph hS⟩
end
end K25

set_option Elab.async false
set_option linter.all false
set_option maxRecDepth 100000
set_option maxHeartbeats 4000000
/-! K25, part HO: found = [a for a, k in zip(ways(..), range(3))] -/
namespace K25
open PySem PySem.Spec PyProof.Rows L2 GenW
def ItemF (all : List (List PySem.Str)) : Nat → List Addr → Heap → Value → Prop := fun j as h u => ∃ l way, as = [l] ∧ u = .ref l ∧ all[j]? = some way ∧ TxL h l way
section
variable {X : Cx} {pins : List (Addr × Obj)} {σ : L2.St} {H : Hp} {s s' : Shared}
theorem Inv.founds (I : Inv X pins σ H s) (os : s'.os = s.os) (hb : AllBare s'.gens) (k : Keep s.heap s'.heap) {D C : Addr} {ys : List Value} {all : List (List PySem.Str)} (hD : s'.heap.PlainList D ys.toArray) (newD : s.heap.get? D = none) (newC : s.heap.get? C = none) (DC : D ≠ C)
    {n : Nat} (len : ys.length = (all.take n).length) (outs : Outs s.heap (ItemF all) (fun b => b = D ∨ b = C) s'.heap ys) (z1 : n ≤ sizeLine) (z2 : ∀ r ∈ all, r.length ≤ sizeLine) : ∃ H2, Same H H2 ∧ RowsH H2 D (all.take n) ∧ H2 C = none ∧ H D = none ∧ Inv X pins σ H2 s' := by
  obtain ⟨nD, eD⟩ := hD
  have lt : ∀ {j : Nat}, j < ys.length → j < n := fun h => by rw [len, List.length_take] at h; omega
  have get : ∀ j (hj : j < ys.length), ∃ l way, ys[j]? = some (.ref l) ∧ all[j]? = some way ∧ TxL s'.heap l way ∧ l ≠ D ∧ l ≠ C ∧ s.heap.get? l = none := fun j hj => by
    obtain ⟨as, ⟨l, way, rfl, e, h1, h2⟩, q⟩ := outs j ys[j] (List.getElem?_eq_getElem hj)
    obtain ⟨n, _, m⟩ := q l (.head _)
    exact ⟨l, way, by rw [List.getElem?_eq_getElem hj, e], h1, h2, fun e => n (.inl e), fun e => n (.inr e), m⟩
  let ls : List Addr := ys.map fun u => match u with | .ref a => a | _ => 0
  have ysr : ys = ls.map Value.ref := by
    refine List.ext_getElem? fun j => ?_
    rw [List.getElem?_map, List.getElem?_map]
    by_cases hj : j < ys.length
    · obtain ⟨l, way, e, _⟩ := get j hj
      rw [e]
      rfl
    · rw [List.getElem?_eq_none (Nat.le_of_not_lt hj)]
      rfl
  let New : Addr → HO → Prop := fun b u => (b = D ∧ u = .lst (ls.map V.ref)) ∨ (∃ (way : List PySem.Str) (j : Nat), ys[j]? = some (.ref b) ∧ all[j]? = some way ∧ u = .lst (way.map V.str))
  have pick : ∀ {j : Nat} {b : Addr} {way : List PySem.Str}, ys[j]? = some (.ref b) → all[j]? = some way → TxL s'.heap b way ∧ b ≠ D ∧ b ≠ C ∧ s.heap.get? b = none := fun {j b way} e e' => by
    obtain ⟨l, way', q1, q2, q3⟩ := get j (List.getElem?_eq_some_iff.mp e).1
    rw [e] at q1
    rw [e'] at q2
    cases q1
    cases q2
    exact q3
  obtain ⟨H2, sm, at2, no, I2⟩ := K25.Inv.lay I os hb k New (fun b u u' n n' => by
      rcases n with ⟨rfl, rfl⟩ | ⟨way, j, h1, h2, rfl⟩ <;> rcases n' with ⟨e, rfl⟩ | ⟨way', j', h1', h2', rfl⟩
      · rfl
      · exact absurd rfl (pick h1' h2').2.1
      · exact absurd e (pick h1 h2).2.1
      · rw [txl_inj (pick h1 h2).1 (pick h1' h2').1])
    (fun b u n => by
      rcases n with ⟨rfl, rfl⟩ | ⟨way, j, h1, h2, rfl⟩
      · exact newD
      · exact (pick h1 h2).2.2.2) fun H2 at2 b u n => by
      rcases n with ⟨rfl, rfl⟩ | ⟨way, j, h1, h2, rfl⟩
      · refine ⟨by rw [List.length_map, List.length_map, len, List.length_take]; exact Nat.le_trans (Nat.min_le_left _ _) z1, ys, nD, ?_, eD⟩
        rw [ysr]
        exact refs_vals ls
      · obtain ⟨its, p, m, e⟩ := (pick h1 h2).1
        exact ⟨by rw [List.length_map]; exact z2 way (List.mem_of_getElem? h2), its, m, tx_vals p, e⟩
  refine ⟨H2, sm, ⟨ls, at2 D _ (.inl ⟨rfl, rfl⟩), paired_of (by rw [List.length_map, len]) fun j row l e1 e2 => ?_⟩, ?_, hok_none I.hok newD, I2⟩
  · have e3 : ys[j]? = some (.ref l) := by rw [ysr, List.getElem?_map, e2]; rfl
    have jn := lt (List.getElem?_eq_some_iff.mp e3).1
    rw [List.getElem?_take_of_lt jn] at e1
    exact at2 l _ (.inr ⟨row, j, e3, e1, rfl⟩)
  · rw [no C fun u n => ?_]
    · exact hok_none I.hok newC
    · rcases n with ⟨e, _⟩ | ⟨way, j, h1, h2, _⟩
      · exact DC e.symm
      · exact (pick h1 h2).2.2.1 rfl
variable {C f : Addr} {fd : FuncData} {k : Nat}
def tSetFound (C : Addr) (t : TA) (i : Nat) : TS := fun D σ H => t σ H fun vs H1 => ∃ a x y T, vs = [.ref a, .str x, .str y] ∧ ChoH C H1 a T ∧ TOk T ∧ Known T x ∧ Known T y ∧ ∀ H2 S, Same H1 H2 → RowsH H2 S ((wall T x y).take 3) → H1 S = none → D.nx (σ.set i (some (.ref S))) H2
theorem ps_setFound {y0 nm1 nm2 : PySem.Str} {e1 : Expr} {es : List Expr} {t : TA} {py p1 p2 pp1 pos2 pr pc posr pz posz pt pos spos n1 : Pos} {ttl i jc : Nat} {scope : Scope} (W : WaysFn X.prog X.w X.K X.mg X.base C k f fd) (hc : X.calm = true) (hr : Room (k + 4) X.A) (ha : PA X (e1 :: es) t) (hN : X.N.Nodup) (hy : X.N[i]? = some y0) (hyl : X.env.scope.names.lookup y0 = some .local)
    (hsw : swapsWith (.ListComp (.Name nm1 n1) [⟨.Tuple [.Name nm1 p1, .Name nm2 p2] ttl pt, .Call (.Name "zip" pz) [.Call (.Name "ways" pp1) (e1 :: es) [] pos2, .Call (.Name "range" pr) [.Constant (.int 3) jc pc] [] posr] [] posz, [], 0⟩] scope pos) (some (.Name y0 py)) spos.line X.env = pure true)
    (hkind : scope.kind = .function) (hnames : ∀ z ∈ scope.names, z.2 = .local) (hlk : ∀ z ∈ scope.names, scope.names.lookup z.1 = some .local) (l1 : scope.names.lookup nm1 = some .local) (l2 : scope.names.lookup nm2 = some .local) (ne : nm1 ≠ nm2)
    (mz : X.mg "zip" = none) (mr : X.mg "range" = none) (gz : Gl X "zip") (gw : Gl X "ways") (gr : Gl X "range") (dd : (nm1 == ("__debug__" : PySem.Str)) = false)
    (he : starEach (e1 :: es) X.env = (false, eval e1 X.env) :: starEach es X.env := by rfl) (hpl : (backTo pos2 (starEach es X.env)).any (·.1) = false := by rfl) :
    PS X (.Assign [.Name y0 py] (.ListComp (.Name nm1 n1) [⟨.Tuple [.Name nm1 p1, .Name nm2 p2] ttl pt, .Call (.Name "zip" pz) [.Call (.Name "ways" pp1) (e1 :: es) [] pos2, .Call (.Name "range" pr) [.Constant (.int 3) jc pc] [] posr] [] posz, [], 0⟩] scope pos) spos) (tSetFound C t i) := by
  refine ⟨fun pins s0 σ H0 D I0 ht => ?_⟩
  refine exec_zip (σ := σ) hc hN hy hyl hsw hkind hnames hlk l1 l2 ne ?_
  refine wpAny_Call_Name_kw (ld_blt I0 gz mz PyProof.Rows.boot_zip (PyProof.Rows.callWith_type1 ?_ rfl rfl))
  refine Calls.spliced_cons (eval_ways W hr ha gw he hpl I0 ht fun vs H ⟨a, x, y, T, ev, hC, tok, hx, hyk, q⟩ => ⟨a, x, y, T, ev, hC, tok, hx, hyk, fun s ga env s2 I gm o1 o2 live => ?_⟩)
  have I2 := K25.Inv.made I gm
  refine Calls.spliced_cons (wpAny_Call_Name_kw (ld_blt I2 gr mr boot_range (PyProof.Rows.callWith_type1 ?_ rfl rfl)))
  refine Calls.spliced_cons (wpAny_Constant_int (k := jc) (pos := pc) (Calls.spliced_nil (call_range_1 (Calls.spliced_nil ?_))))
  have hr2 : Room (k + 1) X.A.in1.in1 := (hr.in1.in1).mono (by omega)
  have L0 := live _ hr2
  have ltga : ga < s2.heap.objs.size := by
    obtain ⟨o, _, _, e, _⟩ := L0.gen
    exact Heap.lt_size e
  have own2 : ∀ b, Own env b → b < s2.heap.objs.size := fun b hb => by
    obtain ⟨⟨o, e⟩, _⟩ := L0.there b hb
    exact Heap.lt_size e
  have sz2 : s.heap.objs.size ≤ s2.heap.objs.size := by omega
  have far : ∀ b, s.heap.objs.size ≤ b → s.heap.get? b = none := fun b hb => Heap.get?_none_of_le hb
  generalize htk : s2.toks + 1 = tk
  show wpAny _ _ (call (.type "zip") [.ref ga, .ref s2.heap.objs.size]) _ _ { s2 with heap := s2.heap.push { cls := .type "range", data := .fields #[.int 0 tk, .int 3 s2.toks, .int 1 (tk + 1)] }, toks := tk + 1 + 1 }
  have kR : Keep s2.heap (s2.heap.push { cls := .type "range", data := .fields #[.int 0 tk, .int 3 s2.toks, .int 1 (tk + 1)] }) := Keep.push _ _
  have hR : IsRange (s2.heap.push { cls := .type "range", data := .fields #[.int 0 tk, .int 3 s2.toks, .int 1 (tk + 1)] }) s2.heap.objs.size 0 3 1 tk s2.toks (tk + 1) := Heap.get?_push_size _ rfl
  have szR : (s2.heap.push { cls := .type "range", data := .fields #[.int 0 tk, .int 3 s2.toks, .int 1 (tk + 1)] }).objs.size = s2.heap.objs.size + 1 := Heap.size_push ..
  generalize s2.heap.push { cls := .type "range", data := .fields #[.int 0 tk, .int 3 s2.toks, .int 1 (tk + 1)] } = h3 at kR hR szR ⊢
  have L1 : Live X.prog X.w X.base env (wall T x y) X.A.in1.in1 (fun h => Cho X.prog X.w C h a T) (wall T x y).length ga s.gens.size (Own env) { s2 with heap := h3, toks := tk + 1 + 1 } := L0.stay (fun b o _ e => kR b o e) rfl
  let itO : Obj := { cls := .type "range_iterator", data := .fields #[rawInt 0, rawInt (Builtin.Range.rangeSize 0 3 1), rawInt 1] }
  refine call_zk (f := fun h => h.push itO) (i1 := .ref ga) (i2 := fun h => .ref h.objs.size) (H1 := fun h => h.IsGen ga s.gens.size) (H2 := fun h => IsRange h s2.heap.objs.size 0 3 1 tk s2.toks (tk + 1)) (fun prog w A E s Q h q => wpAny_pyIter_gen h q) (fun prog w A E s Q h q => wpAny_pyIter_range h (by decide) q) L1.gen hR fun z TI TO h' hz' hTI hTO kp z1 z2 z3 => ?_
  have kP : Keep h3 (h3.push itO) := Keep.push _ _
  have z1 : h3.objs.size + 1 ≤ TI := by
    have : (h3.push itO).objs.size ≤ TI := z1
    rwa [Heap.size_push] at this
  have z2 : @LT.lt Nat _ TI TO := z2
  have z3 : @LT.lt Nat _ TO z := z3
  have kAll : Keep s2.heap h' := fun b o e => kp b o (kP b o (kR b o e))
  have itAt : IsRangeIter h' h3.objs.size 0 ((3 : Nat) : Int) 1 := kp _ _ (Heap.get?_push_size h3 (show itO.isFreed = false from rfl))
  refine ⟨H, s, z, TI, TO, ga, h3.objs.size, _, _, _, _, _, _, (wall T x y).length, 3, (fun b => Own env b ∨ b = ga), (fun b => b = h3.objs.size), ItemF (wall T x y), rfl, I, fun b o e => kAll b o (gm.keep b o e), ?_, gm.bare I.bare, gm.os, Srz.gen (P := X.prog) (w := X.w) (base := X.base) (H0 := s.heap) (env := env) (all := wall T x y) (C := C) (a := a) (T := T) (A0 := X.A.in1) (ga := ga) (gi := s.gens.size) (I.ok.hd hc) hr.in1.depth I.ok.mod.nolimit I.bk (hC.raw I.hok), Srz.range (A0 := X.A.in1) (P := X.prog) (w := X.w) (H0 := s.heap) (I.ok.hd hc) h3.objs.size 0, fun i _ h2 => h2, Nat.le_trans (Nat.min_le_right _ _) (by decide), ?_, ?_, ⟨hz', hTI, ⟨_, _, hTO⟩, ⟨_, rfl, L1.stay (fun b o _ e => kp b o (kP b o e)) rfl⟩, ⟨rfl, 0, itAt⟩, ?_, ?_, ?_, Nat.ne_of_lt (Nat.lt_trans z2 z3), Nat.ne_of_lt z3, Nat.ne_of_lt z2⟩, ?_, ?_⟩
  · have : @LT.lt Nat _ z h'.objs.size := Heap.lt_size hz'
    show s.heap.objs.size ≤ h'.objs.size
    omega
  · rintro i as h h' u ⟨l, way, rfl, rfl, e1, ⟨i1, p1, n1, e3⟩⟩ kk
    exact ⟨l, way, rfl, rfl, e1, ⟨i1, p1, n1, kk _ (by simp) _ e3⟩⟩
  · rintro Cb j u1 u2 sT m hj _ ⟨m1, way, rfl, t1, t2, t3⟩ _ hn hm1 hm2 Q E qq
    have idx : (wall T x y).length - ((wall T x y).length - (j + 1) + 1) = j := by omega
    rw [idx] at t2
    have kf : (compEnvC scope [] Cb X.env).scope.kind = .function := by
      show (relabel scope X.env).kind = _
      rw [show (relabel scope X.env).kind = scope.kind from rfl, hkind]
    refine wpAny_Name (wpAny_loadName_local kf (lookup_relabel_local l1) hn hm1 ?_) dd
    refine qq _ _ [m1] (.refl _) ⟨m1, way, rfl, rfl, t2, t3⟩ (fun b hb => ?_) fun b hb => ?_
    · rw [List.mem_singleton.mp hb]
      exact .inl (.inl rfl)
    · obtain ⟨i1, p1, n1, e3⟩ := t3
      rw [List.mem_singleton.mp hb]
      exact ⟨_, e3⟩
  · intro b h1 h2
    have lb : @LT.lt Nat _ b s2.heap.objs.size := by
      rcases h1 with h1 | h1
      · exact own2 b h1
      · rw [h1]; exact ltga
    rw [show b = h3.objs.size from h2] at lb
    omega
  · intro b hb h1
    have lb : @LT.lt Nat _ b s2.heap.objs.size := by
      rcases h1 with h1 | h1
      · exact own2 b h1
      · rw [h1]; exact ltga
    rcases hb with hb | hb | hb <;> rw [hb] at lb <;> omega
  · intro b hb h1
    have lb : @Eq Nat b h3.objs.size := h1
    rcases hb with hb | hb | hb <;> rw [hb] at lb <;> omega
  · intro b hb
    refine far b ?_
    rcases hb with (hb | hb) | hb | hb | hb
    · exact o2 b hb
    · rw [hb]; omega
    · rw [hb]; omega
    · rw [hb]; omega
    · rw [hb]; omega
  · intro s' ys Dl Cc kH hb os d1 c1 DC hpl len outs
    have len' : ys.length = ((wall T x y).take 3).length := by rw [len, List.length_take, Nat.min_comm]
    obtain ⟨H2, sm, ph, hC2, hS, I2⟩ := K25.Inv.founds I os hb kH hpl (far _ d1) (far _ c1) DC len' outs (by decide) fun r hr => Nat.le_trans (wall_short tok hx r hr) (by decide)
    exact ⟨H2, I2, hC2, q H2 Dl sm ph hS⟩
end
end K25

set_option Elab.async false
set_option linter.all false
set_option maxRecDepth 100000
set_option maxHeartbeats 4000000
/-! K25, part LA: is_name, is_node, is_place, is_option -/
namespace K25L
open PySem PySem.Spec PyProof.Rows L2
open K25 (top)
abbrev F0 (K : PySem.W.Frag) (x : PySem.Str) (i : Nat) (f : Addr) (fd : FuncData) : Prop := Fun K x x (top i) f fd
theorem sc13 : FnScope ["value", "letter"] ["value"] (defScope (top 13)) := ⟨rfl, rfl, rfl, by decide +kernel, rfl, by decide +kernel, by decide +kernel⟩
theorem sc14 : FnScope ["value"] ["value"] (defScope (top 14)) := ⟨rfl, rfl, rfl, by decide +kernel, rfl, by decide +kernel, by decide +kernel⟩
theorem sc15 : FnScope ["value"] ["value"] (defScope (top 15)) := ⟨rfl, rfl, rfl, by decide +kernel, rfl, by decide +kernel, by decide +kernel⟩
theorem sc29 : FnScope ["value", "nodes"] ["value", "nodes"] (defScope (top 29)) := ⟨rfl, rfl, rfl, by decide +kernel, rfl, by decide +kernel, by decide +kernel⟩
def abc : PySem.Str := "abcdefghijklmnopqrstuvwxyz"
/-- a name -/
def NmT (t : PySem.Str) : Prop := 1 ≤ t.length ∧ t.length ≤ 8 ∧ ∀ c ∈ t.cps.toList, c ∈ abc.cps.toList
theorem same_upd {H : Hp} {p : Addr} {o : HO} (h : H p = none) : Same H (upd H p o) := fun b x e => by
  rw [upd_ne (ne_of_none e h)]
  exact e
theorem yes {f g : Hp → Prop} {σ : L2.St} {H : Hp} (h : f H) : tYes σ H (fun b H3 => if b = true then f H3 else g H3) := by
  show (if true = true then f H else g H)
  rw [if_pos rfl]
  exact h
section
variable {P : Program} {w : World} {K : PySem.W.Frag} {mg : PySem.Str → Option Value} {base : Heap} {f : Addr} {fd : FuncData}
def spNm : Sp := fun vs H Q _ => ∃ t, vs = [.str t] ∧ NmT t ∧ ∀ H', Same H H' → Q (.bl true) H'
theorem ok_isname (F : F0 K "is_name" 13 f fd) (mi : mg "isinstance" = none) (ms : mg "str" = none) (ml : mg "len" = none) (ma : mg "all" = none) (mL : ∃ t, mg "LETTERS" = some (.str abc t)) (mm : ∃ t, mg "MOST_LETTERS" = some (.int 8 t)) : FnOk P w K mg base CX0 1 f fd ["value"] spNm := by
  obtain ⟨tL, mL⟩ := mL
  obtain ⟨tm, mm⟩ := mm
  have nd := sc13.nd
  refine F.ok sc13 (fun vs H Q E h => ?_) (fun cdv A outer s H vs Q E hr h => ?_)
  · obtain ⟨t, rfl, _⟩ := h
    rfl
  · obtain ⟨t, rfl, hn, q⟩ := h
    refine ⟨_, pss_cons (ps_if (pw_or (pt_not (pt_val (pe_callB call_isi (by rfl) mi (by kernel_rfl) (pa_cons (pv 0) (pa_cons (pe_bltn (v := .ty "str") (by rfl) ms (by kernel_rfl) rfl) pa_nil)))))
        (pw_or1 (pt_not (pt_chain op_le op_le pe_int (pe_callB call_len_str (by rfl) ml PySem.boot_len (pa_cons (pv 0) pa_nil)) (pe_glob (v := .int 8) (by rfl) mm ⟨_, rfl⟩))))).pt (pss_one (ps_ret pe_bl)) pss_nil)
      (pss_one (ps_ret (pe_callB (cr_all rfl) (by rfl) ma (by kernel_rfl) (pa_cons (pe_lc (own := [("letter", 1)]) (g := gName 1) (tt := tYes) rfl nd (pi_str (pv 0)) (blkOk_by (N := ["value", "letter"]) (sc := defScope (top 13)) (by decide +kernel)) (fun _ _ _ _ _ => pg_name (i := 1) nd rfl (Or.inl rfl)) (fun _ _ _ _ _ => pts_nil) (fun _ _ _ _ _ => pe_cmpR op_inS (pv 1) (pe_glob (v := .str abc) (by rfl) mL ⟨_, rfl⟩) (by rfl))) pa_nil)))), ?_⟩
    have hl : ((t.length : Nat) : Int) = t.length := rfl
    have h1 : decide ((1 : Int) ≤ (t.length : Int)) = true := decide_eq_true (by have := hn.1; omega)
    have h2 : decide ((t.length : Int) ≤ 8) = true := decide_eq_true (by have := hn.2.1; omega)
    refine ⟨.str t, rfl, ?_⟩
    refine ⟨.str t, .ty "str", .type "str", .type "str", true, rfl, .ty _, .base (.str _), kit_ty (by decide +kernel), ?_⟩
    refine ⟨true, rfl, iteF ⟨.str t, rfl, t, rfl, Nat.le_trans hn.2.1 (by decide), 1, _, rfl, rfl, _, rfl, ?_⟩⟩
    rw [h1]
    refine iteT ⟨_, _, rfl, rfl, _, rfl, ?_⟩
    rw [h2]
    refine iteF ?_
    refine ⟨.str t, rfl, t, rfl, fun D nD => ?_⟩
    refine lc_it walk_str (fun i H' => Same H H' ∧ H' D = some (.lst ((List.replicate i true).map V.bl))) ⟨same_upd nD, upd_same⟩ (fun _ _ _ _ => trivial) (fun i x H1 H2 hi ⟨sm, hD⟩ y => ?_) fun H1 ⟨sm, hD⟩ => ?_
    · obtain ⟨rfl, c, hc, rfl⟩ := y
      have hi : i < t.cps.size := hi
      have cm : c ∈ abc.cps.toList := hn.2.2 c (by obtain ⟨h, e⟩ := Array.getElem?_eq_some_iff.mp hc; rw [← e]; exact Array.getElem_mem_toList ..)
      refine ⟨rfl, yes ⟨_, rfl, c, abc, rfl, rfl, ?_⟩⟩
      refine ⟨_, hD, ?_, fun b o e => ?_, ?_⟩
      · rw [List.length_map, List.length_replicate]
        have : t.cps.size ≤ 8 := hn.2.1
        rw [sizeLine_eq]
        omega
      · rw [upd_ne (ne_of_none e nD)]
        exact sm b o e
      · rw [upd_same, decide_eq_true cm, List.replicate_succ', List.map_append]
        rfl
    · refine ⟨D, List.replicate t.cps.size true, rfl, .inl (.inl hD), ?_⟩
      have : (List.replicate t.cps.size true).all id = true := by rw [List.all_eq_true]; intro b hb; rw [(List.mem_replicate.mp hb).2]; rfl
      rw [this]
      exact q _ sm
/-- a def that others call -/
structure Cal (K : PySem.W.Frag) (mg : PySem.Str → Option Value) (x : PySem.Str) (i : Nat) (ps : List PySem.Str) (f : Addr) (fd : FuncData) : Prop where
  at_ : mg x = some (.ref f)
  fn : F0 K x i f fd
  bs : Binds K fd ps []
def spNd : Sp := fun vs H Q _ => ∃ t, vs = [.str t] ∧ NmT t ∧ t ≠ "root" ∧ ∀ H', Same H H' → Q (.bl true) H'
theorem ok_isnode {f1 : Addr} {fd1 : FuncData} (F : F0 K "is_node" 14 f fd) (C1 : Cal K mg "is_name" 13 ["value"] f1 fd1) (G1 : FnOk P w K mg base CX0 1 f1 fd1 ["value"] spNm) (mR : ∃ t, mg "ROOT" = some (.str "root" t)) : FnOk P w K mg base CX0 2 f fd ["value"] spNd := by
  obtain ⟨tR, mR⟩ := mR
  refine F.ok sc14 (fun vs H Q E h => ?_) (fun cdv A outer s H vs Q E hr h => ?_)
  · obtain ⟨t, rfl, _⟩ := h
    rfl
  · obtain ⟨t, rfl, hn, hr0, q⟩ := h
    refine ⟨_, pss_one (ps_ret (pe_and (pe_call G1 hr (by rfl) C1.at_ C1.fn.kp C1.bs .nil pass0 (pa_cons (pv 0) pa_nil)) (pe_one (pe_cmpR op_ne (pv 0) (pe_glob (v := .str "root") (by rfl) mR ⟨_, rfl⟩) (nomark _))))), ?_⟩
    refine ⟨.str t, rfl, t, rfl, hn, fun H1 sm => ⟨true, rfl, iteT ⟨_, rfl, rfl, ?_⟩⟩⟩
    rw [decide_eq_false (fun z => hr0 (V.str.inj z))]
    exact q _ sm
/-- a place: a tuple of two names -/
def PlH (H : Hp) (v : V) : Prop := ∃ t a b, v = .ref t ∧ H t = some (.tup [.str a, .str b]) ∧ NmT a ∧ NmT b
def spPl : Sp := fun vs H Q _ => ∃ v, vs = [v] ∧ PlH H v ∧ ∀ H', Same H H' → Q (.bl true) H'
theorem ok_isplace {f1 : Addr} {fd1 : FuncData} (F : F0 K "is_place" 15 f fd) (C1 : Cal K mg "is_name" 13 ["value"] f1 fd1) (G1 : FnOk P w K mg base CX0 1 f1 fd1 ["value"] spNm) (mi : mg "isinstance" = none) (mt : mg "tuple" = none) (ml : mg "len" = none) (mP : ∃ t, mg "PLACE_SIZE" = some (.int 2 t)) : FnOk P w K mg base CX0 2 f fd ["value"] spPl := by
  obtain ⟨tP, mP⟩ := mP
  refine F.ok sc15 (fun vs H Q E h => ?_) (fun cdv A outer s H vs Q E hr h => ?_)
  · obtain ⟨t, rfl, _⟩ := h
    rfl
  · obtain ⟨_, rfl, ⟨t, a, b, rfl, ht, ha, hb⟩, q⟩ := h
    refine ⟨_, pss_one (ps_ret (pe_and (pe_callB call_isi (by rfl) mi (by kernel_rfl) (pa_cons (pv 0) (pa_cons (pe_bltn (v := .ty "tuple") (by rfl) mt (by kernel_rfl) rfl) pa_nil)))
      (pe_and (pe_cmpR op_eq (pe_callB call_len_seq (by rfl) ml PySem.boot_len (pa_cons (pv 0) pa_nil)) (pe_glob (v := .int 2) (by rfl) mP ⟨_, rfl⟩) (nomark _))
      (pe_and (pe_call G1 hr (by rfl) C1.at_ C1.fn.kp C1.bs .nil pass0 (pa_cons (pe_ix ix_tup (pv 0) pe_int (fun _ _ => rfl)) pa_nil))
      (pe_one (pe_call G1 hr (by rfl) C1.at_ C1.fn.kp C1.bs .nil pass0 (pa_cons (pe_ix ix_tup (pv 0) pe_int (fun _ _ => rfl)) pa_nil))))))), ?_⟩
    have sq : ∀ H', Same H H' → SqT K H' t [.str a, .str b] := fun H' sm => .inl (.inl (sm _ _ ht))
    refine ⟨.ref t, rfl, .ref t, .ty "tuple", .type "tuple", .type "tuple", true, rfl, .ty _, .base (.tup ht), kit_ty (by decide +kernel), true, rfl, iteT ?_⟩
    refine ⟨.ref t, rfl, t, _, rfl, .inr (sq H fun _ _ e => e), rfl, true, rfl, iteT ?_⟩
    refine ⟨.ref t, rfl, t, _, 0, .str a, rfl, rfl, sq H fun _ _ e => e, atI_nat (j := 0) rfl, a, rfl, ha, fun H1 s1 => ⟨true, rfl, iteT ?_⟩⟩
    refine ⟨.ref t, rfl, t, _, 1, .str b, rfl, rfl, sq H1 s1, atI_nat (j := 1) rfl, b, rfl, hb, fun H2 s2 => ?_⟩
    exact q _ (s1.trans s2)
end
end K25L

set_option Elab.async false
set_option linter.all false
set_option maxRecDepth 100000
set_option maxHeartbeats 4000000
/-! K25, part LB: is_option, require_options -/
namespace K25L
open PySem PySem.Spec PyProof.Rows L2
open K25 (top Opt OptH)
theorem sc30 : FnScope ["node", "value", "nodes", "position", "option"] ["node", "value", "nodes"] (defScope (top 30)) := ⟨rfl, rfl, rfl, by decide +kernel, rfl, by decide +kernel, by decide +kernel⟩
/-- an option's data -/
def opD : Opt → PyData | none => .none | some p => .tuple [.str p.1, .str p.2]
def OpT : Opt → Prop | none => True | some p => NmT p.1 ∧ NmT p.2
theorem nm_ok {t : PySem.Str} (h : NmT t) : PyData.strOk t = true := by
  unfold PyData.strOk
  rw [← Array.all_toList, List.all_eq_true]
  intro c hc
  have h1 := h.2.2 c hc
  have h2 : ∀ c ∈ abc.cps.toList, c < 128 := by decide +kernel
  exact decide_eq_true (Nat.lt_trans (h2 c h1) (by decide))
theorem op_lay {o : Opt} (h : OpT o) : (opD o).canLay0 = true := by
  cases o with
  | none => rfl
  | some p =>
    show (PyData.strOk p.1 && (PyData.strOk p.2 && true)) = true
    rw [nm_ok h.1, nm_ok h.2]
    rfl
theorem op_depth (o : Opt) : (opD o).depth ≤ 1 := by
  cases o with
  | none => exact Nat.zero_le _
  | some p => exact Nat.le_refl 1
theorem op_shaped {o : Opt} (h : OpT o) : SeqAt.shaped (opD o) = true := by
  unfold SeqAt.shaped
  rw [op_lay h, decide_eq_true (Nat.le_trans (op_depth o) (by decide))]
  rfl
theorem ops_shaped {os : List Opt} (h : ∀ o ∈ os, OpT o) : SeqAt.shaped (.list (os.map opD)) = true := by
  have l1 : PyData.canLayAll0 (os.map opD) = true ∧ PyData.depthAll (os.map opD) ≤ 1 := by
    induction os with
    | nil => exact ⟨rfl, Nat.zero_le _⟩
    | cons o r ih =>
      obtain ⟨i1, i2⟩ := ih fun o ho => h o (.tail _ ho)
      refine ⟨?_, ?_⟩
      · show ((opD o).canLay0 && PyData.canLayAll0 (r.map opD)) = true
        rw [op_lay (h o (.head _)), i1]
        rfl
      · show max (opD o).depth (PyData.depthAll (r.map opD)) ≤ 1
        have := op_depth o
        omega
  unfold SeqAt.shaped
  rw [show (PyData.list (os.map opD)).canLay0 = PyData.canLayAll0 (os.map opD) from rfl, l1.1, decide_eq_true (show (PyData.list (os.map opD)).depth ≤ 64 from (show PyData.depthAll (os.map opD) + 1 ≤ 64 by have := l1.2; omega))]
  rfl
theorem op_eqv (o o' : Opt) : PyData.eqv (opD o) (opD o') = decide (o = o') := by
  cases o with
  | none => cases o' <;> rfl
  | some p =>
    cases o' with
    | none => rfl
    | some q =>
      show ((p.1 == q.1) && ((p.2 == q.2) && true)) = _
      rw [Bool.and_true, Bool.eq_iff_iff]
      simp only [Bool.and_eq_true, beq_iff_eq, decide_eq_true_eq, Option.some.injEq, Prod.ext_iff]
section
variable {P : Program} {w : World} {K : PySem.W.Frag} {mg : PySem.Str → Option Value} {base : Heap} {f : Addr} {fd : FuncData} {H : Hp}
theorem opt_dp {o : Opt} {v : V} (h : OptH H o v) : Dp K H v (opD o) := by
  cases o with
  | none => cases (show v = .non from h); exact .non
  | some p =>
    obtain ⟨t, rfl, e⟩ := h
    exact .tup (.inl (.inl e)) (.cons (.str _) (.cons (.str _) .nil))
theorem opts_dp : ∀ {os : List Opt} {vs : List V}, Paired (OptH H) os vs → DpAll K H vs (os.map opD)
  | _, _, .nil => .nil
  | _, _, .cons r t => .cons (opt_dp r) (opts_dp t)
theorem rd_same {H H' : Hp} {a : Addr} {u : HO} (k : Same H H') (h : Rd H a u) : Rd H' a u := h.imp (k _ _) fun ⟨o, e⟩ => ⟨o, k _ _ e⟩
/-- the keys that an option may name -/
def KyO (kvs : List (Key × V)) : Opt → Prop | none => True | some p => p.1 = "root" ∨ (valV kvs (.inr p.1)).isSome = true
def spOp : Sp := fun vs H Q _ => ∃ o v d kvs, vs = [v, .ref d] ∧ Rd H d (.dK kvs) ∧ OptH H o v ∧ OpT o ∧ KyO kvs o ∧ ∀ H', Same H H' → Q (.bl true) H'
theorem ok_isoption {f1 : Addr} {fd1 : FuncData} (F : F0 K "is_option" 29 f fd) (C1 : Cal K mg "is_place" 15 ["value"] f1 fd1) (G1 : FnOk P w K mg base CX0 2 f1 fd1 ["value"] spPl) (mR : ∃ t, mg "ROOT" = some (.str "root" t)) : FnOk P w K mg base CX0 3 f fd ["value", "nodes"] spOp := by
  obtain ⟨tR, mR⟩ := mR
  refine F.ok sc29 (fun vs H Q E h => ?_) (fun cdv A outer s H vs Q E hr h => ?_)
  · obtain ⟨_, _, _, _, rfl, _⟩ := h
    rfl
  · obtain ⟨o, v, d, kvs, rfl, hd, ho, hT, hk, q⟩ := h
    have hu := hu_of hr
    refine ⟨_, pss_cons (ps_if (pt_cmpR op_isN1 (pv 0) pe_non (nomark _)) (pss_one (ps_ret pe_bl)) pss_nil)
      (pss_one (ps_ret (pe_and (pe_call G1 hr (by rfl) C1.at_ C1.fn.kp C1.bs .nil pass0 (pa_cons (pv 0) pa_nil))
        (pe_one (pe_or (pe_cmpR op_eq (pe_ix ix_tup (pv 0) pe_int (fun _ _ => rfl)) (pe_glob (v := .str "root") (by rfl) mR ⟨_, rfl⟩) (nomark _))
          (pe_one (pe_cmp (pc_din hu (pe_ix ix_tup (pv 0) pe_int (fun _ _ => rfl)) (pv 1))))))))), ?_⟩
    cases o with
    | none =>
      cases (show v = .non from ho)
      refine ⟨.non, rfl, rfl, _, rfl, ?_⟩
      rw [decide_eq_true rfl]
      refine iteT ?_
      exact q _ fun _ _ e => e
    | some p =>
      obtain ⟨t, rfl, ht⟩ := ho
      refine ⟨.ref t, rfl, rfl, _, rfl, ?_⟩
      rw [decide_eq_false (fun z => by cases z)]
      refine iteF ?_
      refine ⟨.ref t, rfl, .ref t, rfl, ⟨t, p.1, p.2, rfl, ht, hT⟩, fun H1 s1 => ⟨true, rfl, iteT ?_⟩⟩
      have sq : SqT K H1 t [.str p.1, .str p.2] := .inl (.inl (s1 _ _ ht))
      refine ⟨.ref t, rfl, t, _, 0, .str p.1, rfl, rfl, sq, atI_nat (j := 0) rfl, rfl, _, rfl, ?_⟩
      by_cases hr0 : p.1 = "root"
      · rw [decide_eq_true (by rw [hr0])]
        refine iteT ?_
        exact q _ s1
      · rw [decide_eq_false (fun z => hr0 (V.str.inj z))]
        refine iteF ?_
        refine ⟨.ref t, rfl, t, _, 0, .str p.1, rfl, rfl, sq, atI_nat (j := 0) rfl, .ref d, rfl, d, _, rfl, (.inl ⟨kvs, .inr p.1, rd_same s1 hd, rfl, rfl⟩ : DGet _ d _ _), ?_⟩
        rw [hk.resolve_left hr0]
        exact q _ s1
def spRo : Sp := fun vs H Q _ => ∃ n l d kvs os us, vs = [.str n, .ref l, .ref d] ∧ Rd H d (.dK kvs) ∧ H l = some (.lst us) ∧ Paired (OptH H) os us ∧ 1 ≤ os.length ∧ os.length ≤ 250 ∧ os.Nodup ∧ (∀ o ∈ os, OpT o ∧ KyO kvs o) ∧ ∀ H', Same H H' → Q .non H'
theorem cut_to (xs : List V) (i : Nat) (h : i ≤ xs.length) : cutV xs none (some (i : Int)) = xs.take i := by
  unfold cutV
  rw [HT.sIx_nat, HT.sIx_none, Nat.min_eq_left h]
  simp
theorem ok_reqopt {f1 : Addr} {fd1 : FuncData} (F : F0 K "require_options" 30 f fd) (C1 : Cal K mg "is_option" 29 ["value", "nodes"] f1 fd1) (G1 : FnOk P w K mg base CX0 3 f1 fd1 ["value", "nodes"] spOp) (mi : mg "isinstance" = none) (mls : mg "list" = none) (mt : mg "tuple" = none) (ml : mg "len" = none) (me : mg "enumerate" = none) (mM : ∃ t, mg "MOST_OPTIONS" = some (.int 250 t)) : FnOk P w K mg base CX0 4 f fd ["node", "value", "nodes"] spRo := by
  obtain ⟨tM, mM⟩ := mM
  have nd := sc30.nd
  refine F.ok sc30 (fun vs H Q E h => ?_) (fun cdv A outer s H vs Q E hr h => ?_)
  · obtain ⟨_, _, _, _, _, _, rfl, _⟩ := h
    rfl
  · obtain ⟨n, l, d, kvs, os, us, rfl, hd, hl, pr, z1, z2, nod, hall, q⟩ := h
    have hu : A.units + 3 + 65 < cLine := by have := hr.un; show A.units + 3 + 65 < cLine; have e : (A.deeper (envOfC (PySem.Str.ofString "require_options") (defScope (top 30)) s.heap.objs.size f cdv)).units = A.units + 3 := rfl; omega
    have hlen := pr.length
    refine ⟨_, pss_cons (ps_if (pw_or (pt_not (pt_val (pe_callB call_isiT (by rfl) mi (by kernel_rfl) (pa_cons (pv 1) (pa_cons (pe_tup (pa_cons (pe_bltn (v := .ty "list") (by rfl) mls (by kernel_rfl) rfl) (pa_cons (pe_bltn (v := .ty "tuple") (by rfl) mt (by kernel_rfl) rfl) pa_nil))) pa_nil)))))
        (pw_or1 (pt_not (pt_chain op_le op_le pe_int (pe_callB call_len_seq (by rfl) ml PySem.boot_len (pa_cons (pv 1) pa_nil)) (pe_glob (v := .int 250) (by rfl) mM ⟨_, rfl⟩))))).pt pss_never pss_nil)
      (pss_one (ps_for PassesOwn.never rfl (pi_enum (by rfl) me (pa_cons (pv 1) pa_nil)) (pg_tup rfl (pgs_cons (pg_name (i := 3) nd rfl (Or.inl rfl)) (pgs_cons (pg_name (i := 4) nd rfl (Or.inl rfl)) pgs_nil)))
        (pss_one (ps_if (pw_or (pt_not (pt_val (pe_call G1 hr (by rfl) C1.at_ C1.fn.kp C1.bs .nil pass0 (pa_cons (pv 4) (pa_cons (pv 2) pa_nil)))))
          (pw_or1 (pt_cmpR (op_inD hu) (pv 4) (pe_slice sl_list (pv 1) po_none (po_some (pv 3))) (by rfl)))).pt pss_never pss_nil)))), ?_⟩
    have sl0 : SqL K H l us := .inl (.inl hl)
    refine ⟨.ref l, rfl, by show 2 ≤ sizeLine; decide, fun tp htp => ?_⟩
    have s0 : Same H (upd H tp (.tup [.ty "list", .ty "tuple"])) := same_upd htp
    refine ⟨.ref l, tp, [.ty "list", .ty "tuple"], .type "list", [.type "list", .type "tuple"], true, rfl, upd_same, .cons (.ty _) (.cons (.ty _) .nil), .base (.lst (s0 _ _ hl)), kitAny_cons (b := true) (kit_ty (by decide +kernel)) (fun z => by cases z) fun _ => rfl, ?_⟩
    refine ⟨true, rfl, iteF ⟨.ref l, rfl, l, us, rfl, .inl (s0.seq sl0), 1, _, rfl, rfl, _, rfl, ?_⟩⟩
    rw [decide_eq_true (show (1 : Int) ≤ (us.length : Int) by omega)]
    refine iteT ⟨_, _, rfl, rfl, _, rfl, ?_⟩
    rw [decide_eq_true (show (us.length : Int) ≤ 250 by omega)]
    refine iteF ?_
    generalize upd H tp (.tup [.ty "list", .ty "tuple"]) = H1 at s0
    refine ⟨.ref l, rfl, l, us, rfl, s0.seq sl0, ?_⟩
    refine for_it (walk_enum (xs := us)) (fun i σ H' => ∃ y3 y4, σ = [some (.str n), some (.ref l), some (.ref d), y3, y4] ∧ Same H H') ⟨none, none, rfl, s0⟩ (fun i σ H' _ ⟨_, _, _, sm⟩ => sm.seq sl0) (fun i x σ H2 H3 hi ⟨y3, y4, e, sm⟩ y => ?_) fun σ H2 ⟨_, _, _, sm⟩ => q _ sm
    subst e
    obtain ⟨T, x1, x2, rfl, nT, rfl, f1, f2⟩ := y
    cases f1
    obtain ⟨o, ho1, ho2⟩ := K25.paired_get i pr f2
    have oi : o ∈ os := List.mem_of_getElem? ho1
    have smT : Same H (upd H2 T (.tup [.int (i : Nat), x2])) := sm.trans (same_upd nT)
    refine ⟨T, [.int (i : Nat), x2], rfl, .inl (.inl upd_same), rfl, .int (i : Nat), [x2], rfl, x2, [], rfl, rfl, ?_⟩
    generalize upd H2 T (.tup [.int (i : Nat), x2]) = H3 at smT
    refine ⟨x2, rfl, .ref d, rfl, o, x2, d, kvs, rfl, rd_same smT hd, ho2.same smT, (hall o oi).1, (hall o oi).2, fun H4 s4 => ?_⟩
    have sm4 := smT.trans s4
    refine ⟨true, rfl, iteF ⟨x2, rfl, .ref l, rfl, .int (i : Nat), rfl, (i : Int), rfl, l, us, rfl, sm4.seq sl0, fun p hp => ?_⟩⟩
    have sm5 : Same H (upd H4 p (.lst (cutV us none (some (i : Int))))) := sm4.trans (same_upd hp)
    have hi' : i ≤ us.length := Nat.le_of_lt hi
    refine ⟨opD o, (os.take i).map opD, opt_dp (ho2.same sm5), .lst (.inl (.inl upd_same)) ?_, op_shaped (hall o oi).1, ops_shaped fun o' h' => (hall o' (List.mem_of_mem_take h')).1, ?_⟩
    · rw [cut_to us i hi'] at sm5 ⊢
      have tk : ∀ {os : List Opt} {vs : List V} (i : Nat), Paired (OptH H) os vs → Paired (OptH H) (os.take i) (vs.take i) := by
        intro os vs i p
        induction p generalizing i with
        | nil => simp only [List.take_nil]; exact .nil
        | cons r t ih =>
          cases i with
          | zero => exact .nil
          | succ i => exact .cons r (ih i)
      exact opts_dp (Paired.mapP (tk i pr) fun _ _ z => z.same sm5)
    · have no : ((os.take i).map opD).any (fun z => PyData.eqv z (opD o)) = false := by
        rw [List.any_eq_false]
        intro z hz
        obtain ⟨o', h', rfl⟩ := List.mem_map.mp hz
        rw [op_eqv]
        have : o' ≠ o := fun e => by
          subst e
          obtain ⟨j, hj, e⟩ := List.mem_iff_getElem.mp h'
          have hj' : j < i := by rw [List.length_take] at hj; omega
          rw [List.getElem_take] at e
          have h2 := (List.getElem?_eq_some_iff.mp ho1)
          obtain ⟨h3, h4⟩ := h2
          exact List.pairwise_iff_getElem.mp nod j i (by omega) h3 hj' (e.trans h4.symm)
        simp [this]
      rw [no]
      refine ⟨_, rfl, iteF ?_⟩
      exact ⟨some (.int (i : Nat)), some x2, rfl, sm5⟩
end
end K25L

set_option Elab.async false
set_option linter.all false
set_option maxRecDepth 100000
set_option maxHeartbeats 4000000
/-! K25, part LC: Choices.__init__ -/
namespace K25L
open PySem PySem.Spec PyProof.Rows L2
open ClX (CRead CVal pe_cval)
open K25 (top meth Opt Tbl OptH RowH TblH ChoH)
theorem scI : FnScope ["self", "options", "node", "value"] ["self", "options"] (defScope (meth 0)) := ⟨rfl, rfl, rfl, by decide +kernel, rfl, by decide +kernel, by decide +kernel⟩
/-- a table that Choices takes -/
structure TT (T : Tbl) : Prop where
  few : T.length ≤ 40
  nd : (T.map (·.1)).Nodup
  key : ∀ p ∈ T, NmT p.1 ∧ p.1 ≠ "root"
  row : ∀ p ∈ T, 1 ≤ p.2.length ∧ p.2.length ≤ 250 ∧ p.2.Nodup ∧ ∀ o ∈ p.2, OpT o ∧ ∀ q, o = some q → q.1 = "root" ∨ q.1 ∈ T.map (·.1)
/-- all but d as before -/
def But (d : Addr) (H H' : Hp) : Prop := ∀ b o, b ≠ d → H b = some o → H' b = some o
theorem But.trans {d : Addr} {H H' H2 : Hp} (h : But d H H') (h' : But d H' H2) : But d H H2 := fun b o n e => h' b o n (h b o n e)
theorem But.same {d : Addr} {H H' : Hp} (h : Same H H') : But d H H' := fun b o _ e => h b o e
theorem But.upd {d : Addr} {H : Hp} {o : HO} : But d H (L2.upd H d o) := fun b x n e => by rw [upd_ne n]; exact e
/-- no list, no tuple stands at d -/
def NoSeq (H : Hp) (d : Addr) : Prop := (∀ xs, H d ≠ some (.lst xs)) ∧ ∀ xs, H d ≠ some (.tup xs)
theorem NoSeq.dict {H : Hp} {d : Addr} {kvs : List (Key × V)} (h : H d = some (.dK kvs)) : NoSeq H d := ⟨fun _ z => (by rw [h] at z; cases z), fun _ z => (by rw [h] at z; cases z)⟩
theorem NoSeq.frz {H : Hp} {d : Addr} {o : Obj} {u : HO} (h : H d = some (.frz o u)) : NoSeq H d := ⟨fun _ z => (by rw [h] at z; cases z), fun _ z => (by rw [h] at z; cases z)⟩
theorem NoSeq.ins {H : Hp} {d C dx : Addr} {fs : List (PySem.Str × V)} (h : H d = some (.ins C dx fs)) : NoSeq H d := ⟨fun _ z => (by rw [h] at z; cases z), fun _ z => (by rw [h] at z; cases z)⟩
theorem NoSeq.new {H : Hp} {d : Addr} (h : H d = none) : NoSeq H d := ⟨fun _ z => (by rw [h] at z; cases z), fun _ z => (by rw [h] at z; cases z)⟩
theorem opt_but {d : Addr} {H H' : Hp} (n : NoSeq H d) (k : But d H H') {o : Opt} {v : V} (h : OptH H o v) : OptH H' o v := by
  cases o with
  | none => exact h
  | some p =>
    obtain ⟨t, rfl, e⟩ := h
    exact ⟨t, rfl, k t _ (fun z => n.2 _ (z ▸ e)) e⟩
theorem row_but {d : Addr} {H H' : Hp} (n : NoSeq H d) (k : But d H H') {os : List Opt} {v : V} (h : RowH H os v) : RowH H' os v := by
  obtain ⟨l, us, rfl, e, p, z⟩ := h
  exact ⟨l, us, rfl, k l _ (fun z => n.1 _ (z ▸ e)) e, Paired.mapP p fun _ _ q => opt_but n k q, z⟩
/-- a dict comprehension over a walk: Pv by the turn and the heap (the new dict at D within) -/
theorem dc_it {J : It} {n : Nat} {G : Hp → Prop} {Y : Nat → Hp → V → Hp → Prop} (w : Walk J n G Y) {g : TG} {tt : L2.TT} {tk tv : TE} {vs : List Nat} {σ : L2.St} {H1 : Hp} {D : Addr} {Qd : Hp → Prop} (Pv : Nat → Hp → Prop) (h0 : Pv 0 (upd H1 D (.dK []))) (hG : ∀ i H, i ≤ n → Pv i H → G H)
    (hs : ∀ i x H H', i < n → Pv i H → Y i H x H' → g x (wipe σ vs) H' fun σ2 H2 => wipe σ2 vs = wipe σ vs ∧ tt σ2 H2 fun b H3 =>
      if b = true then tk σ2 H3 fun y H4 => tv σ2 H4 fun z H5 => ∃ kvs k, y = kV k ∧ H5 D = some (.dK kvs) ∧ kvs.length < sizeLine ∧ Pv (i + 1) (upd H5 D (.dK (putK kvs k z))) else Pv (i + 1) H3) (hd : ∀ H, Pv n H → Qd H) :
    ∃ W : Nat → Nat → Hp → Prop, (∃ m, W 0 m (upd H1 D (.dK []))) ∧ ∀ i m H, W i m H →
      (J.stop i H ∧ Qd H) ∨ (J.go i H ∧ ∃ Nx : Hp → Prop, (∀ H', Nx H' → ∃ m', m' < m ∧ W (i + 1) m' H') ∧ ∀ x H', J.yld i H x H' → g x (wipe σ vs) H' fun σ2 H2 => wipe σ2 vs = wipe σ vs ∧ tt σ2 H2 fun b H3 =>
        if b = true then tk σ2 H3 fun y H4 => tv σ2 H4 fun z H5 => ∃ kvs k, y = kV k ∧ H5 D = some (.dK kvs) ∧ kvs.length < sizeLine ∧ Nx (upd H5 D (.dK (putK kvs k z))) else Nx H3) := by
  refine ⟨fun i m H => m = n - i ∧ i ≤ n ∧ Pv i H, ⟨n, by simp, Nat.zero_le _, h0⟩, ?_⟩
  rintro i m H ⟨rfl, hi, p⟩
  have q := hG i H hi p
  by_cases hlt : i < n
  · exact .inr ⟨w.goes i H hlt q, Pv (i + 1), fun H' p' => ⟨n - (i + 1), by omega, rfl, hlt, p'⟩, fun x H' y => hs i x H H' hlt p (w.yields i H x H' hlt q y)⟩
  · have e : i = n := by omega
    subst e
    exact .inl ⟨w.stops H q, hd H p⟩
theorem valV_cons {κ : Type} [DecidableEq κ] (k : κ) (v : V) (r : List (κ × V)) (j : κ) : valV ((k, v) :: r) j = if k = j then some v else valV r j := by
  unfold valV
  rw [List.find?_cons]
  by_cases h : k = j
  · rw [if_pos h]; simp [h]
  · rw [if_neg h]; simp [h]
theorem keys_of {H : Hp} {T : Tbl} {kvs : List (Key × V)} (p : Paired (fun (p : PySem.Str × List Opt) (q : Key × V) => q.1 = .inr p.1 ∧ RowH H p.2 q.2) T kvs) (x : PySem.Str) (h : x ∈ T.map (·.1)) : (valV kvs (.inr x)).isSome = true := by
  induction p with
  | nil => cases h
  | @cons a b l1 l2 r t ih =>
    obtain ⟨k, v⟩ := b
    rw [valV_cons]
    by_cases e : k = .inr x
    · rw [if_pos e]; rfl
    · rw [if_neg e]
      refine ih ?_
      rcases List.mem_cons.mp h with h | h
      · exact absurd (r.1.trans (by rw [h])) e
      · exact h
theorem keys_no {H : Hp} {T : Tbl} {kvs : List (Key × V)} (p : Paired (fun (p : PySem.Str × List Opt) (q : Key × V) => q.1 = .inr p.1 ∧ RowH H p.2 q.2) T kvs) (x : PySem.Str) (h : x ∉ T.map (·.1)) : valV kvs (.inr x) = none := by
  induction p with
  | nil => exact valV_nil
  | @cons a b l1 l2 r t ih =>
    obtain ⟨k, v⟩ := b
    have h1 : a.1 ≠ x := fun e => h (by rw [← e]; exact List.mem_cons_self)
    rw [valV_cons, if_neg (fun e => h1 (Sum.inr.inj (r.1.symm.trans e)))]
    exact ih fun z => h (List.mem_cons_of_mem _ z)
section
variable {P : Program} {w : World} {K : PySem.W.Frag} {mg : PySem.Str → Option Value} {base : Heap} {f C : Addr} {fd : FuncData}
def rCp (K : PySem.W.Frag) : List V → Hp → VK → Prop := fun xs H Q => ∃ p ys, xs = [.ref p] ∧ (SqL K H p ys ∨ SqT K H p ys) ∧ ∀ l, H l = none → Q (.ref l) (upd H l (.lst ys))
theorem cl_of {X : Cx} (h : X.K = K) : CallR X (.type "list") (rCp K) := by
  subst h
  exact call_list_of
def spIn (C : Addr) : Sp := fun vs H Q _ => ∃ x d dx T, vs = [.ref x, .ref d] ∧ H x = some (.ins C dx []) ∧ TblH H d T ∧ TT T ∧ ∀ H' d2, But x H H' → H' x = some (.ins C dx [("own_options", .ref d2)]) → TblH H' d2 T → Q .non H'
theorem ok_init {f1 f2 CT : Addr} {fd1 fd2 : FuncData} {mcT : Value} (F : Fun K "__init__" "Choices.__init__" (meth 0) f fd) (C1 : Cal K mg "is_node" 14 ["value"] f1 fd1) (G1 : FnOk P w K mg base CX0 2 f1 fd1 ["value"] spNd) (C2 : Cal K mg "require_options" 30 ["node", "value", "nodes"] f2 fd2) (G2 : FnOk P w K mg base CX0 4 f2 fd2 ["node", "value", "nodes"] spRo)
    (c : Cls K C) (na : NoAttr K C "own_options") (mi : mg "isinstance" = none) (md : mg "dict" = none) (ml : mg "len" = none) (mls : mg "list" = none) (mT : mg "Tree" = some (.ref CT)) (rT : CRead K CT mcT) (vT : ∃ u, CVal K CT mcT "MAX_NODES" (.int 40) u) : FnOk P w K mg base CX0 5 f fd ["self", "options"] (spIn C) := by
  obtain ⟨uT, vT⟩ := vT
  have nd := scI.nd
  refine F.ok scI (fun vs H Q E h => ?_) (fun cdv A outer s H vs Q E hr h => ?_)
  · obtain ⟨_, _, _, _, rfl, _⟩ := h
    rfl
  · obtain ⟨x, d, dx, T, rfl, hx, ⟨kvs, hd, pr⟩, ok, q⟩ := h
    have hlen := pr.length
    refine ⟨_, pss_cons (ps_if (pw_or (pt_not (pt_val (pe_callB call_isi (by rfl) mi (by kernel_rfl) (pa_cons (pv 1) (pa_cons (pe_bltn (v := .ty "dict") (by rfl) md (by kernel_rfl) rfl) pa_nil)))))
        (pw_or1 (pt_cmpR op_gt (pe_callB call_lenD (by rfl) ml PySem.boot_len (pa_cons (pv 1) pa_nil)) (pe_cval (pe_glob (v := .ref CT) (by rfl) mT rfl)) (nomark _)))).pt pss_never pss_nil)
      (pss_cons (ps_lock (ps_for PassesOwn.never rfl (pi_items (pv 1)) (pg_tup rfl (pgs_cons (pg_name (i := 2) nd rfl (Or.inl rfl)) (pgs_cons (pg_name (i := 3) nd rfl (Or.inl rfl)) pgs_nil)))
        (pss_cons (ps_if (pt_not (pt_val (pe_call G1 (hr.mono (by decide)) (by rfl) C1.at_ C1.fn.kp C1.bs .nil pass0 (pa_cons (pv 2) pa_nil)))) pss_never pss_nil)
        (pss_one (ps_expr (pe_call G2 hr (by rfl) C2.at_ C2.fn.kp C2.bs .nil pass0 (pa_cons (pv 2) (pa_cons (pv 3) (pa_cons (pv 1) pa_nil)))))))))
      (pss_one (ps_fld (pv 0) (pe_lock (pe_dc (own := [("node", 2), ("value", 3)]) (g := gTup K 2 (gCons (gName 2) (gCons (gName 3) gNil))) (tt := tYes) rfl nd (pi_items (pv 1)) (blkOk_by (N := ["self", "options", "node", "value"]) (sc := defScope (meth 0)) (by decide +kernel))
        (fun _ _ _ _ _ => pg_tup rfl (pgs_cons (pg_name (i := 2) nd rfl (Or.inl rfl)) (pgs_cons (pg_name (i := 3) nd rfl (Or.inl rfl)) pgs_nil))) (fun _ _ _ _ _ => pts_nil) (fun _ _ _ _ _ => pv 2) (fun _ _ _ _ _ => pe_callTy (cl_of (K := K) rfl) (by rfl) mls (by kernel_rfl) (pa_cons (pv 3) pa_nil)))) rfl))), ?_⟩
    refine ⟨.ref d, rfl, .ref d, .ty "dict", .type "dict", .type "dict", true, rfl, .ty _, .base (.dK hd), kit_ty (by decide +kernel), true, rfl, iteF ?_⟩
    refine ⟨.ref d, rfl, d, kvs, rfl, hd, CT, mcT, .int 40, uT, rfl, rT, vT, _, _, rfl, rfl, _, rfl, ?_⟩
    rw [decide_eq_false (show ¬ ((40 : Int) < (kvs.length : Int)) by have := ok.few; omega)]
    refine iteF ?_
    have xd : x ≠ d := fun e => by rw [e, hd] at hx; cases hx
    -- the loop over the items
    refine ⟨d, _, hd, trivial, fun od => ?_⟩
    have nsd := NoSeq.dict hd
    have b0 : But d H (upd H d (.frz od (.dK kvs))) := .upd
    refine ⟨.ref d, rfl, d, od, kvs, rfl, upd_same, ?_⟩
    refine for_it (walk_items (kvs := kvs)) (fun i σ H' => ∃ y2 y3, σ = [some (.ref x), some (.ref d), y2, y3] ∧ But d H H' ∧ H' d = some (.frz od (.dK kvs))) ⟨none, none, rfl, b0, upd_same⟩ (fun i σ H' _ ⟨_, _, _, _, e⟩ => e) (fun i v σ H2 H3 hi ⟨y2, y3, e, bt, fz⟩ y => ?_) fun σ H2 ⟨y2, y3, e, bt, fz⟩ => ⟨fz, ?_⟩
    · subst e
      obtain ⟨t, k1, v1, rfl, nT, rfl, h1, h2⟩ := y
      obtain ⟨kv, hkv, e1⟩ := Option.map_eq_some_iff.mp h1
      obtain ⟨kv', hkv', e2⟩ := Option.map_eq_some_iff.mp h2
      rw [hkv] at hkv'
      cases hkv'
      obtain ⟨p, hp, r1, r2⟩ := K25.paired_get i pr hkv
      rw [r1] at e1
      subst e1 e2
      have pT : p ∈ T := List.mem_of_getElem? hp
      obtain ⟨k1, k2⟩ := ok.key p pT
      obtain ⟨w1, w2, w3, w4⟩ := ok.row p pT
      have td : d ≠ t := ne_of_none fz nT
      have b4 := bt.trans (But.same (same_upd (o := .tup [kV (.inr p.1), kv.2]) nT))
      have f4 : (upd H2 t (.tup [kV (.inr p.1), kv.2])) d = some (.frz od (.dK kvs)) := by rw [upd_ne td]; exact fz
      refine ⟨t, [kV (.inr p.1), kv.2], rfl, .inl (.inl upd_same), rfl, kV (.inr p.1), [kv.2], rfl, kv.2, [], rfl, rfl, ?_⟩
      generalize upd H2 t (.tup [kV (.inr p.1), kv.2]) = H4 at b4 f4
      refine ⟨.str p.1, rfl, p.1, rfl, k1, k2, fun H5 s5 => ⟨true, rfl, iteF ?_⟩⟩
      have b5 := b4.trans (But.same s5)
      obtain ⟨l, us, el, hl, prl, _⟩ := row_but nsd b5 r2
      refine ⟨.str p.1, rfl, kv.2, rfl, .ref d, rfl, p.1, l, d, kvs, p.2, us, by rw [el]; rfl, .inr ⟨od, s5 _ _ f4⟩, hl, prl, w1, w2, w3, fun o ho => ⟨(w4 o ho).1, ?_⟩, fun H6 s6 => ?_⟩
      · cases o with
        | none => trivial
        | some qq => exact ((w4 _ ho).2 qq rfl).imp id (keys_of pr _)
      · exact ⟨_, _, rfl, b5.trans (But.same s6), s6 _ _ (s5 _ _ f4)⟩
    · subst e
      have b3 : Same H (upd H2 d (.dK kvs)) := fun b o e => by
        by_cases z : b = d
        · rw [z] at e ⊢
          rw [hd] at e
          cases e
          exact upd_same
        · rw [upd_ne z]
          exact bt b o z e
      have d3 : (upd H2 d (.dK kvs)) d = some (.dK kvs) := upd_same
      generalize upd H2 d (.dK kvs) = H3 at b3 d3
      refine ⟨d, _, d3, trivial, fun od2 => ?_⟩
      have c0 : But d H (upd H3 d (.frz od2 (.dK kvs))) := (But.same b3).trans .upd
      have z0 : (upd H3 d (.frz od2 (.dK kvs))) d = some (.frz od2 (.dK kvs)) := upd_same
      generalize upd H3 d (.frz od2 (.dK kvs)) = H4 at c0 z0
      refine ⟨.ref d, rfl, d, od2, kvs, rfl, z0, fun D2 nD => ?_⟩
      have dD : d ≠ D2 := ne_of_none z0 nD
      refine dc_it (walk_items (kvs := kvs)) (fun i H' => But d H H' ∧ H' d = some (.frz od2 (.dK kvs)) ∧ ∃ ks, H' D2 = some (.dK ks) ∧ Paired (fun (p : PySem.Str × List Opt) (q : Key × V) => q.1 = .inr p.1 ∧ RowH H' p.2 q.2) (T.take i) ks) ⟨c0.trans (But.same (same_upd nD)), by rw [upd_ne dD]; exact z0, [], upd_same, by rw [List.take_zero]; exact .nil⟩ (fun i H' _ h => h.2.1) (fun i v H5 H6 hi ⟨bt, fz, ks, hks, prk⟩ y => ?_) fun H5 ⟨bt, fz, ks, hks, prk⟩ => ⟨fz, ?_⟩
      · obtain ⟨t, k1, v1, rfl, nT, rfl, h1, h2⟩ := y
        obtain ⟨kv, hkv, e1⟩ := Option.map_eq_some_iff.mp h1
        obtain ⟨kv', hkv', e2⟩ := Option.map_eq_some_iff.mp h2
        rw [hkv] at hkv'
        cases hkv'
        obtain ⟨p, hp, r1, r2⟩ := K25.paired_get i pr hkv
        rw [r1] at e1
        subst e1 e2
        have pT : p ∈ T := List.mem_of_getElem? hp
        have td : d ≠ t := ne_of_none fz nT
        have Dt : D2 ≠ t := ne_of_none hks nT
        have lenk := prk.length
        rw [List.length_take] at lenk
        have few := ok.few
        have iT := (List.getElem?_eq_some_iff.mp hp).1
        refine ⟨t, [kV (.inr p.1), kv.2], rfl, .inl (.inl upd_same), rfl, kV (.inr p.1), [kv.2], rfl, kv.2, [], rfl, rfl, rfl, yes ?_⟩
        have s6 : Same H5 (upd H5 t (.tup [kV (.inr p.1), kv.2])) := same_upd nT
        generalize upd H5 t (.tup [kV (.inr p.1), kv.2]) = H6 at s6
        obtain ⟨l, us, el, hl, prl, _⟩ := row_but nsd (bt.trans (But.same s6)) r2
        refine ⟨.str p.1, rfl, kv.2, rfl, l, us, by rw [el], .inl (.inl (.inl hl)), fun q nq => ⟨ks, .inr p.1, rfl, ?_, ?_, ?_⟩⟩
        · exact same_upd nq _ _ (s6 _ _ hks)
        · rw [sizeLine_eq]; omega
        · have s7 : Same H5 (upd H6 q (.lst us)) := s6.trans (same_upd nq)
          have q7 : (upd H6 q (.lst us)) q = some (.lst us) := upd_same
          have Dq : D2 ≠ q := ne_of_none (s6 _ _ hks) nq
          generalize upd H6 q (.lst us) = H7 at s7 q7
          have kn : valV ks (.inr p.1) = none := keys_no prk _ fun hm => by
            obtain ⟨p', hp', e⟩ := List.mem_map.mp hm
            obtain ⟨j, hj, e'⟩ := List.mem_iff_getElem.mp hp'
            rw [List.length_take] at hj
            rw [List.getElem_take] at e'
            obtain ⟨hi3, hi4⟩ := List.getElem?_eq_some_iff.mp hp
            have := List.pairwise_iff_getElem.mp ok.nd j i (by rw [List.length_map]; omega) (by rw [List.length_map]; exact hi3) (by omega)
            rw [List.getElem_map, List.getElem_map, e', hi4] at this
            exact this e
          rw [putK_new _ kn]
          have k9 : But D2 H5 (upd H7 D2 (.dK (ks ++ [(.inr p.1, .ref q)]))) := (But.same s7).trans .upd
          have D9 : (upd H7 D2 (.dK (ks ++ [(.inr p.1, .ref q)]))) D2 = some (.dK (ks ++ [(.inr p.1, .ref q)])) := upd_same
          have q9 : (upd H7 D2 (.dK (ks ++ [(.inr p.1, .ref q)]))) q = some (.lst us) := by rw [upd_ne (Ne.symm Dq)]; exact q7
          have d9 : (upd H7 D2 (.dK (ks ++ [(.inr p.1, .ref q)]))) d = some (.frz od2 (.dK kvs)) := k9 d _ dD fz
          generalize upd H7 D2 (.dK (ks ++ [(.inr p.1, .ref q)])) = H9 at k9 D9 q9 d9
          have bt9 : But d H H9 := fun b o nb e => k9 b o (fun z => by have := c0 b o nb e; rw [z, nD] at this; cases this) (bt b o nb e)
          refine ⟨bt9, d9, _, D9, ?_⟩
          rw [List.take_add_one, hp]
          refine K25.paired_append (Paired.mapP prk fun _ _ z => ⟨z.1, row_but (NoSeq.dict hks) k9 z.2⟩) (.cons ⟨rfl, q, us, rfl, q9, ?_, (ok.row p pT).2.1⟩ .nil)
          obtain ⟨l', us', el', hl', prl', _⟩ := row_but nsd bt9 r2
          have : us' = us := by
            rw [el] at el'
            cases el'
            have h3 := k9 l _ (fun z => by rw [z] at hl; have := s6 _ _ hks; rw [hl] at this; cases this) (show H5 l = some (.lst us) from ?_)
            · rw [hl'] at h3
              cases h3
              rfl
            · obtain ⟨l2, us2, el2, hl2, _, _⟩ := row_but nsd bt r2
              rw [el] at el2
              cases el2
              have := s6 _ _ hl2
              rw [hl] at this
              cases this
              exact hl2
          rw [this] at prl'
          exact prl'
      · rw [← hlen, List.take_length] at prk
        have xD : x ≠ D2 := fun z => by have := c0 x _ xd hx; rw [z, nD] at this; cases this
        have x5 := bt x _ xd hx
        have nf := NoSeq.frz fz
        have k7 : But d H5 (upd H5 d (.dK kvs)) := .upd
        have d7 : (upd H5 d (.dK kvs)) d = some (.dK kvs) := upd_same
        generalize upd H5 d (.dK kvs) = H7 at k7 d7
        have x7 := k7 x _ xd x5
        refine ⟨.ref x, rfl, x, C, dx, [], rfl, x7, c, na, by show 0 < 1000; decide, ?_⟩
        have k8 : But x H7 (upd H7 x (.ins C dx (putF "own_options" (.ref D2) []))) := .upd
        refine q _ D2 (fun b o nb e => ?_) upd_same ⟨ks, ?_, ?_⟩
        · refine k8 b o nb ?_
          by_cases z : b = d
          · rw [z] at e ⊢
            rw [hd] at e
            cases e
            exact d7
          · exact k7 b o z (bt b o z e)
        · exact k8 D2 _ (Ne.symm xD) (k7 D2 _ (Ne.symm dD) hks)
        · exact Paired.mapP prk fun _ _ z => ⟨z.1, row_but (NoSeq.ins x7) k8 (row_but nf k7 z.2)⟩
end
end K25L

set_option Elab.async false
set_option linter.all false
set_option maxRecDepth 100000
set_option maxHeartbeats 4000000
/-! K25, part LD: _law_rng, _law_draw, _law_choice -/
namespace K25L
open PySem PySem.Spec PyProof.Rows L2
open K25 (top)
theorem sc39 : FnScope ["_law_script", "_law_k", "_law_cell"] ["_law_script", "_law_k"] (defScope (top 39)) := ⟨rfl, rfl, rfl, by decide +kernel, rfl, by decide +kernel, by decide +kernel⟩
theorem sc40 : FnScope ["_law_rng_here", "_law_many", "_law_digit", "_law_mixed"] ["_law_rng_here", "_law_many"] (defScope (top 40)) := ⟨rfl, rfl, rfl, by decide +kernel, rfl, by decide +kernel, by decide +kernel⟩
theorem sc41 : FnScope ["_law_rng_here", "_law_options"] ["_law_rng_here", "_law_options"] (defScope (top 41)) := ⟨rfl, rfl, rfl, by decide +kernel, rfl, by decide +kernel, by decide +kernel⟩
/-- the random state at r -/
def Rn (H : Hp) (r : Addr) : Prop := ∃ x y : Int, 0 ≤ x ∧ 0 ≤ y ∧ y < 2147483587 ∧ H r = some (.lst [.int x, .int y])
section
variable {P : Program} {w : World} {K : PySem.W.Frag} {mg : PySem.Str → Option Value} {base : Heap} {f : Addr} {fd : FuncData}
def spRng (K : PySem.W.Frag) : Sp := fun vs H Q _ => ∃ (a : Addr) (ns : List Int) (k : Nat), vs = [.ref a, .int k] ∧ SqL K H a (ns.map V.int) ∧ k < 100 ∧ ∀ H' r, Same H H' → H r = none → Rn H' r → Q (.ref r) H'
theorem ok_rng (F : F0 K "_law_rng" 39 f fd) (ml : mg "len" = none) (ma : mg "abs" = none) (mm : mg "max" = none) : FnOk P w K mg base CX0 1 f fd ["_law_script", "_law_k"] (spRng K) := by
  have nd := sc39.nd
  refine F.ok sc39 (fun vs H Q E h => ?_) (fun cdv A outer s H vs Q E hr h => ?_)
  · obtain ⟨_, _, _, rfl, _⟩ := h
    rfl
  · obtain ⟨a, ns, k, rfl, hS, hk, q⟩ := h
    refine ⟨_, pss_cons (ps_set (i := 2) nd rfl (.inl rfl) (pe_ifExp (pt_cmpR op_lt (pv 1) (pe_callB call_len_seq (by rfl) ml PySem.boot_len (pa_cons (pv 0) pa_nil)) (nomark _)) (pe_callB call_abs (by rfl) ma (by kernel_rfl) (pa_cons (pe_ix ix_list (pv 0) (pv 1) (fun _ _ => rfl)) pa_nil)) pe_int))
      (pss_one (ps_ret (pe_lst (pa_cons (pe_callB (call_max2 rfl) (by rfl) mm (by kernel_rfl) (pa_cons pe_int (pa_cons (pe_op op_sub (pv 2) (pe_op op_pow pe_int pe_int)) pa_nil)))
        (pa_cons (pe_op op_add (pe_op op_mod (pe_op op_pow (pe_op op_add (pe_op op_add (pe_op op_mod (pv 2) pe_int) (pe_op op_mul pe_int (pv 1))) pe_int) pe_int) pe_int) pe_int) pa_nil))))), ?_⟩
    have fin : ∀ (cell : Int), 0 ≤ cell → (tRet (tLst (tCons (tCB (fun xs H Q => ∃ i j, xs = [.int i, .int j] ∧ Q (.int (if j > i then j else i)) H) (tCons (tC (.int 0)) (tCons (tOp (rI0 fun i j => .int (i - j)) (tVar 2) (tOp (rI CPow fun i j => .int (i ^ j.toNat)) (tC (.int 10)) (tC (.int 18)))) tNil)))
        (tCons (tOp (rI0 fun i j => .int (i + j)) (tOp (rI (fun _ j => 0 < j) fun i j => .int (i % j)) (tOp (rI CPow fun i j => .int (i ^ j.toNat)) (tOp (rI0 fun i j => .int (i + j)) (tOp (rI0 fun i j => .int (i + j)) (tOp (rI (fun _ j => 0 < j) fun i j => .int (i % j)) (tVar 2) (tC (.int 2147483543))) (tOp (rI CMul fun i j => .int (i * j)) (tC (.int 101)) (tVar 1))) (tC (.int 7))) (tC (.int 2))) (tC (.int 2147483497))) (tC (.int 1))) tNil)))) { nx := fun _ H' => Q .non H', rt := Q } [some (.ref a), some (.int k), some (.int cell)] H := by
      intro cell hc
      have m0 : 0 ≤ cell % 2147483543 := Int.emod_nonneg _ (by decide)
      have m1 : cell % 2147483543 < 2147483543 := Int.emod_lt_of_pos _ (by decide)
      generalize hm : cell % 2147483543 = m at m0 m1
      have b0 : 0 ≤ m + 101 * (k : Int) + 7 := by omega
      have b1 : m + 101 * (k : Int) + 7 < 2 ^ 64 := by have : (2 : Int) ^ 64 = 18446744073709551616 := by decide
                                                       omega
      refine ⟨.int cell, rfl, 10, 18, rfl, rfl, ⟨by decide, by decide, by decide⟩, _, _, rfl, rfl, _, _, rfl, ?_⟩
      refine ⟨.int cell, rfl, _, _, rfl, rfl, (show (0 : Int) < 2147483543 by decide), .int k, rfl, _, _, rfl, rfl, .inl ⟨by decide, by decide⟩, _, _, rfl, rfl, _, _, rfl, rfl, _, _, rfl, rfl, ⟨by decide, by decide, ?_⟩, _, _, rfl, rfl, (show (0 : Int) < 2147483497 by decide), _, _, rfl, rfl, ?_⟩
      · rw [hm]; omega
      · refine ⟨by show 2 ≤ sizeLine; decide, fun r hr => ?_⟩
        refine q _ r (same_upd hr) hr ⟨_, _, ?_, ?_, ?_, upd_same⟩
        · split <;> omega
        · have := Int.emod_nonneg ((cell % 2147483543 + 101 * (k : Int) + 7) ^ (2 : Int).toNat) (show (2147483497 : Int) ≠ 0 by decide)
          omega
        · have := Int.emod_lt_of_pos ((cell % 2147483543 + 101 * (k : Int) + 7) ^ (2 : Int).toNat) (show (0 : Int) < 2147483497 by decide)
          omega
    refine ⟨.int k, rfl, .ref a, rfl, a, _, rfl, .inl hS, _, _, rfl, rfl, _, rfl, ite2 (fun e => ?_) (fun e => ?_)⟩
    · have hk' : k < ns.length := by
        have : (k : Int) < ((ns.map V.int).length : Int) := of_decide_eq_true e
        rw [List.length_map] at this
        omega
      have at_ : (ns.map V.int)[k]? = some (.int ns[k]) := by rw [List.getElem?_map, List.getElem?_eq_getElem hk']; rfl
      refine ⟨.ref a, rfl, .int k, rfl, a, _, _, _, rfl, rfl, hS, atI_nat at_, _, rfl, ?_⟩
      refine fin _ ?_
      split <;> omega
    · exact fin 0 (by decide)
/-- the random state turns, all else stands -/
def spDraw : Sp := fun vs H Q _ => ∃ (r : Addr) (m : Nat), vs = [.ref r, .int m] ∧ Rn H r ∧ 1 ≤ m ∧ m ≤ 1000 ∧ ∀ H' (d : Nat), d < m → But r H H' → Rn H' r → Q (.int d) H'
theorem small_div {i : Int} {m : Nat} (h1 : 1 ≤ m) (h2 : m ≤ 1000) : CDivP i (m : Int) := by
  refine ⟨by omega, ?_⟩
  unfold Builtin.divisionGoesByPylong
  have h3 : (m : Int).natAbs.log2 < 10 := by
    rw [Int.natAbs_natCast]
    exact (Nat.log2_lt (by omega)).mpr (by omega)
  have : decide ((if ((m : Int) == 0) = true then 0 else (m : Int).natAbs.log2 / 30 + 1) > 300) = false := by
    rw [decide_eq_false_iff_not]
    split <;> omega
  simp only [this, Bool.false_and]
theorem ok_draw (F : F0 K "_law_draw" 40 f fd) (md : mg "divmod" = none) : FnOk P w K mg base CX0 1 f fd ["_law_rng_here", "_law_many"] spDraw := by
  have nd := sc40.nd
  refine F.ok sc40 (fun vs H Q E h => ?_) (fun cdv A outer s H vs Q E hr h => ?_)
  · obtain ⟨_, _, rfl, _⟩ := h
    rfl
  · obtain ⟨r, m, rfl, ⟨x, y, hx, hy, hy2, hR⟩, m1, m2, q⟩ := h
    refine ⟨_, pss_cons (ps_if (pt_cmpR op_gt (pe_ix ix_list (pv 0) pe_int (fun _ _ => rfl)) pe_int (nomark _))
        (pss_cons (ps_asg (pe_callB call_divmodW (by rfl) md (by kernel_rfl) (pa_cons (pe_ix ix_list (pv 0) pe_int (fun _ _ => rfl)) (pa_cons (pv 1) pa_nil))) (pg_tup rfl (pgs_cons (pg_sub (pv 0) pe_int set_list (fun _ => rfl)) (pgs_cons (pg_name (i := 2) nd rfl (Or.inl rfl)) pgs_nil))))
        (pss_one (ps_ret (pv 2)))) pss_nil)
      (pss_cons (ps_asg (pe_op op_mod (pe_op op_add (pe_op op_mul (pe_ix ix_list (pv 0) pe_int (fun _ _ => rfl)) pe_int) pe_int) pe_int) (pg_sub (pv 0) pe_int set_list (fun _ => rfl)))
      (pss_cons (ps_set (i := 3) nd rfl (.inl rfl) (pe_op op_fdiv (pe_op op_mod (pe_op op_mul (pe_ix ix_list (pv 0) pe_int (fun _ _ => rfl)) (pe_ix ix_list (pv 0) pe_int (fun _ _ => rfl))) pe_int) pe_int))
      (pss_one (ps_ret (pe_ifExp (pt_cmpR op_lt (pv 1) (pe_op op_pow pe_int pe_int) (nomark _)) (pe_op op_mod (pv 3) (pv 1)) (pe_op op_mod (pe_op op_mul (pe_op op_add (pe_op op_mul (pv 3) pe_int) (pe_ix ix_list (pv 0) pe_int (fun _ _ => rfl))) pe_int) (pv 1))))))), ?_⟩
    have sq : ∀ {H' : Hp} {u v : V}, H' r = some (.lst [u, v]) → SqL K H' r [u, v] := fun e => .inl (.inl e)
    refine ⟨.ref r, rfl, r, _, 0, .int x, rfl, rfl, sq hR, atI_nat (j := 0) rfl, _, _, rfl, rfl, _, rfl, ite2 (fun e => ?_) (fun e => ?_)⟩
    · have x0 : 0 < x := of_decide_eq_true e
      refine ⟨.ref r, rfl, r, _, 0, .int x, rfl, rfl, sq hR, atI_nat (j := 0) rfl, .int m, rfl, x, m, rfl, small_div m1 m2, fun p hp => ?_⟩
      have pr : r ≠ p := ne_of_none hR hp
      refine ⟨p, [.int (x / m), .int (x % m)], rfl, .inl (.inl upd_same), rfl, .int (x / m), [.int (x % m)], rfl, .ref r, rfl, r, _, 0, 0, rfl, rfl, by rw [upd_ne pr]; exact hR, rfl, .int (x % m), [], rfl, rfl, ?_⟩
      have dm : 0 ≤ x % (m : Int) := Int.emod_nonneg _ (by omega)
      have dl : x % (m : Int) < m := Int.emod_lt_of_pos _ (by omega)
      obtain ⟨d, hd⟩ := Int.eq_ofNat_of_zero_le dm
      refine ⟨.int (x % m), rfl, ?_⟩
      rw [hd]
      refine q _ d (by omega) ((But.same (same_upd hp)).trans .upd) ⟨x / m, y, Int.ediv_nonneg (by omega) (by omega), hy, hy2, upd_same⟩
    · have y0 : 0 ≤ (y * 48271 + 10007) % 2147483587 := Int.emod_nonneg _ (by decide)
      have y1 : (y * 48271 + 10007) % 2147483587 < 2147483587 := Int.emod_lt_of_pos _ (by decide)
      have p64 : (2 : Int) ^ 64 = 18446744073709551616 := by decide
      refine ⟨.ref r, rfl, r, _, 1, .int y, rfl, rfl, sq hR, atI_nat (j := 1) rfl, _, _, rfl, rfl, .inl ⟨by omega, by omega⟩, _, _, rfl, rfl, _, _, rfl, rfl, (show (0 : Int) < 2147483587 by decide), .ref r, rfl, r, _, 1, 1, rfl, rfl, hR, rfl, ?_⟩
      have R1 : (upd H r (.lst (List.set [V.int x, V.int y] 1 (.int ((y * 48271 + 10007) % 2147483587))))) r = some (.lst [V.int x, V.int ((y * 48271 + 10007) % 2147483587)]) := upd_same
      have B1 : But r H (upd H r (.lst (List.set [V.int x, V.int y] 1 (.int ((y * 48271 + 10007) % 2147483587))))) := .upd
      generalize upd H r (.lst (List.set [V.int x, V.int y] 1 (.int ((y * 48271 + 10007) % 2147483587)))) = H1 at R1 B1
      generalize (y * 48271 + 10007) % 2147483587 = z at R1 y0 y1
      refine ⟨.ref r, rfl, r, _, 1, .int z, rfl, rfl, sq R1, atI_nat (j := 1) rfl, .ref r, rfl, r, _, 1, .int z, rfl, rfl, sq R1, atI_nat (j := 1) rfl, _, _, rfl, rfl, .inl ⟨by omega, by omega⟩, _, _, rfl, rfl, (show (0 : Int) < 2147483549 by decide), _, _, rfl, rfl, ⟨by decide, by decide⟩, ?_⟩
      refine ⟨.int m, rfl, 2, 20, rfl, rfl, ⟨by decide, by decide, by decide⟩, _, _, rfl, rfl, _, rfl, ?_⟩
      have p20 : (2 : Int) ^ (20 : Int).toNat = 1048576 := by decide
      rw [decide_eq_true (show (m : Int) < 2 ^ (20 : Int).toNat by omega)]
      refine iteT ⟨.int (z * z % 2147483549 / 11), rfl, .int m, rfl, z * z % 2147483549 / 11, m, rfl, rfl, (show (0 : Int) < m by omega), ?_⟩
      generalize z * z % 2147483549 / 11 = mx
      have dm : 0 ≤ mx % (m : Int) := Int.emod_nonneg _ (by omega)
      have dl : mx % (m : Int) < m := Int.emod_lt_of_pos _ (by omega)
      obtain ⟨d, hd⟩ := Int.eq_ofNat_of_zero_le dm
      show Q (.int (mx % (m : Int))) H1
      rw [hd]
      exact q _ d (by omega) B1 ⟨x, z, hx, y0, y1, R1⟩
/-- one of the options -/
def spChoice : Sp := fun vs H Q _ => ∃ (r a : Addr) (xs : List V), vs = [.ref r, .ref a] ∧ Rn H r ∧ H a = some (.lst xs) ∧ a ≠ r ∧ 1 ≤ xs.length ∧ xs.length ≤ 1000 ∧ ∀ H' v, v ∈ xs → But r H H' → Rn H' r → Q v H'
theorem ok_choice {f1 : Addr} {fd1 : FuncData} (F : F0 K "_law_choice" 41 f fd) (C1 : Cal K mg "_law_draw" 40 ["_law_rng_here", "_law_many"] f1 fd1) (G1 : FnOk P w K mg base CX0 1 f1 fd1 ["_law_rng_here", "_law_many"] spDraw) (ml : mg "len" = none) : FnOk P w K mg base CX0 2 f fd ["_law_rng_here", "_law_options"] spChoice := by
  have nd := sc41.nd
  refine F.ok sc41 (fun vs H Q E h => ?_) (fun cdv A outer s H vs Q E hr h => ?_)
  · obtain ⟨_, _, _, rfl, _⟩ := h
    rfl
  · obtain ⟨r, a, xs, rfl, hR, ha, ar, z1, z2, q⟩ := h
    refine ⟨_, pss_one (ps_ret (pe_ix ix_list (pv 1) (pe_call G1 hr (by rfl) C1.at_ C1.fn.kp C1.bs .nil pass0 (pa_cons (pv 0) (pa_cons (pe_callB call_len_seq (by rfl) ml PySem.boot_len (pa_cons (pv 1) pa_nil)) pa_nil))) (fun _ _ => rfl))), ?_⟩
    refine ⟨.ref a, rfl, .ref r, rfl, .ref a, rfl, a, xs, rfl, .inl (.inl (.inl ha)), r, xs.length, rfl, hR, z1, z2, fun H1 d hd bt R1 => ?_⟩
    refine ⟨a, xs, d, xs[d], rfl, rfl, .inl (.inl (bt _ _ ar ha)), atI_nat (List.getElem?_eq_getElem hd), ?_⟩
    exact q _ _ (List.getElem_mem hd) bt R1
end
end K25L

set_option Elab.async false
set_option linter.all false
set_option maxRecDepth 100000
set_option maxHeartbeats 4000000
/-! K25, part LE: _law_shuffled -/
namespace K25L
open PySem PySem.Spec PyProof.Rows L2
open K25 (top)
theorem sc42 : FnScope ["_law_rng_here", "_law_values", "_law_pool", "_law_k"] ["_law_rng_here", "_law_values"] (defScope (top 42)) := ⟨rfl, rfl, rfl, by decide +kernel, rfl, by decide +kernel, by decide +kernel⟩
theorem erase_perm {α : Type} : ∀ {l : List α} {i : Nat} (h : i < l.length), (l[i] :: l.eraseIdx i).Perm l
  | x :: l, 0, _ => .refl _
  | x :: l, i + 1, h => by
    rw [List.eraseIdx_cons_succ, List.getElem_cons_succ]
    exact (List.Perm.swap _ _ _).trans ((erase_perm (l := l) (i := i) (by simpa using h)).cons x)
section
variable {P : Program} {w : World} {K : PySem.W.Frag} {mg : PySem.Str → Option Value} {base : Heap} {f : Addr} {fd : FuncData}
def rLn (K : PySem.W.Frag) : List V → Hp → VK → Prop := fun xs H Q => ∃ p ys, xs = [.ref p] ∧ (SqL K H p ys ∨ SqT K H p ys) ∧ Q (.int ys.length) H
theorem ln_of {X : Cx} (h : X.K = K) : CallR X (.builtin "len") (rLn K) := by
  subst h
  exact call_len_seq
def spShuf : Sp := fun vs H Q _ => ∃ (r a : Addr) (xs : List V), vs = [.ref r, .ref a] ∧ Rn H r ∧ H a = some (.lst xs) ∧ a ≠ r ∧ xs.length ≤ 1000 ∧ ∀ H' l ys, But r H H' → Rn H' r → H l = none → H' l = some (.lst ys) → ys.Perm xs → Q (.ref l) H'
theorem ok_shuf {f1 : Addr} {fd1 : FuncData} (F : F0 K "_law_shuffled" 42 f fd) (C1 : Cal K mg "_law_draw" 40 ["_law_rng_here", "_law_many"] f1 fd1) (G1 : FnOk P w K mg base CX0 1 f1 fd1 ["_law_rng_here", "_law_many"] spDraw) (ml : mg "len" = none) (mr : mg "range" = none) (mls : mg "list" = none) : FnOk P w K mg base CX0 2 f fd ["_law_rng_here", "_law_values"] spShuf := by
  have nd := sc42.nd
  refine F.ok sc42 (fun vs H Q E h => ?_) (fun cdv A outer s H vs Q E hr h => ?_)
  · obtain ⟨_, _, _, rfl, _⟩ := h
    rfl
  · obtain ⟨r, a, xs, rfl, hR, ha, ar, z2, q⟩ := h
    refine ⟨_, pss_cons (ps_set (i := 2) nd rfl (.inr rfl) (pe_callTy (cl_of (K := K) rfl) (by rfl) mls (by kernel_rfl) (pa_cons (pv 1) pa_nil)))
      (pss_one (ps_ret (pe_lc (own := [("_law_k", 3)]) (g := gName 3) (tt := tYes) (te := tBM K "list" rPopAt (tVar 2) (tCons (tCall spDraw [] E0 (tCons (tVar 0) (tCons (tCB (rLn K) (tCons (tVar 2) tNil)) tNil))) tNil)) rfl nd (pi_range1 (by rfl) mr (pa_cons (pe_callB (ln_of (K := K) rfl) (by rfl) ml PySem.boot_len (pa_cons (pv 1) pa_nil)) pa_nil)) (blkOk_by (N := ["_law_rng_here", "_law_values", "_law_pool", "_law_k"]) (sc := defScope (top 42)) (by decide +kernel))
        (fun _ _ _ _ _ => pg_name (i := 3) nd rfl (Or.inl rfl)) (fun _ _ _ _ _ => pts_nil) (fun _ _ _ _ _ => pe_bm PySem.F.plainAttrs_list PySem.F.slot_list_pop PySem.F.type_list_pop mt_popAt (pv 2) (pa_cons (pe_call G1 hr (by rfl) C1.at_ C1.fn.kp C1.bs .nil pass0 (pa_cons (pv 0) (pa_cons (pe_callB (ln_of (K := K) rfl) (by rfl) ml PySem.boot_len (pa_cons (pv 2) pa_nil)) pa_nil))) pa_nil))))), ?_⟩
    refine ⟨.ref a, rfl, a, xs, rfl, .inl (.inl (.inl ha)), fun pl hpl => ?_⟩
    have s0 : Same H (upd H pl (.lst xs)) := same_upd hpl
    have p0 : (upd H pl (.lst xs)) pl = some (.lst xs) := upd_same
    have rpl : r ≠ pl := by obtain ⟨_, _, _, _, _, e⟩ := hR; exact ne_of_none e hpl
    generalize upd H pl (.lst xs) = H0 at s0 p0
    have line : (1000 : Nat) < sizeLine := by rw [sizeLine_eq]; decide
    refine ⟨.ref a, rfl, a, xs, rfl, .inl (.inl (.inl (s0 _ _ ha))), xs.length, rfl, by omega, by omega, fun D nD => ?_⟩
    have rD : r ≠ D := by obtain ⟨_, _, _, _, _, e⟩ := hR; exact ne_of_none (s0 _ _ e) nD
    have plD : pl ≠ D := ne_of_none p0 nD
    have nDH : H D = none := by
      cases e : H D with
      | none => rfl
      | some o => rw [s0 _ _ e] at nD; cases nD
    refine lc_it (walk_range (lo := 0) (n := (xs.length : Int).toNat)) (fun i H' => ∃ ys pool, H' D = some (.lst ys) ∧ H' pl = some (.lst pool) ∧ pool.length + i = xs.length ∧ ys.length = i ∧ (ys ++ pool).Perm xs ∧ But r H H' ∧ Rn H' r) ⟨[], xs, upd_same, by rw [upd_ne plD]; exact p0, rfl, rfl, .refl _, (But.same s0).trans (But.same (same_upd nD)), ?_⟩ (fun _ _ _ _ => trivial) (fun i v H1 H2 hi ⟨ys, pool, hD, hp, len, leny, perm, bt, R1⟩ y => ?_) fun H1 ⟨ys, pool, hD, hp, len, leny, perm, bt, R1⟩ => ?_
    · obtain ⟨x, y, h1, h2, h3, e⟩ := hR
      exact ⟨x, y, h1, h2, h3, by rw [upd_ne rD]; exact s0 _ _ e⟩
    · obtain ⟨rfl, rfl⟩ := y
      have hi : i < (xs.length : Int).toNat := hi
      rw [Int.toNat_natCast] at hi
      refine ⟨rfl, yes ⟨.ref pl, rfl, .inl ⟨rfl, pool, .inl (.inl hp)⟩, .ref r, rfl, .ref pl, rfl, pl, pool, rfl, .inl (.inl (.inl hp)), r, pool.length, rfl, R1, by omega, by omega, fun H3 d hd b3 R3 => ?_⟩⟩
      have hD3 := b3 D _ (Ne.symm rD) hD
      have hp3 := b3 pl _ (Ne.symm rpl) hp
      refine ⟨pl, pool, d, d, pool[d], rfl, rfl, hp3, by omega, by omega, ?_, List.getElem?_eq_getElem hd, ?_⟩
      · unfold seqIndex?
        rw [if_neg (show ¬ ((d : Nat) : Int) < 0 by omega)]
        simp [hd]
      · refine ⟨ys, by rw [upd_ne (Ne.symm plD)]; exact hD3, by omega, ys ++ [pool[d]], pool.eraseIdx d, upd_same, by rw [upd_ne plD, upd_same], by rw [List.length_eraseIdx_of_lt hd]; omega, by rw [List.length_append, leny]; rfl, ?_, ?_, ?_⟩
        · refine List.Perm.trans ?_ perm
          rw [List.append_assoc]
          refine List.Perm.append_left ys ?_
          exact erase_perm hd
        · intro b o nb e
          have bD : b ≠ D := ne_of_none e nDH
          have bp : b ≠ pl := ne_of_none e hpl
          rw [upd_ne bD, upd_ne bp]
          exact b3 b o nb (bt b o nb e)
        · obtain ⟨x, y, h1, h2, h3, e⟩ := R3
          exact ⟨x, y, h1, h2, h3, by rw [upd_ne rD, upd_ne rpl]; exact e⟩
    · have : pool = [] := List.eq_nil_of_length_eq_zero (by rw [Int.toNat_natCast] at len; omega)
      subst this
      rw [List.append_nil] at perm
      exact q H1 D ys bt R1 nDH hD perm
end
end K25L

set_option Elab.async false
set_option linter.all false
set_option maxRecDepth 100000
set_option maxHeartbeats 4000000
/-! K25, part ME: the law's names in plain Lean -/
namespace K25L
open PySem PySem.Spec PyProof.Rows L2
open TL (joinL tl_join join_eq tl)
abbrev ch (c : Nat) : PySem.Str := ⟨#[c]⟩
def Ltr (t : PySem.Str) : Prop := ∀ c ∈ t.cps.toList, c ∈ abc.cps.toList
theorem len_cps (t : PySem.Str) : t.length = t.cps.toList.length := rfl
theorem app_cps (i j : PySem.Str) : (i ++ j).cps.toList = i.cps.toList ++ j.cps.toList := by
  show (i.cps ++ j.cps).toList = _
  rw [Array.toList_append]
theorem str_ext {i j : PySem.Str} (h : i.cps.toList = j.cps.toList) : i = j := by
  obtain ⟨a⟩ := i
  obtain ⟨b⟩ := j
  have : a = b := Array.toList_inj.mp h
  rw [this]
theorem joinL_nil : ∀ ls : List (List Nat), joinL [] ls = ls.flatten
  | [] => rfl
  | [p] => by simp [joinL]
  | p :: q :: r => by
    show p ++ ([] ++ joinL [] (q :: r)) = p ++ (q :: r).flatten
    rw [joinL_nil (q :: r), List.nil_append]
theorem join_cps (ys : List PySem.Str) : (Txt.join "" ys).cps.toList = (ys.map fun y => y.cps.toList).flatten := by
  have h := tl_join "" ys
  rw [← join_eq] at h
  have e : tl (Txt.join "" ys) = (Txt.join "" ys).cps.toList := rfl
  rw [← e, h]
  exact joinL_nil _
/-- the k-th other name -/
def cand (nm : PySem.Str) (a b : Nat) : PySem.Str := cutS nm none (some 6) ++ ch a ++ ch b
theorem cut6 (nm : PySem.Str) : (cutS nm none (some 6)).cps.toList = nm.cps.toList.take 6 := by
  unfold cutS
  rw [HT.sIx_none]
  have : HT.sIx nm.length nm.length (some 6) = min 6 nm.length := HT.sIx_nat nm.length nm.length 6
  rw [this]
  show ((nm.cps.toList.drop 0).take (min 6 nm.length - 0)) = _
  rw [List.drop_zero, Nat.sub_zero, len_cps]
  exact (List.take_eq_take_min ..).symm
theorem cand_cps (nm : PySem.Str) (a b : Nat) : (cand nm a b).cps.toList = nm.cps.toList.take 6 ++ [a, b] := by
  unfold cand
  rw [app_cps, app_cps, cut6, List.append_assoc]
  rfl
theorem cand_nm {nm : PySem.Str} (h : Ltr nm) {a b : Nat} (ha : a ∈ abc.cps.toList) (hb : b ∈ abc.cps.toList) : NmT (cand nm a b) := by
  refine ⟨?_, ?_, fun c hc => ?_⟩
  · rw [len_cps, cand_cps, List.length_append]; simp
  · rw [len_cps, cand_cps, List.length_append, List.length_take]; simp; omega
  · rw [cand_cps] at hc
    rcases List.mem_append.mp hc with hc | hc
    · exact h c (List.mem_of_mem_take hc)
    · rcases List.mem_cons.mp hc with rfl | hc
      · exact ha
      · rw [List.mem_singleton.mp hc]; exact hb
theorem cand_inj {nm : PySem.Str} {a b a' b' : Nat} (h : cand nm a b = cand nm a' b') : a = a' ∧ b = b' := by
  have := congrArg (fun t => t.cps.toList) h
  simp only [cand_cps] at this
  have := List.append_cancel_left this
  simpa using this
def lt (i : Nat) : Nat := abc.cps.toList.getD i 0
theorem lt_at : ∀ i, i < 26 → abc.cps.toList[i]? = some (lt i) ∧ lt i ∈ abc.cps.toList := by decide +kernel
theorem lt_inj : ∀ i, i < 26 → ∀ j, j < 26 → lt i = lt j → i = j := by decide +kernel
def fresh (nm : PySem.Str) : List PySem.Str := [nm] ++ (List.range 676).map fun k => cand nm (lt (k / 26)) (lt (k % 26))
theorem fresh_nm {nm : PySem.Str} (h : NmT nm) : ∀ t ∈ fresh nm, NmT t := by
  intro t ht
  rcases List.mem_append.mp ht with ht | ht
  · rw [List.mem_singleton.mp ht]; exact h
  · obtain ⟨k, hk, rfl⟩ := List.mem_map.mp ht
    have hk := List.mem_range.mp hk
    exact cand_nm h.2.2 (lt_at _ (by omega)).2 (lt_at _ (by omega)).2
theorem cands_nodup (nm : PySem.Str) : ((List.range 676).map fun k => cand nm (lt (k / 26)) (lt (k % 26))).Nodup := by
  refine List.pairwise_map.mpr (List.Pairwise.imp_of_mem ?_ List.nodup_range)
  intro i j hi hj hne e
  obtain ⟨h1, h2⟩ := cand_inj e
  have hi := List.mem_range.mp hi
  have hj := List.mem_range.mp hj
  have e1 := lt_inj _ (by omega) _ (by omega) h1
  have e2 := lt_inj _ (by omega) _ (by omega) h2
  omega
theorem fresh_some {nm : PySem.Str} {us : List PySem.Str} (h : us.length ≤ 100) : ((fresh nm).filter fun t => !us.contains t && !decide (t = "root")) ≠ [] := by
  intro e
  have all : ∀ t ∈ (List.range 676).map (fun k => cand nm (lt (k / 26)) (lt (k % 26))), t ∈ (("root" : PySem.Str) :: us) := fun t ht => by
    have := List.filter_eq_nil_iff.mp e t (List.mem_append_right _ ht)
    by_cases hr : t = "root"
    · rw [hr]; exact List.mem_cons_self
    · by_cases hu : t ∈ us
      · exact List.mem_cons_of_mem _ hu
      · exfalso
        apply this
        rw [Bool.and_eq_true]
        refine ⟨?_, ?_⟩
        · rw [Bool.not_eq_true', ← Bool.not_eq_true]; intro z; exact hu (List.contains_iff_mem.mp z)
        · rw [decide_eq_false hr]; rfl
  have := K25.nodup_le (cands_nodup nm) all
  rw [List.length_map, List.length_range, List.length_cons] at this
  omega
end K25L

set_option Elab.async false
set_option linter.all false
set_option maxRecDepth 100000
set_option maxHeartbeats 4000000
/-! K25, part LF: _law_name -/
namespace K25L
open PySem PySem.Spec PyProof.Rows L2
open K25 (top)
theorem sc43 : FnScope ["_law_rng_here", "_law_used", "_law_letters", "_law_length", "_law_name_here", "_law_fresh", "_law_k", "_law_one"] ["_law_rng_here", "_law_used"] (defScope (top 43)) := ⟨rfl, rfl, rfl, by decide +kernel, rfl, by decide +kernel, by decide +kernel⟩
section
variable {P : Program} {w : World} {K : PySem.W.Frag} {mg : PySem.Str → Option Value} {base : Heap} {f : Addr} {fd : FuncData}
theorem ni_of {X : Cx} (h : X.K = K) : OpR X (compareOp .NotIn) (rIn K true) := by
  subst h
  exact op_notIn_seq
def spName : Sp := fun vs H Q _ => ∃ (r a : Addr) (us : List PySem.Str), vs = [.ref r, .ref a] ∧ Rn H r ∧ H a = some (.lst (us.map V.str)) ∧ a ≠ r ∧ us.length ≤ 100 ∧ ∀ H' t, But r H H' → Rn H' r → NmT t → t ≠ "root" → t ∉ us → Q (.str t) H'
theorem name_rest {H H5 : Hp} {Q : VK} {r a : Addr} {us : List PySem.Str} {n : Nat} {nm : PySem.Str} (hnm : NmT nm) (bt : But r H H5) (R5 : Rn H5 r) (ha : H a = some (.lst (us.map V.str))) (ar : a ≠ r) (z2 : us.length ≤ 100) (q : ∀ H' t, But r H H' → Rn H' r → NmT t → t ≠ "root" → t ∉ us → Q (.str t) H') :
    tSeq (tAsg (tOp rCat (tLst (tCons (tVar 4) tNil)) (tLc (iRng1 (tCons (tC (V.int 676)) tNil)) (gName 6) tYes
      (tOp (fun x y H Q => ∃ i j, x = V.str i ∧ y = V.str j ∧ i.length + j.length ≤ sizeLine ∧ Q (V.str (i ++ j)) H) (tOp (fun x y H Q => ∃ i j, x = V.str i ∧ y = V.str j ∧ i.length + j.length ≤ sizeLine ∧ Q (V.str (i ++ j)) H) (tSl rSlS (tVar 4) tNoPart (tPart (tC (V.int 6)))) (tOp rIxS (tVar 2) (tOp (rI CDiv fun i j => V.int (i / j)) (tVar 6) (tC (V.int 26)))))
        (tOp rIxS (tVar 2) (tOp (rI (fun _ j => 0 < j) fun i j => V.int (i % j)) (tVar 6) (tC (V.int 26))))) [6])) (gName 5))
      (tRet (tOp (rIxL K) (tLc (iList K (tVar 5)) (gName 7) (tAnd (tTest (tOp (rIn K true) (tVar 7) (tVar 1))) (tTest (tOp rNe (tVar 7) (tC (V.str "root"))))) (tVar 7) [7]) (tC (V.int 0))))
      { nx := fun _ H' => Q V.non H', rt := Q } [some (.ref r), some (.ref a), some (.str abc), some (.int n), some (.str nm), none, none, none] H5 := by
  have rn : ∀ {H H' : Hp}, Same H H' → Rn H r → Rn H' r := fun k ⟨x, y, h1, h2, h3, e⟩ => ⟨x, y, h1, h2, h3, k _ _ e⟩
  refine ⟨.str nm, rfl, by show 1 ≤ sizeLine; decide, fun p hp => ⟨676, rfl, by decide, by decide, fun D nD => ?_⟩⟩
  have s1 : Same H5 (upd H5 p (.lst [.str nm])) := same_upd hp
  have p1 : (upd H5 p (.lst [.str nm])) p = some (.lst [.str nm]) := upd_same
  generalize upd H5 p (.lst [.str nm]) = H6 at s1 p1 nD
  refine lc_it (walk_range (lo := 0) (n := (676 : Int).toNat)) (fun i H' => H' D = some (.lst (((List.range i).map fun k => cand nm (lt (k / 26)) (lt (k % 26))).map V.str)) ∧ Same H6 H') ⟨upd_same, same_upd nD⟩ (fun _ _ _ _ => trivial) (fun i v H3 H4 hi ⟨hD, sm⟩ y => ?_) fun H3 ⟨hD, sm⟩ => ?_
  · obtain ⟨rfl, rfl⟩ := y
    have hi : i < 676 := hi
    have l26 : (26 : Nat) ≤ sizeLine := by decide
    have l8 : nm.length ≤ sizeLine := Nat.le_trans hnm.2.1 (by decide)
    have c1 : (cutS nm none (some 6)).length ≤ 6 := by rw [len_cps, cut6, List.length_take]; omega
    have c2 : (cutS nm none (some 6) ++ ch (lt (i / 26))).length ≤ 7 := by rw [len_cps, app_cps, List.length_append, ← len_cps]; show _ + 1 ≤ 7; omega
    have line : (1000 : Nat) < sizeLine := by decide
    refine ⟨rfl, yes ⟨.str nm, rfl, 6, rfl, nm, rfl, l8, .str abc, rfl, .int (0 + (i : Nat)), rfl, 0 + (i : Nat), 26, rfl, rfl, ⟨by decide, by decide⟩, abc, ((i / 26 : Nat) : Int), lt (i / 26), rfl, congrArg V.int (by omega), by decide, atI_nat (lt_at _ (by omega)).1, _, _, rfl, rfl, by show _ + 1 ≤ sizeLine; omega, .str abc, rfl, .int (0 + (i : Nat)), rfl, 0 + (i : Nat), 26, rfl, rfl, (show (0 : Int) < 26 by decide), abc, ((i % 26 : Nat) : Int), lt (i % 26), rfl, congrArg V.int (by omega), by decide, atI_nat (lt_at _ (by omega)).1, _, _, rfl, rfl, (show (cutS nm none (some 6) ++ ch (lt (i / 26))).length + 1 ≤ sizeLine by omega), _, hD, ?_, ?_, ?_⟩⟩
    · rw [List.length_map, List.length_map, List.length_range]; omega
    · rw [upd_same, List.range_succ, List.map_append, List.map_append]; rfl
    · exact fun b o e => by rw [upd_ne (ne_of_none e nD)]; exact sm b o e
  · have hD : H3 D = some (.lst (((List.range 676).map fun k => cand nm (lt (k / 26)) (lt (k % 26))).map V.str)) := hD
    refine ⟨p, D, _, _, rfl, rfl, sm _ _ p1, hD, by rw [List.length_map, List.length_map, List.length_range]; show 1 + 676 ≤ sizeLine; decide, fun l hl => ?_⟩
    have s4 : Same H3 (upd H3 l (.lst ([V.str nm] ++ ((List.range 676).map fun k => cand nm (lt (k / 26)) (lt (k % 26))).map V.str))) := same_upd hl
    have l4 : (upd H3 l (.lst ([V.str nm] ++ ((List.range 676).map fun k => cand nm (lt (k / 26)) (lt (k % 26))).map V.str))) l = some (.lst ((fresh nm).map V.str)) := by
      rw [upd_same]
      unfold fresh
      rw [List.map_append]
      rfl
    have k4 := s1.trans (sm.trans s4)
    generalize upd H3 l (.lst ([V.str nm] ++ ((List.range 676).map fun k => cand nm (lt (k / 26)) (lt (k % 26))).map V.str)) = H4 at s4 l4 k4
    have b4 := bt.trans (But.same k4)
    have a4 := b4 _ _ ar ha
    refine ⟨.ref l, rfl, l, rfl, ⟨_, .inl (.inl l4)⟩, fun D2 nD2 => ?_⟩
    have nl : l ≠ D2 := ne_of_none l4 nD2
    have na : a ≠ D2 := ne_of_none a4 nD2
    have R4 := rn k4 R5
    have inE : ∀ t : PySem.Str, inV (.str t) (us.map V.str) = us.contains t := fun t => by
      unfold inV
      rw [List.any_map, Bool.eq_iff_iff, List.any_eq_true, List.contains_iff_mem]
      constructor
      · rintro ⟨y, hy, e⟩
        have : y = t := by simpa [eqV] using e
        rw [← this]; exact hy
      · exact fun h => ⟨t, h, by simp [eqV]⟩
    have flt : (us.map V.str).all flatV = true := by rw [List.all_map, List.all_eq_true]; intro _ _; rfl
    refine lc_it walk_list (fun i H' => H' D2 = some (.lst ((((fresh nm).take i).filter fun t => !us.contains t && !decide (t = "root")).map V.str)) ∧ Same H4 H') ⟨by rw [upd_same]; rfl, same_upd nD2⟩ (fun i H' _ ⟨_, sm⟩ => sm.seq (.inl (.inl l4))) (fun i v H7 H8 hi ⟨hD2, sm⟩ y => ?_) fun H7 ⟨hD2, sm⟩ => ?_
    · obtain ⟨rfl, hv⟩ := y
      rw [List.getElem?_map] at hv
      obtain ⟨t, ht, rfl⟩ := Option.map_eq_some_iff.mp hv
      have tk : ((fresh nm).take (i + 1)).filter (fun t => !us.contains t && !decide (t = "root")) = ((fresh nm).take i).filter (fun t => !us.contains t && !decide (t = "root")) ++ (if (!us.contains t && !decide (t = "root")) = true then [t] else []) := by
        rw [List.take_add_one, ht, List.filter_append]
        congr 1
        exact List.filter_cons
      have lenf : (((fresh nm).take i).filter fun t => !us.contains t && !decide (t = "root")).length < sizeLine := by
        refine Nat.lt_of_le_of_lt (List.length_filter_le _ _) (Nat.lt_of_le_of_lt (List.length_take_le ..) ?_)
        have : i < ((fresh nm).map V.str).length := hi
        rw [List.length_map] at this
        have l7 : (fresh nm).length = 677 := by unfold fresh; rw [List.length_append, List.length_map, List.length_range]; rfl
        have : (1000 : Nat) < sizeLine := by decide
        omega
      refine ⟨rfl, .str t, rfl, .ref a, rfl, a, us.map V.str, rfl, .inl (.inl (.inl (sm _ _ a4))), rfl, flt, _, rfl, ?_⟩
      rw [if_pos rfl, inE]
      cases hc : us.contains t with
      | true =>
        refine iteF (iteF ⟨?_, sm⟩)
        rw [tk, hc]
        simpa using hD2
      | false =>
        refine iteT ⟨.str t, rfl, rfl, _, rfl, ?_⟩
        by_cases hr : t = "root"
        · rw [decide_eq_true (by rw [hr])]
          refine iteF ⟨?_, sm⟩
          rw [tk, hc, decide_eq_true hr]
          simpa using hD2
        · rw [decide_eq_false (fun z => hr (V.str.inj z))]
          refine iteT ⟨.str t, rfl, _, hD2, by rw [List.length_map]; exact lenf, ?_, fun b o e => ?_⟩
          · rw [upd_same, tk, hc, decide_eq_false hr, List.map_append]
            rfl
          · rw [upd_ne (ne_of_none e nD2)]
            exact sm b o e
    · rw [List.length_map, List.take_length] at hD2
      cases hf : (fresh nm).filter fun t => !us.contains t && !decide (t = "root") with
      | nil => exact absurd hf (fresh_some z2)
      | cons t ts =>
        rw [hf] at hD2
        have mt : t ∈ (fresh nm).filter fun t => !us.contains t && !decide (t = "root") := by rw [hf]; exact List.mem_cons_self
        obtain ⟨m1, m2⟩ := List.mem_filter.mp mt
        rw [Bool.and_eq_true, Bool.not_eq_true', Bool.not_eq_true'] at m2
        refine ⟨D2, _, 0, .str t, rfl, rfl, .inl (.inl hD2), atI_nat (j := 0) rfl, ?_⟩
        refine q _ t (b4.trans (But.same sm)) (rn sm R4) (fresh_nm hnm t m1) (of_decide_eq_false m2.2) fun hu => ?_
        have := List.contains_iff_mem.mpr hu
        rw [m2.1] at this
        cases this
abbrev N43 : List PySem.Str := ["_law_rng_here", "_law_used", "_law_letters", "_law_length", "_law_name_here", "_law_fresh", "_law_k", "_law_one"]
theorem ok_name {f1 : Addr} {fd1 : FuncData} (F : F0 K "_law_name" 43 f fd) (C1 : Cal K mg "_law_draw" 40 ["_law_rng_here", "_law_many"] f1 fd1) (G1 : FnOk P w K mg base CX0 1 f1 fd1 ["_law_rng_here", "_law_many"] spDraw) (mr : mg "range" = none) : FnOk P w K mg base CX0 2 f fd ["_law_rng_here", "_law_used"] spName := by
  have nd := sc43.nd
  refine F.ok sc43 (fun vs H Q E h => ?_) (fun cdv A outer s H vs Q E hr h => ?_)
  · obtain ⟨_, _, _, rfl, _⟩ := h
    rfl
  · obtain ⟨r, a, us, rfl, hR, ha, ar, z2, q⟩ := h
    refine ⟨_, pss_cons (ps_set (i := 2) nd rfl (.inr rfl) pe_str)
      (pss_cons (ps_set (i := 3) nd rfl (.inl rfl) (pe_ix ix_list (pe_lst (pa_cons pe_int (pa_cons pe_int (pa_cons pe_int (pa_cons (pe_op op_add pe_int (pe_call G1 hr (by rfl) C1.at_ C1.fn.kp C1.bs .nil pass0 (pa_cons (pv 0) (pa_cons pe_int pa_nil)))) pa_nil))))) (pe_call G1 hr (by rfl) C1.at_ C1.fn.kp C1.bs .nil pass0 (pa_cons (pv 0) (pa_cons pe_int pa_nil))) (fun _ _ => rfl)))
      (pss_cons (ps_set (i := 4) nd rfl (.inr rfl) (pe_join pe_str (pe_lc (own := [("_law_k", 6)]) (g := gName 6) (tt := tYes) (te := tOp rIxS (tVar 2) (tCall spDraw [] E0 (tCons (tVar 0) (tCons (tC (.int 26)) tNil)))) rfl nd (pi_range1 (by rfl) mr (pa_cons (pv 3) pa_nil)) (blkOk_by (N := N43) (sc := defScope (top 43)) (by decide +kernel))
        (fun _ _ _ _ _ => pg_name (i := 6) nd rfl (Or.inl rfl)) (fun _ _ _ _ _ => pts_nil) (fun _ _ _ _ _ => pe_ix ix_str (pv 2) (pe_call G1 hr (by rfl) C1.at_ C1.fn.kp C1.bs .nil pass0 (pa_cons (pv 0) (pa_cons pe_int pa_nil))) (fun _ _ => rfl)))))
      (pss_cons (ps_if (pt_cmpR op_eq (pe_call G1 hr (by rfl) C1.at_ C1.fn.kp C1.bs .nil pass0 (pa_cons (pv 0) (pa_cons pe_int pa_nil))) pe_int (nomark _))
        (pss_one (ps_set (i := 4) nd rfl (.inr rfl) (pe_ix ix_list (pe_lst (pa_cons pe_str (pa_cons pe_str (pa_cons pe_str (pa_cons pe_str (pa_cons pe_str (pa_cons pe_str (pa_cons pe_str (pa_cons pe_str pa_nil))))))))) (pe_call G1 hr (by rfl) C1.at_ C1.fn.kp C1.bs .nil pass0 (pa_cons (pv 0) (pa_cons pe_int pa_nil))) (fun _ _ => rfl)))) pss_nil)
      (pss_cons (ps_set (i := 5) nd rfl (.inl rfl) (pe_op op_cat (pe_lst (pa_cons (pv 4) pa_nil)) (pe_lc (own := [("_law_k", 6)]) (g := gName 6) (tt := tYes) rfl nd (pi_range1 (by rfl) mr (pa_cons pe_int pa_nil)) (blkOk_by (N := N43) (sc := defScope (top 43)) (by decide +kernel))
        (fun _ _ _ _ _ => pg_name (i := 6) nd rfl (Or.inl rfl)) (fun _ _ _ _ _ => pts_nil) (fun _ _ _ _ _ => pe_op op_add_str (pe_op op_add_str (pe_slice sl_str (pv 4) po_none (po_some pe_int)) (pe_ix ix_str (pv 2) (pe_op op_fdiv (pv 6) pe_int) (fun _ _ => rfl))) (pe_ix ix_str (pv 2) (pe_op op_mod (pv 6) pe_int) (fun _ _ => rfl))))))
      (pss_one (ps_ret (pe_ix ix_list (pe_lc (own := [("_law_one", 7)]) (g := gName 7) rfl nd (pi_list (pv 5)) (blkOk_by (N := N43) (sc := defScope (top 43)) (by decide +kernel))
        (fun _ _ _ _ _ => pg_name (i := 7) nd rfl (Or.inl rfl)) (fun _ _ _ _ _ => pts_one ((pw_and (pt_cmpR (ni_of (K := K) rfl) (pv 7) (pv 1) (by rfl)) (pw_and1 (pt_cmpR op_ne (pv 7) pe_str (nomark _)))).pt)) (fun _ _ _ _ _ => pv 7)) pe_int (fun _ _ => rfl)))))))), ?_⟩
    have rn : ∀ {H H' : Hp}, Same H H' → Rn H r → Rn H' r := fun k ⟨x, y, h1, h2, h3, e⟩ => ⟨x, y, h1, h2, h3, k _ _ e⟩
    -- the length
    refine ⟨.ref r, rfl, r, 8, rfl, hR, by decide, by decide, fun H1 d1 hd1 b1 R1 => ⟨1, d1, rfl, rfl, by show 4 ≤ sizeLine; decide, fun l hl => ?_⟩⟩
    have s1 : Same H1 (upd H1 l (.lst [.int 1, .int 1, .int 2, .int (1 + d1)])) := same_upd hl
    have l1 : (upd H1 l (.lst [.int 1, .int 1, .int 2, .int (1 + d1)])) l = some (.lst [.int 1, .int 1, .int 2, .int (1 + d1)]) := upd_same
    have lr : l ≠ r := fun z => by obtain ⟨_, _, _, _, _, e⟩ := R1; rw [z, e] at hl; cases hl
    have R1' := rn s1 R1
    have bt1 := b1.trans (But.same s1)
    generalize upd H1 l (.lst [.int 1, .int 1, .int 2, .int (1 + d1)]) = H1' at s1 l1 R1' bt1
    refine ⟨.ref r, rfl, r, 4, rfl, R1', by decide, by decide, fun H2 d2 hd2 b2 R2 => ?_⟩
    obtain ⟨n, hn, n1, n2⟩ : ∃ n : Nat, [V.int 1, .int 1, .int 2, .int (1 + d1)][d2]? = some (.int n) ∧ 1 ≤ n ∧ n ≤ 8 := by
      have : d2 = 0 ∨ d2 = 1 ∨ d2 = 2 ∨ d2 = 3 := by omega
      rcases this with rfl | rfl | rfl | rfl
      · exact ⟨1, rfl, by decide, by decide⟩
      · exact ⟨1, rfl, by decide, by decide⟩
      · exact ⟨2, rfl, by decide, by decide⟩
      · exact ⟨1 + d1, by show some (V.int (1 + (d1 : Int))) = some (V.int ((1 + d1 : Nat) : Int)); rw [Int.natCast_add]; rfl, by omega, by omega⟩
    have bt2 := bt1.trans b2
    refine ⟨l, _, d2, .int n, rfl, rfl, .inl (.inl (b2 _ _ lr l1)), atI_nat hn, ?_⟩
    -- the letters
    refine ⟨⟨"", rfl⟩, .int n, rfl, n, rfl, by omega, by omega, fun D nD => ?_⟩
    have rD : r ≠ D := fun z => by obtain ⟨_, _, _, _, _, e⟩ := R2; rw [← z, e] at nD; cases nD
    have nDH : ∀ b o, b ≠ r → H b = some o → b ≠ D := fun b o nb e z => by have := bt2 b o nb e; rw [z, nD] at this; cases this
    refine lc_it (walk_range (lo := 0) (n := (n : Int).toNat)) (fun i H' => ∃ cs : List Nat, cs.length = i ∧ (∀ c ∈ cs, c ∈ abc.cps.toList) ∧ H' D = some (.lst (cs.map fun c => V.str (ch c))) ∧ But r H H' ∧ Rn H' r) ⟨[], rfl, fun _ h => (by cases h), upd_same, bt2.trans (But.same (same_upd nD)), rn (same_upd nD) R2⟩ (fun _ _ _ _ => trivial) (fun i v H3 H4 hi ⟨cs, lc, hc, hD, b3, R3⟩ y => ?_) fun H3 ⟨cs, lc, hc, hD, b3, R3⟩ => ?_
    · obtain ⟨rfl, rfl⟩ := y
      have hi : i < (n : Int).toNat := hi
      rw [Int.toNat_natCast] at hi
      refine ⟨rfl, yes ⟨.str abc, rfl, .ref r, rfl, r, 26, rfl, R3, by decide, by decide, fun H5 d hd b5 R5 => ⟨abc, d, lt d, rfl, rfl, by decide, atI_nat (lt_at d hd).1, cs.map (fun c => V.str (ch c)), b5 _ _ (Ne.symm rD) hD, ?_, cs ++ [lt d], ?_, fun c hm => ?_, ?_, ?_, ?_⟩⟩⟩
      · rw [List.length_map, sizeLine_eq]; omega
      · rw [List.length_append, lc]; rfl
      · rcases List.mem_append.mp hm with hm | hm
        · exact hc c hm
        · rw [List.mem_singleton.mp hm]; exact (lt_at d hd).2
      · rw [upd_same, List.map_append]; rfl
      · exact fun b o nb e => by rw [upd_ne (nDH b o nb e)]; exact b5 b o nb (b3 b o nb e)
      · obtain ⟨x, y, h1, h2, h3, e⟩ := R5
        exact ⟨x, y, h1, h2, h3, by rw [upd_ne rD]; exact e⟩
    rw [Int.toNat_natCast] at lc
    have jc : (Txt.join "" (cs.map ch)).cps.toList = cs := by
      rw [join_cps, List.map_map]
      show (cs.map fun c => [c]).flatten = cs
      clear lc hc hD
      induction cs with
      | nil => rfl
      | cons a r ih => rw [List.map_cons, List.flatten_cons, ih]; rfl
    have nm0 : NmT (Txt.join "" (cs.map ch)) := by
      refine ⟨?_, ?_, fun c h => hc c (by rw [jc] at h; exact h)⟩ <;> rw [len_cps, jc] <;> omega
    have ls : ((cs.map ch).map (·.length)).sum = cs.length := by
      clear jc nm0 lc hc hD
      induction cs with
      | nil => rfl
      | cons a r ih => rw [List.map_cons, List.map_cons, List.sum_cons, ih, List.length_cons]; show 1 + _ = _; omega
    refine ⟨"", D, cs.map ch, rfl, rfl, .inl (.inl (.inl (by rw [List.map_map]; exact hD))), ?_, ?_⟩
    · rw [ls, show (PySem.Str.ofString "").length = 0 from rfl, Nat.mul_zero]; omega
    generalize Txt.join "" (cs.map ch) = nm at nm0
    refine ⟨.ref r, rfl, r, 8, rfl, R3, by decide, by decide, fun H4 d hd b4 R4 => ⟨rfl, _, rfl, ite2 (fun e => ?_) (fun e => ?_)⟩⟩
    · refine ⟨by show 8 ≤ sizeLine; decide, fun l hl => ⟨.ref r, rfl, r, 8, rfl, rn (same_upd hl) R4, by decide, by decide, fun H5 d5 hd5 b5 R5 => ?_⟩⟩
      have lr : l ≠ r := fun z => by obtain ⟨_, _, _, _, _, e⟩ := R4; rw [z, e] at hl; cases hl
      have l5 := b5 _ _ lr upd_same
      have w8 : ∀ d, d < 8 → ∃ t : PySem.Str, [V.str "node", .str "limit", .str "grant", .str "height", .str "allow", .str "deny", .str "start", .str "rule"][d]? = some (.str t) ∧ NmT t := by
        have nmw : ∀ t ∈ ([("node" : PySem.Str), "limit", "grant", "height", "allow", "deny", "start", "rule"]), NmT t := by
          have : ∀ t ∈ ([("node" : PySem.Str), "limit", "grant", "height", "allow", "deny", "start", "rule"]), 1 ≤ t.length ∧ t.length ≤ 8 ∧ t.cps.toList.all (fun c => decide (c ∈ abc.cps.toList)) = true := by decide +kernel
          intro t ht
          obtain ⟨h1, h2, h3⟩ := this t ht
          exact ⟨h1, h2, fun c hc => of_decide_eq_true (List.all_eq_true.mp h3 c hc)⟩
        intro d hd
        have hd' : d < ([("node" : PySem.Str), "limit", "grant", "height", "allow", "deny", "start", "rule"]).length := hd
        refine ⟨([("node" : PySem.Str), "limit", "grant", "height", "allow", "deny", "start", "rule"])[d], ?_, nmw _ (List.getElem_mem hd')⟩
        show (([("node" : PySem.Str), "limit", "grant", "height", "allow", "deny", "start", "rule"]).map V.str)[d]? = _
        rw [List.getElem?_map, List.getElem?_eq_getElem hd']
        rfl
      obtain ⟨t, ht, hnt⟩ := w8 d5 hd5
      refine ⟨l, _, d5, .str t, rfl, rfl, .inl (.inl l5), atI_nat ht, ?_⟩
      exact name_rest hnt ((b3.trans b4).trans ((But.same (same_upd hl)).trans b5)) R5 ha ar z2 q
    · exact name_rest nm0 (b3.trans b4) R4 ha ar z2 q
end
end K25L

set_option Elab.async false
set_option linter.all false
set_option maxRecDepth 100000
set_option maxHeartbeats 4000000
/-! K25, part LG: _law_names -/
namespace K25L
open PySem PySem.Spec PyProof.Rows L2
open K25 (top)
theorem sc44 : FnScope ["_law_rng_here", "_law_many", "_law_used", "_law_found", "_law_k"] ["_law_rng_here", "_law_many", "_law_used"] (defScope (top 44)) := ⟨rfl, rfl, rfl, by decide +kernel, rfl, by decide +kernel, by decide +kernel⟩
theorem Rn.same {H H' : Hp} {r : Addr} (k : Same H H') (h : Rn H r) : Rn H' r := by
  obtain ⟨x, y, h1, h2, h3, e⟩ := h
  exact ⟨x, y, h1, h2, h3, k _ _ e⟩
theorem Rn.ne {H : Hp} {r d : Addr} (h : Rn H r) (n : H d = none) : r ≠ d := by
  obtain ⟨_, _, _, _, _, e⟩ := h
  exact ne_of_none e n
theorem Rn.upd {H : Hp} {r d : Addr} {o : HO} (h : Rn H r) (n : r ≠ d) : Rn (L2.upd H d o) r := by
  obtain ⟨x, y, h1, h2, h3, e⟩ := h
  exact ⟨x, y, h1, h2, h3, by rw [upd_ne n]; exact e⟩
section
variable {P : Program} {w : World} {K : PySem.W.Frag} {mg : PySem.Str → Option Value} {base : Heap} {f : Addr} {fd : FuncData}
def spNames : Sp := fun vs H Q _ => ∃ (r u : Addr) (n : Nat), vs = [.ref r, .int n, .ref u] ∧ Rn H r ∧ H u = some (.lst []) ∧ u ≠ r ∧ n ≤ 50 ∧ ∀ H' l (ns : List PySem.Str), But r H H' → Rn H' r → H l = none → H' l = some (.lst (ns.map V.str)) → ns.length = n → ns.Nodup → (∀ t ∈ ns, NmT t ∧ t ≠ "root") → Q (.ref l) H'
theorem ok_names {f1 : Addr} {fd1 : FuncData} (F : F0 K "_law_names" 44 f fd) (C1 : Cal K mg "_law_name" 43 ["_law_rng_here", "_law_used"] f1 fd1) (G1 : FnOk P w K mg base CX0 2 f1 fd1 ["_law_rng_here", "_law_used"] spName) (mr : mg "range" = none) : FnOk P w K mg base CX0 3 f fd ["_law_rng_here", "_law_many", "_law_used"] spNames := by
  have nd := sc44.nd
  refine F.ok sc44 (fun vs H Q E h => ?_) (fun cdv A outer s H vs Q E hr h => ?_)
  · obtain ⟨_, _, _, rfl, _⟩ := h
    rfl
  · obtain ⟨r, u, n, rfl, hR, hu, ur, hn, q⟩ := h
    refine ⟨_, pss_cons (ps_set (i := 3) nd rfl (.inl rfl) (pe_lst pa_nil))
      (pss_cons (ps_for PassesOwn.never rfl (pi_range1 (by rfl) mr (pa_cons (pv 1) pa_nil)) (pg_name (i := 4) nd rfl (Or.inl rfl))
        (pss_one (ps_expr (pe_bm PySem.F.plainAttrs_list PySem.F.slot_list_append PySem.F.type_list_append mt_append (pv 3) (pa_cons (pe_call G1 hr (by rfl) C1.at_ C1.fn.kp C1.bs .nil pass0 (pa_cons (pv 0) (pa_cons (pe_op op_cat (pv 2) (pv 3)) pa_nil))) pa_nil)))))
      (pss_one (ps_ret (pv 3)))), ?_⟩
    refine ⟨Nat.zero_le _, fun l hl => ?_⟩
    have rl := hR.ne hl
    have ul : u ≠ l := ne_of_none hu hl
    refine ⟨.int n, rfl, n, rfl, by omega, by omega, ?_⟩
    refine for_range (n := (n : Int).toNat) (fun i σ H' => ∃ (y4 : Option V) (ns : List PySem.Str), σ = [some (.ref r), some (.int n), some (.ref u), some (.ref l), y4] ∧ H' l = some (.lst (ns.map V.str)) ∧ ns.length = i ∧ ns.Nodup ∧ (∀ t ∈ ns, NmT t ∧ t ≠ "root") ∧ But r H H' ∧ Rn H' r) ⟨none, [], rfl, upd_same, rfl, List.nodup_nil, fun _ h => (by cases h), But.same (same_upd hl), hR.upd rl⟩ (fun i σ H1 hi ⟨y4, ns, e, h1, len, nodup, all, bt, R1⟩ => ?_) fun σ H1 ⟨y4, ns, e, h1, len, nodup, all, bt, R1⟩ => ?_
    · subst e
      rw [Int.toNat_natCast] at hi
      have line : (1000 : Nat) < sizeLine := by decide
      refine ⟨.ref l, rfl, .inl ⟨rfl, _, .inl (.inl h1)⟩, .ref r, rfl, .ref u, rfl, .ref l, rfl, u, l, [], ns.map V.str, rfl, rfl, bt _ _ ur hu, h1, by rw [List.length_map, List.length_nil]; omega, fun p hp => ?_⟩
      rw [List.nil_append]
      have pr := R1.ne hp
      refine ⟨r, p, ns, rfl, R1.same (same_upd hp), upd_same, Ne.symm pr, by omega, fun H2 t b2 R2 nt nr nu => ?_⟩
      have l2 := b2 l _ (Ne.symm rl) (same_upd hp _ _ h1)
      refine ⟨l, ns.map V.str, .str t, rfl, rfl, l2, by rw [List.length_map]; omega, ?_⟩
      refine ⟨_, ns ++ [t], rfl, by rw [upd_same, List.map_append]; rfl, by rw [List.length_append, len]; rfl, List.nodup_append.mpr ⟨nodup, List.pairwise_singleton _ _, fun x hx y hy e => nu (by rw [List.mem_singleton.mp hy] at e; rw [← e]; exact hx)⟩, fun x hx => ?_, fun b o nb e => ?_, R2.upd rl⟩
      · rcases List.mem_append.mp hx with hx | hx
        · exact all x hx
        · rw [List.mem_singleton.mp hx]; exact ⟨nt, nr⟩
      · rw [upd_ne (ne_of_none e hl)]
        exact b2 b o nb (same_upd hp _ _ (bt b o nb e))
    · subst e
      rw [Int.toNat_natCast] at len
      exact ⟨.ref l, rfl, q H1 l ns bt R1 hl h1 len nodup all⟩
end
end K25L

set_option Elab.async false
set_option linter.all false
set_option maxRecDepth 100000
set_option maxHeartbeats 4000000
/-! K25, part LH: _law_table -/
namespace K25L
open PySem PySem.Spec PyProof.Rows L2
open K25 (top Opt Tbl OptH RowH TblH)
abbrev N45 : List PySem.Str := ["_law_rng_here", "_law_many", "_law_most", "_law_top", "_law_names_here", "_law_found", "_law_product", "_law_name_here", "_law_some", "_law_turn", "_law_label", "_law_one"]
theorem sc45 : FnScope N45 ["_law_rng_here", "_law_many", "_law_most", "_law_top"] (defScope (top 45)) := ⟨rfl, rfl, rfl, by decide +kernel, rfl, by decide +kernel, by decide +kernel⟩
/-- rows with their addresses: p holds of each -/
def OptX (p : Addr → Prop) (H : Hp) (o : Opt) (v : V) : Prop := match o with | none => v = .non | some q => ∃ t, v = .ref t ∧ p t ∧ H t = some (.tup [.str q.1, .str q.2])
def RowX (p : Addr → Prop) (H : Hp) (os : List Opt) (v : V) : Prop := ∃ l us, v = .ref l ∧ p l ∧ H l = some (.lst us) ∧ Paired (OptX p H) os us
theorem OptX.keep {p p' : Addr → Prop} {H H' : Hp} (k : ∀ b o, p b → H b = some o → p' b ∧ H' b = some o) {o : Opt} {v : V} (h : OptX p H o v) : OptX p' H' o v := by
  cases o with
  | none => exact h
  | some q =>
    obtain ⟨t, e, h1, h2⟩ := h
    exact ⟨t, e, k t _ h1 h2⟩
theorem RowX.keep {p p' : Addr → Prop} {H H' : Hp} (k : ∀ b o, p b → H b = some o → p' b ∧ H' b = some o) {os : List Opt} {v : V} (h : RowX p H os v) : RowX p' H' os v := by
  obtain ⟨l, us, e, h1, h2, h3⟩ := h
  obtain ⟨k1, k2⟩ := k l _ h1 h2
  exact ⟨l, us, e, k1, k2, Paired.mapP h3 fun _ _ z => z.keep k⟩
theorem OptX.toH {p : Addr → Prop} {H : Hp} {o : Opt} {v : V} (h : OptX p H o v) : OptH H o v := by
  cases o with
  | none => exact h
  | some q =>
    obtain ⟨t, e, h1, h2⟩ := h
    exact ⟨t, e, h2⟩
theorem RowX.toH {p : Addr → Prop} {H : Hp} {os : List Opt} {v : V} (h : RowX p H os v) (z : os.length ≤ 250) : RowH H os v := by
  obtain ⟨l, us, e, h1, h2, h3⟩ := h
  exact ⟨l, us, e, h2, Paired.mapP h3 fun _ _ z => z.toH, z⟩
def RowsX (p : Addr → Prop) (H : Hp) (T : Tbl) (kvs : List (Key × V)) : Prop := Paired (fun (q : PySem.Str × List Opt) (kv : Key × V) => kv.1 = .inr q.1 ∧ RowX p H q.2 kv.2) T kvs
theorem RowsX.keep {p p' : Addr → Prop} {H H' : Hp} (k : ∀ b o, p b → H b = some o → p' b ∧ H' b = some o) {T : Tbl} {kvs : List (Key × V)} (h : RowsX p H T kvs) : RowsX p' H' T kvs := Paired.mapP h fun _ _ z => ⟨z.1, z.2.keep k⟩
theorem rows_no {α : Type} {R : PySem.Str × α → Key × V → Prop} {T : List (PySem.Str × α)} {kvs : List (Key × V)} (p : Paired (fun p q => q.1 = .inr p.1 ∧ R p q) T kvs) (x : PySem.Str) (h : x ∉ T.map (·.1)) : valV kvs (.inr x) = none := by
  induction p with
  | nil => exact valV_nil
  | @cons a b l1 l2 r t ih =>
    obtain ⟨k, v⟩ := b
    have h1 : a.1 ≠ x := fun e => h (by rw [← e]; exact List.mem_cons_self)
    rw [valV_cons, if_neg (fun e => h1 (Sum.inr.inj (r.1.symm.trans e)))]
    exact ih fun z => h (List.mem_cons_of_mem _ z)
/-- the options of one name as the law draws them -/
def OkRow (ns : List PySem.Str) (os : List Opt) : Prop := 1 ≤ os.length ∧ os.length ≤ 4 ∧ os.Nodup ∧ ∀ o ∈ os, OpT o ∧ ∀ q, o = some q → q.1 = "root" ∨ q.1 ∈ ns
section
variable {P : Program} {w : World} {K : PySem.W.Frag} {mg : PySem.Str → Option Value} {base : Heap} {f : Addr} {fd : FuncData}
theorem tab_if {D : Ends} {σ : L2.St} {H : Hp} {pd : Int} {l : Addr} {os : List Opt} {us : List V} {o : Opt} {v : V} {p : Addr → Prop} (g8 : σ[8]? = some (some (.ref l))) (g11 : σ[11]? = some (some v)) (g6 : σ[6]? = some (some (.int pd))) (g3 : σ[3]? = some (some (.int 1000000)))
    (hl : H l = some (.lst us)) (pr : Paired (OptX p H) os us) (ho : OptX p H o v) (ok : ∀ o ∈ os, OpT o) (oko : OpT o) (z : os.length ≤ 10) (qy : o ∉ os → ∀ Hx, Same H Hx → Hx l = some (.lst us) → D.nx σ (upd Hx l (.lst (us ++ [v])))) (qn : os ≠ [] → ∀ Hx, Same H Hx → D.nx σ Hx) :
    tIfS (tOr (tTest (tOp (rEqD K) (tVar 8) (tLst tNil))) (tAnd (tTest (tOp (rNotInD K) (tVar 11) (tVar 8))) (tTest (tOp (rI0 fun i j => V.bl (decide (i ≤ j))) (tOp (rI CMul fun i j => V.int (i * j)) (tVar 6) (tOp (rI0 fun i j => V.int (i + j)) (tCB (rLn K) (tCons (tVar 8) tNil)) (tC (V.int 1)))) (tVar 3)))))
      (tDrop (tBM K "list" rAppend (tVar 8) (tCons (tVar 11) tNil))) tNext D σ H := by
  have lenu := pr.length
  have line : (1000 : Nat) < sizeLine := by decide
  have hdp : ∀ {Hx}, Same H Hx → Dp K Hx (.ref l) (.list (os.map opD)) := fun k => .lst (.inl (.inl (k _ _ hl))) (opts_dp (Paired.mapP pr fun _ _ q => q.toH.same k))
  refine ⟨.ref l, g8, Nat.zero_le _, fun e he => ⟨.list (os.map opD), .list [], hdp (same_upd he), .lst (.inl (.inl upd_same)) .nil, ops_shaped ok, by decide +kernel, _, rfl, ?_⟩⟩
  have s1 : Same H (upd H e (.lst [])) := same_upd he
  generalize upd H e (.lst []) = H1 at s1
  have app : o ∉ os → tDrop (tBM K "list" rAppend (tVar 8) (tCons (tVar 11) tNil)) D σ H1 := fun h => ⟨.ref l, g8, .inl ⟨rfl, _, .inl (.inl (s1 _ _ hl))⟩, v, g11, l, us, v, rfl, rfl, s1 _ _ hl, by omega, qy h _ s1 (s1 _ _ hl)⟩
  cases os with
  | nil =>
    have e1 : PyData.eqv (.list (([] : List Opt).map opD)) (.list []) = true := rfl
    rw [e1]
    exact iteT (iteT (app (by simp)))
  | cons a os =>
    have e1 : PyData.eqv (.list ((a :: os).map opD)) (.list []) = false := rfl
    rw [e1]
    refine iteF ⟨v, g11, .ref l, g8, opD o, (a :: os).map opD, opt_dp (ho.toH.same s1), hdp s1, op_shaped oko, ops_shaped ok, _, rfl, ?_⟩
    have e2 : ((a :: os).map opD).any (fun z => PyData.eqv z (opD o)) = decide (o ∈ a :: os) := by
      rw [Bool.eq_iff_iff, List.any_map, List.any_eq_true, decide_eq_true_eq]
      constructor
      · rintro ⟨x, hx, e⟩
        have e : PyData.eqv (opD x) (opD o) = true := e
        rw [op_eqv, decide_eq_true_eq] at e
        rw [← e]; exact hx
      · exact fun h => ⟨o, h, by show PyData.eqv (opD o) (opD o) = true; rw [op_eqv]; exact decide_eq_true rfl⟩
    rw [e2]
    by_cases hm : o ∈ a :: os
    · rw [decide_eq_true hm]
      exact iteF (iteF (qn (by simp) _ s1))
    · rw [decide_eq_false hm]
      refine iteT ⟨.int pd, g6, .ref l, g8, l, us, rfl, .inl (.inl (.inl (s1 _ _ hl))), us.length, 1, rfl, rfl, pd, us.length + 1, rfl, rfl, .inr ⟨by omega, by omega⟩, .int 1000000, g3, _, _, rfl, rfl, _, rfl, ite2 (fun _ => ?_) (fun _ => ?_)⟩
      · exact app hm
      · exact qn (by simp) _ s1
theorem RowsX.toT {p : Addr → Prop} {H H' : Hp} (k : Same H H') {T : Tbl} {kvs : List (Key × V)} (h : RowsX p H T kvs) (z : ∀ q ∈ T, q.2.length ≤ 250) : Paired (fun (p : PySem.Str × List Opt) (q : Key × V) => q.1 = .inr p.1 ∧ RowH H' p.2 q.2) T kvs := by
  induction h with
  | nil => exact .nil
  | @cons a b l1 l2 r t ih => exact .cons ⟨r.1, (r.2.toH (z a List.mem_cons_self)).same k⟩ (ih fun q hq => z q (List.mem_cons_of_mem _ hq))
theorem rows_get {p : Addr → Prop} {H : Hp} {T : Tbl} {kvs : List (Key × V)} (h : RowsX p H T kvs) {m : PySem.Str} (hm : m ∈ T.map (·.1)) : ∃ os v, valV kvs (.inr m) = some v ∧ (m, os) ∈ T ∧ RowX p H os v := by
  induction h with
  | nil => cases hm
  | @cons a b l1 l2 r t ih =>
    obtain ⟨k, v⟩ := b
    obtain ⟨x, os⟩ := a
    have hk : k = .inr x := r.1
    rw [valV_cons]
    by_cases e : x = m
    · subst e
      exact ⟨os, v, if_pos hk, List.mem_cons_self, r.2⟩
    · rw [if_neg (fun z => e (Sum.inr.inj (hk.symm.trans z)))]
      rcases List.mem_cons.mp hm with hm | hm
      · exact absurd hm.symm e
      · obtain ⟨os', v', h1, h2, h3⟩ := ih hm
        exact ⟨os', v', h1, List.mem_cons_of_mem _ h2, h3⟩
theorem merge_new : ∀ (more acc : List (Key × V)), ((acc ++ more).map (·.1)).Nodup → mergeK acc more = acc ++ more
  | [], acc, _ => by unfold mergeK; simp
  | (k, v) :: more, acc, h => by
    have hk : valV acc k = none := by
      have : k ∉ acc.map (·.1) := fun hm => by
        rw [List.map_append, List.map_cons] at h
        exact (List.nodup_append.mp h).2.2 k hm k List.mem_cons_self rfl
      clear h
      induction acc with
      | nil => exact valV_nil
      | cons a r ih =>
        obtain ⟨j, u⟩ := a
        rw [valV_cons, if_neg (fun e => this (by rw [← e]; exact List.mem_cons_self))]
        exact ih fun z => this (List.mem_cons_of_mem _ z)
    have ih := merge_new more (acc ++ [(k, v)]) (by rw [List.append_assoc]; exact h)
    show mergeK (putK acc k v) more = _
    rw [putK_new v hk, ih, List.append_assoc]
    rfl
def unS : V → PySem.Str | .str x => x | _ => ""
theorem perm_strs {ys : List V} {ns : List PySem.Str} (h : ys.Perm (ns.map V.str)) : ∃ ms : List PySem.Str, ys = ms.map V.str ∧ ms.Perm ns := by
  refine ⟨ys.map unS, ?_, ?_⟩
  · rw [List.map_map]
    have : ∀ v ∈ ys, (V.str ∘ unS) v = v := fun v hv => by
      obtain ⟨x, _, rfl⟩ := List.mem_map.mp (h.mem_iff.mp hv)
      rfl
    exact ((List.map_congr_left this).trans (List.map_id ys)).symm
  · have := h.map unS
    rw [List.map_map] at this
    have e : ns.map (unS ∘ V.str) = ns := by
      rw [show (unS ∘ V.str) = id from rfl, List.map_id]
    rw [e] at this
    exact this
def spTable : Sp := fun vs H Q _ => ∃ (r : Addr) (n : Nat), vs = [.ref r, .int n, .int 4, .int 1000000] ∧ Rn H r ∧ n ≤ 6 ∧ ∀ H' d T, But r H H' → Rn H' r → H d = none → TblH H' d T → TT T → T.length = n → (∀ p ∈ T, p.2.length ≤ 4) → Q (.ref d) H'
theorem ok_table {f1 f2 f3 f4 : Addr} {fd1 fd2 fd3 fd4 : FuncData} (F : F0 K "_law_table" 45 f fd) (C1 : Cal K mg "_law_draw" 40 ["_law_rng_here", "_law_many"] f1 fd1) (G1 : FnOk P w K mg base CX0 1 f1 fd1 ["_law_rng_here", "_law_many"] spDraw)
    (C2 : Cal K mg "_law_choice" 41 ["_law_rng_here", "_law_options"] f2 fd2) (G2 : FnOk P w K mg base CX0 2 f2 fd2 ["_law_rng_here", "_law_options"] spChoice) (C3 : Cal K mg "_law_shuffled" 42 ["_law_rng_here", "_law_values"] f3 fd3) (G3 : FnOk P w K mg base CX0 2 f3 fd3 ["_law_rng_here", "_law_values"] spShuf)
    (C4 : Cal K mg "_law_names" 44 ["_law_rng_here", "_law_many", "_law_used"] f4 fd4) (G4 : FnOk P w K mg base CX0 3 f4 fd4 ["_law_rng_here", "_law_many", "_law_used"] spNames) (mr : mg "range" = none) (ml : mg "len" = none) (md : mg "dict" = none) : FnOk P w K mg base CX0 4 f fd ["_law_rng_here", "_law_many", "_law_most", "_law_top"] spTable := by
  have nd := sc45.nd
  refine F.ok sc45 (fun vs H Q E h => ?_) (fun cdv A outer s H vs Q E hr h => ?_)
  · obtain ⟨_, _, rfl, _⟩ := h
    rfl
  · obtain ⟨r, n, rfl, hR, hn, q⟩ := h
    have hu := hu_of hr
    have hu65 : A.units + 3 + 65 < cLine := by have := hr.un; have e : (A.deeper (envOfC (PySem.Str.ofString "_law_table") (defScope (top 45)) s.heap.objs.size f cdv)).units = A.units + 3 := rfl; omega
    have hu64 : A.units + 3 + 64 < cLine := by omega
    refine ⟨_, pss_cons (ps_asg (pe_tup (pa_cons (pe_call G4 hr (by rfl) C4.at_ C4.fn.kp C4.bs .nil pass0 (pa_cons (pv 0) (pa_cons (pv 1) (pa_cons (pe_lst pa_nil) pa_nil)))) (pa_cons pe_dnewK (pa_cons pe_int pa_nil)))) (pg_tup rfl (pgs_cons (pg_name (i := 4) nd rfl (Or.inl rfl)) (pgs_cons (pg_name (i := 5) nd rfl (Or.inr rfl)) (pgs_cons (pg_name (i := 6) nd rfl (Or.inl rfl)) pgs_nil)))))
      (pss_cons (ps_for PassesOwn.never rfl (pi_list (pv 4)) (pg_name (i := 7) nd rfl (Or.inl rfl))
        (pss_cons (ps_set (i := 8) nd rfl (.inl rfl) (pe_lst pa_nil))
        (pss_cons (ps_for PassesOwn.never rfl (pi_range1 (by rfl) mr (pa_cons (pe_op op_add pe_int (pe_call G1 (hr.mono (by decide)) (by rfl) C1.at_ C1.fn.kp C1.bs .nil pass0 (pa_cons (pv 0) (pa_cons (pv 2) pa_nil)))) pa_nil)) (pg_name (i := 9) nd rfl (Or.inl rfl))
          (pss_cons (ps_set (i := 10) nd rfl (.inl rfl) (pe_call G2 (hr.mono (by decide)) (by rfl) C2.at_ C2.fn.kp C2.bs .nil pass0 (pa_cons (pv 0) (pa_cons (pe_lst (pa_cons pe_str (pa_cons pe_str (pa_cons pe_str (pa_cons (pv 7) pa_nil))))) pa_nil))))
          (pss_cons (ps_set (i := 11) nd rfl (.inl rfl) (pe_ifExp (pt_cmpR op_gt (pe_call G1 (hr.mono (by decide)) (by rfl) C1.at_ C1.fn.kp C1.bs .nil pass0 (pa_cons (pv 0) (pa_cons pe_int pa_nil))) pe_int (nomark _))
            (pe_tup (pa_cons (pe_call G2 (hr.mono (by decide)) (by rfl) C2.at_ C2.fn.kp C2.bs .nil pass0 (pa_cons (pv 0) (pa_cons (pe_op op_cat (pe_lst (pa_cons pe_str pa_nil)) (pv 4)) pa_nil))) (pa_cons (pv 10) pa_nil))) pe_non))
          (pss_one (ps_if (pw_or (pt_cmpR (op_eqD hu64) (pv 8) (pe_lst pa_nil) (by rfl)) (pw_or1 (pw_and (pt_cmpR (op_notInD hu65) (pv 11) (pv 8) (by rfl)) (pw_and1 (pt_cmpR op_le (pe_op op_mul (pv 6) (pe_op op_add (pe_callB call_len_seq (by rfl) ml PySem.boot_len (pa_cons (pv 8) pa_nil)) pe_int)) (pv 3) (nomark _)))).pt)).pt
            (pss_one (ps_expr (pe_bm PySem.F.plainAttrs_list PySem.F.slot_list_append PySem.F.type_list_append mt_append (pv 8) (pa_cons (pv 11) pa_nil)))) pss_nil)))))
        (pss_cons (ps_set (i := 6) nd rfl (.inl rfl) (pe_op op_mul (pv 6) (pe_callB call_len_seq (by rfl) ml PySem.boot_len (pa_cons (pv 8) pa_nil))))
        (pss_one (ps_dput hu (pv 5) (pv 7) (pv 8) rfl))))))
      (pss_one (ps_ret (pe_callTy (call_dictP rfl) (by rfl) md (by kernel_rfl) (pa_cons (pe_lc (own := [("_law_name_here", 7)]) (g := gName 7) (tt := tYes) rfl nd (pi_list (pe_call G3 (hr.mono (by decide)) (by rfl) C3.at_ C3.fn.kp C3.bs .nil pass0 (pa_cons (pv 0) (pa_cons (pv 4) pa_nil)))) (blkOk_by (N := N45) (sc := defScope (top 45)) (by decide +kernel))
        (fun _ _ _ _ _ => pg_name (i := 7) nd rfl (Or.inl rfl)) (fun _ _ _ _ _ => pts_nil) (fun _ _ _ _ _ => pe_tup (pa_cons (pv 7) (pa_cons (pe_dget hu (pv 5) (pv 7) (fun _ _ => rfl)) pa_nil)))) pa_nil))))), ?_⟩
    -- names, {}, 1
    refine ⟨.ref r, rfl, .int n, rfl, Nat.zero_le _, fun e0 he0 => ?_⟩
    have r0 := hR.ne he0
    refine ⟨r, e0, n, rfl, hR.same (same_upd he0), upd_same, Ne.symm r0, by omega, fun H1 ln ns b1 R1 nln hln lenn nodup alln => ?_⟩
    have bt1 : But r H H1 := (But.same (same_upd he0)).trans b1
    refine fun fnd hf => ?_
    have nlnH : H ln = none := by
      cases e : H ln with
      | none => rfl
      | some o => rw [same_upd he0 _ _ e] at nln; cases nln
    have rln : r ≠ ln := hR.ne nlnH
    have rf := R1.ne hf
    have lnf : ln ≠ fnd := ne_of_none hln hf
    refine ⟨by show 3 ≤ sizeLine; decide, fun tp htp => ?_⟩
    have s2 : Same H1 (upd H1 fnd (.dK [])) := same_upd hf
    have f2 : (upd H1 fnd (.dK [])) fnd = some (.dK []) := upd_same
    have R2 := R1.same s2
    have ln2 := s2 _ _ hln
    have bt2 := bt1.trans (But.same s2)
    have nfH : H fnd = none := by
      cases e : H fnd with
      | none => rfl
      | some o =>
        by_cases z : fnd = r
        · exact absurd z.symm rf
        · rw [bt1 _ _ z e] at hf; cases hf
    generalize upd H1 fnd (.dK []) = H2 at s2 f2 R2 ln2 bt2 htp
    refine ⟨tp, [.ref ln, .ref fnd, .int 1], rfl, .inl (.inl upd_same), rfl, .ref ln, [.ref fnd, .int 1], rfl, .ref fnd, [.int 1], rfl, .int 1, [], rfl, rfl, ?_⟩
    have s3 : Same H2 (upd H2 tp (.tup [.ref ln, .ref fnd, .int 1])) := same_upd htp
    have f3 := s3 _ _ f2
    have ln3 := s3 _ _ ln2
    have R3 := R2.same s3
    have bt3 := bt2.trans (But.same s3)
    generalize upd H2 tp (.tup [.ref ln, .ref fnd, .int 1]) = H3 at s3 f3 ln3 R3 bt3
    clear s3 htp s2 f2 R2 ln2 bt2 bt1 b1 R1 hln
    let pA : Addr → Prop := fun b => H b = none ∧ b ≠ fnd ∧ b ≠ ln
    have rpA : ¬ pA r := fun z => by obtain ⟨_, _, _, _, _, e⟩ := hR; rw [z.1] at e; cases e
    refine ⟨.ref ln, rfl, ln, rfl, ⟨_, .inl (.inl ln3)⟩, ?_⟩
    refine for_it (walk_list (xs := ns.map V.str)) (fun i σ H' => ∃ (y7 y8 y9 y10 y11 : Option V) (pd : Int) (T : Tbl) (kvs : List (Key × V)), σ = [some (.ref r), some (.int n), some (.int 4), some (.int 1000000), some (.ref ln), some (.ref fnd), some (.int pd), y7, y8, y9, y10, y11] ∧ H' ln = some (.lst (ns.map V.str)) ∧ H' fnd = some (.dK kvs) ∧ T.map (·.1) = ns.take i ∧ RowsX pA H' T kvs ∧ (∀ q ∈ T, OkRow ns q.2) ∧ But r H H' ∧ Rn H' r)
      ⟨none, none, none, none, none, 1, [], [], rfl, ln3, f3, rfl, .nil, fun _ h => (by cases h), bt3, R3⟩ (fun i σ H' _ ⟨_, _, _, _, _, _, _, _, _, e, _⟩ => .inl (.inl e)) (fun i v σ H4 H5 hi ⟨y7, y8, y9, y10, y11, pd, T, kvs, e, ln4, f4, tk, rows, good, bt4, R4⟩ y => ?_) fun σ H4 ⟨y7, y8, y9, y10, y11, pd, T, kvs, e, ln4, f4, tk, rows, good, bt4, R4⟩ => ?_
    · subst e
      obtain ⟨rfl, hv⟩ := y
      rw [List.getElem?_map] at hv
      obtain ⟨t, ht, rfl⟩ := Option.map_eq_some_iff.mp hv
      have tin : t ∈ ns := List.mem_of_getElem? ht
      refine ⟨Nat.zero_le _, fun l hl => ?_⟩
      have rl := R4.ne hl
      have nlH : H l = none := by
        cases e : H l with
        | none => rfl
        | some o => rw [bt4 _ _ (Ne.symm rl) e] at hl; cases hl
      have lf : fnd ≠ l := ne_of_none f4 hl
      have lln : ln ≠ l := ne_of_none ln4 hl
      have s6 : Same H5 (upd H5 l (.lst [])) := same_upd hl
      have l6 : (upd H5 l (.lst [])) l = some (.lst []) := upd_same
      let pB : Addr → Prop := fun b => pA b ∧ b ≠ l
      have rows6 : RowsX pB (upd H5 l (.lst [])) T kvs := rows.keep fun b o pb e => ⟨⟨pb, ne_of_none e hl⟩, s6 _ _ e⟩
      have f6 := s6 _ _ f4
      have ln6 := s6 _ _ ln4
      have R6 := R4.same s6
      have bt6 := bt4.trans (But.same s6)
      generalize upd H5 l (.lst []) = H6 at s6 l6 rows6 f6 ln6 R6 bt6
      have keepB : ∀ {Ha Hb : Hp}, But r Ha Hb → ∀ b o, pB b → Ha b = some o → pB b ∧ Hb b = some o := fun k b o pb e => ⟨pb, k b o (fun z => rpA (z ▸ pb.1)) e⟩
      refine ⟨.ref r, rfl, .int 4, rfl, r, 4, rfl, R6, by decide, by decide, fun H7 d hd b7 R7 => ⟨1, d, rfl, rfl, 1 + d, rfl, by omega, by omega, ?_⟩⟩
      refine for_range (n := (1 + (d : Int)).toNat) (fun j σ H' => ∃ (y9 y10 y11 : Option V) (os : List Opt) (us : List V), σ = [some (.ref r), some (.int n), some (.int 4), some (.int 1000000), some (.ref ln), some (.ref fnd), some (.int pd), some (.str t), some (.ref l), y9, y10, y11] ∧ H' l = some (.lst us) ∧ Paired (OptX pB H') os us ∧ os.Nodup ∧ os.length ≤ j ∧ (1 ≤ j → 1 ≤ os.length) ∧ (∀ o ∈ os, OpT o ∧ ∀ q, o = some q → q.1 = "root" ∨ q.1 ∈ ns) ∧ H' ln = some (.lst (ns.map V.str)) ∧ H' fnd = some (.dK kvs) ∧ RowsX pB H' T kvs ∧ But r H H' ∧ Rn H' r)
        ⟨y9, y10, y11, [], [], rfl, b7 _ _ (Ne.symm rl) l6, .nil, List.nodup_nil, Nat.le_refl _, fun h => (by omega), fun _ h => (by cases h), b7 _ _ (Ne.symm rln) ln6, b7 _ _ (Ne.symm rf) f6, rows6.keep (keepB b7), bt6.trans b7, R7⟩ (fun j σ H8 hj ⟨y9, y10, y11, os, us, e, h1, h2, h3, h4, h5, h6, h7, h8, h9, bt8, R8⟩ => ?_) fun σ H8 ⟨y9, y10, y11, os, us, e, h1, h2, h3, h4, h5, h6, h7, h8, h9, bt8, R8⟩ => ?_
      · subst e
        refine ⟨.ref r, rfl, .str t, rfl, by show 4 ≤ sizeLine; decide, fun p hp => ?_⟩
        have rp := R8.ne hp
        refine ⟨r, p, _, rfl, R8.same (same_upd hp), upd_same, Ne.symm rp, by show 1 ≤ 4; decide, by show 4 ≤ 1000; decide, fun H9 v hv b9 R9 => ?_⟩
        obtain ⟨lb, rfl, nlb⟩ : ∃ lb : PySem.Str, v = .str lb ∧ NmT lb := by
          have nmw : ∀ t ∈ ([("a" : PySem.Str), "b", "root"]), NmT t := by
            have : ∀ t ∈ ([("a" : PySem.Str), "b", "root"]), 1 ≤ t.length ∧ t.length ≤ 8 ∧ t.cps.toList.all (fun c => decide (c ∈ abc.cps.toList)) = true := by decide +kernel
            intro t ht
            obtain ⟨h1, h2, h3⟩ := this t ht
            exact ⟨h1, h2, fun c hc => of_decide_eq_true (List.all_eq_true.mp h3 c hc)⟩
          simp only [List.mem_cons, List.not_mem_nil, or_false] at hv
          rcases hv with rfl | rfl | rfl | rfl
          · exact ⟨_, rfl, nmw _ (by simp)⟩
          · exact ⟨_, rfl, nmw _ (by simp)⟩
          · exact ⟨_, rfl, nmw _ (by simp)⟩
          · exact ⟨_, rfl, (alln t tin).1⟩
        have k9 : ∀ b o, pB b → H8 b = some o → pB b ∧ H9 b = some o := fun b o pb e => keepB ((But.same (same_upd hp)).trans b9) b o pb e
        have bt9 := bt8.trans ((But.same (same_upd hp)).trans b9)
        have g1 := ((But.same (same_upd (o := .lst [V.str "a", .str "b", .str "root", .str t]) hp)).trans b9)
        have fin : ∀ (o : Opt) (v : V) (Hz : Hp) (y9 y10 : Option V), (∀ b o, pB b → H8 b = some o → pB b ∧ Hz b = some o) → But r H8 Hz → Rn Hz r → OptX pB Hz o v → OpT o → (∀ q, o = some q → q.1 = "root" ∨ q.1 ∈ ns) →
            (o ∉ os → ∀ Hx, Same Hz Hx → Hx l = some (.lst us) → ∃ (z9 z10 z11 : Option V) (os' : List Opt) (us' : List V), [some (V.ref r), some (.int n), some (.int 4), some (.int 1000000), some (.ref ln), some (.ref fnd), some (.int pd), some (.str t), some (.ref l), y9, y10, some v] = [some (.ref r), some (.int n), some (.int 4), some (.int 1000000), some (.ref ln), some (.ref fnd), some (.int pd), some (.str t), some (.ref l), z9, z10, z11] ∧ (upd Hx l (.lst (us ++ [v]))) l = some (.lst us') ∧ Paired (OptX pB (upd Hx l (.lst (us ++ [v])))) os' us' ∧ os'.Nodup ∧ os'.length ≤ j + 1 ∧ (1 ≤ j + 1 → 1 ≤ os'.length) ∧ (∀ o ∈ os', OpT o ∧ ∀ q, o = some q → q.1 = "root" ∨ q.1 ∈ ns) ∧ (upd Hx l (.lst (us ++ [v]))) ln = some (.lst (ns.map V.str)) ∧ (upd Hx l (.lst (us ++ [v]))) fnd = some (.dK kvs) ∧ RowsX pB (upd Hx l (.lst (us ++ [v]))) T kvs ∧ But r H (upd Hx l (.lst (us ++ [v]))) ∧ Rn (upd Hx l (.lst (us ++ [v]))) r) := fun o v Hz y9 y10 kz gz Rz hov oko oq hno Hx sx lx => by
          have kz' : ∀ b o, pB b → H8 b = some o → pB b ∧ (upd Hx l (.lst (us ++ [v]))) b = some o := fun b o pb e => ⟨pb, by rw [upd_ne pb.2]; exact sx _ _ (kz b o pb e).2⟩
          refine ⟨y9, y10, some v, os ++ [o], us ++ [v], rfl, upd_same, K25.paired_append (Paired.mapP h2 fun _ _ q => q.keep kz') (.cons (hov.keep fun b o pb e => ⟨pb, by rw [upd_ne pb.2]; exact sx _ _ e⟩) .nil), ?_, ?_, fun _ => by rw [List.length_append]; simp, fun x hx => ?_, ?_, ?_, h9.keep kz', fun b o nb e => ?_, (Rz.same sx).upd rl⟩
          · exact List.nodup_append.mpr ⟨h3, List.pairwise_singleton _ _, fun x hx y hy e => hno (by rw [List.mem_singleton.mp hy] at e; rw [← e]; exact hx)⟩
          · rw [List.length_append]; simp; exact h4
          · rcases List.mem_append.mp hx with hx | hx
            · exact h6 x hx
            · rw [List.mem_singleton.mp hx]; exact ⟨oko, oq⟩
          · rw [upd_ne lln]; exact sx _ _ (gz _ _ (Ne.symm rln) h7)
          · rw [upd_ne lf]; exact sx _ _ (gz _ _ (Ne.symm rf) h8)
          · rw [upd_ne (ne_of_none e nlH)]
            exact sx _ _ (gz b o nb (bt8 b o nb e))
        have skip : ∀ (v : V) (Hz : Hp) (y9 y10 : Option V), (∀ b o, pB b → H8 b = some o → pB b ∧ Hz b = some o) → But r H8 Hz → Rn Hz r → os ≠ [] → ∀ Hx, Same Hz Hx → ∃ (z9 z10 z11 : Option V) (os' : List Opt) (us' : List V), [some (V.ref r), some (.int n), some (.int 4), some (.int 1000000), some (.ref ln), some (.ref fnd), some (.int pd), some (.str t), some (.ref l), y9, y10, some v] = [some (.ref r), some (.int n), some (.int 4), some (.int 1000000), some (.ref ln), some (.ref fnd), some (.int pd), some (.str t), some (.ref l), z9, z10, z11] ∧ Hx l = some (.lst us') ∧ Paired (OptX pB Hx) os' us' ∧ os'.Nodup ∧ os'.length ≤ j + 1 ∧ (1 ≤ j + 1 → 1 ≤ os'.length) ∧ (∀ o ∈ os', OpT o ∧ ∀ q, o = some q → q.1 = "root" ∨ q.1 ∈ ns) ∧ Hx ln = some (.lst (ns.map V.str)) ∧ Hx fnd = some (.dK kvs) ∧ RowsX pB Hx T kvs ∧ But r H Hx ∧ Rn Hx r := fun v Hz y9 y10 kz gz Rz hne Hx sx => by
          have kz' : ∀ b o, pB b → H8 b = some o → pB b ∧ Hx b = some o := fun b o pb e => ⟨pb, sx _ _ (kz b o pb e).2⟩
          exact ⟨y9, y10, some v, os, us, rfl, sx _ _ (gz _ _ (Ne.symm rl) h1), Paired.mapP h2 fun _ _ q => q.keep kz', h3, Nat.le_succ_of_le h4, fun _ => Nat.pos_of_ne_zero fun z => hne (List.length_eq_zero_iff.mp z), h6, sx _ _ (gz _ _ (Ne.symm rln) h7), sx _ _ (gz _ _ (Ne.symm rf) h8), h9.keep kz', fun b o nb e => sx _ _ (gz b o nb (bt8 b o nb e)), Rz.same sx⟩
        refine ⟨.ref r, rfl, r, 6, rfl, R9, by decide, by decide, fun H10 d10 hd10 b10 R10 => ⟨_, _, rfl, rfl, _, rfl, ite2 (fun e => ?_) (fun e => ?_)⟩⟩
        · have k10 : ∀ b o, pB b → H8 b = some o → pB b ∧ H10 b = some o := fun b o pb e => keepB b10 b o pb (k9 b o pb e).2
          have g10 : But r H8 H10 := g1.trans b10
          have okz : os.length ≤ 10 := by have : (1 + (d : Int)).toNat = 1 + d := by omega
                                          omega
          have ln10 := g10 _ _ (Ne.symm rln) h7
          refine ⟨.ref r, rfl, by show 1 ≤ sizeLine; decide, fun p1 hp1 => ?_⟩
          have sp1 : Same H10 (upd H10 p1 (.lst [.str "root"])) := same_upd hp1
          have ap1 : (upd H10 p1 (.lst [.str "root"])) p1 = some (.lst [.str "root"]) := upd_same
          generalize upd H10 p1 (.lst [.str "root"]) = H11 at sp1 ap1
          have line : (1000 : Nat) < sizeLine := by decide
          refine ⟨.ref ln, rfl, p1, ln, [.str "root"], ns.map V.str, rfl, rfl, ap1, sp1 _ _ ln10, by rw [List.length_map, lenn]; show 1 + n ≤ sizeLine; omega, fun p2 hp2 => ?_⟩
          have sp2 : Same H10 (upd H11 p2 (.lst ([.str "root"] ++ ns.map V.str))) := sp1.trans (same_upd hp2)
          have ap2 : (upd H11 p2 (.lst ([.str "root"] ++ ns.map V.str))) p2 = some (.lst ([.str "root"] ++ ns.map V.str)) := upd_same
          have rp2 := (R10.same sp1).ne hp2
          generalize upd H11 p2 (.lst ([.str "root"] ++ ns.map V.str)) = H12 at sp2 ap2
          refine ⟨r, p2, _, rfl, R10.same sp2, ap2, Ne.symm rp2, by rw [List.length_append]; show 1 ≤ 1 + _; omega, by rw [List.length_append, List.length_map, lenn]; show 1 + n ≤ 1000; omega, fun H13 v hv b13 R13 => ?_⟩
          obtain ⟨pn, rfl, hpn, npn⟩ : ∃ pn : PySem.Str, v = .str pn ∧ (pn = "root" ∨ pn ∈ ns) ∧ NmT pn := by
            rcases List.mem_append.mp hv with hv | hv
            · rw [List.mem_singleton.mp hv]
              have : 1 ≤ ("root" : PySem.Str).length ∧ ("root" : PySem.Str).length ≤ 8 ∧ ("root" : PySem.Str).cps.toList.all (fun c => decide (c ∈ abc.cps.toList)) = true := by decide +kernel
              exact ⟨_, rfl, .inl rfl, this.1, this.2.1, fun c hc => of_decide_eq_true (List.all_eq_true.mp this.2.2 c hc)⟩
            · obtain ⟨pn, h, rfl⟩ := List.mem_map.mp hv
              exact ⟨pn, rfl, .inr h, (alln pn h).1⟩
          refine ⟨.str lb, rfl, by show 2 ≤ sizeLine; decide, fun tp htp => ?_⟩
          have s14 : Same H13 (upd H13 tp (.tup [.str pn, .str lb])) := same_upd htp
          have a14 : (upd H13 tp (.tup [.str pn, .str lb])) tp = some (.tup [.str pn, .str lb]) := upd_same
          have g14 : But r H8 (upd H13 tp (.tup [.str pn, .str lb])) := g10.trans ((But.same sp2).trans (b13.trans (But.same s14)))
          have R14 := R13.same s14
          have g13 : But r H8 H13 := g10.trans ((But.same sp2).trans b13)
          have ptp : pB tp := by
            have n1 : ∀ b o, b ≠ r → H8 b = some o → b ≠ tp := fun b o nb e z => by have := g13 b o nb e; rw [z, htp] at this; cases this
            refine ⟨⟨?_, fun z => n1 _ _ (Ne.symm rf) h8 z.symm, fun z => n1 _ _ (Ne.symm rln) h7 z.symm⟩, fun z => n1 _ _ (Ne.symm rl) h1 z.symm⟩
            cases e : H tp with
            | none => rfl
            | some o =>
              by_cases z : tp = r
              · exact absurd z.symm (R13.ne htp)
              · exact absurd rfl (n1 tp o z (bt8 _ _ z e))
          generalize upd H13 tp (.tup [.str pn, .str lb]) = H14 at s14 a14 g14 R14
          have k14 : ∀ b o, pB b → H8 b = some o → pB b ∧ H14 b = some o := fun b o pb e => keepB g14 b o pb e
          exact tab_if (K := K) (o := some (pn, lb)) (v := .ref tp) (p := pB) rfl rfl rfl rfl (g14 _ _ (Ne.symm rl) h1) (Paired.mapP h2 fun _ _ q => q.keep k14) ⟨tp, rfl, ptp, a14⟩ (fun o ho => (h6 o ho).1) ⟨npn, nlb⟩ okz (fin (some (pn, lb)) (.ref tp) H14 _ _ k14 g14 R14 ⟨tp, rfl, ptp, a14⟩ ⟨npn, nlb⟩ (fun _ z => by cases z; exact hpn)) (skip (.ref tp) H14 _ _ k14 g14 R14)
        · have k10 : ∀ b o, pB b → H8 b = some o → pB b ∧ H10 b = some o := fun b o pb e => keepB b10 b o pb (k9 b o pb e).2
          have g10 : But r H8 H10 := g1.trans b10
          have okz : os.length ≤ 10 := by have : (1 + (d : Int)).toNat = 1 + d := by omega
                                          omega
          exact tab_if (K := K) (o := none) (v := .non) (p := pB) rfl rfl rfl rfl (g10 _ _ (Ne.symm rl) h1) (Paired.mapP h2 fun _ _ q => q.keep k10) rfl (fun o ho => (h6 o ho).1) trivial okz (fin none .non H10 _ _ k10 g10 R10 rfl trivial (fun _ z => by cases z)) (skip .non H10 _ _ k10 g10 R10)
      · subst e
        have jn : (1 + (d : Int)).toNat = 1 + d := by omega
        rw [jn] at h4 h5
        have line : (1000 : Nat) < sizeLine := by decide
        have lenu := h2.length
        refine ⟨.int pd, rfl, .ref l, rfl, l, us, rfl, .inl (.inl (.inl h1)), pd, us.length, rfl, rfl, .inr ⟨by omega, by omega⟩, ?_⟩
        have lenT : T.length = i := by
          have := congrArg List.length tk
          rw [List.length_map, List.length_take] at this
          have hi : i < (ns.map V.str).length := hi
          rw [List.length_map] at hi
          omega
        have lenk := h9.length
        have tno : t ∉ T.map (·.1) := by
          rw [tk]
          intro hm
          obtain ⟨j', hj', e⟩ := List.mem_iff_getElem.mp hm
          rw [List.length_take] at hj'
          rw [List.getElem_take] at e
          obtain ⟨q1, q2⟩ := List.getElem?_eq_some_iff.mp ht
          exact List.pairwise_iff_getElem.mp nodup j' i (by omega) q1 (by omega) (e.trans q2.symm)
        have hi' : i < ns.length := (List.getElem?_eq_some_iff.mp ht).1
        refine ⟨.ref l, rfl, .ref fnd, rfl, .str t, rfl, fnd, _, rfl, .inl ⟨kvs, .inr t, h8, rfl, by omega, rfl⟩, ?_⟩
        rw [putK_new _ (rows_no h9 t tno)]
        have kp : ∀ b o, pB b → H8 b = some o → pA b ∧ (upd H8 fnd (.dK (kvs ++ [(.inr t, .ref l)]))) b = some o := fun b o pb e => ⟨pb.1, by rw [upd_ne pb.1.2.1]; exact e⟩
        refine ⟨_, _, _, _, _, _, T ++ [(t, os)], kvs ++ [(.inr t, .ref l)], rfl, by rw [upd_ne lnf]; exact h7, upd_same, ?_, ?_, fun q hq => ?_, fun b o nb e => ?_, R8.upd rf⟩
        · rw [List.map_append, tk, List.take_add_one, ht]
          rfl
        · refine K25.paired_append (h9.keep kp) (.cons ⟨rfl, l, us, rfl, ⟨nlH, Ne.symm lf, Ne.symm lln⟩, by rw [upd_ne (Ne.symm lf)]; exact h1, Paired.mapP h2 fun _ _ z => z.keep kp⟩ .nil)
        · rcases List.mem_append.mp hq with hq | hq
          · exact good q hq
          · rw [List.mem_singleton.mp hq]
            exact ⟨h5 (by omega), (by show os.length ≤ 4; omega), h3, h6⟩
        · rw [upd_ne (ne_of_none e nfH)]
          exact bt8 b o nb e
    · subst e
      rw [List.length_map, List.take_length] at tk
      have line : (1000 : Nat) < sizeLine := by decide
      refine ⟨.ref r, rfl, .ref ln, rfl, r, ln, ns.map V.str, rfl, R4, ln4, Ne.symm rln, by rw [List.length_map]; omega, fun H5 sh ys b5 R5 nsh hsh perm => ?_⟩
      obtain ⟨ms, rfl, pm⟩ := perm_strs perm
      have rows5 : RowsX pA H5 T kvs := rows.keep fun b o pb e => ⟨pb, b5 b o (fun z => rpA (z ▸ pb)) e⟩
      have f5 := b5 _ _ (Ne.symm rf) f4
      refine ⟨sh, rfl, ⟨_, .inl (.inl hsh)⟩, fun D nD => ?_⟩
      have fD : fnd ≠ D := ne_of_none f5 nD
      have sD : sh ≠ D := ne_of_none hsh nD
      have mns : ∀ m ∈ ms, m ∈ T.map (·.1) := fun m hm => by rw [tk]; exact pm.mem_iff.mp hm
      have lenm : ms.length = n := pm.length_eq.trans lenn
      refine lc_it (walk_list (xs := ms.map V.str)) (fun i H' => ∃ (ps : List Addr) (T' : Tbl) (ks : List (Key × V)), H' D = some (.lst (ps.map V.ref)) ∧ Paired (fun p kv => H' p = some (.tup [kV kv.1, kv.2])) ps ks ∧ RowsX pA H5 T' ks ∧ T'.map (·.1) = ms.take i ∧ (∀ q ∈ T', q ∈ T) ∧ Same H5 H')
        ⟨[], [], [], upd_same, .nil, .nil, rfl, fun _ h => (by cases h), same_upd nD⟩ (fun i H' _ ⟨_, _, _, _, _, _, _, _, sm⟩ => .inl (.inl (sm _ _ hsh))) (fun i v H6 H7 hi ⟨ps, T', ks, hD, pr, rw', tk', sub, sm⟩ y => ?_) fun H6 ⟨ps, T', ks, hD, pr, rw', tk', sub, sm⟩ => ?_
      · obtain ⟨rfl, hv⟩ := y
        rw [List.getElem?_map] at hv
        obtain ⟨m, hm, rfl⟩ := Option.map_eq_some_iff.mp hv
        obtain ⟨os, v, g1, g2, g3⟩ := rows_get rows5 (mns m (List.mem_of_getElem? hm))
        have f7 := sm _ _ f5
        have hi' : i < ms.length := (List.getElem?_eq_some_iff.mp hm).1
        have lenp : ps.length = i := by
          have h1 := pr.length
          have h2 := rw'.length
          have h3 := congrArg List.length tk'
          rw [List.length_map, List.length_take] at h3
          omega
        refine ⟨rfl, yes ⟨.str m, rfl, .ref fnd, rfl, .str m, rfl, fnd, v, rfl, .inl ⟨kvs, .inr m, .inl f7, rfl, g1.symm⟩, by show 2 ≤ sizeLine; decide, fun tp htp => ?_⟩⟩
        have tD : D ≠ tp := ne_of_none hD htp
        refine ⟨_, same_upd htp _ _ hD, by rw [List.length_map]; omega, ps ++ [tp], T' ++ [(m, os)], ks ++ [(.inr m, v)], by rw [upd_same, List.map_append]; rfl, ?_, K25.paired_append rw' (.cons ⟨rfl, g3⟩ .nil), by rw [List.map_append, tk', List.take_add_one, hm]; rfl, fun q hq => ?_, fun b o e => ?_⟩
        · refine K25.paired_append (Paired.mapP pr fun p kv e => ?_) (.cons (by rw [upd_ne (Ne.symm tD), upd_same]; rfl) .nil)
          rw [upd_ne (fun z => by rw [z, hD] at e; cases e), upd_ne (ne_of_none e htp)]
          exact e
        · rcases List.mem_append.mp hq with hq | hq
          · exact sub q hq
          · rw [List.mem_singleton.mp hq]; exact g2
        · rw [upd_ne (ne_of_none e nD)]
          exact same_upd htp _ _ (sm _ _ e)
      · rw [List.length_map, List.take_length] at tk'
        have lenp := pr.length
        have lenr := rw'.length
        have l3 := congrArg List.length tk'
        rw [List.length_map] at l3
        refine ⟨D, ps, ks, rfl, .inl (.inl hD), Paired.mapP pr fun _ _ e => .inl (.inl e), fun d2 nd2 => ?_⟩
        have keys : ks.map (·.1) = ms.map (Sum.inr : PySem.Str → Key) := by
          rw [← tk', List.map_map]
          clear tk' pr sub l3 lenp lenr hD
          induction rw' with
          | nil => rfl
          | cons r _ ih => rw [List.map_cons, List.map_cons, ih, r.1]; rfl
        have msn : ms.Nodup := pm.nodup_iff.mpr nodup
        have kn : ((([] : List (Key × V)) ++ ks).map (·.1)).Nodup := by
          rw [List.nil_append, keys]
          exact List.pairwise_map.mpr (msn.imp fun h e => h (Sum.inr.inj e))
        rw [merge_new ks [] kn, List.nil_append]
        have sm2 : Same H5 (upd H6 d2 (.dK ks)) := sm.trans (same_upd nd2)
        have nd2H : H d2 = none := by
          cases e : H d2 with
          | none => rfl
          | some o =>
            by_cases z : d2 = r
            · rw [z] at nd2
              obtain ⟨_, _, _, _, _, e⟩ := R5
              rw [sm _ _ e] at nd2; cases nd2
            · rw [sm _ _ (b5 _ _ z (bt4 _ _ z e))] at nd2; cases nd2
        refine q _ d2 T' (fun b o nb e => sm2 _ _ (b5 b o nb (bt4 b o nb e))) (R5.same sm2) nd2H ⟨ks, upd_same, rw'.toT sm2 fun q hq => ?_⟩ ⟨by omega, by rw [tk']; exact msn, fun p hp => ?_, fun p hp => ?_⟩ (l3.trans lenm) fun p hp => (good p (sub p hp)).2.1
        · exact Nat.le_trans (good q (sub q hq)).2.1 (by decide)
        · exact alln p.1 (pm.mem_iff.mp (by rw [← tk']; exact List.mem_map.mpr ⟨p, hp, rfl⟩))
        · obtain ⟨w1, w2, w3, w4⟩ := good p (sub p hp)
          exact ⟨w1, Nat.le_trans w2 (by decide), w3, fun o ho => ⟨(w4 o ho).1, fun q e => ((w4 o ho).2 q e).imp id fun h => by rw [tk']; exact pm.mem_iff.mpr h⟩⟩
end
end K25L

set_option Elab.async false
set_option linter.all false
set_option maxRecDepth 100000
/-! K25, part MF: what the search finds, and which ways there are -/
namespace K25
open PySem
/-- along parents -/
inductive Reach (G : Gr) : Str → Str → Prop
  | refl (x : Str) : Reach G x x
  | step {x z y : Str} : z ∈ par G x → Reach G z y → Reach G x y
theorem Reach.snoc {G : Gr} {x y z : Str} (h : Reach G x y) (hz : z ∈ par G y) : Reach G x z := by
  induction h with
  | refl x => exact .step hz (.refl _)
  | step h1 _ ih => exact .step h1 (ih hz)
theorem list_snoc {α : Type} : ∀ {l : List α}, l ≠ [] → ∃ M z, l = M ++ [z]
  | [], h => absurd rfl h
  | [x], _ => ⟨[], x, rfl⟩
  | x :: y :: l, _ => by
    obtain ⟨M, z, e⟩ := list_snoc (l := y :: l) (by simp)
    exact ⟨x :: M, z, by rw [e]; rfl⟩
theorem rch_aux {G : Gr} {x : Str} (ok : GrOk G) : ∀ (n : Nat) (found waiting : List Str), RSt G x n found waiting → (∀ y ∈ waiting, y ∈ found) → (∀ y ∈ found, Reach G x y) → (∀ y ∈ found, y ∉ waiting → ∀ z ∈ par G y, z ∈ found) → x ∈ found →
    (∀ y ∈ rch G x, Reach G x y) ∧ x ∈ rch G x ∧ ∀ y ∈ rch G x, ∀ z ∈ par G y, z ∈ rch G x := by
  intro n
  induction n with
  | zero =>
    intro found waiting h w r c hx
    have hw : waiting = [] := by
      cases waiting with
      | nil => rfl
      | cons a t => have := h.le; simp at this
    subst hw
    rw [← h.stop]
    exact ⟨r, hx, fun y hy z hz => c y hy (by simp) z hz⟩
  | succ n ih =>
    intro found waiting h w r c hx
    by_cases hw : waiting = []
    · subst hw
      rw [← h.stop]
      exact ⟨r, hx, fun y hy z hz => c y hy (by simp) z hz⟩
    · obtain ⟨ws, y, rfl⟩ := list_snoc hw
      obtain ⟨m, e, h2⟩ := h.turn ok
      cases e
      have hy : y ∈ found := w y (by simp)
      refine ih _ _ h2 (fun v hv => ?_) (fun v hv => ?_) (fun v hv nv z hz => ?_) (List.mem_append_left _ hx)
      · rcases List.mem_append.mp hv with hv | hv
        · exact List.mem_append_left _ (w v (List.mem_append_left _ hv))
        · exact List.mem_append_right _ hv
      · rcases List.mem_append.mp hv with hv | hv
        · exact r v hv
        · exact (r y hy).snoc (List.mem_filter.mp hv).1
      · have n1 : v ∉ ws := fun q => nv (List.mem_append_left _ q)
        have n2 : v ∉ (par G y).filter fun z => !found.contains z := fun q => nv (List.mem_append_right _ q)
        have hvf : v ∈ found := by
          rcases List.mem_append.mp hv with hv | hv
          · exact hv
          · exact absurd hv n2
        by_cases e : v = y
        · subst e
          by_cases hzf : z ∈ found
          · exact List.mem_append_left _ hzf
          · exact List.mem_append_right _ (List.mem_filter.mpr ⟨hz, by simp [hzf]⟩)
        · refine List.mem_append_left _ (c v hvf (fun q => ?_) z hz)
          rcases List.mem_append.mp q with q | q
          · exact n1 q
          · exact e (List.mem_singleton.mp q)
/-- the search finds just what can be reached -/
theorem rch_iff {G : Gr} {x : Str} (ok : GrOk G) (hx : x ∈ G.map (·.1)) (y : Str) : y ∈ rch G x ↔ Reach G x y := by
  obtain ⟨h1, h2, h3⟩ := rch_aux ok _ _ _ (RSt.start hx) (fun y h => h) (fun y h => by rw [List.mem_singleton.mp h]; exact .refl _) (fun y h n => absurd h n) (by simp)
  have key : ∀ {v u : Str}, Reach G v u → v ∈ rch G x → u ∈ rch G x := fun {v u} h => by
    induction h with
    | refl _ => exact id
    | step hz _ ih => exact fun hv => ih (h3 _ hv _ hz)
  exact ⟨h1 y, fun h => key h h2⟩
/-- every node -/
def keys (G : Gr) : List Str := G.map (·.1)
theorem getLastD_concat {l : List Str} {x d : Str} : (l ++ [x]).getLastD d = x := by simp
theorem ends_concat {l : List Str} {x y : Str} : ends (l ++ [x]) y = decide (x = y) := by
  unfold ends
  rw [List.getLast?_concat]
  by_cases h : x = y
  · subst h; simp
  · simp [h]
section
variable {G : Gr} {us : List Str} {other : Str}
theorem dfs_reach : ∀ (k : Nat) (w : List Str) (p : Str) (v : List Str), v ∈ dfs G us other k (w ++ [p]) → Reach G p other
  | 0, w, p, v, hv => by
    simp only [dfs, ends_concat] at hv
    split at hv
    · have := of_decide_eq_true (by assumption)
      rw [this]; exact .refl _
    · cases hv
  | k + 1, w, p, v, hv => by
    simp only [dfs, ends_concat] at hv
    split at hv
    · have := of_decide_eq_true (by assumption)
      rw [this]; exact .refl _
    · obtain ⟨q, hq, hv⟩ := List.mem_flatMap.mp hv
      have h2 := (foll_mem q hq).2.1
      rw [getLastD_concat] at h2
      exact .step h2 (dfs_reach k (w ++ [p]) q v hv)
theorem flat_filter {α β : Type} {f : α → List β} {c : α → Bool} : ∀ {l : List α}, (∀ x ∈ l, c x = false → f x = []) → (l.filter c).flatMap f = l.flatMap f
  | [], _ => rfl
  | a :: r, h => by
    have ih := flat_filter (f := f) (c := c) (l := r) fun x hx => h x (.tail _ hx)
    rw [List.flatMap_cons, List.filter_cons]
    cases e : c a with
    | true => rw [if_pos rfl, List.flatMap_cons, ih]
    | false => rw [if_neg (by simp), ih, h a (.head _) e]; rfl
theorem foll_us (ok : GrOk G) (way : List Str) : foll G us way = (foll G (keys G) way).filter fun p => us.contains p := by
  unfold foll
  rw [List.filter_filter]
  refine List.filter_congr fun p hp => ?_
  have : (keys G).contains p = true := by
    simp only [List.contains_eq_mem, decide_eq_true_eq]
    exact (par_up ok _).2 p hp
  rw [this, Bool.true_and]
/-- what is left out leads nowhere -/
theorem dfs_all (ok : GrOk G) (hu : ∀ p ∈ keys G, p ∉ us → ¬ Reach G p other) : ∀ (k : Nat) (way : List Str), dfs G us other k way = dfs G (keys G) other k way
  | 0, way => rfl
  | k + 1, way => by
    simp only [dfs]
    split
    · rfl
    · rw [foll_us ok, flat_filter (fun p hp e => ?_)]
      · exact flatMap_congr' fun p _ => dfs_all ok hu k _
      · have hk : p ∈ keys G := (foll_mem p hp).2.2
        have hn : p ∉ us := by simpa using e
        cases hd : dfs G us other k (way ++ [p]) with
        | nil => rfl
        | cons v r => exact absurd (dfs_reach k way p v (by rw [hd]; exact .head _)) (hu p hk hn)
/-- the nodes that follow x on a walk to y -/
inductive PathTo (G : Gr) (y : Str) : Str → List Str → Prop
  | nil : PathTo G y y []
  | cons {x z : Str} {l : List Str} : z ∈ par G x → PathTo G y z l → PathTo G y x (z :: l)
theorem PathTo.tail {y z : Str} {l : List Str} (h : PathTo G y z l) : ∀ x, x ∈ z :: l → ∃ l', PathTo G y x l' ∧ List.Sublist (x :: l') (z :: l) := by
  induction h with
  | nil => exact fun x hx => ⟨[], by rw [List.mem_singleton.mp hx]; exact .nil, by rw [List.mem_singleton.mp hx]; exact List.Sublist.refl _⟩
  | @cons x z l hz p ih =>
    intro v hv
    rcases List.mem_cons.mp hv with rfl | hv
    · exact ⟨_, .cons hz p, List.Sublist.refl _⟩
    · obtain ⟨l', h1, h2⟩ := ih v hv
      exact ⟨l', h1, .cons _ h2⟩
theorem Reach.path {x y : Str} (h : Reach G x y) : ∃ l, PathTo G y x l ∧ (x :: l).Nodup := by
  induction h with
  | refl x => exact ⟨[], .nil, List.pairwise_singleton _ _⟩
  | @step x z y hz _ ih =>
    obtain ⟨l, p, nd⟩ := ih
    by_cases hx : x ∈ z :: l
    · obtain ⟨l', h1, h2⟩ := p.tail x hx
      exact ⟨l', h1, nd.sublist h2⟩
    · exact ⟨z :: l, .cons hz p, List.nodup_cons.mpr ⟨hx, nd⟩⟩
theorem D_some (ok : GrOk G) {x : Str} {l : List Str} (p : PathTo G other x l) : ∀ w, WayOk G (w ++ [x]) → (∀ n ∈ l, n ∉ w ++ [x]) → l.Nodup → D G (keys G) other (w ++ [x]) ≠ [] := by
  induction p with
  | nil =>
    intro w _ _ _
    rw [D_end (by rw [ends_concat]; simp)]
    simp
  | @cons x z l hz p ih =>
    intro w wok hn nd
    cases he : ends (w ++ [x]) other with
    | true => rw [D_end he]; simp
    | false =>
      obtain ⟨n1, n2⟩ := List.nodup_cons.mp nd
      rw [D_go ok wok he]
      have hf : z ∈ foll G (keys G) (w ++ [x]) := by
        unfold foll
        rw [getLastD_concat]
        refine List.mem_filter.mpr ⟨hz, ?_⟩
        have h1 : z ∈ keys G := (par_up ok x).2 z hz
        have h2 := hn z (.head _)
        simp only [Bool.and_eq_true, Bool.not_eq_true', List.contains_eq_mem, decide_eq_true_eq, decide_eq_false_iff_not]
        exact ⟨h1, h2⟩
      intro e
      have e2 := (List.flatMap_eq_nil_iff.mp e) z hf
      refine ih (w ++ [x]) (wok.snoc ok hf) (fun n h => ?_) n2 e2
      intro q
      rcases List.mem_append.mp q with q | q
      · exact hn n (.tail _ h) q
      · rw [List.mem_singleton.mp q] at h; exact n1 h
theorem D_iff (ok : GrOk G) {x : Str} (hx : x ∈ G.map (·.1)) : D G (keys G) other [x] ≠ [] ↔ Reach G x other := by
  constructor
  · intro h
    cases hd : D G (keys G) other [x] with
    | nil => exact absurd hd h
    | cons v r => exact dfs_reach _ [] x v (by rw [show ([] : List Str) ++ [x] = [x] from rfl]; exact (hd ▸ List.mem_cons_self : v ∈ D G (keys G) other [x]))
  · intro h
    obtain ⟨l, p, nd⟩ := h.path
    obtain ⟨n1, n2⟩ := List.nodup_cons.mp nd
    refine D_some ok p [] ⟨by simp, List.pairwise_singleton _ _, fun y hy => by rw [List.mem_singleton.mp hy]; exact hx⟩ (fun n h q => ?_) n2
    rw [List.nil_append] at q
    rw [List.mem_singleton.mp q] at h
    exact n1 h
/-! ### in order -/
/-- below by the first place that differs -/
def RowLt (a b : List Str) : Prop := ∃ pre p q t u, a = pre ++ p :: t ∧ b = pre ++ q :: u ∧ tlt p q
theorem dfs_pre : ∀ (k : Nat) (way v : List Str), v ∈ dfs G us other k way → ∃ t, v = way ++ t
  | 0, way, v, hv => by
    simp only [dfs] at hv
    split at hv
    · exact ⟨[], by rw [List.mem_singleton.mp hv]; simp⟩
    · cases hv
  | k + 1, way, v, hv => by
    simp only [dfs] at hv
    split at hv
    · exact ⟨[], by rw [List.mem_singleton.mp hv]; simp⟩
    · obtain ⟨p, _, hv⟩ := List.mem_flatMap.mp hv
      obtain ⟨t, e⟩ := dfs_pre k (way ++ [p]) v hv
      exact ⟨p :: t, by rw [e, List.append_assoc]; rfl⟩
theorem dfs_up (ok : GrOk G) : ∀ (k : Nat) (way : List Str), (dfs G us other k way).Pairwise RowLt
  | 0, way => by
    simp only [dfs]
    split
    · exact List.pairwise_singleton _ _
    · exact .nil
  | k + 1, way => by
    simp only [dfs]
    split
    · exact List.pairwise_singleton _ _
    · have up : Up (foll G us way) := (par_up ok _).1.filter _
      generalize foll G us way = fs at up
      induction fs with
      | nil => exact .nil
      | cons p fs ih =>
        obtain ⟨u1, u2⟩ := List.pairwise_cons.mp up
        rw [List.flatMap_cons]
        refine List.pairwise_append.mpr ⟨dfs_up ok k _, ih u2, fun a ha b hb => ?_⟩
        obtain ⟨q, hq, hb⟩ := List.mem_flatMap.mp hb
        obtain ⟨t, e1⟩ := dfs_pre k _ a ha
        obtain ⟨u, e2⟩ := dfs_pre k _ b hb
        exact ⟨way, p, q, t, u, by rw [e1, List.append_assoc]; rfl, by rw [e2, List.append_assoc]; rfl, u1 q hq⟩
/-- the first one, by the smallest parents -/
def hd (G : Gr) (us : List Str) (other : Str) : Nat → List Str → Option (List Str)
  | 0, way => if ends way other then some way else none
  | k + 1, way => if ends way other then some way else (foll G us way).findSome? fun p => hd G us other k (way ++ [p])
theorem dfs_head : ∀ (k : Nat) (way : List Str), (dfs G us other k way).head? = hd G us other k way
  | 0, way => by
    simp only [dfs, hd]
    split <;> rfl
  | k + 1, way => by
    simp only [dfs, hd]
    split
    · rfl
    · rw [List.head?_flatMap]
      congr 1
      funext p
      exact dfs_head k _
end
end K25

set_option Elab.async false
set_option linter.all false
set_option maxRecDepth 100000
/-! K25, part MG: the generator's ways are all ways, in order -/
namespace K25
open PySem
/-- by trying all steps -/
def due (T : Tbl) (y : Str) (way : List Str) : List (List Str) := D (edg T) (keys (edg T)) y way
section
variable {T : Tbl} {x y : Str}
theorem usf_iff (tok : TOk T) {p : Str} (hp : p ∈ keys (edg T)) : p ∈ usf T y ↔ Reach (edg T) p y := by
  unfold usf
  rw [List.mem_filter]
  simp only [List.contains_eq_mem, decide_eq_true_eq]
  exact ⟨fun h => (rch_iff (edg_ok tok) hp y).mp h.2, fun h => ⟨hp, (rch_iff (edg_ok tok) hp y).mpr h⟩⟩
theorem wall_due (tok : TOk T) (hx : Known T x) : wall T x y = due T y [x] := by
  have ok := edg_ok tok
  have hk : x ∈ keys (edg T) := hx.key
  unfold wall wrows
  by_cases h : x ∈ usf T y
  · rw [if_pos (by simpa using h)]
    show outs (edg T) (usf T y) y [[x]] = _
    unfold outs due D
    rw [List.reverse_singleton, List.flatMap_cons, List.flatMap_nil, List.append_nil]
    exact dfs_all ok (fun p hp hn hr => hn ((usf_iff tok hp).mpr hr)) _ _
  · rw [if_neg (by simpa using h)]
    have nr : ¬ Reach (edg T) x y := fun r => h ((usf_iff tok hk).mpr r)
    have : due T y [x] = [] := by
      cases hd : due T y [x] with
      | nil => rfl
      | cons v r => exact absurd ((D_iff ok hk).mp (by show due T y [x] ≠ []; rw [hd]; simp)) nr
    rw [this]
    rfl
theorem has_wall (tok : TOk T) (hx : Known T x) : (rch (edg T) x).contains y = decide (wall T x y ≠ []) := by
  have ok := edg_ok tok
  have hk : x ∈ keys (edg T) := hx.key
  rw [wall_due tok hx, Bool.eq_iff_iff, decide_eq_true_eq]
  have h1 := rch_iff ok hk y
  have h2 := D_iff (other := y) ok hk
  simp only [List.contains_eq_mem, decide_eq_true_eq]
  exact h1.trans h2.symm
theorem wall_up (tok : TOk T) (hx : Known T x) : (wall T x y).Pairwise RowLt := by
  rw [wall_due tok hx]
  exact dfs_up (edg_ok tok) _ _
theorem due_ok (tok : TOk T) (hx : Known T x) : ∀ v ∈ due T y [x], WayOk (edg T) v := fun v hv =>
  (dfs_ok (edg_ok tok) _ [x] ⟨by simp, List.pairwise_singleton _ _, fun y hy => by rw [List.mem_singleton.mp hy]; exact hx.key⟩ v hv).1
/-- few options, few ways -/
theorem wall_few (tok : TOk T) (hx : Known T x) (n : Nat) (h1 : 1 ≤ n) (hn : ∀ p ∈ T, p.2.length ≤ n) : (wall T x y).length ≤ n ^ T.length := by
  rw [wall_due tok hx]
  have hl : left (edg T) [x] = T.length := by
    unfold left edg
    rw [List.length_cons, List.length_map, List.length_singleton]
    omega
  unfold due D
  rw [hl]
  refine dfs_few n (fun way => ?_) h1 _ _
  refine Nat.le_trans (List.length_filter_le _ _) ?_
  unfold par
  cases q : (edg T).lookup (way.getLastD (Str.ofString "")) with
  | none => exact Nat.zero_le _
  | some b =>
    have hm := PySem.mem_of_lookup q
    rcases List.mem_cons.mp hm with e | hm
    · rw [show b = [] from congrArg Prod.snd e]; exact Nat.zero_le _
    · obtain ⟨p, hp, e⟩ := List.mem_map.mp hm
      rw [show b = parO p.2 from (congrArg Prod.snd e).symm]
      refine Nat.le_trans ?_ (hn p hp)
      show (parO p.2).length ≤ _
      refine Nat.le_trans (nodup_le (up_nodup (srt_up _)) (m := p.2.filterMap fun o : Opt => o.map (·.1)) fun z hz => (mem_srt (xs := p.2.filterMap fun o : Opt => o.map (·.1))).mp hz) ?_
      exact List.length_filterMap_le _ _
end
end K25

set_option Elab.async false
set_option linter.all false
set_option maxRecDepth 100000
set_option maxHeartbeats 4000000
/-! K25, part LI: _law_parents, over the bare heap -/
namespace K25
open PySem PySem.Spec PyProof.Rows L2
theorem scLP : FnScope ["_law_table_here", "_law_name_here", "_law_some"] ["_law_table_here", "_law_name_here"] (defScope (top 46)) := ⟨rfl, rfl, rfl, by decide +kernel, rfl, by decide +kernel, by decide +kernel⟩
theorem par_root (T : Tbl) : par (edg T) root = [] := by
  unfold par edg
  rw [List.lookup_cons, beq_self_eq_true]
  rfl
theorem lookup_map {α β : Type} (g : α → β) (x : PySem.Str) : ∀ T : List (PySem.Str × α), (T.map fun p => (p.1, g p.2)).lookup x = (T.lookup x).map g
  | [] => rfl
  | p :: T => by
    rw [List.map_cons, List.lookup_cons, List.lookup_cons]
    by_cases e : x = p.1
    · rw [show (x == p.1) = true from beq_iff_eq.mpr e]; rfl
    · rw [show (x == p.1) = false from beq_eq_false_iff_ne.mpr e]; exact lookup_map g x T
theorem par_node {T : Tbl} {x : PySem.Str} {os : List Opt} (hx : x ≠ root) (h : T.lookup x = some os) : par (edg T) x = parO os := by
  unfold par edg
  rw [List.lookup_cons, show (x == root) = false from beq_eq_false_iff_ne.mpr hx]
  show ((T.map fun p => (p.1, parO p.2)).lookup x).getD [] = _
  rw [lookup_map, h]
  rfl
section
variable {P : Program} {w : World} {K : PySem.W.Frag} {mg : PySem.Str → Option Value} {base : Heap} {f : Addr} {fd : FuncData}
theorem rf_lpar (F : Fun K "_law_parents" "_law_parents" (top 46) f fd) (mod : L2.Mod K mg base) (m1 : mg "sorted" = none) (m2 : mg "set" = none) (T : Tbl) (x : PySem.Str) (hx : Known T x) :
    RFn P w base 1 f fd ["_law_table_here", "_law_name_here"] (fun us h => ∃ d v, us = [.ref d, v] ∧ DcR P w OptL h d T ∧ Tx x v) (fun _ h h' r => ∃ l, r = .ref l ∧ h.objs.size ≤ l ∧ TxL h' l (par (edg T) x)) := by
  refine rfn F scLP mod fun cdv A s us s1 hr hl hp st ow I => ?_
  obtain ⟨d, v, rfl, hD, hv⟩ := hp
  have D0 : DcR P w (fun _ => OptL s.heap) s.heap d T := hD
  have D1 : DcR P w (fun _ => OptL s.heap) s1.heap d T := D0.keep (fun _ _ q => q) st.keep0
  obtain ⟨tv, ev⟩ := id hv
  -- behind the first line
  have fin : ∀ (os : List Opt) (u : Value) (s2 : Shared), RI ⟨P, w, K, mg, base, A.deeper (envOfC "_law_parents" (defScope (top 46)) s.heap.objs.size f cdv), envOfC "_law_parents" (defScope (top 46)) s.heap.objs.size f cdv⟩ (("_law_some", u) :: bindA (List.zip ["_law_table_here", "_law_name_here"] [Value.ref d, v]) []) s2 →
      Step (fun b => s.heap.objs.size ≤ b) s s2 → s.heap.objs.size < s2.heap.objs.size → OptL s2.heap os u → par (edg T) x = parO os →
      wpAny (model P w) (A.deeper (envOfC "_law_parents" (defScope (top 46)) s.heap.objs.size f cdv)) (execs ((defBody (top 46)).drop 1) (envOfC "_law_parents" (defScope (top 46)) s.heap.objs.size f cdv))
        (fun fl s' => Step (fun b => s.heap.objs.size ≤ b) s s' ∧ ∃ v, (fl = .ret v ∨ (fl = .next ∧ v = .none)) ∧ ∃ l, v = .ref l ∧ s.heap.objs.size ≤ l ∧ TxL s'.heap l (par (edg T) x)) (fun _ _ => False) s2 := by
    intro os u s2 I2 st2 lt2 hos hpar
    obtain ⟨l, e, L, hz⟩ := hos
    subst e
    obtain ⟨its, pr, pl⟩ := L
    refine wpAny_execs_cons (wpAny_Return_some (r_callB I2 m1 rfl (r_arg1 (r_callT I2 m2 rfl (r_arg1 ?_)))))
    refine r_lcV (xs := os) (g := fun o => o.map (·.1)) (Rout := Tx) I2 (blk_by (out := defScope (top 46)) (by decide +kernel) rfl) (r_name I2 rfl ?_)
    refine ⟨_, _, I2, apar_by (l := ["_law_some", "_law_name_here", "_law_table_here"]) (by decide +kernel) rfl, Nat.le_trans hz (by decide), Src.list hr.hd pl.isList (by rw [List.size_toArray]; exact pr.length), fun C' i o v' sT hx hP IT stT => ?_, fun D s' st' hD hL => ?_⟩
    · obtain ⟨o', e1, ro⟩ := paired_get i pr (by simpa using hP)
      rw [hx] at e1
      cases e1
      have ro' := OptV.keep stT.keep0 ro
      refine wpAny_tests_one (r_tcmp (r_name IT rfl (Constant_none (isnot_none_gen (wpAny_truthy_bool ?_)))))
      cases o with
      | none =>
        have e : v' = .none := ro'
        subst e
        exact ⟨rfl, .refl _, fun y z => by cases z⟩
      | some p =>
        obtain ⟨q, u1, u2, e, hT, t1, t2⟩ := ro'
        subst e
        refine ⟨rfl, .refl _, fun y z => ?_⟩
        cases z
        exact Subscript_ (r_name IT rfl (wpAny_Constant_int (item_tuple (s := { sT with toks := sT.toks + 1 }) hT (by decide) (by decide) (j := 0) (x := u1) rfl rfl ⟨.toks _, t1⟩)))
    · have hlen : (os.filterMap fun o => o.map (·.1)).length + 1 < scanBound := by
        have h1 := List.length_filterMap_le (fun o : Opt => o.map (·.1)) os
        have h2 : 252 < scanBound := by decide
        omega
      refine call_setT (P := P) (w := w) hr.hd hL hlen fun s3 l' st3 nd mem hS => ?_
      have hlen' : l'.length + 1 < scanBound := by
        have : l'.length ≤ (os.filterMap fun o => o.map (·.1)).length := (len_of nd fun x hx => (mem x).mp hx)
        omega
      refine sorted_setT (P := P) (w := w) hS nd hr.hd (Nat.lt_of_le_of_lt (Nat.add_le_add_left (by decide) _) hr.units) hlen' fun s4 p ys st4 hp hy up my => ?_
      refine ⟨st2.trans (st'.any.trans (st3.any.trans st4.any)), _, .inl rfl, p, rfl, ?_, ?_⟩
      · obtain ⟨_, ho, _⟩ := hS
        have l2 := hL.lt
        have l3 := Heap.lt_size ho
        exact Nat.le_of_lt (Nat.lt_of_lt_of_le lt2 (Nat.le_trans hD (Nat.le_of_lt (Nat.lt_trans l2 (Nat.lt_of_lt_of_le l3 hp)))))
      · rw [hpar, show parO os = ys from (srt_eq up fun x => (my x).trans (mem x)).symm]
        exact hy
  have lt1 : s.heap.objs.size < s1.heap.objs.size := Nat.lt_of_le_of_lt (ow _ (.inl rfl)) (I.lt (.inl rfl))
  have own1 : ∀ b, At (envOfC "_law_parents" (defScope (top 46)) s.heap.objs.size f cdv) "_law_some" b → s.heap.objs.size ≤ b := fun b z => ow b (at_own b z)
  refine wpAny_execs_cons (r_set (wpAny_IfExp (r_tcmp (r_name I rfl (wpAny_Constant_str ?_)))))
  rw [ev]
  refine PyProof.Rows.ne_str (wpAny_truthy_bool ?_)
  by_cases hxr : x = root
  · rw [show (x != PySem.Str.ofString "root") = false from by rw [hxr]; exact (by decide +kernel : (root != PySem.Str.ofString "root") = false)]
    refine wpAny_List_spliced (Calls.spliced_nil ⟨Nat.zero_le _, ?_⟩)
    refine ⟨_, (I.tok _).step0 (.ofK (tk := s1.toks + 1) (d := s1.drawn) (Keep.push _ _)), fun s2 I2 st2 e2 => ?_⟩
    have nAt : ¬ At (envOfC "_law_parents" (defScope (top 46)) s.heap.objs.size f cdv) "_law_some" s1.heap.objs.size := fun z => absurd (I.lt (at_own _ z)) (Nat.lt_irrefl _)
    refine fin [] _ s2 I2 (st.any.trans ((Step.ofK (tk := s1.toks + 1) (d := s1.drawn) (Keep.push _ _)).trans (st2.mono own1))) ?_ ⟨_, rfl, ⟨[], .nil, 0, st2.keep _ _ nAt (Heap.get?_push_size _ rfl)⟩, Nat.zero_le _⟩ ?_
    · rw [e2]
      exact Nat.lt_trans lt1 (by rw [size_push']; exact Nat.lt_succ_self _)
    · rw [hxr, par_root]
      exact (by decide +kernel : ([] : List PySem.Str) = parO [])
  · rw [show (x != PySem.Str.ofString "root") = true from bne_iff_ne.mpr hxr]
    have hx' := hx.resolve_left hxr
    obtain ⟨os, hos⟩ := Option.isSome_iff_exists.mp hx'
    refine r_dsub (T := T) hos (r_name (I.tok _) rfl (r_name (I.tok _) rfl ⟨d, rfl, D1, hv, fun u hu => ?_⟩))
    refine ⟨_, (I.tok _), fun s2 I2 st2 e2 => ?_⟩
    have st02 : Step (fun b => s.heap.objs.size ≤ b) s s2 := st.any.trans ((Step.toks _).any.trans (st2.mono own1))
    exact fin os u s2 I2 st02 (by rw [e2]; exact lt1) (OptL.keep st02.old.keep0 hu) (par_node hxr hos)
end
end K25
namespace K25L
open PySem PySem.Spec PyProof.Rows L2
open K25 (top Opt Tbl OptH RowH TblH TOk Known par edg rf_lpar OptL DcR)
section
variable {P : Program} {w : World} {K : PySem.W.Frag} {mg : PySem.Str → Option Value} {base : Heap} {f : Addr} {fd : FuncData}
def spLPar : Sp := fun vs H Q _ => ∃ d x T, vs = [.ref d, .str x] ∧ TblH H d T ∧ Known T x ∧ ∀ H' p, Same H H' → H p = none → H' p = some (.lst ((par (edg T) x).map V.str)) → Q (.ref p) H'
theorem ok_lpar (F : F0 K "_law_parents" 46 f fd) (mod : L2.Mod K mg base) (m1 : mg "sorted" = none) (m2 : mg "set" = none) : FnOk P w K mg base CX0 1 f fd ["_law_table_here", "_law_name_here"] spLPar := by
  refine ⟨fun vs H Q E h => ?_, fun A outer s H args us vs Q E hr e0 hb r h => ?_⟩
  · obtain ⟨_, _, _, rfl, _⟩ := h
    rfl
  · obtain ⟨d, x, T, rfl, hT, hx, q⟩ := h
    obtain ⟨u1, u2, rfl, r1, r2⟩ : ∃ u1 u2, us = [u1, u2] ∧ RelV (.ref d) u1 ∧ RelV (.str x) u2 := by
      cases r with
      | cons p1 r => cases r with
        | cons p2 r => cases r; exact ⟨_, _, rfl, p1, p2⟩
    cases (show u1 = Value.ref d from r1)
    refine codeAny_mono ((rf_lpar F e0.mod m1 m2 T x hx).run A s args _ hr (fun b o e => (e0.bs b o e).1) e0.bsz hb rfl ⟨d, u2, rfl, hT.raw e0.hok, r2⟩) fun rr s' ⟨v, e, st, l, ev, hl, its, pr, n, hat⟩ => ?_
    subst e ev
    have kp := st.keep0
    obtain ⟨h', tk, dr, rfl, _⟩ := st
    have hn : H l = none := e0.hok.fresh hl
    refine ⟨.ref l, upd H l (.lst ((par (edg T) x).map V.str)), rfl, e0.bare, Un.laid kp hl hn, e0.hok.laid kp hl ?_, rfl, q _ _ (same_upd hn) hn upd_same⟩
    have z : (par (edg T) x).length ≤ sizeLine := by
      by_cases e : x = K25.root
      · rw [e, K25.par_root]; exact Nat.zero_le _
      · obtain ⟨os, hos⟩ := Option.isSome_iff_exists.mp (hx.resolve_left e)
        rw [K25.par_node e hos]
        refine Nat.le_trans (K25.parO_len os) ?_
        obtain ⟨_, _, _, g⟩ := (hT.raw e0.hok).at x
        rw [hos] at g
        obtain ⟨_, _, _, _, _, z⟩ := g
        exact Nat.le_trans z (by decide)
    exact ⟨by rw [List.length_map]; exact z, its, n, K25.tx_vals pr, hat⟩
end
end K25L

set_option Elab.async false
set_option linter.all false
set_option maxRecDepth 100000
set_option maxHeartbeats 4000000
/-! K25, part LJ: _law_ways -/
namespace K25L
open PySem PySem.Spec PyProof.Rows L2
open K25 (top Opt Tbl OptH RowH TblH TOk Known par edg due WayOk RowsH foll keys ends left D)
abbrev N47 : List PySem.Str := ["_law_table_here", "_law_trail", "_law_end", "_law_found", "_law_parent"]
theorem sc47 : FnScope N47 ["_law_table_here", "_law_trail", "_law_end"] (defScope (top 47)) := ⟨rfl, rfl, rfl, by decide +kernel, rfl, by decide +kernel, by decide +kernel⟩
/-- few nodes with few options -/
def Few (T : Tbl) : Prop := T.length ≤ 6 ∧ ∀ p ∈ T, p.2.length ≤ 4
theorem inV_strs (t : PySem.Str) (us : List PySem.Str) : inV (.str t) (us.map V.str) = us.contains t := by
  unfold inV
  rw [List.any_map, Bool.eq_iff_iff, List.any_eq_true, List.contains_iff_mem]
  constructor
  · rintro ⟨y, hy, e⟩
    have : y = t := by simpa [eqV] using e
    rw [← this]; exact hy
  · exact fun h => ⟨t, h, by simp [eqV]⟩
theorem flat_strs (us : List PySem.Str) : (us.map V.str).all flatV = true := by rw [List.all_map, List.all_eq_true]; intro _ _; rfl
section math
variable {T : Tbl} {y x : PySem.Str} {w : List PySem.Str}
theorem par_len (f : Few T) (x : PySem.Str) : (par (edg T) x).length ≤ 4 := by
  unfold par
  cases q : (edg T).lookup x with
  | none => exact Nat.zero_le _
  | some b =>
    rcases List.mem_cons.mp (PySem.mem_of_lookup q) with e | hm
    · rw [show b = [] from congrArg Prod.snd e]; exact Nat.zero_le _
    · obtain ⟨p, hp, e⟩ := List.mem_map.mp hm
      rw [show b = K25.parO p.2 from (congrArg Prod.snd e).symm]
      exact Nat.le_trans (K25.parO_len p.2) (f.2 p hp)
theorem due_len (f : Few T) (way : List PySem.Str) (h : 1 ≤ way.length) : (due T y way).length ≤ 4096 := by
  have h1 := K25.dfs_few (G := edg T) (us := keys (edg T)) (other := y) 4 (fun way => Nat.le_trans (List.length_filter_le _ _) (par_len f _)) (by decide) (left (edg T) way) way
  refine Nat.le_trans h1 ?_
  have : left (edg T) way ≤ 6 := by
    unfold left edg
    rw [List.length_cons, List.length_map]
    have := f.1
    omega
  exact Nat.pow_le_pow_right (by decide) this
theorem flat_len {α β : Type} {g : α → List β} {m : Nat} : ∀ {l : List α}, (∀ x ∈ l, (g x).length ≤ m) → (l.flatMap g).length ≤ l.length * m
  | [], _ => by simp
  | a :: r, h => by
    have ih := flat_len (g := g) (m := m) (l := r) fun x hx => h x (.tail _ hx)
    have h1 := h a (.head _)
    rw [List.flatMap_cons, List.length_append, List.length_cons, Nat.succ_mul]
    omega
/-- the ways through the first parents -/
def rowsTo (T : Tbl) (y x : PySem.Str) (way : List PySem.Str) (i : Nat) : List (List PySem.Str) := (((par (edg T) x).take i).filter fun p => !way.contains p).flatMap fun p => due T y (way ++ [p])
theorem foll_all (tok : TOk T) : foll (edg T) (keys (edg T)) (w ++ [x]) = (par (edg T) x).filter fun p => !(w ++ [x]).contains p := by
  unfold foll
  rw [K25.getLastD_concat]
  refine List.filter_congr fun p hp => ?_
  have : (keys (edg T)).contains p = true := by
    simp only [List.contains_eq_mem, decide_eq_true_eq]
    exact (K25.par_up (K25.edg_ok tok) x).2 p hp
  rw [this, Bool.true_and]
theorem due_go (tok : TOk T) (wok : WayOk (edg T) (w ++ [x])) (n : x ≠ y) : due T y (w ++ [x]) = rowsTo T y x (w ++ [x]) (par (edg T) x).length := by
  unfold due rowsTo
  rw [K25.D_go (K25.edg_ok tok) wok (by rw [K25.ends_concat]; exact decide_eq_false n), foll_all tok, List.take_length]
  rfl
theorem due_end : due T y (w ++ [y]) = [w ++ [y]] := K25.D_end (by rw [K25.ends_concat]; exact decide_eq_true rfl)
theorem rowsTo_add {way : List PySem.Str} {i : Nat} {p : PySem.Str} (hp : (par (edg T) x)[i]? = some p) : rowsTo T y x way (i + 1) = rowsTo T y x way i ++ if way.contains p then [] else due T y (way ++ [p]) := by
  unfold rowsTo
  rw [List.take_add_one, hp, List.filter_append, List.flatMap_append]
  congr 1
  show (List.filter (fun p => !way.contains p) [p]).flatMap (fun p => due T y (way ++ [p])) = _
  simp only [List.filter_cons, List.filter_nil]
  generalize way.contains p = b
  cases b <;> simp
theorem rowsTo_len (f : Few T) {way : List PySem.Str} (i : Nat) : (rowsTo T y x way i).length ≤ 4 * 4096 := by
  unfold rowsTo
  refine Nat.le_trans (flat_len (m := 4096) fun p _ => due_len f _ (by simp)) (Nat.mul_le_mul_right _ ?_)
  refine Nat.le_trans (List.length_filter_le _ _) (Nat.le_trans ?_ (par_len f x))
  rw [List.length_take]
  exact Nat.min_le_right _ _
theorem rows_off {H : Hp} {fo : Addr} {ls : List Addr} (f6 : H fo = some (.lst (ls.map V.ref))) : ∀ {rs : List (List PySem.Str)} {ms : List Addr}, Paired (fun (row : List PySem.Str) (l : Addr) => H l = some (.lst (row.map V.str))) rs ms → (∀ r ∈ rs, r ≠ []) → Paired (fun (row : List PySem.Str) (l : Addr) => l ≠ fo ∧ H l = some (.lst (row.map V.str))) rs ms
  | _, _, .nil, _ => .nil
  | r :: rs, l :: ms, .cons h t, k => by
    refine .cons ⟨fun z => ?_, h⟩ (rows_off f6 t fun r hr => k r (.tail _ hr))
    have h' : H l = some (.lst (r.map V.str)) := h
    rw [z, f6] at h'
    have e := HO.lst.inj (Option.some.inj h')
    have kr := k r (.head _)
    cases r with
    | nil => exact kr rfl
    | cons a r =>
      cases ls with
      | nil => cases e
      | cons b ls => cases (List.cons.inj e).1
theorem key_known {T : Tbl} {x : PySem.Str} (h : x ∈ (edg T).map (·.1)) : Known T x := by
  rw [K25.edg_keys] at h
  rcases List.mem_cons.mp h with h | h
  · exact .inl h
  · obtain ⟨b, e, _⟩ := K25.lookup_some h
    exact .inr (by rw [e]; rfl)
end math
section
variable {P : Program} {w : World} {K : PySem.W.Frag} {mg : PySem.Str → Option Value} {base : Heap} {f : Addr} {fd : FuncData}
def spLW (k : Nat) : Sp := fun vs H Q _ => ∃ d a y T way, vs = [.ref d, .ref a, .str y] ∧ TblH H d T ∧ TOk T ∧ Few T ∧ H a = some (.lst (way.map V.str)) ∧ WayOk (edg T) way ∧ left (edg T) way < k ∧ ∀ H' S, Same H H' → H S = none → RowsH H' S (due T y way) → Q (.ref S) H'
theorem ok_lways {f1 : Addr} {fd1 : FuncData} (C : Cal K mg "_law_ways" 47 ["_law_table_here", "_law_trail", "_law_end"] f fd) (C1 : Cal K mg "_law_parents" 46 ["_law_table_here", "_law_name_here"] f1 fd1) (G1 : FnOk P w K mg base CX0 1 f1 fd1 ["_law_table_here", "_law_name_here"] spLPar) :
    ∀ k, FnOk P w K mg base CX0 (k + 1) f fd ["_law_table_here", "_law_trail", "_law_end"] (spLW k) := by
  intro k
  induction k with
  | zero =>
    have no : ∀ vs H Q E, spLW 0 vs H Q E → False := fun vs H Q E h => by
      obtain ⟨_, _, _, _, _, _, _, _, _, _, _, h, _⟩ := h
      omega
    exact ⟨fun vs H Q E h => (no vs H Q E h).elim, fun A outer s H args us vs Q E _ _ _ _ h => (no vs H Q E h).elim⟩
  | succ k G =>
    have nd := sc47.nd
    refine C.fn.ok sc47 (fun vs H Q E h => ?_) (fun cdv A outer s H vs Q E hr h => ?_)
    · obtain ⟨_, _, _, _, _, rfl, _⟩ := h
      rfl
    · obtain ⟨d, a, y, T, way, rfl, hT, tok, few, ha, wok, hk, q⟩ := h
      refine ⟨_, pss_cons (ps_if (pt_cmpR op_eq (pe_ix ix_list (pv 1) (pe_un un_neg pe_int) (fun _ _ => rfl)) (pv 2) (nomark _)) (pss_one (ps_ret (pe_lst (pa_cons (pv 1) pa_nil)))) pss_nil)
        (pss_cons (ps_set (i := 3) nd rfl (.inl rfl) (pe_lst pa_nil))
        (pss_cons (ps_for PassesOwn.never rfl (pi_list (pe_call G1 (hr.mono (by omega)) (by rfl) C1.at_ C1.fn.kp C1.bs .nil pass0 (pa_cons (pv 0) (pa_cons (pe_ix ix_list (pv 1) (pe_un un_neg pe_int) (fun _ _ => rfl)) pa_nil)))) (pg_name (i := 4) nd rfl (Or.inl rfl))
          (pss_one (ps_if (pt_cmpR op_notIn_seq (pv 4) (pv 1) (by rfl)) (pss_one (ps_expr (pe_bm PySem.F.plainAttrs_list PySem.F.slot_list_extend PySem.F.type_list_extend mt_extend (pv 3)
            (pa_cons (pe_call G hr (by rfl) C.at_ C.fn.kp C.bs .nil pass0 (pa_cons (pv 0) (pa_cons (pe_op op_cat (pv 1) (pe_lst (pa_cons (pv 4) pa_nil))) (pa_cons (pv 2) pa_nil)))) pa_nil)))) pss_nil)))
        (pss_one (ps_ret (pv 3))))), ?_⟩
      have line : (1000 : Nat) < sizeLine := by decide
      obtain ⟨w', x, rfl⟩ := K25.list_snoc wok.ne
      have sa : H a = some (.lst (w'.map V.str ++ [V.str x])) := by rw [ha, List.map_append]; rfl
      refine ⟨.ref a, rfl, 1, rfl, a, _, -1, .str x, rfl, rfl, .inl (.inl sa), atI_last _ _, .str y, rfl, rfl, _, rfl, ite2 (fun e => ?_) (fun e => ?_)⟩
      · have e : x = y := by simpa using e
        subst e
        refine ⟨.ref a, rfl, by show 1 ≤ sizeLine; decide, fun p hp => ?_⟩
        refine q _ p (same_upd hp) hp ⟨[a], upd_same, ?_⟩
        rw [due_end]
        exact .cons (by rw [upd_ne (ne_of_none ha hp)]; exact ha) .nil
      · have ne : x ≠ y := by simpa using e
        refine ⟨Nat.zero_le _, fun fo hf => ?_⟩
        have s1 : Same H (upd H fo (.lst [])) := same_upd hf
        have f1 : (upd H fo (.lst [])) fo = some (.lst []) := upd_same
        generalize upd H fo (.lst []) = H1 at s1 f1
        refine ⟨.ref d, rfl, .ref a, rfl, 1, rfl, a, _, -1, .str x, rfl, rfl, .inl (.inl (s1 _ _ sa)), atI_last _ _, d, x, T, rfl, hT.same s1, key_known (wok.key x (by simp)), fun H2 ps s2 nps hps => ?_⟩
        refine ⟨ps, rfl, ⟨_, .inl (.inl hps)⟩, ?_⟩
        have fps : fo ≠ ps := ne_of_none f1 nps
        have sH2 : Same H H2 := s1.trans s2
        refine for_it (walk_list (xs := (par (edg T) x).map V.str)) (fun i σ H' => ∃ (y4 : Option V) (ls : List Addr), σ = [some (.ref d), some (.ref a), some (.str y), some (.ref fo), y4] ∧ H' ps = some (.lst ((par (edg T) x).map V.str)) ∧ H' fo = some (.lst (ls.map V.ref)) ∧ Paired (fun (row : List PySem.Str) (l : Addr) => l ≠ fo ∧ H' l = some (.lst (row.map V.str))) (rowsTo T y x (w' ++ [x]) i) ls ∧ Same H H')
          ⟨none, [], rfl, hps, s2 _ _ f1, by unfold rowsTo; exact .nil, sH2⟩ (fun i σ H' _ ⟨_, _, _, e, _⟩ => .inl (.inl e)) (fun i v σ Hz H3 hi ⟨y4, ls, e, p3, f3, rows, sm⟩ z => ?_) fun σ H3 ⟨y4, ls, e, p3, f3, rows, sm⟩ => ?_
        · subst e
          obtain ⟨rfl, hv⟩ := z
          rw [List.getElem?_map] at hv
          obtain ⟨p, hp, rfl⟩ := Option.map_eq_some_iff.mp hv
          refine ⟨.str p, rfl, .ref a, rfl, a, _, rfl, .inl (.inl (.inl (sm _ _ ha))), rfl, flat_strs _, _, rfl, ?_⟩
          rw [inV_strs]
          have add := rowsTo_add (T := T) (y := y) (way := w' ++ [x]) hp
          cases hc : (w' ++ [x]).contains p with
          | true =>
            rw [hc, if_pos rfl, List.append_nil] at add
            exact iteF ⟨_, ls, rfl, p3, f3, by rw [add]; exact rows, sm⟩
          | false =>
            rw [hc, if_neg Bool.false_ne_true] at add
            have pin : p ∈ foll (edg T) (keys (edg T)) (w' ++ [x]) := by
              rw [foll_all tok]
              exact List.mem_filter.mpr ⟨List.mem_of_getElem? hp, by rw [hc]; rfl⟩
            have wok2 := wok.snoc (K25.edg_ok tok) pin
            have lft := K25.left_snoc (K25.edg_ok tok) wok pin
            refine iteT ⟨.ref fo, rfl, .inl ⟨rfl, _, .inl (.inl f3)⟩, .ref d, rfl, .ref a, rfl, .str p, rfl, by show 1 ≤ sizeLine; decide, fun e1 he1 => ?_⟩
            have s4 : Same H3 (upd H3 e1 (.lst [.str p])) := same_upd he1
            have a4 : (upd H3 e1 (.lst [.str p])) e1 = some (.lst [.str p]) := upd_same
            generalize upd H3 e1 (.lst [.str p]) = H4 at s4 a4
            have wl := wok.le
            have el := K25.edg_len tok
            refine ⟨a, e1, _, _, rfl, rfl, s4 _ _ (sm _ _ ha), a4, by rw [List.length_map]; show _ + 1 ≤ sizeLine; omega, fun e2 he2 => ?_⟩
            have s5 : Same H4 (upd H4 e2 (.lst ((w' ++ [x]).map V.str ++ [.str p]))) := same_upd he2
            have a5 : (upd H4 e2 (.lst ((w' ++ [x]).map V.str ++ [.str p]))) e2 = some (.lst ((w' ++ [x] ++ [p]).map V.str)) := by rw [upd_same, List.map_append (l₂ := [p])]; rfl
            generalize upd H4 e2 (.lst ((w' ++ [x]).map V.str ++ [.str p])) = H5 at s5 a5
            have s35 := s4.trans s5
            refine ⟨.str y, rfl, d, e2, y, T, w' ++ [x] ++ [p], rfl, hT.same (sm.trans s35), tok, few, a5, wok2, by omega, fun H6 S s6 nS ⟨ms, hS, pr⟩ => ?_⟩
            have s36 := s35.trans s6
            have f6 := s36 _ _ f3
            have zl := rows.length
            have zm := pr.length
            have b1 := rowsTo_len (y := y) (x := x) few (way := w' ++ [x]) i
            have b2 := due_len (y := y) few (w' ++ [x] ++ [p]) (by simp)
            have big : 20480 ≤ sizeLine := by decide
            refine ⟨fo, S, ls.map V.ref, ms.map V.ref, rfl, rfl, f6, hS, by rw [List.length_map, List.length_map]; omega, ?_⟩
            have nH : H fo = none := hf
            refine ⟨_, ls ++ ms, rfl, by rw [upd_ne (Ne.symm fps)]; exact s36 _ _ p3, by rw [upd_same, List.map_append], ?_, fun b o e => by rw [upd_ne (ne_of_none e nH)]; exact s36 _ _ (sm _ _ e)⟩
            rw [add]
            refine K25.paired_append (Paired.mapP rows fun r l ⟨n, e⟩ => ⟨n, by rw [upd_ne n]; exact s36 _ _ e⟩) ?_
            have key : ∀ r ∈ due T y (w' ++ [x] ++ [p]), r ≠ [] := fun r hr => by
              obtain ⟨t, e⟩ := K25.dfs_pre _ _ _ hr
              rw [e]; simp
            exact Paired.mapP (rows_off f6 pr key) fun r l ⟨n, e⟩ => ⟨n, by rw [upd_ne n]; exact e⟩
        · subst e
          rw [List.length_map, ← due_go tok wok ne] at rows
          exact ⟨.ref fo, rfl, q _ fo sm hf ⟨ls, f3, Paired.mapP rows fun _ _ z => z.2⟩⟩
end
end K25L

set_option Elab.async false
set_option linter.all false
set_option maxRecDepth 100000
set_option maxHeartbeats 4000000
/-! K25, part LK: sorted of rows that stand in order, repr of rows and of a bool -/
namespace K25L
open PySem PySem.Spec PyProof.Rows L2
open K25 (RowLt tlt)
abbrev rowD (r : List PySem.Str) : PyData := .list (r.map .str)
theorem alike_strs : ∀ xs ys : List PySem.Str, PySem.W.alikeAll (xs.map .str) (ys.map .str) = true
  | [], _ => by simp [PySem.W.alikeAll]
  | _ :: _, [] => by simp [PySem.W.alikeAll]
  | x :: xs, y :: ys => by
    show PySem.W.alikeAll (.str x :: xs.map .str) (.str y :: ys.map .str) = true
    rw [PySem.W.alikeAll, alike_strs xs ys]
    simp [PySem.W.alike]
theorem depth_strs : ∀ xs : List PySem.Str, PyData.depthAll (xs.map .str) = 0
  | [] => by simp [PyData.depthAll]
  | x :: xs => by
    show PyData.depthAll (.str x :: xs.map .str) = 0
    rw [PyData.depthAll, depth_strs xs]
    simp [PyData.depth]
theorem rowD_depth (r : List PySem.Str) : (rowD r).depth = 1 := by
  show PyData.depth (.list _) = 1
  rw [PyData.depth, depth_strs]
theorem tlt_asym {p q : PySem.Str} (h : tlt p q) : decide (q.cps.toList < p.cps.toList) = false := decide_eq_false fun z => K25.tlt_irrefl p (K25.tlt_trans h z)
theorem row_lt {a b : List PySem.Str} (h : RowLt a b) : PySem.W.dataLt (rowD b) (rowD a) = false := by
  obtain ⟨pre, p, q, t, u, rfl, rfl, lt⟩ := h
  have ne : q ≠ p := fun e => by rw [e] at lt; exact K25.tlt_irrefl p lt
  show PySem.W.dataLt (.list _) (.list _) = false
  rw [PySem.W.dataLt_list]
  induction pre with
  | nil =>
    rw [List.nil_append, List.nil_append, List.map_cons, List.map_cons]
    rw [PySem.W.dataLt_all_no (by simp [PySem.W.alike]) (by simpa [PyData.eqv] using ne), PySem.W.dataLt_str]
    exact tlt_asym lt
  | cons x pre ih =>
    rw [List.cons_append, List.cons_append, List.map_cons, List.map_cons]
    rw [PySem.W.dataLt_all_yes (by simp [PySem.W.alike]) (by simp [PyData.eqv])]
    exact ih
section
variable {X : Cx}
theorem row_dp {K : PySem.W.Frag} {H : Hp} {l : Addr} {r : List PySem.Str} (h : H l = some (.lst (r.map V.str))) : Dp K H (.ref l) (rowD r) := by
  refine .lst (.inl (.inl h)) ?_
  clear h
  induction r with
  | nil => exact .nil
  | cons a r ih => exact .cons (.str a) ih
/-- sorted(xs), xs a list of rows in ascending order: a new list of the same -/
def rSortedUp : List V → Hp → VK → Prop := fun vs H Q => ∃ (a : Addr) (ls : List Addr) (rows : List (List PySem.Str)), vs = [.ref a] ∧ H a = some (.lst (ls.map V.ref)) ∧ Paired (fun (row : List PySem.Str) (l : Addr) => H l = some (.lst (row.map V.str))) rows ls ∧ rows.Pairwise RowLt ∧
  ∀ p, H p = none → Q (.ref p) (upd H p (.lst (ls.map V.ref)))
theorem refs_only : ∀ {ls : List Addr} {us : List Value}, Vals (ls.map V.ref) us → us = ls.map Value.ref
  | [], _, .nil => rfl
  | l :: ls, _, .cons h t => by
    cases (show _ = Value.ref l from h)
    rw [refs_only t]; rfl
theorem each_rows {h : Heap} {P : Program} {w : World} {H : Hp} (ok : HOk P w H h) : ∀ {rows : List (List PySem.Str)} {ls : List Addr}, Paired (fun (row : List PySem.Str) (l : Addr) => H l = some (.lst (row.map V.str))) rows ls →
    PySem.W.EachIs (fun v (b : List PySem.Str × Addr) => v = Value.ref b.2) (ls.map Value.ref) (rows.zip ls) ∧ PySem.W.EachIs (fun v (b : List PySem.Str × Addr) => ∃ as, Reads h v (rowD b.1) as) (ls.map Value.ref) (rows.zip ls)
  | _, _, .nil => ⟨.nil, .nil⟩
  | r :: rows, l :: ls, .cons e t => by
    obtain ⟨h1, h2⟩ := each_rows ok t
    refine ⟨.cons rfl h1, .cons ?_ h2⟩
    obtain ⟨_, its, n, rv, hat⟩ := ok l _ e
    have key : ∀ {r : List PySem.Str} {its : List Value}, Vals (r.map V.str) its → ∃ as, ReadsAll h its (r.map .str) as := by
      intro r
      induction r with
      | nil => intro its v; cases v; exact ⟨_, .nil⟩
      | cons a r ih =>
        intro its v
        cases v with
        | cons q v =>
          obtain ⟨t, rfl⟩ := q
          obtain ⟨as, z⟩ := ih v
          exact ⟨_, .cons (.str a t) z⟩
    obtain ⟨as, ra⟩ := key rv
    exact ⟨_, .list hat rfl rfl (by simpa using ra)⟩
theorem cr_sortedUp (hu : X.A.units + 64 < cLine) : CallR X (.builtin "sorted") rSortedUp := by
  intro pins s σ H vs us Q I r h
  obtain ⟨a, ls, rows, rfl, ha, pr, up, q⟩ := h
  obtain ⟨u, rfl, ru⟩ := vals1 r
  obtain rfl : u = Value.ref a := ru
  obtain ⟨hz, its, n, rv, hat⟩ := I.hok a _ ha
  have e := refs_only rv
  subst e
  obtain ⟨e1, e2⟩ := each_rows I.hok pr
  have hl : s.heap.IsList a (ls.map Value.ref).toArray := ⟨_, hat, rfl, n, rfl⟩
  have zl := pr.length
  refine PySem.W.sorted_data (bs := rows.zip ls) (enc := fun b => rowD b.1) hl e1 e2 (PySem.W.AllAlike.of fun b b' => by show PySem.W.alike (.list _) (.list _) = true; rw [PySem.W.alike]; exact alike_strs _ _) (PySem.W.Sortable.others fun b => ⟨nofun, nofun⟩)
    (by rw [List.length_zip, zl, Nat.min_self]; rw [List.length_map] at hz; exact hz) (fun b _ => by rw [rowD_depth]; omega) fun out ho hE => ?_
  have sorted : (rows.zip ls).mergeSort (PySem.W.dataLe false fun b => rowD b.1) = rows.zip ls := by
    refine List.mergeSort_of_pairwise ?_
    rw [PySem.W.dataLe_eq]
    have : ∀ {rows : List (List PySem.Str)} {ls : List Addr}, rows.Pairwise RowLt → (rows.zip ls).Pairwise fun a b => RowLt a.1 b.1 := by
      intro rows
      induction rows with
      | nil => intro ls _; exact .nil
      | cons r rows ih =>
        intro ls p
        cases ls with
        | nil => exact .nil
        | cons l ls =>
          obtain ⟨p1, p2⟩ := List.pairwise_cons.mp p
          exact List.pairwise_cons.mpr ⟨fun b hb => p1 b.1 (List.of_mem_zip hb).1, ih p2⟩
    exact (this up).imp fun h => by show (!PySem.W.dataLt _ _) = true; rw [row_lt h]; rfl
  rw [sorted] at hE
  have eo : out = ls.map Value.ref := by
    have : ∀ {out : List Value} {bs : List (List PySem.Str × Addr)}, PySem.W.EachIs (fun v (b : List PySem.Str × Addr) => v = Value.ref b.2) out bs → out = bs.map fun b => Value.ref b.2 := by
      intro out bs h
      induction h with
      | nil => rfl
      | cons h _ ih => rw [List.map_cons, h, ih]
    rw [this hE, ← List.map_snd_zip (l₁ := rows) (l₂ := ls) (by rw [zl]; exact Nat.le_refl _), List.map_map]
    rw [List.map_snd_zip (l₁ := rows) (l₂ := ls) (by rw [zl]; exact Nat.le_refl _)]
    rfl
  subst eo
  obtain ⟨n', hn⟩ := sortedAll_at s.heap (ls.map Value.ref) (ls.map Value.ref).toArray
  refine ⟨.ref (s.heap.objs.size + 1), upd H (s.heap.objs.size + 1) (.lst (ls.map V.ref)), I.laid (t' := s.toks) (fun b o e => sortedAll_old e) (Nat.le_succ _) ⟨hz, _, n', rv, hn⟩, rfl, q _ (I.hok.fresh (Nat.le_succ _))⟩
/-- repr of data, of a bool -/
def rRepr (K : PySem.W.Frag) : List V → Hp → VK → Prop := fun vs H Q => ∃ a d, vs = [.ref a] ∧ Dp K H (.ref a) d ∧ d.showable = true ∧ d.hasDict = false ∧ d.depth ≤ 60 ∧ d.shown.length ≤ sizeLine ∧ Q (.str d.shown) H
theorem cr_repr (hg : X.A.guards = some []) (hu : X.A.units + 64 < cLine) : CallR X (.builtin "repr") (rRepr X.K) := by
  intro pins s σ H vs us Q I r h
  obtain ⟨a, d, rfl, hd, h1, h2, h3, h4, q⟩ := h
  obtain ⟨u, rfl, ru⟩ := vals1 r
  obtain rfl : u = Value.ref a := ru
  obtain ⟨as, rd⟩ := Dp.reads I d _ _ hd (show RelV (.ref a) (Value.ref a) from rfl)
  exact PySem.repr_of_reads' rd h1 (PySem.PyData.noDict_hsm h2) hg (by omega) (fun _ _ e => e) (fun h' t tk k => ⟨.str d.shown, H, I.kept (t' := tk) k, ⟨t, rfl⟩, q⟩) h4
def rReprB : List V → Hp → VK → Prop := fun vs H Q => ∃ b, vs = [.bl b] ∧ Q (.str (if b then "True" else "False")) H
theorem cr_reprB : CallR X (.builtin "repr") rReprB := by
  intro pins s σ H vs us Q I r h
  obtain ⟨b, rfl, q⟩ := h
  obtain ⟨u, rfl, ru⟩ := vals1 r
  obtain rfl : u = Value.bool b := ru
  exact PySem.P.repr_of_bool ⟨.str _, H, I.tok _, ⟨_, rfl⟩, q⟩
end
end K25L

set_option Elab.async false
set_option linter.all false
set_option maxRecDepth 100000
set_option maxHeartbeats 4000000
/-! K25, part LL: defs that are called while no repr is under way -/
namespace K25L
open PySem PySem.Spec PyProof.Rows L2
/-- the promise, where no guard is on the stack -/
structure FnG (P : Program) (w : World) (K : PySem.W.Frag) (mg : PySem.Str → Option Value) (base : Heap) (k : Nat) (f : Addr) (fd : FuncData) (ps : List PySem.Str) (sp : Sp) : Prop where
  len : ∀ vs H Q, sp vs H Q E0 → vs.length = ps.length
  go : ∀ (A : Around) (out : List Env) (s : Shared) (H : Hp) (as : Args) (us : List Value) (vs : List V) (Q : VK), A.guards = some [] → Room k A → Env0 P w K mg base A out s H → BindsTo s fd as (ps.zip us) → Vals vs us → sp vs H Q E0 →
    codeAny (model P w) A (.call (.ref f) as) (fun r s' => ∃ u, r = .ok (.ret u) ∧ CE out P w H s Q u s') s
section
variable {P : Program} {w : World} {K : PySem.W.Frag} {mg : PySem.Str → Option Value} {base : Heap} {f : Addr} {fd : FuncData} {k : Nat} {ps N : List PySem.Str} {sp : Sp} {x qual : PySem.Str} {st : Stmt}
theorem fnG (F : Fun K x qual st f fd) (S : FnScope N ps (defScope st)) (hlen : ∀ vs H Q, sp vs H Q E0 → vs.length = ps.length)
    (body : ∀ (cd : Value) (A : Around) (out : List Env) (s : Shared) (H : Hp) (vs : List V) (Q : VK), (A.deeper (envOfC qual (defScope st) s.heap.objs.size f cd)).guards = some [] → Room k (A.deeper (envOfC qual (defScope st) s.heap.objs.size f cd)) → sp vs H Q E0 →
      ∃ t, PSs (cxOf CX0 P w K mg base N qual (defScope st) f cd A out s H E0).nox (defBody st) t ∧ t { nx := fun _ H' => Q .non H', rt := Q } (start N vs) H) : FnG P w K mg base (k + 1) f fd ps sp := by
  obtain ⟨_, _, kV, doc, pm, an, cd, ct, _, rfl, lk, hc⟩ := F.ex
  refine ⟨hlen, fun A out s H as us vs Q hg hr e0 hb rv hs => ?_⟩
  have old : ∀ b o, base.get? b = some o → s.heap.get? b = some o := fun b o e => (e0.bs b o e).1
  have kin : K.In s.heap := e0.mod.kin.keeps old
  obtain ⟨t, ht, tq⟩ := body cd A out s H vs Q hg (hr.deeper _) hs
  refine codeAny_call_function hr.depth (kin _ _ lk) rfl S.co S.gen rfl (PySem.W.codeRec_of kin hc) (hb _ _ _ _ (wpAny_newFunctionEnv_cells S.kind (fun z hz => ?_) fun env he s1 ic => ?_))
  · exact (S.par z.1 (List.of_mem_zip hz).1).imp id fun q => ⟨q, PySem.W.cellsFrom_some _ _ _ (.inl q)⟩
  · subst he
    refine ⟨(e0.mod.nolimit.keeps old).keeps ic.toInCall.keep, codeAny_func (wpAny_mono (ht.nox.run [] s1 (start N vs) H _ (inv_start S hr.hd e0 (hlen _ _ _ hs) rv ic) tq) (fun fl s' q => ?_) fun e s' q => ?_)⟩
    · cases fl with
      | ret u => exact (let ⟨v, _, H', J, r, z⟩ := q; ⟨u, rfl, v, H', J.os, J.bare, J.base, J.hok, r, z⟩)
      | next => exact (let ⟨_, H', J, z⟩ := q; ⟨.none, rfl, .non, H', J.os, J.bare, J.base, J.hok, rfl, z⟩)
      | brk => exact (let ⟨_, _, _, z⟩ := q; z.elim)
      | cont => exact (let ⟨_, _, _, z⟩ := q; z.elim)
    · exact wpAny_mono q (fun _ _ z => z.elim) fun _ _ z => z.elim
end
def tCallG (sp : Sp) (t : TA) : TE := fun σ H Q => t σ H fun vs H1 => sp vs H1 Q E0
section
variable {X : Cx} {k : Nat} {f : Addr} {fd : FuncData} {ps : List PySem.Str} {sp : Sp} {x : PySem.Str} {p pos : Pos} {e : Expr} {es : List Expr} {t : TA}
theorem runG {pins : List (Addr × Obj)} {σ : L2.St} {H : Hp} {s : Shared} {Q : VK} {us : List Value} {vs : List V} (F : FnG X.prog X.w X.K X.mg X.base k f fd ps sp) (hg : X.A.guards = some []) (hr : Room k X.A) (hb : Binds X.K fd ps []) (I : Inv X pins σ H s) (r : Vals vs us) (h : sp vs H Q E0) :
    wpAny (model X.prog X.w) X.A (PySem.call (.ref f) us) (EP X pins σ Q) X.xe s := by
  have hl : us.length = ps.length := r.length.symm.trans (F.len _ _ _ h)
  have hb' := hb s us I.kIn (by rw [List.append_nil]; exact hl)
  rw [List.append_nil] at hb'
  refine wpAny_call (codeAny_mono (F.go X.A X.stack s H ⟨us, []⟩ us vs Q hg hr I.env0 hb' r h) fun rr s' ⟨u, e, q⟩ => ?_)
  subst e
  exact I.after q
theorem pe_callG (F : FnG X.prog X.w X.K X.mg X.base k f fd ps sp) (hg : X.A.guards = some []) (hr : Room k X.A) (gx : Gl X x) (hm : X.mg x = some (.ref f)) (hk : PySem.W.keepIn X.K (.ref f) = true) (hb : Binds X.K fd ps []) (ha : PA X (e :: es) t)
    (hdb : (x == ("__debug__" : PySem.Str)) = false := by decide) (he : starEach (e :: es) X.env = (false, eval e X.env) :: starEach es X.env := by rfl) (hpl : (backTo pos (starEach es X.env)).any (·.1) = false := by rfl) :
    PE X (.Call (.Name x p) (e :: es) [] pos) (tCallG sp t) :=
  ⟨fun pins s σ H Q I h => wpAny_Call_Name_kw (ld_glob I gx hm (PySem.W.callWith_K (h₀ := X.base) I.ok.mod.kin hk (thn (ha.run pos pins s σ H _ I h) fun us s1 ⟨vs, H1, I1, r, q⟩ => ⟨I1.kIn, runG F hg hr hb I1 r q⟩) he hpl) hdb)⟩
end
end K25L

set_option Elab.async false
set_option linter.all false
set_option maxRecDepth 100000
set_option maxHeartbeats 4000000
/-! K25, part LM: Choices == Choices -/
namespace K25L
open PySem PySem.Spec PyProof.Rows L2
open K25 (top meth Opt Tbl OptH RowH TblH ChoH OptV OptL DcR)
theorem opD_alike : ∀ os : List Opt, PySem.W.alikeAll (os.map opD) (os.map opD) = true
  | [] => by simp [PySem.W.alikeAll]
  | o :: os => by
    show PySem.W.alikeAll (opD o :: os.map opD) (opD o :: os.map opD) = true
    rw [PySem.W.alikeAll, opD_alike os]
    cases o <;> simp [opD, PySem.W.alike, PySem.W.alikeAll]
theorem opD_depth : ∀ os : List Opt, PyData.depthAll (os.map opD) ≤ 1
  | [] => by simp [PyData.depthAll]
  | o :: os => by
    have h1 := op_depth o
    have h2 := opD_depth os
    show PyData.depthAll (opD o :: os.map opD) ≤ 1
    rw [PyData.depthAll]
    omega
theorem optv_reads {h : Heap} {o : Opt} {v : Value} (q : OptV h o v) : ∃ as, Reads h v (opD o) as := by
  cases o with
  | none => cases (show v = .none from q); exact ⟨_, .none⟩
  | some p =>
    obtain ⟨t, u1, u2, rfl, hT, ⟨t1, rfl⟩, ⟨t2, rfl⟩⟩ := q
    obtain ⟨ob, ho, hc, n, hd⟩ := hT
    exact ⟨_, .tuple ho hc hd (.cons (.str p.1 t1) (.cons (.str p.2 t2) .nil))⟩
theorem optl_reads {h : Heap} {os : List Opt} {v : Value} (q : OptL h os v) : ∃ as, Reads h v (.list (os.map opD)) as := by
  obtain ⟨l, rfl, ⟨its, pr, n, e⟩, _⟩ := q
  have key : ∀ {os : List Opt} {its : List Value}, Paired (OptV h) os its → ∃ as, ReadsAll h its (os.map opD) as := by
    intro os its p
    induction p with
    | nil => exact ⟨_, .nil⟩
    | cons r _ ih =>
      obtain ⟨as, z⟩ := ih
      obtain ⟨bs, y⟩ := optv_reads r
      exact ⟨_, .cons y z⟩
  obtain ⟨as, ra⟩ := key pr
  exact ⟨_, .list e rfl rfl (by simpa using ra)⟩
theorem pair_mem {α β : Type} {R : α → β → Prop} {xs : List α} {ys : List β} (p : Paired R xs ys) {y : β} (h : y ∈ ys) : ∃ x, x ∈ xs ∧ R x y := by
  induction p with
  | nil => cases h
  | cons r _ ih =>
    rcases List.mem_cons.mp h with rfl | h
    · exact ⟨_, .head _, r⟩
    · obtain ⟨x, h1, h2⟩ := ih h
      exact ⟨x, .tail _ h1, h2⟩
section
variable {X : Cx}
def rEqTbl : R2 := fun x y H Q => ∃ a b T, x = .ref a ∧ y = .ref b ∧ TblH H a T ∧ TblH H b T ∧ Q (.bl true) H
theorem op_eqTbl (hu : X.A.units + 64 < cLine) : OpR X (compareOp .Eq) rEqTbl := by
  intro pins s σ H x y v u Q I rx ry h
  obtain ⟨a, b, T, rfl, rfl, ha, hb, q⟩ := h
  obtain rfl : v = Value.ref a := rx
  obtain rfl : u = Value.ref b := ry
  have Da := ha.raw I.hok
  have Db := hb.raw I.hok
  have nd : (T.map (·.1)).Nodup := Da.nodup
  obtain ⟨va, pa, da, ya, _⟩ := Da
  obtain ⟨vb, pb, db, yb, _⟩ := Db
  have get : ∀ k w, (k, w) ∈ va → ∃ z y os, valueAt vb k = some y ∧ k = .inr z ∧ OptL s.heap os w ∧ OptL s.heap os y := fun k w hm => by
    obtain ⟨p, hp, e, r⟩ := pair_mem pa hm
    have g := K25.pairs_get (x := p.1) pb
    rw [K25.lookup_mem nd hp] at g
    obtain ⟨y, h1, h2⟩ := g
    have e : k = Sum.inr p.1 := e
    exact ⟨p.1, y, p.2, by rw [e]; exact h1, e, r, h2⟩
  have hits : PySem.W.KeqHitsIn X.prog X.w X.A.in1 s vb va (va.all fun p => (valueAt vb p.1).isSome && true) := by
    refine PySem.W.KeqHitsIn.of (e := fun _ => true) va fun k w y hm hy => ?_
    obtain ⟨z, y', os, h1, _, r1, r2⟩ := get k w hm
    rw [hy] at h1
    cases h1
    obtain ⟨as, q1⟩ := optl_reads r1
    obtain ⟨bs, q2⟩ := optl_reads r2
    have al : PySem.W.alike (.list (os.map opD)) (.list (os.map opD)) = true := by rw [PySem.W.alike]; exact opD_alike os
    have dp : (PyData.list (os.map opD)).depth ≤ 2 := by
      have := opD_depth os
      rw [PyData.depth]
      omega
    have eq := PySem.W.eqAt_alike _ _ X.A.in1 s w y as bs q1 q2 al (by show X.A.units + 1 + _ < cLine; omega)
    rw [PySem.W.eqv_refl_alike _ al] at eq
    exact eq.inModel X.prog X.w
  have all : (va.all fun p => (valueAt vb p.1).isSome && true) = true := by
    rw [List.all_eq_true]
    intro p hp
    obtain ⟨_, y, _, h1, _⟩ := get p.1 p.2 hp
    rw [h1]; rfl
  rw [all] at hits
  refine PySem.W.keq_eqIn ya yb da db (by omega) (fun _ => hits) ⟨.bl true, H, I, ?_, q⟩
  have : va.length = vb.length := by rw [← pa.length, ← pb.length]
  show RelV (.bl true) (.bool (va.length == vb.length && true))
  rw [this, beq_self_eq_true]
  rfl
end
/-- what the class of Choices must be -/
structure ChC (K : PySem.W.Frag) (C : Addr) : Prop where
  cl : Cls K C
  na : NoAttr K C "own_options"
  ha : PySem.W.findIn K (.ref C) "__class__" = some (some (.builtin "object.__class__"))
  hn : PySem.W.specialIn K (.builtin "object.__class__") "__get__" = some (some (.builtin "getset_descriptor.__get__"))
  htk : PySem.W.takesIn K (.builtin "object.__class__") = some true
  hm : PySem.W.mroIn K C (.type "object") = some true
section
variable {P : Program} {w : World} {K : PySem.W.Frag} {mg : PySem.Str → Option Value} {base : Heap} {f C : Addr} {fd : FuncData}
theorem scEq : FnScope ["self", "other"] ["self", "other"] (defScope (meth 3)) := ⟨rfl, rfl, rfl, by decide +kernel, rfl, by decide +kernel, by decide +kernel⟩
def RCh (C : Addr) : Addr → Addr → Hp → Prop := fun a b H => ∃ T, ChoH C H a T ∧ ChoH C H b T
theorem ok_cheq (F : Fun K "__eq__" "Choices.__eq__" (meth 3) f fd) (cc : ChC K C) (mC : mg "Choices" = some (.ref C)) (mi : mg "isinstance" = none) : FnOk P w K mg base CX0 1 f fd ["self", "other"] (spEq (RCh C)) := by
  refine F.ok scEq (fun vs H Q E h => ?_) (fun cdv A outer s H vs Q E hr h => ?_)
  · obtain ⟨_, _, rfl, _⟩ := h
    rfl
  · obtain ⟨a, b, rfl, ⟨T, h1, h2⟩, q⟩ := h
    have hu := hr.units
    refine ⟨_, pss_one (ps_ret (pe_and (pe_callB call_isi (by rfl) mi (by kernel_rfl) (pa_cons (pv 1) (pa_cons (pe_glob (v := .ref C) (by rfl) mC rfl) pa_nil))) (pe_one (pe_cmpR (op_eqTbl hu) (pe_fld (pv 0) rfl) (pe_fld (pv 1) rfl) (nomark _))))), ?_⟩
    obtain ⟨dx1, d1, e1, t1⟩ := h1
    obtain ⟨dx2, d2, e2, t2⟩ := h2
    refine ⟨.ref b, rfl, .ref b, .ref C, .ref C, .ref C, true, rfl, .own C, .base (.ins e2 cc.cl cc.ha cc.hn cc.htk cc.hm), by unfold PySem.W.kitOne; rw [beq_self_eq_true, if_pos rfl], true, rfl, iteT ?_⟩
    refine ⟨.ref a, rfl, a, C, dx1, _, _, rfl, e1, cc.cl, cc.na, rfl, .ref b, rfl, b, C, dx2, _, _, rfl, e2, cc.cl, cc.na, rfl, d1, d2, T, rfl, rfl, t1, t2, q H fun _ _ e => e⟩
end
end K25L

set_option Elab.async false
set_option linter.all false
set_option maxRecDepth 100000
set_option maxHeartbeats 4000000
/-! K25, part LN: rows as data -/
namespace K25L
open PySem PySem.Spec PyProof.Rows L2
open K25 (top Opt Tbl TOk Known edg due wall WayOk)
theorem root_nm : NmT K25.root := by
  have h : 1 ≤ K25.root.length ∧ K25.root.length ≤ 8 ∧ K25.root.cps.toList.all (fun c => decide (c ∈ abc.cps.toList)) = true := by decide +kernel
  exact ⟨h.1, h.2.1, fun c hc => of_decide_eq_true (List.all_eq_true.mp h.2.2 c hc)⟩
theorem TT.tok {T : Tbl} (t : TT T) : TOk T := by
  refine ⟨t.nd, fun h => ?_, t.few, fun p hp z hz => ?_⟩
  · obtain ⟨p, hp, e⟩ := List.mem_map.mp h
    exact (t.key p hp).2 e
  · obtain ⟨o, ho, e⟩ := List.mem_filterMap.mp (K25.mem_srt.mp hz)
    obtain ⟨q, rfl, rfl⟩ := Option.map_eq_some_iff.mp e
    exact ((t.row p hp).2.2.2 _ ho).2 q rfl
theorem TT.nm {T : Tbl} (t : TT T) : ∀ x ∈ (edg T).map (·.1), NmT x := fun x hx => by
  rw [K25.edg_keys] at hx
  rcases List.mem_cons.mp hx with rfl | hx
  · exact root_nm
  · obtain ⟨p, hp, rfl⟩ := List.mem_map.mp hx
    exact (t.key p hp).1
/-- rows of names -/
def NmR (rows : List (List PySem.Str)) : Prop := ∀ r ∈ rows, ∀ x ∈ r, NmT x
abbrev rowsD (rows : List (List PySem.Str)) : PyData := .list (rows.map rowD)
theorem canStrs : ∀ r : List PySem.Str, (∀ x ∈ r, NmT x) → PyData.canLayAll0 (r.map .str) = true
  | [], _ => by simp [PyData.canLayAll0]
  | x :: r, h => by
    show PyData.canLayAll0 (.str x :: r.map .str) = true
    rw [PyData.canLayAll0, canStrs r fun y hy => h y (.tail _ hy)]
    simp only [PyData.canLay0, nm_ok (h x (.head _))]
    rfl
theorem canRow {r : List PySem.Str} (h : ∀ x ∈ r, NmT x) : (rowD r).canLay0 = true := by
  show PyData.canLay0 (.list _) = true
  rw [PyData.canLay0]
  exact canStrs r h
theorem row_shaped {r : List PySem.Str} (h : ∀ x ∈ r, NmT x) : SeqAt.shaped (rowD r) = true := by
  unfold SeqAt.shaped
  rw [canRow h, rowD_depth]
  rfl
theorem canAll {α : Type} (g : α → PyData) : ∀ l : List α, (∀ x ∈ l, (g x).canLay0 = true) → PyData.canLayAll0 (l.map g) = true
  | [], _ => by simp [PyData.canLayAll0]
  | x :: r, h => by
    show PyData.canLayAll0 (g x :: r.map g) = true
    rw [PyData.canLayAll0, canAll g r fun y hy => h y (.tail _ hy), h x (.head _)]
    rfl
theorem depthAll_le {α : Type} (g : α → PyData) (n : Nat) : ∀ l : List α, (∀ x ∈ l, (g x).depth ≤ n) → PyData.depthAll (l.map g) ≤ n
  | [], _ => by simp [PyData.depthAll]
  | x :: r, h => by
    have h1 := h x (.head _)
    have h2 := depthAll_le g n r fun y hy => h y (.tail _ hy)
    show PyData.depthAll (g x :: r.map g) ≤ n
    rw [PyData.depthAll]
    omega
theorem rowsD_depth (rows : List (List PySem.Str)) : (rowsD rows).depth ≤ 2 := by
  have := depthAll_le rowD 1 rows fun x _ => by rw [rowD_depth]; exact Nat.le_refl _
  show PyData.depth (.list _) ≤ 2
  rw [PyData.depth]
  omega
theorem rows_shaped {rows : List (List PySem.Str)} (h : NmR rows) : SeqAt.shaped (rowsD rows) = true := by
  unfold SeqAt.shaped
  have h1 : (rowsD rows).canLay0 = true := by
    show PyData.canLay0 (.list _) = true
    rw [PyData.canLay0]
    exact canAll rowD rows fun r hr => canRow (h r hr)
  have h2 := rowsD_depth rows
  rw [h1, decide_eq_true (by omega)]
  rfl
/-- each row twice -/
abbrev pairsD (rows : List (List PySem.Str)) : PyData := .list (rows.map fun r => .list [rowD r, rowD r])
theorem pairs_shaped {rows : List (List PySem.Str)} (h : NmR rows) : SeqAt.shaped (pairsD rows) = true := by
  unfold SeqAt.shaped
  have h1 : (pairsD rows).canLay0 = true := by
    show PyData.canLay0 (.list _) = true
    rw [PyData.canLay0]
    refine canAll _ rows fun r hr => ?_
    rw [PyData.canLay0, PyData.canLayAll0, PyData.canLayAll0, PyData.canLayAll0, canRow (h r hr)]
    rfl
  have h2 : (pairsD rows).depth ≤ 3 := by
    have := depthAll_le (fun r => PyData.list [rowD r, rowD r]) 2 rows fun r _ => by
      rw [PyData.depth, PyData.depthAll, PyData.depthAll, PyData.depthAll, rowD_depth]
      decide
    show PyData.depth (.list _) ≤ 3
    rw [PyData.depth]
    omega
  rw [h1, decide_eq_true (by omega)]
  rfl
theorem showStrs : ∀ r : List PySem.Str, PyData.showableAll (r.map .str) = true
  | [] => by simp [PyData.showableAll]
  | x :: r => by
    show PyData.showableAll (.str x :: r.map .str) = true
    rw [PyData.showableAll, showStrs r]
    simp [PyData.showable]
theorem rows_showable : ∀ rows : List (List PySem.Str), (rowsD rows).showable = true := fun rows => by
  show PyData.showable (.list _) = true
  rw [PyData.showable]
  induction rows with
  | nil => simp [PyData.showableAll]
  | cons r rows ih =>
    show PyData.showableAll (rowD r :: rows.map rowD) = true
    rw [PyData.showableAll, ih]
    show (PyData.showable (.list _) && true) = true
    rw [PyData.showable, showStrs]
    rfl
theorem rows_nodict {rows : List (List PySem.Str)} (h : NmR rows) : (rowsD rows).hasDict = false := PyData.hasDict_of_canLay _ (SeqAt.canLay_of_shaped (rows_shaped h))
theorem nm_text {x : PySem.Str} (h : NmT x) : (reprText x).length ≤ 82 := by
  have := PySem.StrLaws.reprText_len x fun c hc => by
    have h1 := h.2.2 c (by simpa using hc)
    have h2 : abc.cps.toList.all (fun c => decide (c < 16 ^ 8)) = true := by decide +kernel
    exact of_decide_eq_true (List.all_eq_true.mp h2 c h1)
  have := h.2.1
  omega
theorem sum_le {α : Type} (g : α → Nat) (n : Nat) : ∀ l : List α, (∀ x ∈ l, g x ≤ n) → (l.map g).sum ≤ l.length * n
  | [], _ => by simp
  | x :: r, h => by
    have h1 := h x (.head _)
    have h2 := sum_le g n r fun y hy => h y (.tail _ hy)
    rw [List.map_cons, List.sum_cons, List.length_cons, Nat.succ_mul]
    omega
theorem row_text {r : List PySem.Str} (h : ∀ x ∈ r, NmT x) (hl : r.length ≤ 7) : (rowD r).shown.length ≤ 600 := by
  show (PyData.shown (.list _)).length ≤ 600
  rw [PyData.shown]
  have e : PyData.shownAll (r.map .str) = r.map reprText := by
    clear h hl
    induction r with
    | nil => rfl
    | cons x r ih =>
      show PyData.shownAll (.str x :: r.map .str) = _
      rw [PyData.shownAll, ih, List.map_cons, PyData.shown]
  rw [e]
  refine Nat.le_trans (listText_len_le _) ?_
  rw [List.map_map, List.length_map]
  have := sum_le (fun x : PySem.Str => (reprText x).length) 82 r fun x hx => nm_text (h x hx)
  have e2 : ((·.length) ∘ reprText) = fun x : PySem.Str => (reprText x).length := rfl
  rw [e2]
  omega
theorem rows_text {rows : List (List PySem.Str)} (h : NmR rows) (hl : ∀ r ∈ rows, r.length ≤ 7) (hn : rows.length ≤ 4096) : (rowsD rows).shown.length ≤ sizeLine := by
  show (PyData.shown (.list _)).length ≤ sizeLine
  rw [PyData.shown]
  have e : PyData.shownAll (rows.map rowD) = rows.map fun r => (rowD r).shown := by
    clear h hl hn
    induction rows with
    | nil => rfl
    | cons x r ih =>
      show PyData.shownAll (rowD x :: r.map rowD) = _
      rw [PyData.shownAll, ih, List.map_cons]
  rw [e]
  refine Nat.le_trans (listText_len_le _) ?_
  rw [List.map_map, List.length_map]
  have := sum_le (fun r : List PySem.Str => (rowD r).shown.length) 600 rows fun r hr => row_text (h r hr) (hl r hr)
  have e2 : ((·.length) ∘ fun r : List PySem.Str => (rowD r).shown) = fun r : List PySem.Str => (rowD r).shown.length := rfl
  rw [e2]
  have : sizeLine = 16777216 := by decide
  omega
theorem eqv_self {d : PyData} (h : PySem.W.alike d d = true) : PyData.eqv d d = true := PySem.W.eqv_refl_alike d h
theorem row_alike (r : List PySem.Str) : PySem.W.alike (rowD r) (rowD r) = true := by
  show PySem.W.alike (.list _) (.list _) = true
  rw [PySem.W.alike]
  exact alike_strs r r
theorem alikeAll_map {α : Type} (g : α → PyData) (h : ∀ x, PySem.W.alike (g x) (g x) = true) : ∀ l : List α, PySem.W.alikeAll (l.map g) (l.map g) = true
  | [] => by simp [PySem.W.alikeAll]
  | x :: r => by
    show PySem.W.alikeAll (g x :: r.map g) (g x :: r.map g) = true
    rw [PySem.W.alikeAll, h x, alikeAll_map g h r]
    rfl
theorem rows_eqv (rows : List (List PySem.Str)) : PyData.eqv (rowsD rows) (rowsD rows) = true := eqv_self (by show PySem.W.alike (.list _) (.list _) = true; rw [PySem.W.alike]; exact alikeAll_map rowD row_alike rows)
theorem pairs_eqv (rows : List (List PySem.Str)) : PyData.eqv (pairsD rows) (pairsD rows) = true := eqv_self (by
  show PySem.W.alike (.list _) (.list _) = true
  rw [PySem.W.alike]
  refine alikeAll_map _ (fun r => ?_) rows
  rw [PySem.W.alike, PySem.W.alikeAll, PySem.W.alikeAll, PySem.W.alikeAll, row_alike]
  rfl)
theorem row_eqv (r : List PySem.Str) : PyData.eqv (rowD r) (rowD r) = true := eqv_self (row_alike r)
theorem rows_nil (rows : List (List PySem.Str)) : PyData.eqv (rowsD rows) (.list []) = decide (rows = []) := by
  cases rows with
  | nil => rfl
  | cons r rows => rfl
theorem rows_dp {K : PySem.W.Frag} {H : Hp} {S : Addr} {ls : List Addr} {rows : List (List PySem.Str)} (hS : H S = some (.lst (ls.map V.ref))) (p : Paired (fun (row : List PySem.Str) (l : Addr) => H l = some (.lst (row.map V.str))) rows ls) : Dp K H (.ref S) (rowsD rows) := by
  refine .lst (.inl (.inl hS)) ?_
  clear hS
  induction p with
  | nil => exact .nil
  | cons h _ ih => exact .cons (row_dp h) ih
section
variable {T : Tbl} {x y : PySem.Str}
/-- what the ways are like, in few words -/
theorem wall_nm (t : TT T) (hx : Known T x) : NmR (wall T x y) := fun r hr z hz => t.nm z ((K25.due_ok t.tok hx r (by rw [← K25.wall_due t.tok hx]; exact hr)).key z hz)
theorem wall_7 (t : TT T) (f : Few T) (hx : Known T x) : ∀ r ∈ wall T x y, r.length ≤ 7 := fun r hr => by
  have h1 := (K25.due_ok t.tok hx r (by rw [← K25.wall_due t.tok hx]; exact hr)).le
  have h2 := f.1
  unfold edg at h1
  rw [List.length_cons, List.length_map] at h1
  omega
theorem wall_4096 (t : TT T) (f : Few T) (hx : Known T x) : (wall T x y).length ≤ 4096 := by
  rw [K25.wall_due t.tok hx]
  exact due_len f [x] (by simp)
end
end K25L

set_option Elab.async false
set_option linter.all false
set_option maxRecDepth 100000
set_option maxHeartbeats 4000000
/-! K25, part LO: _law_pair_right -/
namespace K25L
open PySem PySem.Spec PyProof.Rows L2
open K25 (top Opt Tbl TOk Known edg due wall WayOk ChoH TblH RowsH WaysFn spHas psW pe_listWays pe_listWaysK ps_forWays1 ps_setPairs)
abbrev N48 : List PySem.Str := ["_law_made", "_law_table_here", "_law_start", "_law_end", "_law_due", "_law_one", "_law_pairs"]
theorem sc48 : FnScope N48 ["_law_made", "_law_table_here", "_law_start", "_law_end"] (defScope (top 48)) := ⟨rfl, rfl, rfl, by decide +kernel, rfl, by decide +kernel, by decide +kernel⟩
theorem cut_back (xs : List V) (v : V) : cutV (xs ++ [v]) none (some (-1)) = xs := by
  have hl : (xs ++ [v]).length = xs.length + 1 := by simp
  have e : HT.sIx (xs.length + 1) (xs.length + 1) (some (-1)) = xs.length := by
    show (if (-1 : Int) < 0 then ((-1 : Int) + ((xs.length + 1 : Nat) : Int)).toNat else min (-1 : Int).toNat (xs.length + 1)) = _
    rw [if_pos (by decide)]
    omega
  unfold cutV
  rw [HT.sIx_none, hl, e]
  simp
theorem pairs_dp {K : PySem.W.Frag} {H : Hp} {S : Addr} {ls : List Addr} {rows : List (List PySem.Str)} (hS : H S = some (.lst (ls.map V.ref)))
    (p : Paired (fun (row : List PySem.Str) (l : Addr) => ∃ l1 l2, H l = some (.lst [.ref l1, .ref l2]) ∧ H l1 = some (.lst (row.map V.str)) ∧ H l2 = some (.lst (row.map V.str))) rows ls) : Dp K H (.ref S) (pairsD rows) := by
  refine .lst (.inl (.inl hS)) ?_
  clear hS
  induction p with
  | nil => exact .nil
  | cons h _ ih =>
    obtain ⟨l1, l2, h0, h1, h2⟩ := h
    exact .cons (.lst (.inl (.inl h0)) (.cons (row_dp h1) (.cons (row_dp h2) .nil))) ih
theorem next_seq {a b : TS} {D : Ends} {c k : L2.St → Hp → Prop} {r : VK} {σ : L2.St} {H : Hp} (h : a { D with nx := b D } σ H) : tNext { nx := tSeq a b D, ct := c, bk := k, rt := r } σ H := h
theorem for1_by {C : Addr} {t : TA} {i : Nat} {tb : TS} {D : Ends} {σ : L2.St} {H : Hp} (Pv : L2.St → Hp → Prop) (h : (∀ σ H, Pv σ H → D.nx σ H) → K25.tForWays1 C t i tb D σ H) (hd : ∀ σ H, Pv σ H → D.nx σ H) : K25.tForWays1 C t i tb D σ H := h hd
section
variable {P : Program} {w : World} {K : PySem.W.Frag} {mg : PySem.Str → Option Value} {base : Heap} {f C : Addr} {fd : FuncData}
def spPair (C : Addr) : Sp := fun vs H Q _ => ∃ a d x y T, vs = [.ref a, .ref d, .str x, .str y] ∧ ChoH C H a T ∧ TblH H d T ∧ TT T ∧ Few T ∧ Known T x ∧ Known T y ∧ ∀ H', Same H H' → Q (.bl true) H'
theorem ok_pair {k kk : Nat} {f1 f2 f3 : Addr} {fd1 fd2 fd3 : FuncData} (F : F0 K "_law_pair_right" 48 f fd) (C1 : Cal K mg "_law_ways" 47 ["_law_table_here", "_law_trail", "_law_end"] f1 fd1) (G1 : FnOk P w K mg base CX0 8 f1 fd1 ["_law_table_here", "_law_trail", "_law_end"] (spLW 7))
    (C2 : Cal K mg "has_way" 36 ["choices", "node", "other"] f2 fd2) (G2 : FnOk P w K mg base CX0 (k + 1) f2 fd2 ["choices", "node", "other"] (spHas C)) (W : WaysFn P w K mg base C k f3 fd3)
    (hbk : ∀ (s : Shared) (us : List Value) (vs : List V), K.In s.heap → Vals vs us → us.length = 3 → ∃ u1 u2 u3, BindsTo s fd3 ⟨[], (["other", "choices", "node"] : List PySem.Str).zip us⟩ (psW.zip [u1, u2, u3]) ∧ Vals ((fun l : List V => [l.getD 1 .non, l.getD 2 .non, l.getD 0 .non]) vs) [u1, u2, u3])
    (hk1 : k + 4 ≤ kk) (hk2 : 8 ≤ kk) (ms : mg "sorted" = none) (mr : mg "repr" = none) (ml : mg "list" = none) (mz : mg "zip" = none) : FnG P w K mg base (kk + 1) f fd ["_law_made", "_law_table_here", "_law_start", "_law_end"] (spPair C) := by
  have nd := sc48.nd
  refine fnG F sc48 (fun vs H Q h => ?_) (fun cdv A outer s H vs Q hg hr h => ?_)
  · obtain ⟨_, _, _, _, _, rfl, _⟩ := h
    rfl
  · obtain ⟨a, d, x, y, T, rfl, hC, hT, tt, few, hx, hy, q⟩ := h
    have hu := hr.units
    have hu64 : (A.deeper (envOfC "_law_pair_right" (defScope (top 48)) s.heap.objs.size f cdv)).units + 64 < cLine := hu
    refine ⟨_, pss_cons (ps_set (i := 4) nd rfl (.inl rfl) (pe_callB (cr_sortedUp hu) (by rfl) ms (by kernel_rfl) (pa_cons (pe_call G1 (hr.mono (by omega)) (by rfl) C1.at_ C1.fn.kp C1.bs .nil pass0 (pa_cons (pv 1) (pa_cons (pe_lst (pa_cons (pv 2) pa_nil)) (pa_cons (pv 3) pa_nil)))) pa_nil)))
      (pss_cons (ps_if (pw_or (pt_cmpR op_ne (pe_callB (cr_repr hg hu) (by rfl) mr (by kernel_rfl) (pa_cons (pe_listWays W rfl (hr.mono hk1) (pa_cons (pv 0) (pa_cons (pv 2) (pa_cons (pv 3) pa_nil))) ml) pa_nil)) (pe_callB (cr_repr hg hu) (by rfl) mr (by kernel_rfl) (pa_cons (pv 4) pa_nil)) (nomark _))
          (pw_or1 (pt_cmpR op_ne (pe_callB cr_reprB (by rfl) mr (by kernel_rfl) (pa_cons (pe_call G2 (hr.mono (by omega)) (by rfl) C2.at_ C2.fn.kp C2.bs .nil pass0 (pa_cons (pv 0) (pa_cons (pv 2) (pa_cons (pv 3) pa_nil)))) pa_nil)) (pe_callB cr_reprB (by rfl) mr (by kernel_rfl) (pa_cons (pe_cmpR (op_neD hu) (pv 4) (pe_lst pa_nil) (nomark _)) pa_nil)) (nomark _)))).pt pss_never pss_nil)
      (pss_cons (ps_forWays1 (i := 5) W PassesOwn.never rfl (hr.mono hk1) (pa_cons (pv 0) (pa_cons (pv 2) (pa_cons (pv 3) pa_nil))) nd rfl (.inl rfl)
          (pss_cons (ps_expr (pe_bm PySem.F.plainAttrs_list PySem.F.slot_list_append PySem.F.type_list_append mt_append (pv 5) (pa_cons pe_non pa_nil)))
          (pss_cons (ps_if (pt_cmpR (op_neD hu) (pe_slice sl_list (pv 5) po_none (po_some (pe_un un_neg pe_int))) (pe_ix ix_list (pv 4) pe_int (fun _ _ => rfl)) (nomark _)) pss_never pss_nil)
          (pss_one ps_break))))
      (pss_cons (ps_setPairs (i := 6) (j1 := 0) (j2 := 2) (j3 := 3) W rfl (hr.mono hk1) nd rfl rfl rfl rfl (by decide +kernel) (by decide +kernel) (by decide +kernel) (by decide +kernel) (by decide +kernel) mz (by rfl) (by rfl) rfl rfl rfl (.inl rfl) (.inl rfl) (.inl rfl) (by decide +kernel))
      (pss_one (ps_ret (pe_and (pe_cmpR op_eq (pe_callB (cr_repr hg hu) (by rfl) mr (by kernel_rfl) (pa_cons (pe_listWaysK (ks := ["other", "choices", "node"]) (g := fun l => [l.getD 1 .non, l.getD 2 .non, l.getD 0 .non]) W rfl (hr.mono hk1) (pk_cons (pv 3) (pk_cons (pv 0) (pk_cons (pv 2) pk_nil))) ml hbk) pa_nil)) (pe_callB (cr_repr hg hu) (by rfl) mr (by kernel_rfl) (pa_cons (pv 4) pa_nil)) (nomark _))
        (pe_one (pe_cmpR (op_eqD hu) (pv 6) (pe_lc (own := [("_law_one", 5)]) (g := gName 5) (tt := tYes) rfl nd (pi_list (pv 4)) (blkOk_by (N := N48) (sc := defScope (top 48)) (by decide +kernel))
          (fun _ _ _ _ _ => pg_name (i := 5) nd rfl (Or.inl rfl)) (fun _ _ _ _ _ => pts_nil) (fun _ _ _ _ _ => pe_lst (pa_cons (pv 5) (pa_cons (pv 5) pa_nil)))) (nomark _))))))))), ?_⟩
    have tok := tt.tok
    have xk : x ∈ (edg T).map (·.1) := hx.key
    have wok : WayOk (edg T) [x] := ⟨by simp, List.pairwise_singleton _ _, fun z hz => by rw [List.mem_singleton.mp hz]; exact xk⟩
    have lft : K25.left (edg T) [x] < 7 := by
      unfold K25.left edg
      rw [List.length_cons, List.length_map, List.length_singleton]
      have := few.1
      omega
    have nm : NmR (wall T x y) := wall_nm tt hx
    have w7 := wall_7 (y := y) tt few hx
    have w4 := wall_4096 (y := y) tt few hx
    have up : (wall T x y).Pairwise K25.RowLt := K25.wall_up tok hx
    have has := K25.has_wall (y := y) tok hx
    have sh := rows_showable (wall T x y)
    have nodi := rows_nodict nm
    have dep : (rowsD (wall T x y)).depth ≤ 60 := Nat.le_trans (rowsD_depth _) (by decide)
    have txt := rows_text nm w7 w4
    have big : (4096 : Nat) ≤ sizeLine := by decide
    refine ⟨.ref d, rfl, .str x, rfl, by show 1 ≤ sizeLine; decide, fun e1 he1 => ⟨.str y, rfl, d, e1, y, T, [x], rfl, hT.same (same_upd he1), tok, few, upd_same, wok, lft, fun H2 S s2 nS ⟨ls, hS, pr⟩ => ⟨S, ls, wall T x y, rfl, hS, by rw [K25.wall_due tok hx]; exact pr, up, fun p hp => ?_⟩⟩⟩
    have pr2 : Paired (fun (row : List PySem.Str) (l : Addr) => H2 l = some (.lst (row.map V.str))) (wall T x y) ls := by rw [K25.wall_due tok hx]; exact pr
    have s3 : Same H2 (upd H2 p (.lst (ls.map V.ref))) := same_upd hp
    have p3 : (upd H2 p (.lst (ls.map V.ref))) p = some (.lst (ls.map V.ref)) := upd_same
    have sm3 : Same H (upd H2 p (.lst (ls.map V.ref))) := (same_upd he1).trans (s2.trans s3)
    have pr3 : Paired (fun (row : List PySem.Str) (l : Addr) => (upd H2 p (.lst (ls.map V.ref))) l = some (.lst (row.map V.str))) (wall T x y) ls := Paired.mapP pr2 fun _ _ z => s3 _ _ z
    generalize upd H2 p (.lst (ls.map V.ref)) = H3 at p3 sm3 pr3
    clear s3 hp pr2 pr hS nS s2 he1
    have dueD : ∀ {H'}, Same H3 H' → Dp K H' (.ref p) (rowsD (wall T x y)) := fun k => rows_dp (k _ _ p3) (Paired.mapP pr3 fun _ _ z => k _ _ z)
    -- the texts are the same
    refine ⟨.ref a, rfl, .str x, rfl, .str y, rfl, a, x, y, T, rfl, hC.same sm3, tok, hx, hy, Nat.le_trans w4 big, fun H4 S4 s4 ⟨ls4, hS4, pr4⟩ _ => ⟨S4, rowsD (wall T x y), rfl, rows_dp hS4 pr4, sh, nodi, dep, txt, .ref p, rfl, p, rowsD (wall T x y), rfl, dueD s4, sh, nodi, dep, txt, rfl, _, rfl, ?_⟩⟩
    rw [decide_eq_true rfl]
    refine iteF ?_
    -- has_way says whether there is one
    refine ⟨.ref a, rfl, .str x, rfl, .str y, rfl, a, x, y, T, rfl, hC.same (sm3.trans s4), tok, hx, hy, _, rfl, .ref p, rfl, by show 0 ≤ sizeLine; decide, fun e2 he2 => ⟨rowsD (wall T x y), .list [], dueD (s4.trans (same_upd he2)), .lst (.inl (.inl upd_same)) .nil, rows_shaped nm, by decide +kernel, _, rfl, rfl, _, rfl, ?_⟩⟩
    have yes2 : (K25.rch (edg T) x).contains y = !PyData.eqv (rowsD (wall T x y)) (.list []) := by
      rw [has, rows_nil]
      by_cases h : wall T x y = [] <;> simp [h]
    rw [yes2, decide_eq_true rfl]
    refine iteF ?_
    have s5 : Same H3 (upd H4 e2 (.lst [])) := s4.trans (same_upd he2)
    generalize upd H4 e2 (.lst []) = H5 at s5
    refine next_seq ?_
    refine for1_by (Pv := fun σ H' => ∃ y5 : Option V, σ = [some (.ref a), some (.ref d), some (.str x), some (.str y), some (.ref p), y5, none] ∧ Same H3 H') (fun hd => ?_) (fun σ H' ⟨y5, e, s6⟩ => ?_)
    · refine ⟨.ref a, rfl, .str x, rfl, .str y, rfl, a, x, y, T, rfl, hC.same (sm3.trans s5), tok, hx, hy, fun e => hd _ _ ⟨none, rfl, s5⟩, fun way rest e H6 l nl s6 hl => ?_⟩
      have lx : ∀ b o, H5 b = some o → b ≠ l := fun b o e => ne_of_none e nl
      have wn : ∀ z ∈ way, NmT z := nm way (by rw [e]; exact .head _)
      have wl := w7 way (by rw [e]; exact .head _)
      refine ⟨.ref l, rfl, .inl ⟨rfl, _, .inl (.inl hl)⟩, l, way.map V.str, .non, rfl, rfl, hl, by rw [List.length_map]; omega, ?_⟩
      have s7 : Same H5 (upd H6 l (.lst (way.map V.str ++ [.non]))) := fun b o e => by rw [upd_ne (lx b o e)]; exact s6 _ _ e
      have l7 : (upd H6 l (.lst (way.map V.str ++ [.non]))) l = some (.lst (way.map V.str ++ [.non])) := upd_same
      generalize upd H6 l (.lst (way.map V.str ++ [.non])) = H7 at s7 l7
      have s37 : Same H3 H7 := s5.trans s7
      obtain ⟨l0, lr, els, h0⟩ : ∃ l0 lr, ls = l0 :: lr ∧ H3 l0 = some (.lst (way.map V.str)) := by
        rw [e] at pr3
        cases pr3 with
        | cons h t => exact ⟨_, _, rfl, h⟩
      refine ⟨.ref l, rfl, 1, rfl, -1, rfl, l, _, rfl, .inl (.inl l7), fun e8 he8 => ?_⟩
      rw [cut_back]
      have s8 : Same H7 (upd H7 e8 (.lst (way.map V.str))) := same_upd he8
      have l8 : (upd H7 e8 (.lst (way.map V.str))) e8 = some (.lst (way.map V.str)) := upd_same
      generalize upd H7 e8 (.lst (way.map V.str)) = H8 at s8 l8
      have p8 := s8 _ _ (s37 _ _ p3)
      refine ⟨.ref p, rfl, p, _, 0, .ref l0, rfl, rfl, .inl (.inl p8), atI_nat (j := 0) (by rw [els]; rfl), rowD way, rowD way, row_dp l8, row_dp (s8 _ _ (s37 _ _ h0)), row_shaped wn, row_shaped wn, _, rfl, ?_⟩
      rw [row_eqv]
      refine iteF ?_
      exact hd _ _ ⟨_, rfl, s37.trans s8⟩
    · subst e
      refine ⟨a, x, y, T, rfl, rfl, rfl, hC.same (sm3.trans s6), tok, hx, hy, Nat.le_trans w4 big, fun H9 S s9 ⟨ps, hS, prs⟩ _ => ?_⟩
      have s39 := s6.trans s9
      refine ⟨.str y, rfl, .ref a, rfl, .str x, rfl, rfl, a, x, y, T, rfl, hC.same (sm3.trans s39), tok, hx, hy, Nat.le_trans w4 big, fun H4 S4 s4 ⟨ls4, hS4, pr4⟩ _ => ⟨S4, rowsD (wall T x y), rfl, rows_dp hS4 pr4, sh, nodi, dep, txt, .ref p, rfl, p, rowsD (wall T x y), rfl, dueD (s39.trans s4), sh, nodi, dep, txt, rfl, _, rfl, ?_⟩⟩
      rw [decide_eq_true rfl]
      have p4 := s4 _ _ (s39 _ _ p3)
      refine iteT ⟨.ref S, rfl, .ref p, rfl, p, rfl, ⟨_, .inl (.inl p4)⟩, fun D nD => ?_⟩
      have zl := pr3.length
      refine lc_it (walk_list (xs := ls.map V.ref)) (fun i H' => ∃ ds : List Addr, H' D = some (.lst (ds.map V.ref)) ∧ Paired (fun (l dd : Addr) => dd ≠ D ∧ H' dd = some (.lst [.ref l, .ref l])) (ls.take i) ds ∧ Same H4 H') ⟨[], upd_same, by rw [List.take_zero]; exact .nil, same_upd nD⟩ (fun i H' _ ⟨_, _, _, sm⟩ => .inl (.inl (sm _ _ p4))) (fun i v Hz H7 hi ⟨ds, hD, pd, sm⟩ z => ?_) fun H7 ⟨ds, hD, pd, sm⟩ => ?_
      · obtain ⟨rfl, hv⟩ := z
        rw [List.getElem?_map] at hv
        obtain ⟨l, hl, rfl⟩ := Option.map_eq_some_iff.mp hv
        have zd := pd.length
        have hi' : i < ls.length := (List.getElem?_eq_some_iff.mp hl).1
        rw [List.length_take] at zd
        refine ⟨rfl, yes ⟨.ref l, rfl, .ref l, rfl, by show 2 ≤ sizeLine; decide, fun e8 he8 => ?_⟩⟩
        have De : D ≠ e8 := ne_of_none hD he8
        refine ⟨_, same_upd he8 _ _ hD, by rw [List.length_map]; omega, ds ++ [e8], by rw [upd_same, List.map_append]; rfl, ?_, fun b o e => ?_⟩
        · rw [List.take_add_one, hl]
          refine K25.paired_append (Paired.mapP pd fun l dd ⟨n, e⟩ => ⟨n, ?_⟩) (.cons ⟨Ne.symm De, by rw [upd_ne (Ne.symm De), upd_same]⟩ .nil)
          rw [upd_ne n, upd_ne (ne_of_none e he8)]
          exact e
        · rw [upd_ne (ne_of_none e nD)]
          exact same_upd he8 _ _ (sm _ _ e)
      · rw [List.length_map, List.take_length] at pd
        have pp : Paired (fun (row : List PySem.Str) (l : Addr) => ∃ l1 l2, H7 l = some (.lst [.ref l1, .ref l2]) ∧ H7 l1 = some (.lst (row.map V.str)) ∧ H7 l2 = some (.lst (row.map V.str))) (wall T x y) ds :=
          K25.paired_comp (fun r l dd h1 h2 => ⟨l, l, h2.2, sm _ _ (s4 _ _ (s39 _ _ h1)), sm _ _ (s4 _ _ (s39 _ _ h1))⟩) pr3 pd
        have ps7 : Paired (fun (row : List PySem.Str) (l : Addr) => ∃ l1 l2, H7 l = some (.lst [.ref l1, .ref l2]) ∧ H7 l1 = some (.lst (row.map V.str)) ∧ H7 l2 = some (.lst (row.map V.str))) (wall T x y) ps :=
          Paired.mapP prs fun r l ⟨l1, l2, a1, a2, a3⟩ => ⟨l1, l2, sm _ _ (s4 _ _ a1), sm _ _ (s4 _ _ a2), sm _ _ (s4 _ _ a3)⟩
        refine ⟨pairsD (wall T x y), pairsD (wall T x y), pairs_dp (sm _ _ (s4 _ _ hS)) ps7, pairs_dp hD pp, pairs_shaped nm, pairs_shaped nm, ?_⟩
        rw [pairs_eqv]
        exact q _ (sm3.trans (s39.trans (s4.trans sm)))
end
end K25L

set_option Elab.async false
set_option linter.all false
set_option maxRecDepth 100000
set_option maxHeartbeats 4000000
/-! K25, part LP: the ladder, in plain Lean -/
namespace K25L
open PySem
open K25 (Opt Tbl TOk Known edg due wall WayOk root par keys rch Gr hd)
def lname (k : Nat) : PySem.Str := PySem.Str.ofString "n" ++ ⟨#[(PySem.Str.ofString "abcd").cps.toList.getD (k / 10) 0]⟩ ++ ⟨#[(PySem.Str.ofString "abcdefghij").cps.toList.getD (k % 10) 0]⟩
def lnames : List PySem.Str := (List.range 40).map lname
def labove : List PySem.Str := root :: lnames
def lrow (k : Nat) : List Opt := ((labove.drop (k - 1)).take (k + 1 - (k - 1))).map fun p => some (p, lname k)
def L : Tbl := (List.range 40).map fun k => (lname k, lrow k)
def lpar (k : Nat) : List PySem.Str := if k = 0 then [root] else if k = 1 then [lname 0, root] else [lname (k - 2), lname (k - 1)]
def G : Gr := (root, []) :: (List.range 40).map fun k => (lname k, lpar k)
def upB : List PySem.Str → Bool
  | [] => true
  | a :: r => r.all (fun b => decide (a.cps.toList < b.cps.toList)) && upB r
theorem upB_up : ∀ {l : List PySem.Str}, upB l = true → K25.Up l
  | [], _ => .nil
  | a :: r, h => by
    simp only [upB, Bool.and_eq_true, List.all_eq_true, decide_eq_true_eq] at h
    exact List.pairwise_cons.mpr ⟨fun b hb => h.1 b hb, upB_up h.2⟩
def rowB (k : Nat) : Bool := upB (lpar k) && (lpar k).all (fun x => ((lrow k).filterMap fun o => o.map (·.1)).contains x) && ((lrow k).filterMap fun o : Opt => o.map (·.1)).all fun x => (lpar k).contains x
theorem rowB_all : (List.range 40).all rowB = true := by decide +kernel
theorem lpar_eq {k : Nat} (h : k < 40) : K25.parO (lrow k) = lpar k := by
  have h1 := List.all_eq_true.mp rowB_all k (List.mem_range.mpr h)
  simp only [rowB, Bool.and_eq_true, List.all_eq_true, List.contains_iff_mem] at h1
  exact (K25.srt_eq (upB_up h1.1.1) fun x => ⟨h1.1.2 x, h1.2 x⟩).symm
theorem edg_L : edg L = G := by
  unfold edg L G
  rw [List.map_map]
  congr 1
  refine List.map_congr_left fun k hk => ?_
  show (lname k, K25.parO (lrow k)) = _
  rw [lpar_eq (List.mem_range.mp hk)]
def nmB (t : PySem.Str) : Bool := decide (1 ≤ t.length) && decide (t.length ≤ 8) && t.cps.toList.all fun c => decide (c ∈ abc.cps.toList)
theorem nmB_nm {t : PySem.Str} (h : nmB t = true) : NmT t := by
  simp only [nmB, Bool.and_eq_true, List.all_eq_true, decide_eq_true_eq] at h
  exact ⟨h.1.1, h.1.2, h.2⟩
def optB (o : Opt) : Bool := match o with
  | none => true
  | some q => nmB q.1 && nmB q.2 && labove.contains q.1
def lB (k : Nat) : Bool := nmB (lname k) && decide (lname k ≠ root) && decide (1 ≤ (lrow k).length) && decide ((lrow k).length ≤ 250) && decide (lrow k).Nodup && (lrow k).all optB
theorem lB_all : (List.range 40).all lB = true := by decide +kernel
theorem L_nd : lnames.Nodup := by decide +kernel
theorem L_keys : L.map (·.1) = lnames := by
  unfold L lnames
  rw [List.map_map]
  rfl
theorem lB_at {k : Nat} (h : k < 40) : NmT (lname k) ∧ lname k ≠ root ∧ 1 ≤ (lrow k).length ∧ (lrow k).length ≤ 250 ∧ (lrow k).Nodup ∧ ∀ o ∈ lrow k, optB o = true := by
  have h1 := List.all_eq_true.mp lB_all k (List.mem_range.mpr h)
  simp only [lB, Bool.and_eq_true, List.all_eq_true, decide_eq_true_eq] at h1
  obtain ⟨⟨⟨⟨⟨a, b⟩, c⟩, d⟩, e⟩, f⟩ := h1
  exact ⟨nmB_nm a, b, c, d, e, f⟩
theorem L_tt : TT L := by
  refine ⟨by decide +kernel, by rw [L_keys]; exact L_nd, fun p hp => ?_, fun p hp => ?_⟩
  · obtain ⟨k, hk, rfl⟩ := List.mem_map.mp hp
    obtain ⟨a, b, _⟩ := lB_at (List.mem_range.mp hk)
    exact ⟨a, b⟩
  · obtain ⟨k, hk, rfl⟩ := List.mem_map.mp hp
    obtain ⟨_, _, a, b, c, d⟩ := lB_at (List.mem_range.mp hk)
    refine ⟨a, b, c, fun o ho => ?_⟩
    have ob := d o ho
    cases o with
    | none => exact ⟨trivial, fun q e => by cases e⟩
    | some q =>
      simp only [optB, Bool.and_eq_true, List.contains_iff_mem] at ob
      refine ⟨⟨nmB_nm ob.1.1, nmB_nm ob.1.2⟩, fun q' e => ?_⟩
      cases e
      rw [L_keys]
      rcases List.mem_cons.mp ob.2 with h | h
      · exact .inl h
      · exact .inr h
/-- the first way -/
def lfirst : List PySem.Str := ((List.range 20).map fun i => lname (39 - 2 * i)) ++ [lname 0, root]
theorem hd_first : hd G (keys G) root 40 [lname 39] = some lfirst := by decide +kernel
theorem G_len : G.length = 41 := by decide +kernel
theorem wall_first : (wall L (lname 39) root).head? = some lfirst := by
  have hx : Known L (lname 39) := key_known (by rw [edg_L]; decide +kernel)
  rw [K25.wall_due L_tt.tok hx]
  unfold due K25.D
  rw [K25.dfs_head, edg_L]
  have e : K25.left G [lname 39] = 40 := by
    unfold K25.left
    rw [G_len]; rfl
  rw [e]
  exact hd_first
theorem L_known {k : Nat} (h : k < 40) : Known L (lname k) := key_known (by
  rw [K25.edg_keys, L_keys]
  exact .tail _ (List.mem_map.mpr ⟨k, List.mem_range.mpr h, rfl⟩))
theorem down : (rch (edg L) (lname 39)).contains (lname 0) = true := by
  rw [edg_L]
  decide +kernel
theorem notup : (rch (edg L) (lname 0)).contains (lname 39) = false := by
  rw [edg_L]
  decide +kernel
theorem wall_none : wall L (lname 0) (lname 39) = [] := by
  have h := K25.has_wall (y := lname 39) L_tt.tok (L_known (k := 0) (by decide))
  rw [notup] at h
  simpa using h
end K25L

set_option Elab.async false
set_option linter.all false
set_option maxRecDepth 100000
set_option maxHeartbeats 4000000
/-! K25, part LQ: every second item from the 40th down -/
namespace K25L
open PySem PySem.Spec PyProof.Rows L2
def pick2 {α : Type} (xs : List α) : List α := ((List.range 20).map fun i => 39 - 2 * i).filterMap fun i => xs[i]?
theorem vals_pick {xs : List V} {its : List Value} (r : Vals xs its) : ∀ ix : List Nat, Vals (ix.filterMap fun i => xs[i]?) (ix.filterMap fun i => its[i]?)
  | [] => .nil
  | i :: ix => by
    have ih := vals_pick r ix
    rw [List.filterMap_cons, List.filterMap_cons]
    cases e : xs[i]? with
    | none =>
      have : its[i]? = none := by
        rw [List.getElem?_eq_none_iff] at e ⊢
        rw [← r.length]; exact e
      rw [this]; exact ih
    | some v =>
      obtain ⟨u, hu, ru⟩ := r.get e
      rw [hu]
      exact .cons ru ih
theorem range2 : sliceRange (sliceBounds (some 39) none (some (-2)) 40).1 (sliceBounds (some 39) none (some (-2)) 40).2.1 (sliceBounds (some 39) none (some (-2)) 40).2.2 = (List.range 20).map fun i => 39 - 2 * i := by decide +kernel
section
variable {X : Cx}
def tPick2 (K : PySem.W.Frag) (te : TE) : TE := fun σ H Q => te σ H fun x H1 => ∃ a xs, x = .ref a ∧ SqL K H1 a xs ∧ xs.length = 40 ∧ ∀ p, H1 p = none → Q (.ref p) (upd H1 p (.lst (pick2 xs)))
theorem pe_pick2 {e : Expr} {te : TE} {k1 k2 : Nat} {q1 p1 p2 p3 pos : Pos} (he : PE X e te) : PE X (.Subscript e (.Slice (some (.Constant (.int 39) k1 q1)) none (some (.UnaryOp .USub (.Constant (.int 2) k2 p1) p2)) p3) pos) (tPick2 X.K te) := by
  refine ⟨fun pins s σ H Q I h => Subscript_ (thn (he.run pins s σ H _ I h) fun v s1 ⟨x, H1, I1, r1, a, xs, ex, hx, h40, q⟩ => ?_)⟩
  subst ex
  cases r1
  have lo : PO X (some (.Constant (.int 39) k1 q1)) (tPart (tC (.int 39))) := po_some pe_int
  have st : PO X (some (.UnaryOp .USub (.Constant (.int 2) k2 p1) p2)) (tPart (tUn (rU fun i => .int (-i)) (tC (.int 2)))) := po_some (pe_un un_neg pe_int)
  refine wpAny_Slice (thn (lo.run pins s1 σ H1 (fun o H2 => o = some 39 ∧ H2 = H1) I1 ⟨39, rfl, rfl, rfl⟩) fun vl s2 ⟨l, H2, I2, pl, el, e2⟩ => thn (po_none.run pins s2 σ H2 (fun o H3 => o = none ∧ H3 = H2) I2 ⟨rfl, rfl⟩) fun vu s3 ⟨u, H3, I3, pu, eu, e3⟩ =>
    thn (st.run pins s3 σ H3 (fun o H4 => o = some (-2) ∧ H4 = H3) I3 ⟨2, rfl, -2, rfl, rfl, rfl⟩) fun vs s4 ⟨o, H4, I4, ps, eo, e4⟩ => ?_)
  subst el e2 eu e3 eo e4
  have I5 : Inv X pins σ H4 { s4 with heap := s4.heap.push { cls := .type "slice", data := .fields #[vl, vu, vs] } } := I4.kept (t' := s4.toks) fun b ob e => Heap.get?_push_of_some _ e
  obtain ⟨its, r, ht, hz⟩ := I5.list hx
  have hlen := r.length
  have hs40 : its.toArray.size = 40 := by rw [List.size_toArray, ← hlen, h40]
  refine tail_any (ops := [.ref a, .ref s4.heap.objs.size]) ht.isList.typeIs (PySem.slot_list_getitem.lookup) (wpAny_getItem_list_slice ht.isList (Heap.IsSliceOf.new _ vl vu vs) pl pu ps (by decide) ?_ (by rw [hs40]; decide)) (by with_unfolding_all rfl)
  have pk : slicePick its.toArray (some 39) none (some (-2)) = (pick2 its).toArray := by
    unfold slicePick pick2
    rw [hs40, range2]
    simp
  rw [pk]
  refine ⟨.ref _, _, I5.laid (t' := s4.toks) (o := .lst (pick2 xs)) (fun b ob e => Heap.get?_push_of_some _ e) (Nat.le_refl _) ⟨?_, _, 0, vals_pick r _, Heap.get?_push_size _ rfl⟩, rfl, q _ (I5.hok.fresh (Nat.le_refl _))⟩
  refine Nat.le_trans (List.length_filterMap_le _ _) ?_
  rw [List.length_map, List.length_range]
  decide
end
end K25L

set_option Elab.async false
set_option linter.all false
set_option maxRecDepth 100000
set_option maxHeartbeats 4000000
/-! K25, part LR: _law_ladder_right -/
namespace K25L
open PySem PySem.Spec PyProof.Rows L2
open K25 (top Opt Tbl OptH RowH TOk Known edg due wall WayOk ChoH TblH RowsH WaysFn spHas psW pe_listWays ps_setFound)
abbrev N49 : List PySem.Str := ["_law_names_here", "_law_above", "_law_table_here", "_law_k", "_law_name_here", "_law_made", "_law_first", "_law_found", "_law_parent", "_law_one"]
theorem sc49 : FnScope N49 [] (defScope (top 49)) := ⟨rfl, rfl, rfl, by decide +kernel, rfl, by decide +kernel, by decide +kernel⟩
theorem ch4 : ∀ i, i < 4 → (PySem.Str.ofString "abcd").cps.toList[i]? = some ((PySem.Str.ofString "abcd").cps.toList.getD i 0) := by decide +kernel
theorem len_n : (PySem.Str.ofString "n").length = 1 := by decide +kernel
theorem ch10 : ∀ i, i < 10 → (PySem.Str.ofString "abcdefghij").cps.toList[i]? = some ((PySem.Str.ofString "abcdefghij").cps.toList.getD i 0) := by decide +kernel
/-- the two ahead -/
def lup (i : Nat) : List PySem.Str := (labove.drop (i - 1)).take (i + 1 - (i - 1))
theorem lup_len (i : Nat) : (lup i).length ≤ 2 := by
  unfold lup
  rw [List.length_take]
  omega
theorem cut_lrow {i : Nat} (h : i < 40) : cutV (labove.map V.str) (some (if (i : Int) - 1 > 0 then (i : Int) - 1 else 0)) (some ((i : Int) + 1)) = (lup i).map V.str := by
  have e1 : (if (i : Int) - 1 > 0 then (i : Int) - 1 else 0) = ((i - 1 : Nat) : Int) := by split <;> omega
  have e2 : (i : Int) + 1 = ((i + 1 : Nat) : Int) := by omega
  have el : (labove.map V.str).length = 41 := by rw [List.length_map]; decide +kernel
  unfold cutV lup
  rw [e1, e2, HT.sIx_nat, HT.sIx_nat, el, Nat.min_eq_left (by omega), Nat.min_eq_left (by omega), List.map_take, List.map_drop]
theorem L_add {i : Nat} (h : i < 40) : L.take (i + 1) = L.take i ++ [(lname i, lrow i)] := by
  unfold L
  rw [List.take_add_one, List.getElem?_map, List.getElem?_range h]
  rfl
theorem L_new {i : Nat} (h : i < 40) : lname i ∉ (L.take i).map (·.1) := by
  rw [List.map_take, L_keys]
  intro hm
  obtain ⟨j, hj, e⟩ := List.mem_iff_getElem.mp hm
  rw [List.length_take] at hj
  rw [List.getElem_take] at e
  have hl : lnames.length = 40 := by unfold lnames; rw [List.length_map, List.length_range]
  have ei : lnames[i]'(by omega) = lname i := by simp [lnames]
  exact List.pairwise_iff_getElem.mp L_nd j i (by omega) (by omega) (by omega) (e.trans ei.symm)
theorem pick_map (xs : List PySem.Str) : pick2 (xs.map V.str) = (pick2 xs).map V.str := by
  unfold pick2
  rw [List.map_filterMap]
  congr 1
  funext i
  rw [List.getElem?_map]
theorem first_eq : pick2 lnames ++ [PySem.Str.ofString "na" ++ PySem.Str.ofString "a", PySem.Str.ofString "root"] = lfirst := by decide +kernel
section
variable {P : Program} {w : World} {K : PySem.W.Frag} {mg : PySem.Str → Option Value} {base : Heap} {f C : Addr} {fd : FuncData}
def spLad : Sp := fun vs H Q _ => vs = [] ∧ ∀ H', Same H H' → Q (.bl true) H'
theorem ok_ladder {k kk : Nat} {f1 f2 f3 : Addr} {fd1 fd2 fd3 : FuncData} (F : F0 K "_law_ladder_right" 49 f fd) (M : Mk K C f1) (G1 : FnOk P w K mg base CX0 5 f1 fd1 ["self", "options"] (spIn C)) (b1 : Binds K fd1 ["self", "options"] []) (mC : mg "Choices" = some (.ref C))
    (C2 : Cal K mg "has_way" 36 ["choices", "node", "other"] f2 fd2) (G2 : FnOk P w K mg base CX0 (k + 1) f2 fd2 ["choices", "node", "other"] (spHas C)) (W : WaysFn P w K mg base C k f3 fd3)
    (hk1 : k + 4 ≤ kk) (hk2 : 6 ≤ kk) (ms : mg "sorted" = none) (mr : mg "range" = none) (me : mg "enumerate" = none) (mm : mg "max" = none) (ml : mg "list" = none) (mz : mg "zip" = none) : FnOk P w K mg base CX0 (kk + 1) f fd [] spLad := by
  have nd := sc49.nd
  refine F.ok sc49 (fun vs H Q E h => ?_) (fun cdv A outer s H vs Q E hr h => ?_)
  · obtain ⟨rfl, _⟩ := h
    rfl
  · obtain ⟨rfl, q⟩ := h
    have hu := hr.units
    have hu1 := hu_of hr
    refine ⟨_, pss_cons (ps_setLc (i := 0) (own := [("_law_k", 3)]) (g := gName 3) (tt := tYes) rfl nd rfl rfl rfl (pi_range1 (by rfl) mr (pa_cons pe_int pa_nil)) (blkOk_by (N := N49) (sc := defScope (top 49)) (by decide +kernel))
        (fun _ _ _ _ _ => pg_name (i := 3) nd rfl (Or.inl rfl)) (fun _ _ _ _ _ => pts_nil) (fun _ _ _ _ _ => pe_op op_add_str (pe_op op_add_str pe_str (pe_ix ix_str pe_str (pe_op op_fdiv (pv 3) pe_int) (fun _ _ => rfl))) (pe_ix ix_str pe_str (pe_op op_mod (pv 3) pe_int) (fun _ _ => rfl))))
      (pss_cons (ps_set (i := 1) nd rfl (.inl rfl) (pe_op op_cat (pe_lst (pa_cons pe_str pa_nil)) (pv 0)))
      (pss_cons (ps_set (i := 2) nd rfl (.inl rfl) pe_dnewK)
      (pss_cons (ps_for PassesOwn.never rfl (pi_enum (by rfl) me (pa_cons (pv 0) pa_nil)) (pg_tup rfl (pgs_cons (pg_name (i := 3) nd rfl (Or.inl rfl)) (pgs_cons (pg_name (i := 4) nd rfl (Or.inr rfl)) pgs_nil)))
        (pss_one (ps_dput hu1 (pv 2) (pv 4) (pe_lc (own := [("_law_parent", 8)]) (g := gName 8) (tt := tYes) rfl nd (pi_list (pe_slice sl_list (pv 1) (po_some (pe_callB (call_max2 rfl) (by rfl) mm (by kernel_rfl) (pa_cons pe_int (pa_cons (pe_op op_sub (pv 3) pe_int) pa_nil)))) (po_some (pe_op op_add (pv 3) pe_int)))) (blkOk_by (N := N49) (sc := defScope (top 49)) (by decide +kernel))
          (fun _ _ _ _ _ => pg_name (i := 8) nd rfl (Or.inl rfl)) (fun _ _ _ _ _ => pts_nil) (fun _ _ _ _ _ => pe_tup (pa_cons (pv 8) (pa_cons (pv 4) pa_nil)))) rfl)))
      (pss_cons (ps_set (i := 5) nd rfl (.inl rfl) (pe_make M G1 (hr.mono hk2) (by rfl) mC b1 .nil pass0 (pa_cons (pv 2) pa_nil)))
      (pss_cons (ps_set (i := 6) nd rfl (.inl rfl) (pe_op op_cat (pe_pick2 (pv 0)) (pe_lst (pa_cons (pe_op op_add_str pe_str pe_str) (pa_cons pe_str pa_nil)))))
      (pss_cons (ps_setFound (i := 7) W rfl (hr.mono hk1) (pa_cons (pv 5) (pa_cons (pe_ix ix_list (pv 0) pe_int (fun _ _ => rfl)) (pa_cons pe_str pa_nil))) nd rfl rfl rfl rfl (by decide +kernel) (by decide +kernel) (by decide +kernel) (by decide +kernel) (by decide +kernel) mz mr (by rfl) (by rfl) (by rfl) (by decide +kernel))
      (pss_cons (ps_if (pw_or (pt_cmpR (op_neD hu) (pe_ix ix_list (pv 7) pe_int (fun _ _ => rfl)) (pv 6) (nomark _)) (pw_or (pt_cmpR (op_neD hu) (pv 7) (pe_callB (cr_sortedUp hu) (by rfl) ms (by kernel_rfl) (pa_cons (pv 7) pa_nil)) (nomark _))
          (pw_or1 (pt_not (pt_val (pe_call G2 (hr.mono (by omega)) (by rfl) C2.at_ C2.fn.kp C2.bs .nil pass0 (pa_cons (pv 5) (pa_cons (pe_ix ix_list (pv 0) pe_int (fun _ _ => rfl)) (pa_cons (pe_ix ix_list (pv 0) pe_int (fun _ _ => rfl)) pa_nil))))))))).pt pss_never pss_nil)
      (pss_one (ps_ret (pe_and (pe_cmpR (op_eqD hu) (pe_listWays W rfl (hr.mono hk1) (pa_cons (pv 5) (pa_cons (pe_ix ix_list (pv 0) pe_int (fun _ _ => rfl)) (pa_cons (pe_ix ix_list (pv 0) pe_int (fun _ _ => rfl)) pa_nil))) ml) (pe_lst pa_nil) (nomark _))
        (pe_one (pe_not (pe_call G2 (hr.mono (by omega)) (by rfl) C2.at_ C2.fn.kp C2.bs .nil pass0 (pa_cons (pv 5) (pa_cons (pe_ix ix_list (pv 0) pe_int (fun _ _ => rfl)) (pa_cons (pe_ix ix_list (pv 0) pe_int (fun _ _ => rfl)) pa_nil)))))))))))))))), ?_⟩
    have line : (1000 : Nat) < sizeLine := by decide
    -- the names
    refine ⟨40, rfl, by decide, by decide, fun nm hnm => ?_⟩
    refine lc_it (walk_range (lo := 0) (n := (40 : Int).toNat)) (fun i H' => H' nm = some (.lst (((List.range i).map lname).map V.str)) ∧ Same H H') ⟨upd_same, same_upd hnm⟩ (fun _ _ _ _ => trivial) (fun i v Hz H3 hi ⟨hD, sm⟩ z => ?_) fun H1 ⟨n1, s1⟩ => ?_
    · obtain ⟨rfl, rfl⟩ := z
      have hi : i < 40 := hi
      refine ⟨rfl, yes ⟨.int (0 + (i : Nat)), rfl, 0 + (i : Nat), 10, rfl, rfl, ⟨by decide, by decide⟩, _, ((i / 10 : Nat) : Int), _, rfl, congrArg V.int (by omega), by decide, atI_nat (ch4 (i / 10) (by omega)), _, _, rfl, rfl, by rw [len_n]; show 1 + 1 ≤ sizeLine; decide, .int (0 + (i : Nat)), rfl, 0 + (i : Nat), 10, rfl, rfl, (show (0 : Int) < 10 by decide), _, ((i % 10 : Nat) : Int), _, rfl, congrArg V.int (by omega), by decide, atI_nat (ch10 (i % 10) (by omega)), _, _, rfl, rfl, by rw [strLen_append, len_n]; show 1 + 1 + 1 ≤ sizeLine; decide, _, hD, ?_, ?_, fun b o e => ?_⟩⟩
      · rw [List.length_map, List.length_map, List.length_range]; omega
      · rw [upd_same, List.range_succ, List.map_append, List.map_append]; rfl
      · rw [upd_ne (ne_of_none e hnm)]; exact sm b o e
    have n1 : H1 nm = some (.lst (lnames.map V.str)) := n1
    -- above
    refine ⟨by show 1 ≤ sizeLine; decide, fun e1 he1 => ⟨.ref nm, rfl, e1, nm, _, _, rfl, rfl, upd_same, same_upd he1 _ _ n1, by decide +kernel, fun ab hab => ?_⟩⟩
    have s2 : Same H1 (upd (upd H1 e1 (.lst [.str "root"])) ab (.lst ([.str "root"] ++ lnames.map V.str))) := (same_upd he1).trans (same_upd hab)
    have a2 : (upd (upd H1 e1 (.lst [.str "root"])) ab (.lst ([.str "root"] ++ lnames.map V.str))) ab = some (.lst (labove.map V.str)) := upd_same
    have e2 : (upd (upd H1 e1 (.lst [.str "root"])) ab (.lst ([.str "root"] ++ lnames.map V.str))) e1 ≠ none := by rw [upd_ne (ne_of_none (upd_same) hab), upd_same]; simp
    generalize upd (upd H1 e1 (.lst [.str "root"])) ab (.lst ([.str "root"] ++ lnames.map V.str)) = H2 at s2 a2
    refine fun fnd hf => ?_
    have s3 : Same H2 (upd H2 fnd (.dK [])) := same_upd hf
    have f3 : (upd H2 fnd (.dK [])) fnd = some (.dK []) := upd_same
    have n2 := s2 _ _ n1
    have nf : nm ≠ fnd := ne_of_none n2 hf
    have af : ab ≠ fnd := ne_of_none a2 hf
    generalize upd H2 fnd (.dK []) = H3 at s3 f3
    have n3 := s3 _ _ n2
    have a3 := s3 _ _ a2
    have sm3 : Same H H3 := s1.trans (s2.trans s3)
    have fH : H fnd = none := by
      cases e : H fnd with
      | none => rfl
      | some o => have := s2 _ _ (s1 _ _ e); rw [hf] at this; cases this
    refine ⟨.ref nm, rfl, nm, _, rfl, .inl (.inl n3), ?_⟩
    refine for_it (walk_enum (xs := lnames.map V.str)) (fun i σ H' => ∃ (y3 y4 : Option V) (kvs : List (Key × V)), σ = [some (.ref nm), some (.ref ab), some (.ref fnd), y3, y4, none, none, none, none, none] ∧ H' nm = some (.lst (lnames.map V.str)) ∧ H' ab = some (.lst (labove.map V.str)) ∧ H' fnd = some (.dK kvs) ∧ Paired (fun (p : PySem.Str × List Opt) (q : Key × V) => q.1 = .inr p.1 ∧ RowH H' p.2 q.2) (L.take i) kvs ∧ Same H H')
      ⟨none, none, [], rfl, n3, a3, f3, .nil, sm3⟩ (fun i σ H' _ ⟨_, _, _, _, e, _⟩ => .inl (.inl e)) (fun i v σ H4 Hz hi ⟨y3, y4, kvs, e, n4, a4, f4, rows, sm⟩ z => ?_) fun σ H4 ⟨y3, y4, kvs, e, n4, a4, f4, rows, sm⟩ => ?_
    · subst e
      obtain ⟨tp, x1, x2, rfl, nT, rfl, g1, g2⟩ := z
      cases g1
      rw [List.length_map] at hi
      have hi : i < 40 := hi
      have e2 : x2 = .str (lname i) := by
        have g2 : (lnames.map V.str)[i]? = some x2 := g2
        rw [List.getElem?_map] at g2
        unfold lnames at g2
        rw [List.getElem?_map, List.getElem?_range hi] at g2
        exact (Option.some.inj g2).symm
      subst e2
      have s5 : Same H4 (upd H4 tp (.tup [.int (i : Nat), .str (lname i)])) := same_upd nT
      refine ⟨tp, [.int (i : Nat), .str (lname i)], rfl, .inl (.inl upd_same), rfl, .int (i : Nat), [.str (lname i)], rfl, .str (lname i), [], rfl, rfl, ?_⟩
      generalize upd H4 tp (.tup [.int (i : Nat), .str (lname i)]) = H5 at s5
      refine ⟨.ref ab, rfl, .int (i : Nat), rfl, (i : Nat), 1, rfl, rfl, 0, (i : Int) - 1, rfl, _, rfl, .int (i : Nat), rfl, (i : Nat), 1, rfl, rfl, _, rfl, ab, _, rfl, .inl (.inl (s5 _ _ a4)), fun sl hsl => ?_⟩
      rw [cut_lrow hi]
      have s6 : Same H5 (upd H5 sl (.lst ((lup i).map V.str))) := same_upd hsl
      have l6 : (upd H5 sl (.lst ((lup i).map V.str))) sl = some (.lst ((lup i).map V.str)) := upd_same
      generalize upd H5 sl (.lst ((lup i).map V.str)) = H6 at s6 l6
      refine ⟨sl, rfl, ⟨_, .inl (.inl l6)⟩, fun D nD => ?_⟩
      refine lc_it (walk_list (xs := (lup i).map V.str)) (fun j H' => ∃ us : List V, H' D = some (.lst us) ∧ us.length = j ∧ Paired (OptH H') (((lup i).take j).map fun p => some (p, lname i)) us ∧ Same H6 H') ⟨[], upd_same, rfl, by rw [List.take_zero]; exact .nil, same_upd nD⟩ (fun j H' _ ⟨_, _, _, _, sm⟩ => .inl (.inl (sm _ _ l6))) (fun j v Hz H7 hj ⟨us, hD, lu, pu, s7⟩ z => ?_) fun H7 ⟨us, hD, lu, pu, s7⟩ => ?_
      · obtain ⟨rfl, hv⟩ := z
        rw [List.getElem?_map] at hv
        obtain ⟨p, hp, rfl⟩ := Option.map_eq_some_iff.mp hv
        rw [List.length_map] at hj
        have lj := lup_len i
        refine ⟨rfl, yes ⟨.str p, rfl, .str (lname i), rfl, by show 2 ≤ sizeLine; decide, fun e8 he8 => ?_⟩⟩
        have De : D ≠ e8 := ne_of_none hD he8
        refine ⟨_, same_upd he8 _ _ hD, by omega, us ++ [.ref e8], upd_same, by rw [List.length_append, lu]; rfl, ?_, fun b o e => ?_⟩
        · have off : ∀ (o : Opt) (v : V), OptH H7 o v → OptH (upd (upd H7 e8 (.tup [.str p, .str (lname i)])) D (.lst (us ++ [.ref e8]))) o v := fun o v h => by
            cases o with
            | none => exact h
            | some q =>
              obtain ⟨t, e, ht⟩ := h
              exact ⟨t, e, by rw [upd_ne (fun z => by rw [z, hD] at ht; cases ht), upd_ne (ne_of_none ht he8)]; exact ht⟩
          rw [List.take_add_one, hp, List.map_append]
          exact K25.paired_append (Paired.mapP pu off) (.cons ⟨e8, rfl, by rw [upd_ne (Ne.symm De), upd_same]⟩ .nil)
        · rw [upd_ne (ne_of_none e nD)]
          exact same_upd he8 _ _ (s7 _ _ e)
      · rw [List.length_map, List.take_length] at pu
        have s47 : Same H4 H7 := s5.trans (s6.trans s7)
        have f7 := s47 _ _ f4
        have zk := rows.length
        have zl : L.length = 40 := by decide +kernel
        rw [List.length_take, zl] at zk
        have fD : fnd ≠ D := by
          intro z
          rw [z, hD] at f7
          cases f7
        have lrow_e : lrow i = (lup i).map fun p => some (p, lname i) := rfl
        refine ⟨.ref fnd, rfl, .str (lname i), rfl, fnd, _, rfl, .inl ⟨kvs, .inr (lname i), f7, rfl, by omega, rfl⟩, ?_⟩
        rw [putK_new _ (rows_no rows (lname i) (L_new hi))]
        have ns := NoSeq.dict f7
        have bt : But fnd H7 (upd H7 fnd (.dK (kvs ++ [(.inr (lname i), .ref D)]))) := .upd
        have lj := lup_len i
        refine ⟨_, _, kvs ++ [(.inr (lname i), .ref D)], rfl, by rw [upd_ne nf]; exact s47 _ _ n4, by rw [upd_ne af]; exact s47 _ _ a4, upd_same, ?_, fun b o e => by rw [upd_ne (ne_of_none e fH)]; exact s47 _ _ (sm _ _ e)⟩
        rw [L_add hi]
        refine K25.paired_append (Paired.mapP rows fun p q h => ⟨h.1, row_but ns bt (h.2.same s47)⟩) (.cons ⟨rfl, row_but ns bt ⟨D, us, rfl, hD, by rw [lrow_e]; exact pu, by rw [lrow_e, List.length_map]; omega⟩⟩ .nil)
    · subst e
      have nml : (lnames.map V.str).length = 40 := by rw [List.length_map]; decide +kernel
      have zl : L.length = 40 := by decide +kernel
      rw [nml, ← zl, List.take_length] at rows
      have tab : TblH H4 fnd L := ⟨kvs, f4, rows⟩
      -- made
      refine ⟨.ref fnd, rfl, fun x dx nx ndx dxx => ?_⟩
      have sA : Same H4 (upd H4 dx (.own x)) := same_upd ndx
      have sB : Same H4 (upd (upd H4 dx (.own x)) x (.ins C dx [])) := sA.trans (same_upd (by rw [upd_ne (Ne.symm dxx)]; exact nx))
      refine ⟨x, fnd, dx, L, rfl, upd_same, tab.same sB, L_tt, fun H5 d2 bt hx5 t2 => ⟨rfl, ?_⟩⟩
      have s45 : Same H4 H5 := fun b o e => bt b o (ne_of_none e nx) (sB _ _ e)
      have cho : ChoH C H5 x L := ⟨dx, d2, hx5, t2⟩
      have n5 := s45 _ _ n4
      have sm5 := sm.trans s45
      clear bt sA sB hx5 t2 tab
      -- first
      refine ⟨.ref nm, rfl, nm, _, rfl, .inl (.inl n5), nml, fun p1 hp1 => ⟨_, _, rfl, rfl, by decide +kernel, by show 2 ≤ sizeLine; decide, fun p2 hp2 => ?_⟩⟩
      have q1 : Same H5 (upd H5 p1 (.lst (pick2 (lnames.map V.str)))) := same_upd hp1
      have q2 := same_upd (o := .lst [.str (PySem.Str.ofString "na" ++ PySem.Str.ofString "a"), .str (PySem.Str.ofString "root")]) hp2
      refine ⟨p1, p2, _, _, rfl, rfl, q2 _ _ upd_same, upd_same, by rw [pick_map, List.length_map]; decide +kernel, fun p3 hp3 => ?_⟩
      have s6 := q1.trans (q2.trans (same_upd (o := .lst (pick2 (lnames.map V.str) ++ [.str (PySem.Str.ofString "na" ++ PySem.Str.ofString "a"), .str (PySem.Str.ofString "root")])) hp3))
      have f6 : (upd (upd (upd H5 p1 (.lst (pick2 (lnames.map V.str)))) p2 (.lst [.str (PySem.Str.ofString "na" ++ PySem.Str.ofString "a"), .str (PySem.Str.ofString "root")])) p3 (.lst (pick2 (lnames.map V.str) ++ [.str (PySem.Str.ofString "na" ++ PySem.Str.ofString "a"), .str (PySem.Str.ofString "root")]))) p3 = some (.lst (lfirst.map V.str)) := by
        rw [upd_same, pick_map, ← first_eq, List.map_append]
        rfl
      generalize upd (upd (upd H5 p1 (.lst (pick2 (lnames.map V.str)))) p2 (.lst [.str (PySem.Str.ofString "na" ++ PySem.Str.ofString "a"), .str (PySem.Str.ofString "root")])) p3 (.lst (pick2 (lnames.map V.str) ++ [.str (PySem.Str.ofString "na" ++ PySem.Str.ofString "a"), .str (PySem.Str.ofString "root")])) = H6 at s6 f6
      clear q1 q2 hp1 hp2 hp3
      have n6 := s6 _ _ n5
      have g39 : (lnames.map V.str)[39]? = some (V.str (lname 39)) := by rw [List.getElem?_map]; rfl
      have g0 : (lnames.map V.str)[0]? = some (V.str (lname 0)) := by rw [List.getElem?_map]; rfl
      have k39 : Known L (lname 39) := L_known (by decide)
      have k0 : Known L (lname 0) := L_known (by decide)
      have tok := L_tt.tok
      -- found
      refine ⟨.ref x, rfl, .ref nm, rfl, nm, _, 39, .str (lname 39), rfl, rfl, .inl (.inl n6), atI_nat (j := 39) g39, x, lname 39, K25.root, L, rfl, cho.same s6, tok, k39, .inl rfl, fun H7 S s7 ⟨ls, hS, pr⟩ _ => ?_⟩
      have s57 := s6.trans s7
      have n7 := s7 _ _ n6
      have f7 := s7 _ _ f6
      have up : ((wall L (lname 39) K25.root).take 3).Pairwise K25.RowLt := (K25.wall_up tok k39).sublist (List.take_sublist _ _)
      have nmr : NmR ((wall L (lname 39) K25.root).take 3) := fun r hr => wall_nm L_tt k39 r (List.mem_of_mem_take hr)
      obtain ⟨l0, lr, rr, els, h0, ew⟩ : ∃ l0 lr rr, ls = l0 :: lr ∧ H7 l0 = some (.lst (lfirst.map V.str)) ∧ (wall L (lname 39) K25.root).take 3 = lfirst :: rr := by
        have hw := wall_first
        cases e : wall L (lname 39) K25.root with
        | nil => rw [e] at hw; cases hw
        | cons a r =>
          rw [e] at hw pr
          cases hw
          cases pr with
          | cons h t => exact ⟨_, _, _, rfl, h, rfl⟩
      have nfirst : ∀ z ∈ lfirst, NmT z := nmr lfirst (by rw [ew]; exact .head _)
      refine ⟨.ref S, rfl, S, _, 0, .ref l0, rfl, rfl, .inl (.inl hS), atI_nat (j := 0) (by rw [els]; rfl), .ref p3, rfl, rowD lfirst, rowD lfirst, row_dp h0, row_dp f7, row_shaped nfirst, row_shaped nfirst, _, rfl, ?_⟩
      rw [row_eqv]
      refine iteF ⟨.ref S, rfl, .ref S, rfl, S, ls, _, rfl, hS, pr, up, fun p4 hp4 => ?_⟩
      have s8 : Same H7 (upd H7 p4 (.lst (ls.map V.ref))) := same_upd hp4
      have l8 : (upd H7 p4 (.lst (ls.map V.ref))) p4 = some (.lst (ls.map V.ref)) := upd_same
      generalize upd H7 p4 (.lst (ls.map V.ref)) = H8 at s8 l8
      have pr8 := Paired.mapP pr fun (r : List PySem.Str) (l : Addr) (z : H7 l = some (.lst (r.map V.str))) => s8 _ _ z
      refine ⟨rowsD ((wall L (lname 39) K25.root).take 3), rowsD ((wall L (lname 39) K25.root).take 3), rows_dp (s8 _ _ hS) pr8, rows_dp l8 pr8, rows_shaped nmr, rows_shaped nmr, _, rfl, ?_⟩
      rw [rows_eqv]
      have s58 := s57.trans s8
      have n8 := s8 _ _ n7
      refine iteF ⟨.ref x, rfl, .ref nm, rfl, nm, _, 39, .str (lname 39), rfl, rfl, .inl (.inl n8), atI_nat (j := 39) g39, .ref nm, rfl, nm, _, 0, .str (lname 0), rfl, rfl, .inl (.inl n8), atI_nat (j := 0) g0, x, lname 39, lname 0, L, rfl, cho.same s58, tok, k39, k0, ?_⟩
      rw [down]
      refine ⟨true, rfl, iteF ?_⟩
      refine ⟨.ref x, rfl, .ref nm, rfl, nm, _, 0, .str (lname 0), rfl, rfl, .inl (.inl n8), atI_nat (j := 0) g0, .ref nm, rfl, nm, _, 39, .str (lname 39), rfl, rfl, .inl (.inl n8), atI_nat (j := 39) g39, x, lname 0, lname 39, L, rfl, cho.same s58, tok, k0, k39, by rw [wall_none]; exact Nat.zero_le _, fun H9 S9 s9 ⟨ls9, hS9, pr9⟩ _ => ?_⟩
      rw [wall_none] at pr9
      cases pr9
      refine ⟨by show 0 ≤ sizeLine; decide, fun e9 he9 => ?_⟩
      have sA : Same H9 (upd H9 e9 (.lst [])) := same_upd he9
      have aA : (upd H9 e9 (.lst [])) e9 = some (.lst []) := upd_same
      generalize upd H9 e9 (.lst []) = HA at sA aA
      have s5A := s58.trans (s9.trans sA)
      have nA := sA _ _ (s9 _ _ n8)
      refine ⟨.list [], .list [], .lst (.inl (.inl (sA _ _ hS9))) .nil, .lst (.inl (.inl aA)) .nil, by decide +kernel, by decide +kernel, true, rfl, ?_⟩
      refine iteT ⟨.ref x, rfl, .ref nm, rfl, nm, _, 0, .str (lname 0), rfl, rfl, .inl (.inl nA), atI_nat (j := 0) g0, .ref nm, rfl, nm, _, 39, .str (lname 39), rfl, rfl, .inl (.inl nA), atI_nat (j := 39) g39, x, lname 0, lname 39, L, rfl, cho.same s5A, tok, k0, k39, ?_⟩
      rw [notup]
      exact ⟨false, rfl, q _ (sm5.trans s5A)⟩
end
end K25L

set_option Elab.async false
set_option linter.all false
set_option maxRecDepth 100000
set_option maxHeartbeats 4000000
/-! K25, part LS: _law_right -/
namespace K25L
open PySem PySem.Spec PyProof.Rows L2
open K25 (top Opt Tbl OptH RowH TOk Known edg due wall WayOk ChoH TblH RowsH)
abbrev N50 : List PySem.Str := ["_law_rng_here", "_law_table_here", "_law_made", "_law_every", "_law_start", "_law_end"]
theorem sc50 : FnScope N50 ["_law_rng_here"] (defScope (top 50)) := ⟨rfl, rfl, rfl, by decide +kernel, rfl, by decide +kernel, by decide +kernel⟩
theorem tbl_keys {H : Hp} {T : Tbl} {kvs : List (Key × V)} (p : Paired (fun (p : PySem.Str × List Opt) (q : Key × V) => q.1 = .inr p.1 ∧ RowH H p.2 q.2) T kvs) : (kvs.map fun kv => kV kv.1) = (T.map (·.1)).map V.str := by
  induction p with
  | nil => rfl
  | cons r _ ih => rw [List.map_cons, List.map_cons, List.map_cons, ih, r.1]; rfl
section
variable {P : Program} {w : World} {K : PySem.W.Frag} {mg : PySem.Str → Option Value} {base : Heap} {f C : Addr} {fd : FuncData}
def spRight : Sp := fun vs H Q _ => ∃ r, vs = [.ref r] ∧ Rn H r ∧ ∀ H', But r H H' → Q (.bl true) H'
theorem ok_right {kk : Nat} {f1 f2 f3 f4 f5 : Addr} {fd1 fd2 fd3 fd4 fd5 : FuncData} (F : F0 K "_law_right" 50 f fd) (M : Mk K C f1) (G1 : FnOk P w K mg base CX0 5 f1 fd1 ["self", "options"] (spIn C)) (b1 : Binds K fd1 ["self", "options"] []) (mC : mg "Choices" = some (.ref C))
    (C2 : Cal K mg "_law_table" 45 ["_law_rng_here", "_law_many", "_law_most", "_law_top"] f2 fd2) (G2 : FnOk P w K mg base CX0 4 f2 fd2 ["_law_rng_here", "_law_many", "_law_most", "_law_top"] spTable)
    (C3 : Cal K mg "_law_draw" 40 ["_law_rng_here", "_law_many"] f3 fd3) (G3 : FnOk P w K mg base CX0 1 f3 fd3 ["_law_rng_here", "_law_many"] spDraw)
    (C4 : Cal K mg "_law_pair_right" 48 ["_law_made", "_law_table_here", "_law_start", "_law_end"] f4 fd4) (G4 : FnG P w K mg base kk f4 fd4 ["_law_made", "_law_table_here", "_law_start", "_law_end"] (spPair C))
    (G5 : FnOk P w K mg base CX0 1 f5 fd5 ["self", "other"] (spEq (RCh C))) (e5 : PySem.W.findIn K (.ref C) "__eq__" = some (some (.ref f5))) (i5 : PySem.W.isFn K (.ref f5) = true) (b5 : Binds K fd5 ["self", "other"] [])
    (hk : 6 ≤ kk) (mls : mg "list" = none) : FnG P w K mg base (kk + 1) f fd ["_law_rng_here"] spRight := by
  have nd := sc50.nd
  refine fnG F sc50 (fun vs H Q h => ?_) (fun cdv A outer s H vs Q hg hr h => ?_)
  · obtain ⟨_, rfl, _⟩ := h
    rfl
  · obtain ⟨r, rfl, hR, q⟩ := h
    refine ⟨_, pss_cons (ps_set (i := 1) nd rfl (.inl rfl) (pe_call G2 (hr.mono (by omega)) (by rfl) C2.at_ C2.fn.kp C2.bs .nil pass0 (pa_cons (pv 0) (pa_cons (pe_call G3 (hr.mono (by omega)) (by rfl) C3.at_ C3.fn.kp C3.bs .nil pass0 (pa_cons (pv 0) (pa_cons pe_int pa_nil))) (pa_cons pe_int (pa_cons (pe_op op_pow pe_int pe_int) pa_nil))))))
      (pss_cons (ps_par (i := 2) (j := 3) rfl nd rfl rfl (by decide) rfl rfl (pa_cons (pe_make M G1 (hr.mono hk) (by rfl) mC b1 .nil pass0 (pa_cons (pv 1) pa_nil)) (pa_cons (pe_op op_cat (pe_callTy (call_list_dK rfl) (by rfl) mls (by kernel_rfl) (pa_cons (pv 1) pa_nil)) (pe_lst (pa_cons pe_str pa_nil))) pa_nil)) (by rfl))
      (pss_cons (ps_for PassesOwn.never rfl (pi_list (pv 3)) (pg_name (i := 4) nd rfl (Or.inl rfl)) (pss_one (ps_for PassesOwn.never rfl (pi_list (pv 3)) (pg_name (i := 5) nd rfl (Or.inl rfl))
        (pss_one (ps_if (pt_not (pt_val (pe_callG G4 hg hr (by rfl) C4.at_ C4.fn.kp C4.bs (pa_cons (pv 2) (pa_cons (pv 1) (pa_cons (pv 4) (pa_cons (pv 5) pa_nil))))))) pss_never pss_nil)))))
      (pss_one (ps_ret (pe_cmpR (op_eqG (rcG_ins (E := E0) G5 e5 i5 b5 pass0) (hr.mono (by omega))) (pv 2) (pe_make M G1 (hr.mono hk) (by rfl) mC b1 .nil pass0 (pa_cons (pv 1) pa_nil)) (nomark _)))))), ?_⟩
    refine ⟨.ref r, rfl, .ref r, rfl, r, 7, rfl, hR, by decide, by decide, fun H1 dg hd b1 R1 => ⟨10, 6, rfl, rfl, by unfold CPow; decide, r, dg, rfl, R1, by omega, fun H2 d T b2 R2 nd1 hT tt hl h4 => ?_⟩⟩
    have few : Few T := ⟨by omega, h4⟩
    have bt2 : But r H H2 := b1.trans b2
    -- made, every
    refine ⟨.ref d, rfl, fun x dx nx ndx dxx => ?_⟩
    have sA : Same H2 (upd H2 dx (.own x)) := same_upd ndx
    have sB : Same H2 (upd (upd H2 dx (.own x)) x (.ins C dx [])) := sA.trans (same_upd (by rw [upd_ne (Ne.symm dxx)]; exact nx))
    refine ⟨x, d, dx, T, rfl, upd_same, hT.same sB, tt, fun H3 d2 bt hx3 t2 => ⟨rfl, ?_⟩⟩
    have s3 : Same H2 H3 := fun b o e => bt b o (ne_of_none e nx) (sB _ _ e)
    have cho3 : ChoH C H3 x T := ⟨dx, d2, hx3, t2⟩
    clear bt sA sB hx3 t2
    obtain ⟨kvs, hd3, pk⟩ := hT.same s3
    have tz : T.length ≤ 6 := few.1
    refine ⟨.ref d, rfl, d, kvs, rfl, hd3, fun l1 hl1 => ?_⟩
    rw [tbl_keys pk]
    refine ⟨by show 1 ≤ sizeLine; decide, fun l2 hl2 => ?_⟩
    have q1 := same_upd (o := .lst ((T.map (·.1)).map V.str)) hl1
    have q2 := same_upd (o := .lst [.str (PySem.Str.ofString "root")]) hl2
    have big : (1000 : Nat) < sizeLine := by decide
    refine ⟨l1, l2, _, _, rfl, rfl, q2 _ _ upd_same, upd_same, by rw [List.length_map, List.length_map]; show _ + 1 ≤ sizeLine; omega, fun ev hev => ?_⟩
    have s4 := q1.trans (q2.trans (same_upd (o := .lst ((T.map (·.1)).map V.str ++ [.str (PySem.Str.ofString "root")])) hev))
    have v4 : (upd (upd (upd H3 l1 (.lst ((T.map (·.1)).map V.str))) l2 (.lst [.str (PySem.Str.ofString "root")])) ev (.lst ((T.map (·.1)).map V.str ++ [.str (PySem.Str.ofString "root")]))) ev = some (.lst ((T.map (·.1) ++ [K25.root]).map V.str)) := by
      rw [upd_same, List.map_append]; rfl
    generalize upd (upd (upd H3 l1 (.lst ((T.map (·.1)).map V.str))) l2 (.lst [.str (PySem.Str.ofString "root")])) ev (.lst ((T.map (·.1)).map V.str ++ [.str (PySem.Str.ofString "root")])) = H4 at s4 v4
    clear q1 q2 hl1 hl2 hev
    have cho4 := cho3.same s4
    have hT4 := hT.same (s3.trans s4)
    have s24 := s3.trans s4
    have known : ∀ z ∈ T.map (·.1) ++ [K25.root], Known T z := fun z hz => by
      rcases List.mem_append.mp hz with hz | hz
      · exact key_known (by rw [K25.edg_keys]; exact .tail _ hz)
      · exact .inl (List.mem_singleton.mp hz)
    refine ⟨_, _, rfl, .ref ev, rfl, ev, rfl, ⟨_, .inl (.inl v4)⟩, ?_⟩
    refine for_it (walk_list (xs := (T.map (·.1) ++ [K25.root]).map V.str)) (fun i σ H' => ∃ (y4 y5 : Option V), σ = [some (.ref r), some (.ref d), some (.ref x), some (.ref ev), y4, y5] ∧ Same H4 H') ⟨none, none, rfl, fun _ _ e => e⟩ (fun i σ H' _ ⟨_, _, _, sm⟩ => .inl (.inl (sm _ _ v4))) (fun i v σ Hz H5 hi ⟨y4, y5, e, sm⟩ z => ?_) fun σ H5 ⟨y4, y5, e, sm⟩ => ?_
    · subst e
      obtain ⟨rfl, hv⟩ := z
      rw [List.getElem?_map] at hv
      obtain ⟨a, ha, rfl⟩ := Option.map_eq_some_iff.mp hv
      refine ⟨.ref ev, rfl, ev, rfl, ⟨_, .inl (.inl (sm _ _ v4))⟩, ?_⟩
      refine for_it (walk_list (xs := (T.map (·.1) ++ [K25.root]).map V.str)) (fun j σ H' => ∃ (y5 : Option V), σ = [some (.ref r), some (.ref d), some (.ref x), some (.ref ev), some (.str a), y5] ∧ Same H4 H') ⟨y5, rfl, sm⟩ (fun j σ H' _ ⟨_, _, sm⟩ => .inl (.inl (sm _ _ v4))) (fun j v σ Hz H6 hj ⟨y5, e, sm⟩ z => ?_) fun σ H6 ⟨y5, e, sm⟩ => ⟨_, _, e, sm⟩
      subst e
      obtain ⟨rfl, hv⟩ := z
      rw [List.getElem?_map] at hv
      obtain ⟨b, hb, rfl⟩ := Option.map_eq_some_iff.mp hv
      refine ⟨.ref x, rfl, .ref d, rfl, .str a, rfl, .str b, rfl, x, d, a, b, T, rfl, cho4.same sm, hT4.same sm, tt, few, known a (List.mem_of_getElem? ha), known b (List.mem_of_getElem? hb), fun H7 s7 => ⟨true, rfl, iteF ⟨_, rfl, sm.trans s7⟩⟩⟩
    · subst e
      refine ⟨.ref x, rfl, .ref d, rfl, fun x2 dx2 nx2 ndx2 dxx2 => ?_⟩
      have sA : Same H5 (upd H5 dx2 (.own x2)) := same_upd ndx2
      have sB : Same H5 (upd (upd H5 dx2 (.own x2)) x2 (.ins C dx2 [])) := sA.trans (same_upd (by rw [upd_ne (Ne.symm dxx2)]; exact nx2))
      refine ⟨x2, d, dx2, T, rfl, upd_same, hT4.same (sm.trans sB), tt, fun H6 d3 bt hx6 t3 => ⟨rfl, ?_⟩⟩
      have s6 : Same H5 H6 := fun b o e => bt b o (ne_of_none e nx2) (sB _ _ e)
      obtain ⟨dx1, d1, hx1, t1⟩ := cho4.same (sm.trans s6)
      exact ⟨⟨x, x2, dx1, dx2, _, _, rfl, rfl, hx1, hx6, T, ⟨dx1, d1, hx1, t1⟩, ⟨dx2, d3, hx6, t3⟩⟩, fun H7 s7 => q H7 (bt2.trans (But.same (s24.trans (sm.trans (s6.trans s7)))))⟩
end
end K25L

set_option Elab.async false
set_option linter.all false
set_option maxRecDepth 100000
set_option maxHeartbeats 4000000
/-! K25, part LT: law -/
namespace K25L
open PySem PySem.Spec PyProof.Rows L2
open K25 (top Opt Tbl OptH RowH TOk Known edg due wall WayOk ChoH TblH RowsH WaysFn pe_listWays)
abbrev N51 : List PySem.Str := ["_law_script", "_law_k"]
theorem sc51 : FnScope N51 ["_law_script"] (defScope (top 51)) := ⟨rfl, rfl, rfl, by decide +kernel, rfl, by decide +kernel, by decide +kernel⟩
theorem tt_nil : TT ([] : Tbl) := ⟨by decide, List.nodup_nil, fun _ h => (by cases h), fun _ h => (by cases h)⟩
theorem wall_root : wall [] K25.root K25.root = [[K25.root]] := by
  rw [K25.wall_due tt_nil.tok (.inl rfl)]
  exact due_end (w := [])
section
variable {P : Program} {w : World} {K : PySem.W.Frag} {mg : PySem.Str → Option Value} {base : Heap} {f C : Addr} {fd : FuncData}
def spLaw (K : PySem.W.Frag) : Sp := fun vs H Q _ => ∃ (a : Addr) (ns : List Int), vs = [.ref a] ∧ SqL K H a (ns.map V.int) ∧ ns.length ≤ 63 ∧ ∀ H', Q (.bl true) H'
theorem ok_law {k kk : Nat} {f1 f2 f3 f4 f5 : Addr} {fd1 fd2 fd3 fd4 fd5 : FuncData} (F : F0 K "law" 51 f fd) (M : Mk K C f1) (G1 : FnOk P w K mg base CX0 5 f1 fd1 ["self", "options"] (spIn C)) (b1 : Binds K fd1 ["self", "options"] []) (mC : mg "Choices" = some (.ref C))
    (W : WaysFn P w K mg base C k f2 fd2) (C3 : Cal K mg "_law_ladder_right" 49 [] f3 fd3) (G3 : FnOk P w K mg base CX0 kk f3 fd3 [] spLad)
    (C4 : Cal K mg "_law_right" 50 ["_law_rng_here"] f4 fd4) (G4 : FnG P w K mg base kk f4 fd4 ["_law_rng_here"] spRight)
    (C5 : Cal K mg "_law_rng" 39 ["_law_script", "_law_k"] f5 fd5) (G5 : FnOk P w K mg base CX0 1 f5 fd5 ["_law_script", "_law_k"] (spRng K))
    (hk1 : k + 4 ≤ kk) (hk : 6 ≤ kk) (ml : mg "list" = none) (ma : mg "all" = none) (mr : mg "range" = none) (mx : mg "max" = none) (mn : mg "min" = none) (me : mg "len" = none) : FnG P w K mg base (kk + 1) f fd ["_law_script"] (spLaw K) := by
  have nd := sc51.nd
  refine fnG F sc51 (fun vs H Q h => ?_) (fun cdv A outer s H vs Q hg hr h => ?_)
  · obtain ⟨_, _, rfl, _⟩ := h
    rfl
  · obtain ⟨a, ns, rfl, hS, h63, q⟩ := h
    have hu := hr.units
    refine ⟨_, pss_cons (ps_if (pw_or (pt_cmpR (op_neD hu) (pe_listWays W rfl (hr.mono hk1) (pa_cons (pe_make M G1 (hr.mono hk) (by rfl) mC b1 .nil pass0 (pa_cons pe_dnewK pa_nil)) (pa_cons pe_str (pa_cons pe_str pa_nil))) ml) (pe_lst (pa_cons (pe_lst (pa_cons pe_str pa_nil)) pa_nil)) (nomark _))
        (pw_or1 (pt_not (pt_val (pe_call0 G3 hr (by rfl) C3.at_ C3.fn.kp C3.bs .nil pass0))))).pt pss_never pss_nil)
      (pss_one (ps_ret (pe_callB (cr_all rfl) (by rfl) ma (by kernel_rfl) (pa_cons (pe_lc (own := [("_law_k", 1)]) (g := gName 1) (tt := tYes) rfl nd
        (pi_range1 (by rfl) mr (pa_cons (pe_callB (call_max2 rfl) (by rfl) mx (by kernel_rfl) (pa_cons pe_int (pa_cons (pe_callB (call_min2 rfl) (by rfl) mn (by kernel_rfl) (pa_cons pe_int (pa_cons (pe_callB call_len_seq (by rfl) me PySem.boot_len (pa_cons (pv 0) pa_nil)) pa_nil))) pa_nil))) pa_nil))
        (blkOk_by (N := N51) (sc := defScope (top 51)) (by decide +kernel)) (fun _ _ _ _ _ => pg_name (i := 1) nd rfl (Or.inl rfl)) (fun _ _ _ _ _ => pts_nil)
        (fun _ _ _ _ _ => pe_callG G4 hg hr (by rfl) C4.at_ C4.fn.kp C4.bs (pa_cons (pe_call G5 (hr.mono (by omega)) (by rfl) C5.at_ C5.fn.kp C5.bs .nil pass0 (pa_cons (pv 0) (pa_cons (pv 1) pa_nil))) pa_nil))) pa_nil)))), ?_⟩
    -- list(ways(Choices({}), "root", "root"))
    refine fun e0 he0 x dx nx ndx dxx => ?_
    have s0 : Same H (upd H e0 (.dK [])) := same_upd he0
    have d0 : (upd H e0 (.dK [])) e0 = some (.dK []) := upd_same
    generalize upd H e0 (.dK []) = H0 at s0 d0 nx ndx
    have sA : Same H0 (upd H0 dx (.own x)) := same_upd ndx
    have sB : Same H0 (upd (upd H0 dx (.own x)) x (.ins C dx [])) := sA.trans (same_upd (by rw [upd_ne (Ne.symm dxx)]; exact nx))
    refine ⟨x, e0, dx, [], rfl, upd_same, ⟨[], sB _ _ d0, .nil⟩, tt_nil, fun H3 d2 bt hx3 t2 => ⟨rfl, ?_⟩⟩
    have s3 : Same H H3 := s0.trans fun b o e => bt b o (ne_of_none e nx) (sB _ _ e)
    have cho3 : ChoH C H3 x [] := ⟨dx, d2, hx3, t2⟩
    clear bt sA sB hx3 t2
    have kr : Known [] K25.root := .inl rfl
    refine ⟨x, K25.root, K25.root, [], rfl, cho3, tt_nil.tok, kr, kr, by rw [wall_root]; show 1 ≤ sizeLine; decide, fun H4 S s4 ⟨ls, hW, pr⟩ _ => ?_⟩
    rw [wall_root] at pr
    refine ⟨by show 1 ≤ sizeLine; decide, fun e1 he1 => ⟨by show 1 ≤ sizeLine; decide, fun e2 he2 => ?_⟩⟩
    have q1 : Same H4 (upd H4 e1 (.lst [.str (PySem.Str.ofString "root")])) := same_upd he1
    have v1 : (upd H4 e1 (.lst [.str (PySem.Str.ofString "root")])) e1 = some (.lst ([K25.root].map V.str)) := upd_same
    generalize upd H4 e1 (.lst [.str (PySem.Str.ofString "root")]) = H5 at q1 v1 he2
    have q2 : Same H5 (upd H5 e2 (.lst [.ref e1])) := same_upd he2
    have v2 : (upd H5 e2 (.lst [.ref e1])) e2 = some (.lst ([e1].map V.ref)) := upd_same
    generalize upd H5 e2 (.lst [.ref e1]) = H6 at q2 v2
    have s46 := q1.trans q2
    have nmr : NmR [[K25.root]] := fun r hr z hz => by rw [List.mem_singleton.mp hr] at hz; rw [List.mem_singleton.mp hz]; exact root_nm
    refine ⟨rowsD [[K25.root]], rowsD [[K25.root]], rows_dp (s46 _ _ hW) (Paired.mapP pr fun _ _ z => s46 _ _ z), rows_dp v2 (.cons (q2 _ _ v1) .nil), rows_shaped nmr, rows_shaped nmr, _, rfl, ?_⟩
    rw [rows_eqv]
    refine iteF ⟨rfl, fun H7 s7 => ⟨true, rfl, iteF ?_⟩⟩
    have sH7 : Same H H7 := s3.trans (s4.trans (s46.trans s7))
    have hS7 := sH7.seq hS
    -- the cells
    have big : (1000 : Nat) < sizeLine := by decide
    refine ⟨.ref a, rfl, a, _, rfl, .inl hS7, 4, _, rfl, 1, _, rfl, _, rfl, ?_, ?_, fun D nD => ?_⟩
    · split <;> split <;> omega
    · split <;> split <;> omega
    have aD : ∀ {H'}, Same H7 H' → SqL K H' a (ns.map V.int) := fun k => k.seq hS7
    generalize hm : (if (if ((ns.map V.int).length : Int) < 4 then ((ns.map V.int).length : Int) else 4) > 1 then (if ((ns.map V.int).length : Int) < 4 then ((ns.map V.int).length : Int) else 4) else 1) = m
    have m4 : m ≤ 4 := by rw [← hm]; split <;> split <;> omega
    refine lc_it (walk_range (lo := 0) (n := m.toNat)) (fun i H' => H' D = some (.lst ((List.replicate i true).map V.bl)) ∧ Same H7 H') ⟨upd_same, same_upd nD⟩ (fun _ _ _ _ => trivial) (fun i v Hz H8 hi ⟨hD, sm⟩ z => ?_) fun H8 ⟨hD, sm⟩ => ?_
    · obtain ⟨rfl, rfl⟩ := z
      refine ⟨rfl, yes ⟨.ref a, rfl, .int (0 + (i : Nat)), rfl, a, ns, i, by rw [Int.zero_add]; rfl, aD sm, by omega, fun H9 r s9 nr R9 => ⟨r, rfl, R9, fun HA bA => ?_⟩⟩⟩
      have s8A : Same H8 HA := fun b o e => bA b o (ne_of_none e nr) (s9 _ _ e)
      refine ⟨_, s8A _ _ hD, ?_, ?_, fun b o e => ?_⟩
      · rw [List.length_map, List.length_replicate]
        have : (4 : Nat) < sizeLine := by decide
        omega
      · rw [upd_same, List.replicate_succ', List.map_append]; rfl
      · rw [upd_ne (ne_of_none e nD)]
        exact s8A _ _ (sm _ _ e)
    · refine ⟨D, List.replicate m.toNat true, rfl, .inl (.inl hD), ?_⟩
      have : (List.replicate m.toNat true).all id = true := by rw [List.all_eq_true]; intro b hb; rw [(List.mem_replicate.mp hb).2]; rfl
      rw [this]
      exact q _
end
end K25L

set_option Elab.async false
set_option linter.all false
set_option maxRecDepth 100000
set_option maxHeartbeats 4000000
/-! K25, part LU: the facts of the top, and the law over them -/
namespace K25L
open PySem PySem.Spec PyProof.Rows L2
open ClX (CRead CVal)
open K25 (top meth Opt Tbl TOk Known edg WaysFn spHas psW rf_contains rf_nodes rf_req rf_opt rf_par rf_known rf_edges rf_reach ok_has)
def dfG (x : PySem.Str) (i : Nat) : He.FnD := ⟨(x, none), x, x, defArgs (top i), defBody (top i), defScope (top i)⟩
def dfM (m q : PySem.Str) (j : Nat) : He.FnD := ⟨("Choices", some m), m, q, defArgs (meth j), defBody (meth j), defScope (meth j)⟩
def fa0 : List He.Fa := [.free "isinstance", .free "str", .free "len", .free "all", .free "tuple", .free "list", .free "enumerate", .free "dict", .free "range", .free "abs", .free "max", .free "min", .free "divmod", .free "sorted", .free "set", .free "repr", .free "zip", .int "MOST_LETTERS" 8, .int "PLACE_SIZE" 2, .int "MOST_OPTIONS" 250, .str "ROOT" "root", .str "LETTERS" abc, .glo "Choices", .glo "Tree", .glo "is_name", .glo "is_node", .glo "is_place", .glo "is_option", .glo "require_options", .glo "edges_of"]
def fa1 : List He.Fa := [.glo "reached_from", .glo "require_known", .glo "has_way", .glo "ways", .glo "_law_rng", .glo "_law_draw", .glo "_law_choice", .glo "_law_shuffled", .glo "_law_name", .glo "_law_names", .glo "_law_table", .glo "_law_parents", .glo "_law_ways", .glo "_law_pair_right", .glo "_law_ladder_right", .glo "_law_right", .glo "law", .keep "is_name", .keep "is_node", .keep "is_place", .keep "is_option", .keep "require_options", .keep "edges_of", .keep "reached_from", .keep "require_known", .keep "has_way", .keep "ways", .keep "_law_rng", .keep "_law_draw", .keep "_law_choice"]
def fa2 : List He.Fa := [.keep "_law_shuffled", .keep "_law_name", .keep "_law_names", .keep "_law_table", .keep "_law_parents", .keep "_law_ways", .keep "_law_pair_right", .keep "_law_ladder_right", .keep "_law_right", .keep "law", .cls "Choices", .noat "Choices" "own_options", .meth "Choices" "__init__", .meth "Choices" "__contains__", .meth "Choices" "__eq__", .meth "Choices" "nodes", .meth "Choices" "require_node", .meth "Choices" "options", .meth "Choices" "parents", .mkr "Choices"]
def fa : List He.Fa := fa0 ++ fa1 ++ fa2
def fn : List He.FnD := [dfG "is_name" 13, dfG "is_node" 14, dfG "is_place" 15, dfG "is_option" 29, dfG "require_options" 30, dfG "edges_of" 33, dfG "reached_from" 34, dfG "require_known" 35, dfG "has_way" 36, dfG "ways" 37, dfG "_law_rng" 39, dfG "_law_draw" 40, dfG "_law_choice" 41, dfG "_law_shuffled" 42, dfG "_law_name" 43, dfG "_law_names" 44, dfG "_law_table" 45, dfG "_law_parents" 46, dfG "_law_ways" 47, dfG "_law_pair_right" 48, dfG "_law_ladder_right" 49, dfG "_law_right" 50, dfG "law" 51, dfM "__init__" "Choices.__init__" 0, dfM "__contains__" "Choices.__contains__" 2, dfM "__eq__" "Choices.__eq__" 3, dfM "nodes" "Choices.nodes" 7, dfM "require_node" "Choices.require_node" 8, dfM "options" "Choices.options" 9, dfM "parents" "Choices.parents" 10]

abbrev mcT : Value := .type "type"
/-- what is asked of the classes besides -/
def extra (K : PySem.W.Frag) : Bool :=
  He.eqO (PySem.W.findIn K (.ref (He.ga K "Choices")) "__class__") (some (some (.builtin "object.__class__"))) && (He.eqO (PySem.W.specialIn K (.builtin "object.__class__") "__get__") (some (some (.builtin "getset_descriptor.__get__"))) &&
  (decide (PySem.W.takesIn K (.builtin "object.__class__") = some true) && (decide (PySem.W.mroIn K (He.ga K "Choices") (.type "object") = some true) && (PySem.W.readsIn K (He.ga K "Tree") mcT &&
  (He.eqO (PySem.W.specialIn K (.ref (He.ga K "Tree")) "__getattribute__") (some (some (.builtin "type.__getattribute__"))) && (match PySem.W.findCls K (.ref (He.ga K "Tree")) mcT "MAX_NODES" with
    | some (.val (.int i _)) => decide (i = 40)
    | _ => false))))))
theorem extra_ok {K : PySem.W.Frag} (c : extra K = true) (cl : Cls K (He.ga K "Choices")) (na : NoAttr K (He.ga K "Choices") "own_options") : ChC K (He.ga K "Choices") ∧ CRead K (He.ga K "Tree") mcT ∧ ∃ u, CVal K (He.ga K "Tree") mcT "MAX_NODES" (.int 40) u := by
  obtain ⟨c1, c⟩ := He.ba c
  obtain ⟨c2, c⟩ := He.ba c
  obtain ⟨c3, c⟩ := He.ba c
  obtain ⟨c4, c⟩ := He.ba c
  obtain ⟨c5, c⟩ := He.ba c
  obtain ⟨c6, c⟩ := He.ba c
  refine ⟨⟨cl, na, He.eqO_ok c1, He.eqO_ok c2, of_decide_eq_true c3, of_decide_eq_true c4⟩, ⟨c5, He.eqO_ok c6⟩, ?_⟩
  split at c
  · rename_i i t e
    have ei : i = 40 := of_decide_eq_true c
    rw [ei] at e
    exact ⟨_, e, t, rfl⟩
  · cases c
section
variable {P : Program} {w : World} {K : PySem.W.Frag} {mg : PySem.Str → Option Value} {h : Heap} {f : Addr}
theorem fun_at (c : He.SaysE fa fn K) (j : Nat) {x : PySem.Str} {i : Nat} (e : fn[j]? = some (dfG x i)) (k : PySem.W.keepIn K (.ref (He.ga K x)) = true) : ∃ fd, Fun K x x (top i) (He.ga K x) fd := by
  obtain ⟨oc, od, osl, kV, doc, pm, an, cdv, ct, lk, cd⟩ := c.def_ j e
  exact ⟨_, ⟨oc, od, kV, doc, pm, an, cdv, ct, osl, rfl, lk, cd⟩, k⟩
theorem funM_at (c : He.SaysE fa fn K) (j : Nat) {m q : PySem.Str} {i : Nat} (e : fn[j]? = some (dfM m q i)) (k : PySem.W.keepIn K (.ref (He.ma K (He.ga K "Choices") m)) = true) : ∃ fd, Fun K m q (meth i) (He.ma K (He.ga K "Choices") m) fd := by
  obtain ⟨oc, od, osl, kV, doc, pm, an, cdv, ct, lk, cd⟩ := c.def_ j e
  exact ⟨_, ⟨oc, od, kV, doc, pm, an, cdv, ct, osl, rfl, lk, cd⟩, k⟩
/-- ways(other=.., choices=.., node=..) -/
theorem kw_ways {f : Addr} {fd : FuncData} (F : Fun K "ways" "ways" (top 37) f fd) (s : Shared) (us : List Value) (vs : List V) (_ : K.In s.heap) (r : Vals vs us) (h3 : us.length = 3) :
    ∃ u1 u2 u3, BindsTo s fd ⟨[], (["other", "choices", "node"] : List PySem.Str).zip us⟩ (psW.zip [u1, u2, u3]) ∧ Vals ((fun l : List V => [l.getD 1 .non, l.getD 2 .non, l.getD 0 .non]) vs) [u1, u2, u3] := by
  obtain ⟨oc, od, kV, doc, pm, an, cdv, ct, osl, rfl, _, _⟩ := F.ex
  match us, vs, r, h3 with
  | [a, b, c], [x, y, z], .cons r1 (.cons r2 (.cons r3 .nil)), _ => exact ⟨b, c, a, .of_eq rfl, .cons r2 (.cons r3 (.cons r1 .nil))⟩
theorem facts (X : K.In h) (G : h.Ns mainGlobals mg) (c : He.SaysE fa fn K) (xc : extra K = true) (hfa : mg "law" = some (.ref f)) :
    ∃ fd : FuncData, Binds K fd ["_law_script"] [] ∧ ∀ base : Heap, L2.Mod K mg base → FnG P w K mg base 12 f fd ["_law_script"] (spLaw K) := by
  have f_isinstance : mg "isinstance" = none := He.free_ok X G (c.fact 0 rfl)
  have f_str : mg "str" = none := He.free_ok X G (c.fact 1 rfl)
  have f_len : mg "len" = none := He.free_ok X G (c.fact 2 rfl)
  have f_all : mg "all" = none := He.free_ok X G (c.fact 3 rfl)
  have f_tuple : mg "tuple" = none := He.free_ok X G (c.fact 4 rfl)
  have f_list : mg "list" = none := He.free_ok X G (c.fact 5 rfl)
  have f_enumerate : mg "enumerate" = none := He.free_ok X G (c.fact 6 rfl)
  have f_dict : mg "dict" = none := He.free_ok X G (c.fact 7 rfl)
  have f_range : mg "range" = none := He.free_ok X G (c.fact 8 rfl)
  have f_abs : mg "abs" = none := He.free_ok X G (c.fact 9 rfl)
  have f_max : mg "max" = none := He.free_ok X G (c.fact 10 rfl)
  have f_min : mg "min" = none := He.free_ok X G (c.fact 11 rfl)
  have f_divmod : mg "divmod" = none := He.free_ok X G (c.fact 12 rfl)
  have f_sorted : mg "sorted" = none := He.free_ok X G (c.fact 13 rfl)
  have f_set : mg "set" = none := He.free_ok X G (c.fact 14 rfl)
  have f_repr : mg "repr" = none := He.free_ok X G (c.fact 15 rfl)
  have f_zip : mg "zip" = none := He.free_ok X G (c.fact 16 rfl)
  have i_MOST_LETTERS := He.int_ok X G (c.fact 17 rfl)
  have i_PLACE_SIZE := He.int_ok X G (c.fact 18 rfl)
  have i_MOST_OPTIONS := He.int_ok X G (c.fact 19 rfl)
  have s_ROOT := He.str_ok X G (c.fact 20 rfl)
  have s_LETTERS := He.str_ok X G (c.fact 21 rfl)
  have g_Choices := He.glo_ok X G (c.fact 22 rfl)
  have g_Tree := He.glo_ok X G (c.fact 23 rfl)
  obtain ⟨d_is_name, F_is_name⟩ := fun_at c 0 rfl (He.keep_ok (c.fact 47 rfl))
  have C_is_name : Cal K mg "is_name" 13 ["value"] (He.ga K "is_name") d_is_name := ⟨He.glo_ok X G (c.fact 24 rfl), F_is_name, Fun.binds F_is_name fun _ _ _ _ _ _ us hl => match us, hl with | [_], _ => rfl⟩
  obtain ⟨d_is_node, F_is_node⟩ := fun_at c 1 rfl (He.keep_ok (c.fact 48 rfl))
  have C_is_node : Cal K mg "is_node" 14 ["value"] (He.ga K "is_node") d_is_node := ⟨He.glo_ok X G (c.fact 25 rfl), F_is_node, Fun.binds F_is_node fun _ _ _ _ _ _ us hl => match us, hl with | [_], _ => rfl⟩
  obtain ⟨d_is_place, F_is_place⟩ := fun_at c 2 rfl (He.keep_ok (c.fact 49 rfl))
  have C_is_place : Cal K mg "is_place" 15 ["value"] (He.ga K "is_place") d_is_place := ⟨He.glo_ok X G (c.fact 26 rfl), F_is_place, Fun.binds F_is_place fun _ _ _ _ _ _ us hl => match us, hl with | [_], _ => rfl⟩
  obtain ⟨d_is_option, F_is_option⟩ := fun_at c 3 rfl (He.keep_ok (c.fact 50 rfl))
  have C_is_option : Cal K mg "is_option" 29 ["value", "nodes"] (He.ga K "is_option") d_is_option := ⟨He.glo_ok X G (c.fact 27 rfl), F_is_option, Fun.binds F_is_option fun _ _ _ _ _ _ us hl => match us, hl with | [_, _], _ => rfl⟩
  obtain ⟨d_require_options, F_require_options⟩ := fun_at c 4 rfl (He.keep_ok (c.fact 51 rfl))
  have C_require_options : Cal K mg "require_options" 30 ["node", "value", "nodes"] (He.ga K "require_options") d_require_options := ⟨He.glo_ok X G (c.fact 28 rfl), F_require_options, Fun.binds F_require_options fun _ _ _ _ _ _ us hl => match us, hl with | [_, _, _], _ => rfl⟩
  obtain ⟨d_edges_of, F_edges_of⟩ := fun_at c 5 rfl (He.keep_ok (c.fact 52 rfl))
  have C_edges_of : Cal K mg "edges_of" 33 ["choices"] (He.ga K "edges_of") d_edges_of := ⟨He.glo_ok X G (c.fact 29 rfl), F_edges_of, Fun.binds F_edges_of fun _ _ _ _ _ _ us hl => match us, hl with | [_], _ => rfl⟩
  obtain ⟨d_reached_from, F_reached_from⟩ := fun_at c 6 rfl (He.keep_ok (c.fact 53 rfl))
  have C_reached_from : Cal K mg "reached_from" 34 ["edges", "node"] (He.ga K "reached_from") d_reached_from := ⟨He.glo_ok X G (c.fact 30 rfl), F_reached_from, Fun.binds F_reached_from fun _ _ _ _ _ _ us hl => match us, hl with | [_, _], _ => rfl⟩
  obtain ⟨d_require_known, F_require_known⟩ := fun_at c 7 rfl (He.keep_ok (c.fact 54 rfl))
  have C_require_known : Cal K mg "require_known" 35 ["choices", "value"] (He.ga K "require_known") d_require_known := ⟨He.glo_ok X G (c.fact 31 rfl), F_require_known, Fun.binds F_require_known fun _ _ _ _ _ _ us hl => match us, hl with | [_, _], _ => rfl⟩
  obtain ⟨d_has_way, F_has_way⟩ := fun_at c 8 rfl (He.keep_ok (c.fact 55 rfl))
  have C_has_way : Cal K mg "has_way" 36 ["choices", "node", "other"] (He.ga K "has_way") d_has_way := ⟨He.glo_ok X G (c.fact 32 rfl), F_has_way, Fun.binds F_has_way fun _ _ _ _ _ _ us hl => match us, hl with | [_, _, _], _ => rfl⟩
  obtain ⟨d_ways, F_ways⟩ := fun_at c 9 rfl (He.keep_ok (c.fact 56 rfl))
  have C_ways : Cal K mg "ways" 37 ["choices", "node", "other"] (He.ga K "ways") d_ways := ⟨He.glo_ok X G (c.fact 33 rfl), F_ways, Fun.binds F_ways fun _ _ _ _ _ _ us hl => match us, hl with | [_, _, _], _ => rfl⟩
  obtain ⟨d_l_rng, F_l_rng⟩ := fun_at c 10 rfl (He.keep_ok (c.fact 57 rfl))
  have C_l_rng : Cal K mg "_law_rng" 39 ["_law_script", "_law_k"] (He.ga K "_law_rng") d_l_rng := ⟨He.glo_ok X G (c.fact 34 rfl), F_l_rng, Fun.binds F_l_rng fun _ _ _ _ _ _ us hl => match us, hl with | [_, _], _ => rfl⟩
  obtain ⟨d_l_draw, F_l_draw⟩ := fun_at c 11 rfl (He.keep_ok (c.fact 58 rfl))
  have C_l_draw : Cal K mg "_law_draw" 40 ["_law_rng_here", "_law_many"] (He.ga K "_law_draw") d_l_draw := ⟨He.glo_ok X G (c.fact 35 rfl), F_l_draw, Fun.binds F_l_draw fun _ _ _ _ _ _ us hl => match us, hl with | [_, _], _ => rfl⟩
  obtain ⟨d_l_choice, F_l_choice⟩ := fun_at c 12 rfl (He.keep_ok (c.fact 59 rfl))
  have C_l_choice : Cal K mg "_law_choice" 41 ["_law_rng_here", "_law_options"] (He.ga K "_law_choice") d_l_choice := ⟨He.glo_ok X G (c.fact 36 rfl), F_l_choice, Fun.binds F_l_choice fun _ _ _ _ _ _ us hl => match us, hl with | [_, _], _ => rfl⟩
  obtain ⟨d_l_shuffled, F_l_shuffled⟩ := fun_at c 13 rfl (He.keep_ok (c.fact 60 rfl))
  have C_l_shuffled : Cal K mg "_law_shuffled" 42 ["_law_rng_here", "_law_values"] (He.ga K "_law_shuffled") d_l_shuffled := ⟨He.glo_ok X G (c.fact 37 rfl), F_l_shuffled, Fun.binds F_l_shuffled fun _ _ _ _ _ _ us hl => match us, hl with | [_, _], _ => rfl⟩
  obtain ⟨d_l_name, F_l_name⟩ := fun_at c 14 rfl (He.keep_ok (c.fact 61 rfl))
  have C_l_name : Cal K mg "_law_name" 43 ["_law_rng_here", "_law_used"] (He.ga K "_law_name") d_l_name := ⟨He.glo_ok X G (c.fact 38 rfl), F_l_name, Fun.binds F_l_name fun _ _ _ _ _ _ us hl => match us, hl with | [_, _], _ => rfl⟩
  obtain ⟨d_l_names, F_l_names⟩ := fun_at c 15 rfl (He.keep_ok (c.fact 62 rfl))
  have C_l_names : Cal K mg "_law_names" 44 ["_law_rng_here", "_law_many", "_law_used"] (He.ga K "_law_names") d_l_names := ⟨He.glo_ok X G (c.fact 39 rfl), F_l_names, Fun.binds F_l_names fun _ _ _ _ _ _ us hl => match us, hl with | [_, _, _], _ => rfl⟩
  obtain ⟨d_l_table, F_l_table⟩ := fun_at c 16 rfl (He.keep_ok (c.fact 63 rfl))
  have C_l_table : Cal K mg "_law_table" 45 ["_law_rng_here", "_law_many", "_law_most", "_law_top"] (He.ga K "_law_table") d_l_table := ⟨He.glo_ok X G (c.fact 40 rfl), F_l_table, Fun.binds F_l_table fun _ _ _ _ _ _ us hl => match us, hl with | [_, _, _, _], _ => rfl⟩
  obtain ⟨d_l_parents, F_l_parents⟩ := fun_at c 17 rfl (He.keep_ok (c.fact 64 rfl))
  have C_l_parents : Cal K mg "_law_parents" 46 ["_law_table_here", "_law_name_here"] (He.ga K "_law_parents") d_l_parents := ⟨He.glo_ok X G (c.fact 41 rfl), F_l_parents, Fun.binds F_l_parents fun _ _ _ _ _ _ us hl => match us, hl with | [_, _], _ => rfl⟩
  obtain ⟨d_l_ways, F_l_ways⟩ := fun_at c 18 rfl (He.keep_ok (c.fact 65 rfl))
  have C_l_ways : Cal K mg "_law_ways" 47 ["_law_table_here", "_law_trail", "_law_end"] (He.ga K "_law_ways") d_l_ways := ⟨He.glo_ok X G (c.fact 42 rfl), F_l_ways, Fun.binds F_l_ways fun _ _ _ _ _ _ us hl => match us, hl with | [_, _, _], _ => rfl⟩
  obtain ⟨d_l_pair_right, F_l_pair_right⟩ := fun_at c 19 rfl (He.keep_ok (c.fact 66 rfl))
  have C_l_pair_right : Cal K mg "_law_pair_right" 48 ["_law_made", "_law_table_here", "_law_start", "_law_end"] (He.ga K "_law_pair_right") d_l_pair_right := ⟨He.glo_ok X G (c.fact 43 rfl), F_l_pair_right, Fun.binds F_l_pair_right fun _ _ _ _ _ _ us hl => match us, hl with | [_, _, _, _], _ => rfl⟩
  obtain ⟨d_l_ladder_right, F_l_ladder_right⟩ := fun_at c 20 rfl (He.keep_ok (c.fact 67 rfl))
  have C_l_ladder_right : Cal K mg "_law_ladder_right" 49 [] (He.ga K "_law_ladder_right") d_l_ladder_right := ⟨He.glo_ok X G (c.fact 44 rfl), F_l_ladder_right, Fun.binds F_l_ladder_right fun _ _ _ _ _ _ us hl => match us, hl with | [], _ => rfl⟩
  obtain ⟨d_l_right, F_l_right⟩ := fun_at c 21 rfl (He.keep_ok (c.fact 68 rfl))
  have C_l_right : Cal K mg "_law_right" 50 ["_law_rng_here"] (He.ga K "_law_right") d_l_right := ⟨He.glo_ok X G (c.fact 45 rfl), F_l_right, Fun.binds F_l_right fun _ _ _ _ _ _ us hl => match us, hl with | [_], _ => rfl⟩
  obtain ⟨d_law, F_law⟩ := fun_at c 22 rfl (He.keep_ok (c.fact 69 rfl))
  have C_law : Cal K mg "law" 51 ["_law_script"] (He.ga K "law") d_law := ⟨He.glo_ok X G (c.fact 46 rfl), F_law, Fun.binds F_law fun _ _ _ _ _ _ us hl => match us, hl with | [_], _ => rfl⟩
  have cl := He.cls_ok (c.fact 70 rfl)
  have na := He.noat_ok (c.fact 71 rfl)
  have mk := He.mkr_ok (c.fact 79 rfl)
  have m_init := He.meth_ok (c.fact 72 rfl)
  obtain ⟨e_init, H_init⟩ := funM_at c 23 rfl m_init.kp
  have b_init : Binds K e_init ["self", "options"] [] := Fun.binds H_init fun _ _ _ _ _ _ us hl => match us, hl with | [_, _], _ => rfl
  have m_contains := He.meth_ok (c.fact 73 rfl)
  obtain ⟨e_contains, H_contains⟩ := funM_at c 24 rfl m_contains.kp
  have b_contains : Binds K e_contains ["self", "value"] [] := Fun.binds H_contains fun _ _ _ _ _ _ us hl => match us, hl with | [_, _], _ => rfl
  have m_eq := He.meth_ok (c.fact 74 rfl)
  obtain ⟨e_eq, H_eq⟩ := funM_at c 25 rfl m_eq.kp
  have b_eq : Binds K e_eq ["self", "other"] [] := Fun.binds H_eq fun _ _ _ _ _ _ us hl => match us, hl with | [_, _], _ => rfl
  have m_nodes := He.meth_ok (c.fact 75 rfl)
  obtain ⟨e_nodes, H_nodes⟩ := funM_at c 26 rfl m_nodes.kp
  have b_nodes : Binds K e_nodes ["self"] [] := Fun.binds H_nodes fun _ _ _ _ _ _ us hl => match us, hl with | [_], _ => rfl
  have m_require_node := He.meth_ok (c.fact 76 rfl)
  obtain ⟨e_require_node, H_require_node⟩ := funM_at c 27 rfl m_require_node.kp
  have b_require_node : Binds K e_require_node ["self", "value"] [] := Fun.binds H_require_node fun _ _ _ _ _ _ us hl => match us, hl with | [_, _], _ => rfl
  have m_options := He.meth_ok (c.fact 77 rfl)
  obtain ⟨e_options, H_options⟩ := funM_at c 28 rfl m_options.kp
  have b_options : Binds K e_options ["self", "node"] [] := Fun.binds H_options fun _ _ _ _ _ _ us hl => match us, hl with | [_, _], _ => rfl
  have m_parents := He.meth_ok (c.fact 78 rfl)
  obtain ⟨e_parents, H_parents⟩ := funM_at c 29 rfl m_parents.kp
  have b_parents : Binds K e_parents ["self", "node"] [] := Fun.binds H_parents fun _ _ _ _ _ _ us hl => match us, hl with | [_, _], _ => rfl
  obtain ⟨chc, rT, vT⟩ := extra_ok xc cl na
  have ef : f = He.ga K "law" := by
    have e := hfa.symm.trans C_law.at_
    cases e
    rfl
  subst ef
  refine ⟨d_law, C_law.bs, fun base mod => ?_⟩
  · have G_name := ok_isname (P := P) (w := w) (base := base) F_is_name f_isinstance f_str f_len f_all s_LETTERS i_MOST_LETTERS
    have G_node := ok_isnode F_is_node C_is_name G_name s_ROOT
    have G_place := ok_isplace F_is_place C_is_name G_name f_isinstance f_tuple f_len i_PLACE_SIZE
    have G_option := ok_isoption F_is_option C_is_place G_place s_ROOT
    have G_reqopt := ok_reqopt F_require_options C_is_option G_option f_isinstance f_list f_tuple f_len f_enumerate i_MOST_OPTIONS
    have G_init := ok_init H_init C_is_node G_node C_require_options G_reqopt cl na f_isinstance f_dict f_len f_list g_Tree rT vT
    have G_eq := ok_cheq (P := P) (w := w) (base := base) H_eq chc g_Choices f_isinstance
    have low : ∀ T, TOk T → K25.Base P w K mg base (He.ga K "Choices") 5 T := fun T tok => by
      have con : ∀ k x, _ := fun (k : Nat) (x : PySem.Str) => rf_contains (P := P) (w := w) (k := k) H_contains mod f_isinstance f_str cl na T x
      refine ⟨⟨_, _, C_require_known.at_, F_require_known.kp, C_require_known.bs, fun x hx => rf_known F_require_known mod m_contains b_contains s_ROOT T x (con 3 x) hx⟩,
        ⟨_, _, C_edges_of.at_, F_edges_of.kp, C_edges_of.bs, rf_edges F_edges_of mod cl m_nodes b_nodes m_parents b_parents s_ROOT T tok.nr tok.h40 (rf_nodes (k := 3) H_nodes mod f_list cl na T) fun x os hx =>
          rf_par H_parents mod f_sorted f_set cl m_options b_options T x os (rf_opt H_options mod f_list cl na m_require_node b_require_node T x os (rf_req H_require_node mod m_contains b_contains T x (con 0 x) (by rw [hx]; rfl)) hx)⟩,
        ⟨_, _, C_reached_from.at_, F_reached_from.kp, C_reached_from.bs, fun x hx => rf_reach F_reached_from mod (edg T) (K25.edg_ok tok) (K25.edg_len tok) x hx⟩⟩
    have W : WaysFn P w K mg base (He.ga K "Choices") 5 (He.ga K "ways") d_ways := ⟨C_ways.at_, F_ways.kp, F_ways, C_ways.bs, low⟩
    have G_has := ok_has F_has_way low
    have G_rng := ok_rng (P := P) (w := w) (base := base) F_l_rng f_len f_abs f_max
    have G_draw := ok_draw (P := P) (w := w) (base := base) F_l_draw f_divmod
    have G_choice := ok_choice F_l_choice C_l_draw G_draw f_len
    have G_shuf := ok_shuf F_l_shuffled C_l_draw G_draw f_len f_range f_list
    have G_lname := ok_name F_l_name C_l_draw G_draw f_range
    have G_names := ok_names F_l_names C_l_name G_lname f_range
    have G_table := ok_table F_l_table C_l_draw G_draw C_l_choice G_choice C_l_shuffled G_shuf C_l_names G_names f_range f_len f_dict
    have G_lpar := ok_lpar (P := P) (w := w) F_l_parents mod f_sorted f_set
    have G_lways := ok_lways C_l_ways C_l_parents G_lpar 7
    have G_pair := ok_pair (kk := 9) F_l_pair_right C_l_ways G_lways C_has_way G_has W (kw_ways F_ways) (by decide) (by decide) f_sorted f_repr f_list f_zip
    have G_ladder := ok_ladder (kk := 9) F_l_ladder_right mk G_init b_init g_Choices C_has_way G_has W (by decide) (by decide) f_sorted f_range f_enumerate f_max f_list f_zip
    have G_right := ok_right F_l_right mk G_init b_init g_Choices C_l_table G_table C_l_draw G_draw C_l_pair_right G_pair G_eq m_eq.at_ m_eq.fn b_eq (by decide) f_list
    exact ok_law F_law mk G_init b_init g_Choices W C_l_ladder_right (G_ladder.mono (by decide)) C_l_right G_right C_l_rng G_rng (by decide) (by decide) f_list f_all f_range f_max f_min f_len
end
end K25L

set_option Elab.async false
set_option linter.all false
set_option maxRecDepth 100000
set_option maxHeartbeats 4000000
/-! K25, part LV: from the top's end into law -/
namespace K25L
open PySem PySem.Spec PyProof.Rows L2
abbrev scr (vs : List Value) : Obj := { cls := .type "list", data := .seq vs.toArray }
section
variable {P : Program} {w : World} {K : PySem.W.Frag} {mg mb : PySem.Str → Option Value} {k : Nat} {fa a : Addr} {fd : FuncData} {x : PySem.Str} {s : Shared} {vs : List Value} {ns : List Int}
/-- H tracks the script, or nothing -/
theorem enter_with (H : Hp) (only : ∀ b u, H b = some u → b = a ∧ u = .frz (scr vs) (.lst (ns.map V.int))) (free : ∀ u, H a = some u → K.lookup a = none) (hS : SqL K H a (ns.map V.int)) (ok : HOk P w H s.heap)
    (KX : K.In s.heap) (hns : s.heap.Ns mainGlobals mg) (hb : s.heap.Ns builtinsNs mb) (hbb : ∀ x : PySem.Str, x ≠ "__name__" → mb x = bootBuiltins x) (lim : s.heap.NoLimit) (hg : s.gens = #[]) (ha : s.heap.get? a = some (scr vs)) (h63 : ns.length ≤ 63)
    (hr : Room k callerA) (bs : Binds K fd [x] []) (F : ∀ base, L2.Mod K mg base → FnG P w K mg base k fa fd [x] (spLaw K)) :
    codeAny (model P w) callerA (.call (.ref fa) ⟨[.ref a], []⟩) (fun r s' => r = .ok (.ret (.bool true)) ∧ OldK s.heap s'.heap ∧ s'.os = s.os ∧ AllBare s'.gens) s := by
  have untracked : ∀ {b o}, s.heap.get? b = some o → (∀ u, H b ≠ some u) → (hidT s.heap H).get? b = some o := fun {b o} e n => hidT_get e (by
    cases q : H b with
    | none => rfl
    | some u => exact absurd q (n u))
  have nsIn : ∀ {b : Addr} {m : PySem.Str → Option Value}, s.heap.Ns b m → (hidT s.heap H).Ns b m := fun {b m} z => by
    obtain ⟨o, es, ep, e, d, r⟩ := z
    refine ⟨o, es, ep, untracked e fun u q => ?_, d, r⟩
    obtain ⟨rfl, _⟩ := only _ _ q
    rw [ha] at e
    cases e
    cases d
  have kin : K.In (hidT s.heap H) := fun b o e => untracked (KX b o e) fun u q => by
    obtain ⟨rfl, _⟩ := only _ _ q
    rw [free u q] at e
    cases e
  have mod : L2.Mod K mg (hidT s.heap H) := ⟨kin, nsIn hns, ⟨mb, nsIn hb, hbb⟩, by obtain ⟨m, z1, z2⟩ := lim; exact ⟨m, nsIn z1, z2⟩⟩
  have env0 : Env0 P w K mg (hidT s.heap H) callerA [] s H := by
    refine ⟨rfl, mod, fun b o e => of_hidT e, Nat.le_of_eq (hidT_size _ _), trivial, fun b z => ?_, ok, .of_eq hg⟩
    cases (show b ∈ ([] : List Addr) from z)
  have bt := bs s [.ref a] KX rfl
  refine codeAny_mono ((F _ mod).go callerA [] s H ⟨[.ref a], []⟩ [.ref a] [.ref a] (fun v _ => v = .bl true) rfl hr env0 (by simpa using bt) (.cons rfl .nil) ⟨a, ns, rfl, hS, h63, fun _ => rfl⟩) fun r s' ⟨u, er, v, H', os, bare, un, ok', rv, ev⟩ => ?_
  subst er ev
  obtain rfl : u = Value.bool true := rv
  refine ⟨rfl, OldK.of_keep fun b o e => ?_, os, bare⟩
  cases q : H b with
  | none => exact un.keep b o e q (fun z => by cases (show b ∈ ([] : List Addr) from z)) (fun z => by cases z)
  | some t =>
    obtain ⟨rfl, rfl⟩ := only _ _ q
    have z2 := un.frzs _ _ _ q
    obtain ⟨g, _⟩ := ok' _ _ z2
    rw [ha] at e
    cases e
    exact g
theorem enter_law (KX : K.In s.heap) (hns : s.heap.Ns mainGlobals mg) (hb : s.heap.Ns builtinsNs mb) (hbb : ∀ x : PySem.Str, x ≠ "__name__" → mb x = bootBuiltins x) (lim : s.heap.NoLimit) (hg : s.gens = #[]) (ha : s.heap.get? a = some (scr vs)) (hi : IntsAre vs ns) (h63 : ns.length ≤ 63)
    (hr : Room k callerA) (bs : Binds K fd [x] []) (F : ∀ base, L2.Mod K mg base → FnG P w K mg base k fa fd [x] (spLaw K)) :
    codeAny (model P w) callerA (.call (.ref fa) ⟨[.ref a], []⟩) (fun r s' => r = .ok (.ret (.bool true)) ∧ OldK s.heap s'.heap ∧ s'.os = s.os ∧ AllBare s'.gens) s := by
  have rv := vals_ints hi
  have len := hi.length
  have line : ns.length ≤ sizeLine := Nat.le_trans h63 (by decide)
  cases hk : K.lookup a with
  | some o =>
    have e := KX a o hk
    rw [ha] at e
    cases e
    have no : ∀ (b : Addr) (u : HO), (fun _ => none : Hp) b = some u → False := fun b u z => by cases (show (none : Option HO) = some u from z)
    exact enter_with (fun _ => none) (fun b u z => (no b u z).elim) (fun u z => (no a u z).elim) (.inr ⟨_, vs.toArray, _, hk, rfl, rfl, rfl, by rw [List.size_toArray, len]; exact line, by simpa using rv⟩) (fun b u z => (no b u z).elim) KX hns hb hbb lim hg ha h63 hr bs F
  | none =>
    let H : Hp := fun b => if b = a then some (.frz (scr vs) (.lst (ns.map V.int))) else none
    have at_ : H a = some (.frz (scr vs) (.lst (ns.map V.int))) := if_pos rfl
    have one : ∀ b u, H b = some u → b = a ∧ u = .frz (scr vs) (.lst (ns.map V.int)) := fun b u z => by
      by_cases e : b = a
      · subst e
        rw [at_] at z
        exact ⟨rfl, (Option.some.inj z).symm⟩
      · rw [show H b = none from if_neg e] at z
        cases z
    refine enter_with H one (fun _ _ => hk) (.inl (.inr ⟨_, at_⟩)) (fun b u z => ?_) KX hns hb hbb lim hg ha h63 hr bs F
    obtain ⟨rfl, rfl⟩ := one b u z
    exact ⟨ha, by rw [List.length_map]; exact line, vs, _, rv, ha⟩
end
theorem walk_law {l : PySem.W.OpenLaw} {k : Nat} {q : Program} {loose : List PySem.Str} {XP : (PySem.Str → Option Value) → Heap → Prop} {YP : World → Heap → Prop} {d : DefRec} {x : PySem.Str} (hn : l.most = some 63) (hd : d.params.defaults = []) (hr : Room k callerA)
    (F : ∀ (w : World) (mg : PySem.Str → Option Value) (fa : Addr) (h : Heap), YP w h → h.Ns mainGlobals mg → mg d.name = some (.ref fa) → ∃ (K : PySem.W.Frag) (fd : FuncData), K.In h ∧ Binds K fd [x] [] ∧ ∀ base, L2.Mod K mg base → FnG l.prog w K mg base k fa fd [x] (spLaw K)) :
    PySem.W.WalkO q loose XP YP l.row.toRowW d [] (fun f vs => PySem.call f vs) :=
  Att.attach_call hn hd fun w s0 s mg mb fa o pm cd doc a vs ns G Y ho hdat hcd hmg hobj hints hlen hgen => by
    obtain ⟨K, fd, kin, bs, fg⟩ := F w mg fa _ Y G.T.g hmg
    exact enter_law kin G.T.g G.T.b G.T.builtins G.T.nolimit hgen hobj hints hlen hr bs fg
/-! ### the hook -/
abbrev AlX : Type := Bool × He.Al
def obsX (K : PySem.W.Frag) : AlX := (extra K, He.obsE fa fn K)
def valX : AlX := (true, He.valE fn)
def obsXG (g : Addr → Option Obj) : AlX := obsX (He.frG g (PySem.cStatics :: He.asG g 5))
def hookX : PySem.W.Hook where
  α := AlX
  obs := fun s => obsXG s.heap.get?
  val := fun _ => valX
  says := fun _ h => ∃ K : PySem.W.Frag, K.In h ∧ obsX K = valX
  of := fun _ _ e => ⟨_, He.frG_in, e⟩
  keeps := fun _ _ _ ⟨K, hK, c⟩ k => ⟨K, PySem.W.Frag.In.keeps hK k, c⟩
theorem obsXG_eq {g : Addr → Option Obj} {s : Shared} (h : ∀ a, g a = s.heap.get? a) : obsXG g = hookX.obs s := by
  have e : g = s.heap.get? := funext h
  rw [e]
  rfl
end K25L

set_option Elab.async false
set_option linter.all false
set_option maxRecDepth 100000
set_option maxHeartbeats 0
/-! K25, part LW: the top's run, the end -/
namespace K25L
open PySem PySem.W PySem.Calls PyProof.Rows
abbrev RR : OpenRow := OpenLaw.row PySem.Challenge.rw_movegrants_k25_whole_ways_in_order
abbrev qv : Program := view RR.prog [51]
def namesA : List PySem.Str := ["_wall", "__name__", "MoveError", "InvalidTree", "InvalidText", "InvalidChoices", "UnknownNode", "HasChildren", "LETTERS", "MOST_LETTERS", "PLACE_SIZE", "ROOT", "is_name", "is_node", "is_place", "MOST_NODES", "WORDS_OF_LINE", "is_known", "way_within", "first_cyclic", "require_places", "children_within", "read_line", "places_of_lines", "Tree", "MOST_OPTIONS", "is_option", "require_options", "Choices", "edges_of"]
def namesB : List PySem.Str := ["reached_from", "require_known", "has_way", "ways", "_law_rng", "_law_draw", "_law_choice", "_law_shuffled", "_law_name", "_law_names", "_law_table", "_law_parents", "_law_ways", "_law_pair_right", "_law_ladder_right", "_law_right"]
def names : List PySem.Str := namesA ++ namesB
def ob (s : SharedT) : AlX := obsXG (HandSHeadRun.getT s)
theorem ob_eq (s : SharedT) : ob s = hookX.obs s.abs := obsXG_eq (HandSHeadRun.getT_eq s)
theorem run (w : World) : HandSHeadRun.RunEq RR qv hookX ob 20000 names w := by
  intro os
  kernel_rfl
end K25L
open PySem PySem.W PySem.Calls PyProof.Rows
theorem PySem.Challenge.cw_movegrants_k25_whole_ways_in_order_holds : PySem.Challenge.rw_movegrants_k25_whole_ways_in_order.Holds := by
  w_on; o_law
  refine HandSHeadRun.head_any (r := OpenLaw.row PySem.Challenge.rw_movegrants_k25_whole_ways_in_order) (q := K25L.qv) (H := K25L.hookX) (ob := K25L.ob) (M := 20000) (loose := K25L.names) (d := HandSHeadRun.topDef (OpenLaw.row PySem.Challenge.rw_movegrants_k25_whole_ways_in_order).prog 51) (kwd := []) K25L.ob_eq
    (by kernel_rfl) (fun s => by kernel_rfl) K25L.run (by kernel_rfl) (by kernel_rfl) (by kernel_rfl) (by rfl) (by first | assumption | decide +kernel) (by decide +kernel) ⟨rfl, rfl, rfl, rfl, rfl, by decide +kernel⟩ ?hw ?hc
  case hw => w_witness2
  case hc =>
    refine K25L.walk_law (l := PySem.Challenge.rw_movegrants_k25_whole_ways_in_order) (k := 12) (x := "_law_script") rfl (by kernel_rfl) ⟨rfl, by decide, by decide⟩ ?F
    intro w mg fa h Y G hmg0
    obtain ⟨K, KX, c⟩ := Y
    have hmg : mg ("law" : PySem.Str) = some (.ref fa) := by
      have e : (HandSHeadRun.topDef (OpenLaw.row PySem.Challenge.rw_movegrants_k25_whole_ways_in_order).prog 51).name = ("law" : PySem.Str) := by kernel_rfl
      rw [← e]
      exact hmg0
    have c1 : K25L.extra K = true := congrArg (fun z : K25L.AlX => z.1) c
    have c2 : He.SaysE K25L.fa K25L.fn K := congrArg (fun z : K25L.AlX => z.2) c
    obtain ⟨fd, hb, hF⟩ := K25L.facts (P := (PySem.Challenge.rw_movegrants_k25_whole_ways_in_order).prog) (w := w) KX G c2 c1 hmg
    exact ⟨K, fd, KX, hb, hF⟩

