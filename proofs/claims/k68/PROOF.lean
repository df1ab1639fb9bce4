import PyProof.Rows.All
import Wide.All
import OpenK.AllK
import Wide.FinOn
import PySem.Challenge.RW_neveralone_k68_whole_full_rooms_are_part
import HandS.ForMost
import HandS.Exc
import HandS.Defaults
import HandS.GenList
import HandS.TupAny
import HandS.TupSets
import HandS.HeadHook1
import HandS.HeadHook2
import HandS.ClsMeth
import HandS.ExcInit
import KE.KSuper
import KE.KExcSuper
import HandS.SortInts
import HandS.Zip
import HandS.SetFor
import HandS.Conv
import HandS.Iter
import KE.GoesEnum
import HandS.Comp
import HandS.Dict
import HandS.IsInst
import HandS.ExcField
import KE.KDictDisplayH
import HandS.OwnIter
import HandS.IterNext
import HandS.IterVal
import KE.KOwnIter
import HandS.TryMany
import HandS.ExcIs
import KE.KExcIs
import HandS.Head0
import HandS.Head1
import HandS.Head2
import HandS.HeadEnd
set_option Elab.async false
set_option linter.all false
set_option maxRecDepth 100000
namespace NA
open PySem PySem.Spec PyProof.Rows L2
abbrev prog0 : Program := PySem.Challenge.pw_neveralone_k68_whole_full_rooms_are_part
def top (i : Nat) : Stmt := PySem.Challenge.pw_neveralone_k68_whole_full_rooms_are_part.main.body.getD i (.Pass ⟨0, 0, 0, 0⟩)
abbrev sBadBookI : Stmt := inClass (top 3) 0
abbrev sMismatchI : Stmt := inClass (top 4) 0
abbrev sNotEvenI : Stmt := inClass (top 5) 0
abbrev sBadFamilyI : Stmt := inClass (top 6) 0
abbrev sTooManyI : Stmt := inClass (top 7) 0
abbrev sBadLabelsI : Stmt := inClass (top 8) 0
abbrev sFaces : Stmt := top 10
abbrev sMerged : Stmt := top 11
abbrev sComplement : Stmt := top 12
abbrev sShuffle : Stmt := top 13
abbrev sRoomFault : Stmt := top 14
abbrev sBookI : Stmt := inClass (top 16) 1
abbrev sBookIter : Stmt := inClass (top 16) 5
abbrev sBookLen : Stmt := inClass (top 16) 4
abbrev sOddFaces : Stmt := inClass (top 16) 11
abbrev sFaceCounts : Stmt := top 17
abbrev sFamI : Stmt := inClass (top 19) 0
abbrev sFamLen : Stmt := inClass (top 19) 2
abbrev sFamIter : Stmt := inClass (top 19) 3
abbrev sFamGet : Stmt := inClass (top 19) 4
abbrev sCheckLabels : Stmt := top 21
abbrev sLabelBook : Stmt := top 22
abbrev sListPart : Stmt := top 25
abbrev sCountPart : Stmt := top 26
abbrev sExtWays : Stmt := top 27
abbrev sTailWays : Stmt := top 28
abbrev sCountChoices : Stmt := top 29
abbrev sWalk : Stmt := top 30
abbrev sListChoices : Stmt := top 31
abbrev sCheckLabels2 : Stmt := top 33
abbrev sFullRooms : Stmt := top 34
abbrev sLabelFamily : Stmt := top 35
abbrev sCell : Stmt := top 37
abbrev sSame : Stmt := top 38
abbrev sOrder : Stmt := top 39
abbrev sRooms : Stmt := top 40
abbrev sSomeRooms : Stmt := top 41
abbrev sEvenRooms : Stmt := top 42
abbrev sTable : Stmt := top 43
abbrev sOdd : Stmt := top 44
abbrev sTurns : Stmt := top 45
abbrev sLabels : Stmt := top 46
abbrev sSpoilt : Stmt := top 47
abbrev sDue : Stmt := top 48
abbrev sRefused : Stmt := top 49
abbrev sLBook : Stmt := top 50
abbrev sRest : Stmt := top 51
abbrev sFull : Stmt := top 52
abbrev sRight : Stmt := top 53
abbrev sSmall : Stmt := top 54
abbrev sLaw : Stmt := top 55
def nameOf : Stmt → Str
  | .FunctionDef n _ _ _ _ _ _ _ _ _ => n
  | .ClassDef n _ _ _ _ _ _ _ _ _ _ => n
  | _ => "?"
example : nameOf sBadBookI = "__init__" := by decide +kernel
example : nameOf sFaces = "faces" := by decide +kernel
example : nameOf sMerged = "merged" := by decide +kernel
example : nameOf sComplement = "complement" := by decide +kernel
example : nameOf sShuffle = "shuffle_sign" := by decide +kernel
example : nameOf sRoomFault = "room_fault" := by decide +kernel
example : nameOf sBookI = "__init__" := by decide +kernel
example : nameOf sBookIter = "__iter__" := by decide +kernel
example : nameOf sBookLen = "__len__" := by decide +kernel
example : nameOf sOddFaces = "odd_faces" := by decide +kernel
example : nameOf sFaceCounts = "face_counts" := by decide +kernel
example : nameOf sFamI = "__init__" := by decide +kernel
example : nameOf sFamLen = "__len__" := by decide +kernel
example : nameOf sFamIter = "__iter__" := by decide +kernel
example : nameOf sFamGet = "__getitem__" := by decide +kernel
example : nameOf sCheckLabels = "check_labels" := by decide +kernel
example : nameOf sLabelBook = "label_book" := by decide +kernel
example : nameOf sListPart = "list_partitions" := by decide +kernel
example : nameOf sListChoices = "list_choices" := by decide +kernel
example : nameOf sCheckLabels2 = "_check_labels" := by decide +kernel
example : nameOf sLabelFamily = "label_family" := by decide +kernel
example : nameOf sCell = "_law_cell" := by decide +kernel
example : nameOf sSmall = "_law_small" := by decide +kernel
example : nameOf sLaw = "law" := by decide +kernel
end NA
set_option maxRecDepth 100000
set_option maxHeartbeats 1000000
/-! Generators that sleep while their consumer goes on: contexts cut to the heap of their creation. -/
namespace NA
open PySem PySem.Spec PyProof.Rows L2 GenW
/-! ### a heap cut to what stood at hc -/
def deadOf (hc : Heap) : List Addr := (List.range hc.objs.size).filter fun b => (hc.get? b).isNone
def takeH (n : Nat) (h : Heap) : Heap := { h with objs := h.objs.extract 0 n }
theorem takeH_size {n : Nat} {h : Heap} (hn : n ≤ h.objs.size) : (takeH n h).objs.size = n := by
  unfold takeH
  simp only [Array.size_extract]
  omega
theorem takeH_get {n : Nat} {h : Heap} {b : Addr} (hb : b < n) : (takeH n h).get? b = h.get? b := by
  have hb' : (b : Nat) < n := hb
  have e : (takeH n h).objs[b]? = h.objs[b]? := by
    show (h.objs.extract 0 n)[(b : Nat)]? = h.objs[(b : Nat)]?
    rw [Array.getElem?_extract]
    by_cases q : (b : Nat) < min n h.objs.size - 0
    · rw [if_pos q, Nat.zero_add]
    · rw [if_neg q]
      have : h.objs.size ≤ (b : Nat) := by
        have q' : min n h.objs.size ≤ b := Nat.not_lt.mp q
        rcases Nat.le_total n h.objs.size with z | z
        · rw [Nat.min_eq_left z] at q'
          exact absurd (Nat.lt_of_lt_of_le hb q') (Nat.lt_irrefl _)
        · rw [Nat.min_eq_right z] at q'
          exact q'
      rw [Array.getElem?_eq_none this]
  unfold Heap.get?
  simp only [e]
def cut (hc h : Heap) : Heap := PySem.W.hideAll (takeH hc.objs.size h) (deadOf hc)
theorem cut_size {hc h : Heap} (hn : hc.objs.size ≤ h.objs.size) : (cut hc h).objs.size = hc.objs.size := by
  unfold cut
  rw [PySem.W.hideAll_size, takeH_size hn]
theorem cut_get {hc h : Heap} {b : Addr} {o : Obj} (e : hc.get? b = some o) : (cut hc h).get? b = h.get? b := by
  have hb := Heap.lt_size e
  have hd : b ∉ deadOf hc := fun hm => by
    have := (List.mem_filter.mp hm).2
    rw [e] at this
    cases this
  rw [← takeH_get (h := h) hb]
  cases q : (takeH hc.objs.size h).get? b with
  | some u => exact PySem.W.hideAll_get _ q hd
  | none =>
    cases r : (cut hc h).get? b with
    | none => rfl
    | some u =>
      have z := PySem.W.of_hideAll _ r
      rw [q] at z
      cases z
theorem of_cut {hc h : Heap} {b : Addr} {o : Obj} (e : (cut hc h).get? b = some o) : (∃ u, hc.get? b = some u) ∧ h.get? b = some o := by
  have hb : b < hc.objs.size := by
    have h1 := Heap.lt_size e
    have h2 : (cut hc h).objs.size ≤ hc.objs.size := by
      unfold cut
      rw [PySem.W.hideAll_size]
      unfold takeH
      simp only [Array.size_extract]
      omega
    exact Nat.lt_of_lt_of_le h1 h2
  have z : (takeH hc.objs.size h).get? b = some o := PySem.W.of_hideAll _ e
  rw [takeH_get hb] at z
  refine ⟨?_, z⟩
  cases q : hc.get? b with
  | some u => exact ⟨u, rfl⟩
  | none =>
    have hm : b ∈ deadOf hc := List.mem_filter.mpr ⟨List.mem_range.mpr hb, by rw [q]; rfl⟩
    have := PySem.W.hideAll_none (h := takeH hc.objs.size h) (deadOf hc) hm
    unfold cut at e
    rw [this] at e
    cases e
/-! ### an activation of a generator def -/
/-- hc: the heap at its creation; Hs: what it knows of it (frozen things, tuples); M: what its consumer may change while it sleeps -/
structure GA where
  prog : Program
  w : World
  K : PySem.W.Frag
  mg : Str → Option Value
  base : Heap
  A : Around
  N : List Str
  env : Env
  outer : List Env
  pn : List (Addr × Obj)
  hc : Heap
  Hs : Hp
  M : List Addr
  g : Nat
  prot : Nat → Prop
  Rec : List V → Heap → Prop
  Dyn : Heap → List (Addr × Obj)
/-- its context, woken at s -/
def GA.at (G : GA) (s : Shared) : Cx where
  prog := G.prog
  w := G.w
  K := G.K
  mg := G.mg
  base := G.base
  A := G.A
  N := G.N
  s_0 := { s with heap := cut G.hc s.heap }
  H_0 := G.Hs
  env := G.env
  outer := G.outer
  stack := G.env :: G.outer
  ex := []
  calm := true
  fn := fun _ => true
  pn := G.pn ++ G.Dyn s.heap
  xe := fun _ _ => False
/-- what never changes -/
structure GA.Ok (G : GA) : Prop where
  mod : Mod G.K G.mg G.base
  kind : G.env.scope.kind = .function
  glob : G.env.globals = mainGlobals
  blt : G.env.builtins = builtinsNs
  above : G.hc.objs.size ≤ G.env.locals
  inj : ∀ x y c, G.env.cells.lookup x = some c → G.env.cells.lookup y = some c → x = y
  has : ∀ x, (G.env.kindOf x = some .cell ∨ G.env.kindOf x = some .free) → ∃ c, G.env.cells.lookup x = some c
  cab : ∀ x c, G.env.cells.lookup x = some c → G.hc.objs.size ≤ c
  hd : G.A.handled = none
  frames : G.A.frames = some (G.env :: G.outer)
  frm : G.env.frame = some G.env.locals
  bs : ∀ b o, G.base.get? b = some o → G.hc.get? b = some o ∧ G.Hs b = none
  funs : G.hc.FunFrames G.base G.outer
  frf : ∀ b ∈ frs G.outer, G.Hs b = none
  hs : ∀ b u, G.Hs b = some u → (∃ o v, u = .frz o v) ∨ ∃ xs, u = .tup xs
  hsa : ∀ b u, G.Hs b = some u → ∃ o, G.hc.get? b = some o
  m : ∀ b ∈ G.M, (∃ o, G.hc.get? b = some o) ∧ G.Hs b = none ∧ G.base.get? b = none
  pnc : ∀ p ∈ G.pn, G.hc.objs.size ≤ p.1
  bsz : G.base.objs.size ≤ G.hc.objs.size
  dyn : ∀ h, ∀ p ∈ G.Dyn h, h.get? p.1 = some p.2 ∧ G.hc.objs.size ≤ p.1 ∧ ∀ v, p.2.data ≠ .cell v
/-- a state in which its old world stands -/
structure GA.Live (G : GA) (s : Shared) : Prop where
  there : ∀ b o, G.hc.get? b = some o → ∃ o', s.heap.get? b = some o'
  base : ∀ b o, G.base.get? b = some o → s.heap.get? b = some o
  funs : s.heap.FunFrames G.base G.outer
  size : G.hc.objs.size ≤ s.heap.objs.size
theorem FunFrames_at {base h h' : Heap} : ∀ {l : List Env}, (∀ b ∈ frs l, ∀ o, h.get? b = some o → h'.get? b = some o) → h.FunFrames base l → h'.FunFrames base l
  | [], _, _ => trivial
  | env :: l, k, h => by
    obtain ⟨hk, ⟨L, o, hf, hn, ho, hd⟩, hr⟩ := h
    have hL : L ∈ frs (env :: l) := by unfold frs; rw [List.filterMap_cons, hf]; exact List.mem_cons_self
    refine ⟨hk, ⟨L, o, hf, hn, k L hL o ho, hd⟩, FunFrames_at (fun b hb => k b ?_) hr⟩
    unfold frs at hb ⊢
    rw [List.filterMap_cons, hf]
    exact List.mem_cons_of_mem _ hb
theorem GA.at_ok {G : GA} (O : G.Ok) {s : Shared} (L : G.Live s) : (G.at s).Ok where
  mod := O.mod
  kind := O.kind
  glob := O.glob
  blt := O.blt
  above := by
    show (cut G.hc s.heap).objs.size ≤ G.env.locals
    rw [cut_size L.size]
    exact O.above
  inj := O.inj
  has := O.has
  cab := fun x c _ h => by
    show (cut G.hc s.heap).objs.size ≤ c
    rw [cut_size L.size]
    exact O.cab x c h
  hd := fun _ => O.hd
  frames := O.frames
  stk := .inr ⟨rfl, O.frm⟩
  exf := fun b h => absurd (show b ∈ ([] : List Addr) from h) (by simp)
  bs := fun b o e => ⟨(cut_get (O.bs b o e).1).trans (L.base b o e), (O.bs b o e).2⟩
  bsz := by
    show G.base.objs.size ≤ (cut G.hc s.heap).objs.size
    rw [cut_size L.size]
    exact O.bsz
  noex := fun b o _ h => absurd (show b ∈ ([] : List Addr) from h) (by simp)
  exfs := fun b h => absurd (show b ∈ ([] : List Addr) from h) (by simp)
  funs := by
    refine FunFrames_at (h := s.heap) (fun b hb o e => ?_) L.funs
    obtain ⟨_, o', ho, _⟩ := O.funs.mem hb
    exact (cut_get ho).trans e
  frf := O.frf
end NA
set_option maxRecDepth 100000
set_option maxHeartbeats 1000000
/-! What a sleeping generator asks of its consumer; what a woken one leaves. -/
namespace NA
open PySem PySem.Spec PyProof.Rows L2 GenW
/-- the consumer's turn: from s to s' nothing but M changed; the frames stand; the other generators stand -/
structure GA.Rely (G : GA) (s s' : Shared) : Prop where
  os : s'.os = s.os
  bare : AllBare s'.gens
  keep : ∀ b o, b ∉ G.M → s.heap.get? b = some o → s'.heap.get? b = some o
  there : ∀ b ∈ G.M, (∃ o, s.heap.get? b = some o) → ∃ o, s'.heap.get? b = some o
  funs : s'.heap.FunFrames G.base G.outer
  size : s.heap.objs.size ≤ s'.heap.objs.size
  gens : ∀ (j : Nat) (x : GenState), G.prot j → s.gens[j]? = some x → s'.gens[j]? = some x
  gsz : s.gens.size ≤ s'.gens.size
section
variable {G : GA} {ip : List (Addr × Obj)} {σ : L2.St} {H : Hp} {s₀ s s' : Shared}
/-- behind a run its old world stands -/
theorem live_run (O : G.Ok) (L : G.Live s₀) (I : Inv (G.at s₀) ip σ H s) : G.Live s where
  there := fun b o e => by
    obtain ⟨o', e'⟩ := L.there b o e
    exact I.base.there b o' ((cut_get e).trans e') (by simp [GA.at])
  base := I.bk
  funs := I.funs
  size := by
    have z : (cut G.hc s₀.heap).objs.size ≤ s.heap.objs.size := I.sz
    rw [cut_size L.size] at z
    exact z
/-- what it knows of the old world stays -/
theorem stat_run (O : G.Ok) (L : G.Live s₀) (I : Inv (G.at s₀) ip σ H s) {b : Addr} {o : Obj} (e : G.hc.get? b = some o) : H b = G.Hs b := by
  obtain ⟨o', e'⟩ := L.there b o e
  have e0 : (G.at s₀).s_0.heap.get? b = some o' := (cut_get e).trans e'
  cases q : G.Hs b with
  | none => exact I.base.free b o' e0 q (by simp [GA.at])
  | some u =>
    rcases O.hs b u q with ⟨o2, v, rfl⟩ | ⟨xs, rfl⟩
    · exact I.base.frzs b o2 v q
    · exact I.base.tups b xs q
theorem m_free (O : G.Ok) (L : G.Live s₀) (I : Inv (G.at s₀) ip σ H s) : ∀ b ∈ G.M, H b = none := fun b hb => by
  obtain ⟨⟨o, e⟩, n, _⟩ := O.m b hb
  rw [stat_run O L I e]
  exact n
theorem m_lt (O : G.Ok) : ∀ b ∈ G.M, b < G.hc.objs.size := fun b hb => by
  obtain ⟨⟨o, e⟩, _, _⟩ := O.m b hb
  exact Heap.lt_size e
/-- the consumer's turn leaves its world -/
theorem live_rely (O : G.Ok) (L : G.Live s) (r : G.Rely s s') : G.Live s' where
  there := fun b o e => by
    obtain ⟨o', e'⟩ := L.there b o e
    by_cases hb : b ∈ G.M
    · exact r.there b hb ⟨o', e'⟩
    · exact ⟨o', r.keep b o' hb e'⟩
  base := fun b o e => by
    refine r.keep b o (fun hb => ?_) (L.base b o e)
    have := (O.m b hb).2.2
    rw [e] at this
    cases this
  funs := r.funs
  size := Nat.le_trans L.size r.size
theorem GA.Rely.refl (hb : AllBare s.gens) (hf : s.heap.FunFrames G.base G.outer) : G.Rely s s := ⟨rfl, hb, fun _ _ _ e => e, fun _ _ e => e, hf, Nat.le_refl _, fun _ _ _ e => e, Nat.le_refl _⟩
theorem GA.Rely.trans {s'' : Shared} (a : G.Rely s s') (b : G.Rely s' s'') : G.Rely s s'' :=
  ⟨b.os.trans a.os, b.bare, fun x o hx e => b.keep x o hx (a.keep x o hx e), fun x hx e => b.there x hx (a.there x hx e), b.funs, Nat.le_trans a.size b.size, fun j x hj e => b.gens j x hj (a.gens j x hj e), Nat.le_trans a.gsz b.gsz⟩
/-- woken again: its own things stand as they stood -/
theorem woken (O : G.Ok) (L : G.Live s₀) (I : Inv (G.at s₀) ip σ H s) (hip : ∀ p ∈ ip, G.hc.objs.size ≤ p.1) (r : G.Rely s s') (hd : ∀ q ∈ G.Dyn s'.heap, q ∈ G.Dyn s₀.heap ∨ s.heap.objs.size ≤ q.1) : Inv (G.at s') ip σ H s' := by
  have L1 := live_run O L I
  have L2 := live_rely O L1 r
  have mf := m_free O L I
  have ml := m_lt O
  have nL : G.env.locals ∉ G.M := fun hb => absurd (Nat.lt_of_lt_of_le (ml _ hb) O.above) (Nat.lt_irrefl _)
  have nC : ∀ x c, G.env.cells.lookup x = some c → c ∉ G.M := fun x c e hb => absurd (Nat.lt_of_lt_of_le (ml _ hb) (O.cab x c e)) (Nat.lt_irrefl _)
  have nP : ∀ p ∈ (G.pn ++ G.Dyn s₀.heap) ++ ip, p.1 ∉ G.M := fun p hp hb => by
    have : G.hc.objs.size ≤ p.1 := by
      rcases List.mem_append.mp hp with z | z
      · rcases List.mem_append.mp z with z | z
        · exact O.pnc p z
        · exact (O.dyn _ p z).2.1
      · exact hip p z
    exact absurd (Nat.lt_of_lt_of_le (ml _ hb) this) (Nat.lt_irrefl _)
  have st : ∀ {b : Addr} {o : Obj}, G.hc.get? b = some o → H b = G.Hs b := fun e => stat_run O L I e
  have nM : ∀ b u, H b = some u → b ∉ G.M := fun b u e hb => by
    rw [mf b hb] at e
    cases e
  refine ⟨GA.at_ok O L2, rfl, r.bare, ⟨fun b o e n hb _ => (of_cut e).2, fun b o e n hb _ => ⟨o.slots, (of_cut e).2⟩, fun b o e n _ => ?_, fun b o e _ => ⟨o, (of_cut e).2⟩, fun b xs e => ?_, fun b o u e => ?_, fun b ps e => ?_⟩, ?_, fun x c e => ?_, I.free, I.freeC, fun p hp => ?_, fun b u e => ?_, I.len⟩
  · obtain ⟨⟨u, hu⟩, _⟩ := of_cut e
    rw [st hu]
    exact n
  · have e' : G.Hs b = some (.tup xs) := e
    obtain ⟨o, ho⟩ := O.hsa b _ e'
    rw [st ho]
    exact e'
  · have e' : G.Hs b = some (.frz o u) := e
    obtain ⟨o1, ho⟩ := O.hsa b _ e'
    rw [st ho]
    exact e'
  · have e' : G.Hs b = some (.tbl ps) := e
    rcases O.hs b _ e' with ⟨o2, v, z⟩ | ⟨xs, z⟩ <;> cases z
  · obtain ⟨m, ⟨o, es, ep, ho, hr⟩, hl⟩ := I.loc
    refine ⟨m, ⟨o, es, ep, r.keep _ _ nL ho, hr⟩, fun i x v e1 e2 e3 => ?_⟩
    obtain ⟨u, ru, l⟩ := hl i x v e1 e2 e3
    refine ⟨u, ru, ?_⟩
    rcases l with l | ⟨k, c, hc, oc, hoc, hd⟩
    · exact .inl l
    · exact .inr ⟨k, c, hc, oc, r.keep _ _ (nC x c hc) hoc, hd⟩
  · obtain ⟨v, oc, hoc, hd⟩ := I.cell x c e
    exact ⟨v, oc, r.keep _ _ (nC x c e) hoc, hd⟩
  · have old : p ∈ (G.pn ++ G.Dyn s₀.heap) ++ ip → s'.heap.get? p.1 = some p.2 ∧ H p.1 = none ∧ p.1 ≠ G.env.locals ∧ p.1 ∉ frs G.outer ∧ ∀ v, p.2.data ≠ .cell v := fun hp => by
      obtain ⟨h1, h2, h3, h4, h5⟩ := I.pin p hp
      exact ⟨r.keep _ _ (nP p hp) h1, h2, h3, h4, h5⟩
    rcases List.mem_append.mp hp with z | z
    · rcases List.mem_append.mp z with z | z
      · exact old (List.mem_append_left _ (List.mem_append_left _ z))
      · rcases hd p z with y | y
        · exact old (List.mem_append_left _ (List.mem_append_right _ y))
        · obtain ⟨g1, g2, g3⟩ := O.dyn _ p z
          exact ⟨g1, I.hok.fresh y, Nat.ne_of_gt (Nat.lt_of_lt_of_le I.lt y), I.nofs y, g3⟩
    · exact old (List.mem_append_right _ z)
  · refine (I.hok b u e).stay (fun c o hc q => r.keep c o ?_ q) (fun _ q => q) fun _ _ q => q
    rcases hc with rfl | hc
    · exact nM _ _ e
    · exact nM _ _ hc
end
/-! ### the protocol -/
/-- an item is handed out; P: what is known of all items so far -/
def GA.Y (G : GA) (P : List V → Hp → Prop) : Protocol := fun n s₀ v s kap =>
  ∃ ys x ip σ H, n + 1 + ys.length = sizeLine ∧ RelV x v ∧ Inv (G.at s₀) ip σ H s ∧ P (ys ++ [x]) H ∧ G.Rec ys s₀.heap ∧ ∀ s', G.Rely s s' → G.Rec (ys ++ [x]) s'.heap → (∀ q ∈ G.Dyn s'.heap, q ∈ G.Dyn s₀.heap ∨ s.heap.objs.size ≤ q.1) → kap (.send .none) s'
/-- its end -/
def GA.F (G : GA) (P : List V → Hp → Prop) (n : Nat) (s₀ s : Shared) : Prop := ∃ ys ip σ H, n + ys.length = sizeLine ∧ Inv (G.at s₀) ip σ H s ∧ P ys H ∧ G.Rec ys s₀.heap
def GA.R (G : GA) (P : List V → Hp → Prop) : GenEnd := fun n s₀ r s => ((r = .ok (.ret .none) ∨ r = .ok .next) ∧ G.F P n s₀ s) ∨ ∃ e, r = .error e ∧ (fun (_ : Value) (_ : Shared) => False) e s
end NA
set_option maxRecDepth 100000
set_option maxHeartbeats 1000000
/-! The consumer behind a turn of the generator. -/
namespace NA
open PySem PySem.Spec PyProof.Rows L2 GenW
section
variable {G : GA} {X : Cx} {pins ip : List (Addr × Obj)} {σ σ1 σg : L2.St} {H1 Hc Hc' H : Hp} {sc s₀ s : Shared}
/-- what a generator knows is what its consumer knew -/
structure GA.Sub (G : GA) (H1 : Hp) : Prop where
  sub : ∀ b u, G.Hs b = some u → (∃ o v, u = .frz o v ∧ ∃ v', H1 b = some v') ∨ ∃ xs, u = .tup xs ∧ H1 b = some (.tup xs)
theorem objOk_get {P : Program} {w : World} {H : Hp} {h : Heap} {a : Addr} {o : HO} (x : ObjOk P w H h a o) : ∃ u, h.get? a = some u := by
  cases o with
  | lst xs => obtain ⟨_, _, _, _, e⟩ := x; exact ⟨_, e⟩
  | tup xs => obtain ⟨_, _, _, ⟨o, e, _⟩⟩ := x; exact ⟨o, e⟩
  | dK kvs => obtain ⟨_, _, _, _, o, _, _, e, _⟩ := x; exact ⟨o, e⟩
  | dT kvs => obtain ⟨_, _, _, _, o, _, _, e, _⟩ := x; exact ⟨o, e⟩
  | set S n => obtain ⟨o, _, _, _, e, _⟩ := x; exact ⟨o, e⟩
  | ins C dx fs => obtain ⟨_, _, _, e, _⟩ := x; exact ⟨_, e⟩
  | own y => obtain ⟨_, e⟩ := x; exact ⟨_, e⟩
  | xd fs => obtain ⟨_, ⟨_, _, _, e, _⟩, _⟩ := x; exact ⟨_, e⟩
  | rng lo hi => obtain ⟨_, _, _, e⟩ := x; exact ⟨_, e⟩
  | frz ob u => obtain ⟨e, _⟩ := x; exact ⟨_, e⟩
  | tbl ps => exact ⟨_, (show h.get? a = some _ from x)⟩
  | met f y => exact ⟨_, (show h.get? a = some _ from x)⟩
  | ext φ => obtain ⟨_, ⟨_, e⟩, _⟩ := x; exact ⟨_, e⟩
/-- of the consumer's things: they stood at the generator's creation -/
structure Old (X : Cx) (pins : List (Addr × Obj)) (H1 : Hp) (hc : Heap) : Prop where
  t : ∀ b u, H1 b = some u → ∃ o, hc.get? b = some o
  z : ∀ b o, X.s_0.heap.get? b = some o → b ∉ X.ex → (∃ u, hc.get? b = some u) ∧ (X.H_0 b = none → H1 b = none)
  l : (∃ u, hc.get? X.env.locals = some u) ∧ H1 X.env.locals = none
  c : ∀ x c, X.env.cells.lookup x = some c → (∃ u, hc.get? c = some u) ∧ H1 c = none
  p : ∀ p ∈ X.pn ++ pins, (∃ u, hc.get? p.1 = some u) ∧ H1 p.1 = none
theorem old_of (I1 : Inv X pins σ1 H1 sc) : Old X pins H1 sc.heap where
  t := fun b u q => objOk_get (I1.hok b u q)
  z := fun b o e hx => ⟨I1.base.there b o e hx, fun n => I1.base.free b o e n hx⟩
  l := by
    obtain ⟨m, ⟨o, _, _, ho, _⟩, _⟩ := I1.loc
    exact ⟨⟨o, ho⟩, I1.free⟩
  c := fun x c e => by
    obtain ⟨v, o, ho, _⟩ := I1.cell x c e
    exact ⟨⟨o, ho⟩, I1.freeC x c e⟩
  p := fun p hp => ⟨⟨_, (I1.pin p hp).1⟩, (I1.pin p hp).2.1⟩
/-- what stood at the creation, of what the consumer tracks -/
theorem cons_run (O : G.Ok) (L : G.Live s₀) (hst : G.outer = X.stack) (hpr : G.prog = X.prog) (hw : G.w = X.w) (S : G.Sub H1) (Z : Old X pins H1 G.hc) (I : Inv X pins σ Hc s₀)
    (hcur : ∀ b o, G.hc.get? b = some o → G.Hs b ≠ none → Hc b = H1 b) (hfz : ∀ b o v, G.Hs b = some (.frz o v) → s₀.heap.get? b = some o)
    (J : Inv (G.at s₀) ip σg H s) (hmono : ∀ b u, Hc b = some u → Hc' b = some u)
    (hnew : ∀ b u, Hc' b = some u → ((∃ o, G.hc.get? b = some o) ∧ Hc b = some u) ∨ (G.hc.get? b = none ∧ ∃ xs, u = .tup xs ∧ H b = some (.tup xs)) ∨ (G.hc.get? b = none ∧ Hc b = some u ∧ (∃ xs, u = .tup xs) ∧ ∃ o, (b, o) ∈ G.Dyn s₀.heap)) : Inv X pins σ Hc' s := by
  -- untracked things of the old world
  have hs0 : ∀ b, H1 b = none → G.Hs b = none := fun b n => by
    cases q : G.Hs b with
    | none => rfl
    | some u =>
      rcases S.sub b u q with ⟨o, v, _, v', e⟩ | ⟨xs, _, e⟩ <;> (rw [n] at e; cases e)
  have exact0 : ∀ b o, (∃ u, G.hc.get? b = some u) → G.Hs b = none → b ∉ frs X.stack → s₀.heap.get? b = some o → s.heap.get? b = some o := fun b o ⟨u, hu⟩ n nf e =>
    J.base.keep b o ((cut_get hu).trans e) n (by show b ∉ frs G.outer; rw [hst]; exact nf) (by simp [GA.at])
  have slot0 : ∀ b o, (∃ u, G.hc.get? b = some u) → G.Hs b = none → s₀.heap.get? b = some o → ∃ sl, s.heap.get? b = some { o with slots := sl } := fun b o ⟨u, hu⟩ n e =>
    J.base.any ((cut_get hu).trans e) n (by simp [GA.at])
  have there0 : ∀ b o, (∃ u, G.hc.get? b = some u) → s₀.heap.get? b = some o → ∃ o', s.heap.get? b = some o' := fun b o ⟨u, hu⟩ e =>
    J.base.there b o ((cut_get hu).trans e) (by simp [GA.at])
  have exactF : ∀ b o o2 v, G.Hs b = some (.frz o2 v) → s₀.heap.get? b = some o → s.heap.get? b = some o := fun b o o2 v q e => by
    have e0 := hfz b o2 v q
    rw [e0] at e
    cases e
    have hb : H b = some (.frz o v) := J.base.frzs b o v q
    obtain ⟨z, _⟩ := J.hok b _ hb
    exact z
  -- what stands at the creation
  have al0 : ∀ b o, X.s_0.heap.get? b = some o → b ∉ X.ex → ∃ u, G.hc.get? b = some u := fun b o e hx => (Z.z b o e hx).1
  have alL : ∃ u, G.hc.get? X.env.locals = some u := Z.l.1
  have alC : ∀ x c, X.env.cells.lookup x = some c → ∃ u, G.hc.get? c = some u := fun x c e => (Z.c x c e).1
  have alP : ∀ p ∈ X.pn ++ pins, ∃ u, G.hc.get? p.1 = some u := fun p hp => (Z.p p hp).1
  have same : ∀ b, (∃ o, G.hc.get? b = some o) → Hc' b = Hc b := fun b ⟨o, e⟩ => by
    cases q : Hc' b with
    | some u =>
      rcases hnew b u q with ⟨_, z⟩ | ⟨z, _⟩ | ⟨z, _⟩
      · exact z.symm
      · rw [z] at e; cases e
      · rw [z] at e; cases e
    | none =>
      cases r : Hc b with
      | none => rfl
      | some u =>
        rw [hmono b u r] at q
        cases q
  have ltL : ∀ b o, X.s_0.heap.get? b = some o → b ≠ X.env.locals := fun b o e => Nat.ne_of_lt (Nat.lt_of_lt_of_le (Heap.lt_size e) I.ok.above)
  have nfr : ∀ b o, X.s_0.heap.get? b = some o → b ∉ X.fs → b ∉ frs X.stack := fun b o e n hm => by
    rcases List.mem_cons.mp (I.stkSub b hm) with z | z
    · exact ltL b o e z
    · exact n z
  have n0of : ∀ b o, X.s_0.heap.get? b = some o → X.H_0 b = none → b ∉ X.ex → G.Hs b = none := fun b o e n hx => hs0 b ((Z.z b o e hx).2 n)
  refine ⟨I.ok, J.os.trans I.os, J.bare, ⟨fun b o e n hb hx => ?_, fun b o e n hb hx => ?_, fun b o e n hx => ?_, fun b o e hx => ?_, fun b xs e => ?_, fun b o u e => ?_, fun b ps e => ?_⟩, ?_, fun x c e => ?_, ?_, fun x c e => ?_, fun p hp => ?_, fun b u q => ?_, I.len⟩
  · exact exact0 b o (al0 b o e hx) (n0of b o e n hx) (nfr b o e hb) (I.base.keep b o e n hb hx)
  · obtain ⟨sl, e1⟩ := I.base.slot b o e n hb hx
    obtain ⟨sl', e2⟩ := slot0 b _ (al0 b o e hx) (n0of b o e n hx) e1
    exact ⟨sl', e2⟩
  · rw [same b (al0 b o e hx)]
    exact I.base.free b o e n hx
  · obtain ⟨o', e1⟩ := I.base.there b o e hx
    exact there0 b o' (al0 b o e hx) e1
  · exact hmono b _ (I.base.tups b xs e)
  · exact hmono b _ (I.base.frzs b o u e)
  · obtain ⟨more, e1⟩ := I.base.tbls b ps e
    exact ⟨more, hmono b _ e1⟩
  · obtain ⟨m, ⟨o, es, ep, ho, hr⟩, hl⟩ := I.loc
    obtain ⟨sl, e1⟩ := slot0 _ _ alL (hs0 _ Z.l.2) ho
    refine ⟨m, ⟨_, es, ep, e1, hr⟩, fun i x v e1 e2 e3 => ?_⟩
    obtain ⟨u, ru, l⟩ := hl i x v e1 e2 e3
    refine ⟨u, ru, ?_⟩
    rcases l with l | ⟨k, c, hc, oc, hoc, hd⟩
    · exact .inl l
    · obtain ⟨sl, e4⟩ := slot0 c oc (alC x c hc) (hs0 _ (Z.c x c hc).2) hoc
      exact .inr ⟨k, c, hc, _, e4, hd⟩
  · obtain ⟨v, oc, hoc, hd⟩ := I.cell x c e
    obtain ⟨sl, e4⟩ := slot0 c oc (alC x c e) (hs0 _ (Z.c x c e).2) hoc
    exact ⟨v, _, e4, hd⟩
  · rw [same _ alL]
    exact I.free
  · rw [same _ (alC x c e)]
    exact I.freeC x c e
  · obtain ⟨h1, h2, h3, h4, h5⟩ := I.pin p hp
    refine ⟨exact0 p.1 p.2 (alP p hp) (hs0 _ (Z.p p hp).2) (fun hm => ?_) h1, by rw [same _ (alP p hp)]; exact h2, h3, h4, h5⟩
    rcases List.mem_cons.mp (I.stkSub _ hm) with z | z
    · exact h3 z
    · exact h4 z
  · rcases hnew b u q with ⟨al, qc⟩ | ⟨_, xs, rfl, hx⟩ | ⟨_, qc, ⟨xs, rfl⟩, o, hd⟩
    · -- of the old world
      have key : ∀ c uc, Hc c = some uc → (∃ o, G.hc.get? c = some o) → (∃ xs, uc = .tup xs) ∨ ∀ o, s₀.heap.get? c = some o → s.heap.get? c = some o := fun c uc hcu alc => by
        cases hs : G.Hs c with
        | none => exact .inr fun o e => exact0 c o alc hs (fun hm => by rw [I.stkFree c hm] at hcu; cases hcu) e
        | some w' =>
          rcases S.sub c w' hs with ⟨o2, v, rfl, e2⟩ | ⟨xs, rfl, e2⟩
          · exact .inr fun o e => exactF c o o2 v hs e
          · obtain ⟨oc, hoc⟩ := alc
            have z := hcur c oc hoc (by rw [hs]; simp)
            rw [z, e2] at hcu
            cases hcu
            exact .inl ⟨xs, rfl⟩
      cases hs : G.Hs b with
      | some w' =>
        rcases S.sub b w' hs with ⟨o2, v, rfl, e2⟩ | ⟨xs, rfl, e2⟩
        · refine (I.hok b u qc).stay (fun c o hc e => ?_) (fun c hc => hmono _ _ hc) fun c xs hc => hmono _ _ hc
          rcases hc with rfl | hc
          · exact exactF _ o o2 v hs e
          · have hcal : ∃ o, G.hc.get? c = some o := by
              rcases hnew c _ (hmono _ _ hc) with ⟨z, _⟩ | ⟨_, ys, z, _⟩ | ⟨_, _, ⟨ys, z⟩, _⟩
              · exact z
              · cases z
              · cases z
            rcases key c _ hc hcal with ⟨ys, z⟩ | z
            · cases z
            · exact z o e
        · obtain ⟨oc, hoc⟩ := al
          have z := hcur b oc hoc (by rw [hs]; simp)
          rw [z, e2] at qc
          cases qc
          have hb : H b = some (.tup xs) := J.base.tups b xs hs
          exact J.hok b _ hb
      | none =>
        refine (I.hok b u qc).stay (fun c o hc e => ?_) (fun c hc => hmono _ _ hc) fun c xs hc => hmono _ _ hc
        rcases hc with rfl | hc
        · exact exact0 _ o al hs (fun hm => by rw [I.stkFree _ hm] at qc; cases qc) e
        · have hcal : ∃ o, G.hc.get? c = some o := by
            rcases hnew c _ (hmono _ _ hc) with ⟨z, _⟩ | ⟨_, ys, z, _⟩ | ⟨_, _, ⟨ys, z⟩, _⟩
            · exact z
            · cases z
            · cases z
          rcases key c _ hc hcal with ⟨ys, z⟩ | z
          · cases z
          · exact z o e
    · exact J.hok b _ hx
    · obtain ⟨h1, _, _⟩ := O.dyn _ _ hd
      have h2 := (J.pin (b, o) (List.mem_append_left _ (List.mem_append_right _ hd))).1
      obtain ⟨z, its, rv, o', ho', rest⟩ := I.hok b _ qc
      rw [show s₀.heap.get? b = some o from h1] at ho'
      cases ho'
      exact ⟨z, its, rv, o, h2, rest⟩
end
end NA
set_option maxRecDepth 100000
set_option maxHeartbeats 1000000
/-! Statements of a generator's body. -/
namespace NA
open PySem PySem.Spec PyProof.Rows L2 GenW
section
variable {prog : Program} {w : World} {A : Around} {R : GenEnd} {Y : Protocol} {n : Nat} {s₀ : Shared} {c : Code} {fs : List Frame} {s : Shared} {env : Env}
  {K : Flow → Sem PySem.Fin} {J : Value → Sem PySem.Fin} {gd : Bool → Bool} {lv : List Value → List Value}
theorem seg_If {test : Expr} {body orelse : List Stmt} {pos : Pos}
    (h : wpAny (model prog w) (A.over c fs) (isTrue test env (eval test env)) (fun b s' => Seg (model prog w) A R Y n s₀ c ((if b = true then execs body env else execs orelse env).wrap K J gd lv) fs s') (fun _ _ => False) s) :
    Seg (model prog w) A R Y n s₀ c ((exec (.If test body orelse pos) env).wrap K J gd lv) fs s := by
  rw [exec_If]
  show Seg _ _ _ _ _ _ _ (.at pos fun _ => ((isTrue test env (eval test env)) >>= fun b => if b = true then execs body env else execs orelse env).wrap K J gd lv) fs s
  refine seg_at ?_
  exact seg_bind_wrap (wpAny_mono h (fun b s' hb => hb) fun _ _ z => False.elim z)
theorem seg_For {target iter : Expr} {body : List Stmt} {pos : Pos}
    (h : wpAny (model prog w) (A.over c fs) (eval iter env) (fun x s1 => wpAny (model prog w) (A.over c fs) (pyIter x) (fun it s2 =>
      ∀ k p, (∀ f s' n' s₀', Seg (model prog w) A R Y n' s₀' c (K f) fs s' → Seg (model prog w) A R Y n' s₀' c (k (.ok f)) fs s') →
        Seg (model prog w) A R Y n s₀ (.forLoop target it body [] env) ((model prog w).den (.forLoop target it body [] env)) (.ret k none (gd false) (lv []) c p [] :: fs) s2) (fun _ _ => False) s1) (fun _ _ => False) s)
    (hs : ∀ x, foldedSetIterable iter env x = pure x := by intro _; rfl) :
    Seg (model prog w) A R Y n s₀ c ((exec (.For target iter body [] pos) env).wrap K J gd lv) fs s := by
  rw [exec_For]
  show Seg _ _ _ _ _ _ _ (.at pos fun _ => (eval iter env >>= fun x => foldedSetIterable iter env x >>= fun x => standAt iter.pos >>= fun _ => holding [x] (pyIter x) >>= fun it => runOwn (.forLoop target it body [] env) env).wrap K J gd lv) fs s
  refine seg_at ?_
  refine seg_bind_wrap (wpAny_mono h (fun x s1 h1 => ?_) fun _ _ z => False.elim z)
  refine seg_bind_wrap (wpAny_of_eq (hs x) ?_)
  refine seg_bind_wrap (wpAny_standAt ?_)
  refine seg_bind_wrap (wpAny_holding (wpAny_mono h1 (fun it s2 h2 => ?_) fun _ _ z => False.elim z))
  refine seg_call fun p => ?_
  exact h2 _ p (fun f s' n' s₀' hK => hK)
theorem seg_forLoop {target : Expr} {it : Value} {body : List Stmt}
    (h : wpAny (model prog w) (A.over (.forLoop target it body [] env) fs) (pyNext it) (fun r s1 => match r with
      | none => Seg (model prog w) A R Y n s₀ (.forLoop target it body [] env) (.pure (.again (.block [] env))) fs s1
      | some v => wpAny (model prog w) (A.over (.forLoop target it body [] env) fs) (letOwnedTupleGo target it v) (fun _ s2 =>
          wpAny (model prog w) (A.over (.forLoop target it body [] env) fs) (assign target env v) (fun _ s3 => ∀ J',
            Seg (model prog w) A R Y n s₀ (.forLoop target it body [] env) ((execs body env).wrap (fun f => match f with
              | .next | .cont => .pure (.again (.forLoop target it body [] env))
              | .brk => .pure (.done .next)
              | .ret v => .pure (.done (.ret v))) J' id id) fs s3) (fun _ _ => False) s2) (fun _ _ => False) s1) (fun _ _ => False) s) :
    Seg (model prog w) A R Y n s₀ (.forLoop target it body [] env) ((model prog w).den (.forLoop target it body [] env)) fs s := by
  show Seg _ A R Y n s₀ _ ((forTurn target it body [] env).onRaise (fun x => do noteFrame x env; theTreesLotGoes x)) fs s
  unfold forTurn
  rw [Sem.onRaise_eq_wrap]
  refine seg_bind_wrap (wpAny_standAt ?_)
  refine seg_bind_wrap (wpAny_onRaise (wpAny_mono h (fun r s1 h1 => ?_) fun _ _ z => False.elim z))
  cases r with
  | none => exact h1
  | some v =>
    refine seg_bind_wrap (wpAny_mono h1 (fun _ s2 h2 => ?_) fun _ _ z => False.elim z)
    refine seg_bind_wrap (wpAny_mono h2 (fun _ s3 h3 => ?_) fun _ _ z => False.elim z)
    rw [Sem.bind_eq_wrap', Sem.wrap_wrap]
    have h4 := h3 (fun e => Sem.wrap Sem.pure (fun e => (do noteFrame e env; theTreesLotGoes e : Sem Unit).bind fun _ => .raise e) id id (Sem.raise e))
    refine (congrArg (fun t => Seg (model prog w) A R Y n s₀ (.forLoop target it body [] env) t fs s3) ?_).mp h4
    refine Sem.wrap_congr _ _ _ (fun f => ?_) fun e => rfl
    cases f <;> rfl
theorem seg_block_nil {c' : Code} (h : Seg (model prog w) A R Y n s₀ (.block [] env) (.pure (.done .next)) fs s) : Seg (model prog w) A R Y n s₀ c' (.pure (.again (.block [] env))) fs s := by
  refine seg_again rfl ?_
  show Seg _ A R Y n s₀ _ ((execs [] env).onRaise (fun x => do noteFrame x env; theTreesLotGoes x) >>= fun f => pure (Fin.done f)) fs s
  exact h
end
end NA
set_option maxRecDepth 100000
set_option maxHeartbeats 1000000
/-! The judgement of a generator's statement, and its rules. -/
namespace NA
open PySem PySem.Spec PyProof.Rows L2 GenW
/-- where the generator's code stands -/
structure GC2 (G : GA) (A : Around) (c : Code) (fs : List Frame) (gd : Bool → Bool) : Prop where
  over : A.over c fs = G.A
  split : splitAtGen fs = none
  guard : fs.any Frame.guarded = false
  gd : gd false = false
def GSP2 (G : GA) (s₀ : Shared) (ip : List (Addr × Obj)) (D : GEnds) (ys : List V) (f : Flow) (s : Shared) : Prop :=
  match f with
  | .next => ∃ σ H, Inv (G.at s₀) ip σ H s ∧ D.nx ys σ H
  | .brk => ∃ σ H, Inv (G.at s₀) ip σ H s ∧ D.bk ys σ H
  | .cont => ∃ σ H, Inv (G.at s₀) ip σ H s ∧ D.ct ys σ H
  | .ret u => ∃ v σ H, Inv (G.at s₀) ip σ H s ∧ RelV v u ∧ D.rt ys v H
/-- what follows -/
def GK2 (G : GA) (P : List V → Hp → Prop) (ip : List (Addr × Obj)) (A : Around) (R : GenEnd) (c : Code) (fs : List Frame) (K : Flow → Sem PySem.Fin) (D : GEnds) : Prop :=
  ∀ (n : Nat) (ys : List V) (s₀ s : Shared) (f : Flow), n + ys.length = sizeLine → G.Live s₀ → G.g < s.gens.size → G.Rec ys s₀.heap → (∀ p ∈ ip, ∀ q ∈ G.Dyn s₀.heap, q.1 ≠ p.1) → GSP2 G s₀ ip D ys f s → Seg (model G.prog G.w) A R (G.Y P) n s₀ c (K f) fs s
structure GS2 (G : GA) (P : List V → Hp → Prop) (st : Stmt) (t : TGn) : Prop where
  run : ∀ (A : Around) (ip : List (Addr × Obj)) (R : GenEnd) (n : Nat) (ys : List V) (s₀ : Shared) (c : Code) (fs : List Frame) (K : Flow → Sem PySem.Fin) (J : Value → Sem PySem.Fin) (gd : Bool → Bool) (lv : List Value → List Value) (s : Shared) (σ : L2.St) (H : Hp) (D : GEnds),
    GC2 G A c fs gd → (∀ p ∈ ip, G.hc.objs.size ≤ p.1) → n + ys.length = sizeLine → G.Live s₀ → G.g < s.gens.size → G.Rec ys s₀.heap → (∀ p ∈ ip, ∀ q ∈ G.Dyn s₀.heap, q.1 ≠ p.1) → GK2 G P ip A R c fs K D → Inv (G.at s₀) ip σ H s → t D ys σ H →
    Seg (model G.prog G.w) A R (G.Y P) n s₀ c ((exec st G.env).wrap K J gd lv) fs s
structure GSs2 (G : GA) (P : List V → Hp → Prop) (st : List Stmt) (t : TGn) : Prop where
  run : ∀ (A : Around) (ip : List (Addr × Obj)) (R : GenEnd) (n : Nat) (ys : List V) (s₀ : Shared) (c : Code) (fs : List Frame) (K : Flow → Sem PySem.Fin) (J : Value → Sem PySem.Fin) (gd : Bool → Bool) (lv : List Value → List Value) (s : Shared) (σ : L2.St) (H : Hp) (D : GEnds),
    GC2 G A c fs gd → (∀ p ∈ ip, G.hc.objs.size ≤ p.1) → n + ys.length = sizeLine → G.Live s₀ → G.g < s.gens.size → G.Rec ys s₀.heap → (∀ p ∈ ip, ∀ q ∈ G.Dyn s₀.heap, q.1 ≠ p.1) → GK2 G P ip A R c fs K D → Inv (G.at s₀) ip σ H s → t D ys σ H →
    Seg (model G.prog G.w) A R (G.Y P) n s₀ c ((execs st G.env).wrap K J gd lv) fs s
section
variable {G : GA} {P : List V → Hp → Prop} {st : Stmt} {rest : List Stmt}
theorem sp_gsp2 {s₀ : Shared} {ip : List (Addr × Obj)} {s : Shared} {D : GEnds} {ys : List V} {f : Flow} (h : SP (G.at s₀) ip (D.at ys) f s) : GSP2 G s₀ ip D ys f s := by
  cases f with
  | next => exact h
  | brk => exact h
  | cont => exact h
  | ret u => exact h
/-- a statement that hands out nothing -/
theorem gs2_ps {t : TS} (h : ∀ s₀, PS (G.at s₀) st t) : GS2 G P st (tPlain t) := by
  refine ⟨fun A ip R n ys s₀ c fs K J gd lv s σ H D g hip hn L hg hrc hsp k I ht => ?_⟩
  refine seg_wrap ?_
  rw [g.over]
  exact wpAny_gsz (n := G.g + 1) hg (wpAny_mono ((h s₀).run _ s σ H (D.at ys) I ht) (fun f s' hs hz => k n ys s₀ s' f hn L hz hrc hsp (sp_gsp2 hs)) fun x s' hx => False.elim hx)
theorem gss2_nil : GSs2 G P [] tG0 := by
  refine ⟨fun A ip R n ys s₀ c fs K J gd lv s σ H D g hip hn L hg hrc hsp k I ht => ?_⟩
  exact seg_execs_nil (k n ys s₀ s .next hn L hg hrc hsp ⟨σ, H, I, ht⟩)
theorem gss2_cons {t u : TGn} (a : GS2 G P st t) (b : GSs2 G P rest u) : GSs2 G P (st :: rest) (tGThen t u) := by
  refine ⟨fun A ip R n ys s₀ c fs K J gd lv s σ H D g hip hn L hg hrc hsp k I ht => ?_⟩
  refine seg_execs_cons ?_
  refine a.run A ip R n ys s₀ c fs _ J gd lv s σ H { D with nx := fun ys' σ' H' => u D ys' σ' H' } g hip hn L hg hrc hsp (fun n' ys' s₀' s' f hn' L' hg' hrc' hsp' hs => ?_) I ht
  cases f with
  | next =>
    obtain ⟨σ', H', I', q⟩ := hs
    exact b.run A ip R n' ys' s₀' c fs K J gd lv s' σ' H' D g hip hn' L' hg' hrc' hsp' k I' q
  | brk => exact k n' ys' s₀' s' .brk hn' L' hg' hrc' hsp' hs
  | cont => exact k n' ys' s₀' s' .cont hn' L' hg' hrc' hsp' hs
  | ret u => exact k n' ys' s₀' s' (.ret u) hn' L' hg' hrc' hsp' hs
theorem gss2_one {t : TGn} (a : GS2 G P st t) : GSs2 G P [st] t := by
  refine ⟨fun A ip R n ys s₀ c fs K J gd lv s σ H D g hip hn L hg hrc hsp k I ht => ?_⟩
  refine seg_execs_cons ?_
  refine a.run A ip R n ys s₀ c fs _ J gd lv s σ H D g hip hn L hg hrc hsp (fun n' ys' s₀' s' f hn' L' hg' hrc' hsp' hs => ?_) I ht
  cases f with
  | next => exact seg_execs_nil (k n' ys' s₀' s' .next hn' L' hg' hrc' hsp' hs)
  | brk => exact k n' ys' s₀' s' .brk hn' L' hg' hrc' hsp' hs
  | cont => exact k n' ys' s₀' s' .cont hn' L' hg' hrc' hsp' hs
  | ret u => exact k n' ys' s₀' s' (.ret u) hn' L' hg' hrc' hsp' hs
/-- if -/
def tGIf (tc : TT) (a b : TGn) : TGn := fun D ys σ H => tc σ H fun k H1 => if k = true then a D ys σ H1 else b D ys σ H1
theorem gs2_if {c : Expr} {a b : List Stmt} {pos : Pos} {tc : TT} {ta tb : TGn} (hc : ∀ s₀, PT (G.at s₀) c tc) (ha : GSs2 G P a ta) (hb : GSs2 G P b tb) : GS2 G P (.If c a b pos) (tGIf tc ta tb) := by
  refine ⟨fun A ip R n ys s₀ c fs K J gd lv s σ H D g hip hn L hg hrc hsp k I ht => ?_⟩
  refine seg_If ?_
  rw [g.over]
  refine wpAny_gsz (n := G.g + 1) hg (wpAny_mono ((hc s₀).run _ s σ H _ I ht) (fun d s' ⟨H1, I1, q⟩ hz => ?_) fun x s' hx => False.elim hx)
  cases d with
  | true =>
    rw [if_pos rfl]
    exact ha.run A ip R n ys s₀ _ fs K J gd lv s' σ H1 D g hip hn L hz hrc hsp k I1 q
  | false =>
    rw [if_neg Bool.false_ne_true]
    exact hb.run A ip R n ys s₀ _ fs K J gd lv s' σ H1 D g hip hn L hz hrc hsp k I1 q
/-- yield -/
def tGYield2 (P : List V → Hp → Prop) (te : TE) : TGn := fun D ys σ H => ys.length < sizeLine ∧ te σ H fun x H1 => P (ys ++ [x]) H1 ∧ D.nx (ys ++ [x]) σ H1
theorem gs2_yield {e : Expr} {yp pos : Pos} {te : TE} (O : G.Ok) (he : ∀ s₀, PE (G.at s₀) e te) (hco : G.env.scope.isCoroutine = false := by rfl) (hi : interactive G.env = false := by rfl) : GS2 G P (.Expr (.Yield (some e) yp) pos) (tGYield2 P te) := by
  refine ⟨fun A ip R n ys s₀ c fs K J gd lv s σ H D g hip hn L hg hrc hsp k I ht => ?_⟩
  obtain ⟨hlt, ht⟩ := ht
  obtain ⟨n, rfl⟩ : ∃ m, n = m + 1 := ⟨n - 1, by omega⟩
  refine seg_Expr_Yield g.split g.gd g.guard ?_ hco hi
  rw [g.over]
  refine wpAny_gsz (n := G.g + 1) hg (wpAny_mono ((he s₀).run _ s σ H _ I ht) (fun v s' hv hz => ?_) fun x s' hx => False.elim hx)
  obtain ⟨x, H1, I1, rv, hP, q⟩ := hv
  intro kap hk
  refine ⟨ys, x, ip, σ, H1, hn, rv, I1, hP, hrc, fun s'' z zr zd => hk .none s'' ?_⟩
  refine k n (ys ++ [x]) s'' s'' .next ?_ (live_rely O (live_run O L I1) z) (Nat.lt_of_lt_of_le hz z.gsz) zr (fun p hp r hr => ?_) ⟨σ, H1, woken O L I1 hip z zd, q⟩
  · rw [List.length_append, List.length_singleton]; omega
  · rcases zd r hr with y | y
    · exact hsp p hp r y
    · exact Nat.ne_of_gt (Nat.lt_of_lt_of_le (Heap.lt_size (I1.pin p (List.mem_append_right _ hp)).1) y)
end
end NA
set_option maxRecDepth 100000
set_option maxHeartbeats 1000000
/-! for within a generator's body. -/
namespace NA
open PySem PySem.Spec PyProof.Rows L2 GenW
section
variable {G : GA} {P : List V → Hp → Prop} {tg iter : Expr} {body : List Stmt} {pos : Pos}
def tGFor (wi : TI) (g : TG) (tb : TGn) : TGn := fun D ys σ H => wi σ H fun J H1 => ∃ W : Nat → Nat → List V → L2.St → Hp → Prop, (∃ m, W 0 m ys σ H1) ∧ ∀ i m ys σ H, W i m ys σ H →
  (J.stop i H ∧ D.nx ys σ H) ∨ (J.go i H ∧ ∃ N : List V → L2.St → Hp → Prop, (∀ ys' σ' H', N ys' σ' H' → ∃ m', m' < m ∧ W (i + 1) m' ys' σ' H') ∧
    ∀ x H', J.yld i H x H' → g x σ H' fun σ2 H2 => tb { D with nx := N, ct := N, bk := D.nx } ys σ2 H2)
theorem gc2_loop {A : Around} {c c' : Code} {fs : List Frame} {gd : Bool → Bool} {k : Result → Sem PySem.Fin} {l kp : List Value} {p : Pos} (g : GC2 G A c fs gd) (hw : c'.weight = 0) (hu : c'.cUnits = 0) :
    GC2 G A c' (.ret k none (gd false) l c p kp :: fs) id where
  over := (over_loop hw hu).trans g.over
  split := by
    show (splitAtGen fs).map _ = none
    rw [g.split]; rfl
  guard := by
    show (gd false || fs.any Frame.guarded) = false
    rw [g.gd, g.guard]; rfl
  gd := rfl
theorem fpOk_at {s₀ s₀' : Shared} {ip : List (Addr × Obj)} {H H' : Hp} {b : Addr} (L : G.Live s₀) (L' : G.Live s₀') (h : FpOk (G.at s₀) ip H b) (hn : H' b = none) (hd : ∀ q ∈ G.Dyn s₀'.heap, q.1 ≠ b) : FpOk (G.at s₀') ip H' b := by
  obtain ⟨h1, h2, h3, h4, h5, h6⟩ := h
  refine ⟨hn, h2, h3, .inr ?_, h5, fun p hp => ?_⟩
  rotate_left
  · rcases List.mem_append.mp hp with z | z
    · rcases List.mem_append.mp z with z | z
      · exact h6 p (List.mem_append_left _ (List.mem_append_left _ z))
      · exact hd p z
    · exact h6 p (List.mem_append_right _ z)
  rcases h4 with z | z
  · exact absurd (show b ∈ ([] : List Addr) from z) (by simp)
  · have z' : (cut G.hc s₀.heap).objs.size ≤ b := z
    show (cut G.hc s₀'.heap).objs.size ≤ b
    rw [cut_size L.size] at z'
    rw [cut_size L'.size]
    exact z'
theorem fpOk_ge {s₀ : Shared} {ip : List (Addr × Obj)} {H : Hp} {b : Addr} (L : G.Live s₀) (h : FpOk (G.at s₀) ip H b) : G.hc.objs.size ≤ b := by
  obtain ⟨h1, h2, h3, h4, h5, h6⟩ := h
  rcases h4 with z | z
  · exact absurd (show b ∈ ([] : List Addr) from z) (by simp)
  · have z' : (cut G.hc s₀.heap).objs.size ≤ b := z
    rw [cut_size L.size] at z'
    exact z'
theorem gs2_for {wi : TI} {g : TG} {tb : TGn} (hi : ∀ s₀, PI (G.at s₀) tg iter wi) (hg : ∀ s₀, PG (G.at s₀) tg g) (hb : GSs2 G P body tb)
    (hs : ∀ x, foldedSetIterable iter G.env x = pure x := by intro _; rfl) : GS2 G P (.For tg iter body [] pos) (tGFor wi g tb) := by
  refine ⟨fun A ip R n ys s₀ c fs K J gd lv s σ H D g0 hip hn L hgg hrc hsp k I ht => ?_⟩
  refine seg_For ?_ hs
  rw [g0.over]
  refine wpAny_gsz (n := G.g + 1) hgg (wpAny_mono ((hi s₀).run _ s σ H _ I ht) (fun v s1 h1 hz1 => ?_) fun _ _ z => False.elim z)
  refine wpAny_gsz (n := G.g + 1) hz1 (wpAny_mono h1 (fun itv s2 h2 hz2 => ?_) fun _ _ z => False.elim z)
  obtain ⟨it, fp, tn, J', H2, e, I2, T, st2, f2, W, ⟨m0, w0⟩, turn⟩ := h2
  subst e
  intro kk p hk
  have gl := gc2_loop (k := kk) (c' := .forLoop tg (.ref it) body [] G.env) (l := lv []) (kp := []) (p := p) g0 rfl rfl
  have ge : ∀ b ∈ fp, G.hc.objs.size ≤ b := fun b hb => fpOk_ge L (f2 b hb)
  have loop : ∀ (m i n : Nat) (ys : List V) (s₁ s : Shared) (σ : L2.St) (H : Hp), n + ys.length = sizeLine → G.Live s₁ → G.g < s.gens.size → G.Rec ys s₁.heap → (∀ p ∈ ip, ∀ q ∈ G.Dyn s₁.heap, q.1 ≠ p.1) → (∀ b ∈ fp, ∀ q ∈ G.Dyn s₁.heap, q.1 ≠ b) → W i m ys σ H → Inv (G.at s₁) ip σ H s → tn i s.heap → (∀ b ∈ fp, H b = none) →
      Seg (model G.prog G.w) A R (G.Y P) n s₁ (.forLoop tg (.ref it) body [] G.env) ((model G.prog G.w).den (.forLoop tg (.ref it) body [] G.env)) (.ret kk none (gd false) (lv []) c p [] :: fs) s := by
    intro m
    induction m using Nat.strongRecOn with
    | ind m ih =>
      intro i n ys s₁ s σ H hn L1 hg1 hrc1 hsp1 hsf1 w I st fr
      have stat : ∀ {H' : Hp}, (∀ b ∈ fp, H' b = none) → ∀ b ∈ fp, FpOk (G.at s₁) ip H' b := fun hn b hb => fpOk_at L L1 (f2 b hb) (hn b hb) (hsf1 b hb)
      refine seg_forLoop ?_
      rw [gl.over]
      rcases turn i m ys σ H w with ⟨stop, qn⟩ | ⟨go, N, hN, step⟩
      · refine wpAny_gsz (n := G.g + 1) hg1 (wpAny_mono (T.done (G.at s₁) rfl rfl rfl rfl i ip s σ H (fun _ _ => False) I (stat fr) st stop) (fun r s4 ⟨hr, I4⟩ hz4 => ?_) fun _ _ z => False.elim z)
        subst hr
        refine seg_block_nil ?_
        exact seg_leaf (.ok .next) (hk .next s4 n s₁ (k n ys s₁ s4 .next hn L1 hz4 hrc1 hsp1 ⟨σ, H, I4, qn⟩))
      · refine wpAny_gsz (n := G.g + 1) hg1 (wpAny_mono (T.item (G.at s₁) rfl rfl rfl rfl i ip s σ H (fun _ _ => False) I (stat fr) st go) (fun r s4 ⟨u, hr, h4⟩ hz4 => ?_) fun _ _ z => False.elim z)
        subst hr
        refine wpAny_gsz (n := G.g + 1) hz4 (wpAny_mono h4 (fun _ s5 ⟨x, H5, I5, r5, y5, st5, fr5⟩ hz5 => ?_) fun _ _ z => False.elim z)
        have I5' := I5.pinned (stat fr5) (T.obj _ _ st5)
        refine wpAny_gsz (n := G.g + 1) hz5 (wpAny_mono ((hg s₁).run _ s5 σ H5 x u _ I5' r5 (step x H5 y5)) (fun _ s6 ⟨σ6, H6, I6, q6⟩ hz6 => ?_) fun _ _ z => False.elim z)
        intro J2
        refine hb.run A (ip ++ pinsAt fp s5.heap) R n ys s₁ _ _ _ J2 id id s6 σ6 H6 _ gl (fun p hp => ?_) hn L1 hz6 hrc1 (fun p hp q hq => ?_) (fun n' ys' s₂ s7 f hn' L9 hz7 hrc7 hsp7 hs => ?_) I6 q6
        · rcases List.mem_append.mp hp with z | z
          · exact hip p z
          · exact ge _ (of_pinsAt z).1
        · rcases List.mem_append.mp hp with z | z
          · exact hsp1 p z q hq
          · exact hsf1 _ (of_pinsAt z).1 q hq
        have hspI : ∀ p ∈ ip, ∀ q ∈ G.Dyn s₂.heap, q.1 ≠ p.1 := fun p hp => hsp7 p (List.mem_append_left _ hp)
        have hsfI : ∀ b ∈ fp, ∀ q ∈ G.Dyn s₂.heap, q.1 ≠ b := fun b hb => by
          obtain ⟨o, e, d⟩ := T.obj _ _ st5 b hb
          exact hsp7 (b, o) (List.mem_append_right _ (mem_pinsAt hb e))
        have again : ∀ {σ7 : L2.St} {H7 : Hp}, Inv (G.at s₂) (ip ++ pinsAt fp s5.heap) σ7 H7 s7 → N ys' σ7 H7 →
            Seg (model G.prog G.w) A R (G.Y P) n' s₂ (.forLoop tg (.ref it) body [] G.env) (.pure (.again (.forLoop tg (.ref it) body [] G.env))) (.ret kk none (gd false) (lv []) c p [] :: fs) s7 := fun {σ7 H7} I7 n7 => by
          obtain ⟨m', hm, w7⟩ := hN ys' σ7 H7 n7
          refine seg_again rfl (ih m' hm (i + 1) n' ys' s₂ s7 σ7 H7 hn' L9 hz7 hrc7 hspI hsfI w7 I7.unpinned (T.keep _ _ _ st5 fun b hb o e => (I7.pin (b, o) (List.mem_append_right _ (List.mem_append_right _ (mem_pinsAt hb e)))).1) fun b hb => ?_)
          obtain ⟨o, e, d⟩ := T.obj _ _ st5 b hb
          exact (I7.pin (b, o) (List.mem_append_right _ (List.mem_append_right _ (mem_pinsAt hb e)))).2.1
        cases f with
        | next => obtain ⟨σ7, H7, I7, n7⟩ := hs; exact again I7 n7
        | cont => obtain ⟨σ7, H7, I7, n7⟩ := hs; exact again I7 n7
        | brk =>
          obtain ⟨σ7, H7, I7, q7⟩ := hs
          exact seg_leaf (.ok .next) (hk .next s7 n' s₂ (k n' ys' s₂ s7 .next hn' L9 hz7 hrc7 hspI ⟨σ7, H7, I7.unpinned, q7⟩))
        | ret v =>
          obtain ⟨x7, σ7, H7, I7, r7, q7⟩ := hs
          exact seg_leaf (.ok (.ret v)) (hk (.ret v) s7 n' s₂ (k n' ys' s₂ s7 (.ret v) hn' L9 hz7 hrc7 hspI ⟨x7, σ7, H7, I7.unpinned, r7, q7⟩))
  exact loop m0 0 n ys s₀ s2 σ H2 hn L hz2 hrc hsp (fun b hb q hq => (f2 b hb).2.2.2.2.2 q (List.mem_append_left _ (List.mem_append_right _ hq))) w0 I2 st2 fun b hb => (f2 b hb).1
end
end NA
set_option maxRecDepth 100000
set_option maxHeartbeats 1000000
/-! A generator def is called; its generator is woken. -/
namespace NA
open PySem PySem.Spec PyProof.Rows L2 GenW
/-- an activation made by the call at s -/
structure GA.Of (G : GA) (P : Program) (w : World) (base : Heap) (outer : List Env) (A : Around) (hc : Heap) (Hs : Hp) (M : List Addr) (a : Addr) (g : Nat) (Rec : List V → Heap → Prop) (Dyn : Heap → List (Addr × Obj)) (prot : Nat → Nat → Prop) : Prop where
  prog : G.prog = P
  w : G.w = w
  base : G.base = base
  outer : G.outer = outer
  hc : G.hc = hc
  Hs : G.Hs = Hs
  M : G.M = M
  gi : G.g = g
  rc : G.Rec = Rec
  dy : G.Dyn = Dyn
  pr : G.prot = prot g
  ok : G.Ok
  gen : ∀ h : Heap, (∀ p ∈ G.pn, h.get? p.1 = some p.2) → h.IsGen a g
/-- what a call of a generator def gives -/
def GMade2 (P : Program) (w : World) (base : Heap) (k : Nat) (outer : List Env) (s : Shared) (Hs : Hp) (M : List Addr) (PI PN : List V → Hp → Prop) (Rec : List V → Heap → Prop) (Dyn : Heap → List (Addr × Obj)) (prot : Nat → Nat → Prop) (u : Value) (s' : Shared) : Prop :=
  ∃ (a : Addr) (g : Nat) (c : Code), u = .ref a ∧ s.heap.objs.size ≤ a ∧ a < s'.heap.objs.size ∧ s'.heap.IsGen a g ∧ s'.gens[g]? = some (.fresh c) ∧ s'.os = s.os ∧ AllBare s'.gens ∧ s'.heap.NoLimit ∧ (∀ b o, s.heap.get? b = some o → s'.heap.get? b = some o) ∧
    s.gens.size ≤ g ∧ (∀ (j : Nat) (x : GenState), s.gens[j]? = some x → s'.gens[j]? = some x) ∧ s.heap.objs.size ≤ s'.heap.objs.size ∧
    ∀ (A : Around), Room k A → A.frames = some outer → ∃ G : GA, G.Of P w base outer A s.heap Hs M a g Rec Dyn prot ∧ ∀ s2 : Shared, G.Rely s' s2 → Rec [] s2.heap → (∀ q ∈ Dyn s2.heap, s'.heap.objs.size ≤ q.1) → G.Live s2 ∧ Seg (model P w) A (G.R PN) (G.Y PI) sizeLine s2 c ((model P w).den c) [] s2
/-- THE RULE: a generator def, by its body -/
theorem gen_call {P : Program} {w : World} {K : PySem.W.Frag} {mg : Str → Option Value} {base : Heap} {k : Nat} {f : Addr} {name qual : Str} {params : Arguments} {body : List Stmt} {scope : Scope} {dV kV doc pm cdv ct oc : Value} {an od : Option Addr}
    {osl : Array (Option Value)} {N ps : List Str} (lk : K.lookup f = some ⟨oc, od, .func (PySem.W.fnOf name qual params body scope dV kV doc pm an cdv ct), osl⟩) (hcd : PySem.W.codeIn K cdv qual = true) (S : GScope N ps scope)
    {A : Around} {outer : List Env} {s : Shared} {Hs H1 : Hp} {args : Args} {us : List Value} {vs : List V} {M : List Addr} {PI PN : List V → Hp → Prop} {Rec : List V → Heap → Prop} {Dyn : Heap → List (Addr × Obj)} (hdy : ∀ h, ∀ p ∈ Dyn h, h.get? p.1 = some p.2 ∧ s.heap.objs.size ≤ p.1 ∧ ∀ v, p.2.data ≠ .cell v) {prot : Nat → Nat → Prop} (hr : Room (k + 1) A) (e0 : Env0 P w K mg base A outer s H1)
    (hb : BindsTo s (PySem.W.fnOf name qual params body scope dV kV doc pm an cdv ct) args (ps.zip us)) (r : Vals vs us) (hl : vs.length = ps.length)
    (hok : HOk P w Hs s.heap) (hs : ∀ b u, Hs b = some u → (∃ o v, u = .frz o v) ∨ ∃ xs, u = .tup xs) (hsub : ∀ b, H1 b = none → Hs b = none)
    (hM : ∀ b ∈ M, (∃ o, s.heap.get? b = some o) ∧ Hs b = none ∧ base.get? b = none)
    (hbody : ∀ G : GA, G.Ok → G.prog = P → G.w = w → G.K = K → G.mg = mg → G.base = base → G.N = N → G.Hs = Hs → G.M = M → G.Rec = Rec → G.Dyn = Dyn → G.prot = prot G.g → G.outer = outer → (∃ L, G.env = envOfC qual scope L f cdv) → Room k G.A →
      ∃ t, GSs2 G PI body t ∧ t { nx := fun ys _ H' => PN ys H', rt := fun ys v H' => v = .non ∧ PN ys H' } [] (start N vs) Hs) :
    codeAny (model P w) A (.call (.ref f) args) (fun r s' => match r with | .ok (.ret u) => GMade2 P w base (k + 1) outer s Hs M PI PN Rec Dyn prot u s' | _ => False) s := by
  have KX : K.In s.heap := e0.mod.kin.keeps fun b o e => (e0.bs b o e).1
  have lim : s.heap.NoLimit := e0.mod.nolimit.keeps fun b o e => (e0.bs b o e).1
  have hkind : ∀ y ∈ ps.zip us, scope.names.lookup y.1 = some .local ∨ (scope.names.lookup y.1 = some .cell ∧ ((cellsFrom (s.heap.objs.size + 1) scope.names []).lookup y.1).isSome = true) := fun ⟨n, v⟩ hy => by
    rcases S.par n (List.of_mem_zip hy).1 with q | q
    · exact .inl q
    · exact .inr ⟨q, PySem.W.cellsFrom_some _ _ _ (.inl q)⟩
  refine codeAny_call_generator hr.depth (KX _ _ lk) rfl S.co S.gen rfl (PySem.W.codeRec_of KX hcd) (hb _ _ _ _ ?_)
  refine wpAny_newFunctionEnv_cells S.kind hkind fun env he s1 x => ?_
  subst he
  have lim1 : s1.heap.NoLimit := lim.keeps x.toInCall.keep
  refine ⟨lim1, ?_⟩
  obtain ⟨h1, tk, es1, hk1⟩ := x.done
  have os1 : s1.os = s.os := by rw [es1]
  have gen1 : s1.gens = s.gens := by rw [es1]
  have lt1 : s.heap.objs.size < s1.heap.objs.size := x.toInCall.ns.lt
  have sz1 : s.heap.objs.size ≤ s1.heap.objs.size := Nat.le_of_lt lt1
  have kp1 : ∀ b o, s.heap.get? b = some o → s1.heap.get? b = some o := x.toInCall.keep
  have main : ∀ (go : Obj) (nm qn : Value) (tk2 : Nat), go.cls = .type "generator" → go.data = .fields #[.int s1.gens.size 0, nm, qn] → go.slots = #[] → (∀ h : Heap, (h.push go).get? h.objs.size = some go) →
      GMade2 P w base (k + 1) outer s Hs M PI PN Rec Dyn prot (.ref s1.heap.objs.size) { s1 with gens := s1.gens.push (.fresh (.func body (envOfC qual scope s.heap.objs.size f cdv))), toks := tk2, heap := s1.heap.push go } := by
    intro go nm qn tk2 hgc hgd0 hgs hgp
    have hgen : ∀ h : Heap, h.get? s1.heap.objs.size = some go → h.IsGen s1.heap.objs.size s1.gens.size := fun h e => ⟨go, nm, qn, e, hgc, hgd0, hgs⟩
    have hpushed : (s1.heap.push go).get? s1.heap.objs.size = some go := hgp _
    have ksz : s1.heap.objs.size < (s1.heap.push go).objs.size := by rw [Heap.size_push]; exact Nat.lt_succ_self _
    refine ⟨s1.heap.objs.size, s1.gens.size, _, rfl, sz1, ksz, hgen _ hpushed, Array.getElem?_push_size .., os1, ?_, lim1.keeps fun b o e => Heap.get?_push_of_some _ e, fun b o e => Heap.get?_push_of_some _ (kp1 b o e), by rw [gen1]; exact Nat.le_refl _, fun j y e => ?_, Nat.le_trans sz1 (Nat.le_of_lt ksz), ?_⟩
    · exact AllBare.push (by rw [gen1]; exact e0.bare) rfl
    · show (s1.gens.push _)[j]? = some y
      rw [gen1]
      have hj : j < s.gens.size := (Array.getElem?_eq_some_iff.mp e).1
      rw [Array.getElem?_push, if_neg (Nat.ne_of_lt hj)]
      exact e
    intro Aw hrw hfr
    have e0w : Env0 P w K mg base Aw outer s Hs := ⟨hfr, e0.mod, fun b o e => ⟨(e0.bs b o e).1, hsub b (e0.bs b o e).2⟩, e0.bsz, e0.funs, fun b hb => hsub b (e0.frf b hb), hok, e0.bare⟩
    have I1 : Inv (gcxOf P w K mg base N qual scope f cdv Aw outer s Hs (fun _ _ _ => False) []) [] (start N vs) Hs s1 := inv_startG S hrw.hd e0w hl r x
    have O : GA.Ok { prog := P, w := w, K := K, mg := mg, base := base, A := Aw.deeper (envOfC qual scope s.heap.objs.size f cdv), N := N, env := envOfC qual scope s.heap.objs.size f cdv, outer := outer, pn := [(s1.heap.objs.size, go)], hc := s.heap, Hs := Hs, M := M, g := s1.gens.size, prot := prot s1.gens.size, Rec := Rec, Dyn := Dyn } :=
      { mod := e0.mod, kind := S.kind, glob := rfl, blt := rfl, above := Nat.le_refl _, inj := I1.ok.inj, has := I1.ok.has, cab := fun x c e => I1.ok.cab x c rfl e, hd := hrw.hd, frames := Around.frames_deeper hfr, frm := rfl,
        bs := e0w.bs, funs := e0.funs, frf := e0w.frf, hs := hs, hsa := fun b u e => objOk_get (hok b u e), m := hM, pnc := fun p hp => by rw [List.mem_singleton.mp hp]; exact sz1, bsz := e0.bsz, dyn := hdy }
    refine ⟨_, ⟨rfl, rfl, rfl, rfl, rfl, rfl, rfl, rfl, rfl, rfl, rfl, O, fun h hp => hgen h (hp (s1.heap.objs.size, go) (List.mem_singleton.mpr rfl))⟩, fun s2 ry hrc hdq => ?_⟩
    have L1 : GA.Live { prog := P, w := w, K := K, mg := mg, base := base, A := Aw.deeper (envOfC qual scope s.heap.objs.size f cdv), N := N, env := envOfC qual scope s.heap.objs.size f cdv, outer := outer, pn := [(s1.heap.objs.size, go)], hc := s.heap, Hs := Hs, M := M, g := s1.gens.size, prot := prot s1.gens.size, Rec := Rec, Dyn := Dyn }
        { s1 with gens := s1.gens.push (.fresh (.func body (envOfC qual scope s.heap.objs.size f cdv))), toks := tk2, heap := s1.heap.push go } :=
      ⟨fun b o e => ⟨o, Heap.get?_push_of_some _ (kp1 b o e)⟩, fun b o e => Heap.get?_push_of_some _ (kp1 b o (e0.bs b o e).1), FunFrames_at (fun b hb o e => Heap.get?_push_of_some _ (kp1 b o e)) e0.funs, Nat.le_trans sz1 (Nat.le_of_lt ksz)⟩
    have L2 := live_rely O L1 ry
    refine ⟨L2, ?_⟩
    obtain ⟨t, ht, hq⟩ := hbody _ O rfl rfl rfl rfl rfl rfl rfl rfl rfl rfl rfl rfl ⟨_, rfl⟩ (hrw.deeper _)
    -- its own things: the frame, the cells, the generator's object
    have keep2 : ∀ b o, s.heap.objs.size ≤ b → s1.heap.get? b = some o → s2.heap.get? b = some o := fun b o hb e =>
      ry.keep b o (fun hm => by
        obtain ⟨⟨u, hu⟩, _⟩ := hM b hm
        exact absurd (Nat.lt_of_lt_of_le (Heap.lt_size hu) hb) (Nat.lt_irrefl _)) (Heap.get?_push_of_some _ e)
    have goAt : s2.heap.get? s1.heap.objs.size = some go := ry.keep _ _ (fun hm => by
        obtain ⟨⟨u, hu⟩, _⟩ := hM _ hm
        exact absurd (Nat.lt_of_lt_of_le (Heap.lt_size hu) sz1) (Nat.lt_irrefl _)) hpushed
    have nM : ∀ b u, Hs b = some u → b ∉ M := fun b u e hm => by
      rw [(hM b hm).2.1] at e
      cases e
    have hgd : ∀ v, go.data ≠ .cell v := fun v q => by rw [hgd0] at q; cases q
    have I2 : Inv (GA.at { prog := P, w := w, K := K, mg := mg, base := base, A := Aw.deeper (envOfC qual scope s.heap.objs.size f cdv), N := N, env := envOfC qual scope s.heap.objs.size f cdv, outer := outer, pn := [(s1.heap.objs.size, go)], hc := s.heap, Hs := Hs, M := M, g := s1.gens.size, prot := prot s1.gens.size, Rec := Rec, Dyn := Dyn } s2) [] (start N vs) Hs s2 := by
      refine ⟨GA.at_ok O L2, rfl, ry.bare, ⟨fun b o e n hb _ => (of_cut e).2, fun b o e n hb _ => ⟨o.slots, (of_cut e).2⟩, fun b o e n _ => n, fun b o e _ => ⟨o, (of_cut e).2⟩, fun b xs e => e, fun b o u e => e, fun b ps e => ?_⟩, ?_, fun x c e => ?_, I1.free, I1.freeC, fun p hp => ?_, fun b u e => ?_, I1.len⟩
      · rcases hs b _ e with ⟨o2, v, z⟩ | ⟨xs, z⟩ <;> cases z
      · obtain ⟨m, ⟨o, es, ep, ho, hr'⟩, hl'⟩ := I1.loc
        refine ⟨m, ⟨o, es, ep, keep2 _ _ (Nat.le_refl _) ho, hr'⟩, fun i x v e1 e2 e3 => ?_⟩
        obtain ⟨u, ru, l⟩ := hl' i x v e1 e2 e3
        refine ⟨u, ru, ?_⟩
        rcases l with l | ⟨kk, c, hc, oc, hoc, hd⟩
        · exact .inl l
        · exact .inr ⟨kk, c, hc, oc, keep2 _ _ (I1.ok.cab x c rfl hc) hoc, hd⟩
      · obtain ⟨v, oc, hoc, hd⟩ := I1.cell x c e
        exact ⟨v, oc, keep2 _ _ (I1.ok.cab x c rfl e) hoc, hd⟩
      · have hp' : p = (s1.heap.objs.size, go) ∨ p ∈ Dyn s2.heap := by
          rcases List.mem_append.mp hp with z | z
          · rcases List.mem_append.mp z with z | z
            · exact .inl (List.mem_singleton.mp z)
            · exact .inr z
          · simp at z
        rcases hp' with hp' | hp'
        · rw [hp']
          exact ⟨goAt, I1.hok.fresh (Nat.le_refl _), Nat.ne_of_gt lt1, I1.nofs (Nat.le_refl _), hgd⟩
        · obtain ⟨g1, g2, g3⟩ := hdy _ p hp'
          have g4 : s1.heap.objs.size ≤ p.1 := Nat.le_trans (Nat.le_of_lt ksz) (hdq p hp')
          exact ⟨g1, I1.hok.fresh g4, Nat.ne_of_gt (Nat.lt_of_lt_of_le lt1 g4), I1.nofs g4, g3⟩
      · refine (hok b u e).stay (fun c o hc q => ?_) (fun _ q => q) fun _ _ q => q
        refine ry.keep c o ?_ (Heap.get?_push_of_some _ (kp1 c o q))
        rcases hc with rfl | hc
        · exact nM _ _ e
        · exact nM _ _ hc
    refine seg_func ?_
    refine ht.run Aw [] _ sizeLine [] s2 _ [] _ _ id id s2 (start N vs) Hs _ ⟨over_func, rfl, rfl, rfl⟩ (fun p hp => by simp at hp) (Nat.add_zero _) L2 ?_ hrc (fun p hp => by simp at hp) (fun n ys s₀ s' fl hn L' hg' hrc' hsp' hs' => ?_) I2 hq
    · refine Nat.lt_of_lt_of_le ?_ ry.gsz
      show s1.gens.size < (s1.gens.push _).size
      rw [Array.size_push]
      exact Nat.lt_succ_self _
    cases fl with
    | next =>
      obtain ⟨σ', H', hI, hQ⟩ := hs'
      exact seg_end (.ok (.ret .none)) (.inl ⟨.inl rfl, ys, [], σ', H', hn, hI, hQ, hrc'⟩)
    | brk => obtain ⟨_, _, _, q⟩ := hs'; exact False.elim q
    | cont => obtain ⟨_, _, _, q⟩ := hs'; exact False.elim q
    | ret u =>
      obtain ⟨v, σ', H', hI, rv, ev, hQ⟩ := hs'
      subst ev
      have eu : u = Value.none := rv
      subst eu
      exact seg_end (.ok (.ret .none)) (.inl ⟨.inl rfl, ys, [], σ', H', hn, hI, hQ, hrc'⟩)
  exact main _ _ _ _ rfl rfl rfl fun h => Heap.get?_push_size _ rfl
end NA
set_option maxRecDepth 100000
set_option maxHeartbeats 1000000
/-! next of such a generator. -/
namespace NA
open PySem PySem.Spec PyProof.Rows L2 GenW
section
variable {P : Program} {w : World} {base : Heap} {outer : List Env} {hc : Heap} {Hs : Hp} {M : List Addr} {a : Addr} {g n : Nat} {gs : GenState} {A : Around} {E : Value → Shared → Prop} {s : Shared} {G : GA} {PI PN : List V → Hp → Prop} {Q : Option Value → Shared → Prop} {ys0 : List V} {Rec : List V → Heap → Prop} {Dyn : Heap → List (Addr × Obj)} {prot : Nat → Nat → Prop} {D0 : Addr × Obj → Prop} {z : Nat}
/-- asleep, ys is out, n items are still allowed -/
def Asleep (P : Program) (w : World) (A : Around) (G : GA) (PI PN : List V → Hp → Prop) (g n : Nat) (ys : List V) (D0 : Addr × Obj → Prop) (z : Nat) (s : Shared) : Prop :=
  ∃ gs, s.gens[g]? = some gs ∧ ∀ s', G.Rely s s' → G.Rec ys s'.heap → (∀ q ∈ G.Dyn s'.heap, D0 q ∨ z ≤ q.1) → G.Live s' ∧ gs.Goes (model P w) A (G.R PN) (G.Y PI) n (.send .none) s'
/-- an item came -/
def Item (P : Program) (w : World) (A : Around) (G : GA) (PI PN : List V → Hp → Prop) (g n : Nat) (s₀ : Shared) (v : Value) (s1 : Shared) : Prop :=
  ∃ ys x ip σ H s' gs', s1 = s'.setGen g gs' ∧ gs'.bare = true ∧ RelV x v ∧ G.Live (s₀.setGen g .running) ∧ Inv (G.at (s₀.setGen g .running)) ip σ H s' ∧ PI (ys ++ [x]) H ∧ n - 1 + 1 + ys.length = sizeLine ∧ g < s'.gens.size ∧ G.Rec ys s₀.heap ∧
    ∀ m, n = m + 1 → ∀ s'', G.Rely s' s'' → G.Rec (ys ++ [x]) s''.heap → (∀ q ∈ G.Dyn s''.heap, q ∈ G.Dyn s₀.heap ∨ s'.heap.objs.size ≤ q.1) → G.Live s'' ∧ gs'.Goes (model P w) A (G.R PN) (G.Y PI) m (.send .none) s''
/-- no more items -/
def NoMore (G : GA) (PI : List V → Hp → Prop) (g n : Nat) (s₀ s1 : Shared) : Prop :=
  ∃ ys ip σ H s' h', s1 = { s'.setGen g .finished with heap := h' } ∧ (∀ b o, s'.heap.get? b = some o → h'.get? b = some o) ∧ G.Live (s₀.setGen g .running) ∧ Inv (G.at (s₀.setGen g .running)) ip σ H s' ∧ PI ys H ∧ g < s'.gens.size ∧ G.Rec ys s₀.heap ∧ n + ys.length = sizeLine
theorem setGen_ne {s : Shared} {g j : Nat} {x : GenState} (h : j ≠ g) : (s.setGen g x).gens[j]? = s.gens[j]? := by
  show (s.gens.setIfInBounds g x)[j]? = _
  rw [Array.getElem?_setIfInBounds_ne (Ne.symm h)]
theorem rely_running (hg : ∀ j, G.prot j → j ≠ g) (hb : AllBare s.gens) (hf : s.heap.FunFrames G.base G.outer) : G.Rely s (s.setGen g .running) where
  os := rfl
  bare := allBare_setGen hb rfl
  keep := fun _ _ _ e => e
  there := fun _ _ e => e
  funs := hf
  size := Nat.le_refl _
  gens := fun j x hj e => by
    rw [setGen_ne (hg j hj)]
    exact e
  gsz := Nat.le_of_eq (setGen_size _ _ _).symm
theorem next_gen (F : G.Of P w base outer A.in1 hc Hs M a g Rec Dyn prot) (hpr : ∀ j, G.prot j → j ≠ g) (hh : A.handled = none) (hl : s.heap.NoLimit) (hroom : A.depth < recursionLimit) (hg : s.heap.IsGen a g) (hb : AllBare s.gens) (hf : s.heap.FunFrames G.base G.outer)
    (hs : Asleep P w A.in1 G PI PN g n ys0 D0 z s) (hrc : G.Rec ys0 s.heap) (hdz : ∀ q ∈ G.Dyn s.heap, D0 q ∨ z ≤ q.1) (hY : ∀ v s1, Item P w A.in1 G PI PN g n s v s1 → Q (some v) s1) (hN : ∀ s1, NoMore G PN g n s s1 → Q none s1) : wpAny (model P w) A (pyNext (.ref a)) Q E s := by
  obtain ⟨gs, hgs, go⟩ := hs
  obtain ⟨L, hgo⟩ := go _ (rely_running hpr hb hf) hrc hdz
  have hgl : g < s.gens.size := (Array.getElem?_eq_some_iff.mp hgs).1
  refine wpAny_gsz (n := g + 1) hgl (next_genG (n := n) (F := G.F PN) (Er := fun _ _ => False) (Y := G.Y PI) hh hl hroom hg hgs hgo (fun v s₁ gs' hbare hv => ?_) (fun s₁ hp h' hk => ?_) fun e s₁ he => he.elim)
  · intro hsz
    obtain ⟨ys, x, ip, σ, H, hn, rv, I, hP, hrc', hk⟩ := hv
    have L1 := live_run F.ok L I
    have hsz' : g < s₁.gens.size := by
      have q : (s₁.setGen g gs').gens.size = s₁.gens.size := setGen_size _ _ _
      have h2 : g + 1 ≤ (s₁.setGen g gs').gens.size := hsz
      omega
    cases n with
    | zero =>
      refine hY v _ ⟨ys, x, ip, σ, H, s₁, gs', rfl, hbare, rv, L, I, hP, hn, hsz', hrc', fun m hm => by omega⟩
    | succ m =>
      refine hY v _ ⟨ys, x, ip, σ, H, s₁, gs', rfl, hbare, rv, L, I, hP, hn, hsz', hrc', fun m' hm s'' ry hr hd => ⟨live_rely F.ok L1 ry, by cases hm; exact hk s'' ry hr hd⟩⟩
  · intro hsz
    obtain ⟨ys, ip, σ, H, hn, I, hP, hrc'⟩ := hp
    refine hN _ ⟨ys, ip, σ, H, s₁, h', rfl, hk, L, I, hP, ?_, hrc', hn⟩
    have q : (s₁.setGen g .finished).gens.size = s₁.gens.size := setGen_size _ _ _
    have h2 : g + 1 ≤ (s₁.setGen g .finished).gens.size := hsz
    omega
end
end NA
set_option maxRecDepth 100000
set_option maxHeartbeats 1000000
/-! Expressions that only lay new things; a name stored, an item appended: what else stands. -/
namespace NA
open PySem PySem.Spec PyProof.Rows L2 GenW
/-- only new things were laid -/
structure Grown (s s' : Shared) : Prop where
  gens : s'.gens = s.gens
  os : s'.os = s.os
  size : s.heap.objs.size ≤ s'.heap.objs.size
  keep : ∀ b o, s.heap.get? b = some o → s'.heap.get? b = some o
theorem Grown.refl (s : Shared) : Grown s s := ⟨rfl, rfl, Nat.le_refl _, fun _ _ e => e⟩
theorem Grown.trans {s s' s'' : Shared} (a : Grown s s') (b : Grown s' s'') : Grown s s'' := ⟨b.gens.trans a.gens, b.os.trans a.os, Nat.le_trans a.size b.size, fun x o e => b.keep x o (a.keep x o e)⟩
theorem Grown.tok (s : Shared) (t : Nat) : Grown s { s with toks := t } := ⟨rfl, rfl, Nat.le_refl _, fun _ _ e => e⟩
theorem Grown.push (s : Shared) (o : Obj) : Grown s { s with heap := s.heap.push o } := ⟨rfl, rfl, by show _ ≤ (s.heap.push o).objs.size; rw [Heap.size_push]; exact Nat.le_succ _, fun _ _ e => Heap.get?_push_of_some _ e⟩
structure PEk (X : Cx) (e : Expr) (t : TE) : Prop where
  run : ∀ (pins : List (Addr × Obj)) (s : Shared) (σ : L2.St) (H : Hp) (Q : VK), Inv X pins σ H s → t σ H Q → wpAny (model X.prog X.w) X.A (eval e X.env) (fun u s' => EP X pins σ Q u s' ∧ Grown s s') X.xe s
structure PAk (X : Cx) (es : List Expr) (t : TA) : Prop where
  run : ∀ (pos : Pos) (pins : List (Addr × Obj)) (s : Shared) (σ : L2.St) (H : Hp) (Q : List V → Hp → Prop), Inv X pins σ H s → t σ H Q → wpAny (model X.prog X.w) X.A (spliced (backTo pos (starEach es X.env))) (fun us s' => AP X pins σ Q us s' ∧ Grown s s') X.xe s
structure PTk (X : Cx) (e : Expr) (t : TT) : Prop where
  run : ∀ (pins : List (Addr × Obj)) (s : Shared) (σ : L2.St) (H : Hp) (Q : Bool → Hp → Prop), Inv X pins σ H s → t σ H Q → wpAny (model X.prog X.w) X.A (isTrue e X.env (eval e X.env)) (fun b s' => TP X pins σ Q b s' ∧ Grown s s') X.xe s
def OpRk (X : Cx) (f : Value → Value → Sem Value) (r : R2) : Prop := ∀ (pins : List (Addr × Obj)) (s : Shared) (σ : L2.St) (H : Hp) (x y : V) (v u : Value) (Q : VK), Inv X pins σ H s → RelV x v → RelV y u → r x y H Q → wpAny (model X.prog X.w) X.A (f v u) (fun z s' => EP X pins σ Q z s' ∧ Grown s s') X.xe s
section
variable {X : Cx} {e a b : Expr} {es : List Expr} {te ta tb : TE} {t : TA} {pos : Pos}
theorem pvk (i : Nat) {x : Str} {pos : Pos} (hN : X.N[i]? = some x := by rfl) (hv : Vis X.env.scope x := by first | exact Or.inl rfl | exact Or.inr (Or.inl rfl) | exact Or.inr (Or.inr rfl)) (hd : (x == ("__debug__" : Str)) = false := by decide)
    (hcd : (x == ("__classdict__" : Str)) = false := by decide) : PEk X (.Name x pos) (tVar i) := by
  refine ⟨fun pins s σ H Q I h => ?_⟩
  obtain ⟨v, e, h⟩ := h
  obtain ⟨m, hn, hl⟩ := I.loc
  obtain ⟨u, r, l⟩ := hl i x v hN e hv
  have fin : EP X pins σ Q u s ∧ Grown s s := ⟨⟨v, H, I, r, h⟩, .refl s⟩
  rcases l with ⟨hk, hm⟩ | ⟨hk, c, hc, hcell⟩
  · exact wpAny_Name (wpAny_loadName_local I.ok.kind hk hn hm fin) hd
  · rcases hk with hk | hk
    · exact wpAny_Name (wpAny_loadName_cell I.ok.kind hk hc hcell fin) hd
    · exact wpAny_Name (wpAny_loadName_free I.ok.kind hk hc hcell fin hcd) hd
theorem pak_nil : PAk X [] tNil := ⟨fun _ _ s _ H Q I h => Calls.spliced_nil ⟨⟨[], H, I, .nil, h⟩, .refl s⟩⟩
theorem pak_cons (ha : PEk X e te) (hr : PAk X es t) (hs : starEach (e :: es) X.env = (false, eval e X.env) :: starEach es X.env := by rfl) : PAk X (e :: es) (tCons te t) := by
  refine ⟨fun pos pins s σ H Q I h => ?_⟩
  rw [hs]
  show wpAny _ _ (spliced ((false, eval e X.env) :: backTo pos (starEach es X.env))) _ _ s
  refine Calls.spliced_cons (thn (ha.run pins s σ H _ I h) fun u s1 ⟨⟨x, H1, I1, r1, q1⟩, g1⟩ => ?_)
  exact thn (hr.run pos pins s1 σ H1 _ I1 q1) fun us s2 ⟨⟨xs, H2, I2, r2, q2⟩, g2⟩ => ⟨⟨x :: xs, H2, I2, .cons r1 r2, q2⟩, g1.trans g2⟩
theorem pek_tup {x1} (h : PAk X es t) : PEk X (.Tuple es x1 pos) (tTup t) := by
  refine ⟨fun pins s σ H Q I hq => ?_⟩
  refine wpAny_Tuple_spliced (thn (h.run pos pins s σ H _ I hq) fun us s1 ⟨⟨xs, H1, I1, r, z, q⟩, g1⟩ => ⟨by rw [← r.length]; exact z, ?_⟩)
  have hf : H1 s1.heap.objs.size = none := I1.hok.fresh (Nat.le_refl _)
  refine ⟨⟨.ref s1.heap.objs.size, upd H1 s1.heap.objs.size (.tup xs), I1.laid (t' := s1.toks) (fun b u e => Heap.get?_push_of_some _ e) (Nat.le_refl _) ?_, rfl, q _ hf⟩, g1.trans (.push _ _)⟩
  exact ⟨z, us, r, ⟨_, Heap.get?_push_size _ rfl, rfl, _, rfl⟩⟩
theorem opk_catT : OpRk X (binaryOp .Add) (rCatT X.K) := by
  intro pins s σ H x y v u Q I rx ry h
  obtain ⟨a, b, xs, ys, rfl, rfl, ha, hb, hx, hz, q1, q2⟩ := h
  cases rx
  cases ry
  obtain ⟨its, r1, p1, _⟩ := I.tuple ha
  obtain ⟨its2, r2, p2, _⟩ := I.tuple hb
  refine HT.cat_tup p1 p2 (fun z => hx (r1.nil_iff.mp z)) (fun z => ⟨⟨.ref a, H, I, rfl, q1 (r2.nil_iff.mp z)⟩, .refl s⟩) (fun z => ?_) (by rw [← r1.length, ← r2.length]; exact hz)
  refine ⟨⟨.ref s.heap.objs.size, _, I.laid (t' := s.toks) (o := .tup (xs ++ ys)) (fun b ob q => Heap.get?_push_of_some _ q) (Nat.le_refl _) ?_, rfl, q2 (fun w => z (r2.nil_iff.mpr w)) _ (I.hok.fresh (Nat.le_refl _))⟩, .push _ _⟩
  exact ⟨by rw [List.length_append]; exact hz, _, r1.append r2, IsTup.new _ _⟩
theorem pek_op {op : Operator} {r : R2} (ho : OpRk X (binaryOp op) r) (ha : PEk X a ta) (hb : PEk X b tb) : PEk X (.BinOp a op b pos) (tOp r ta tb) := by
  refine ⟨fun pins s σ H Q I h => ?_⟩
  refine wpAny_BinOp (thn (ha.run pins s σ H _ I h) fun v s1 ⟨⟨x, H1, I1, r1, q1⟩, g1⟩ => thn (hb.run pins s1 σ H1 _ I1 q1) fun u s2 ⟨⟨y, H2, I2, r2, q2⟩, g2⟩ => ?_)
  exact thn (ho pins s2 σ H2 x y v u Q I2 r1 r2 q2) fun z s3 ⟨h3, g3⟩ => ⟨h3, (g1.trans g2).trans g3⟩
/-- two ints compared by == -/
theorem opk_eqI : OpRk X (compareOp .Eq) (fun x y H Q => ∃ i j : Int, x = .int i ∧ y = .int j ∧ Q (.bl (decide (i = j))) H) := by
  intro pins s σ H x y v u Q I rx ry h
  obtain ⟨i, j, rfl, rfl, q⟩ := h
  obtain ⟨t, rfl⟩ := rx
  obtain ⟨t', rfl⟩ := ry
  exact eq_int (by rw [Bool.beq_eq_decide_eq]; exact ⟨⟨.bl _, H, I, rfl, q⟩, .refl s⟩)
theorem ptk_cmp {op : CmpOp} {r : R2} (ho : OpRk X (compareOp op) r) (ha : PEk X a ta) (hb : PEk X b tb) (hm : behindInMarks op b = false) : PTk X (.Compare a [op] [b] pos) (tTest (tOp r ta tb)) := by
  refine ⟨fun pins s σ H Q I h => ?_⟩
  refine wpAny_isTrue_Compare1 (thn (ha.run pins s σ H _ I h) fun v s1 ⟨⟨x, H1, I1, r1, q1⟩, g1⟩ => thn (hb.run pins s1 σ H1 _ I1 q1) fun u s2 ⟨⟨y, H2, I2, r2, q2⟩, g2⟩ =>
    thn (ho pins s2 σ H2 x y v u _ I2 r1 r2 q2) fun c s3 ⟨⟨z, H3, I3, r3, k, e, q3⟩, g3⟩ => ?_) hm
  subst e
  cases r3
  exact wpAny_truthy_bool ⟨⟨H3, I3, q3⟩, (g1.trans g2).trans g3⟩
/-- len(xs), a list -/
theorem pek_len {x : Str} {p : Pos} (hg : Gl X x) (hm : X.mg x = none) (hv : bootBuiltins x = some (.builtin "len")) (ha : PAk X [e] t) (hn : x ≠ "__name__" := by decide) (hdb : (x == ("__debug__" : Str)) = false := by decide)
    (he : starEach [e] X.env = (false, eval e X.env) :: starEach [] X.env := by rfl) (hpl : (backTo pos (starEach [] X.env)).any (·.1) = false := by rfl) :
    PEk X (.Call (.Name x p) [e] [] pos) (tCB (fun xs H Q => ∃ p ys, xs = [.ref p] ∧ SqL X.K H p ys ∧ Q (.int ys.length) H) t) := by
  refine ⟨fun pins s σ H Q I h => ?_⟩
  refine wpAny_Call_Name_kw (ld_blt I hg hm hv ?_ hn hdb)
  refine PyProof.Rows.callWith_builtin1 (thn (ha.run pos pins s σ H _ I h) fun us s1 ⟨⟨vs, H1, I1, r1, q1⟩, g1⟩ => ?_) he hpl
  obtain ⟨p, ys, rfl, hq, q⟩ := q1
  obtain ⟨u, rfl, rx⟩ := vals1 r1
  cases rx
  have hn := line63
  obtain ⟨its, r', pl, hz⟩ := I1.list hq
  have hlen := r'.length
  exact Calls.call_len_list pl.isList (by simp only [List.size_toArray] <;> omega) ⟨⟨.int ys.length, H1, I1.tok _, ⟨s1.toks + 1, by rw [List.size_toArray, hlen]⟩, q⟩, g1.trans (.tok _ _)⟩
end
/-! ### a local name stored; an item appended -/
/-- all but those at L stands -/
structure But (L : List Addr) (s s' : Shared) : Prop where
  gens : s'.gens = s.gens
  os : s'.os = s.os
  size : s.heap.objs.size ≤ s'.heap.objs.size
  keep : ∀ b o, b ∉ L → s.heap.get? b = some o → s'.heap.get? b = some o
theorem Grown.but {s s' : Shared} (g : Grown s s') (L : List Addr) : But L s s' := ⟨g.gens, g.os, g.size, fun b o _ e => g.keep b o e⟩
theorem But.trans {L : List Addr} {s s' s'' : Shared} (a : But L s s') (b : But L s' s'') : But L s s'' := ⟨b.gens.trans a.gens, b.os.trans a.os, Nat.le_trans a.size b.size, fun x o hx e => b.keep x o hx (a.keep x o hx e)⟩
theorem But.mono {L L' : List Addr} {s s' : Shared} (a : But L s s') (h : ∀ b ∈ L, b ∈ L') : But L' s s' := ⟨a.gens, a.os, a.size, fun b o hb e => a.keep b o (fun z => hb (h b z)) e⟩
theorem low_store {X : Cx} {pins : List (Addr × Obj)} {σ : L2.St} {H : Hp} {s : Shared} {M : Model} {A : Around} {E : Value → Shared → Prop} {i : Nat} {x : Str} {v : V} {u : Value} {Q : Unit → Shared → Prop} {pos : Pos} (I : Inv X pins σ H s) (hN : X.N.Nodup) (hi : X.N[i]? = some x)
    (hk : X.env.scope.names.lookup x = some .local) (r : RelV v u) (h : ∀ s', Inv X pins (σ.set i (some v)) H s' → But [X.env.locals] s s' → Q () s') : wpAny M A (assign (.Name x pos) X.env u) Q E s := by
  refine wpAny_assign_Name ?_
  obtain ⟨m, hn, hl⟩ := id I.loc
  have hcls : (X.env.scope.kind == .class || (X.env.scope.kind == .module && X.env.locals != X.env.globals)) = false := by rw [I.ok.kind]; rfl
  have hiσ : i < σ.length := by rw [I.len]; exact (List.getElem?_eq_some_iff.mp hi).1
  have cne := I.cne
  have tracked : ∀ {a : Addr} {h' : Heap}, (∃ o, s.heap.get? a = some o ∧ H a = none) → Heap.SameBut a s.heap h' → HOk X.prog X.w H h' := fun {a h'} ha hs b ob e => by
    obtain ⟨_, _, hfree⟩ := ha
    refine (I.hok b ob e).stay (fun c w' hc q => (hs.2 c ?_).trans q) (fun _ q => q) fun _ _ q => q
    rintro rfl
    rcases hc with rfl | hc
    · rw [hfree] at e; cases e
    · rw [hfree] at hc; cases hc
  refine wpAny_storeName_local hk hn (fun h' hn' hs => ?_) hcls
  obtain ⟨oL, _, _, hoL, _⟩ := id hn
  refine h _ ⟨I.ok, I.os, I.bare, ⟨fun b o e n hb hx => ?_, fun b o e n hb hx => ?_, I.base.free, fun b o e hx => ?_, I.base.tups, I.base.frzs, I.base.tbls⟩, ⟨_, hn', fun j y v' e1 e2 e3 => ?_⟩, fun y c e => ?_, I.free, I.freeC, fun p hp => ?_, tracked ⟨oL, hoL, I.free⟩ hs, by simpa using I.len⟩ ⟨rfl, rfl, Nat.le_of_eq hs.1.symm, fun b o hb e => (hs.2 b (by simpa using hb)).trans e⟩
  · exact (hs.2 b (Nat.ne_of_lt (Nat.lt_of_lt_of_le (Heap.lt_size e) I.ok.above))).trans (I.base.keep b o e n hb hx)
  · obtain ⟨sl, e1⟩ := I.base.slot b o e n hb hx
    exact ⟨sl, (hs.2 b (Nat.ne_of_lt (Nat.lt_of_lt_of_le (Heap.lt_size e) I.ok.above))).trans e1⟩
  · obtain ⟨o', e1⟩ := I.base.there b o e hx
    exact ⟨o', (hs.2 b (Nat.ne_of_lt (Nat.lt_of_lt_of_le (Heap.lt_size e) I.ok.above))).trans e1⟩
  · by_cases hj : j = i
    · subst hj
      rw [hi] at e1; cases e1
      rw [List.getElem?_set_self hiσ] at e2
      cases e2
      exact ⟨u, r, .inl ⟨hk, by simp⟩⟩
    · rw [List.getElem?_set_ne (Ne.symm hj)] at e2
      obtain ⟨u', r', q⟩ := hl j y v' e1 e2 e3
      refine ⟨u', r', ?_⟩
      rcases q with ⟨k, e⟩ | ⟨k, c, e, z⟩
      · refine .inl ⟨k, ?_⟩
        have : y ≠ x := fun e => hj (nodup_ix hN e1 (e ▸ hi))
        simp [this, e]
      · exact .inr ⟨k, c, e, z.sameBut hs (cne y c e)⟩
  · obtain ⟨w', z⟩ := I.cell y c e
    exact ⟨w', z.sameBut hs (cne y c e)⟩
  · obtain ⟨e, n, ne, nf, d⟩ := I.pin p hp
    exact ⟨(hs.2 p.1 ne).trans e, n, ne, nf, d⟩
end NA
set_option maxRecDepth 100000
set_option maxHeartbeats 1000000
/-! xs.append(e): what else stands; a for over a generator that fills a list. -/
namespace NA
open PySem PySem.Spec PyProof.Rows L2 GenW
theorem low_append {X : Cx} {o e : Expr} {to : TE} {t : TA} {apos cpos pos : Pos} (ho : PEk X o to) (hA : PAk X [e] t)
    (hbase : attributeBase o "append" X.env (eval o X.env) = eval o X.env := by rfl)
    (hfew : ((backTo cpos (starEach (e :: []) X.env)).all (fun x => !x.1) && (backToKw cpos (keywordEach [] X.env)).all (fun x => x.1.isSome)
      && decide ((e :: []).length + ([] : List Keyword).length + (if ([] : List Keyword).isEmpty then 0 else 1) < 30)) = true := by rfl)
    (hline : (apos.endLine == cpos.line) = true := by rfl) (hs : starEach (e :: []) X.env = (false, eval e X.env) :: starEach [] X.env := by rfl) (hplain : (backTo cpos (starEach [] X.env)).any (·.1) = false := by rfl)
    (hsw : swapsWith (.Call (.Attribute o "append" apos) [e] [] cpos) none pos.line X.env = pure false := by rfl)
    {pins : List (Addr × Obj)} {s : Shared} {σ : L2.St} {H : Hp} {R : Addr} {xs : List V} {x : V} (I : Inv X pins σ H s) (h1 : to σ H fun v H1 => v = .ref R ∧ H1 = H) (h2 : t σ H fun vs H1 => vs = [x] ∧ H1 = H) (hR : H R = some (.lst xs)) (hz : xs.length < sizeLine) {Q : Flow → Shared → Prop}
    (hq : ∀ s', Inv X pins σ (upd H R (.lst (xs ++ [x]))) s' → But [R] s s' → Q .next s') :
    wpAny (model X.prog X.w) X.A (exec (.Expr (.Call (.Attribute o "append" apos) [e] [] cpos) pos) X.env) Q X.xe s := by
  refine wpAny_Expr_any ?_ I.quiet hsw
  refine wpAny_Call_method_late hbase hfew hline rfl (thn (ho.run pins s σ H _ I h1) fun v s1 ⟨⟨y, H1, I1, r1, ey, eH⟩, g1⟩ => ?_)
  subst ey
  subst eH
  cases r1
  have ty : tyV X.K "list" (.ref R) H1 := Or.inl ⟨rfl, _, Or.inl (Or.inl hR)⟩
  obtain ⟨h1', h2'⟩ := tyV_is I1 (show RelV (.ref R) (.ref R) from rfl) ty
  refine ⟨"list", _, PySem.F.plainAttrs_list, PySem.F.slot_list_append, PySem.F.type_list_append, h1', h2', ?_⟩
  have hA' := hA.run cpos pins s1 σ H1 (fun vs H2 => vs = [x] ∧ H2 = H1) I1 h2
  rw [hs] at hA' ⊢
  refine Calls.callWith_builtin (by show (false || (backTo cpos (starEach [] X.env)).any (·.1)) = false; rw [hplain] <;> rfl) (Calls.evalArgs_plain ?_)
  refine thn hA' fun us s2 ⟨⟨vs, H2, I2, r2, ev, eH⟩, g2⟩ => ?_
  subst ev
  rw [eH] at I2
  obtain ⟨u, rfl, ru⟩ := r2.one
  obtain ⟨z, its, n, r, hl, e'⟩ := I2.lstM hR
  refine call_meets F.slot_list_append ⟨_, e', rfl⟩ F.entry_list_append (F.args_list_append_2 _ _) (PySem.list_append R its.toArray n u (by rw [List.size_toArray]; omega)) ⟨e', ?_⟩
  refine hq _ (I2.lset (its' := its ++ [u]) (t' := s2.toks) hR e' (by simp) (r.append (.cons ru .nil)) ?_) (((g1.trans g2).but [R]).trans ⟨rfl, rfl, ?_, fun b ob hb q => ?_⟩)
  · rw [List.length_append, List.length_singleton]
    omega
  · show s2.heap.objs.size ≤ (s2.heap.update R _).objs.size
    rw [Heap.size_update]
    exact Nat.le_refl _
  · exact (Heap.get?_update_other _ _ (fun z => hb (by rw [← z]; exact List.mem_singleton.mpr rfl))).trans q
end NA
set_option maxRecDepth 100000
set_option maxHeartbeats 1000000
/-! What a generator knows of its caller's heap: frozen. A generator def's promise, its call. -/
namespace NA
open PySem PySem.Spec PyProof.Rows L2 GenW
def frzO (h : Heap) (b : Addr) : HO → Option HO
  | .tup xs => some (.tup xs)
  | .lst xs => (h.get? b).map fun o => .frz o (.lst xs)
  | .dT kvs => (h.get? b).map fun o => .frz o (.dT kvs)
  | .frz o (.lst xs) => some (.frz o (.lst xs))
  | .frz o (.dT kvs) => some (.frz o (.dT kvs))
  | .frz o (.tup xs) => some (.frz o (.tup xs))
  | _ => none
def frzH (M : List Addr) (h : Heap) (H : Hp) : Hp := fun b => if b ∈ M then none else (H b).bind (frzO h b)
section
variable {P : Program} {w : World} {M : List Addr} {h : Heap} {H : Hp} {b a : Addr}
theorem frz_at (hb : b ∉ M) {u : HO} (e : H b = some u) : frzH M h H b = frzO h b u := by
  unfold frzH
  rw [if_neg hb, e]
  rfl
theorem frz_m (hb : b ∈ M) : frzH M h H b = none := if_pos hb
theorem frz_none (e : H b = none) : frzH M h H b = none := by
  unfold frzH
  by_cases hb : b ∈ M
  · rw [if_pos hb]
  · rw [if_neg hb, e]
    rfl
theorem frz_of {u : HO} (e : frzH M h H b = some u) : b ∉ M ∧ ∃ v, H b = some v ∧ frzO h b v = some u := by
  unfold frzH at e
  by_cases hb : b ∈ M
  · rw [if_pos hb] at e
    cases e
  · rw [if_neg hb] at e
    cases q : H b with
    | none => rw [q] at e; cases e
    | some v => rw [q] at e; exact ⟨hb, v, rfl, e⟩
theorem frz_tup (hb : b ∉ M) {xs : List V} (e : H b = some (.tup xs)) : frzH M h H b = some (.tup xs) := by
  rw [frz_at hb e]
  rfl
theorem frzO_kind {v u : HO} (e : frzO h b v = some u) : (∃ o v', u = .frz o v') ∨ ∃ xs, u = .tup xs := by
  cases v with
  | tup xs => cases e; exact .inr ⟨_, rfl⟩
  | lst xs =>
    obtain ⟨o, _, rfl⟩ := Option.map_eq_some_iff.mp (show (h.get? b).map (fun o => HO.frz o (.lst xs)) = some u from e)
    exact .inl ⟨_, _, rfl⟩
  | dT kvs =>
    obtain ⟨o, _, rfl⟩ := Option.map_eq_some_iff.mp (show (h.get? b).map (fun o => HO.frz o (.dT kvs)) = some u from e)
    exact .inl ⟨_, _, rfl⟩
  | frz o v' =>
    cases v' with
    | lst xs => cases e; exact .inl ⟨_, _, rfl⟩
    | dT kvs => cases e; exact .inl ⟨_, _, rfl⟩
    | tup xs => cases e; exact .inl ⟨_, _, rfl⟩
    | _ => cases e
  | _ => cases e
theorem frz_kind {u : HO} (e : frzH M h H b = some u) : (∃ o v', u = .frz o v') ∨ ∃ xs, u = .tup xs := by
  obtain ⟨_, v, _, e2⟩ := frz_of e
  exact frzO_kind e2
theorem frz_ok (ok : HOk P w H h) (hM : ∀ b ∈ M, ∀ xs, H b ≠ some (.tup xs)) : HOk P w (frzH M h H) h := fun b u e => by
  obtain ⟨hb, v, hv, e2⟩ := frz_of e
  have tk : ∀ c xs, H c = some (.tup xs) → frzH M h H c = some (.tup xs) := fun c xs hc => frz_tup (fun hm => hM c hm xs hc) hc
  have dk : ∀ kvs, ObjOk P w H h b (.dT kvs) → ObjOk P w (frzH M h H) h b (.dT kvs) := fun kvs x => by
    obtain ⟨z, y, xs, r, rest⟩ := x
    exact ⟨z, y, xs, Paired.mapP r fun p q z => ⟨z.1, tk _ _ z.2.1, z.2.2⟩, rest⟩
  have x := ok b v hv
  cases v with
  | tup xs => cases e2; exact x
  | lst xs =>
    obtain ⟨o, ho, rfl⟩ := Option.map_eq_some_iff.mp (show (h.get? b).map (fun o => HO.frz o (.lst xs)) = some u from e2)
    exact ⟨ho, x⟩
  | dT kvs =>
    obtain ⟨o, ho, rfl⟩ := Option.map_eq_some_iff.mp (show (h.get? b).map (fun o => HO.frz o (.dT kvs)) = some u from e2)
    exact ⟨ho, dk kvs x⟩
  | frz o v' =>
    obtain ⟨x1, x2⟩ := x
    cases v' with
    | lst xs => cases e2; exact ⟨x1, x2⟩
    | dT kvs => cases e2; exact ⟨x1, dk kvs x2⟩
    | tup xs => cases e2; exact ⟨x1, x2⟩
    | _ => cases e2
  | _ => cases e2
theorem frz_sqL {K : PySem.W.Frag} (ok : HOk P w H h) {xs : List V} (ha : a ∉ M) (e : SqL K H a xs) : SqL K (frzH M h H) a xs := by
  rcases e with (e | ⟨o, e⟩) | e
  · obtain ⟨o, ho⟩ := objOk_get (ok a _ e)
    refine .inl (.inr ⟨o, ?_⟩)
    rw [frz_at ha e]
    show (h.get? a).map _ = _
    rw [ho]
    rfl
  · refine .inl (.inr ⟨o, ?_⟩)
    rw [frz_at ha e]
    rfl
  · exact .inr e
theorem frz_sqT {K : PySem.W.Frag} (ok : HOk P w H h) {xs : List V} (ha : a ∉ M) (e : SqT K H a xs) : SqT K (frzH M h H) a xs := by
  rcases e with (e | ⟨o, e⟩) | e
  · exact .inl (.inl (frz_tup ha e))
  · refine .inl (.inr ⟨o, ?_⟩)
    rw [frz_at ha e]
    rfl
  · exact .inr e
theorem frz_dT (ok : HOk P w H h) {kvs : List (List Key × V)} (ha : a ∉ M) (e : Rd H a (.dT kvs)) : Rd (frzH M h H) a (.dT kvs) := by
  rcases e with e | ⟨o, e⟩
  · obtain ⟨o, ho⟩ := objOk_get (ok a _ e)
    refine .inr ⟨o, ?_⟩
    rw [frz_at ha e]
    show (h.get? a).map _ = _
    rw [ho]
    rfl
  · refine .inr ⟨o, ?_⟩
    rw [frz_at ha e]
    rfl
end
/-! ### what is handed out: new tuples of these -/
def PIs (spec : List (List V)) : List V → Hp → Prop := fun ys H => ys.length ≤ spec.length ∧ ∀ (j : Nat) (x : V), ys[j]? = some x → ∃ t sp, x = .ref t ∧ spec[j]? = some sp ∧ H t = some (.tup sp)
def PNs (spec : List (List V)) : List V → Hp → Prop := fun ys H => ys.length = spec.length ∧ PIs spec ys H
/-- arguments, the frozen heap, what is handed out -/
abbrev CondG := GA → Prop
abbrev SpG2 := List V → Hp → List (List V) → Prop
structure GFn2 (P : Program) (w : World) (K : PySem.W.Frag) (mg : Str → Option Value) (base : Heap) (k : Nat) (f : Addr) (fd : FuncData) (ps : List Str) (sp : SpG2) (cond : CondG) : Prop where
  len : ∀ vs H spec, sp vs H spec → vs.length = ps.length
  run : ∀ (A : Around) (outer : List Env) (s : Shared) (H1 : Hp) (args : Args) (us : List Value) (vs : List V) (M : List Addr) (spec : List (List V)) (Rec : List V → Heap → Prop) (Dyn : Heap → List (Addr × Obj)) (prot : Nat → Nat → Prop), (∀ h, ∀ p ∈ Dyn h, h.get? p.1 = some p.2 ∧ s.heap.objs.size ≤ p.1 ∧ ∀ v, p.2.data ≠ .cell v) → (∀ G : GA, G.M = M → G.Rec = Rec → G.Dyn = Dyn → G.prot = prot G.g → G.outer = outer → cond G) → Room k A → Env0 P w K mg base A outer s H1 → BindsTo s fd args (ps.zip us) → Vals vs us → sp vs (frzH M s.heap H1) spec →
    (∀ b ∈ M, (∃ o, s.heap.get? b = some o) ∧ base.get? b = none) → (∀ b ∈ M, ∀ xs, H1 b ≠ some (.tup xs)) →
    codeAny (model P w) A (.call (.ref f) args) (fun r s' => match r with | .ok (.ret u) => GMade2 P w base k outer s (frzH M s.heap H1) M (PIs spec) (PNs spec) Rec Dyn prot u s' | _ => False) s
/-- by its body -/
theorem gfn2_of {P : Program} {w : World} {K : PySem.W.Frag} {mg : Str → Option Value} {base : Heap} {k : Nat} {f : Addr} {name qual : Str} {params : Arguments} {body : List Stmt} {scope : Scope} {dV kV doc pm cdv ct oc : Value} {an od : Option Addr}
    {osl : Array (Option Value)} {N ps : List Str} {sp : SpG2} {cond : CondG} (lk : K.lookup f = some ⟨oc, od, .func (PySem.W.fnOf name qual params body scope dV kV doc pm an cdv ct), osl⟩) (hcd : PySem.W.codeIn K cdv qual = true) (S : GScope N ps scope) (len : ∀ vs H spec, sp vs H spec → vs.length = ps.length)
    (hbody : ∀ (G : GA) (vs : List V) (spec : List (List V)), G.Ok → G.prog = P → G.w = w → G.K = K → G.mg = mg → G.base = base → G.N = N → (∃ L, G.env = envOfC qual scope L f cdv) → Room k G.A → cond G → sp vs G.Hs spec →
      ∃ t, GSs2 G (PIs spec) body t ∧ t { nx := fun ys _ H' => PNs spec ys H', rt := fun ys v H' => v = .non ∧ PNs spec ys H' } [] (start N vs) G.Hs) :
    GFn2 P w K mg base (k + 1) f (PySem.W.fnOf name qual params body scope dV kV doc pm an cdv ct) ps sp cond := by
  refine ⟨len, fun A outer s H1 args us vs M spec Rec Dyn prot hdy hcd2 hr e0 hb r hsp hM hMt => ?_⟩
  refine gen_call lk hcd S hdy hr e0 hb r (len _ _ _ hsp) (frz_ok e0.hok hMt) (fun b u e => frz_kind e) (fun b e => frz_none e) (fun b hb' => ⟨(hM b hb').1, frz_m hb', (hM b hb').2⟩) fun G O h1 h2 h3 h4 h5 h6 h7 h9 h10 h11 h12 h13 h8 hr' => ?_
  have := hbody G vs spec O h1 h2 h3 h4 h5 h6 h8 hr' (hcd2 G h9 h10 h11 h12 h13) (by rw [h7]; exact hsp)
  rw [h7] at this
  exact this
end NA
set_option maxRecDepth 100000
set_option maxHeartbeats 2000000
/-! for x in g(..): a def's loop over a generator, that fills a list. -/
namespace NA
open PySem PySem.Spec PyProof.Rows L2 GenW
/-- a turn's body: the name is stored, the item is appended at R, nothing else changes -/
def BodyLow (X : Cx) (tg : Expr) (body : List Stmt) (i : Nat) (okR : Addr → L2.St → Prop) (most : Nat) : Prop :=
  ∀ (pins : List (Addr × Obj)) (s : Shared) (σ : L2.St) (H : Hp) (R : Addr) (xs : List V) (x : V) (u : Value), Inv X pins σ H s → okR R σ → RelV x u → H R = some (.lst xs) → xs.length < most →
    wpAny (model X.prog X.w) X.A (assign tg X.env u) (fun _ s2 => wpAny (model X.prog X.w) X.A (execs body X.env) (fun f s3 => f = .next ∧ Inv X pins (σ.set i (some x)) (upd H R (.lst (xs ++ [x]))) s3 ∧ But [X.env.locals, R] s s3) (fun _ _ => False) s2) (fun _ _ => False) s
def RecL (R : Addr) : List V → Heap → Prop := fun ys h => ∃ (acc : Array Value) (c : Nat), h.get? R = some (lstObj acc c) ∧ Vals ys acc.toList
theorem recL_inj {R : Addr} {ys zs : List V} {h : Heap} (a : RecL R ys h) (b : RecL R zs h) : ys = zs := by
  obtain ⟨acc, c, e, r⟩ := a
  obtain ⟨acc', c', e', r'⟩ := b
  rw [e] at e'
  cases e'
  exact r.inj r'
def tForG (X : Cx) (sp : SpG2) (i most : Nat) (okR : Addr → L2.St → Prop) (t : TA) : TS := fun D σ H => ∃ R, okR R σ ∧ t σ H fun vs H1 => H1 R = some (.lst []) ∧ ∃ spec : List (List V), spec.length ≤ most ∧
  (∀ (L : Addr) (h : Heap), H1 L = none → HOk X.prog X.w H1 h → sp vs (frzH [L, R] h H1) spec) ∧
  ∀ ys H' σ', (∀ b u, b ≠ R → H1 b = some u → H' b = some u) → H' R = some (.lst ys) → PNs spec ys H' → σ'.length = σ.length → (∀ j, j ≠ i → σ'[j]? = σ[j]?) → D.nx σ' H'
/-- the state at a turn's head -/
structure ForSt (X : Cx) (pins : List (Addr × Obj)) (G : GA) (spec : List (List V)) (i : Nat) (R a : Addr) (g m : Nat) (σ0 : L2.St) (H1 : Hp) (ys : List V) (σ : L2.St) (Hc : Hp) (s : Shared) : Prop where
  inv : Inv X pins σ Hc s
  slp : Asleep X.prog X.w X.A.in1 G (PIs spec) (PNs spec) g m ys (fun _ => False) 0 s
  cnt : m + ys.length = sizeLine
  cur : ∀ b, b ≠ R → (∃ o, G.hc.get? b = some o) → Hc b = H1 b
  fz : ∀ b o v, G.Hs b = some (.frz o v) → s.heap.get? b = some o
  old : ∀ b u, Hc b = some u → (∃ o, G.hc.get? b = some o) ∨ (G.hc.get? b = none ∧ ∃ (j : Nat) (sp : List V), ys[j]? = some (.ref b) ∧ spec[j]? = some sp ∧ u = .tup sp)
  lst : Hc R = some (.lst ys)
  mono : ∀ b u, b ≠ R → H1 b = some u → Hc b = some u
  its : PIs spec ys Hc
  gen : s.heap.IsGen a g
  len : σ.length = σ0.length
  slots : ∀ j, j ≠ i → σ[j]? = σ0[j]?
section
variable {X : Cx} {x tn : Str} {p p1 pos' pos : Pos} {e : Expr} {es : List Expr} {body : List Stmt} {f : Addr} {fd : FuncData} {ps : List Str} {sp : SpG2} {cond : CondG} {k i most : Nat} {t : TA} {okR : Addr → L2.St → Prop}
/-- behind an item or the end: the consumer's heap with all items tracked -/
theorem forst_step {pins ip : List (Addr × Obj)} {G : GA} {spec : List (List V)} {R a : Addr} {g m : Nat} {σ0 σg σ : L2.St} {H1 Hc H : Hp} {ys zs : List V} {s₀ s : Shared} (O : G.Ok) (hst : G.outer = X.stack) (hpr : G.prog = X.prog) (hw : G.w = X.w) (S : G.Sub H1) (Z : Old X pins H1 G.hc)
    (hRs : G.Hs R = none) (hRa : ∃ o, G.hc.get? R = some o)
    (F : ForSt X pins G spec i R a g m σ0 H1 ys σ Hc s₀) (L : G.Live (s₀.setGen g .running)) (J : Inv (G.at (s₀.setGen g .running)) ip σg H s) (hzs : ∀ (j : Nat) (v : V), ys[j]? = some v → zs[j]? = some v) (hP : PIs spec zs H) :
    ∃ Hc', Inv X pins σ Hc' s ∧ (∀ b, b ≠ R → (∃ o, G.hc.get? b = some o) → Hc' b = H1 b) ∧ (∀ b u, Hc' b = some u → (∃ o, G.hc.get? b = some o) ∨ (G.hc.get? b = none ∧ ∃ (j : Nat) (sp : List V), zs[j]? = some (.ref b) ∧ spec[j]? = some sp ∧ u = .tup sp)) ∧ Hc' R = some (.lst ys) ∧
      (∀ b u, b ≠ R → H1 b = some u → Hc' b = some u) ∧ PIs spec zs Hc' := by
  classical
  have stat : ∀ {b : Addr} {o : Obj}, G.hc.get? b = some o → H b = G.Hs b := fun e => stat_run O L J e
  let Hc' : Hp := fun b => if (∃ o, G.hc.get? b = some o) then Hc b else if (∃ j : Nat, zs[j]? = some (V.ref b)) then H b else none
  have old : ∀ b, (∃ o, G.hc.get? b = some o) → Hc' b = Hc b := fun b h => if_pos h
  have new : ∀ b, G.hc.get? b = none → (∃ j : Nat, zs[j]? = some (V.ref b)) → Hc' b = H b := fun b h hj => by
    show (if (∃ o, G.hc.get? b = some o) then Hc b else if (∃ j : Nat, zs[j]? = some (V.ref b)) then H b else none) = H b
    rw [if_neg (fun ⟨o, e⟩ => by rw [h] at e; cases e), if_pos hj]
  have alv : ∀ b, (∃ o, G.hc.get? b = some o) ∨ G.hc.get? b = none := fun b => by
    cases q : G.hc.get? b with
    | some o => exact .inl ⟨o, rfl⟩
    | none => exact .inr rfl
  have mono : ∀ b u, Hc b = some u → Hc' b = some u := fun b u q => by
    rcases F.old b u q with h | ⟨h, j, sp, h1, h2, h3⟩
    · rw [old b h]; exact q
    · rw [new b h ⟨j, hzs j _ h1⟩]
      obtain ⟨t', sp', e1, e2, e3⟩ := hP.2 j _ (hzs j _ h1)
      cases e1
      rw [h2] at e2
      cases e2
      rw [h3]
      exact e3
  have back : ∀ b u, Hc' b = some u → ((∃ o, G.hc.get? b = some o) ∧ Hc b = some u) ∨ (G.hc.get? b = none ∧ ∃ (j : Nat) (sp : List V), zs[j]? = some (.ref b) ∧ spec[j]? = some sp ∧ u = .tup sp ∧ H b = some (.tup sp)) := fun b u q => by
    rcases alv b with h | h
    · rw [old b h] at q
      exact .inl ⟨h, q⟩
    · refine .inr ⟨h, ?_⟩
      by_cases hj : ∃ j : Nat, zs[j]? = some (V.ref b)
      · rw [new b h hj] at q
        obtain ⟨j, hj⟩ := hj
        obtain ⟨t', sp', e1, e2, e3⟩ := hP.2 j _ hj
        cases e1
        rw [e3] at q
        cases q
        exact ⟨j, sp', hj, e2, rfl, e3⟩
      · have q' : (if (∃ o, G.hc.get? b = some o) then Hc b else if (∃ j : Nat, zs[j]? = some (V.ref b)) then H b else none) = some u := q
        rw [if_neg (fun ⟨o, e⟩ => by rw [h] at e; cases e), if_neg hj] at q'
        cases q'
  refine ⟨Hc', ?_, fun b hb h => (old b h).trans (F.cur b hb h), fun b u q => ?_, (old R hRa).trans F.lst, fun b u hb q => mono b u (F.mono b u hb q), hP.1, fun j v hj => ?_⟩
  · refine cons_run (s₀ := s₀.setGen g .running) O L hst hpr hw S Z ?_ (fun b o e hn => ?_) F.fz J mono fun b u q => ?_
    · exact F.inv.call' (ch := []) rfl Un.refl F.inv.hok (allBare_setGen F.inv.bare rfl) (fun b z => by simp at z)
    · refine F.cur b (fun z => hn (by rw [z]; exact hRs)) ⟨o, e⟩
    · rcases back b u q with h | ⟨h, j, sp, _, _, h3, h4⟩
      · exact .inl h
      · exact .inr (.inl ⟨h, sp, h3, h4⟩)
  · rcases back b u q with h | ⟨h, j, sp, h1, h2, h3, _⟩
    · exact .inl h.1
    · exact .inr ⟨h, j, sp, h1, h2, h3⟩
  · obtain ⟨t', sp', e1, e2, e3⟩ := hP.2 j v hj
    refine ⟨t', sp', e1, e2, ?_⟩
    subst e1
    rcases alv t' with h | h
    · obtain ⟨o, ho⟩ := h
      rw [old t' ⟨o, ho⟩]
      have z := stat ho
      rw [e3] at z
      have ne : t' ≠ R := fun q => by rw [q, hRs] at z; cases z
      rcases S.sub t' _ z.symm with ⟨o2, v2, e4, _⟩ | ⟨xs, e4, e5⟩
      · cases e4
      · cases e4
        exact F.mono t' _ ne e5
    · rw [new t' h ⟨j, hj⟩]
      exact e3
theorem ps_forG (hcalm : X.calm = true) (F : GFn2 X.prog X.w X.K X.mg X.base k f fd ps sp cond) (hcond : ∀ (G : GA) (L R : Addr), G.M = [L, R] → G.Rec = RecL R → (G.Dyn = fun _ => []) → (∀ j, j ≠ G.g → G.prot j) → R ∉ frs G.outer → cond G) (hr : Room (k + 1) X.A) (hg : Gl X x) (hm : X.mg x = some (.ref f)) (hk : PySem.W.keepIn X.K (.ref f) = true) (hb : Binds X.K fd ps [])
    (ha : PA X (e :: es) t) (B : BodyLow X (.Name tn p1) body i okR most) (hmost : most < sizeLine) (hokσ : ∀ R σ v, okR R σ → okR R (σ.set i v)) (hstk : X.stack = X.env :: X.outer) (hdb : (x == ("__debug__" : Str)) = false := by decide)
    (he : starEach (e :: es) X.env = (false, eval e X.env) :: starEach es X.env := by rfl) (hpl : (backTo pos' (starEach es X.env)).any (·.1) = false := by rfl)
    (hs : ∀ v, foldedSetIterable (.Call (.Name x p) (e :: es) [] pos') X.env v = pure v := by intro _; rfl) :
    PS X (.For (.Name tn p1) (.Call (.Name x p) (e :: es) [] pos') body [] pos) (tForG X sp i most okR t) := by
  refine ⟨fun pins s σ H D I h => ?_⟩
  obtain ⟨R, hok, ht⟩ := h
  refine wpAny_For (wpAny_Call_Name_kw (ld_glob I hg hm ?_ hdb)) hs
  refine PySem.W.callWith_K (h₀ := X.base) I.ok.mod.kin hk (thn (ha.run pos' pins s σ H _ I ht) fun us s1 ⟨vs, H1, I1, r, q⟩ => ⟨I1.kIn, ?_⟩) he hpl
  obtain ⟨hR, spec, hsl, hsp, hend⟩ := q
  have hsp' := hsp X.env.locals s1.heap I1.free I1.hok
  have r2 : Vals (vs ++ []) (us ++ []) := r.append .nil
  have hl2 : (us ++ ([] : List Value)).length = ps.length := by rw [← r2.length, List.append_nil]; exact F.len _ _ _ hsp'
  have hMa : ∀ b ∈ [X.env.locals, R], (∃ o, s1.heap.get? b = some o) ∧ X.base.get? b = none := fun b hb => by
    rcases List.mem_cons.mp hb with rfl | hb
    · obtain ⟨m, ⟨o, _, _, ho, _⟩, _⟩ := I1.loc
      refine ⟨⟨o, ho⟩, Heap.get?_none_of_le (Nat.le_trans I1.ok.bsz I1.ok.above)⟩
    · rw [List.mem_singleton.mp hb]
      refine ⟨objOk_get (I1.hok R _ hR), ?_⟩
      cases z : X.base.get? R with
      | none => rfl
      | some o =>
        have := (I1.bs R o z).2
        rw [hR] at this
        cases this
  have hMt : ∀ b ∈ [X.env.locals, R], ∀ xs, H1 b ≠ some (.tup xs) := fun b hb xs => by
    rcases List.mem_cons.mp hb with rfl | hb
    · rw [I1.free]; simp
    · rw [List.mem_singleton.mp hb, hR]; simp
  refine wpAny_call (codeAny_mono (F.run X.A X.stack s1 H1 ⟨us, []⟩ (us ++ []) vs [X.env.locals, R] spec (RecL R) (fun _ => []) (fun g j => j ≠ g) (fun _ p hp => by simp at hp) (fun G q1 q2 q3 q4 q5 => hcond G _ _ q1 q2 q3 (fun j hj => by rw [q4]; exact hj) (by rw [q5]; exact fun hm => by rw [I1.stkFree _ hm] at hR; cases hR)) (hr.mono (Nat.le_succ _)) I1.env0 (hb s1 us I1.kIn hl2) (by rw [List.append_nil]; exact r) hsp' hMa hMt) fun rr s2 hq => ?_)
  cases rr with
  | error _ => exact False.elim hq
  | ok fl =>
    cases fl with
    | next => exact False.elim hq
    | brk => exact False.elim hq
    | cont => exact False.elim hq
    | ret u =>
      obtain ⟨a, g, c, rfl, ha1, ha2, hgen, hgs, hos, hbare, hlim, hkeep, hgge, hgk, hsz, wake⟩ := hq
      have hra : Room k X.A.in1 := (hr.in1 : Room k X.A.in1)
      obtain ⟨G, GO, wk⟩ := wake X.A.in1 hra I1.ok.frames
      have O := GO.ok
      have hst : G.outer = X.stack := GO.outer
      have hGb : G.base = X.base := GO.base
      have hGM : G.M = [X.env.locals, R] := GO.M
      have hGhc : s1.heap = G.hc := GO.hc.symm
      have hGHs : G.Hs = frzH [X.env.locals, R] s1.heap H1 := GO.Hs
      have hGr : G.Rec = RecL R := GO.rc
      have S : G.Sub H1 := ⟨fun b u e => by
        rw [hGHs] at e
        obtain ⟨_, v, hv, e2⟩ := frz_of e
        rcases frzO_kind e2 with ⟨o, v', rfl⟩ | ⟨xs, rfl⟩
        · exact .inl ⟨o, v', rfl, v, hv⟩
        · refine .inr ⟨xs, rfl, ?_⟩
          cases v with
          | tup ys => cases e2; exact hv
          | lst ys =>
            obtain ⟨o, _, z⟩ := Option.map_eq_some_iff.mp (show (s1.heap.get? b).map (fun o => HO.frz o (.lst ys)) = some (.tup xs) from e2)
            cases z
          | dT ys =>
            obtain ⟨o, _, z⟩ := Option.map_eq_some_iff.mp (show (s1.heap.get? b).map (fun o => HO.frz o (.dT ys)) = some (.tup xs) from e2)
            cases z
          | frz o v' => cases v' <;> cases e2
          | _ => cases e2⟩
      have hRs : G.Hs R = none := by rw [hGHs]; exact frz_m (by simp)
      have hRa : ∃ o, G.hc.get? R = some o := by rw [← hGhc]; exact objOk_get (I1.hok R _ hR)
      have hokF : ∀ b o v, G.Hs b = some (.frz o v) → s1.heap.get? b = some o := fun b o v e => by
        rw [hGHs] at e
        have := frz_ok (P := X.prog) (w := X.w) I1.hok hMt b _ e
        exact this.1
      -- made
      have I2 : Inv X pins σ H1 s2 := I1.call' (ch := []) hos (Un.kept hkeep) (I1.hok.kept hkeep) hbare (fun b z => by simp at z)
      have R2 : ∀ {s' : Shared}, G.Rely s2 s' → RecL R [] s'.heap → G.Live s' ∧ Seg (model X.prog X.w) X.A.in1 (G.R (PNs spec)) (G.Y (PIs spec)) sizeLine s' c ((model X.prog X.w).den c) [] s' := fun {s'} z hrc => wk s' z hrc (fun q hq => by simp at hq)
      have Z : Old X pins H1 G.hc := by rw [← hGhc]; exact old_of I1
      have hpr : ∀ j, G.prot j → j ≠ g := fun j hj => by rw [GO.pr] at hj; exact hj
      have hGd : G.Dyn = fun _ => [] := GO.dy
      refine wpAny_pyIter_gen hgen ?_
      have start0 : ForSt X pins G spec i R a g sizeLine σ H1 [] σ H1 s2 :=
        { inv := I2, slp := ⟨.fresh c, hgs, fun s' z hrc _ => by
            have z' := R2 z (by rw [hGr] at hrc; exact hrc)
            exact ⟨z'.1, rfl, z'.2⟩⟩, cnt := rfl, cur := fun _ _ _ => rfl, fz := fun b o v e => hkeep b o (hokF b o v e), old := fun b u e => .inl (by rw [← hGhc]; exact objOk_get (I1.hok b u e)), lst := hR, mono := fun _ _ _ e => e,
          its := ⟨Nat.zero_le _, fun j v hj => by simp at hj⟩, gen := hgen, len := rfl, slots := fun _ _ => rfl }
      refine codeAny_forLoop_any (fun n s' => ∃ ys σ' Hc, ForSt X pins G spec i R a g n σ H1 ys σ' Hc s' ∧ okR R σ') ?_ sizeLine ⟨[], σ, H1, start0, hok⟩
      rintro n s3 ⟨ys, σ3, Hc, FS, hok3⟩
      have I3 := FS.inv
      have recs : ∀ {s' : Shared} {zs : List V} {Hz : Hp} {σz : L2.St}, Inv X pins σz Hz s' → Hz R = some (.lst zs) → RecL R zs s'.heap := fun {s' zs Hz σz} Iz hz => by
        obtain ⟨_, its, cc, rr, ee⟩ := Iz.hok R _ hz
        exact ⟨its.toArray, cc, ee, by simpa using rr⟩
      refine next_gen (n := n) (ys0 := ys) GO hpr (I3.ok.hd hcalm) I3.nolimit (by have := hr.dp; omega) FS.gen I3.bare (by rw [hGb, hst]; exact I3.stack) FS.slp (by rw [hGr]; exact recs I3 FS.lst) (by rw [hGd]; intro q hq; simp at hq) (fun v s4 hit => ?_) fun s4 hno => ?_
      · -- an item
        obtain ⟨ys', xv, ip, σg, Hg, s', gs', rfl, hbr, rv, L, J, hP, hcnt, hgl, hrc, hgo⟩ := hit
        have ey : ys' = ys := by
          rw [hGr] at hrc
          exact recL_inj hrc (recs I3 FS.lst)
        subst ey
        obtain ⟨Hc', J2, c1, c2, c3, c4, c5⟩ := forst_step (X := X) (i := i) (a := a) (g := g) (m := n) (zs := ys' ++ [xv]) O hst GO.prog GO.w S Z hRs hRa FS L J (fun j v hj => by rw [List.getElem?_append_left (List.getElem?_eq_some_iff.mp hj).1]; exact hj) hP
        have J3 : Inv X pins σ3 Hc' (s'.setGen g gs') := J2.call' (ch := []) rfl Un.refl J2.hok (allBare_setGen J2.bare hbr) (fun b z => by simp at z)
        refine wpAny_pure ?_
        have hlen : (ys' ++ [xv]).length ≤ spec.length := hP.1
        rw [List.length_append, List.length_singleton] at hlen
        have Bd := B pins (s'.setGen g gs') σ3 Hc' R ys' xv v J3 hok3 rv c3 (by omega)
        refine wpAny_mono Bd (fun _ s5 h5 => ?_) fun _ _ z => False.elim z
        refine wpAny_mono h5 (fun fl s6 h6 => ?_) fun _ _ z => False.elim z
        obtain ⟨rfl, I6, bt⟩ := h6
        obtain ⟨m, rfl⟩ : ∃ m, n = m + 1 := ⟨n - 1, by have := FS.cnt; omega⟩
        have L' := live_run O L J
        have ry : G.Rely s' s6 := by
          refine ⟨bt.os, I6.bare, fun b o hb e => bt.keep b o (by rw [← hGM]; exact hb) e, fun b hb _ => ?_, by rw [hGb, hst]; exact I6.stack, bt.size, fun j y hj e => ?_, ?_⟩
          · rw [hGM] at hb
            rcases List.mem_cons.mp hb with rfl | hb
            · obtain ⟨m, ⟨o, _, _, ho, _⟩, _⟩ := I6.loc
              exact ⟨o, ho⟩
            · rw [List.mem_singleton.mp hb]
              exact objOk_get (I6.hok R _ upd_same)
          · rw [bt.gens, setGen_ne (hpr j hj)]
            exact e
          · rw [bt.gens, setGen_size]
            exact Nat.le_refl _
        have goR : G.Rec (ys' ++ [xv]) s6.heap := by
          rw [hGr]
          exact recs I6 upd_same
        refine ⟨m, Nat.lt_succ_self _, ys' ++ [xv], σ3.set i (some xv), upd Hc' R (.lst (ys' ++ [xv])), ?_, hokσ R σ3 _ hok3⟩
        refine { inv := I6, slp := ⟨gs', ?_, fun s'' z hz _ => hgo m rfl s'' (ry.trans z) hz (by rw [hGd]; intro q hq; simp at hq)⟩, cnt := ?_, cur := fun b hb h => by rw [upd_ne hb]; exact c1 b hb h, fz := fun b o v' e => ?_, old := fun b u e => ?_, lst := upd_same, mono := fun b u hb e => by rw [upd_ne hb]; exact c4 b u hb e, its := ⟨c5.1, fun j v' hj => ?_⟩, gen := ?_, len := by rw [List.length_set]; exact FS.len, slots := fun j hj => by rw [List.getElem?_set_ne (Ne.symm hj)]; exact FS.slots j hj }
        · rw [bt.gens]
          exact setGen_at hgl
        · rw [List.length_append, List.length_singleton]
          have := FS.cnt
          omega
        · -- frozen things
          have hb : Hg b = some (.frz o v') := J.base.frzs b o v' e
          obtain ⟨z, _⟩ := J.hok b _ hb
          refine bt.keep b o (fun hm => ?_) z
          rw [← hGM] at hm
          have := (O.m b hm).2.1
          rw [e] at this
          cases this
        · by_cases hb : b = R
          · rw [hb]; exact .inl hRa
          · rw [upd_ne hb] at e
            exact c2 b u e
        · obtain ⟨t', sp', e1, e2, e3⟩ := c5.2 j v' hj
          refine ⟨t', sp', e1, e2, ?_⟩
          rw [upd_ne (fun z => by rw [z, c3] at e3; cases e3)]
          exact e3
        · obtain ⟨o, nm, qn, ho, hcl⟩ := GO.gen s'.heap fun p hp => (J.pin p (List.mem_append_left _ (List.mem_append_left _ hp))).1
          refine ⟨o, nm, qn, bt.keep a o (fun hm => ?_) ho, hcl⟩
          rw [← hGM] at hm
          obtain ⟨⟨o2, h2⟩, _⟩ := O.m a hm
          have h3 := Heap.lt_size h2
          rw [← hGhc] at h3
          exact absurd (Nat.lt_of_lt_of_le h3 ha1) (Nat.lt_irrefl _)
      · -- the end
        obtain ⟨ys', ip, σg, Hg, s', h', rfl, hk', L, J, hP, hgl, hrc, _⟩ := hno
        have ey : ys' = ys := by
          rw [hGr] at hrc
          exact recL_inj hrc (recs I3 FS.lst)
        subst ey
        obtain ⟨Hc', J2, c1, c2, c3, c4, c5⟩ := forst_step (X := X) (i := i) (a := a) (g := g) (m := n) (zs := ys') O hst GO.prog GO.w S Z hRs hRa FS L J (fun j v hj => hj) hP.2
        have J3 : Inv X pins σ3 Hc' { s'.setGen g .finished with heap := h' } := J2.call' (ch := []) rfl (Un.kept hk') (J2.hok.kept hk') (allBare_setGen J2.bare rfl) (fun b z => by simp at z)
        exact wpAny_execs_nil ⟨σ3, Hc', J3, hend ys' Hc' σ3 c4 c3 ⟨hP.1, c5⟩ FS.len FS.slots⟩
end
end NA
set_option maxRecDepth 100000
set_option maxHeartbeats 2000000
/-! (a,) + b, laid without tracking what is in between; what a list at R names. -/
namespace NA
open PySem PySem.Spec PyProof.Rows L2 GenW
theorem isTup_grown {s s' : Shared} {t : Addr} {its : Array Value} (g : Grown s s') (h : IsTup s.heap t its) : IsTup s'.heap t its := by
  obtain ⟨o, ho, r⟩ := h
  exact ⟨o, g.keep _ _ ho, r⟩
theorem low_cat {X : Cx} {ir il : Nat} {rn tn : Str} {x1 : Nat} {p1 p2 p3 p4 : Pos} (hr : PEk X (.Name rn p1) (tVar ir)) (hl : PEk X (.Name tn p2) (tVar il))
    {pins : List (Addr × Obj)} {s : Shared} {σ : L2.St} {H : Hp} {vr : V} {t : Addr} {sp : List V} {its : List Value} (I : Inv X pins σ H s) (h1 : σ[ir]? = some (some vr)) (h2 : σ[il]? = some (some (.ref t))) (ht : IsTup s.heap t its.toArray) (hv : Vals sp its) (hne : sp ≠ []) (hz : sp.length < sizeLine)
    (hst : starEach [.Name rn p1] X.env = (false, eval (.Name rn p1) X.env) :: starEach [] X.env := by rfl) :
    wpAny (model X.prog X.w) X.A (eval (.BinOp (.Tuple [.Name rn p1] x1 p3) .Add (.Name tn p2) p4) X.env)
      (fun u s' => ∃ p, u = .ref p ∧ s.heap.objs.size ≤ p ∧ H p = none ∧ Inv X pins σ (upd H p (.tup (vr :: sp))) s' ∧ Grown s s') X.xe s := by
  refine wpAny_BinOp ?_
  refine wpAny_Tuple_spliced (thn ((pak_cons hr pak_nil hst).run p3 pins s σ H (fun vs H' => vs = [vr] ∧ H' = H) I ⟨vr, h1, rfl, rfl⟩) fun us s1 ⟨⟨vs, H1, I1, r, ev, eH⟩, g1⟩ => ?_)
  subst ev
  rw [eH] at I1
  obtain ⟨u, rfl, ru⟩ := r.one
  refine ⟨by rw [sizeLine_eq]; exact (by decide : 1 ≤ 16777216), ?_⟩
  have I2 : Inv X pins σ H { s1 with heap := s1.heap.push { cls := .type "tuple", data := .seq [u].toArray } } := I1.kept (t' := s1.toks) fun b o e => Heap.get?_push_of_some _ e
  have hT : IsTup (s1.heap.push { cls := .type "tuple", data := .seq [u].toArray }) s1.heap.objs.size [u].toArray := IsTup.new _ _
  have gP : Grown s1 { s1 with heap := s1.heap.push { cls := .type "tuple", data := .seq [u].toArray } } := .push _ _
  refine thn (hl.run pins _ σ H (fun v H' => v = .ref t ∧ H' = H) I2 ⟨.ref t, h2, rfl, rfl⟩) fun w s3 ⟨⟨v, H3, I3, rv, ew, eH3⟩, g3⟩ => ?_
  subst ew
  rw [eH3] at I3
  cases rv
  have hT3 := isTup_grown g3 (s := { s1 with heap := s1.heap.push { cls := .type "tuple", data := .seq [u].toArray } }) hT
  have ht3 := isTup_grown ((g1.trans gP).trans g3) ht
  have hnil : its ≠ [] := fun z => hne (hv.nil_iff.mp z)
  refine HT.cat_tup hT3 ht3 (fun z => by cases z) (fun z => absurd z hnil) (fun _ => ?_) (by rw [← hv.length]; show 1 + sp.length ≤ sizeLine; omega)
  have e : s.heap.objs.size ≤ s3.heap.objs.size := ((g1.trans gP).trans g3).size
  refine ⟨s3.heap.objs.size, rfl, e, I3.hok.fresh (Nat.le_refl _), I3.laid (t' := s3.toks) (o := .tup (vr :: sp)) (fun b ob q => Heap.get?_push_of_some _ q) (Nat.le_refl _) ⟨by show sp.length + 1 ≤ sizeLine; omega, u :: its, .cons ru hv, IsTup.new _ _⟩, ((g1.trans gP).trans g3).trans (.push _ _)⟩
/-! ### what the list at R names, at n and above -/
def notCellB (o : Obj) : Bool := match o.data with
  | .cell _ => false
  | _ => true
theorem notCellB_ok {o : Obj} (h : notCellB o = true) : ∀ v, o.data ≠ .cell v := fun v e => by
  unfold notCellB at h
  rw [e] at h
  cases h
def pick (n : Nat) (h : Heap) (v : Value) : Option (Addr × Obj) := match v with
  | .ref t => if n ≤ t then (match h.get? t with
    | some o => if notCellB o = true then some (t, o) else none
    | none => none) else none
  | _ => none
theorem pick_ok {n : Nat} {h : Heap} {v : Value} {p : Addr × Obj} (e : pick n h v = some p) : v = .ref p.1 ∧ n ≤ p.1 ∧ h.get? p.1 = some p.2 ∧ ∀ w, p.2.data ≠ .cell w := by
  cases v with
  | ref t =>
    have e' : (if n ≤ t then (match h.get? t with | some o => if notCellB o = true then some (t, o) else none | none => none) else none) = some p := e
    by_cases hn : n ≤ t
    · rw [if_pos hn] at e'
      cases q : h.get? t with
      | none => rw [q] at e'; cases e'
      | some o =>
        rw [q] at e'
        have e2 : (if notCellB o = true then some (t, o) else none) = some p := e'
        by_cases hc : notCellB o = true
        · rw [if_pos hc] at e2
          cases e2
          exact ⟨rfl, hn, q, notCellB_ok hc⟩
        · rw [if_neg hc] at e2
          cases e2
    · rw [if_neg hn] at e'
      cases e'
  | _ => cases e
theorem pick_of {n : Nat} {h : Heap} {t : Addr} {o : Obj} (hn : n ≤ t) (q : h.get? t = some o) (hc : notCellB o = true) : pick n h (.ref t) = some (t, o) := by
  show (if n ≤ t then (match h.get? t with | some o => if notCellB o = true then some (t, o) else none | none => none) else none) = _
  rw [if_pos hn, q]
  exact if_pos hc
def itemsAt (R : Addr) (h : Heap) : List Value := match h.get? R with
  | some o => (match o.data with
    | .seq its _ => its.toList
    | _ => [])
  | none => []
def dynR (R : Addr) (n : Nat) (h : Heap) : List (Addr × Obj) := (itemsAt R h).filterMap (pick n h)
theorem itemsAt_rec {R : Addr} {ys : List V} {h : Heap} (r : RecL R ys h) : Vals ys (itemsAt R h) := by
  obtain ⟨acc, c, e, rv⟩ := r
  unfold itemsAt
  rw [e]
  exact rv
theorem dynR_ok {R : Addr} {n : Nat} {h : Heap} {p : Addr × Obj} (hp : p ∈ dynR R n h) : h.get? p.1 = some p.2 ∧ n ≤ p.1 ∧ ∀ w, p.2.data ≠ .cell w := by
  obtain ⟨v, _, e⟩ := List.mem_filterMap.mp hp
  obtain ⟨_, h2, h3, h4⟩ := pick_ok e
  exact ⟨h3, h2, h4⟩
theorem vals_mem : ∀ {xs : List V} {us : List Value}, Vals xs us → ∀ {a : Addr}, Value.ref a ∈ us → V.ref a ∈ xs
  | _, _, .nil, _, h => by cases h
  | x :: xs, _, .cons r0 t, a, h => by
    rcases List.mem_cons.mp h with e | h
    · subst e
      have : x = V.ref a := r0.inj (show RelV (.ref a) (.ref a) from rfl)
      rw [this]
      exact List.mem_cons_self
    · exact List.mem_cons_of_mem _ (vals_mem t h)
theorem mem_vals : ∀ {xs : List V} {us : List Value}, Vals xs us → ∀ {a : Addr}, V.ref a ∈ xs → Value.ref a ∈ us
  | _, _, .nil, _, h => by cases h
  | _, u :: us, .cons r0 t, a, h => by
    rcases List.mem_cons.mp h with e | h
    · subst e
      cases r0
      exact List.mem_cons_self
    · exact List.mem_cons_of_mem _ (mem_vals t h)
theorem dynR_of {R : Addr} {n : Nat} {h : Heap} {ys : List V} {p : Addr × Obj} (r : RecL R ys h) (hp : p ∈ dynR R n h) : V.ref p.1 ∈ ys := by
  obtain ⟨v, hv, e⟩ := List.mem_filterMap.mp hp
  obtain ⟨h1, _⟩ := pick_ok e
  subst h1
  exact vals_mem (itemsAt_rec r) hv
theorem dynR_mem {R : Addr} {n : Nat} {h : Heap} {ys : List V} {t : Addr} {o : Obj} (r : RecL R ys h) (ht : V.ref t ∈ ys) (hn : n ≤ t) (q : h.get? t = some o) (hc : notCellB o = true) : (t, o) ∈ dynR R n h :=
  List.mem_filterMap.mpr ⟨_, mem_vals (itemsAt_rec r) ht, pick_of hn q hc⟩
end NA
set_option maxRecDepth 100000
set_option maxHeartbeats 4000000
/-! for b in g(..): yield (a,) + b, within a generator. -/
namespace NA
open PySem PySem.Spec PyProof.Rows L2 GenW
/-- what a caller of such a generator owes -/
def CondR (R : Addr) (G : GA) : Prop := R ∈ G.M ∧ G.Rec = RecL R ∧ (G.Dyn = fun _ => []) ∧ (∀ j, j ≠ G.g → G.prot j) ∧ R ∉ frs G.outer
def tGForG (G : GA) (sp : SpG2) (P : List V → Hp → Prop) (ir il : Nat) (t : TA) : TGn := fun D ys σ H => t σ H fun vs H1 => H1 = H ∧ ∃ (vr : V) (spec : List (List V)), σ[ir]? = some (some vr) ∧ (∀ x ∈ spec, x ≠ [] ∧ x.length < sizeLine) ∧ ys.length + spec.length < sizeLine ∧
  (∀ x, V.ref x ∈ ys → ∃ xs, H x = some (.tup xs)) ∧
  (∀ (L : Addr) (h : Heap), H L = none → (∀ b ∈ G.M, H b = none) → HOk G.prog G.w H h → sp vs (frzH (L :: G.M) h H) spec) ∧
  ∃ W : Nat → List V → Hp → Prop, W 0 ys H ∧
    (∀ j ys' H' x p, W j ys' H' → spec[j]? = some x → H' p = none → P (ys' ++ [.ref p]) (upd H' p (.tup (vr :: x))) ∧ W (j + 1) (ys' ++ [.ref p]) (upd H' p (.tup (vr :: x)))) ∧
    ∀ ys' H' σ', W spec.length ys' H' → σ'.length = σ.length → (∀ j, j ≠ il → σ'[j]? = σ[j]?) → D.nx ys' σ' H'
/-- the state at a turn's head -/
structure FG (G G1 : GA) (ip : List (Addr × Obj)) (spec : List (List V)) (W : Nat → List V → Hp → Prop) (R a : Addr) (g1 il : Nat) (σ0 : L2.St) (H : Hp) (ys0 : List V) (m j n : Nat) (ys : List V) (sw : Shared) (σ : L2.St) (H' : Hp) (s : Shared) : Prop where
  inv : Inv (G.at sw) ip σ H' s
  live : G.Live sw
  gsz : G.g < s.gens.size
  rcs : RecL R ys s.heap
  recw : G.Rec ys sw.heap
  cntY : n + ys.length = sizeLine
  cnt : m + j = sizeLine
  le : j ≤ spec.length
  lys : ys.length = ys0.length + j
  slp : ∃ D0 z, Asleep G.prog G.w G.A.in1 G1 (PIs spec) (PNs spec) g1 m [] D0 z s ∧ ∀ q ∈ G1.Dyn s.heap, D0 q ∨ z ≤ q.1
  fz : ∀ b o v, G1.Hs b = some (.frz o v) → s.heap.get? b = some o
  old : ∀ b u, H' b = some u → ((∃ o, G1.hc.get? b = some o) ∧ H b = some u) ∨ (G1.hc.get? b = none ∧ G1.hc.objs.size ≤ b ∧ (∃ xs, u = .tup xs) ∧ V.ref b ∈ ys)
  mono : ∀ b u, H b = some u → H' b = some u
  gen : s.heap.IsGen a g1
  len : σ.length = σ0.length
  slots : ∀ i, i ≠ il → σ[i]? = σ0[i]?
  w : W j ys H'
  res : ∀ t, V.ref t ∈ ys → ∃ xs, H' t = some (.tup xs)
theorem tup_notCell {P : Program} {w : World} {H : Hp} {h : Heap} {b : Addr} {xs : List V} (x : ObjOk P w H h b (.tup xs)) : ∃ o, h.get? b = some o ∧ notCellB o = true := by
  obtain ⟨_, its, _, o, ho, hc, n, hd⟩ := x
  refine ⟨o, ho, ?_⟩
  unfold notCellB
  rw [hd]
/-- the record at R stands while the generator runs -/
theorem rec_run {G : GA} {R : Addr} {ip : List (Addr × Obj)} {σ : L2.St} {H : Hp} {sw s : Shared} {ys : List V} (O : G.Ok) (L : G.Live sw) (C : CondR R G) (I : Inv (G.at sw) ip σ H s) (r : RecL R ys sw.heap) : RecL R ys s.heap := by
  obtain ⟨hM, _, _, _, hf⟩ := C
  obtain ⟨⟨o, ho⟩, hs, _⟩ := O.m R hM
  obtain ⟨acc, c, e, rv⟩ := r
  exact ⟨acc, c, I.base.keep R _ ((cut_get ho).trans e) hs hf (by simp [GA.at]), rv⟩
section
variable {G : GA} {P : List V → Hp → Prop} {x tn rn : Str} {x1 : Nat} {p p0 p1 p2 p3 p4 pos' pos yp py : Pos} {e : Expr} {es : List Expr} {f : Addr} {fd : FuncData} {ps : List Str} {sp : SpG2} {cond : CondG} {k ir il : Nat} {t : TA} {R : Addr}
theorem gs2_forG (O : G.Ok) (C : CondR R G) (F : GFn2 G.prog G.w G.K G.mg G.base k f fd ps sp cond) (hcond : ∀ G', cond G') (hr : Room (k + 1) G.A) (hg : G.env.kindOf x = some .globalImplicit) (hm : G.mg x = some (.ref f)) (hk : PySem.W.keepIn G.K (.ref f) = true) (hb : Binds G.K fd ps [])
    (ha : ∀ s₀, PAk (G.at s₀) (e :: es) t) (hN : G.N.Nodup) (hi : G.N[il]? = some tn) (hloc : G.env.scope.names.lookup tn = some .local) (hvr : ∀ s₀, PEk (G.at s₀) (.Name rn p1) (tVar ir)) (hvl : ∀ s₀, PEk (G.at s₀) (.Name tn p2) (tVar il)) (hne : ir ≠ il)
    (hdb : (x == ("__debug__" : Str)) = false := by decide)
    (he : starEach (e :: es) G.env = (false, eval e G.env) :: starEach es G.env := by rfl) (hpl : (backTo pos' (starEach es G.env)).any (·.1) = false := by rfl)
    (hs : ∀ v, foldedSetIterable (.Call (.Name x p) (e :: es) [] pos') G.env v = pure v := by intro _; rfl)
    (hst : starEach [.Name rn p1] G.env = (false, eval (.Name rn p1) G.env) :: starEach [] G.env := by rfl) (hco : G.env.scope.isCoroutine = false := by rfl) (hint : interactive G.env = false := by rfl) :
    GS2 G P (.For (.Name tn p0) (.Call (.Name x p) (e :: es) [] pos') [.Expr (.Yield (some (.BinOp (.Tuple [.Name rn p1] x1 p3) .Add (.Name tn p2) p4)) yp) py] [] pos) (tGForG G sp P ir il t) := by
  obtain ⟨hRM, hRec, hDyn, hprot, hRf⟩ := id C
  refine ⟨fun A ip R' n ys s₀ c fs K J gd lv s σ H D g0 hip hn L hgg hrc hsp k0 I ht => ?_⟩
  refine seg_For ?_ hs
  rw [g0.over]
  refine wpAny_Call_Name_kw (ld_glob (X := G.at s₀) I hg hm ?_ hdb)
  refine PySem.W.callWith_K (h₀ := G.base) I.ok.mod.kin hk (thn ((ha s₀).run pos' ip s σ H _ I ht) fun us s1 ⟨⟨vs, H1, I1, r, q⟩, gr1⟩ => ⟨I1.kIn, ?_⟩) he hpl
  obtain ⟨eH, vr, spec, hvr0, hsne, hsz0, hys0, hspc, W, w0, wstep, wend⟩ := q
  subst eH
  have L1 := live_run O L I1
  have mf := m_free O L I1
  have hgl1 : G.g < s1.gens.size := by rw [gr1.gens]; exact hgg
  have hsp' := hspc G.env.locals s1.heap I1.free mf I1.hok
  have r2 : Vals (vs ++ []) (us ++ []) := r.append .nil
  have hl2 : (us ++ ([] : List Value)).length = ps.length := by rw [← r2.length, List.append_nil]; exact F.len _ _ _ hsp'
  have hMa : ∀ b ∈ G.env.locals :: G.M, (∃ o, s1.heap.get? b = some o) ∧ G.base.get? b = none := fun b hb => by
    rcases List.mem_cons.mp hb with rfl | hb
    · obtain ⟨m, ⟨o, _, _, ho, _⟩, _⟩ := I1.loc
      exact ⟨⟨o, ho⟩, Heap.get?_none_of_le (Nat.le_trans O.bsz O.above)⟩
    · obtain ⟨⟨o, ho⟩, _, hb2⟩ := O.m b hb
      exact ⟨L1.there b o ho, hb2⟩
  have hMt : ∀ b ∈ G.env.locals :: G.M, ∀ xs, H1 b ≠ some (.tup xs) := fun b hb xs => by
    rcases List.mem_cons.mp hb with rfl | hb
    · rw [show H1 G.env.locals = none from I1.free]; simp
    · rw [mf b hb]; simp
  refine wpAny_call (codeAny_mono (F.run G.A (G.env :: G.outer) s1 H1 ⟨us, []⟩ (us ++ []) vs (G.env.locals :: G.M) spec (fun _ _ => True) (dynR R s1.heap.objs.size) (fun _ _ => False) (fun h p hp => dynR_ok hp) (fun G' _ _ _ _ _ => hcond G') (hr.mono (Nat.le_succ _)) I1.env0 (hb s1 us I1.kIn hl2) (by rw [List.append_nil]; exact r) hsp' hMa hMt) fun rr s2 hq => ?_)
  cases rr with
  | error _ => exact False.elim hq
  | ok fl =>
    cases fl with
    | next => exact False.elim hq
    | brk => exact False.elim hq
    | cont => exact False.elim hq
    | ret u =>
      obtain ⟨a, g1, c1, rfl, ha1, ha2, hgen, hgs, hos, hbare, hlim, hkeep, hgge, hgk, hsz, wake⟩ := hq
      have hz2 : G.g < s2.gens.size := by
        have h1 : s1.gens[G.g]? = some s1.gens[G.g] := Array.getElem?_eq_getElem hgl1
        exact (Array.getElem?_eq_some_iff.mp (hgk _ _ h1)).1
      have hra : Room k G.A.in1 := (hr.in1 : Room k G.A.in1)
      obtain ⟨G1, GO, wk⟩ := wake G.A.in1 hra I1.ok.frames
      have O1 := GO.ok
      have hG1b : G1.base = G.base := GO.base
      have hG1o : G1.outer = G.env :: G.outer := GO.outer
      have hG1M : G1.M = G.env.locals :: G.M := GO.M
      have hG1hc : s1.heap = G1.hc := GO.hc.symm
      have hG1Hs : G1.Hs = frzH (G.env.locals :: G.M) s1.heap H1 := GO.Hs
      have hG1r : G1.Rec = fun _ _ => True := GO.rc
      have hG1d : G1.Dyn = dynR R s1.heap.objs.size := GO.dy
      have hG1p : ∀ j, G1.prot j → j ≠ g1 := fun j hj => by rw [GO.pr] at hj; exact hj.elim
      have ne1 : g1 ≠ G.g := Nat.ne_of_gt (Nat.lt_of_lt_of_le hgl1 hgge)
      have S : G1.Sub H1 := ⟨fun b u e => by
        rw [hG1Hs] at e
        obtain ⟨_, v, hv, e2⟩ := frz_of e
        rcases frzO_kind e2 with ⟨o, v', rfl⟩ | ⟨xs, rfl⟩
        · exact .inl ⟨o, v', rfl, v, hv⟩
        · refine .inr ⟨xs, rfl, ?_⟩
          cases v with
          | tup ys => cases e2; exact hv
          | lst ys =>
            obtain ⟨o, _, z⟩ := Option.map_eq_some_iff.mp (show (s1.heap.get? b).map (fun o => HO.frz o (.lst ys)) = some (.tup xs) from e2)
            cases z
          | dT ys =>
            obtain ⟨o, _, z⟩ := Option.map_eq_some_iff.mp (show (s1.heap.get? b).map (fun o => HO.frz o (.dT ys)) = some (.tup xs) from e2)
            cases z
          | frz o v' => cases v' <;> cases e2
          | _ => cases e2⟩
      have hokF : ∀ b o v, G1.Hs b = some (.frz o v) → s1.heap.get? b = some o := fun b o v e => by
        rw [hG1Hs] at e
        have := frz_ok (P := G.prog) (w := G.w) I1.hok hMt b _ e
        exact this.1
      -- the consumer's things stood at the creation, whenever it is woken
      have Z : ∀ sw, G.Live sw → Old (G.at sw) ip H1 G1.hc := fun sw Lw => by
        have z := old_of I1
        rw [hG1hc] at z
        refine ⟨z.t, fun b o e _ => ?_, z.l, z.c, fun p hp => ?_⟩
        · obtain ⟨⟨u, hu⟩, _⟩ := of_cut e
          obtain ⟨o1, h1⟩ := L.there b u hu
          exact z.z b o1 ((cut_get hu).trans h1) (by simp [GA.at])
        · refine z.p p ?_
          rcases List.mem_append.mp hp with y | y
          · refine List.mem_append_left _ ?_
            have y' : p ∈ G.pn ++ G.Dyn sw.heap := y
            rw [hDyn] at y'
            rcases List.mem_append.mp y' with y' | y'
            · exact List.mem_append_left _ y'
            · simp at y'
          · exact List.mem_append_right _ y
      have I2 : Inv (G.at s₀) ip σ H1 s2 := I1.call' (ch := []) hos (Un.kept hkeep) (I1.hok.kept hkeep) hbare (fun b z => by simp at z)
      have rc1 : RecL R ys s2.heap := rec_run O L C I2 (by rw [hRec] at hrc; exact hrc)
      have ltn1 : ∀ b u, H1 b = some u → b < s1.heap.objs.size := fun b u e => (I1.hok b u e).lt
      have hdz0 : ∀ q ∈ G1.Dyn s2.heap, s2.heap.objs.size ≤ q.1 := fun q hq => by
        rw [hG1d] at hq
        have h1 := dynR_of rc1 hq
        obtain ⟨xs, h2⟩ := hys0 _ h1
        exact absurd (Nat.lt_of_lt_of_le (ltn1 _ _ h2) (dynR_ok hq).2.1) (Nat.lt_irrefl _)
      refine wpAny_pyIter_gen hgen ?_
      intro kk pp hk'
      have start0 : FG G G1 ip spec W R a g1 il σ H1 ys sizeLine 0 n ys s₀ σ H1 s2 :=
        { inv := I2, live := L, gsz := hz2, rcs := rc1, recw := hrc, cntY := hn, cnt := rfl, le := Nat.zero_le _, lys := rfl,
          slp := ⟨fun _ => False, s2.heap.objs.size, ⟨.fresh c1, hgs, fun s' z hrc' hdq => by
            have z' := wk s' z (by trivial) (fun q hq => by rw [← hG1d] at hq; rcases hdq q hq with y | y; exact y.elim; exact y)
            exact ⟨z'.1, rfl, z'.2⟩⟩, fun q hq => .inr (hdz0 q hq)⟩,
          fz := fun b o v e => hkeep b o (hokF b o v e), old := fun b u e => .inl ⟨by rw [← hG1hc]; exact objOk_get (I1.hok b u e), e⟩, mono := fun _ _ e => e, gen := hgen, len := rfl, slots := fun _ _ => rfl, w := w0, res := hys0 }
      have gl := gc2_loop (k := kk) (c' := .forLoop (.Name tn p0) (.ref a) [.Expr (.Yield (some (.BinOp (.Tuple [.Name rn p1] x1 p3) .Add (.Name tn p2) p4)) yp) py] [] G.env) (l := lv []) (kp := []) (p := pp) g0 rfl rfl
      have loop : ∀ (d m j n : Nat) (ysc : List V) (sw : Shared) (σ3 : L2.St) (H' : Hp) (s3 : Shared), d = spec.length - j → FG G G1 ip spec W R a g1 il σ H1 ys m j n ysc sw σ3 H' s3 →
          Seg (model G.prog G.w) A R' (G.Y P) n sw (.forLoop (.Name tn p0) (.ref a) [.Expr (.Yield (some (.BinOp (.Tuple [.Name rn p1] x1 p3) .Add (.Name tn p2) p4)) yp) py] [] G.env)
            ((model G.prog G.w).den (.forLoop (.Name tn p0) (.ref a) [.Expr (.Yield (some (.BinOp (.Tuple [.Name rn p1] x1 p3) .Add (.Name tn p2) p4)) yp) py] [] G.env)) (.ret kk none (gd false) (lv []) c pp [] :: fs) s3 := by
        intro d
        induction d using Nat.strongRecOn with
        | ind d ih =>
          intro m j n ysc sw σ3 H' s3 hd FS
          have I3 := FS.inv
          have Lw := FS.live
          obtain ⟨D0, z, hsl, hdz⟩ := FS.slp
          refine seg_forLoop ?_
          rw [gl.over]
          refine wpAny_mono (Q := fun r s4 => (∃ v, r = some v ∧ Item G.prog G.w G.A.in1 G1 (PIs spec) (PNs spec) g1 m s3 v s4) ∨ (r = none ∧ NoMore G1 (PNs spec) g1 m s3 s4)) (E := fun _ _ => False)
            (next_gen (n := m) (ys0 := []) GO hG1p O.hd I3.nolimit (by have := hr.dp; omega) FS.gen I3.bare (by rw [hG1b, hG1o]; exact I3.stack) hsl (by rw [hG1r]; trivial) hdz (fun v s1 h => .inl ⟨v, rfl, h⟩) (fun s1 h => .inr ⟨rfl, h⟩)) (fun r s4 h4 => ?_) fun _ _ z => False.elim z
          -- the other generator's knowledge of the old world
          have hcur : ∀ b o, G1.hc.get? b = some o → G1.Hs b ≠ none → H' b = H1 b := fun b o e hn => by
            cases q : H' b with
            | some u =>
              rcases FS.old b u q with ⟨_, h⟩ | ⟨h, _⟩
              · exact h.symm
              · rw [h] at e; cases e
            | none =>
              cases q2 : H1 b with
              | none => rfl
              | some u => rw [FS.mono b u q2] at q; cases q
          have I3' : Inv (G.at sw) ip σ3 H' (s3.setGen g1 .running) := I3.call' (ch := []) rfl Un.refl I3.hok (allBare_setGen I3.bare rfl) (fun b z => by simp at z)
          have hnew : ∀ b u, H' b = some u → ((∃ o, G1.hc.get? b = some o) ∧ H' b = some u) ∨ (G1.hc.get? b = none ∧ ∃ xs, u = .tup xs ∧ (none : Option HO) = some (.tup xs)) ∨ (G1.hc.get? b = none ∧ H' b = some u ∧ (∃ xs, u = .tup xs) ∧ ∃ o, (b, o) ∈ G1.Dyn (s3.setGen g1 .running).heap) := fun b u q => by
            rcases FS.old b u q with ⟨h, _⟩ | ⟨h1, h2, ⟨xs, rfl⟩, h4⟩
            · exact .inl ⟨h, q⟩
            · refine .inr (.inr ⟨h1, q, ⟨xs, rfl⟩, ?_⟩)
              obtain ⟨o, ho, hcl⟩ := tup_notCell (I3.hok b _ q)
              refine ⟨o, ?_⟩
              rw [hG1d]
              exact dynR_mem FS.rcs h4 (by rw [hG1hc]; exact h2) ho hcl
          -- the consumer behind the generator's run
          have after : ∀ {s' : Shared} {ipg : List (Addr × Obj)} {σg : L2.St} {Hg : Hp}, G1.Live (s3.setGen g1 .running) → Inv (G1.at (s3.setGen g1 .running)) ipg σg Hg s' → Inv (G.at sw) ip σ3 H' s' := fun {s' ipg σg Hg} Lg Jg =>
            cons_run (X := G.at sw) O1 Lg hG1o GO.prog GO.w S (Z sw Lw) I3' hcur (fun b o v e => FS.fz b o v e) Jg (fun _ _ e => e) (fun b u q => by
              rcases hnew b u q with h | ⟨_, _, _, h⟩ | h
              · exact .inl h
              · cases h
              · exact .inr (.inr h))
          rcases h4 with ⟨v, rfl, hit⟩ | ⟨rfl, hno⟩
          · -- an item
            obtain ⟨ys1, xv, ipg, σg, Hg, s', gs', rfl, hbr, rv, Lg, Jg, hP, hcnt, hgl, _, hgo⟩ := hit
            have hle : (ys1 ++ [xv]).length ≤ spec.length := hP.1
            rw [List.length_append, List.length_singleton] at hle
            have hcn := FS.cnt
            have hjle := FS.le
            obtain ⟨m, rfl⟩ : ∃ m', m = m' + 1 := ⟨m - 1, by omega⟩
            have hl1 : ys1.length = j := by omega
            obtain ⟨t, spj, rfl, hspj, hHt⟩ := hP.2 j xv (by rw [← hl1, List.getElem?_append_right (Nat.le_refl _), Nat.sub_self]; rfl)
            obtain ⟨hspne, hsplt⟩ := hsne spj (List.mem_of_getElem? hspj)
            obtain ⟨_, its, rvs, isT⟩ := Jg.hok t _ hHt
            have J2 := after Lg Jg
            have J3 : Inv (G.at sw) ip σ3 H' (s'.setGen g1 gs') := J2.call' (ch := []) rfl Un.refl J2.hok (allBare_setGen J2.bare hbr) (fun b z => by simp at z)
            have htL : t ≠ G.env.locals := fun e => by
              obtain ⟨mm, ⟨o, es2, ep, ho, hd2, _⟩, _⟩ := J2.loc
              obtain ⟨o2, ho2, _, n2, hd3⟩ := isT
              rw [e] at ho2
              rw [show s'.heap.get? G.env.locals = some o from ho] at ho2
              cases ho2
              rw [hd2] at hd3
              cases hd3
            refine wpAny_pure ?_
            refine low_store (X := G.at sw) J3 hN hi hloc rv (fun s5 I5 b5 => ?_)
            intro J'
            have hcy := FS.cntY
            have hly := FS.lys
            obtain ⟨n, rfl⟩ : ∃ n', n = n' + 1 := ⟨n - 1, by omega⟩
            refine seg_execs_cons ?_
            refine seg_Expr_Yield gl.split gl.gd gl.guard ?_ hco hint
            rw [gl.over]
            have isT5 : IsTup s5.heap t its.toArray := by
              obtain ⟨o2, ho2, r3⟩ := isT
              exact ⟨o2, b5.keep t o2 (fun z => htL (List.mem_singleton.mp z)) ho2, r3⟩
            have hσr : (σ3.set il (some (.ref t)))[ir]? = some (some vr) := by
              rw [List.getElem?_set_ne (Ne.symm hne), FS.slots ir hne]
              exact hvr0
            have hσl : (σ3.set il (some (.ref t)))[il]? = some (some (.ref t)) := by
              have hlt : il < σ3.length := by
                rw [I3.len]
                exact (List.getElem?_eq_some_iff.mp hi).1
              rw [List.getElem?_set_self hlt]
            refine wpAny_mono (low_cat (X := G.at sw) (hvr sw) (hvl sw) I5 hσr hσl isT5 rvs hspne hsplt hst) (fun u s6 h6 => ?_) fun _ _ z => False.elim z
            obtain ⟨p, rfl, hp5, hpn, I6, g6⟩ := h6
            obtain ⟨hPp, hWp⟩ := wstep j ysc H' spj p FS.w hspj hpn
            intro kap hkap
            refine ⟨ysc, .ref p, ip, _, _, hcy, rfl, I6, hPp, FS.recw, fun s'' ry hrc'' _ => hkap .none s'' ?_⟩
            refine seg_execs_nil ?_
            show Seg _ _ _ _ n s'' _ (.pure (.again _)) _ s''
            refine seg_again rfl ?_
            have Lw6 := live_run O Lw I6
            have hdyn0 : ∀ q ∈ G.Dyn s''.heap, q ∈ G.Dyn sw.heap ∨ s6.heap.objs.size ≤ q.1 := fun q hq => by
              rw [hDyn] at hq
              simp at hq
            have I7 := woken O Lw I6 hip ry hdyn0
            have L7 := live_rely O Lw6 ry
            have chain : ∀ b o, b ∉ G.env.locals :: G.M → s'.heap.get? b = some o → s''.heap.get? b = some o := fun b o hb e =>
              ry.keep b o (fun z => hb (List.mem_cons_of_mem _ z)) (g6.keep b o (b5.keep b o (fun z => hb (by rw [List.mem_singleton.mp z]; exact List.mem_cons_self)) e))
            have hgens6 : s6.gens = (s'.setGen g1 gs').gens := g6.gens.trans b5.gens
            have hsz6 : s'.heap.objs.size ≤ s6.heap.objs.size := Nat.le_trans b5.size g6.size
            have ry1 : G1.Rely s' s'' := by
              refine ⟨ry.os.trans (g6.os.trans b5.os), ry.bare, fun b o hb e => chain b o (by rw [← hG1M]; exact hb) e, fun b hb _ => ?_, by rw [hG1b, hG1o]; exact I7.stack, Nat.le_trans hsz6 ry.size, fun q x hq _ => by rw [GO.pr] at hq; exact hq.elim, ?_⟩
              · rw [hG1M] at hb
                rcases List.mem_cons.mp hb with rfl | hb
                · obtain ⟨mm, ⟨o, _, _, ho, _⟩, _⟩ := I7.loc
                  exact ⟨o, ho⟩
                · obtain ⟨⟨o, ho⟩, _⟩ := O.m b hb
                  exact L7.there b o ho
              · refine Nat.le_trans ?_ ry.gsz
                rw [hgens6, setGen_size]
                exact Nat.le_refl _
            have hrcR : RecL R (ysc ++ [.ref p]) s''.heap := by rw [hRec] at hrc''; exact hrc''
            have n1p : G1.hc.objs.size ≤ p := by
              rw [← hG1hc]
              have h1 : s1.heap.objs.size ≤ s'.heap.objs.size := by
                have := (live_run O1 Lg Jg).size
                rw [← hG1hc] at this
                exact this
              exact Nat.le_trans h1 (Nat.le_trans b5.size hp5)
            have nMy : ∀ b, G1.hc.objs.size ≤ b → b ∉ G.env.locals :: G.M := fun b hb hm => by
              obtain ⟨⟨o, ho⟩, _⟩ := hMa b hm
              have h1 := Heap.lt_size ho
              rw [hG1hc] at h1
              exact absurd (Nat.lt_of_lt_of_le h1 hb) (Nat.lt_irrefl _)
            refine ih (spec.length - (j + 1)) (by omega) m (j + 1) n (ysc ++ [.ref p]) s'' (σ3.set il (some (.ref t))) (upd H' p (.tup (vr :: spj))) s'' rfl ?_
            refine { inv := I7, live := L7, gsz := ?_, rcs := hrcR, recw := hrc'', cntY := ?_, cnt := by omega, le := by omega, lys := ?_, slp := ⟨fun q => q ∈ G1.Dyn (s3.setGen g1 .running).heap, s'.heap.objs.size, ⟨gs', ?_, fun s9 z9 _ hd9 => hgo m rfl s9 (ry1.trans z9) (by rw [hG1r]; trivial) hd9⟩, fun q hq => ?_⟩, fz := fun b o v' e => ?_, old := fun b u e => ?_, mono := fun b u e => ?_, gen := ?_, len := by rw [List.length_set]; exact FS.len, slots := fun i hi' => by rw [List.getElem?_set_ne (Ne.symm hi')]; exact FS.slots i hi', w := hWp, res := fun b hb => ?_ }
            · refine Nat.lt_of_lt_of_le ?_ ry.gsz
              rw [hgens6, setGen_size]
              exact Nat.lt_trans (Nat.lt_of_lt_of_le hgl1 hgge) hgl
            · rw [List.length_append, List.length_singleton]; omega
            · rw [List.length_append, List.length_singleton]; omega
            · refine ry.gens g1 _ (hprot g1 ne1) ?_
              rw [hgens6]
              exact setGen_at hgl
            · -- what the record names: old, or new
              rw [hG1d] at hq
              obtain ⟨hq1, hq2, hq3⟩ := dynR_ok hq
              rcases List.mem_append.mp (dynR_of hrcR hq) with hm | hm
              · refine .inl ?_
                obtain ⟨xs, hx⟩ := FS.res _ hm
                obtain ⟨o, ho, hcl⟩ := tup_notCell (I3.hok _ _ hx)
                have hd3 : (q.1, o) ∈ G1.Dyn (s3.setGen g1 .running).heap := by
                  rw [hG1d]
                  exact dynR_mem FS.rcs hm hq2 ho hcl
                have h7 := (Jg.pin (q.1, o) (List.mem_append_left _ (List.mem_append_right _ hd3))).1
                have h8 := chain q.1 o (nMy _ (by rw [← hG1hc]; exact hq2)) h7
                rw [hq1] at h8
                have : q = (q.1, o) := by
                  cases h8
                  rfl
                rw [this]
                exact hd3
              · refine .inr ?_
                have : q.1 = p := by
                  have h9 := List.mem_singleton.mp hm
                  cases h9
                  rfl
                rw [this]
                exact Nat.le_trans b5.size hp5
            · have hb : Hg b = some (.frz o v') := Jg.base.frzs b o v' e
              obtain ⟨z, _⟩ := Jg.hok b _ hb
              refine chain b o (fun hm => ?_) z
              rw [← hG1M] at hm
              have := (O1.m b hm).2.1
              rw [e] at this
              cases this
            · by_cases hb : b = p
              · subst hb
                rw [upd_same] at e
                cases e
                refine .inr ⟨Heap.get?_none_of_le n1p, n1p, ⟨_, rfl⟩, List.mem_append_right _ (List.mem_singleton.mpr rfl)⟩
              · rw [upd_ne hb] at e
                rcases FS.old b u e with h | ⟨h1, h2, h3, h4⟩
                · exact .inl h
                · exact .inr ⟨h1, h2, h3, List.mem_append_left _ h4⟩
            · have h1 := FS.mono b u e
              rw [upd_ne (fun z => by rw [z, hpn] at h1; cases h1)]
              exact h1
            · obtain ⟨o, nm, qn, ho, hcl⟩ := GO.gen s'.heap fun p hp => (Jg.pin p (List.mem_append_left _ (List.mem_append_left _ hp))).1
              exact ⟨o, nm, qn, chain a o (nMy a (by rw [← hG1hc]; exact ha1)) ho, hcl⟩
            · by_cases hbp : b = p
              · exact ⟨_, by rw [hbp, upd_same]⟩
              · rw [upd_ne hbp]
                rcases List.mem_append.mp hb with hm | hm
                · exact FS.res b hm
                · have h9 := List.mem_singleton.mp hm
                  cases h9
                  exact absurd rfl hbp
          · -- no more
            obtain ⟨ys1, ipg, σg, Hg, s', h', rfl, hk2, Lg, Jg, hP, hgl, _, hcnt⟩ := hno
            have J2 := after Lg Jg
            have hj : j = spec.length := by
              have := hP.1
              have := FS.cnt
              omega
            subst hj
            have J3 : Inv (G.at sw) ip σ3 H' { s'.setGen g1 .finished with heap := h' } := J2.call' (ch := []) rfl (Un.kept hk2) (J2.hok.kept hk2) (allBare_setGen J2.bare rfl) (fun b z => by simp at z)
            refine seg_block_nil ?_
            refine seg_leaf (.ok .next) (hk' .next _ n sw (k0 n ysc sw _ .next FS.cntY Lw ?_ FS.recw (fun p hp q hq => by rw [hDyn] at hq; simp at hq) ⟨σ3, H', J3, wend ysc H' σ3 FS.w FS.len FS.slots⟩))
            show G.g < (s'.setGen g1 .finished).gens.size
            rw [setGen_size]
            exact Nat.lt_trans (Nat.lt_of_lt_of_le hgl1 hgge) hgl
      exact loop _ sizeLine 0 n ys s₀ σ H1 s2 rfl start0
end
end NA
set_option maxRecDepth 100000
set_option maxHeartbeats 1000000
/-! Words of all defs: rooms as tuples of whole numbers, heaps that only grow. -/
namespace NA
open PySem PySem.Spec PyProof.Rows L2
def iV (r : List Int) : List V := r.map V.int
def kI (r : List Int) : List Key := r.map Sum.inl
theorem kI_kV (r : List Int) : (kI r).map kV = iV r := by
  unfold kI iV
  rw [List.map_map]
  rfl
theorem kI_inj {r q : List Int} (h : kI r = kI q) : r = q := by
  have : Function.Injective (Sum.inl : Int → Key) := fun a b e => by cases e; rfl
  exact (List.map_inj_right fun a b e => this e).mp h
def TI (H : Hp) (x : V) (r : List Int) : Prop := ∃ t, x = .ref t ∧ H t = some (.tup (iV r))
def Ext (H H' : Hp) : Prop := ∀ b u, H b = some u → H' b = some u
theorem Ext.refl (H : Hp) : Ext H H := fun _ _ e => e
theorem Ext.trans {H H' H'' : Hp} (a : Ext H H') (b : Ext H' H'') : Ext H H'' := fun x u e => b x u (a x u e)
theorem Ext.upd {H : Hp} {p : Addr} {u : HO} (h : H p = none) : Ext H (upd H p u) := fun b v e => by
  rw [upd_ne (fun z => by rw [z, h] at e; cases e)]
  exact e
theorem rd_ext {H H' : Hp} {a : Addr} {u : HO} (h : Rd H a u) (e : Ext H H') : Rd H' a u := by
  rcases h with h | ⟨o, h⟩
  · exact .inl (e _ _ h)
  · exact .inr ⟨o, e _ _ h⟩
theorem TI.ext {H H' : Hp} {x : V} {r : List Int} (h : TI H x r) (e : Ext H H') : TI H' x r := by
  obtain ⟨t, rfl, h⟩ := h
  exact ⟨t, rfl, e _ _ h⟩
theorem TI.inj {H : Hp} {x : V} {r q : List Int} (h : TI H x r) (h' : TI H x q) : r = q := by
  obtain ⟨t, rfl, h⟩ := h
  obtain ⟨t', e, h'⟩ := h'
  cases e
  rw [h] at h'
  have : iV r = iV q := HO.tup.inj (Option.some.inj h')
  exact (List.map_inj_right fun a b e => by cases e; rfl).mp this
/-- tuples of whole numbers, one by one -/
def TIs (H : Hp) (xs : List V) (rs : List (List Int)) : Prop := xs.length = rs.length ∧ ∀ (i : Nat) (r : List Int), rs[i]? = some r → ∃ t, xs[i]? = some (.ref t) ∧ H t = some (.tup (iV r))
theorem TIs.ext {H H' : Hp} {xs : List V} {rs : List (List Int)} (h : TIs H xs rs) (e : Ext H H') : TIs H' xs rs := ⟨h.1, fun i r hr => by
  obtain ⟨t, h1, h2⟩ := h.2 i r hr
  exact ⟨t, h1, e _ _ h2⟩⟩
theorem TIs.mono {H H' : Hp} {xs : List V} {rs : List (List Int)} (h : TIs H xs rs) (e : ∀ b ys, H b = some (.tup ys) → H' b = some (.tup ys)) : TIs H' xs rs := ⟨h.1, fun i r hr => by
  obtain ⟨t, h1, h2⟩ := h.2 i r hr
  exact ⟨t, h1, e _ _ h2⟩⟩
theorem TIs.nil {H : Hp} : TIs H [] [] := ⟨rfl, fun i r h => by cases i <;> cases h⟩
theorem TIs.at {H : Hp} {xs : List V} {rs : List (List Int)} (h : TIs H xs rs) {i : Nat} {x : V} (e : xs[i]? = some x) : ∃ r, rs[i]? = some r ∧ TI H x r := by
  have hl : i < rs.length := by rw [← h.1]; exact (List.getElem?_eq_some_iff.mp e).1
  have e2 : rs[i]? = some rs[i] := List.getElem?_eq_getElem hl
  obtain ⟨t, h1, h2⟩ := h.2 i _ e2
  rw [e] at h1
  cases h1
  exact ⟨_, e2, t, rfl, h2⟩
theorem TIs.snoc {H : Hp} {xs : List V} {rs : List (List Int)} {x : V} {r : List Int} (h : TIs H xs rs) (hx : TI H x r) : TIs H (xs ++ [x]) (rs ++ [r]) := by
  refine ⟨by rw [List.length_append, List.length_append, h.1]; rfl, fun i q e => ?_⟩
  by_cases hi : i < rs.length
  · rw [List.getElem?_append_left hi] at e
    rw [List.getElem?_append_left (by rw [h.1]; exact hi)]
    exact h.2 i q e
  · rw [List.getElem?_append_right (Nat.le_of_not_lt hi)] at e
    rw [List.getElem?_append_right (by rw [h.1]; exact Nat.le_of_not_lt hi), h.1]
    have : i - rs.length = 0 := by
      have := (List.getElem?_eq_some_iff.mp e).1
      simp at this
      omega
    rw [this] at e ⊢
    cases e
    obtain ⟨t, rfl, h2⟩ := hx
    exact ⟨t, rfl, h2⟩
theorem TIs.cons {H : Hp} {xs : List V} {rs : List (List Int)} {x : V} {r : List Int} (hx : TI H x r) (h : TIs H xs rs) : TIs H (x :: xs) (r :: rs) := by
  refine ⟨by rw [List.length_cons, List.length_cons, h.1], fun i q e => ?_⟩
  cases i with
  | zero =>
    cases e
    obtain ⟨t, rfl, h2⟩ := hx
    exact ⟨t, rfl, h2⟩
  | succ i => exact h.2 i q e
theorem TIs.head {H : Hp} {xs : List V} {rs : List (List Int)} {x : V} {r : List Int} (h : TIs H (x :: xs) (r :: rs)) : TI H x r := by
  obtain ⟨t, h1, h2⟩ := h.2 0 r rfl
  cases h1
  exact ⟨t, rfl, h2⟩
theorem TIs.tail {H : Hp} {xs : List V} {rs : List (List Int)} {x : V} {r : List Int} (h : TIs H (x :: xs) (r :: rs)) : TIs H xs rs := ⟨by have := h.1; simp at this; exact this, fun i q e => h.2 (i + 1) q e⟩
theorem TIs.inj {H : Hp} {xs : List V} {rs qs : List (List Int)} (h : TIs H xs rs) (h' : TIs H xs qs) : rs = qs := by
  refine List.ext_getElem? fun i => ?_
  cases e : xs[i]? with
  | none =>
    have := List.getElem?_eq_none_iff.mp e
    rw [List.getElem?_eq_none_iff.mpr (by rw [← h.1]; exact this), List.getElem?_eq_none_iff.mpr (by rw [← h'.1]; exact this)]
  | some x =>
    obtain ⟨r, e1, h1⟩ := h.at e
    obtain ⟨q, e2, h2⟩ := h'.at e
    rw [e1, e2, h1.inj h2]
theorem iV_flat (r : List Int) : (iV r).all flatV = true := by
  unfold iV
  rw [List.all_map]
  exact List.all_eq_true.mpr fun _ _ => rfl
theorem iV_in (p : Int) (r : List Int) : inV (.int p) (iV r) = decide (p ∈ r) := by
  unfold iV inV
  rw [List.any_map]
  induction r with
  | nil => rfl
  | cons a r ih =>
    rw [List.any_cons, ih]
    show ((a == p) || decide (p ∈ r)) = decide (p ∈ a :: r)
    by_cases h : a = p
    · subst h; simp
    · have : ¬ p = a := fun z => h z.symm
      simp [h, this]
theorem iV_len (r : List Int) : (iV r).length = r.length := List.length_map ..
theorem iV_get {r : List Int} {i : Nat} {x : V} (h : (iV r)[i]? = some x) : ∃ n, r[i]? = some n ∧ x = .int n := by
  unfold iV at h
  rw [List.getElem?_map] at h
  cases e : r[i]? with
  | none => rw [e] at h; cases h
  | some n => rw [e] at h; cases h; exact ⟨n, rfl, rfl⟩
theorem iV_at {r : List Int} {i : Nat} {n : Int} (h : r[i]? = some n) : (iV r)[i]? = some (.int n) := by
  unfold iV
  rw [List.getElem?_map, h]
  rfl
theorem take_succ_filter {α : Type} {p : α → Bool} {l : List α} {i : Nat} {a : α} (h : l[i]? = some a) : (l.take (i + 1)).filter p = (l.take i).filter p ++ (if p a = true then [a] else []) := by
  rw [List.take_succ, h, List.filter_append]
  simp only [Option.toList_some]
  by_cases q : p a = true
  · rw [if_pos q, List.filter_cons_of_pos q]; rfl
  · rw [if_neg q, List.filter_cons_of_neg q]; rfl
/-- the rest of these places -/
def sub (l r : List Int) : List Int := l.filter fun p => !decide (p ∈ r)
theorem sub_len (l r : List Int) : (sub l r).length ≤ l.length := List.length_filter_le ..
end NA
set_option maxRecDepth 100000
namespace NA
open PySem PySem.Spec PyProof.Rows L2
abbrev FnP (K : PySem.W.Frag) (x : Str) (st : Stmt) (f : Addr) (fd : FuncData) : Prop := FunD K x x (defArgs st) (defBody st) (defScope st) [] [] f fd
/-- what stands behind the head -/
structure Fx (K : PySem.W.Frag) (mg : Str → Option Value) where
  fd_faces : FuncData
  F_faces : FnP K "faces" sFaces (He.ga K "faces") fd_faces
  g_faces : mg "faces" = some (.ref (He.ga K "faces"))
  fd_merged : FuncData
  F_merged : FnP K "merged" sMerged (He.ga K "merged") fd_merged
  g_merged : mg "merged" = some (.ref (He.ga K "merged"))
  fd_complement : FuncData
  F_complement : FnP K "complement" sComplement (He.ga K "complement") fd_complement
  g_complement : mg "complement" = some (.ref (He.ga K "complement"))
  fd_shuffle_sign : FuncData
  F_shuffle_sign : FnP K "shuffle_sign" sShuffle (He.ga K "shuffle_sign") fd_shuffle_sign
  g_shuffle_sign : mg "shuffle_sign" = some (.ref (He.ga K "shuffle_sign"))
  fd_room_fault : FuncData
  F_room_fault : FnP K "room_fault" sRoomFault (He.ga K "room_fault") fd_room_fault
  g_room_fault : mg "room_fault" = some (.ref (He.ga K "room_fault"))
  fd_face_counts : FuncData
  F_face_counts : FnP K "face_counts" sFaceCounts (He.ga K "face_counts") fd_face_counts
  g_face_counts : mg "face_counts" = some (.ref (He.ga K "face_counts"))
  fd_check_labels : FuncData
  F_check_labels : FnP K "check_labels" sCheckLabels (He.ga K "check_labels") fd_check_labels
  g_check_labels : mg "check_labels" = some (.ref (He.ga K "check_labels"))
  fd_label_book : FuncData
  F_label_book : FnP K "label_book" sLabelBook (He.ga K "label_book") fd_label_book
  g_label_book : mg "label_book" = some (.ref (He.ga K "label_book"))
  fd_list_partitions : FuncData
  F_list_partitions : FunD K "list_partitions" "list_partitions" (defArgs sListPart) (defBody sListPart) (defScope sListPart) [] [("most", .int 5000)] (He.ga K "list_partitions") fd_list_partitions
  g_list_partitions : mg "list_partitions" = some (.ref (He.ga K "list_partitions"))
  fd_count_partitions : FuncData
  F_count_partitions : FnP K "count_partitions" sCountPart (He.ga K "count_partitions") fd_count_partitions
  g_count_partitions : mg "count_partitions" = some (.ref (He.ga K "count_partitions"))
  fd_extended_ways : FuncData
  F_extended_ways : FnP K "extended_ways" sExtWays (He.ga K "extended_ways") fd_extended_ways
  g_extended_ways : mg "extended_ways" = some (.ref (He.ga K "extended_ways"))
  fd_tail_ways : FuncData
  F_tail_ways : FnP K "tail_ways" sTailWays (He.ga K "tail_ways") fd_tail_ways
  g_tail_ways : mg "tail_ways" = some (.ref (He.ga K "tail_ways"))
  fd_count_choices : FuncData
  F_count_choices : FnP K "count_choices" sCountChoices (He.ga K "count_choices") fd_count_choices
  g_count_choices : mg "count_choices" = some (.ref (He.ga K "count_choices"))
  fd_walk_choices : FuncData
  F_walk_choices : FnP K "walk_choices" sWalk (He.ga K "walk_choices") fd_walk_choices
  g_walk_choices : mg "walk_choices" = some (.ref (He.ga K "walk_choices"))
  fd_list_choices : FuncData
  F_list_choices : FnP K "list_choices" sListChoices (He.ga K "list_choices") fd_list_choices
  g_list_choices : mg "list_choices" = some (.ref (He.ga K "list_choices"))
  fd_check_labels2 : FuncData
  F_check_labels2 : FnP K "_check_labels" sCheckLabels2 (He.ga K "_check_labels") fd_check_labels2
  g_check_labels2 : mg "_check_labels" = some (.ref (He.ga K "_check_labels"))
  fd_full_rooms : FuncData
  F_full_rooms : FnP K "full_rooms" sFullRooms (He.ga K "full_rooms") fd_full_rooms
  g_full_rooms : mg "full_rooms" = some (.ref (He.ga K "full_rooms"))
  fd_label_family : FuncData
  F_label_family : FnP K "label_family" sLabelFamily (He.ga K "label_family") fd_label_family
  g_label_family : mg "label_family" = some (.ref (He.ga K "label_family"))
  fd_law_cell : FuncData
  F_law_cell : FnP K "_law_cell" sCell (He.ga K "_law_cell") fd_law_cell
  g_law_cell : mg "_law_cell" = some (.ref (He.ga K "_law_cell"))
  fd_law_same : FuncData
  F_law_same : FnP K "_law_same" sSame (He.ga K "_law_same") fd_law_same
  g_law_same : mg "_law_same" = some (.ref (He.ga K "_law_same"))
  fd_law_order : FuncData
  F_law_order : FnP K "_law_order" sOrder (He.ga K "_law_order") fd_law_order
  g_law_order : mg "_law_order" = some (.ref (He.ga K "_law_order"))
  fd_law_rooms : FuncData
  F_law_rooms : FnP K "_law_rooms" sRooms (He.ga K "_law_rooms") fd_law_rooms
  g_law_rooms : mg "_law_rooms" = some (.ref (He.ga K "_law_rooms"))
  fd_law_some_rooms : FuncData
  F_law_some_rooms : FnP K "_law_some_rooms" sSomeRooms (He.ga K "_law_some_rooms") fd_law_some_rooms
  g_law_some_rooms : mg "_law_some_rooms" = some (.ref (He.ga K "_law_some_rooms"))
  fd_law_even_rooms : FuncData
  F_law_even_rooms : FnP K "_law_even_rooms" sEvenRooms (He.ga K "_law_even_rooms") fd_law_even_rooms
  g_law_even_rooms : mg "_law_even_rooms" = some (.ref (He.ga K "_law_even_rooms"))
  fd_law_table : FuncData
  F_law_table : FnP K "_law_table" sTable (He.ga K "_law_table") fd_law_table
  g_law_table : mg "_law_table" = some (.ref (He.ga K "_law_table"))
  fd_law_odd : FuncData
  F_law_odd : FnP K "_law_odd" sOdd (He.ga K "_law_odd") fd_law_odd
  g_law_odd : mg "_law_odd" = some (.ref (He.ga K "_law_odd"))
  fd_law_turns : FuncData
  F_law_turns : FnP K "_law_turns" sTurns (He.ga K "_law_turns") fd_law_turns
  g_law_turns : mg "_law_turns" = some (.ref (He.ga K "_law_turns"))
  fd_law_labels : FuncData
  F_law_labels : FnP K "_law_labels" sLabels (He.ga K "_law_labels") fd_law_labels
  g_law_labels : mg "_law_labels" = some (.ref (He.ga K "_law_labels"))
  fd_law_spoilt : FuncData
  F_law_spoilt : FnP K "_law_spoilt" sSpoilt (He.ga K "_law_spoilt") fd_law_spoilt
  g_law_spoilt : mg "_law_spoilt" = some (.ref (He.ga K "_law_spoilt"))
  fd_law_due : FuncData
  F_law_due : FnP K "_law_due" sDue (He.ga K "_law_due") fd_law_due
  g_law_due : mg "_law_due" = some (.ref (He.ga K "_law_due"))
  fd_law_refused : FuncData
  F_law_refused : FnP K "_law_refused" sRefused (He.ga K "_law_refused") fd_law_refused
  g_law_refused : mg "_law_refused" = some (.ref (He.ga K "_law_refused"))
  fd_law_book : FuncData
  F_law_book : FnP K "_law_book" sLBook (He.ga K "_law_book") fd_law_book
  g_law_book : mg "_law_book" = some (.ref (He.ga K "_law_book"))
  fd_law_rest : FuncData
  F_law_rest : FnP K "_law_rest" sRest (He.ga K "_law_rest") fd_law_rest
  g_law_rest : mg "_law_rest" = some (.ref (He.ga K "_law_rest"))
  fd_law_full : FuncData
  F_law_full : FnP K "_law_full" sFull (He.ga K "_law_full") fd_law_full
  g_law_full : mg "_law_full" = some (.ref (He.ga K "_law_full"))
  fd_law_right : FuncData
  F_law_right : FnP K "_law_right" sRight (He.ga K "_law_right") fd_law_right
  g_law_right : mg "_law_right" = some (.ref (He.ga K "_law_right"))
  fd_law_small : FuncData
  F_law_small : FnP K "_law_small" sSmall (He.ga K "_law_small") fd_law_small
  g_law_small : mg "_law_small" = some (.ref (He.ga K "_law_small"))
  fd_law : FuncData
  F_law : FnP K "law" sLaw (He.ga K "law") fd_law
  g_law : mg "law" = some (.ref (He.ga K "law"))
  fd_Book_init : FuncData
  F_Book_init : FunD K "__init__" "Book.__init__" (defArgs sBookI) (defBody sBookI) (defScope sBookI) [] [] (He.ma K (He.ga K "Book") "__init__") fd_Book_init
  fd_Book_iter : FuncData
  F_Book_iter : FunD K "__iter__" "Book.__iter__" (defArgs sBookIter) (defBody sBookIter) (defScope sBookIter) [] [] (He.ma K (He.ga K "Book") "__iter__") fd_Book_iter
  fd_Book_len : FuncData
  F_Book_len : FunD K "__len__" "Book.__len__" (defArgs sBookLen) (defBody sBookLen) (defScope sBookLen) [] [] (He.ma K (He.ga K "Book") "__len__") fd_Book_len
  fd_Book_odd_faces : FuncData
  F_Book_odd_faces : FunD K "odd_faces" "Book.odd_faces" (defArgs sOddFaces) (defBody sOddFaces) (defScope sOddFaces) [] [] (He.ma K (He.ga K "Book") "odd_faces") fd_Book_odd_faces
  fd_Family_init : FuncData
  F_Family_init : FunD K "__init__" "Family.__init__" (defArgs sFamI) (defBody sFamI) (defScope sFamI) [] [] (He.ma K (He.ga K "Family") "__init__") fd_Family_init
  fd_Family_len : FuncData
  F_Family_len : FunD K "__len__" "Family.__len__" (defArgs sFamLen) (defBody sFamLen) (defScope sFamLen) [] [] (He.ma K (He.ga K "Family") "__len__") fd_Family_len
  fd_Family_iter : FuncData
  F_Family_iter : FunD K "__iter__" "Family.__iter__" (defArgs sFamIter) (defBody sFamIter) (defScope sFamIter) [] [] (He.ma K (He.ga K "Family") "__iter__") fd_Family_iter
  fd_Family_getitem : FuncData
  F_Family_getitem : FunD K "__getitem__" "Family.__getitem__" (defArgs sFamGet) (defBody sFamGet) (defScope sFamGet) [] [] (He.ma K (He.ga K "Family") "__getitem__") fd_Family_getitem
  n_len : mg "len" = none
  n_tuple : mg "tuple" = none
  n_sorted : mg "sorted" = none
  n_list : mg "list" = none
  n_range : mg "range" = none
  n_set : mg "set" = none
  n_enumerate : mg "enumerate" = none
  n_isinstance : mg "isinstance" = none
  n_sum : mg "sum" = none
  n_reversed : mg "reversed" = none
  n_abs : mg "abs" = none
  n_int : mg "int" = none
  n_min : mg "min" = none
  n_bool : mg "bool" = none
  n_str : mg "str" = none
  g_Book : mg "Book" = some (.ref (He.ga K "Book"))
  c_Book : Cls K (He.ga K "Book")
  m_Book : Mk K (He.ga K "Book") (He.ma K (He.ga K "Book") "__init__")
  na_Book_places : NoAttr K (He.ga K "Book") "places"
  na_Book_size : NoAttr K (He.ga K "Book") "size"
  na_Book_rooms : NoAttr K (He.ga K "Book") "rooms"
  g_Family : mg "Family" = some (.ref (He.ga K "Family"))
  c_Family : Cls K (He.ga K "Family")
  m_Family : Mk K (He.ga K "Family") (He.ma K (He.ga K "Family") "__init__")
  na_Family_places : NoAttr K (He.ga K "Family") "places"
  na_Family_books : NoAttr K (He.ga K "Family") "books"
  cr_Book : ClX.CRead K (He.ga K "Book") (.type "type")
  cv_Book : ∃ u, ClX.CVal K (He.ga K "Book") (.type "type") "MOST_PLACES" (.int 12) u
  me_odd : Meth K (He.ga K "Book") "odd_faces" (He.ma K (He.ga K "Book") "odd_faces")
end NA
set_option maxRecDepth 100000
set_option maxHeartbeats 4000000
/-! An own exception whose __init__ says super().__init__('..') and keeps two fields. -/
namespace NA
open PySem PySem.Spec PyProof.Rows L2
/-- its body -/
def xBody (msg a1 a2 f1 f2 : Str) (j : Nat) (p0 p1 p2 p3 p4 p5 q1 q2 q3 q4 r1 r2 r3 r4 : Pos) : List Stmt :=
  [.Expr (.Call (.Attribute (.Call (.Name "super" p0) [] [] p1) "__init__" p2) [.Constant (.str msg) j p3] [] p4) p5, .Assign [.Attribute (.Name "self" q1) f1 q2] (.Name a1 q3) q4, .Assign [.Attribute (.Name "self" r1) f2 r2] (.Name a2 r3) r4]
/-- what the written part says of the class at C, of its __init__ at fI -/
structure XTxt (prog : Program) (K : PySem.W.Frag) (C fI : Addr) (st : Stmt) (qual f1 f2 : Str) : Prop where
  cls : ∃ nm q N bs bm sn sub ab col dd k0 k1 k2 k3 k5, K.lookup C = some (excClassObj nm q C N bs bm true sn sub ab col dd k0 k1 k2 k3 k5 "ValueError.__new__") ∧ PySem.HandSPX.refsVE bm = true ∧ PySem.W.alongIn K "__init__" bm = some (some (.builtin "ValueError.__init__"))
  sa : PySem.W.findIn K (.ref C) "__setattr__" = some (some (.builtin "object.__setattr__"))
  no1 : PySem.W.findIn K (.ref C) f1 = some none
  no2 : PySem.W.findIn K (.ref C) f2 = some none
  iC : PySem.W.findIn K (.ref C) "__init__" = some (some (.ref fI))
  tI : PySem.W.typeIn K (.ref fI) = some (.type "function")
  kC : PySem.W.keepIn K (.ref C) = true
  exC : PySem.W.subIn K (.ref C) (.type "BaseException") = some true
  veC : PySem.W.subIn K (.ref C) (.type "ValueError") = some true
  tyC : PySem.W.typeIn K (.ref C) = some (.type "type")
  self : PySem.W.mroIn K C (.ref C) = some true
  stat : PySem.W.nsIn K cStatics "thirdparty.any" = some none
  fn : ∃ (oc : Value) (od : Option Addr) (kV doc pm : Value) (an : Option Addr) (cda cc : Addr) (ct : Value) (osl : Array (Option Value)),
    K.lookup fI = some ⟨oc, od, .func (PySem.W.fnX "__init__" qual (defArgs st) (defBody st) (defScope st) [("__class__", cc)] .none kV doc pm an (.ref cda) ct), osl⟩ ∧ PySem.W.codeIn K (.ref cda) qual = true ∧
    (∃ ccl cdd vs ccs file tf, K.lookup cda = some ⟨ccl, cdd, .fields vs, ccs⟩ ∧ vs[2]? = some (.str file tf) ∧ ((prog.main.file : Str) == file) = true) ∧ ∃ cl cld csl, K.lookup cc = some ⟨cl, cld, .cell (some (.ref C)), csl⟩
  top : (prog.main.scope.names.lookup ("super" : Str)).isSome = false
/-- what __init__ leaves of a fresh exception at x -/
structure XEnd (h h' : Heap) (x C dx t1 : Addr) (f1 f2 : Str) (v1 v2 : Value) : Prop where
  keep : ∀ b o, b ≠ x → h.get? b = some o → h'.get? b = some o
  obj : h'.get? x = some { cls := .ref C, dict := some dx, data := .fields #[.ref t1, .none, .none, .none, .bool false, .none] }
  dbig : h.objs.size ≤ dx
  dne : dx ≠ x
  ns : h'.Ns1 dx (fun y => if y = f2 then some v2 else if y = f1 then some v1 else none)
section
variable {prog : Program} {w : World} {A : Around} {E : Value → Shared → Prop}
/-- the wrapper of ValueError.__init__ bound to x, called -/
theorem mw_call {h : Heap} {g : Array GenState} {d : Drawn} {t : Nat} {os : OsState} {u x t0 C : Addr} {nm q : Str} {N : Addr} {bs bm : List Value} {hdct : Bool} {sn : List Str} {sub : List Value} {ab : Bool} {col : Option Bool} {dd : Option Addr} {k0 k1 k2 k3 k5 : Option Value} {rest : List Value} {Q : Value → Shared → Prop}
    (hC : h.get? C = some (excClassObj nm q C N bs bm hdct sn sub ab col dd k0 k1 k2 k3 k5 "ValueError.__new__")) (hu : PySem.W.KxsAt "ValueError.__init__" u x h) (he : h.get? x = some (PySem.HandSPX.excO C t0)) (hz : rest.length ≤ sizeLine)
    (hq : ∀ h' t1, (∀ b o, b ≠ x → h.get? b = some o → h'.get? b = some o) → h'.get? x = some (PySem.HandSPX.excO C t1) → Q .none ⟨h', g, d, t, os⟩) : wpAny (model prog w) A (call (.ref u) rest) Q E ⟨h, g, d, t, os⟩ := by
  refine wpAny_call (codeAny_of_tree (show wpAny _ A.in1 (callAny (.ref u) ⟨rest, []⟩) _ _ _ from ?_))
  simp only [callAny]
  refine wpAny_bind (wpAny_load hu ?_)
  simp only [PySem.W.kxs_mw, show (Value.type "method-wrapper" == Value.type "method" || Value.type "method-wrapper" == Value.type "builtin_function_or_method" || Value.type "method-wrapper" == Value.type "method-wrapper") = true by decide, if_true]
  refine PySem.W.KFB.if_so (by decide) (wpAny_bind (PySem.W.check_bound_init F.excBase_ValueError.toExcCallFacts hC he rfl (wpAny_bind (wpAny_pure (wpAny_pure ?_)))))
  refine ⟨plainId_quiet F.excBase_ValueError.init.plain _, codeAny_builtin F.excBase_ValueError.initEntry ?_⟩
  exact PySem.W.exc_init_tree (cls := .ref C) (t0 := t0) (dv := none) (c2 := .none) (c3 := .none) (b4 := .bool false) he hz fun h' k e' _ => hq h' _ k e'
/-- .. with one argument written -/
theorem mw_with1 {M : Model} {s : Shared} {pos : Pos} {env : Env} {e : Expr} {i : String} {u x : Addr} {Q : Value → Shared → Prop} (h : wpAny M A (eval e env) (fun v s₁ => PySem.W.KxsAt i u x s₁.heap ∧ wpAny M A (call (.ref u) [v]) Q E s₁) E s)
    (he : starEach [e] env = (false, eval e env) :: starEach [] env := by rfl) (hp : (backTo pos (starEach [] env)).any (·.1) = false := by rfl) : wpAny M A (callWith pos (.ref u) [] (backTo pos (starEach [e] env)) []) Q E s := by
  rw [he]
  refine PySem.W.kxs_callWith (i := i) (x := x) (show (false || (backTo pos (starEach [] env)).any (·.1)) = false by rw [hp]; rfl) (Calls.evalArgs_plain ?_)
  exact Calls.spliced_cons (wpAny_mono h (fun v s1 q => Calls.spliced_nil q) fun _ _ z => z)
end
end NA
set_option maxRecDepth 100000
set_option maxHeartbeats 4000000
namespace NA
open PySem PySem.Spec PyProof.Rows L2
section
variable {prog : Program} {w : World} {A : Around} {R : Result → Shared → Prop} {s : Shared} {K : PySem.W.Frag} {mg : Str → Option Value} {C fI : Addr}
theorem x_init_BadLabels (T : XTxt prog K C fI sBadLabelsI "BadLabels.__init__" "fault" "at") {x t0 : Addr} {v1 v2 : Value} (X : K.In s.heap) (hlim : s.heap.NoLimit) (hg : s.heap.Ns mainGlobals mg) (hb : ∃ mb, s.heap.Ns builtinsNs mb ∧ ∀ x : Str, x ≠ "__name__" → mb x = bootBuiltins x) (hsup : mg "super" = none)
    (hx : s.heap.get? x = some (PySem.HandSPX.excO C t0)) (hnx : K.lookup x = none) (hroom : A.depth < recursionLimit) (hq : ∀ h' tk dx t1, XEnd s.heap h' x C dx t1 "fault" "at" v1 v2 → R (.ok (.ret .none)) { s with heap := h', toks := tk }) :
    codeAny (model prog w) A (.call (.ref fI) ⟨[.ref x, v1, v2], []⟩) R s := by
  obtain ⟨oc, od, kV, doc, pm, an, cda, cc, ct, osl, ho, hcd, ⟨ccl, cdd, vs, ccs, file, tf, hcda, hvs, hfile⟩, ⟨cl, cld, csl, hcc⟩⟩ := T.fn
  obtain ⟨nm, q, N, bs, bm, sn, sub, ab, col, dd, k0, k1, k2, k3, k5, hC, hbm, hal⟩ := T.cls
  have hcell : ∀ y ∈ (defScope sBadLabelsI).names, y.2 ≠ .cell := by decide +kernel
  have hcl : PySem.W.clsIn K C = some { name := nm, bases := bs, mro := .ref C :: bm, ns := N, qualname := q, hasDict := true, slotNames := sn, subclasses := sub, abstract := ab, collection := col, hasDel := false } := by unfold PySem.W.clsIn; rw [hC] <;> rfl
  refine ks_codeAny_call_defAt (fd := PySem.W.fnX "__init__" "BadLabels.__init__" (defArgs sBadLabelsI) (defBody sBadLabelsI) (defScope sBadLabelsI) [("__class__", cc)] .none kV doc pm an (.ref cda) ct) (body := defBody sBadLabelsI) (binds := [(("self" : Str), Value.ref x), (("fault" : Str), v1), (("at" : Str), v2)]) hroom (X _ _ ho) rfl hlim (PySem.W.codeRec_of X hcd) rfl (BindsTo.of_eq rfl) hcell (fun y hy => ?_) (fun h₁ hns k => ?_) rfl rfl rfl
  · rcases List.mem_cons.mp hy with e | hy
    · rw [e]; rfl
    · rcases List.mem_cons.mp hy with e | hy
      · rw [e]; rfl
      · rw [List.mem_singleton.mp hy]; rfl
  have X₁ : K.In h₁ := X.keeps k
  obtain ⟨mb, hb1, hb2⟩ := hb
  have hx₁ := k _ _ hx
  have hD1 := X₁ _ _ hC
  have hxC : x ≠ C := fun z => by
    rw [z, hD1] at hx₁
    cases hx₁
  have hxL : x ≠ s.heap.objs.size := Nat.ne_of_lt (Heap.lt_size hx)
  refine ks_wpAt_execs_cons (ks_wpAt_Expr_any (ks_wpAt_MethodCall ?_))
  refine ks_wpAt_super_base (ar := _) (hks := rfl) (hkc := rfl) rfl rfl (X₁ _ _ ho) rfl rfl rfl (X₁ _ _ hcda) rfl hvs hfile T.top ?_
  refine PySem.W.ks_loadName_global rfl rfl (Calls.loadGlobal_builtin (hg.keeps k) hsup (hb1.keeps k) ((hb2 "super" (by decide)).trans (by decide +kernel)) ⟨rfl, ?_⟩)
  refine wpAny_loadName_free rfl rfl rfl ⟨_, X₁ _ _ hcc, rfl⟩ ?_
  refine wpAny_loadName_local rfl rfl hns (v := .ref x) rfl ?_
  refine ks_wpAny_isType_cls hD1 rfl ⟨rfl, ?_⟩
  refine ks_wpAny_call_super hD1 rfl hx₁ rfl (fun c e => by cases e) (PySem.W.looks_mroIn X₁ T.self) (fun h2 hso k2 => ?_)
  have X₂ : K.In h2 := X₁.keeps k2
  have hI : PySem.W.Looks (model prog w) h2 (isInstance (.ref x) (.type "ValueError")) true := (PySem.W.InstAt.type (C := C) (od := none) (ox := PySem.HandSPX.excO C t0) ⟨k2 _ _ hx₁, rfl, rfl, trivial⟩).andThen (PySem.W.looks_subIn X₂ T.veC)
  refine PySem.W.kxs_getMethod PySem.W.kxs_ValueError hso (PySem.W.looks_opaque X₂ T.stat) (l₀ := .ref C :: bm) (l := bm) (fun A Q E s kk q => wpAny_bind ((PySem.W.looks_clsIn X₂ hcl) A _ E s kk (wpAny_pure q))) (by simp) X₂ hal hI hxC (by decide) ?_
  -- the wrapper is called
  generalize hh3 : h2.push (PySem.W.kxs_mw "ValueError.__init__" x) = h3
  have k3 : ∀ b o, h2.get? b = some o → h3.get? b = some o := fun b o e => by rw [← hh3]; exact Heap.get?_push_of_some _ e
  have hmw : h3.get? h2.objs.size = some (PySem.W.kxs_mw "ValueError.__init__" x) := by rw [← hh3]; exact Heap.get?_push_size _ rfl
  refine mw_with1 (i := "ValueError.__init__") (x := x) (Calls.Constant_str ⟨hmw, ?_⟩)
  refine mw_call (k3 _ _ (k2 _ _ (X₁ _ _ hC))) hmw (k3 _ _ (k2 _ _ hx₁)) (by rw [sizeLine_eq]; exact (by decide : 1 ≤ 16777216)) fun h4 t1 k4 hx4 => ?_
  have keep4 : ∀ b o, b ≠ x → h₁.get? b = some o → h4.get? b = some o := fun b o hb e => k4 b o hb (k3 _ _ (k2 _ _ e))
  have X₄ : K.In h4 := fun b o e => keep4 b o (fun z => by rw [z, hnx] at e; cases e) (X₁ b o e)
  have ns4 := hns.at (h' := h4) (fun o e => keep4 _ o (Ne.symm hxL) e)
  refine wpAt_of_wpAny ?_
  -- the first field
  refine wpAny_execs_cons (plainObj_wpAny_Assign_Attribute ?_)
  refine wpAny_Name (wpAny_loadName_local rfl rfl ns4 (v := v1) rfl (wpAny_Name (wpAny_loadName_local rfl rfl ns4 (v := .ref x) rfl ?_) (by decide))) (by decide)
  refine PySem.W.set_plain X₄ (ox := PySem.HandSPX.excO C t1) (od := none) ⟨hx4, rfl, rfl, trivial⟩ T.sa ?_
  refine PySem.HandSPX.exc_osa X₄ hx4 hcl (show PySem.HandSPX.refsVE (.ref C :: bm) = true from hbm) rfl T.no1 (fun h5 tk5 dx k5 dn dne hx5 hn5 => ?_)
  have X₅ : K.In h5 := fun b o e => k5 b o (fun z => by rw [z, hnx] at e; cases e) (X₄ b o e)
  have ns5 := ns4.at (h' := h5) (fun o e => k5 _ o (Ne.symm hxL) e)
  have hdl : dx ≠ s.heap.objs.size := fun z => by
    have h0 : s.heap.objs.size < h4.objs.size := ns4.lt
    rw [z] at dn
    exact absurd (Nat.lt_of_lt_of_le h0 dn) (Nat.lt_irrefl _)
  -- the second
  refine wpAny_execs_cons (plainObj_wpAny_Assign_Attribute ?_)
  refine wpAny_Name (wpAny_loadName_local rfl rfl ns5 (v := v2) rfl (wpAny_Name (wpAny_loadName_local rfl rfl ns5 (v := .ref x) rfl ?_) (by decide))) (by decide)
  have hw : Within (fun y => if y = ("fault" : Str) then some v1 else none) [("fault" : Str)] := fun y hy => by
    by_cases e : y = ("fault" : Str)
    · rw [e]; exact List.mem_cons_self
    · exact absurd (if_neg e) hy
  obtain ⟨oD, _, _, hoD, _, _⟩ := hn5.count hw
  refine PySem.W.set_plain X₅ (ox := { cls := .ref C, dict := some dx, data := .fields #[.ref t1, .none, .none, .none, .bool false, .none] }) (od := some oD) ⟨hx5, rfl, rfl, hoD⟩ T.sa ?_
  refine PySem.OEX.osa_old X₅ hx5 hn5 hw (by decide) hcl (show PySem.HandSPX.refsVE (.ref C :: bm) = true from hbm) rfl T.no2 (fun h6 tk6 k6 hn6 => ?_)
  have hdd : s.heap.objs.size ≤ dx := Nat.le_trans (Nat.le_of_lt (ns4.lt : s.heap.objs.size < h4.objs.size)) dn
  refine wpAny_execs_nil (hq h6 tk6 dx t1 ⟨fun b o hb e => ?_, k6 x _ (Ne.symm dne) hx5, hdd, dne, hn6⟩)
  have hbd : b ≠ dx := fun z => by
    have := Heap.lt_size e
    rw [z] at this
    exact absurd (Nat.lt_of_lt_of_le this hdd) (Nat.lt_irrefl _)
  exact k6 b o hbd (k5 b o hb (keep4 b o hb (k b o e)))

theorem x_init_NotEven (T : XTxt prog K C fI sNotEvenI "NotEven.__init__" "at" "face") {x t0 : Addr} {v1 v2 : Value} (X : K.In s.heap) (hlim : s.heap.NoLimit) (hg : s.heap.Ns mainGlobals mg) (hb : ∃ mb, s.heap.Ns builtinsNs mb ∧ ∀ x : Str, x ≠ "__name__" → mb x = bootBuiltins x) (hsup : mg "super" = none)
    (hx : s.heap.get? x = some (PySem.HandSPX.excO C t0)) (hnx : K.lookup x = none) (hroom : A.depth < recursionLimit) (hq : ∀ h' tk dx t1, XEnd s.heap h' x C dx t1 "at" "face" v1 v2 → R (.ok (.ret .none)) { s with heap := h', toks := tk }) :
    codeAny (model prog w) A (.call (.ref fI) ⟨[.ref x, v1, v2], []⟩) R s := by
  obtain ⟨oc, od, kV, doc, pm, an, cda, cc, ct, osl, ho, hcd, ⟨ccl, cdd, vs, ccs, file, tf, hcda, hvs, hfile⟩, ⟨cl, cld, csl, hcc⟩⟩ := T.fn
  obtain ⟨nm, q, N, bs, bm, sn, sub, ab, col, dd, k0, k1, k2, k3, k5, hC, hbm, hal⟩ := T.cls
  have hcell : ∀ y ∈ (defScope sNotEvenI).names, y.2 ≠ .cell := by decide +kernel
  have hcl : PySem.W.clsIn K C = some { name := nm, bases := bs, mro := .ref C :: bm, ns := N, qualname := q, hasDict := true, slotNames := sn, subclasses := sub, abstract := ab, collection := col, hasDel := false } := by unfold PySem.W.clsIn; rw [hC] <;> rfl
  refine ks_codeAny_call_defAt (fd := PySem.W.fnX "__init__" "NotEven.__init__" (defArgs sNotEvenI) (defBody sNotEvenI) (defScope sNotEvenI) [("__class__", cc)] .none kV doc pm an (.ref cda) ct) (body := defBody sNotEvenI) (binds := [(("self" : Str), Value.ref x), (("at" : Str), v1), (("face" : Str), v2)]) hroom (X _ _ ho) rfl hlim (PySem.W.codeRec_of X hcd) rfl (BindsTo.of_eq rfl) hcell (fun y hy => ?_) (fun h₁ hns k => ?_) rfl rfl rfl
  · rcases List.mem_cons.mp hy with e | hy
    · rw [e]; rfl
    · rcases List.mem_cons.mp hy with e | hy
      · rw [e]; rfl
      · rw [List.mem_singleton.mp hy]; rfl
  have X₁ : K.In h₁ := X.keeps k
  obtain ⟨mb, hb1, hb2⟩ := hb
  have hx₁ := k _ _ hx
  have hD1 := X₁ _ _ hC
  have hxC : x ≠ C := fun z => by
    rw [z, hD1] at hx₁
    cases hx₁
  have hxL : x ≠ s.heap.objs.size := Nat.ne_of_lt (Heap.lt_size hx)
  refine ks_wpAt_execs_cons (ks_wpAt_Expr_any (ks_wpAt_MethodCall ?_))
  refine ks_wpAt_super_base (ar := _) (hks := rfl) (hkc := rfl) rfl rfl (X₁ _ _ ho) rfl rfl rfl (X₁ _ _ hcda) rfl hvs hfile T.top ?_
  refine PySem.W.ks_loadName_global rfl rfl (Calls.loadGlobal_builtin (hg.keeps k) hsup (hb1.keeps k) ((hb2 "super" (by decide)).trans (by decide +kernel)) ⟨rfl, ?_⟩)
  refine wpAny_loadName_free rfl rfl rfl ⟨_, X₁ _ _ hcc, rfl⟩ ?_
  refine wpAny_loadName_local rfl rfl hns (v := .ref x) rfl ?_
  refine ks_wpAny_isType_cls hD1 rfl ⟨rfl, ?_⟩
  refine ks_wpAny_call_super hD1 rfl hx₁ rfl (fun c e => by cases e) (PySem.W.looks_mroIn X₁ T.self) (fun h2 hso k2 => ?_)
  have X₂ : K.In h2 := X₁.keeps k2
  have hI : PySem.W.Looks (model prog w) h2 (isInstance (.ref x) (.type "ValueError")) true := (PySem.W.InstAt.type (C := C) (od := none) (ox := PySem.HandSPX.excO C t0) ⟨k2 _ _ hx₁, rfl, rfl, trivial⟩).andThen (PySem.W.looks_subIn X₂ T.veC)
  refine PySem.W.kxs_getMethod PySem.W.kxs_ValueError hso (PySem.W.looks_opaque X₂ T.stat) (l₀ := .ref C :: bm) (l := bm) (fun A Q E s kk q => wpAny_bind ((PySem.W.looks_clsIn X₂ hcl) A _ E s kk (wpAny_pure q))) (by simp) X₂ hal hI hxC (by decide) ?_
  -- the wrapper is called
  generalize hh3 : h2.push (PySem.W.kxs_mw "ValueError.__init__" x) = h3
  have k3 : ∀ b o, h2.get? b = some o → h3.get? b = some o := fun b o e => by rw [← hh3]; exact Heap.get?_push_of_some _ e
  have hmw : h3.get? h2.objs.size = some (PySem.W.kxs_mw "ValueError.__init__" x) := by rw [← hh3]; exact Heap.get?_push_size _ rfl
  refine mw_with1 (i := "ValueError.__init__") (x := x) (Calls.Constant_str ⟨hmw, ?_⟩)
  refine mw_call (k3 _ _ (k2 _ _ (X₁ _ _ hC))) hmw (k3 _ _ (k2 _ _ hx₁)) (by rw [sizeLine_eq]; exact (by decide : 1 ≤ 16777216)) fun h4 t1 k4 hx4 => ?_
  have keep4 : ∀ b o, b ≠ x → h₁.get? b = some o → h4.get? b = some o := fun b o hb e => k4 b o hb (k3 _ _ (k2 _ _ e))
  have X₄ : K.In h4 := fun b o e => keep4 b o (fun z => by rw [z, hnx] at e; cases e) (X₁ b o e)
  have ns4 := hns.at (h' := h4) (fun o e => keep4 _ o (Ne.symm hxL) e)
  refine wpAt_of_wpAny ?_
  -- the first field
  refine wpAny_execs_cons (plainObj_wpAny_Assign_Attribute ?_)
  refine wpAny_Name (wpAny_loadName_local rfl rfl ns4 (v := v1) rfl (wpAny_Name (wpAny_loadName_local rfl rfl ns4 (v := .ref x) rfl ?_) (by decide))) (by decide)
  refine PySem.W.set_plain X₄ (ox := PySem.HandSPX.excO C t1) (od := none) ⟨hx4, rfl, rfl, trivial⟩ T.sa ?_
  refine PySem.HandSPX.exc_osa X₄ hx4 hcl (show PySem.HandSPX.refsVE (.ref C :: bm) = true from hbm) rfl T.no1 (fun h5 tk5 dx k5 dn dne hx5 hn5 => ?_)
  have X₅ : K.In h5 := fun b o e => k5 b o (fun z => by rw [z, hnx] at e; cases e) (X₄ b o e)
  have ns5 := ns4.at (h' := h5) (fun o e => k5 _ o (Ne.symm hxL) e)
  have hdl : dx ≠ s.heap.objs.size := fun z => by
    have h0 : s.heap.objs.size < h4.objs.size := ns4.lt
    rw [z] at dn
    exact absurd (Nat.lt_of_lt_of_le h0 dn) (Nat.lt_irrefl _)
  -- the second
  refine wpAny_execs_cons (plainObj_wpAny_Assign_Attribute ?_)
  refine wpAny_Name (wpAny_loadName_local rfl rfl ns5 (v := v2) rfl (wpAny_Name (wpAny_loadName_local rfl rfl ns5 (v := .ref x) rfl ?_) (by decide))) (by decide)
  have hw : Within (fun y => if y = ("at" : Str) then some v1 else none) [("at" : Str)] := fun y hy => by
    by_cases e : y = ("at" : Str)
    · rw [e]; exact List.mem_cons_self
    · exact absurd (if_neg e) hy
  obtain ⟨oD, _, _, hoD, _, _⟩ := hn5.count hw
  refine PySem.W.set_plain X₅ (ox := { cls := .ref C, dict := some dx, data := .fields #[.ref t1, .none, .none, .none, .bool false, .none] }) (od := some oD) ⟨hx5, rfl, rfl, hoD⟩ T.sa ?_
  refine PySem.OEX.osa_old X₅ hx5 hn5 hw (by decide) hcl (show PySem.HandSPX.refsVE (.ref C :: bm) = true from hbm) rfl T.no2 (fun h6 tk6 k6 hn6 => ?_)
  have hdd : s.heap.objs.size ≤ dx := Nat.le_trans (Nat.le_of_lt (ns4.lt : s.heap.objs.size < h4.objs.size)) dn
  refine wpAny_execs_nil (hq h6 tk6 dx t1 ⟨fun b o hb e => ?_, k6 x _ (Ne.symm dne) hx5, hdd, dne, hn6⟩)
  have hbd : b ≠ dx := fun z => by
    have := Heap.lt_size e
    rw [z] at this
    exact absurd (Nat.lt_of_lt_of_le this hdd) (Nat.lt_irrefl _)
  exact k6 b o hbd (k5 b o hb (keep4 b o hb (k b o e)))

end
end NA
set_option maxRecDepth 100000
set_option maxHeartbeats 4000000
/-! raise BadLabels(a, b), raise NotEven(a, b). -/
namespace NA
open PySem PySem.Spec PyProof.Rows L2
theorem relO2 {a1 a2 : Str} (hne : a1 ≠ a2) {v1 v2 : V} {u1 u2 : Value} (r1 : RelV v1 u1) (r2 : RelV v2 u2) (f : Str) : RelO (List.lookup f [(a1, v1), (a2, v2)]) (if f = a2 then some u2 else if f = a1 then some u1 else none) := by
  by_cases h2 : f = a2
  · subst h2
    have e : (f == a1) = false := by simpa using (Ne.symm hne)
    rw [if_pos rfl]
    have : List.lookup f [(a1, v1), (f, v2)] = some v2 := by simp [List.lookup, e]
    rw [this]
    exact r2
  · rw [if_neg h2]
    by_cases h1 : f = a1
    · subst h1
      rw [if_pos rfl]
      have : List.lookup f [(f, v1), (a2, v2)] = some v1 := by simp [List.lookup]
      rw [this]
      exact r1
    · rw [if_neg h1]
      have e1 : (f == a1) = false := by simpa using h1
      have e2 : (f == a2) = false := by simpa using h2
      have : List.lookup f [(a1, v1), (a2, v2)] = none := by simp [List.lookup, e1, e2]
      rw [this]
      trivial
/-- C(a, b) -/
def tMkX (C : Addr) (a1 a2 : Str) (ta : TA) : L2.St → Hp → XK → Prop := fun σ H Q => ta σ H fun vs H1 => ∃ v1 v2, vs = [v1, v2] ∧ ∀ d, H1 d = none → Q (.ref C) (some d) (upd H1 d (.xd [(a1, v1), (a2, v2)]))
section
variable {X : Cx} {C fI : Addr}
theorem pmk_BadLabels {e1 e2 : Expr} {ta : TA} {p pos : Pos} {k : Nat} (T : XTxt X.prog X.K C fI sBadLabelsI "BadLabels.__init__" "fault" "at") (gC : X.mg "BadLabels" = some (.ref C)) (hsup : X.mg "super" = none) (hr : Room k X.A) (ha : PA X [e1, e2] ta) (hg : Gl X "BadLabels" := by rfl)
    (he : starEach (e1 :: [e2]) X.env = (false, eval e1 X.env) :: starEach [e2] X.env := by rfl) (hpl : (backTo pos (starEach [e2] X.env)).any (·.1) = false := by rfl) : PMk X (.Call (.Name "BadLabels" p) [e1, e2] [] pos) (tMkX C "fault" "at" ta) := by
  intro pins s σ H Q I h
  refine wpAny_Call_Name_kw (ld_glob I hg gC ?_)
  refine PySem.W.callWith_K (h₀ := X.base) I.ok.mod.kin T.kC (thn (ha.run pos pins s σ H _ I h) fun us s1 hh => ?_) he hpl
  obtain ⟨vs, H1, I1, r1, v1, v2, ev, q1⟩ := hh
  subst ev
  refine ⟨I1.kIn, ?_⟩
  obtain ⟨u1, u2, rfl, rv1, rv2⟩ := r1.two
  show wpAny _ _ (call (.ref C) [u1, u2]) _ _ _
  have hlim := I1.nolimit
  have hgl := I1.mod.glob.keeps I1.bk
  obtain ⟨mb, hb1, hb2⟩ := I1.mod.blt
  have hbl := hb1.keeps I1.bk
  have X1 := I1.kIn
  obtain ⟨nm, q, N, bs, bm, sn, sub, ab, col, dd, k0, k1, k2, k3, k5, hC, hbm, hal⟩ := T.cls
  obtain ⟨hp, g, dr, tk, os⟩ := s1
  have keep0 : ∀ b o, hp.get? b = some o → ((hp.push (PySem.W.kdv_tup [u1, u2])).push (PySem.HandSPX.excO C hp.objs.size)).get? b = some o := fun b o e => Heap.get?_push_of_some _ (Heap.get?_push_of_some _ e)
  have hget : ((hp.push (PySem.W.kdv_tup [u1, u2])).push (PySem.HandSPX.excO C hp.objs.size)).get? (hp.objs.size + 1) = some (PySem.HandSPX.excO C hp.objs.size) := by heap_get
  have hnx : X.K.lookup (hp.objs.size + 1) = none := by
    cases e : X.K.lookup (hp.objs.size + 1) with
    | none => rfl
    | some o =>
      have z : hp.get? (hp.objs.size + 1) = some o := X1 _ _ e
      exact absurd (Nat.lt_of_succ_lt (Heap.lt_size z)) (Nat.lt_irrefl _)
  refine wpAny_call (PySem.HandSPX.call_own F.excBase_ValueError (fun Y => PySem.HandSPX.refsVE_contains Y bm hbm) (X1 _ _ hC) (PySem.W.looks_findIn X1 T.iC) (fun self => PySem.W.bind_fn X1 self T.tI) (by rw [sizeLine_eq]; exact (by decide : 2 ≤ 16777216)) ?_)
  refine x_init_BadLabels (s := ⟨(hp.push (PySem.W.kdv_tup [u1, u2])).push (PySem.HandSPX.excO C hp.objs.size), g, dr, tk, os⟩) T (X1.keeps keep0) (hlim.keeps keep0) (hgl.keeps keep0) ⟨mb, hbl.keeps keep0, hb2⟩ hsup hget hnx ?_ fun h' tk' d t1 M => ?_
  · have := hr.dp
    show X.A.depth + 1 < recursionLimit
    omega
  refine ⟨rfl, ?_⟩
  show MkP X pins σ Q (.ref (hp.objs.size + 1)) ⟨h', g, dr, tk', os⟩
  have dbig : hp.objs.size ≤ d := by
    have h1 := M.dbig
    rw [show (({ heap := (hp.push (PySem.W.kdv_tup [u1, u2])).push (PySem.HandSPX.excO C hp.objs.size), gens := g, drawn := dr, toks := tk, os := os } : Shared).heap.objs.size) = hp.objs.size + 1 + 1 by show (((hp.push (PySem.W.kdv_tup [u1, u2])).push (PySem.HandSPX.excO C hp.objs.size)).objs.size) = _; rw [Heap.size_push, Heap.size_push]] at h1
    exact Nat.le_trans (Nat.le_add_right _ 2) h1
  have new : hp.objs.size ≤ hp.objs.size + 1 := Nat.le_succ _
  have mk : ∀ b o, hp.get? b = some o → h'.get? b = some o := fun b o e => M.keep b o (Nat.ne_of_lt (Nat.lt_succ_of_lt (Heap.lt_size e))) (keep0 b o e)
  obtain ⟨G', g1, g2⟩ := restrict h' fun b => decide (b ≠ hp.objs.size + 1)
  have gk : ∀ b, b ≠ hp.objs.size + 1 → G'.get? b = h'.get? b := fun b hb => g1 b (decide_eq_true hb)
  have ge : G'.get? (hp.objs.size + 1) = none := g2 (hp.objs.size + 1) (by simp)
  have old : ∀ b o, hp.get? b = some o → G'.get? b = some o := fun b o q => (gk b (Nat.ne_of_lt (Nat.lt_succ_of_lt (Heap.lt_size q)))).trans (mk b o q)
  have ob : ObjOk X.prog X.w (upd H1 d (.xd [(("fault" : Str), v1), (("at" : Str), v2)])) G' d (.xd [(("fault" : Str), v1), (("at" : Str), v2)]) :=
    ⟨_, M.ns.at (fun o q => (gk d M.dne).trans q), fun f => relO2 (by decide) rv1 rv2 f⟩
  have J : Inv X pins σ (upd H1 d (.xd [(("fault" : Str), v1), (("at" : Str), v2)])) ⟨G', g, dr, tk', os⟩ := I1.laid (t' := tk') old dbig ob
  refine ⟨hp.objs.size + 1, _, _, ⟨G', g, dr, tk', os⟩, _, .ref C, some d, rfl, J, fun b o q => ?_, ge, M.obj, ⟨rfl, rfl⟩, rfl, rfl, ?_, rfl, I1.bare, raises_own T.exC T.tyC, q1 d (I1.hok.fresh dbig)⟩
  · by_cases hb : b = hp.objs.size + 1
    · have q' : G'.get? b = some o := q
      rw [hb, ge] at q'; cases q'
    · exact (gk b hb).symm.trans q
  · rw [upd_ne (Ne.symm M.dne)]
    exact I1.hok.fresh new
theorem pmk_NotEven {e1 e2 : Expr} {ta : TA} {p pos : Pos} {k : Nat} (T : XTxt X.prog X.K C fI sNotEvenI "NotEven.__init__" "at" "face") (gC : X.mg "NotEven" = some (.ref C)) (hsup : X.mg "super" = none) (hr : Room k X.A) (ha : PA X [e1, e2] ta) (hg : Gl X "NotEven" := by rfl)
    (he : starEach (e1 :: [e2]) X.env = (false, eval e1 X.env) :: starEach [e2] X.env := by rfl) (hpl : (backTo pos (starEach [e2] X.env)).any (·.1) = false := by rfl) : PMk X (.Call (.Name "NotEven" p) [e1, e2] [] pos) (tMkX C "at" "face" ta) := by
  intro pins s σ H Q I h
  refine wpAny_Call_Name_kw (ld_glob I hg gC ?_)
  refine PySem.W.callWith_K (h₀ := X.base) I.ok.mod.kin T.kC (thn (ha.run pos pins s σ H _ I h) fun us s1 hh => ?_) he hpl
  obtain ⟨vs, H1, I1, r1, v1, v2, ev, q1⟩ := hh
  subst ev
  refine ⟨I1.kIn, ?_⟩
  obtain ⟨u1, u2, rfl, rv1, rv2⟩ := r1.two
  show wpAny _ _ (call (.ref C) [u1, u2]) _ _ _
  have hlim := I1.nolimit
  have hgl := I1.mod.glob.keeps I1.bk
  obtain ⟨mb, hb1, hb2⟩ := I1.mod.blt
  have hbl := hb1.keeps I1.bk
  have X1 := I1.kIn
  obtain ⟨nm, q, N, bs, bm, sn, sub, ab, col, dd, k0, k1, k2, k3, k5, hC, hbm, hal⟩ := T.cls
  obtain ⟨hp, g, dr, tk, os⟩ := s1
  have keep0 : ∀ b o, hp.get? b = some o → ((hp.push (PySem.W.kdv_tup [u1, u2])).push (PySem.HandSPX.excO C hp.objs.size)).get? b = some o := fun b o e => Heap.get?_push_of_some _ (Heap.get?_push_of_some _ e)
  have hget : ((hp.push (PySem.W.kdv_tup [u1, u2])).push (PySem.HandSPX.excO C hp.objs.size)).get? (hp.objs.size + 1) = some (PySem.HandSPX.excO C hp.objs.size) := by heap_get
  have hnx : X.K.lookup (hp.objs.size + 1) = none := by
    cases e : X.K.lookup (hp.objs.size + 1) with
    | none => rfl
    | some o =>
      have z : hp.get? (hp.objs.size + 1) = some o := X1 _ _ e
      exact absurd (Nat.lt_of_succ_lt (Heap.lt_size z)) (Nat.lt_irrefl _)
  refine wpAny_call (PySem.HandSPX.call_own F.excBase_ValueError (fun Y => PySem.HandSPX.refsVE_contains Y bm hbm) (X1 _ _ hC) (PySem.W.looks_findIn X1 T.iC) (fun self => PySem.W.bind_fn X1 self T.tI) (by rw [sizeLine_eq]; exact (by decide : 2 ≤ 16777216)) ?_)
  refine x_init_NotEven (s := ⟨(hp.push (PySem.W.kdv_tup [u1, u2])).push (PySem.HandSPX.excO C hp.objs.size), g, dr, tk, os⟩) T (X1.keeps keep0) (hlim.keeps keep0) (hgl.keeps keep0) ⟨mb, hbl.keeps keep0, hb2⟩ hsup hget hnx ?_ fun h' tk' d t1 M => ?_
  · have := hr.dp
    show X.A.depth + 1 < recursionLimit
    omega
  refine ⟨rfl, ?_⟩
  show MkP X pins σ Q (.ref (hp.objs.size + 1)) ⟨h', g, dr, tk', os⟩
  have dbig : hp.objs.size ≤ d := by
    have h1 := M.dbig
    rw [show (({ heap := (hp.push (PySem.W.kdv_tup [u1, u2])).push (PySem.HandSPX.excO C hp.objs.size), gens := g, drawn := dr, toks := tk, os := os } : Shared).heap.objs.size) = hp.objs.size + 1 + 1 by show (((hp.push (PySem.W.kdv_tup [u1, u2])).push (PySem.HandSPX.excO C hp.objs.size)).objs.size) = _; rw [Heap.size_push, Heap.size_push]] at h1
    exact Nat.le_trans (Nat.le_add_right _ 2) h1
  have new : hp.objs.size ≤ hp.objs.size + 1 := Nat.le_succ _
  have mk : ∀ b o, hp.get? b = some o → h'.get? b = some o := fun b o e => M.keep b o (Nat.ne_of_lt (Nat.lt_succ_of_lt (Heap.lt_size e))) (keep0 b o e)
  obtain ⟨G', g1, g2⟩ := restrict h' fun b => decide (b ≠ hp.objs.size + 1)
  have gk : ∀ b, b ≠ hp.objs.size + 1 → G'.get? b = h'.get? b := fun b hb => g1 b (decide_eq_true hb)
  have ge : G'.get? (hp.objs.size + 1) = none := g2 (hp.objs.size + 1) (by simp)
  have old : ∀ b o, hp.get? b = some o → G'.get? b = some o := fun b o q => (gk b (Nat.ne_of_lt (Nat.lt_succ_of_lt (Heap.lt_size q)))).trans (mk b o q)
  have ob : ObjOk X.prog X.w (upd H1 d (.xd [(("at" : Str), v1), (("face" : Str), v2)])) G' d (.xd [(("at" : Str), v1), (("face" : Str), v2)]) :=
    ⟨_, M.ns.at (fun o q => (gk d M.dne).trans q), fun f => relO2 (by decide) rv1 rv2 f⟩
  have J : Inv X pins σ (upd H1 d (.xd [(("at" : Str), v1), (("face" : Str), v2)])) ⟨G', g, dr, tk', os⟩ := I1.laid (t' := tk') old dbig ob
  refine ⟨hp.objs.size + 1, _, _, ⟨G', g, dr, tk', os⟩, _, .ref C, some d, rfl, J, fun b o q => ?_, ge, M.obj, ⟨rfl, rfl⟩, rfl, rfl, ?_, rfl, I1.bare, raises_own T.exC T.tyC, q1 d (I1.hok.fresh dbig)⟩
  · by_cases hb : b = hp.objs.size + 1
    · have q' : G'.get? b = some o := q
      rw [hb, ge] at q'; cases q'
    · exact (gk b hb).symm.trans q
  · rw [upd_ne (Ne.symm M.dne)]
    exact I1.hok.fresh new
end
end NA
set_option maxRecDepth 100000
set_option maxHeartbeats 2000000
/-! walk_choices: the rows of two books, at 0 and at 1. -/
namespace NA
open PySem PySem.Spec PyProof.Rows L2 GenW
section
variable {X : Cx}
theorem pek_int {i : Int} {j : Nat} {pos : Pos} : PEk X (.Constant (.int i) j pos) (tC (.int i)) := ⟨fun _ s _ H _ I h => wpAny_Constant_int ⟨⟨.int i, H, I.tok _, ⟨_, rfl⟩, h⟩, .tok s _⟩⟩
theorem opk_addI : OpRk X (binaryOp .Add) (rI0 fun i j => .int (i + j)) := by
  intro pins s σ H x y v u Q I rx ry h
  obtain ⟨i, j, rfl, rfl, q⟩ := h
  obtain ⟨t, rfl⟩ := rx
  obtain ⟨t', rfl⟩ := ry
  exact add_int ⟨⟨.int _, H, I.tok _, ⟨_, rfl⟩, q⟩, .tok s _⟩
end
/-! ### frozen things -/
section
variable {P : Program} {w : World} {M : List Addr} {h : Heap} {H : Hp} {a : Addr}
theorem frz_rdT {xs : List V} (ha : a ∉ M) (e : Rd H a (.tup xs)) : Rd (frzH M h H) a (.tup xs) := by
  rcases e with e | ⟨o, e⟩
  · exact .inl (frz_tup ha e)
  · refine .inr ⟨o, ?_⟩
    rw [frz_at ha e]
    rfl
theorem frz_rdL (ok : HOk P w H h) {xs : List V} (ha : a ∉ M) (e : Rd H a (.lst xs)) : Rd (frzH M h H) a (.lst xs) := by
  rcases e with e | ⟨o, e⟩
  · obtain ⟨o, ho⟩ := objOk_get (ok a _ e)
    refine .inr ⟨o, ?_⟩
    rw [frz_at ha e]
    show (h.get? a).map _ = _
    rw [ho]
    rfl
  · refine .inr ⟨o, ?_⟩
    rw [frz_at ha e]
    rfl
theorem rd_notin {u : HO} (e : Rd H a u) (hM : ∀ b ∈ M, H b = none) : a ∉ M := fun hm => by
  rcases e with e | ⟨o, e⟩ <;> (rw [hM a hm] at e; cases e)
theorem TIs.frz {xs : List V} {rs : List (List Int)} (hM : ∀ b ∈ M, H b = none) (t : TIs H xs rs) : TIs (frzH M h H) xs rs := ⟨t.1, fun i r hr => by
  obtain ⟨b, h1, h2⟩ := t.2 i r hr
  exact ⟨b, h1, frz_tup (fun hm => by rw [hM b hm] at h2; cases h2) h2⟩⟩
end
/-! ### what is handed out -/
/-- at 1: the rooms that leave nothing -/
def w1 (xs : List V) (rs : List (List Int)) (left : List Int) : List (List V) := ((xs.zip rs).filter fun q => decide (sub left q.2 = [])).map fun q => [q.1]
def w0 (kvs : List (List Key × V)) (xs0 : List V) (r0 : List (List Int)) (xs1 : List V) (r1 : List (List Int)) (left : List Int) : List (List V) :=
  (xs0.zip r0).flatMap fun q => if (valV kvs (kI (sub left q.2))).isSome = true then (w1 xs1 r1 (sub left q.2)).map (q.1 :: ·) else []
/-- the data -/
structure WD (H : Hp) (ch tl : Addr) (kvs : List (List Key × V)) (xs0 : List V) (r0 : List (List Int)) (xs1 : List V) (r1 : List (List Int)) : Prop where
  dat : ∃ c0 c1 e0 e1, Rd H ch (.lst [.ref c0, .ref c1]) ∧ Rd H tl (.lst [.ref e0, .ref e1]) ∧ Rd H c0 (.tup xs0) ∧ Rd H c1 (.tup xs1) ∧ Rd H e0 (.dT kvs) ∧ Rd H e1 (.dT [([], .int 1)])
  t0 : TIs H xs0 r0
  t1 : TIs H xs1 r1
  l0 : r0.length ≤ 63
  l1 : r1.length ≤ 63
theorem WD.ext {H H' : Hp} {ch tl : Addr} {kvs : List (List Key × V)} {xs0 xs1 : List V} {r0 r1 : List (List Int)} (d : WD H ch tl kvs xs0 r0 xs1 r1) (e : Ext H H') : WD H' ch tl kvs xs0 r0 xs1 r1 := by
  obtain ⟨c0, c1, e0, e1, h1, h2, h3, h4, h5, h6⟩ := d.dat
  exact ⟨⟨c0, c1, e0, e1, rd_ext h1 e, rd_ext h2 e, rd_ext h3 e, rd_ext h4 e, rd_ext h5 e, rd_ext h6 e⟩, d.t0.ext e, d.t1.ext e, d.l0, d.l1⟩
theorem WD.frz {P : Program} {w : World} {M : List Addr} {h : Heap} {H : Hp} {ch tl : Addr} {kvs : List (List Key × V)} {xs0 xs1 : List V} {r0 r1 : List (List Int)} (d : WD H ch tl kvs xs0 r0 xs1 r1) (ok : HOk P w H h) (hM : ∀ b ∈ M, H b = none) : WD (frzH M h H) ch tl kvs xs0 r0 xs1 r1 := by
  obtain ⟨c0, c1, e0, e1, h1, h2, h3, h4, h5, h6⟩ := d.dat
  exact ⟨⟨c0, c1, e0, e1, frz_rdL ok (rd_notin h1 hM) h1, frz_rdL ok (rd_notin h2 hM) h2, frz_rdT (rd_notin h3 hM) h3, frz_rdT (rd_notin h4 hM) h4, frz_dT ok (rd_notin h5 hM) h5, frz_dT ok (rd_notin h6 hM) h6⟩, d.t0.frz hM, d.t1.frz hM, d.l0, d.l1⟩
def sp1 : SpG2 := fun vs H spec => ∃ ch tl lf kvs xs0 r0 xs1 r1 left, vs = [.ref ch, .ref tl, .ref lf, .int 1] ∧ WD H ch tl kvs xs0 r0 xs1 r1 ∧ Rd H lf (.tup (iV left)) ∧ left.length ≤ 63 ∧ spec = w1 xs1 r1 left
def sp0 : SpG2 := fun vs H spec => ∃ ch tl lf kvs xs0 r0 xs1 r1 left, vs = [.ref ch, .ref tl, .ref lf, .int 0] ∧ WD H ch tl kvs xs0 r0 xs1 r1 ∧ Rd H lf (.tup (iV left)) ∧ left.length ≤ 63 ∧ spec = w0 kvs xs0 r0 xs1 r1 left
/-! ### the loop over a tuple, within a generator -/
theorem gfor_tup {K : PySem.W.Frag} {a : Addr} {xs ys0 : List V} {g : TG} {tb : TGn} {D : GEnds} {σ : L2.St} {H : Hp} (Pv : Nat → List V → L2.St → Hp → Prop) (h0 : Pv 0 ys0 σ H) (hl : ∀ i ys σ H, i ≤ xs.length → Pv i ys σ H → SqT K H a xs)
    (hs : ∀ i x ys σ H, xs[i]? = some x → Pv i ys σ H → g x σ H fun σ2 H2 => tb { D with nx := Pv (i + 1), ct := Pv (i + 1), bk := D.nx } ys σ2 H2) (hd : ∀ ys σ H, Pv xs.length ys σ H → D.nx ys σ H) :
    ∃ W : Nat → Nat → List V → L2.St → Hp → Prop, (∃ m, W 0 m ys0 σ H) ∧ ∀ i m ys σ H, W i m ys σ H →
      ((Itt K a).stop i H ∧ D.nx ys σ H) ∨ ((Itt K a).go i H ∧ ∃ N : List V → L2.St → Hp → Prop, (∀ ys' σ' H', N ys' σ' H' → ∃ m', m' < m ∧ W (i + 1) m' ys' σ' H') ∧ ∀ x H', (Itt K a).yld i H x H' → g x σ H' fun σ2 H2 => tb { D with nx := N, ct := N, bk := D.nx } ys σ2 H2) := by
  refine ⟨fun i m ys σ H => m = xs.length - i ∧ i ≤ xs.length ∧ Pv i ys σ H, ⟨xs.length, by simp, Nat.zero_le _, h0⟩, ?_⟩
  rintro i m ys σ H ⟨rfl, hi, p⟩
  have q := hl i ys σ H hi p
  by_cases hlt : i < xs.length
  · refine .inr ⟨⟨xs, xs[i], q, by simp [hlt]⟩, Pv (i + 1), fun ys' σ' H' p' => ⟨xs.length - (i + 1), by omega, rfl, hlt, p'⟩, fun x H' y => ?_⟩
    obtain ⟨e, y⟩ := y
    subst e
    exact hs i x ys σ _ (y xs q) p
  · have e : i = xs.length := by omega
    subst e
    exact .inl ⟨⟨xs, q, Nat.le_refl _⟩, hd ys σ H p⟩
theorem gs2_never {G : GA} {P : List V → Hp → Prop} {st : Stmt} : GS2 G P st (fun _ _ _ _ => False) := ⟨fun _ _ _ _ _ _ _ _ _ _ _ _ _ _ _ _ _ _ _ _ _ _ _ _ _ h => False.elim h⟩
/-! ### the code -/
def nW : List Str := ["choices", "tails", "left", "at", "room", "rest", "later", "p"]
def pW : List Str := ["choices", "tails", "left", "at"]
theorem scW : GScope nW pW (defScope sWalk) := ⟨rfl, rfl, rfl, by decide +kernel, rfl, by decide +kernel, by decide +kernel⟩
/-- [p for p in left if p not in room] -/
def tRest (K : PySem.W.Frag) (l r v : Nat) : TE := tLc (iTup K (tVar l)) (gName v) (tTest (tOp (rIn K true) (tVar v) (tVar r))) (tVar v) [v]
end NA
set_option maxRecDepth 100000
set_option maxHeartbeats 2000000
namespace NA
open PySem PySem.Spec PyProof.Rows L2 GenW
theorem sub_take {l r : List Int} {i : Nat} {n : Int} (h : l[i]? = some n) : sub (l.take (i + 1)) r = sub (l.take i) r ++ (if n ∈ r then [] else [n]) := by
  unfold sub
  rw [take_succ_filter h]
  by_cases q : n ∈ r <;> simp [q]
theorem rd_upd {H : Hp} {a p : Addr} {u v : HO} (h : Rd H a u) (hp : H p = none) : Rd (upd H p v) a u := rd_ext h (Ext.upd hp)
/-- the reading of [p for p in left if p not in room] -/
theorem rest_read {K : PySem.W.Frag} {l r v : Nat} {σ : L2.St} {H : Hp} {Q : VK} {lf rm : Addr} {left room : List Int} (h1 : σ[l]? = some (some (.ref lf))) (h2 : σ[r]? = some (some (.ref rm))) (hl : Rd H lf (.tup (iV left))) (hr : H rm = some (.tup (iV room))) (hz : left.length ≤ 63)
    (hvr : v ≠ r) (hv : v < σ.length) (hq : ∀ D, H D = none → Q (.ref D) (upd H D (.lst (iV (sub left room))))) : tRest K l r v σ H Q := by
  refine ⟨_, h1, lf, rfl, ⟨_, .inl hl⟩, fun D hD => ?_⟩
  have hz2 : sizeLine = 16777216 := sizeLine_eq
  refine lc_tup (xs := iV left) (fun i H' => H' = upd H D (.lst (iV (sub (left.take i) room)))) ?_ (fun i H' _ e => ?_) (fun i x H' hx e => ?_) fun H' e => ?_
  · rfl
  · rw [e]
    exact .inl (rd_upd hl hD)
  · obtain ⟨n, hn, rfl⟩ := iV_get hx
    subst e
    have hw : (wipe σ [v]) = σ.set v none := rfl
    rw [hw]
    refine ⟨?_, ?_⟩
    · show wipe ((σ.set v none).set v (some (.int n))) [v] = σ.set v none
      show (((σ.set v none).set v (some (.int n))).set v none) = _
      rw [List.set_set, List.set_set]
    have e1 : ((σ.set v none).set v (some (V.int n)))[v]? = some (some (.int n)) := by
      rw [List.set_set, List.getElem?_set_self hv]
    have e2 : ((σ.set v none).set v (some (V.int n)))[r]? = some (some (.ref rm)) := by
      rw [List.set_set, List.getElem?_set_ne hvr]
      exact h2
    refine ⟨_, e1, _, e2, rm, iV room, rfl, .inr (.inl (.inl ?_)), rfl, iV_flat _, _, rfl, ?_⟩
    · rw [upd_ne (fun z => by rw [z, hD] at hr; cases hr)]
      exact hr
    rw [iV_in]
    by_cases q : n ∈ room
    · simp only [q, decide_true, Bool.not_true, if_true, Bool.false_eq_true, if_false]
      rw [sub_take hn, if_pos q, List.append_nil]
    · simp only [q, decide_false, Bool.not_false, if_true]
      refine ⟨_, e1, iV (sub (left.take i) room), upd_same, ?_, ?_⟩
      · rw [iV_len]
        have := sub_len (left.take i) room
        rw [List.length_take] at this
        omega
      · rw [upd_upd, sub_take hn, if_neg q]
        unfold iV
        rw [List.map_append]
        rfl
  · rw [e, iV_len, List.take_length]
    exact hq D hD
section
variable {P : Program} {w : World} {K : PySem.W.Frag} {mg : Str → Option Value} {base : Heap} {f : Addr} {fd : FuncData}
def rTupOf (K : PySem.W.Frag) : List V → Hp → VK → Prop := fun xs H Q => ∃ p ys, xs = [.ref p] ∧ ((SqL K H p ys ∧ ∀ l, H l = none → Q (.ref l) (upd H l (.tup ys))) ∨ (SqT K H p ys ∧ Q (.ref p) H))
def rLenSq (K : PySem.W.Frag) : List V → Hp → VK → Prop := fun xs H Q => ∃ p ys, xs = [.ref p] ∧ (SqL K H p ys ∨ SqT K H p ys) ∧ Q (.int ys.length) H
def bodyW (K : PySem.W.Frag) (ty tn : TGn) : TGn := tGFor (iTup K (tOp (rIxL K) (tVar 0) (tVar 3))) (gName 4)
  (tGThen (tPlain (tAsg (tCB (rTupOf K) (tCons (tRest K 2 4 7) tNil)) (gName 5)))
    (tGIf (tB (tDIn (tVar 5) (tOp (rIxL K) (tVar 1) (tVar 3)))) (tGIf (tTest (tOp rEq (tOp (rI0 fun i j => .int (i + j)) (tVar 3) (tC (.int 1))) (tCB (rLenSq K) (tCons (tVar 0) tNil)))) ty tn) tG0))
theorem walk1_ok {G : GA} {spec : List (List V)} {L f : Addr} {cdv : Value} (O : G.Ok) (hE : G.env = envOfC "walk_choices" (defScope sWalk) L f cdv) (hN : G.N = nW) (gT : G.mg "tuple" = none) (gL : G.mg "len" = none) (hr : Room 1 G.A) :
    GSs2 G (PIs spec) (defBody sWalk) (bodyW G.K (tGYield2 (PIs spec) (tTup (tCons (tVar 4) tNil))) fun _ _ _ _ => False) := by
  obtain ⟨prog, w, K, mg, base, A, N, env, outer, pn, hc, Hs, M, g, prot, Rec, Dyn⟩ := G
  cases hE
  cases hN
  exact gss2_one (gs2_for (wi := iTup K (tOp (rIxL K) (tVar 0) (tVar 3))) (g := gName 4) (fun _ => pi_tup (pe_ix ix_list (pv 0) (pv 3) (fun _ _ => rfl))) (fun _ => pg_name (i := 4) scW.nd rfl (Or.inr rfl))
    (gss2_cons (gs2_ps (t := tAsg (tCB (rTupOf K) (tCons (tRest K 2 4 7) tNil)) (gName 5)) (fun _ => ps_set (i := 5) scW.nd rfl (Or.inl rfl) (pe_callTy call_tuple_of (by rfl) gT (by decide +kernel) (pa_cons (pe_lc (own := [("p", 7)]) (g := gName 7) rfl scW.nd (pi_tup (pv 2)) (blkOk_by (N := nW) (sc := defScope sWalk) (by decide +kernel)) (fun _ _ _ _ _ => pg_name (i := 7) scW.nd rfl (Or.inl rfl)) (fun _ _ _ _ _ => pts_one (pt_cmpR op_notIn_seq (pv 7) (pv 4) (by rfl))) (fun _ _ _ _ _ => pv 7)) pa_nil))))
    (gss2_one (gs2_if (tc := tB (tDIn (tVar 5) (tOp (rIxL K) (tVar 1) (tVar 3)))) (fun _ => pt_cmp (pc_din (hu_of hr) (pv 5) (pe_ix ix_list (pv 1) (pv 3) (fun _ _ => rfl))))
      (gss2_one (gs2_if (tc := tTest (tOp rEq (tOp (rI0 fun i j => .int (i + j)) (tVar 3) (tC (.int 1))) (tCB (rLenSq K) (tCons (tVar 0) tNil)))) (fun _ => pt_cmpR op_eq (pe_op op_add (pv 3) pe_int) (pe_callB call_len_seq (by rfl) gL PySem.boot_len (pa_cons (pv 0) pa_nil)) (nomark _)) (gss2_one (gs2_yield (te := tTup (tCons (tVar 4) tNil)) O (fun _ => pe_tup (pa_cons (pv 4) pa_nil)))) (gss2_one gs2_never))) gss2_nil))))
end
end NA
set_option maxRecDepth 100000
set_option maxHeartbeats 2000000
/-! faces, merged, complement. -/
namespace NA
open PySem PySem.Spec PyProof.Rows L2
def srt (l : List Int) : List Int := l.mergeSort fun a b => decide (a ≤ b)
theorem srt_perm (l : List Int) : (srt l).Perm l := List.mergeSort_perm ..
theorem srt_sorted (l : List Int) : (srt l).Pairwise (· ≤ ·) := by
  refine List.Pairwise.imp (fun h => of_decide_eq_true h) (List.pairwise_mergeSort (le := fun a b => decide (a ≤ b)) (fun a b c h1 h2 => ?_) (fun a b => ?_) l)
  · exact decide_eq_true (Int.le_trans (of_decide_eq_true h1) (of_decide_eq_true h2))
  · rcases Int.le_total a b with h | h
    · simp [h]
    · simp [h]
theorem srt_of {u l : List Int} (h : u.Perm l) (s : u.Pairwise (· ≤ ·)) : u = srt l :=
  List.Perm.eq_of_pairwise (fun a b _ _ h1 h2 => Int.le_antisymm h1 h2) s (srt_sorted l) (h.trans (srt_perm l).symm)
theorem srt_len (l : List Int) : (srt l).length = l.length := (srt_perm l).length_eq
def facesI (r : List Int) : List (List Int) := (List.range r.length).map fun k => r.eraseIdx k
theorem iV_take (r : List Int) (n : Nat) : (iV r).take n = iV (r.take n) := by unfold iV; rw [List.map_take]
theorem iV_drop (r : List Int) (n : Nat) : (iV r).drop n = iV (r.drop n) := by unfold iV; rw [List.map_drop]
theorem iV_append (r q : List Int) : iV r ++ iV q = iV (r ++ q) := by unfold iV; rw [List.map_append]
theorem iV_nil {r : List Int} : iV r = [] ↔ r = [] := by unfold iV; exact List.map_eq_nil_iff
/-- a[:k] + a[k + 1:] -/
def tFace (K : PySem.W.Frag) (a b : Nat) : TE := tOp (rCatA K) (tSl (rSlA K) (tVar a) tNoPart (tPart (tVar b))) (tSl (rSlA K) (tVar a) (tPart (tOp (rI0 fun i j => .int (i + j)) (tVar b) (tC (.int 1)))) tNoPart)
theorem face_read {K : PySem.W.Frag} {a b : Nat} {σ : L2.St} {H : Hp} {Q : VK} {rm : Addr} {r : List Int} {k : Nat} (h1 : σ[a]? = some (some (.ref rm))) (h2 : σ[b]? = some (some (.int (k : Int)))) (hr : H rm = some (.tup (iV r))) (hk : k < r.length) (hz : r.length ≤ 63)
    (hq : ∀ v H', Ext H H' → TI H' v (r.eraseIdx k) → Q v H') : tFace K a b σ H Q := by
  have sz : sizeLine = 16777216 := sizeLine_eq
  refine ⟨_, h1, _, h2, _, rfl, rm, iV r, rfl, .inl (.inl hr), fun hw => absurd hw.2 ?_, fun _ p hp => ?_⟩
  · rw [HT.sIx_nat, iV_len]; omega
  have e1 : cutV (iV r) none (some (k : Int)) = iV (r.take k) := by
    unfold cutV
    rw [HT.sIx_none, HT.sIx_nat, iV_len, List.drop_zero, Nat.sub_zero, Nat.min_eq_left (Nat.le_of_lt hk), iV_take]
  rw [e1]
  have x1 : Ext H (upd H p (.tup (iV (r.take k)))) := Ext.upd hp
  refine ⟨_, h1, _, h2, _, _, rfl, rfl, _, rfl, rm, iV r, rfl, .inl (.inl (x1 _ _ hr)), fun hw => absurd hw.1 ?_, fun _ q hq2 => ?_⟩
  · show ¬ HT.sIx _ 0 (some (((k + 1 : Nat)) : Int)) = 0
    rw [HT.sIx_nat, iV_len]; omega
  have e2 : cutV (iV r) (some ((k : Int) + 1)) none = iV (r.drop (k + 1)) := by
    show cutV (iV r) (some (((k + 1 : Nat)) : Int)) none = _
    unfold cutV
    rw [HT.sIx_none, HT.sIx_nat, iV_len, Nat.min_eq_left hk, iV_drop]
    exact List.take_of_length_le (by rw [iV_len, List.length_drop]; exact Nat.le_refl _)
  rw [e2]
  have x2 := x1.trans (Ext.upd (u := .tup (iV (r.drop (k + 1)))) hq2)
  have n1 : p ≠ q := fun z => by rw [← z, upd_same] at hq2; cases hq2
  refine ⟨p, q, _, _, rfl, rfl, .inl (.inl ((upd_ne n1).trans upd_same)), .inl (.inl upd_same), ?_, fun hn => ?_, fun _ hn => ?_, fun _ _ t ht => ?_⟩
  · rw [iV_len, iV_len, List.length_take, List.length_drop]; omega
  · refine hq _ _ x2 ⟨q, rfl, ?_⟩
    rw [upd_same, List.eraseIdx_eq_take_drop_succ, iV_nil.mp hn, List.nil_append]
  · refine hq _ _ x2 ⟨p, rfl, ?_⟩
    rw [upd_ne n1, upd_same, List.eraseIdx_eq_take_drop_succ, iV_nil.mp hn, List.append_nil]
  · refine hq _ _ (x2.trans (Ext.upd ht)) ⟨t, rfl, ?_⟩
    rw [upd_same, List.eraseIdx_eq_take_drop_succ, iV_append]
/-! ### faces -/
def nFaces : List Str := ["room", "k"]
theorem scFaces : FnScope nFaces ["room"] (defScope sFaces) := ⟨rfl, rfl, rfl, by decide +kernel, rfl, by decide +kernel, by decide +kernel⟩
def spFaces : Sp := fun vs H Q _ => ∃ x r, vs = [x] ∧ TI H x r ∧ r.length ≤ 63 ∧ ∀ D xs H', H D = none → Ext H H' → H' D = some (.lst xs) → TIs H' xs (facesI r) → Q (.ref D) H'
section
variable {P : Program} {w : World} {K : PySem.W.Frag} {mg : Str → Option Value} {base : Heap}
theorem facesI_len (r : List Int) : (facesI r).length = r.length := by unfold facesI; rw [List.length_map, List.length_range]
theorem ok_faces (T : Fx K mg) : FnOk P w K mg base CX0 1 (He.ga K "faces") T.fd_faces ["room"] spFaces := by
  refine T.F_faces.ok scFaces (fun vs H Q E h => ?_) (fun cdv A outer s H vs Q E hr h => ⟨_, PSs.nox (pss_one (ps_ret (pe_lc (own := [("k", 1)]) (g := gName 1) (tt := tYes) (te := tFace K 0 1) rfl scFaces.nd (pi_range1 rfl T.n_range (pa_cons (pe_callB call_len_seq (by rfl) T.n_len PySem.boot_len (pa_cons (pv 0) pa_nil)) pa_nil)) (blkOk_by (N := nFaces) (sc := defScope sFaces) (by decide +kernel)) (fun _ _ _ _ _ => pg_name (i := 1) scFaces.nd rfl (Or.inl rfl)) (fun _ _ _ _ _ => pts_nil)
    (fun _ _ _ _ _ => pe_op op_catA (pe_slice sl_tupA (pv 0) po_none (po_some (pv 1))) (pe_slice sl_tupA (pv 0) (po_some (pe_op op_add (pv 1) pe_int)) po_none))))), ?_⟩)
  · obtain ⟨_, _, rfl, _⟩ := h
    rfl
  obtain ⟨x, r, rfl, ⟨rm, rfl, hrm⟩, hz, hq⟩ := h
  have sz : sizeLine = 16777216 := sizeLine_eq
  refine ⟨_, rfl, rm, iV r, rfl, .inr (.inl (.inl hrm)), ?_⟩
  refine ⟨_, rfl, by omega, by rw [iV_len]; omega, fun D hD => ?_⟩
  rw [iV_len]
  refine lc_range (lo := 0) (n := ((r.length : Int)).toNat) (fun i H' => Ext H H' ∧ ∃ xs, H' D = some (.lst xs) ∧ TIs H' xs ((List.range i).map fun k => r.eraseIdx k)) ⟨Ext.upd hD, [], upd_same, TIs.nil⟩ (fun i H' hi z => ?_) fun H' z => ?_
  · obtain ⟨ex, xs, hx, ht⟩ := z
    have hi' : i < r.length := by simpa using hi
    rw [show (0 : Int) + (i : Int) = (i : Int) from Int.zero_add _]
    refine ⟨rfl, ?_⟩
    refine face_read (k := i) rfl rfl (ex _ _ hrm) hi' hz fun v H2 e2 tv => ?_
    have hl : xs.length = i := by rw [ht.1, List.length_map, List.length_range]
    refine ⟨xs, e2 _ _ hx, by omega, ?_⟩
    have keep : ∀ b ys, H2 b = some (.tup ys) → upd H2 D (.lst (xs ++ [v])) b = some (.tup ys) := fun b ys hb => by
      rw [upd_ne (fun z => by rw [z, e2 _ _ hx] at hb; cases hb)]
      exact hb
    refine ⟨fun b u hb => ?_, xs ++ [v], upd_same, ?_⟩
    · rw [upd_ne (fun z => by rw [z, hD] at hb; cases hb)]
      exact e2 _ _ (ex _ _ hb)
    · rw [List.range_succ, List.map_append]
      refine TIs.mono ((ht.ext e2).snoc tv) keep
  · obtain ⟨ex, xs, hx, ht⟩ := z
    exact hq D xs H' hD ex hx (by simpa [facesI] using ht)
end
end NA
set_option maxRecDepth 100000
set_option maxHeartbeats 2000000
namespace NA
open PySem PySem.Spec PyProof.Rows L2 GenW
theorem PIs.ext {sp : List (List V)} {ys : List V} {H H' : Hp} (h : PIs sp ys H) (e : Ext H H') : PIs sp ys H' := ⟨h.1, fun j x hj => by
  obtain ⟨t, s, h1, h2, h3⟩ := h.2 j x hj
  exact ⟨t, s, h1, h2, e _ _ h3⟩⟩
theorem PNs.ext {sp : List (List V)} {ys : List V} {H H' : Hp} (h : PNs sp ys H) (e : Ext H H') : PNs sp ys H' := ⟨h.1, h.2.ext e⟩
theorem PNs.nil {H : Hp} : PNs [] [] H := ⟨rfl, Nat.le_refl _, fun j x h => by cases j <;> cases h⟩
theorem PNs.snoc {sp : List (List V)} {s : List V} {ys : List V} {H : Hp} {p : Addr} (h : PNs sp ys H) (hp : H p = some (.tup s)) : PNs (sp ++ [s]) (ys ++ [.ref p]) H := by
  refine ⟨by rw [List.length_append, List.length_append, h.1]; rfl, by rw [List.length_append, List.length_append, h.1]; exact Nat.le_refl _, fun j x hj => ?_⟩
  by_cases hi : j < ys.length
  · rw [List.getElem?_append_left hi] at hj
    obtain ⟨t, s', h1, h2, h3⟩ := h.2.2 j x hj
    refine ⟨t, s', h1, ?_, h3⟩
    rw [List.getElem?_append_left (by rw [← h.1]; exact hi)]
    exact h2
  · rw [List.getElem?_append_right (Nat.le_of_not_lt hi)] at hj
    have : j - ys.length = 0 := by
      have := (List.getElem?_eq_some_iff.mp hj).1
      simp at this
      omega
    rw [this] at hj
    cases hj
    refine ⟨p, s, rfl, ?_, hp⟩
    rw [List.getElem?_append_right (by rw [← h.1]; exact Nat.le_of_not_lt hi), ← h.1, this]
    rfl
theorem PNs.pre {sp post : List (List V)} {ys : List V} {H : Hp} (h : PNs sp ys H) : PIs (sp ++ post) ys H := by
  refine ⟨by rw [List.length_append, h.1]; exact Nat.le_add_right _ _, fun j x hj => ?_⟩
  obtain ⟨t, s, h1, h2, h3⟩ := h.2.2 j x hj
  refine ⟨t, s, h1, ?_, h3⟩
  rw [List.getElem?_append_left (List.getElem?_eq_some_iff.mp h2).1]
  exact h2
theorem PNs.tups {sp : List (List V)} {ys : List V} {H : Hp} (h : PNs sp ys H) (x : Addr) (hx : V.ref x ∈ ys) : ∃ xs, H x = some (.tup xs) := by
  obtain ⟨j, hj⟩ := List.mem_iff_getElem?.mp hx
  obtain ⟨t, s, h1, _, h3⟩ := h.2.2 j _ hj
  cases h1
  exact ⟨s, h3⟩
/-! ### over zipped rooms -/
def wz1 (zs : List (V × List Int)) (left : List Int) : List (List V) := (zs.filter fun q => decide (sub left q.2 = [])).map fun q => [q.1]
theorem w1_wz {xs : List V} {rs : List (List Int)} {left : List Int} : w1 xs rs left = wz1 (xs.zip rs) left := rfl
theorem wz1_snoc {zs : List (V × List Int)} {left : List Int} {i : Nat} {q : V × List Int} (h : zs[i]? = some q) : wz1 (zs.take (i + 1)) left = wz1 (zs.take i) left ++ (if sub left q.2 = [] then [[q.1]] else []) := by
  unfold wz1
  rw [take_succ_filter h, List.map_append]
  by_cases e : sub left q.2 = [] <;> simp [e]
theorem wz1_split {zs : List (V × List Int)} {left : List Int} (i : Nat) : wz1 zs left = wz1 (zs.take i) left ++ wz1 (zs.drop i) left := by
  unfold wz1
  rw [← List.map_append, ← List.filter_append, List.take_append_drop]
theorem wz1_len {zs : List (V × List Int)} {left : List Int} : (wz1 zs left).length ≤ zs.length := by
  unfold wz1
  rw [List.length_map]
  exact List.length_filter_le ..
theorem zip_get {α β : Type} {xs : List α} {ys : List β} {i : Nat} {x : α} {y : β} (h1 : xs[i]? = some x) (h2 : ys[i]? = some y) : (xs.zip ys)[i]? = some (x, y) := by
  rw [List.getElem?_zip_eq_some]
  exact ⟨h1, h2⟩
theorem kI_nil {r : List Int} : kI r = [] ↔ r = [] := by
  unfold kI
  exact List.map_eq_nil_iff
theorem ival {n m : Int} (h : n = m) : decide (V.int n = V.int m) = true := by rw [h]; exact decide_eq_true rfl
theorem ival_ne {n m : Int} (h : n ≠ m) : decide (V.int n = V.int m) = false := decide_eq_false fun z => h (by cases z; rfl)
end NA
set_option maxRecDepth 100000
set_option maxHeartbeats 2000000
/-! merged, complement, shuffle_sign. -/
namespace NA
open PySem PySem.Spec PyProof.Rows L2
section
variable {P : Program} {w : World} {K : PySem.W.Frag} {mg : Str → Option Value} {base : Heap}
/-! ### merged -/
def nMerged : List Str := ["first", "second"]
theorem scMerged : FnScope nMerged nMerged (defScope sMerged) := ⟨rfl, rfl, rfl, by decide +kernel, rfl, by decide +kernel, by decide +kernel⟩
def spMerged : Sp := fun vs H Q _ => ∃ x y r q, vs = [x, y] ∧ TI H x r ∧ TI H y q ∧ r.length ≤ 63 ∧ q.length ≤ 63 ∧ ∀ v H', Ext H H' → TI H' v (srt (r ++ q)) → Q v H'
theorem ok_merged (T : Fx K mg) : FnOk P w K mg base CX0 1 (He.ga K "merged") T.fd_merged nMerged spMerged := by
  refine T.F_merged.ok scMerged (fun vs H Q E h => ?_) (fun cdv A outer s H vs Q E hr h => ⟨_, PSs.nox (pss_one (ps_ret (pe_callTy call_tuple_of (by rfl) T.n_tuple (by decide +kernel) (pa_cons (pe_callB cr_sortedI (by rfl) T.n_sorted (by decide +kernel)
    (pa_cons (pe_op op_cat (pe_callTy call_list_of (by rfl) T.n_list (by decide +kernel) (pa_cons (pv 0) pa_nil)) (pe_callTy call_list_of (by rfl) T.n_list (by decide +kernel) (pa_cons (pv 1) pa_nil))) pa_nil)) pa_nil)))), ?_⟩)
  · obtain ⟨_, _, _, _, rfl, _⟩ := h
    rfl
  obtain ⟨x, y, r, q, rfl, ⟨a, rfl, ha⟩, ⟨b, rfl, hb⟩, hz, hz2, hq⟩ := h
  have sz : sizeLine = 16777216 := sizeLine_eq
  refine ⟨_, rfl, a, iV r, rfl, .inr (.inl (.inl ha)), fun l1 h1 => ?_⟩
  have x1 : Ext H (upd H l1 (.lst (iV r))) := Ext.upd h1
  refine ⟨_, rfl, b, iV q, rfl, .inr (.inl (.inl (x1 _ _ hb))), fun l2 h2 => ?_⟩
  have x2 := x1.trans (Ext.upd (u := .lst (iV q)) h2)
  have n12 : l1 ≠ l2 := fun z => by rw [← z, upd_same] at h2; cases h2
  refine ⟨l1, l2, _, _, rfl, rfl, (upd_ne n12).trans upd_same, upd_same, by rw [iV_len, iV_len]; omega, fun l3 h3 => ?_⟩
  rw [iV_append]
  have x3 := x2.trans (Ext.upd (u := .lst (iV (r ++ q))) h3)
  refine ⟨l3, r ++ q, rfl, .inl (.inl upd_same), fun ns' p perm srted hp => ?_⟩
  have x4 := x3.trans (Ext.upd (u := .lst (iV ns')) hp)
  refine ⟨p, _, rfl, .inl ⟨.inl (.inl upd_same), fun t ht => ?_⟩⟩
  refine hq _ _ (x4.trans (Ext.upd ht)) ⟨t, rfl, ?_⟩
  rw [upd_same, srt_of perm srted]
  rfl
/-! ### complement -/
def rng (n : Nat) : List Int := (List.range n).map fun i : Nat => (i : Int)
theorem rng_len (n : Nat) : (rng n).length = n := by unfold rng; rw [List.length_map, List.length_range]
theorem rng_get {n i : Nat} (h : i < n) : (rng n)[i]? = some (i : Int) := by
  unfold rng
  rw [List.getElem?_map, List.getElem?_range h]
  rfl
theorem mem_rng {n : Nat} {p : Int} : p ∈ rng n ↔ 0 ≤ p ∧ p < n := by
  unfold rng
  constructor
  · intro h
    obtain ⟨i, hi, rfl⟩ := List.mem_map.mp h
    have := List.mem_range.mp hi
    omega
  · rintro ⟨h1, h2⟩
    exact List.mem_map.mpr ⟨p.toNat, List.mem_range.mpr (by omega), by omega⟩
def compl (n : Nat) (r : List Int) : List Int := sub (rng n) r
/-- [p for p in range(n) if p not in room] -/
def tRng (K : PySem.W.Frag) (l r v : Nat) : TE := tLc (iRng1 (tCons (tVar l) tNil)) (gName v) (tTest (tOp (rIn K true) (tVar v) (tVar r))) (tVar v) [v]
theorem rng_read {K : PySem.W.Frag} {l r v : Nat} {σ : L2.St} {H : Hp} {Q : VK} {n : Nat} {rm : Addr} {room : List Int} (h1 : σ[l]? = some (some (.int (n : Int)))) (h2 : σ[r]? = some (some (.ref rm))) (hr : H rm = some (.tup (iV room))) (hz : n ≤ 63)
    (hvr : v ≠ r) (hv : v < σ.length) (hq : ∀ D, H D = none → Q (.ref D) (upd H D (.lst (iV (compl n room))))) : tRng K l r v σ H Q := by
  refine ⟨_, h1, _, rfl, by omega, by omega, fun D hD => ?_⟩
  have hz2 : sizeLine = 16777216 := sizeLine_eq
  refine lc_range (lo := 0) (n := ((n : Int)).toNat) (fun i H' => H' = upd H D (.lst (iV (sub ((rng n).take i) room)))) ?_ (fun i H' hi e => ?_) fun H' e => ?_
  · rfl
  · rw [show (0 : Int) + (i : Int) = (i : Int) from Int.zero_add _]
    have hi' : i < n := by simpa using hi
    have hn := rng_get hi'
    subst e
    have hw : (wipe σ [v]) = σ.set v none := rfl
    rw [hw]
    refine ⟨?_, ?_⟩
    · show (((σ.set v none).set v (some (.int (i : Int)))).set v none) = _
      rw [List.set_set, List.set_set]
    have e1 : ((σ.set v none).set v (some (V.int (i : Int))))[v]? = some (some (.int (i : Int))) := by
      rw [List.set_set, List.getElem?_set_self hv]
    have e2 : ((σ.set v none).set v (some (V.int (i : Int))))[r]? = some (some (.ref rm)) := by
      rw [List.set_set, List.getElem?_set_ne hvr]
      exact h2
    refine ⟨_, e1, _, e2, rm, iV room, rfl, .inr (.inl (.inl ?_)), rfl, iV_flat _, _, rfl, ?_⟩
    · rw [upd_ne (fun z => by rw [z, hD] at hr; cases hr)]
      exact hr
    rw [iV_in]
    by_cases q : (i : Int) ∈ room
    · simp only [q, decide_true, Bool.not_true, if_true, Bool.false_eq_true, if_false]
      rw [sub_take hn, if_pos q, List.append_nil]
    · simp only [q, decide_false, Bool.not_false, if_true]
      refine ⟨_, e1, iV (sub ((rng n).take i) room), upd_same, ?_, ?_⟩
      · rw [iV_len]
        have := sub_len ((rng n).take i) room
        rw [List.length_take] at this
        omega
      · rw [upd_upd, sub_take hn, if_neg q]
        unfold iV
        rw [List.map_append]
        rfl
  · have : (rng n).take ((n : Int)).toNat = rng n := List.take_of_length_le (by rw [rng_len]; omega)
    rw [e, this]
    exact hq D hD
def nCompl : List Str := ["places", "room", "p"]
theorem scCompl : FnScope nCompl ["places", "room"] (defScope sComplement) := ⟨rfl, rfl, rfl, by decide +kernel, rfl, by decide +kernel, by decide +kernel⟩
def spCompl : Sp := fun vs H Q _ => ∃ (n : Nat) (x : V) (r : List Int), vs = [.int (n : Int), x] ∧ TI H x r ∧ n ≤ 63 ∧ ∀ v H', Ext H H' → TI H' v (compl n r) → Q v H'
theorem ok_complement (T : Fx K mg) : FnOk P w K mg base CX0 1 (He.ga K "complement") T.fd_complement ["places", "room"] spCompl := by
  refine T.F_complement.ok scCompl (fun vs H Q E h => ?_) (fun cdv A outer s H vs Q E hr h => ⟨_, PSs.nox (pss_one (ps_ret (pe_callTy call_tuple_of (by rfl) T.n_tuple (by decide +kernel) (pa_cons (pe_lc (own := [("p", 2)]) (g := gName 2) (wi := iRng1 (tCons (tVar 0) tNil)) (tt := tTest (tOp (rIn K true) (tVar 2) (tVar 1))) (te := tVar 2) rfl scCompl.nd (pi_range1 rfl T.n_range (pa_cons (pv 0) pa_nil)) (blkOk_by (N := nCompl) (sc := defScope sComplement) (by decide +kernel)) (fun _ _ _ _ _ => pg_name (i := 2) scCompl.nd rfl (Or.inl rfl)) (fun _ _ _ _ _ => pts_one (pt_cmpR op_notIn_seq (pv 2) (pv 1) (by rfl))) (fun _ _ _ _ _ => pv 2)) pa_nil)))), ?_⟩)
  · obtain ⟨_, _, _, rfl, _⟩ := h
    rfl
  obtain ⟨n, x, r, rfl, ⟨a, rfl, ha⟩, hz, hq⟩ := h
  have := rng_read (K := K) (σ := start nCompl [.int (n : Int), .ref a]) (l := 0) (r := 1) (v := 2) (n := n) (rm := a) (room := r) (H := H) (Q := fun x H1 => rTupOf K [x] H1 Q) rfl rfl ha hz (by decide) (show 2 < 3 by decide) fun D hD => by
    refine ⟨D, _, rfl, .inl ⟨.inl (.inl upd_same), fun t ht => ?_⟩⟩
    exact hq _ _ ((Ext.upd hD).trans (Ext.upd ht)) ⟨t, rfl, upd_same⟩
  exact this
/-! ### shuffle_sign -/
def nShuf : List Str := ["first", "second", "sign", "p", "q"]
theorem scShuf : FnScope nShuf ["first", "second"] (defScope sShuffle) := ⟨rfl, rfl, rfl, by decide +kernel, rfl, by decide +kernel, by decide +kernel⟩
def spShuf : Sp := fun vs H Q _ => ∃ x y a b, vs = [x, y] ∧ TI H x a ∧ TI H y b ∧ ∀ sg : Int, (sg = 0 ↔ ∃ p ∈ a, p ∈ b) → Q (.int sg) H
theorem take_all {α : Type} {P : α → Prop} {l : List α} {i : Nat} {x : α} (h : l[i]? = some x) (ha : ∀ y ∈ l.take i, P y) (hx : P x) : ∀ y ∈ l.take (i + 1), P y := by
  intro y hy
  rw [List.take_succ, h] at hy
  rcases List.mem_append.mp hy with hy | hy
  · exact ha y hy
  · have : y = x := by simpa using hy
    rw [this]; exact hx
theorem ok_shuffle (T : Fx K mg) : FnOk P w K mg base CX0 1 (He.ga K "shuffle_sign") T.fd_shuffle_sign ["first", "second"] spShuf := by
  refine T.F_shuffle_sign.ok scShuf (fun vs H Q E h => ?_) (fun cdv A outer s H vs Q E hr h => ⟨_, PSs.nox (pss_cons (ps_set (i := 2) scShuf.nd rfl (Or.inl rfl) pe_int) (pss_cons (ps_for PassesOwn.never rfl (pi_tup (pv 0)) (pg_name (i := 3) scShuf.nd rfl (Or.inl rfl))
    (pss_one (ps_for PassesOwn.never rfl (pi_tup (pv 1)) (pg_name (i := 4) scShuf.nd rfl (Or.inl rfl)) (pss_cons (ps_if (pt_cmpR op_eq (pv 3) (pv 4) (nomark _)) (pss_one (ps_ret pe_int)) pss_nil) (pss_one (ps_if (pt_cmpR op_gt (pv 3) (pv 4) (nomark _)) (pss_one (ps_set (i := 2) scShuf.nd rfl (Or.inl rfl) (pe_un un_neg (pv 2)))) pss_nil))))))
    (pss_one (ps_ret (pv 2))))), ?_⟩)
  · obtain ⟨_, _, _, _, rfl, _⟩ := h
    rfl
  obtain ⟨x, y, a, b, rfl, ⟨x, rfl, hx⟩, ⟨y, rfl, hy⟩, hq⟩ := h
  refine ⟨_, rfl, x, rfl, ⟨_, .inl (.inl hx)⟩, ?_⟩
  refine for_tup (xs := iV a) (fun i σ H' => H' = H ∧ (∃ sg c d, σ = [some (.ref x), some (.ref y), some (.int sg), c, d] ∧ sg ≠ 0) ∧ ∀ p ∈ a.take i, p ∉ b) ⟨rfl, ⟨1, none, none, rfl, by decide⟩, fun p hp => by cases hp⟩ (fun i σ H' _ z => .inl (.inl (by rw [z.1]; exact hx))) (fun i v σ H' hv z => ?_) fun σ H' z => ?_
  · obtain ⟨rfl, ⟨sg, c, d, rfl, hsg⟩, hp⟩ := z
    obtain ⟨p, hap, rfl⟩ := iV_get hv
    refine ⟨_, rfl, y, rfl, ⟨_, .inl (.inl hy)⟩, ?_⟩
    refine for_tup (xs := iV b) (fun j σ H'' => H'' = H' ∧ (∃ sg d, σ = [some (.ref x), some (.ref y), some (.int sg), some (.int p), d] ∧ sg ≠ 0) ∧ ∀ q ∈ b.take j, q ≠ p) ⟨rfl, ⟨sg, d, rfl, hsg⟩, fun p hp => by cases hp⟩ (fun j σ H'' _ z => .inl (.inl (by rw [z.1]; exact hy))) (fun j v σ H'' hv z => ?_) fun σ H'' z => ?_
    · obtain ⟨rfl, ⟨sg, d, rfl, hsg⟩, hq2⟩ := z
      obtain ⟨q, hbq, rfl⟩ := iV_get hv
      refine ⟨_, rfl, _, rfl, rfl, _, rfl, ?_⟩
      by_cases e : p = q
      · subst e
        rw [ival rfl]
        refine iteT ?_
        refine hq 0 ⟨fun _ => ⟨p, List.mem_of_getElem? hap, List.mem_of_getElem? hbq⟩, fun _ => rfl⟩
      · rw [ival_ne e]
        refine iteF ?_
        refine ⟨_, rfl, _, rfl, _, _, rfl, rfl, _, rfl, ?_⟩
        have hq3 : ∀ q' ∈ b.take (j + 1), q' ≠ p := take_all hbq hq2 fun z => e z.symm
        refine ite2 (fun _ => ?_) fun _ => ?_
        · exact ⟨_, rfl, _, rfl, rfl, ⟨-sg, _, rfl, by omega⟩, hq3⟩
        · exact ⟨rfl, ⟨sg, _, rfl, hsg⟩, hq3⟩
    · obtain ⟨rfl, ⟨sg, d, rfl, hsg⟩, hq2⟩ := z
      rw [iV_len, List.take_length] at hq2
      exact ⟨rfl, ⟨sg, _, _, rfl, hsg⟩, take_all hap hp fun hb => hq2 p hb rfl⟩
  · obtain ⟨rfl, ⟨sg, c, d, rfl, hsg⟩, hp⟩ := z
    rw [iV_len, List.take_length] at hp
    refine ⟨_, rfl, ?_⟩
    exact hq sg ⟨fun z => absurd z hsg, fun ⟨p, h1, h2⟩ => absurd h2 (hp p h1)⟩
end
end NA
set_option maxRecDepth 100000
set_option maxHeartbeats 2000000
/-! len(set(xs)), ints that may stand twice. -/
namespace NA
open PySem PySem.Spec PyProof.Rows L2
theorem nodup_len_le : ∀ {l m : List Int}, l.Nodup → (∀ x ∈ l, x ∈ m) → l.length ≤ m.length
  | [], m, _, _ => Nat.zero_le _
  | a :: l, m, h, s => by
    have ha := s a List.mem_cons_self
    have h' := List.nodup_cons.mp h
    have : l.length ≤ (m.erase a).length := nodup_len_le h'.2 fun x hx => by
      have ne : x ≠ a := fun z => h'.1 (z ▸ hx)
      exact (List.mem_erase_of_ne ne).mpr (s x (List.mem_cons_of_mem _ hx))
    rw [List.length_erase_of_mem ha] at this
    have : 0 < m.length := List.length_pos_of_mem ha
    simp only [List.length_cons]
    omega
theorem nodup_of_len : ∀ {l m : List Int}, l.Nodup → (∀ x, x ∈ l ↔ x ∈ m) → m.length ≤ l.length → m.Nodup
  | l, [], _, _, _ => List.nodup_nil
  | l, b :: m, h, s, hl => by
    have hb : b ∈ l := (s b).mpr List.mem_cons_self
    by_cases hm : b ∈ m
    · -- then l is within m, too short
      have : l.length ≤ m.length := nodup_len_le h fun x hx => by
        rcases List.mem_cons.mp ((s x).mp hx) with e | e
        · rw [e]; exact hm
        · exact e
      simp only [List.length_cons] at hl
      omega
    · refine List.nodup_cons.mpr ⟨hm, nodup_of_len (l := l.erase b) (h.erase b) (fun x => ?_) ?_⟩
      · rw [h.mem_erase_iff]
        constructor
        · rintro ⟨h1, h2⟩
          rcases List.mem_cons.mp ((s x).mp h2) with e | e
          · exact absurd e h1
          · exact e
        · intro hx
          exact ⟨fun e => hm (e ▸ hx), (s x).mpr (List.mem_cons_of_mem _ hx)⟩
      · rw [List.length_erase_of_mem hb]
        simp only [List.length_cons] at hl
        omega
/-- l holds each item of m once -/
theorem dist_len {l m : List Int} (h : l.Nodup) (s : ∀ x, x ∈ l ↔ x ∈ m) : l.length ≤ m.length ∧ (l.length = m.length ↔ m.Nodup) :=
  ⟨nodup_len_le h fun x hx => (s x).mp hx, fun e => nodup_of_len h s (Nat.le_of_eq e.symm), fun hm => Nat.le_antisymm (nodup_len_le h fun x hx => (s x).mp hx) (nodup_len_le hm fun x hx => (s x).mpr hx)⟩
theorem firstMet_dist {ns : List Int} : ∀ i, i ≤ ns.length → (PyProof.Rows.firstMet (fun i => ns.getD i 0) i).Nodup ∧ ∀ x, x ∈ PyProof.Rows.firstMet (fun i => ns.getD i 0) i ↔ x ∈ ns.take i
  | 0, _ => ⟨List.nodup_nil, fun x => by simp [PyProof.Rows.firstMet]⟩
  | i + 1, hi => by
    obtain ⟨h1, h2⟩ := firstMet_dist (ns := ns) i (Nat.le_of_lt hi)
    have e1 : ns.getD i 0 = ns[i] := by
      rw [List.getD_eq_getElem?_getD, List.getElem?_eq_getElem hi] <;> rfl
    have e2 : ns.take (i + 1) = ns.take i ++ [ns[i]] := by
      rw [List.take_add_one, List.getElem?_eq_getElem hi] <;> rfl
    rw [PyProof.Rows.firstMet_succ, e2]
    show (if (PyProof.Rows.firstMet (fun i => ns.getD i 0) i).any (· == ns.getD i 0) then PyProof.Rows.firstMet (fun i => ns.getD i 0) i else PyProof.Rows.firstMet (fun i => ns.getD i 0) i ++ [ns.getD i 0]).Nodup ∧ ∀ x, x ∈ (if (PyProof.Rows.firstMet (fun i => ns.getD i 0) i).any (· == ns.getD i 0) then PyProof.Rows.firstMet (fun i => ns.getD i 0) i else PyProof.Rows.firstMet (fun i => ns.getD i 0) i ++ [ns.getD i 0]) ↔ _
    rw [e1]
    generalize PyProof.Rows.firstMet (fun i => ns.getD i 0) i = l at h1 h2
    by_cases q : ns[i] ∈ l
    · have : l.any (· == ns[i]) = true := List.any_eq_true.mpr ⟨_, q, beq_self_eq_true _⟩
      rw [this, if_pos rfl]
      refine ⟨h1, fun x => ?_⟩
      rw [List.mem_append, ← h2 x]
      constructor
      · exact .inl
      · rintro (h | h)
        · exact h
        · rw [List.mem_singleton.mp h]; exact q
    · have : l.any (· == ns[i]) = false := by
        cases hb : l.any (· == ns[i]) with
        | false => rfl
        | true =>
          obtain ⟨y, hy, ey⟩ := List.any_eq_true.mp hb
          have ey2 : y = ns[i] := eq_of_beq ey
          exact absurd (ey2 ▸ hy) q
      rw [this]
      refine ⟨?_, fun x => ?_⟩
      · show (l ++ [ns[i]]).Nodup
        rw [List.nodup_append]
        exact ⟨h1, by simp, fun a ha b hb e => q (by rw [← List.mem_singleton.mp hb, ← e]; exact ha)⟩
      · show x ∈ l ++ [ns[i]] ↔ _
        rw [List.mem_append, List.mem_append, h2 x]
def tLenSetL (K : PySem.W.Frag) (ta : TE) : TE := fun σ H Q => ta σ H fun x H1 => ∃ (l : Addr) (ns : List Int), x = .ref l ∧ (SqL K H1 l (iV ns) ∨ SqT K H1 l (iV ns)) ∧ ns.length ≤ 4000 ∧ ∀ d : Nat, d ≤ ns.length → (d = ns.length ↔ ns.Nodup) → Q (.int d) H1
theorem pe_lenSetL {X : Cx} {a : Expr} {ta : TE} {p p2 q pos : Pos} (hg : Gl X "len") (hm : X.mg "len" = none) (hg2 : Gl X "set") (hm2 : X.mg "set" = none) (ha : PE X a ta) (hc : X.calm = true := by rfl)
    (na : starEach [a] X.env = (false, eval a X.env) :: starEach [] X.env := by rfl) : PE X (.Call (.Name "len" p) [.Call (.Name "set" p2) [a] [] q] [] pos) (tLenSetL X.K ta) := by
  refine ⟨fun pins s σ H Q I h => ?_⟩
  refine Call_ (ld_blt I hg hm boot_len ?_)
  refine PyProof.Rows.callWith_builtin1 (PyProof.Rows.args_cons ?_ rfl) rfl rfl
  refine Call_ (ld_blt I hg2 hm2 boot_set ?_)
  refine PyProof.Rows.callWith_type1 (PyProof.Rows.args_cons (thn (ha.run pins s σ H _ I h) fun v s1 ⟨x, H1, I1, r1, q1⟩ => PyProof.Rows.args_nil ?_) na) na rfl
  obtain ⟨l, ns, rfl, hq, hl, q1⟩ := q1
  cases r1
  rcases hq with hq | hq
  · obtain ⟨its, r, pl, hz⟩ := I1.list hq
    have hlen : its.toArray.size = ns.length := by rw [List.size_toArray, ← r.length, iV_len]
    refine call_set_list (I1.ok.hd hc) pl.isList (by simpa using RZ.intsAre_vals r) (by rw [hlen]; unfold scanBound; omega) fun h' tk hS hk => ?_
    refine PyProof.Rows.args_nil ?_
    obtain ⟨d1, d2⟩ := firstMet_dist (ns := ns) ns.length (Nat.le_refl _)
    rw [List.take_length] at d2
    obtain ⟨b1, b2⟩ := dist_len d1 d2
    rw [hlen] at hS
    obtain ⟨o, es, ep, t, ho, hex, hd, _, _, _, hf, hn⟩ := hS
    have I2 : Inv X pins σ H1 { s1 with heap := h', toks := tk } := I1.kept fun b o e => hk b o (Heap.lt_size e) e
    exact call_len_set ho hex hd hf (by rw [hn] <;> omega) ⟨.int _, H1, I2.tok _, ⟨_, by rw [hn]⟩, q1 _ b1 b2⟩
  · obtain ⟨its, r, pl, hz⟩ := I1.tuple hq
    have hlen : its.toArray.size = ns.length := by rw [List.size_toArray, ← r.length, iV_len]
    refine call_set_tupI ns (I1.ok.hd hc) pl (by simpa using RZ.intsAre_vals r) (by unfold scanBound; omega) fun h' tk c hS hc' hk => ?_
    refine PyProof.Rows.args_nil ?_
    obtain ⟨o, es, ep, t, ho, hex, hd, _, hnd, hmem, _, hf, hn, _⟩ := hS
    obtain ⟨b1, b2⟩ := dist_len (m := ns) hnd fun x => by
      rw [← hmem x]
      simp
    rw [List.length_map, Array.length_toList] at b1 b2
    have I2 : Inv X pins σ H1 { s1 with heap := h', toks := tk } := I1.kept fun b o e => hk b o e
    exact call_len_set ho hex hd hf (by omega) ⟨.int _, H1, I2.tok _, ⟨_, rfl⟩, q1 _ b1 b2⟩
end NA
set_option maxRecDepth 100000
set_option maxHeartbeats 2000000
/-! sorted: of a tuple of ints, of lists of tuples of ints, of a dict whose keys are such. -/
namespace NA
open PySem PySem.Spec PyProof.Rows L2
section
variable {prog : Program} {w : World} {A : Around} {E : Value → Shared → Prop} {s : Shared}
/-- sorted(v), by what collects v -/
theorem sorted_via {v : Value} {Q : Value → Shared → Prop} (C : List Value → Shared → Prop) (hcol : wpAny (model prog w) A.in1 (collect v) C E s)
    (hsort : ∀ vs s1, C vs s1 → vs.length ≤ sizeLine ∧ wpAny (model prog w) A.in1 (call (.builtin "list.sort") [.ref s1.heap.objs.size]) (fun _ s2 => Q (.ref s1.heap.objs.size) s2) E { s1 with heap := s1.heap.push (seqObj "list" vs.toArray 0) }) :
    wpAny (model prog w) A (call (.builtin "sorted") [v]) Q E s := by
  refine Calls.call_function_entry kind_sorted plain_sorted entry_sorted (args_sorted1 _) (show wpAny _ _ (Builtin.«sorted» _) _ _ s from ?_)
  unfold Builtin.«sorted»
  refine wpAny_bind (m := checkCount "sorted" 1 1 _) (wpAny_pure (show wpAny _ _ _ _ _ s from ?_))
  refine wpAny_bind (wpAny_mono hcol (fun vs s1 h => ?_) (fun _ _ e => e))
  obtain ⟨hz, hs⟩ := hsort vs s1 h
  refine wpAny_bind (wpAny_newList ?_ hz)
  exact wpAny_bind (wpAny_holding (wpAny_mono hs (fun _ s2 h2 => wpAny_pure ⟨_, rfl, h2⟩) (fun _ _ e => e)))
/-- list.sort, tuples of ints: of one length above 0, or one tuple at most -/
theorem sort_tupsA {a : Addr} {vs : List Value} {n d : Nat} {B : Int} {Q : Value → Shared → Prop} (ho : s.heap.get? a = some (seqObj "list" vs.toArray n)) (h64 : vs.length < 64) (hd : 1 ≤ d ∨ vs.length ≤ 1) (x : TS.TupsOk s.heap d B vs)
    (h : ∀ out : Array Value, out.toList.Perm vs → out.toList.Pairwise (fun u v => TS.code B (TS.intsOf s.heap u) ≤ TS.code B (TS.intsOf s.heap v)) → Q .none { s with heap := sortedHeap s.heap a vs out }) :
    wpAny (model prog w) A (call (.builtin "list.sort") [.ref a]) Q E s := by
  by_cases h1 : 1 ≤ d
  · exact TS.call_sort_tups ho h64 h1 x h
  · have hs : vs.length ≤ 1 := by omega
    refine wpAny_call_entry slot_list_sort ⟨_, ho, rfl⟩ entry_list_sort (SK.plain_sort (r := fun v => TS.code B (TS.intsOf s.heap v)) ho h64 (fun h2 => absurd h2 (by omega)) fun ps out h1 h2 h3 => ?_) (args_list_sort _)
    obtain ⟨p, o⟩ := TS.out_rank (r := fun v => TS.code B (TS.intsOf s.heap v)) h1 h2 h3
    exact ⟨_, rfl, h out p o⟩
/-- a tuple collected -/
theorem collect_tup {l : Addr} {vs : List Value} {Q : List Value → Shared → Prop} (hl : IsTup s.heap l vs.toArray) (hsz : vs.length ≤ sizeLine)
    (h : Q vs { s with heap := (s.heap.push (seqObj "list" #[] 0)).update s.heap.objs.size (Obj.mapSeq (· ++ vs.toArray)) }) : wpAny (model prog w) A (collect (.ref l)) Q E s := by
  obtain ⟨o, ho, hc, n, hd⟩ := id hl
  unfold collect
  refine wpAny_bind (wpAny_runValue (codeAny_builtin entry_proto_collect' (show wpAny _ _ (do again (.builtin "list.__iadd__" ⟨[← newList [], .ref l], []⟩)) _ _ s from ?_)))
  refine wpAny_bind (wpAny_newList (wpAny_pure ⟨Code.quiet_builtin _ (by decide +kernel), codeAny_builtin entry_list_iadd' (show wpAny _ _ (Builtin.List.listExtendWith (.ref s.heap.objs.size) (.ref l) (.ref s.heap.objs.size)) _ _ { s with heap := s.heap.push (seqObj "list" #[] 0) } from ?_)⟩))
  unfold Builtin.List.listExtendWith
  have keepL : (s.heap.push (seqObj "list" #[] 0)).get? l = some o := Heap.get?_push_of_some _ ho
  refine wpAny_bind (wpAny_typeOf (T := "tuple") ⟨o, keepL, hc⟩ ?_)
  have ht : (Value.type "tuple" == Value.type "tuple") = true := rfl
  rw [if_pos (by rw [ht]; simp)]
  refine wpAny_bind (listItems_at keepL hd (wpAny_bind (listItems_at (xs := #[]) (n := 0) (Heap.get?_push_size _ rfl) rfl ?_)))
  rw [if_neg (by simp)]
  refine wpAny_bind (listUpdate_at (xs := #[]) (n := 0) (Heap.get?_push_size _ rfl) rfl (wpAny_pure ?_) (Nat.zero_le _) (by show (#[] ++ vs.toArray).size ≤ sizeLine + 1; simp only [Array.size_append, List.size_toArray, List.length_nil]; omega))
  show wpAny (model prog w) A (load s.heap.objs.size >>= fun o => match o.data with | .seq xs _ => pure xs.toList | _ => unsupported "internal:collect") Q E { s with heap := (s.heap.push (seqObj "list" #[] 0)).update s.heap.objs.size (Obj.mapSeq (· ++ vs.toArray)) }
  refine wpAny_bind (wpAny_load (get?_update_seq (Heap.get?_push_size _ rfl) _) (show wpAny _ _ (pure ((#[] : Array Value) ++ vs.toArray).toList) Q E _ from ?_))
  rw [show ((#[] : Array Value) ++ vs.toArray).toList = vs by simp]
  exact wpAny_pure h
theorem coll_keep {h : Heap} {vs : List Value} {b : Addr} {o : Obj} (e : h.get? b = some o) : ((h.push (seqObj "list" #[] 0)).update h.objs.size (Obj.mapSeq (· ++ vs.toArray))).get? b = some o := by
  rw [Heap.get?_update_ne _ _ _ _ (Nat.ne_of_lt (Heap.lt_size e))]
  exact Heap.get?_push_of_some _ e
end
section
variable {X : Cx}
/-- sorted(t), t a tuple of ints, fewer than 64 -/
theorem cr_sortedTI : CallR X (.builtin "sorted") (fun vs H Q => ∃ (a : Addr) (ns : List Int), vs = [V.ref a] ∧ SqT X.K H a (iV ns) ∧ ns.length < 64 ∧ ∀ p, H p = none → Q (.ref p) (upd H p (.lst (iV (srt ns))))) := by
  intro pins s σ H vs us Q I r h
  obtain ⟨a, ns, rfl, hs, hl, q⟩ := h
  rw [Vals.ref1 r]
  obtain ⟨its, rv, ht, hz⟩ := I.tuple hs
  have hin : IntsAre its ns := rv.ints
  have sz : sizeLine = 16777216 := sizeLine_eq
  have hlen : its.length = ns.length := by rw [← rv.length, iV_len]
  refine sorted_via (fun vs s1 => vs = its ∧ Inv X pins σ H s1) (collect_tup ht (by omega) ⟨rfl, I.kept (t' := s.toks) fun b o e => coll_keep e⟩) fun vs s1 ⟨ev, I1⟩ => ?_
  subst ev
  refine ⟨by omega, ?_⟩
  have hoL : (s1.heap.push (seqObj "list" vs.toArray 0)).get? s1.heap.objs.size = some (seqObj "list" vs.toArray 0) := Heap.get?_push_size _ rfl
  refine wpAny_call_entry slot_list_sort ⟨_, hoL, rfl⟩ entry_list_sort (list_sort_tree (s := { s1 with heap := s1.heap.push (seqObj "list" vs.toArray 0) }) hoL hin (by omega) fun out ys g1 g2 g3 => ⟨_, rfl, ?_⟩) (args_list_sort _)
  obtain ⟨e', he'⟩ := sortedHeap_at (vs := vs) (out := out) hoL
  have ey := srt_of g2 g3
  have ov : Vals (iV ys) out.toList := vals_of_ints g1
  have hl2 : (iV ys).length ≤ sizeLine := by rw [iV_len, g2.length_eq]; omega
  refine ⟨.ref s1.heap.objs.size, upd H s1.heap.objs.size (.lst (iV ys)), I1.laid (t' := s1.toks) (fun b u e => ?_) (Nat.le_refl _) (show ObjOk X.prog X.w _ _ _ (.lst (iV ys)) from ⟨hl2, out.toList, e', ov, by rw [Array.toArray_toList]; exact he'⟩), rfl, by rw [ey]; exact q _ (I1.hok.fresh (Nat.le_refl _))⟩
  have hb : b < s1.heap.objs.size := Heap.lt_size e
  exact (sortedHeap_old (Nat.ne_of_lt hb) (by rw [size_push']; exact Nat.lt_succ_of_lt hb)).trans (Heap.get?_push_of_some _ e)
/-- how rooms are ordered -/
def cd (r : List Int) : Int := TS.code 64 r
def Ok64 (r : List Int) : Prop := TS.Bd 64 r
theorem TIs_perm {H : Hp} {ys xs : List V} (p : ys.Perm xs) : ∀ {rs : List (List Int)}, TIs H xs rs → ∃ qs, TIs H ys qs ∧ qs.Perm rs := by
  induction p with
  | nil => intro rs h; exact ⟨rs, h, .refl _⟩
  | cons x p ih =>
    intro rs h
    cases rs with
    | nil => exact absurd h.1 (by simp)
    | cons r rs =>
      obtain ⟨qs, h1, h2⟩ := ih h.tail
      exact ⟨r :: qs, .cons h.head h1, h2.cons r⟩
  | swap x y l =>
    intro rs h
    match rs, h with
    | [], h => exact absurd h.1 (by simp)
    | [_], h => exact absurd h.1 (by simp)
    | r :: q :: rs, h => exact ⟨q :: r :: rs, .cons h.tail.head (.cons h.head h.tail.tail), .swap ..⟩
  | trans p1 p2 ih1 ih2 =>
    intro rs h
    obtain ⟨qs, h1, h2⟩ := ih2 h
    obtain ⟨ps, h3, h4⟩ := ih1 h1
    exact ⟨ps, h3, h4.trans h2⟩
theorem TIs.refs {H : Hp} {xs : List V} {rs : List (List Int)} (h : TIs H xs rs) : ∀ x ∈ xs, ∃ a, x = V.ref a := fun x hx => by
  obtain ⟨i, hi⟩ := List.mem_iff_getElem?.mp hx
  obtain ⟨r, _, t, e, _⟩ := h.at hi
  exact ⟨t, e⟩
theorem TIs.raw {pins : List (Addr × Obj)} {σ : L2.St} {H : Hp} {s : Shared} {xs : List V} {rs : List (List Int)} {us : List Value} {d : Nat} (I : Inv X pins σ H s) (h : TIs H xs rs) (rv : Vals xs us) (hd : ∀ r ∈ rs, r.length = d ∧ Ok64 r) : TS.TupsOk s.heap d 64 us := fun v hv => by
  obtain ⟨i, hi⟩ := List.mem_iff_getElem?.mp hv
  have hl : i < xs.length := by rw [rv.length]; exact (List.getElem?_eq_some_iff.mp hi).1
  obtain ⟨r, hr, t, e, ht⟩ := h.at (List.getElem?_eq_getElem hl)
  obtain ⟨v', hv', hv2⟩ := rv.get (List.getElem?_eq_getElem hl)
  rw [hi] at hv'
  cases hv'
  rw [e] at hv2
  cases hv2
  obtain ⟨h1, h2⟩ := hd r (List.mem_of_getElem? hr)
  exact ⟨r, tupI_raw I (.inl (.inl ht)), h1, h2⟩
/-- the list at L, of tuples of ints, is sorted in place; L is new -/
theorem sort_new {pins : List (Addr × Obj)} {σ : L2.St} {H : Hp} {s : Shared} {E : Value → Shared → Prop} {A : Around} {xs : List V} {rs : List (List Int)} {us : List Value} {d : Nat} {Q : VK} (I : Inv X pins σ H s) (t : TIs H xs rs) (rv : Vals xs us) (h64 : rs.length < 64) (hd1 : 1 ≤ d ∨ rs.length ≤ 1) (hd : ∀ r ∈ rs, r.length = d ∧ Ok64 r)
    (hq : ∀ ys qs p, TIs H ys qs → qs.Perm rs → qs.Pairwise (fun a b => cd a ≤ cd b) → H p = none → Q (.ref p) (upd H p (.lst ys))) :
    wpAny (model X.prog X.w) A (call (.builtin "list.sort") [.ref s.heap.objs.size]) (fun _ s2 => EP X pins σ Q (.ref s.heap.objs.size) s2) E { s with heap := s.heap.push (seqObj "list" us.toArray 0) } := by
  have sz : sizeLine = 16777216 := sizeLine_eq
  have hl1 : us.length = rs.length := by rw [← rv.length, t.1]
  have hoL : (s.heap.push (seqObj "list" us.toArray 0)).get? s.heap.objs.size = some (seqObj "list" us.toArray 0) := Heap.get?_push_size _ rfl
  have I1 : Inv X pins σ H { s with heap := s.heap.push (seqObj "list" us.toArray 0) } := I.kept (t' := s.toks) fun b o e => Heap.get?_push_of_some _ e
  have ok := t.raw I1 rv hd
  refine sort_tupsA (d := d) (B := 64) hoL (by omega) (by omega) ok fun out h1 h2 => ?_
  obtain ⟨e1, e2⟩ := bkV_refs rv t.refs
  have h3 : ∀ u ∈ out.toList, ∃ a, u = Value.ref a := fun u hu => e2 u (h1.mem_iff.mp hu)
  have hp : (out.toList.map bkV).Perm xs := by rw [e1]; exact h1.map bkV
  obtain ⟨qs, tq, pq⟩ := TIs_perm hp t
  obtain ⟨e', he'⟩ := sortedHeap_at (vs := us) (out := out) hoL
  have hlen : (out.toList.map bkV).length ≤ sizeLine := by rw [hp.length_eq, t.1]; omega
  have pw : qs.Pairwise (fun a b => cd a ≤ cd b) := by
    rw [List.pairwise_iff_getElem] at h2 ⊢
    intro i j hi hj hij
    have hle : out.toList.length = qs.length := by rw [← tq.1, List.length_map]
    have hi' : i < out.toList.length := by omega
    have hj' : j < out.toList.length := by omega
    have key : ∀ (k : Nat) (hk : k < qs.length) (hk' : k < out.toList.length), TS.intsOf (s.heap.push (seqObj "list" us.toArray 0)) out.toList[k] = qs[k] := fun k hk hk' => by
      obtain ⟨tt, g1, g2⟩ := tq.2 k qs[k] (List.getElem?_eq_getElem hk)
      rw [List.getElem?_map, List.getElem?_eq_getElem hk'] at g1
      have g3 : bkV out.toList[k] = V.ref tt := Option.some.inj g1
      rw [bkV_ref g3]
      exact (tupI_raw I1 (.inl (.inl g2))).ints
    have := h2 i j hi' hj' hij
    rw [key i hi hi', key j hj hj'] at this
    exact this
  refine ⟨.ref s.heap.objs.size, upd H s.heap.objs.size (.lst (out.toList.map bkV)), I.laid (t' := s.toks) (fun b u e => ?_) (Nat.le_refl _) ⟨hlen, out.toList, e', bkV_vals h3, by rw [Array.toArray_toList]; exact he'⟩, rfl, hq _ _ _ tq pq pw (I.hok.fresh (Nat.le_refl _))⟩
  have hb : b < s.heap.objs.size := Heap.lt_size e
  exact (sortedHeap_old (Nat.ne_of_lt hb) (by rw [size_push']; exact Nat.lt_succ_of_lt hb)).trans (Heap.get?_push_of_some _ e)
/-- sorted(xs), a list of such tuples -/
def rSortTL (K : PySem.W.Frag) : List V → Hp → VK → Prop := fun vs H Q => ∃ (a : Addr) (xs : List V) (rs : List (List Int)) (d : Nat), vs = [V.ref a] ∧ SqL K H a xs ∧ TIs H xs rs ∧ rs.length < 64 ∧ (1 ≤ d ∨ rs.length ≤ 1) ∧ (∀ r ∈ rs, r.length = d ∧ Ok64 r) ∧
  ∀ ys qs p, TIs H ys qs → qs.Perm rs → qs.Pairwise (fun a b => cd a ≤ cd b) → H p = none → Q (.ref p) (upd H p (.lst ys))
theorem cr_sortTL : CallR X (.builtin "sorted") (rSortTL X.K) := by
  intro pins s σ H vs us Q I r h
  obtain ⟨a, xs, rs, d, rfl, hs, t, h64, hd1, hd, q⟩ := h
  rw [Vals.ref1 r]
  obtain ⟨its, rv, hl, hz⟩ := I.list hs
  have sz : sizeLine = 16777216 := sizeLine_eq
  have hz2 : its.length ≤ sizeLine := by rw [← rv.length, t.1]; omega
  refine sorted_via (fun vs s1 => vs = its ∧ Inv X pins σ H s1) (collect_list hl.isList ⟨rfl, I.kept (t' := s.toks) fun b o e => coll_keep e⟩ hz2) fun vs s1 ⟨ev, I1⟩ => ?_
  subst ev
  exact ⟨hz2, sort_new I1 t rv h64 hd1 hd q⟩
/-- sorted(d), a dict whose keys are such tuples -/
def rSortTD : List V → Hp → VK → Prop := fun vs H Q => ∃ (a : Addr) (kvs : List (List Key × V)) (rs : List (List Int)) (d : Nat), vs = [V.ref a] ∧ Rd H a (.dT kvs) ∧ kvs.map (·.1) = rs.map kI ∧ rs.length < 64 ∧ (1 ≤ d ∨ rs.length ≤ 1) ∧ (∀ r ∈ rs, r.length = d ∧ Ok64 r) ∧
  ∀ ys qs p, TIs H ys qs → qs.Perm rs → qs.Pairwise (fun a b => cd a ≤ cd b) → H p = none → Q (.ref p) (upd H p (.lst ys))
theorem isKeys_tis {H : Hp} : ∀ {kvs : List (List Key × V)} {bs : List Addr} {rs : List (List Int)}, IsKeys H kvs bs → kvs.map (·.1) = rs.map kI → TIs H (bs.map V.ref) rs
  | [], [], [], _, _ => .nil
  | [], [], _ :: _, _, e => by simp at e
  | p :: kvs, b :: bs, [], _, e => by simp at e
  | p :: kvs, b :: bs, r :: rs, k, e => by
    simp only [List.map_cons, List.cons.injEq] at e
    cases k with
    | cons h t => exact .cons ⟨b, rfl, by rw [← kI_kV, ← e.1]; exact h⟩ (isKeys_tis t e.2)
theorem cr_sortTD (hc : X.calm = true) : CallR X (.builtin "sorted") rSortTD := by
  intro pins s σ H vs us Q I r h
  obtain ⟨a, kvs, rs, d, rfl, hdt, hk, h64, hd1, hd, q⟩ := h
  rw [Vals.ref1 r]
  have sz : sizeLine = 16777216 := sizeLine_eq
  obtain ⟨z, hs, ks, pr, o, es, ep, ho, hx, hde, he, hn⟩ := (show ObjOk X.prog X.w H s.heap a (.dT kvs) from hdt.ok I.hok)
  have l1 : es.size = ks.length := size_of_entries he
  have l2 : kvs.length = ks.length := Paired.length pr
  have t := isKeys_tis (isKeys_of pr) hk
  refine sorted_via (fun vs s1 => Vals ((ks.map fun x => x.2.1).map V.ref) vs ∧ Inv X pins σ H s1) (PySem.W.kdu_collect (kdl_raw hs hx hde) (I.ok.hd hc) ho (by omega) fun h' tk acc kp it => ⟨?_, I.kept (t' := tk) kp⟩) fun vs s1 ⟨rv, I1⟩ => ?_
  · have hl : acc.toList.length = ks.length := by rw [Array.length_toList, it.1]; exact l1
    refine vals_of_at (by rw [List.length_map, List.length_map, hl]) fun j x v e1 e2 => ?_
    obtain ⟨en, hen, hv⟩ := it.2 j v (by rw [← Array.getElem?_toList]; exact e2)
    have qe := entry_at he j
    rw [hen] at qe
    rw [List.getElem?_map, List.getElem?_map] at e1
    cases hb : ks[j]? with
    | none => rw [hb] at e1; cases e1
    | some b =>
      rw [hb] at e1 qe
      cases e1
      have e3 : en = entryOfKey (tupleKind (mixKind X.prog X.w)) b := Option.some.inj qe
      rw [hv, e3]
      rfl
  · have hz2 : vs.length ≤ sizeLine := by rw [← rv.length, List.length_map, List.length_map]; omega
    exact ⟨hz2, sort_new I1 t rv h64 hd1 hd q⟩
end
end NA
set_option maxRecDepth 100000
set_option maxHeartbeats 4000000
/-! enumerate of a list or of a tuple. -/
namespace NA
open PySem PySem.Spec PyProof.Rows L2
section
open AutoSeq1 (wpAny_loadPart')
theorem enumTup_new (l : Addr) (items : Array Value) :
    Meets (Builtin.«enumerate.__new__» ⟨[.type "enumerate", .ref l], []⟩) (fun _ R s => s.heap.IsTuple l items ∧
      R (.ok (.ret (.ref (s.heap.push { cls := .type "tuple_iterator", data := .fields #[.ref l, .int 0 0] }).objs.size)))
        { s with heap := (s.heap.push { cls := .type "tuple_iterator", data := .fields #[.ref l, .int 0 0] }).push { cls := .type "enumerate", data := .fields #[.none, .bool false, .ref s.heap.objs.size, rawInt 0, .none, .none] } }) :=
  .of_wp fun prog w A R s h => by
    obtain ⟨hp, g, d, tk, os⟩ := s; obtain ⟨hL, h⟩ := h
    have hsub := sub_enumerate
    obtain ⟨ol, hol, hcl, nl, hdl⟩ := id hL
    wp_walk using wpAny_loadPart' hol, wpAny_pyIter_tuple hL
    refine wpAny_stack_any fun st => wpAny_pure ?_
    split
    · rename_i c _ _ _ _ _
      cases (c == Value.type "enumerate") <;> (wp_walk using wpAny_loadPart' hol, wpAny_pyIter_tuple hL; exact ⟨_, rfl, h⟩)
    · wp_walk using wpAny_loadPart' hol, wpAny_pyIter_tuple hL; exact ⟨_, rfl, h⟩
end
section
variable {prog : Program} {w : World} {A : Around} {E : Value → Shared → Prop} {s : Shared}
theorem enumTup_call {l : Addr} {items : Array Value} {Q : Value → Shared → Prop} (hL : s.heap.IsTuple l items)
    (h : ∀ h', IsEnum h' (s.heap.objs.size + 1) s.heap.objs.size 0 .none → h'.IsTupleIter s.heap.objs.size l 0 → (∀ b o, s.heap.get? b = some o → h'.get? b = some o) → Q (.ref (s.heap.objs.size + 1)) { s with heap := h' }) :
    wpAny (model prog w) A (call (.type "enumerate") [.ref l]) Q E s := by
  refine callType_new F.called_enumerate (by decide) (F.typeCall_enumerate_1 _) (F.newCall_enumerate_1 _) (fun obj => F.args_object_init_2 obj _) F.entry_enumerate_new (enumTup_new l items) ⟨hL, ?_⟩
  have hz : (s.heap.push { cls := .type "tuple_iterator", data := .fields #[.ref l, .int 0 0] }).objs.size = s.heap.objs.size + 1 := Heap.size_push ..
  show _ ∧ _
  rw [hz]
  have he : IsEnum ((s.heap.push { cls := .type "tuple_iterator", data := .fields #[.ref l, .int 0 0] }).push { cls := .type "enumerate", data := .fields #[.none, .bool false, .ref s.heap.objs.size, rawInt 0, .none, .none] }) (s.heap.objs.size + 1) s.heap.objs.size 0 .none := by
    have z := Heap.get?_push_size (s.heap.push { cls := .type "tuple_iterator", data := .fields #[.ref l, .int 0 0] }) (o := { cls := .type "enumerate", data := .fields #[.none, .bool false, .ref s.heap.objs.size, rawInt 0, .none, .none] }) rfl
    rw [hz] at z
    exact z
  exact ⟨⟨_, he, rfl⟩, h _ he ⟨_, Heap.get?_push_of_some _ (Heap.get?_push_size _ rfl), rfl, rfl⟩ fun b o x => Heap.get?_push_of_some _ (Heap.get?_push_of_some _ x)⟩
end
def IteT (K : PySem.W.Frag) (a : Addr) : It :=
  ⟨fun i H => ∃ (xs : List V) (x : V), SqT K H a xs ∧ xs[i]? = some x, fun i H v H' => ∃ T x, v = .ref T ∧ H T = none ∧ H' = upd H T (.tup [.int (i : Nat), x]) ∧ ∀ xs, SqT K H a xs → xs[i]? = some x, fun i H => ∃ xs : List V, SqT K H a xs ∧ xs.length ≤ i⟩
theorem turn_enumT {P : Program} {w : World} {K : PySem.W.Frag} {elts : List Expr} {kk : Nat} {tpos : Pos} (a e it : Addr) (hai : a ≠ it) (hae : a ≠ e) :
    Turn P w K (.Tuple elts kk tpos) (IteT K a) [e, it] e (fun i h => (∃ old, IsEnum h e it ((i : Nat) : Int) old) ∧ h.IsTupleIter it a i ∧ e ≠ it) where
  mem := by simp
  obj := fun i h st b hb => by
    obtain ⟨⟨old, he⟩, ⟨o, ho, hc, hd⟩, _⟩ := st
    rcases List.mem_cons.mp hb with z | z
    · rw [z]; exact ⟨_, he, fun v q => nomatch q⟩
    · rw [List.mem_singleton.mp z]; exact ⟨o, ho, fun v q => by rw [hd] at q; cases q⟩
  keep := fun i h h' st k => let ⟨⟨old, he⟩, hi, hne⟩ := st; ⟨⟨old, k e (by simp) _ he⟩, hi.at fun o q => k it (by simp) o q, hne⟩
  item := by
    intro X hP hw hK hc i pins s σ H E I hf st hg
    subst hP hw hK
    obtain ⟨⟨old, he⟩, hit, hne⟩ := st
    obtain ⟨xs, x, hq, hx⟩ := hg
    obtain ⟨its, rv, p, hz⟩ := I.tuple hq
    obtain ⟨u, hu, ru⟩ := rv.get hx
    have hel : e < s.heap.objs.size := Heap.lt_size he
    have hil : it < s.heap.objs.size := let ⟨_, q, _⟩ := hit; Heap.lt_size q
    have hlt : i < its.toArray.size := by rw [List.size_toArray]; exact (List.getElem?_eq_some_iff.mp hu).1
    have hh : X.A.in1.handled = none := by have := I.ok.hd hc; simpa using this
    refine wpAny_pyNext_enum_itemD (Draws.tuple hh it a hai its.toArray) he ⟨hit, p⟩ hlt hne (by simp [hne, Ne.symm hae]) fun x2 h' tk hPx ho hit' hT hsz hk => ?_
    have ex : x2 = u := by
      have e1 : its.toArray[i]? = some u := by simpa using hu
      have e2 : its.toArray[i]? = some x2 := hPx
      rw [e1] at e2
      exact (Option.some.inj e2).symm
    subst ex
    refine ⟨_, rfl, wpAny_letOwnedTupleGo_enum (s := { s with heap := h', toks := tk + 1 }) ho fun h'' he' sb => ?_⟩
    have hT2 : h''.get? s.heap.objs.size = some { cls := .type "tuple", data := .seq #[.int i tk, x2] } := (sb.2 _ (Nat.ne_of_gt hel)).trans hT
    have new : ObjOk X.prog X.w (upd H s.heap.objs.size (.tup [.int (i : Nat), x])) h'' s.heap.objs.size (.tup [.int (i : Nat), x]) := ⟨by show 2 ≤ sizeLine; decide, [.int i tk, x2], .cons ⟨_, rfl⟩ (.cons ru .nil), ⟨_, hT2, rfl, _, rfl⟩⟩
    have I1 : Inv X pins σ (upd H s.heap.objs.size (.tup [.int (i : Nat), x])) { s with heap := h'', toks := tk + 1 } :=
      I.turnedNew (ch := [e, it]) (fun b ob hb q => (sb.2 b (fun z => hb (by simp [z]))).trans (hk b ob (fun z => hb (by simp [z])) (fun z => hb (by simp [z])) q)) hf (Nat.le_refl _) new
    refine ⟨.ref s.heap.objs.size, _, I1, rfl, ⟨_, x, rfl, I.hok.fresh (Nat.le_refl _), rfl, fun ys hy => by rw [I.tuple_inj hy hq]; exact hx⟩, ⟨⟨x2, ?_⟩, hit'.1.at fun o q => (sb.2 it (Ne.symm hne)).trans q, hne⟩, fun b hb => ?_⟩
    · rw [show ((i + 1 : Nat) : Int) = (i : Int) + 1 by omega]; exact he'
    · have hb' : b < s.heap.objs.size := by
        rcases List.mem_cons.mp hb with z | z
        · rw [z]; exact hel
        · rw [List.mem_singleton.mp z]; exact hil
      rw [upd_ne (Nat.ne_of_lt hb')]; exact (hf b hb).1
  done := by
    intro X hP hw hK hc i pins s σ H E I hf st hg
    subst hP hw hK
    obtain ⟨⟨old, he⟩, hit, hne⟩ := st
    obtain ⟨xs, hq, hx⟩ := hg
    obtain ⟨its, rv, p, hz⟩ := I.tuple hq
    obtain ⟨f0, f1, f2, f3, f4, f5⟩ := hf it (by simp)
    have hl := rv.length
    have hh : X.A.in1.handled = none := by have := I.ok.hd hc; simpa using this
    have hT : s.TypeIs (.ref e) "enumerate" := ⟨_, he, rfl⟩
    unfold pyNext
    refine wpAny_bind (wpAny_attempt (wpAny_callSpecial?_slot (name := Str.ofString "__next__") hT F.slot_enumerate_next (wpAny_call_entry F.slot_enumerate_next hT F.entry_enumerate_next (show wpAny _ _ (field (.ref e) 2 >>= _) _ _ _ from ?_) (F.args_enumerate_next_1 _))))
    refine wpAny_bind (wpAny_field he rfl (x := .ref it) rfl (wpAny_bind (wpAny_nextOf_tuple_end (items := its.toArray) hh hit p (by simp; omega) fun h' x he' hx' => ?_)))
    obtain ⟨o, ho, hc⟩ := hx'
    refine wpAny_bind (wpAny_isInstance (T := "StopIteration") (b := true) ⟨o, ho, hc⟩ isSubtype_stop ?_)
    exact wpAny_pure ⟨rfl, I.turned (t' := s.toks) (fun b o hb q => he' b o hb q) f0 f1 f3 f4 f5⟩
  self := fun A i s Q E st h => let ⟨⟨_, he⟩, _⟩ := st; wpAny_pyIter_enum he h
def iEnumS (K : PySem.W.Frag) (ta : TA) : L2.TI := fun σ H R => ta σ H fun vs H1 => ∃ a xs, vs = [.ref a] ∧ ((SqL K H1 a xs ∧ R (Ite K a) H1) ∨ (SqT K H1 a xs ∧ R (IteT K a) H1))
theorem pi_enumS {X : Cx} {e : Expr} {ta : TA} {p pos tpos : Pos} {elts : List Expr} {kk : Nat} (hg : Gl X "enumerate") (hm : X.mg "enumerate" = none) (ha : PA X [e] ta) (hs : starEach [e] X.env = [(false, eval e X.env)] := by rfl) :
    PI X (.Tuple elts kk tpos) (.Call (.Name "enumerate" p) [e] [] pos) (iEnumS X.K ta) := by
  refine ⟨fun pins s σ H R I h => ?_⟩
  refine Call_ (ld_blt I hg hm boot_enumerate (PyProof.Rows.callWith_type1 (thn (ha.run pos pins s σ H _ I h) fun us s1 ⟨vs, H1, I1, r1, q1⟩ => ?_) hs rfl))
  obtain ⟨a, xs, rfl, q⟩ := q1
  obtain ⟨u, rfl, ru⟩ := r1.one
  cases ru
  have mem2 : ∀ b ∈ [s1.heap.objs.size + 1, s1.heap.objs.size], s1.heap.objs.size ≤ b := fun b hb => by
    rcases List.mem_cons.mp hb with z | z
    · rw [z]; exact Nat.le_add_right _ _
    · rw [List.mem_singleton.mp z]; exact Nat.le_refl _
  rcases q with ⟨hq, q⟩ | ⟨hq, q⟩
  · obtain ⟨its, rv, p', hz⟩ := I1.list hq
    refine call_enumerate_list p'.isList fun h' he hit hsz hk => wpAny_pyIter_enum he ?_
    have I2 : Inv X pins σ H1 { s1 with heap := h' } := I1.kept (t' := s1.toks) hk
    exact ⟨s1.heap.objs.size + 1, [s1.heap.objs.size + 1, s1.heap.objs.size], _, _, H1, rfl, I2, turn_enum a (s1.heap.objs.size + 1) s1.heap.objs.size, ⟨⟨.none, he⟩, hit, Nat.succ_ne_self _⟩, fun b hb => I1.fpOk (mem2 b hb) (I1.hok.fresh (mem2 b hb)), q⟩
  · obtain ⟨its, rv, p', hz⟩ := I1.tuple hq
    have hal : a < s1.heap.objs.size := let ⟨_, ho, _⟩ := p'; Heap.lt_size ho
    refine enumTup_call (items := its.toArray) p' fun h' he hit hk => wpAny_pyIter_enum he ?_
    have I2 : Inv X pins σ H1 { s1 with heap := h' } := I1.kept (t' := s1.toks) hk
    exact ⟨s1.heap.objs.size + 1, [s1.heap.objs.size + 1, s1.heap.objs.size], _, _, H1, rfl, I2, turn_enumT a (s1.heap.objs.size + 1) s1.heap.objs.size (Nat.ne_of_lt hal) (Nat.ne_of_lt (Nat.lt_succ_of_lt hal)), ⟨⟨.none, he⟩, hit, Nat.succ_ne_self _⟩, fun b hb => I1.fpOk (mem2 b hb) (I1.hok.fresh (mem2 b hb)), q⟩
end NA
set_option maxRecDepth 100000
set_option maxHeartbeats 2000000
/-! Loops by an invariant: enumerate, a dict's keys. -/
namespace NA
open PySem PySem.Spec PyProof.Rows L2
/-- what a for's reading asks of the walked thing J -/
def LoopW (J : It) (g : TG) (tb : TS) (D : Ends) (σ : L2.St) (H : Hp) : Prop := ∃ W : Nat → Nat → L2.St → Hp → Prop, (∃ m, W 0 m σ H) ∧ ∀ i m σ H, W i m σ H →
  (J.stop i H ∧ D.nx σ H) ∨ (J.go i H ∧ ∃ N : L2.St → Hp → Prop, (∀ σ' H', N σ' H' → ∃ m', m' < m ∧ W (i + 1) m' σ' H') ∧ ∀ x H', J.yld i H x H' → g x σ H' fun σ2 H2 => tb { D with nx := N, ct := N, bk := D.nx } σ2 H2)
theorem loop_by {J : It} {n : Nat} {g : TG} {tb : TS} {D : Ends} {σ : L2.St} {H : Hp} (Pv : Nat → L2.St → Hp → Prop) (h0 : Pv 0 σ H) (hgo : ∀ i σ H, i < n → Pv i σ H → J.go i H) (hstop : ∀ σ H, Pv n σ H → J.stop n H)
    (hs : ∀ i x σ H H', i < n → Pv i σ H → J.yld i H x H' → g x σ H' fun σ2 H2 => tb { D with nx := Pv (i + 1), ct := Pv (i + 1), bk := D.nx } σ2 H2) (hd : ∀ σ H, Pv n σ H → D.nx σ H) : LoopW J g tb D σ H := by
  refine ⟨fun i m σ H => m = n - i ∧ i ≤ n ∧ Pv i σ H, ⟨n, by simp, Nat.zero_le _, h0⟩, ?_⟩
  rintro i m σ H ⟨rfl, hi, p⟩
  by_cases hlt : i < n
  · exact .inr ⟨hgo i σ H hlt p, Pv (i + 1), fun σ' H' p' => ⟨n - (i + 1), by omega, rfl, hlt, p'⟩, fun x H' y => hs i x σ H H' hlt p y⟩
  · have e : i = n := by omega
    subst e
    exact .inl ⟨hstop σ H p, hd σ H p⟩
theorem sqL_ext {K : PySem.W.Frag} {H H' : Hp} {a : Addr} {xs : List V} (h : SqL K H a xs) (e : Ext H H') : SqL K H' a xs := by
  rcases h with h | h
  · exact .inl (rd_ext h e)
  · exact .inr h
theorem sqT_ext {K : PySem.W.Frag} {H H' : Hp} {a : Addr} {xs : List V} (h : SqT K H a xs) (e : Ext H H') : SqT K H' a xs := by
  rcases h with h | h
  · exact .inl (rd_ext h e)
  · exact .inr h
/-- enumerate -/
theorem for_enumS {K : PySem.W.Frag} {a : Addr} {xs : List V} {g : TG} {tb : TS} {D : Ends} {σ : L2.St} {H0 : Hp} (h : SqL K H0 a xs ∨ SqT K H0 a xs) (Pv : Nat → L2.St → Hp → Prop) (h0 : Pv 0 σ H0) (hl : ∀ i σ H, i ≤ xs.length → Pv i σ H → (SqL K H0 a xs → SqL K H a xs) ∧ (SqT K H0 a xs → SqT K H a xs))
    (hs : ∀ i x T σ H, xs[i]? = some x → Pv i σ H → H T = none → g (.ref T) σ (upd H T (.tup [.int (i : Nat), x])) fun σ2 H2 => tb { D with nx := Pv (i + 1), ct := Pv (i + 1), bk := D.nx } σ2 H2) (hd : ∀ σ H, Pv xs.length σ H → D.nx σ H) :
    ∃ a' xs', ([V.ref a] : List V) = [.ref a'] ∧ ((SqL K H0 a' xs' ∧ LoopW (Ite K a') g tb D σ H0) ∨ (SqT K H0 a' xs' ∧ LoopW (IteT K a') g tb D σ H0)) := by
  refine ⟨a, xs, rfl, ?_⟩
  rcases h with h | h
  · refine .inl ⟨h, loop_by (n := xs.length) Pv h0 (fun i σ H hi p => ⟨xs, xs[i], (hl i σ H (Nat.le_of_lt hi) p).1 h, List.getElem?_eq_getElem hi⟩) (fun σ H p => ⟨xs, (hl _ σ H (Nat.le_refl _) p).1 h, Nat.le_refl _⟩) (fun i v σ H H' hi p y => ?_) hd⟩
    obtain ⟨T, x, rfl, hT, rfl, hx⟩ := y
    exact hs i x T σ H (hx xs ((hl i σ H (Nat.le_of_lt hi) p).1 h)) p hT
  · refine .inr ⟨h, loop_by (n := xs.length) Pv h0 (fun i σ H hi p => ⟨xs, xs[i], (hl i σ H (Nat.le_of_lt hi) p).2 h, List.getElem?_eq_getElem hi⟩) (fun σ H p => ⟨xs, (hl _ σ H (Nat.le_refl _) p).2 h, Nat.le_refl _⟩) (fun i v σ H H' hi p y => ?_) hd⟩
    obtain ⟨T, x, rfl, hT, rfl, hx⟩ := y
    exact hs i x T σ H (hx xs ((hl i σ H (Nat.le_of_lt hi) p).2 h)) p hT
theorem for_enumL {K : PySem.W.Frag} {a : Addr} {xs : List V} {g : TG} {tb : TS} {D : Ends} {σ : L2.St} {H0 : Hp} (h : SqL K H0 a xs) (Pv : Nat → L2.St → Hp → Prop) (h0 : Pv 0 σ H0) (hl : ∀ i σ H, i ≤ xs.length → Pv i σ H → SqL K H a xs)
    (hs : ∀ i x T σ H, xs[i]? = some x → Pv i σ H → H T = none → g (.ref T) σ (upd H T (.tup [.int (i : Nat), x])) fun σ2 H2 => tb { D with nx := Pv (i + 1), ct := Pv (i + 1), bk := D.nx } σ2 H2) (hd : ∀ σ H, Pv xs.length σ H → D.nx σ H) :
    ∃ a' xs', ([V.ref a] : List V) = [.ref a'] ∧ ((SqL K H0 a' xs' ∧ LoopW (Ite K a') g tb D σ H0) ∨ (SqT K H0 a' xs' ∧ LoopW (IteT K a') g tb D σ H0)) := by
  refine ⟨a, xs, rfl, .inl ⟨h, loop_by (n := xs.length) Pv h0 (fun i σ H hi p => ⟨xs, xs[i], hl i σ H (Nat.le_of_lt hi) p, List.getElem?_eq_getElem hi⟩) (fun σ H p => ⟨xs, hl _ σ H (Nat.le_refl _) p, Nat.le_refl _⟩) (fun i v σ H H' hi p y => ?_) hd⟩⟩
  obtain ⟨T, x, rfl, hT, rfl, hx⟩ := y
  exact hs i x T σ H (hx xs (hl i σ H (Nat.le_of_lt hi) p)) p hT
theorem for_keysT {d : Addr} {o : Obj} {kvs : List (List Key × V)} {g : TG} {tb : TS} {D : Ends} {σ : L2.St} {H : Hp} (Pv : Nat → L2.St → Hp → Prop) (h0 : Pv 0 σ H) (hl : ∀ i σ H, i ≤ kvs.length → Pv i σ H → H d = some (.frz o (.dT kvs)))
    (hs : ∀ i k v q σ H, kvs[i]? = some (k, v) → Pv i σ H → H q = some (.tup (k.map kV)) → g (.ref q) σ H fun σ2 H2 => tb { D with nx := Pv (i + 1), ct := Pv (i + 1), bk := D.nx } σ2 H2) (hd : ∀ σ H, Pv kvs.length σ H → D.nx σ H) : LoopW (Itkt d o kvs) g tb D σ H := by
  refine loop_by (n := kvs.length) Pv h0 (fun i σ H hi p => ⟨hl i σ H (Nat.le_of_lt hi) p, hi⟩) (fun σ H p => ⟨hl _ σ H (Nat.le_refl _) p, Nat.le_refl _⟩) (fun i x σ H H' hi p y => ?_) hd
  obtain ⟨rfl, k, v, q, hkv, rfl, hq⟩ := y
  exact hs i k v q σ _ hkv p hq
/-- what a comprehension's reading asks of the walked thing J -/
def LcW (J : It) (g : TG) (tt : TT) (te : TE) (vs : List Nat) (σ : L2.St) (H1 : Hp) (D : Addr) (Qd : Hp → Prop) : Prop := ∃ W : Nat → Nat → Hp → Prop, (∃ m, W 0 m (upd H1 D (.lst []))) ∧ ∀ i m H, W i m H →
  (J.stop i H ∧ Qd H) ∨ (J.go i H ∧ ∃ Nx : Hp → Prop, (∀ H', Nx H' → ∃ m', m' < m ∧ W (i + 1) m' H') ∧ ∀ x H', J.yld i H x H' → g x (wipe σ vs) H' fun σ2 H2 => wipe σ2 vs = wipe σ vs ∧ tt σ2 H2 fun b H3 =>
    if b = true then te σ2 H3 fun y H4 => ∃ acc, H4 D = some (.lst acc) ∧ acc.length < sizeLine ∧ Nx (upd H4 D (.lst (acc ++ [y]))) else Nx H3)
theorem lc_by {J : It} {n : Nat} {g : TG} {tt : TT} {te : TE} {vs : List Nat} {σ : L2.St} {H1 : Hp} {D : Addr} {Qd : Hp → Prop} (Pv : Nat → Hp → Prop) (h0 : Pv 0 (upd H1 D (.lst []))) (hgo : ∀ i H, i < n → Pv i H → J.go i H) (hstop : ∀ H, Pv n H → J.stop n H)
    (hs : ∀ i x H H', i < n → Pv i H → J.yld i H x H' → g x (wipe σ vs) H' fun σ2 H2 => wipe σ2 vs = wipe σ vs ∧ tt σ2 H2 fun b H3 =>
      if b = true then te σ2 H3 fun y H4 => ∃ acc, H4 D = some (.lst acc) ∧ acc.length < sizeLine ∧ Pv (i + 1) (upd H4 D (.lst (acc ++ [y]))) else Pv (i + 1) H3) (hd : ∀ H, Pv n H → Qd H) : LcW J g tt te vs σ H1 D Qd := by
  refine ⟨fun i m H => m = n - i ∧ i ≤ n ∧ Pv i H, ⟨n, by simp, Nat.zero_le _, h0⟩, ?_⟩
  rintro i m H ⟨rfl, hi, p⟩
  by_cases hlt : i < n
  · exact .inr ⟨hgo i H hlt p, Pv (i + 1), fun H' p' => ⟨n - (i + 1), by omega, rfl, hlt, p'⟩, fun x H' y => hs i x H H' hlt p y⟩
  · have e : i = n := by omega
    subst e
    exact .inl ⟨hstop H p, hd H p⟩
/-- over the keys of a dict -/
theorem lc_keysT {d : Addr} {o : Obj} {kvs : List (List Key × V)} {g : TG} {tt : TT} {te : TE} {vs : List Nat} {σ : L2.St} {H1 : Hp} {D : Addr} {Qd : Hp → Prop} (Pv : Nat → Hp → Prop) (h0 : Pv 0 (upd H1 D (.lst []))) (hl : ∀ i H, i ≤ kvs.length → Pv i H → H d = some (.frz o (.dT kvs)))
    (hs : ∀ i k v q H, kvs[i]? = some (k, v) → Pv i H → H q = some (.tup (k.map kV)) → g (.ref q) (wipe σ vs) H fun σ2 H2 => wipe σ2 vs = wipe σ vs ∧ tt σ2 H2 fun b H3 =>
      if b = true then te σ2 H3 fun y H4 => ∃ acc, H4 D = some (.lst acc) ∧ acc.length < sizeLine ∧ Pv (i + 1) (upd H4 D (.lst (acc ++ [y]))) else Pv (i + 1) H3) (hd : ∀ H, Pv kvs.length H → Qd H) : LcW (Itkt d o kvs) g tt te vs σ H1 D Qd := by
  refine lc_by (n := kvs.length) Pv h0 (fun i H hi p => ⟨hl i H (Nat.le_of_lt hi) p, hi⟩) (fun H p => ⟨hl _ H (Nat.le_refl _) p, Nat.le_refl _⟩) (fun i x H H' hi p y => ?_) hd
  obtain ⟨rfl, k, v, q, hkv, rfl, hq⟩ := y
  exact hs i k v q _ hkv p hq
end NA
set_option maxRecDepth 100000
set_option maxHeartbeats 4000000
/-! room_fault, Book.__init__ (sound rooms). -/
namespace NA
open PySem PySem.Spec PyProof.Rows L2
section
variable {P : Program} {w : World} {K : PySem.W.Frag} {mg : Str → Option Value} {base : Heap}
def nFault : List Str := ["places", "size", "room", "p"]
theorem scFault : FnScope nFault ["places", "size", "room"] (defScope sRoomFault) := ⟨rfl, rfl, rfl, by decide +kernel, rfl, by decide +kernel, by decide +kernel⟩
/-- a sound room -/
def RoomOk (n k : Nat) (r : List Int) : Prop := r.length = k ∧ (∀ p ∈ r, 0 ≤ p ∧ p < n) ∧ r.Nodup
def spFault : Sp := fun vs H Q _ => ∃ (n k : Nat) (x : V) (r : List Int), vs = [.int (n : Int), .int (k : Int), x] ∧ TI H x r ∧ RoomOk n k r ∧ k ≤ 63 ∧ Q (.str "") H
theorem ok_fault (T : Fx K mg) : FnOk P w K mg base CX0 1 (He.ga K "room_fault") T.fd_room_fault ["places", "size", "room"] spFault := by
  refine T.F_room_fault.ok scFault (fun vs H Q E h => ?_) (fun cdv A outer s H vs Q E hr h => ⟨_, PSs.nox (pss_cons (ps_if (pt_cmpR op_ne (pe_callB call_len_seq (by rfl) T.n_len PySem.boot_len (pa_cons (pv 2) pa_nil)) (pv 1) (nomark _)) (pss_one (ps_ret pe_str)) pss_nil)
    (pss_cons (ps_for PassesOwn.never rfl (pi_tup (pv 2)) (pg_name (i := 3) scFault.nd rfl (Or.inl rfl)) (pss_one (ps_if (pt_not (pt_chain op_le op_lt pe_int (pv 3) (pv 0))) (pss_one (ps_ret pe_str)) pss_nil)))
    (pss_cons (ps_if (pt_cmpR op_ne (pe_lenSetL rfl T.n_len rfl T.n_set (pv 2)) (pv 1) (nomark _)) (pss_one (ps_ret pe_str)) pss_nil) (pss_one (ps_ret pe_str))))), ?_⟩)
  · obtain ⟨_, _, _, _, rfl, _⟩ := h
    rfl
  obtain ⟨n, k, x, r, rfl, ⟨a, rfl, ha⟩, ⟨hl, hp, hn⟩, hz, hq⟩ := h
  refine ⟨_, rfl, a, iV r, rfl, .inr (.inl (.inl ha)), _, rfl, rfl, _, rfl, ?_⟩
  rw [ival (by rw [iV_len, hl])]
  refine iteF ?_
  refine ⟨_, rfl, a, rfl, ⟨_, .inl (.inl ha)⟩, ?_⟩
  refine for_tup (xs := iV r) (fun i σ H' => H' = H ∧ ∃ c, σ = [some (.int (n : Int)), some (.int (k : Int)), some (.ref a), c]) ⟨rfl, none, rfl⟩ (fun i σ H' _ z => .inl (.inl (by rw [z.1]; exact ha))) (fun i v σ H' hv z => ?_) fun σ H' z => ?_
  · obtain ⟨rfl, c, rfl⟩ := z
    obtain ⟨p, hap, rfl⟩ := iV_get hv
    obtain ⟨b1, b2⟩ := hp p (List.mem_of_getElem? hap)
    refine ⟨_, rfl, _, _, rfl, rfl, _, rfl, ?_⟩
    rw [decide_eq_true b1]
    refine iteT ?_
    refine ⟨_, rfl, _, _, rfl, rfl, _, rfl, ?_⟩
    rw [decide_eq_true b2]
    refine iteF ?_
    exact ⟨rfl, _, rfl⟩
  · obtain ⟨rfl, c, rfl⟩ := z
    refine ⟨_, rfl, a, r, rfl, .inr (.inl (.inl ha)), by omega, fun d _ hd => ?_⟩
    refine ⟨_, rfl, rfl, _, rfl, ?_⟩
    rw [ival (by rw [hd.mpr hn, hl])]
    refine iteF ?_
    exact hq
end
end NA
set_option maxRecDepth 100000
set_option maxHeartbeats 2000000
/-! Dicts whose keys are tuples of ints, plainly. -/
namespace NA
open PySem PySem.Spec PyProof.Rows L2
theorem keys_putK {α : Type} [DecidableEq α] (kvs : List (α × V)) (k : α) (v : V) : (putK kvs k v).map (·.1) = if k ∈ kvs.map (·.1) then kvs.map (·.1) else kvs.map (·.1) ++ [k] := by
  unfold putK
  by_cases h : k ∈ kvs.map (·.1)
  · have : (kvs.any fun kv => decide (kv.1 = k)) = true := by
      obtain ⟨p, hp, e⟩ := List.mem_map.mp h
      exact List.any_eq_true.mpr ⟨p, hp, decide_eq_true e⟩
    rw [if_pos this, if_pos h, List.map_map]
    refine List.map_congr_left fun p _ => ?_
    show (if p.1 = k then (p.1, v) else p).1 = p.1
    split <;> rfl
  · have : ¬ (kvs.any fun kv => decide (kv.1 = k)) = true := fun z => by
      obtain ⟨p, hp, e⟩ := List.any_eq_true.mp z
      exact h (List.mem_map.mpr ⟨p, hp, of_decide_eq_true e⟩)
    rw [if_neg this, if_neg h, List.map_append]
    rfl
/-- its keys are these tuples -/
def DK (kvs : List (List Key × V)) (fs : List (List Int)) : Prop := kvs.map (·.1) = fs.map kI ∧ fs.Nodup
theorem DK.nil : DK [] [] := ⟨rfl, List.nodup_nil⟩
theorem map_kI_mem {r : List Int} {l : List (List Int)} : kI r ∈ l.map kI ↔ r ∈ l := by
  constructor
  · intro h
    obtain ⟨q, hq, e⟩ := List.mem_map.mp h
    rw [← kI_inj e]
    exact hq
  · exact fun h => List.mem_map.mpr ⟨r, h, rfl⟩
theorem DK.put {kvs : List (List Key × V)} {fs : List (List Int)} (h : DK kvs fs) (f : List Int) (v : V) : DK (putK kvs (kI f) v) (if f ∈ fs then fs else fs ++ [f]) := by
  refine ⟨?_, ?_⟩
  · rw [keys_putK, h.1]
    by_cases e : f ∈ fs
    · rw [if_pos (map_kI_mem.mpr e), if_pos e]
    · rw [if_neg (fun z => e (map_kI_mem.mp z)), if_neg e, List.map_append]; rfl
  · by_cases e : f ∈ fs
    · rw [if_pos e]; exact h.2
    · rw [if_neg e, List.nodup_append]
      exact ⟨h.2, by simp, fun a ha b hb z => e (by rw [← List.mem_singleton.mp hb, ← z]; exact ha)⟩
theorem mem_put {f g : List Int} {fs : List (List Int)} : g ∈ (if f ∈ fs then fs else fs ++ [f]) ↔ g ∈ fs ∨ g = f := by
  by_cases e : f ∈ fs
  · rw [if_pos e]
    exact ⟨.inl, fun h => h.elim id fun z => z ▸ e⟩
  · rw [if_neg e, List.mem_append, List.mem_singleton]
theorem DK.val {kvs : List (List Key × V)} {fs : List (List Int)} (h : DK kvs fs) (f : List Int) : (valV kvs (kI f)).isSome = true ↔ f ∈ fs := by
  rw [← valV_any]
  constructor
  · intro z
    obtain ⟨p, hp, e⟩ := List.any_eq_true.mp z
    have : kI f ∈ kvs.map (·.1) := List.mem_map.mpr ⟨p, hp, of_decide_eq_true e⟩
    rw [h.1] at this
    exact map_kI_mem.mp this
  · intro z
    have : kI f ∈ kvs.map (·.1) := by rw [h.1]; exact map_kI_mem.mpr z
    obtain ⟨p, hp, e⟩ := List.mem_map.mp this
    exact List.any_eq_true.mpr ⟨p, hp, decide_eq_true e⟩
theorem valV_at {α : Type} [DecidableEq α] : ∀ {kvs : List (α × V)} {i : Nat} {k : α} {v : V}, (kvs.map (·.1)).Nodup → kvs[i]? = some (k, v) → valV kvs k = some v
  | [], i, k, v, _, e => by cases i <;> cases e
  | p :: kvs, 0, k, v, _, e => by cases e; exact valV_pos rfl
  | p :: kvs, i + 1, k, v, h, e => by
    have h' := List.nodup_cons.mp h
    have hm : k ∈ kvs.map (·.1) := List.mem_map.mpr ⟨(k, v), List.mem_of_getElem? e, rfl⟩
    rw [valV_neg fun z => h'.1 (by show p.1 ∈ _; rw [z]; exact hm)]
    exact valV_at h'.2 e
theorem DK.nodup {kvs : List (List Key × V)} {fs : List (List Int)} (h : DK kvs fs) : (kvs.map (·.1)).Nodup := by
  rw [h.1]
  exact List.pairwise_map.mpr (h.2.imp fun hne e => hne (kI_inj e))
theorem DK.get {kvs : List (List Key × V)} {fs : List (List Int)} (h : DK kvs fs) {i : Nat} {k : List Key} {v : V} (e : kvs[i]? = some (k, v)) : ∃ f, fs[i]? = some f ∧ k = kI f ∧ valV kvs (kI f) = some v := by
  have e1 : (kvs.map (·.1))[i]? = some k := by rw [List.getElem?_map, e]; rfl
  rw [h.1, List.getElem?_map] at e1
  cases q : fs[i]? with
  | none => rw [q] at e1; cases e1
  | some f =>
    rw [q] at e1
    have e2 : kI f = k := Option.some.inj e1
    exact ⟨f, rfl, e2.symm, by rw [e2]; exact valV_at h.nodup e⟩
theorem DK.len {kvs : List (List Key × V)} {fs : List (List Int)} (h : DK kvs fs) : kvs.length = fs.length := by
  have := congrArg List.length h.1
  rw [List.length_map, List.length_map] at this
  exact this
/-- how often each of l stands -/
structure Cnt (kvs : List (List Key × V)) (fs l : List (List Int)) : Prop where
  dk : DK kvs fs
  mem : ∀ f, f ∈ fs ↔ f ∈ l
  val : ∀ f, f ∈ l → valV kvs (kI f) = some (.int (l.count f : Nat))
theorem Cnt.nil : Cnt [] [] [] := ⟨.nil, fun _ => Iff.rfl, fun f h => by cases h⟩
theorem Cnt.getD {kvs : List (List Key × V)} {fs l : List (List Int)} (h : Cnt kvs fs l) (f : List Int) : (valV kvs (kI f)).getD (.int 0) = .int (l.count f : Nat) := by
  by_cases e : f ∈ l
  · rw [h.val f e]; rfl
  · have : valV kvs (kI f) = none := by
      cases q : valV kvs (kI f) with
      | none => rfl
      | some v => exact absurd ((h.mem f).mp ((h.dk.val f).mp (by rw [q]; rfl))) e
    rw [this, List.count_eq_zero_of_not_mem e]
    rfl
theorem Cnt.put {kvs : List (List Key × V)} {fs l : List (List Int)} (h : Cnt kvs fs l) (f : List Int) : Cnt (putK kvs (kI f) (.int ((l.count f : Nat) + 1))) (if f ∈ fs then fs else fs ++ [f]) (l ++ [f]) := by
  refine ⟨h.dk.put f _, fun g => ?_, fun g hg => ?_⟩
  · rw [mem_put, h.mem g, List.mem_append, List.mem_singleton]
  · rw [valV_put]
    by_cases e : g = f
    · subst e
      rw [if_pos rfl, List.count_append]
      simp
    · rw [if_neg (fun z => e (kI_inj z)), List.count_append]
      have hgl : g ∈ l := by
        rcases List.mem_append.mp hg with z | z
        · exact z
        · exact absurd (List.mem_singleton.mp z) e
      rw [h.val g hgl]
      have : List.count g [f] = 0 := List.count_eq_zero_of_not_mem (by simpa using e)
      rw [this]
      rfl
end NA
set_option maxRecDepth 100000
set_option maxHeartbeats 4000000
/-! Book.__init__ (sound rooms). -/
namespace NA
open PySem PySem.Spec PyProof.Rows L2
section
variable {P : Program} {w : World} {K : PySem.W.Frag} {mg : Str → Option Value} {base : Heap}
theorem g2_read {K : PySem.W.Frag} {i j : Nat} {a b : V} {T : Addr} {σ : L2.St} {H : Hp} {Q : L2.St → Hp → Prop} (h : Q ((σ.set i (some a)).set j (some b)) (upd H T (.tup [a, b]))) : gTup K 2 (gCons (gName i) (gCons (gName j) gNil)) (.ref T) σ (upd H T (.tup [a, b])) Q :=
  ⟨T, [a, b], rfl, .inl (.inl upd_same), rfl, a, [b], rfl, b, [], rfl, rfl, h⟩
/-- a Book at x -/
def BookAt (K : PySem.W.Frag) (H : Hp) (x : Addr) (n k : Nat) (rs : List (List Int)) : Prop := ∃ (dx t : Addr) (ys : List V), H x = some (.ins (He.ga K "Book") dx [("places", .int (n : Int)), ("size", .int (k : Int)), ("rooms", .ref t)]) ∧ H t = some (.tup ys) ∧ TIs H ys rs
def nBookI : List Str := ["self", "places", "size", "rooms", "known", "at", "listed", "fault", "room"]
def pBookI : List Str := ["self", "places", "size", "rooms"]
theorem scBookI : FnScope nBookI pBookI (defScope sBookI) := ⟨rfl, rfl, rfl, by decide +kernel, rfl, by decide +kernel, by decide +kernel⟩
def ExtB (x : Addr) (H H' : Hp) : Prop := ∀ b u, b ≠ x → H b = some u → H' b = some u
def spBookI (K : PySem.W.Frag) : Sp := fun vs H Q _ => ∃ (x dx l : Addr) (n k : Nat) (xs : List V) (rs : List (List Int)), vs = [.ref x, .int (n : Int), .int (k : Int), .ref l] ∧ H x = some (.ins (He.ga K "Book") dx []) ∧ H l = some (.lst xs) ∧ TIs H xs rs ∧ (∀ r ∈ rs, RoomOk n k r) ∧ (rs.map srt).Nodup ∧ rs.length < 64 ∧ 1 ≤ n ∧ n ≤ 12 ∧ 1 ≤ k ∧ k ≤ n ∧
  ∀ H' t ys qs, ExtB x H H' → H' x = some (.ins (He.ga K "Book") dx [("places", .int (n : Int)), ("size", .int (k : Int)), ("rooms", .ref t)]) → H' t = some (.tup ys) → TIs H' ys qs → qs.Perm (rs.map srt) → qs.Pairwise (fun a b => cd a ≤ cd b) → Q .non H'
theorem valV_not {α : Type} [DecidableEq α] {kvs : List (α × V)} {k : α} (h : k ∉ kvs.map (·.1)) : valV kvs k = none := by
  cases e : valV kvs k with
  | none => rfl
  | some v =>
    have := valV_any k kvs
    rw [e] at this
    obtain ⟨p, hp, hk⟩ := List.any_eq_true.mp (show (kvs.any fun kv => decide (kv.1 = k)) = true from this)
    exact absurd (List.mem_map.mpr ⟨p, hp, of_decide_eq_true hk⟩) h
theorem nodup_take_not {α : Type} {l : List α} {i : Nat} {a : α} (h : l.Nodup) (e : l[i]? = some a) : a ∉ l.take i := by
  intro hm
  obtain ⟨j, hj⟩ := List.mem_iff_getElem?.mp hm
  have hji : j < i := by
    have := (List.getElem?_eq_some_iff.mp hj).1
    rw [List.length_take] at this
    omega
  rw [List.getElem?_take, if_pos hji] at hj
  obtain ⟨h1, e1⟩ := List.getElem?_eq_some_iff.mp hj
  obtain ⟨h2, e2⟩ := List.getElem?_eq_some_iff.mp e
  exact (List.pairwise_iff_getElem.mp h j i h1 h2 hji) (e1.trans e2.symm)
theorem ok_BookI (T : Fx K mg) : FnOk P w K mg base CX0 2 (He.ma K (He.ga K "Book") "__init__") T.fd_Book_init pBookI (spBookI K) := by
  have bF : Binds K T.fd_room_fault ["places", "size", "room"] [] := T.F_room_fault.bindsN fun _ _ _ _ _ _ us hl => match us, hl with | [_, _, _], _ => rfl
  refine T.F_Book_init.ok scBookI (fun vs H Q E h => ?_) (fun cdv A outer s H vs Q E hr h => ⟨_, PSs.nox (pss_cons (ps_if (pt_not (pt_chain op_le op_le pe_int (pv 1) (ClX.pe_cval (f := "MOST_PLACES") (pe_glob (v := .ref (He.ga K "Book")) rfl T.g_Book rfl)))) (pss_one ps_never) pss_nil)
    (pss_cons (ps_if (pt_not (pt_chain op_le op_le pe_int (pv 2) (pv 1))) (pss_one ps_never) pss_nil)
    (pss_cons (ps_set (i := 4) scBookI.nd rfl (Or.inl rfl) pe_dnewT)
    (pss_cons (ps_for PassesOwn.never rfl (pi_enumS rfl T.n_enumerate (pa_cons (pv 3) pa_nil)) (pg_tup rfl (pgs_cons (pg_name (i := 5) scBookI.nd rfl (Or.inl rfl)) (pgs_cons (pg_name (i := 6) scBookI.nd rfl (Or.inl rfl)) pgs_nil)))
      (pss_cons (ps_set (i := 7) scBookI.nd rfl (Or.inl rfl) (pe_call (ok_fault T) hr rfl T.g_room_fault T.F_room_fault.kp bF .nil pass0 (pa_cons (pv 1) (pa_cons (pv 2) (pa_cons (pv 6) pa_nil)))))
      (pss_cons (ps_set (i := 8) scBookI.nd rfl (Or.inl rfl) (pe_callTy call_tuple_of (by rfl) T.n_tuple (by decide +kernel) (pa_cons (pe_callB cr_sortedTI (by rfl) T.n_sorted (by decide +kernel) (pa_cons (pv 6) pa_nil)) pa_nil)))
      (pss_cons (ps_if (PW.pt (pw_and (pt_cmpR op_eq (pv 7) pe_str (nomark _)) (pw_and1 (pt_cmp (pc_din (hu_of hr) (pv 8) (pv 4)))))) (pss_one ps_never) pss_nil)
      (pss_cons (ps_if (pt_cmpR op_ne (pv 7) pe_str (nomark _)) (pss_one ps_never) pss_nil)
      (pss_one (ps_dput (hu_of hr) (pv 4) (pv 8) pe_bl rfl)))))))
    (pss_cons (ps_fld (pv 0) (pv 1) rfl)
    (pss_cons (ps_fld (pv 0) (pv 2) rfl)
    (pss_one (ps_fld (pv 0) (pe_callTy call_tuple_of (by rfl) T.n_tuple (by decide +kernel) (pa_cons (pe_callB (cr_sortTD rfl) (by rfl) T.n_sorted (by decide +kernel) (pa_cons (pv 4) pa_nil)) pa_nil)) rfl)))))))), ?_⟩)
  · obtain ⟨_, _, _, _, _, _, _, rfl, _⟩ := h
    rfl
  obtain ⟨x, dx, l, n, k, xs, rs, rfl, hx, hl, ht, hok, hnd, h64, hn1, hn2, hk1, hk2, hq⟩ := h
  have sz : sizeLine = 16777216 := sizeLine_eq
  obtain ⟨u, cv⟩ := T.cv_Book
  refine ⟨_, rfl, _, _, rfl, rfl, _, rfl, ?_⟩
  rw [decide_eq_true (show (1 : Int) ≤ (n : Int) by omega)]
  refine iteT ?_
  refine ⟨_, _, _, u, rfl, T.cr_Book, cv, _, _, rfl, rfl, _, rfl, ?_⟩
  rw [decide_eq_true (show (n : Int) ≤ 12 by omega)]
  refine iteF ?_
  refine ⟨_, rfl, _, _, rfl, rfl, _, rfl, ?_⟩
  rw [decide_eq_true (show (1 : Int) ≤ (k : Int) by omega)]
  refine iteT ?_
  refine ⟨_, rfl, _, _, rfl, rfl, _, rfl, ?_⟩
  rw [decide_eq_true (show (k : Int) ≤ (n : Int) by omega)]
  refine iteF ?_
  intro kd hkd
  have e0 : Ext H (upd H kd (.dT [])) := Ext.upd hkd
  have hlx : l ≠ x := ne_of hl hx (by intro z; cases z)
  refine ⟨_, rfl, ?_⟩
  refine for_enumL (.inl (.inl (e0 _ _ hl))) (fun i σ H' => (∃ a b c d, σ = [some (.ref x), some (.int (n : Int)), some (.int (k : Int)), some (.ref l), some (.ref kd), a, b, c, d]) ∧ Ext H H' ∧ ∃ kvs, H' kd = some (.dT kvs) ∧ kvs.map (·.1) = ((rs.take i).map srt).map kI) ⟨⟨none, none, none, none, rfl⟩, e0, [], upd_same, rfl⟩ (fun i σ H' _ z => .inl (.inl (z.2.1 _ _ hl))) (fun i v Tn σ H' hv z hT => ?_) fun σ H' z => ?_
  · obtain ⟨⟨a, b, c, d, rfl⟩, ex, kvs, hk, hkv⟩ := z
    refine g2_read ?_
    obtain ⟨r, hr, hvt⟩ := ht.at hv
    have hro := hok r (List.mem_of_getElem? hr)
    have e1 : Ext H' (upd H' Tn (.tup [.int (i : Nat), v])) := Ext.upd hT
    refine ⟨_, rfl, _, rfl, _, rfl, n, k, v, r, rfl, (hvt.ext ex).ext e1, hro, by omega, ?_⟩
    obtain ⟨vv, rfl, hvv⟩ := hvt
    refine ⟨_, rfl, vv, r, rfl, .inl (.inl (e1 _ _ (ex _ _ hvv))), by have := hro.1; omega, fun p hp => ?_⟩
    have e2 := e1.trans (Ext.upd (u := .lst (iV (srt r))) hp)
    refine ⟨p, _, rfl, .inl ⟨.inl (.inl upd_same), fun t ht' => ?_⟩⟩
    have e3 := e2.trans (Ext.upd (u := .tup (iV (srt r))) ht')
    generalize hH3 : upd (upd (upd H' Tn (.tup [.int (i : Nat), .ref vv])) p (.lst (iV (srt r)))) t (.tup (iV (srt r))) = H3 at e3
    have htt : H3 t = some (.tup (iV (srt r))) := by rw [← hH3]; exact upd_same
    have hk3 := e3 _ _ hk
    have hnot : kI (srt r) ∉ kvs.map (·.1) := by
      rw [hkv, map_kI_mem, List.map_take]
      exact nodup_take_not hnd (by rw [List.getElem?_map, hr]; rfl)
    have hval : valV kvs (kI (srt r)) = none := valV_not hnot
    refine ⟨_, rfl, rfl, _, rfl, ?_⟩
    refine iteT ?_
    refine ⟨_, rfl, _, rfl, kd, _, rfl, DGet.t hk3 (by rw [kI_kV]; exact htt), _, rfl, ?_⟩
    rw [hval]
    refine iteF ?_
    refine ⟨_, rfl, rfl, _, rfl, ?_⟩
    refine iteF ?_
    have hlk : kvs.length ≤ i := by
      have := congrArg List.length hkv
      rw [List.length_map, List.length_map, List.length_map, List.length_take] at this
      omega
    have hi : i < rs.length := (List.getElem?_eq_some_iff.mp hr).1
    refine ⟨_, rfl, _, rfl, kd, _, rfl, DPut.t hk3 (k := kI (srt r)) (by rw [kI_kV]; exact htt) (by omega), ?_⟩
    rw [putK_new _ hval]
    refine ⟨⟨_, _, _, _, rfl⟩, fun b u hb => ?_, _, upd_same, ?_⟩
    · rw [upd_ne (fun z => by rw [z, hkd] at hb; cases hb)]
      exact e3 _ _ (ex _ _ hb)
    · rw [List.map_append, hkv, List.take_succ, hr, List.map_append, List.map_append]
      rfl
  · obtain ⟨⟨a, b, c, d, rfl⟩, ex, kvs, hk, hkv⟩ := z
    rw [ht.1, List.take_length] at hkv
    have hxd : x ≠ kd := fun z => by rw [z, hkd] at hx; cases hx
    refine ⟨_, rfl, _, rfl, x, _, dx, _, rfl, ex _ _ hx, T.c_Book, T.na_Book_places, by show 0 < 1000; decide, ?_⟩
    refine ⟨_, rfl, _, rfl, x, _, dx, _, rfl, upd_same, T.c_Book, T.na_Book_size, by show 1 < 1000; decide, ?_⟩
    rw [upd_upd]
    refine ⟨_, rfl, kd, kvs, rs.map srt, k, rfl, .inl ((upd_ne (Ne.symm hxd)).trans hk), hkv, by rw [List.length_map]; exact h64, .inl hk1, fun r hr => ?_, fun ys qs p tq pq pw hp => ?_⟩
    · obtain ⟨q, hq1, rfl⟩ := List.mem_map.mp hr
      obtain ⟨h1, h2, h3⟩ := hok q hq1
      exact ⟨by rw [srt_len, h1], fun m hm => by
        have := h2 m ((srt_perm q).mem_iff.mp hm)
        omega⟩
    · refine ⟨p, ys, rfl, .inl ⟨.inl (.inl upd_same), fun t ht2 => ?_⟩⟩
      generalize hH1 : upd H' x (.ins (He.ga K "Book") dx (putF "size" (V.int (k : Int)) (putF "places" (V.int (n : Int)) []))) = H1 at tq hp ht2
      have hx1 : H1 x = some (.ins (He.ga K "Book") dx [("places", .int (n : Int)), ("size", .int (k : Int))]) := by rw [← hH1]; exact upd_same
      have e1 : Ext H1 (upd (upd H1 p (.lst ys)) t (.tup ys)) := (Ext.upd hp).trans (Ext.upd ht2)
      refine ⟨_, rfl, x, _, dx, _, rfl, e1 _ _ hx1, T.c_Book, T.na_Book_rooms, by show 2 < 1000; decide, ?_⟩
      have htx : t ≠ x := fun z => by rw [z, (Ext.upd hp) _ _ hx1] at ht2; cases ht2
      refine hq _ t ys qs (fun b u hb e => ?_) upd_same ((upd_ne htx).trans upd_same) ((tq.ext e1).mono fun b zs hb => ?_) pq pw
      · rw [upd_ne hb]
        refine e1 _ _ ?_
        rw [← hH1, upd_ne hb]
        exact ex _ _ e
      · rw [upd_ne (fun z => by rw [z, e1 _ _ hx1] at hb; cases hb)]
        exact hb
end
end NA
set_option maxRecDepth 100000
set_option maxHeartbeats 4000000
/-! face_counts, odd_faces. -/
namespace NA
open PySem PySem.Spec PyProof.Rows L2
theorem nodup_lenT : ∀ {l m : List (List Int)}, l.Nodup → (∀ x ∈ l, x ∈ m) → l.length ≤ m.length
  | [], m, _, _ => Nat.zero_le _
  | a :: l, m, h, s => by
    have ha := s a List.mem_cons_self
    have h' := List.nodup_cons.mp h
    have : l.length ≤ (m.erase a).length := nodup_lenT h'.2 fun x hx => by
      have ne : x ≠ a := fun z => h'.1 (z ▸ hx)
      exact (List.mem_erase_of_ne ne).mpr (s x (List.mem_cons_of_mem _ hx))
    rw [List.length_erase_of_mem ha] at this
    have : 0 < m.length := List.length_pos_of_mem ha
    simp only [List.length_cons]
    omega
theorem Cnt.len {kvs : List (List Key × V)} {fs l : List (List Int)} (h : Cnt kvs fs l) : kvs.length ≤ l.length := by
  rw [h.dk.len]
  exact nodup_lenT h.dk.2 fun x hx => (h.mem x).mp hx
def allF (rs : List (List Int)) : List (List Int) := rs.flatMap facesI
theorem allF_len {rs : List (List Int)} (h : ∀ r ∈ rs, r.length ≤ 63) : (allF rs).length ≤ rs.length * 63 := by
  unfold allF
  induction rs with
  | nil => exact Nat.zero_le _
  | cons r rs ih =>
    rw [List.flatMap_cons, List.length_append, facesI_len, List.length_cons, Nat.succ_mul]
    have h1 := ih fun q hq => h q (List.mem_cons_of_mem _ hq)
    have h2 := h r List.mem_cons_self
    omega
theorem allF_snoc {rs : List (List Int)} {i : Nat} {r : List Int} (h : rs[i]? = some r) : allF (rs.take (i + 1)) = allF (rs.take i) ++ facesI r := by
  unfold allF
  rw [List.take_succ, h, List.flatMap_append]
  simp
section
variable {P : Program} {w : World} {K : PySem.W.Frag} {mg : Str → Option Value} {base : Heap}
def nCounts : List Str := ["rooms", "counts", "room", "face"]
theorem scCounts : FnScope nCounts ["rooms"] (defScope sFaceCounts) := ⟨rfl, rfl, rfl, by decide +kernel, rfl, by decide +kernel, by decide +kernel⟩
def spCounts : Sp := fun vs H Q _ => ∃ (t : Addr) (xs : List V) (rs : List (List Int)), vs = [.ref t] ∧ H t = some (.tup xs) ∧ TIs H xs rs ∧ (∀ r ∈ rs, r.length ≤ 63) ∧ rs.length ≤ 63 ∧
  ∀ d H' kvs fs, H d = none → Ext H H' → H' d = some (.dT kvs) → Cnt kvs fs (allF rs) → Q (.ref d) H'
theorem ok_counts (T : Fx K mg) : FnOk P w K mg base CX0 2 (He.ga K "face_counts") T.fd_face_counts ["rooms"] spCounts := by
  have bF : Binds K T.fd_faces ["room"] [] := T.F_faces.bindsN fun _ _ _ _ _ _ us hl => match us, hl with | [_], _ => rfl
  refine T.F_face_counts.ok scCounts (fun vs H Q E h => ?_) (fun cdv A outer s H vs Q E hr h => ⟨_, PSs.nox (pss_cons (ps_set (i := 1) scCounts.nd rfl (Or.inl rfl) pe_dnewT) (pss_cons (ps_for PassesOwn.never rfl (pi_tup (pv 0)) (pg_name (i := 2) scCounts.nd rfl (Or.inl rfl))
    (pss_one (ps_for PassesOwn.never rfl (pi_list (pe_call (ok_faces T) hr rfl T.g_faces T.F_faces.kp bF .nil pass0 (pa_cons (pv 2) pa_nil))) (pg_name (i := 3) scCounts.nd rfl (Or.inl rfl))
      (pss_one (ps_dput (hu_of hr) (pv 1) (pv 3) (pe_op op_add (pe_dget2 (hu_of hr) (pv 1) (pv 3) pe_int ⟨rfl, rfl, rfl, rfl⟩) pe_int) rfl))))) (pss_one (ps_ret (pv 1))))), ?_⟩)
  · obtain ⟨_, _, _, rfl, _⟩ := h
    rfl
  obtain ⟨t, xs, rs, rfl, htu, ht, h63, hz, hq⟩ := h
  have sz : sizeLine = 16777216 := sizeLine_eq
  intro d hd
  have e0 : Ext H (upd H d (.dT [])) := Ext.upd hd
  refine ⟨_, rfl, t, rfl, ⟨_, .inl (.inl (e0 _ _ htu))⟩, ?_⟩
  refine for_tup (xs := xs) (fun i σ H' => (∃ a b, σ = [some (.ref t), some (.ref d), a, b]) ∧ Ext H H' ∧ ∃ kvs fs, H' d = some (.dT kvs) ∧ Cnt kvs fs (allF (rs.take i))) ⟨⟨none, none, rfl⟩, e0, [], [], upd_same, Cnt.nil⟩ (fun i σ H' _ z => .inl (.inl (z.2.1 _ _ htu))) (fun i v σ H' hv z => ?_) fun σ H' z => ?_
  · obtain ⟨⟨a, b, rfl⟩, ex, kvs, fs, hk, hc⟩ := z
    obtain ⟨r, hr, hvt⟩ := ht.at hv
    have hr63 := h63 r (List.mem_of_getElem? hr)
    refine ⟨_, rfl, v, r, rfl, hvt.ext ex, hr63, fun L ys H2 hL e2 hLl hys => ?_⟩
    refine ⟨L, rfl, ⟨_, .inl (.inl hLl)⟩, ?_⟩
    have hLd : L ≠ d := fun z => by rw [z, hk] at hL; cases hL
    refine for_list (xs := ys) (fun j σ H3 => (∃ b, σ = [some (.ref t), some (.ref d), some v, b]) ∧ (∀ b u, b ≠ d → H2 b = some u → H3 b = some u) ∧ Ext H H3 ∧ ∃ kvs fs, H3 d = some (.dT kvs) ∧ Cnt kvs fs (allF (rs.take i) ++ (facesI r).take j)) ⟨⟨b, rfl⟩, fun _ _ _ h => h, ex.trans e2, kvs, fs, e2 _ _ hk, ?_⟩ (fun j σ H3 _ z => .inl (.inl (z.2.1 _ _ hLd hLl))) (fun j v2 σ H3 hv2 z => ?_) fun σ H3 z => ?_
    · rw [List.take_zero, List.append_nil]; exact hc
    · obtain ⟨⟨b, rfl⟩, k1, ex3, kvs, fs, hk3, hc3⟩ := z
      obtain ⟨f, hf, hft⟩ := hys.at hv2
      obtain ⟨q, rfl, hqt⟩ := hft
      have hqd : q ≠ d := fun z => by rw [z, e2 _ _ hk] at hqt; cases hqt
      have hq3 := k1 _ _ hqd hqt
      refine ⟨_, rfl, d, rfl, .inr ⟨kvs, .inl hk3⟩, _, rfl, _, DGet.t hk3 (k := kI f) (by rw [kI_kV]; exact hq3), ?_⟩
      rw [hc3.getD f]
      refine ⟨_, _, rfl, rfl, ?_⟩
      have hlen : kvs.length < sizeLine := by
        have h1 := hc3.len
        rw [List.length_append, List.length_take] at h1
        have h2 := allF_len (rs := rs.take i) fun q hq => h63 q (List.mem_of_mem_take hq)
        rw [List.length_take] at h2
        rw [facesI_len] at h1
        have h3 : min i rs.length * 63 ≤ 63 * 63 := Nat.mul_le_mul_right 63 (by omega)
        omega
      refine ⟨_, rfl, _, rfl, d, _, rfl, DPut.t hk3 (k := kI f) (by rw [kI_kV]; exact hq3) hlen, ?_⟩
      refine ⟨⟨_, rfl⟩, fun b u hb e => ?_, fun b u e => ?_, _, (if f ∈ fs then fs else fs ++ [f]), upd_same, ?_⟩
      · rw [upd_ne hb]; exact k1 b u hb e
      · rw [upd_ne (fun z => by rw [z, hd] at e; cases e)]; exact ex3 b u e
      · rw [List.take_succ, hf, ← List.append_assoc]
        exact hc3.put f
    · obtain ⟨⟨b, rfl⟩, k1, ex3, kvs, fs, hk3, hc3⟩ := z
      rw [hys.1, List.take_length] at hc3
      refine ⟨⟨_, _, rfl⟩, ex3, kvs, fs, hk3, ?_⟩
      rw [allF_snoc hr]
      exact hc3
  · obtain ⟨⟨a, b, rfl⟩, ex, kvs, fs, hk, hc⟩ := z
    rw [ht.1, List.take_length] at hc
    exact ⟨_, rfl, hq d H' kvs fs hd ex hk hc⟩
end
end NA
set_option maxRecDepth 100000
set_option maxHeartbeats 4000000
/-! a dict's keys, filtered; odd_faces. -/
namespace NA
open PySem PySem.Spec PyProof.Rows L2
theorem keysF_read {tt : TT} {c v : Nat} {σ : L2.St} {H : Hp} {Q : VK} {d : Addr} {kvs : List (List Key × V)} {fs : List (List Int)} {pr : List Int → Bool} (hσ : σ[c]? = some (some (.ref d))) (hcv : c ≠ v) (hv : v < σ.length) (hd : H d = some (.dT kvs)) (hk : DK kvs fs) (hz : fs.length < sizeLine)
    (htt : ∀ (H' : Hp) (f : List Int) (x : V) (q : Addr) (od : Obj) (R : Bool → Hp → Prop), H' d = some (.frz od (.dT kvs)) → valV kvs (kI f) = some x → f ∈ fs → H' q = some (.tup (iV f)) → (∀ b u, b ≠ d → H b = some u → H' b = some u) → R (pr f) H' → tt ((σ.set v none).set v (some (.ref q))) H' R)
    (hq : ∀ D ys, H D = none → TIs H ys (fs.filter pr) → Q (.ref D) (upd H D (.lst ys))) : tLockE (tLc (iKeys (tVar c)) (gName v) tt (tVar v) [v]) σ H Q := by
  refine ⟨d, .dT kvs, hd, trivial, fun od => ?_⟩
  refine ⟨_, hσ, d, od, rfl, .inr ⟨kvs, upd_same, fun D hD => ?_⟩⟩
  have hDd : D ≠ d := fun z => by rw [z, upd_same] at hD; cases hD
  have hDH : H D = none := (upd_ne hDd).symm.trans hD
  generalize hH1 : upd H d (.frz od (.dT kvs)) = H1 at hD
  have h1d : H1 d = some (.frz od (.dT kvs)) := by rw [← hH1]; exact upd_same
  have h1o : ∀ b, b ≠ d → H1 b = H b := fun b hb => by rw [← hH1]; exact upd_ne hb
  refine lc_keysT (fun i H' => ∃ ys, H' = upd H1 D (.lst ys) ∧ TIs H ys ((fs.take i).filter pr)) ⟨[], rfl, TIs.nil⟩ (fun i H' _ ⟨ys, e, _⟩ => by rw [e, upd_ne (Ne.symm hDd)]; exact h1d) (fun i k x q H' hkv ⟨ys, e, ht⟩ hq' => ?_) fun H' ⟨ys, e, ht⟩ => ?_
  · obtain ⟨f, hf, rfl, hval⟩ := hk.get hkv
    rw [kI_kV] at hq'
    have hmem := List.mem_of_getElem? hf
    refine ⟨?_, ?_⟩
    · show (((σ.set v none).set v (some (.ref q))).set v none) = _
      rw [List.set_set, List.set_set]
      rfl
    have hyl : ys.length < sizeLine := by
      rw [ht.1]
      refine Nat.lt_of_le_of_lt (List.length_filter_le ..) ?_
      rw [List.length_take]; omega
    have hqD : q ≠ D := fun z => by rw [z, e, upd_same] at hq'; cases hq'
    have hqd : q ≠ d := fun z => by rw [z, e, upd_ne (Ne.symm hDd), h1d] at hq'; cases hq'
    have hqH : H q = some (.tup (iV f)) := by rw [e, upd_ne hqD, h1o q hqd] at hq'; exact hq'
    have e1 : ((σ.set v none).set v (some (V.ref q)))[v]? = some (some (.ref q)) := by
      rw [List.set_set, List.getElem?_set_self hv]
    refine htt H' f x q od _ (by rw [e, upd_ne (Ne.symm hDd)]; exact h1d) hval hmem hq' (fun b u hb hu => ?_) ?_
    · rw [e, upd_ne (fun z => by rw [z, hDH] at hu; cases hu), h1o b hb]
      exact hu
    · by_cases hp : pr f = true
      · rw [hp]
        refine iteT ⟨_, e1, ys, by rw [e]; exact upd_same, hyl, ys ++ [.ref q], by rw [e, upd_upd], ?_⟩
        rw [take_succ_filter hf, if_pos hp]
        exact ht.snoc ⟨q, rfl, hqH⟩
      · have hp' : pr f = false := by cases z : pr f; rfl; exact absurd z hp
        rw [hp']
        refine iteF ⟨ys, e, ?_⟩
        rw [take_succ_filter hf, if_neg hp, List.append_nil]
        exact ht
  · rw [hk.len, List.take_length] at ht
    refine ⟨by rw [e, upd_ne (Ne.symm hDd)]; exact h1d, ?_⟩
    have : upd H' d (.dT kvs) = upd H D (.lst ys) := by
      funext b
      rw [e]
      by_cases hb : b = d
      · rw [hb, upd_same, upd_ne (Ne.symm hDd)]; exact hd.symm
      · rw [upd_ne hb]
        by_cases hb2 : b = D
        · rw [hb2, upd_same, upd_same]
        · rw [upd_ne hb2, upd_ne hb2]; exact h1o b hb
    rw [this]
    exact hq D ys hDH ht
/-- the faces that stand an odd number of times in l -/
def oddP (l : List (List Int)) (f : List Int) : Bool := decide (l.count f % 2 = 1)
section
variable {P : Program} {w : World} {K : PySem.W.Frag} {mg : Str → Option Value} {base : Heap}
def nOdd : List Str := ["self", "counts", "face"]
theorem scOdd : FnScope nOdd ["self"] (defScope sOddFaces) := ⟨rfl, rfl, rfl, by decide +kernel, rfl, by decide +kernel, by decide +kernel⟩
/-- the faces lie in a short list -/
def FewF (l : List (List Int)) : Prop := ∃ (cs : List (List Int)) (d : Nat), cs.length < 64 ∧ (1 ≤ d ∨ cs.length ≤ 1) ∧ ∀ f ∈ l, f ∈ cs ∧ f.length = d ∧ Ok64 f
def spOddF (K : PySem.W.Frag) : Sp := fun vs H Q _ => ∃ (x : Addr) (n k : Nat) (rs : List (List Int)), vs = [.ref x] ∧ BookAt K H x n k rs ∧ (∀ r ∈ rs, r.length ≤ 63) ∧ rs.length ≤ 63 ∧ FewF (allF rs) ∧
  ∀ p ys qs H', Ext H H' → H p = none → H' p = some (.lst ys) → TIs H' ys qs → qs.Nodup → (∀ f, f ∈ qs ↔ f ∈ allF rs ∧ (allF rs).count f % 2 = 1) → qs.Pairwise (fun a b => cd a ≤ cd b) → Q (.ref p) H'
theorem ok_oddF (T : Fx K mg) : FnOk P w K mg base CX0 3 (He.ma K (He.ga K "Book") "odd_faces") T.fd_Book_odd_faces ["self"] (spOddF K) := by
  have bC : Binds K T.fd_face_counts ["rooms"] [] := T.F_face_counts.bindsN fun _ _ _ _ _ _ us hl => match us, hl with | [_], _ => rfl
  refine T.F_Book_odd_faces.ok scOdd (fun vs H Q E h => ?_) (fun cdv A outer s H vs Q E hr h => ⟨_, PSs.nox (pss_cons (ps_set (i := 1) scOdd.nd rfl (Or.inr rfl) (pe_call (ok_counts T) hr rfl T.g_face_counts T.F_face_counts.kp bC .nil pass0 (pa_cons (pe_fld (pv 0) rfl) pa_nil)))
    (pss_one (ps_ret (pe_callB cr_sortTL (by rfl) T.n_sorted (by decide +kernel) (pa_cons (pe_lock (pe_lc (own := [("face", 2)]) (g := gName 2) (wi := iKeys (tVar 1)) (tt := tTest (tOp rEq (tOp (rI (fun _ j => 0 < j) fun i j => .int (i % j)) (tDGet (tVar 1) (tVar 2)) (tC (.int 2))) (tC (.int 1)))) (te := tVar 2) rfl scOdd.nd (pi_keys (pv 1)) (blkOk_by (N := nOdd) (sc := defScope sOddFaces) (by decide +kernel)) (fun _ _ _ _ _ => pg_name (i := 2) scOdd.nd rfl (Or.inl rfl))
      (fun _ _ _ _ _ => pts_one (pt_cmpR op_eq (pe_op op_mod (pe_dget (hu_of hr) (pv 1) (pv 2) (fun _ _ => rfl)) pe_int) pe_int (nomark _))) (fun _ _ _ _ _ => pv 2))) pa_nil))))), ?_⟩)
  · obtain ⟨_, _, _, _, rfl, _⟩ := h
    rfl
  obtain ⟨x, n, k, rs, rfl, ⟨dx, t, ys0, hx, htu, ht⟩, h63, hz, ⟨cs, dd, hcs, hd1, hcf⟩, hq⟩ := h
  have sz : sizeLine = 16777216 := sizeLine_eq
  refine ⟨_, rfl, x, _, dx, _, _, rfl, hx, T.c_Book, T.na_Book_rooms, rfl, t, ys0, rs, rfl, htu, ht, h63, hz, fun d H2 kvs fs hd e2 hk hc => ?_⟩
  have hfs : fs.length ≤ 63 := by
    have := nodup_lenT hc.dk.2 fun f hf => (hcf f ((hc.mem f).mp hf)).1
    omega
  refine keysF_read (c := 1) (v := 2) (σ := [some (.ref x), some (.ref d), none]) (H := H2) (kvs := kvs) (fs := fs) (pr := oddP (allF rs)) rfl (by decide) (by show 2 < 3; decide) hk hc.dk (by omega) (fun H3 f y q od R h3 hv hf hq3 ex hR => ?_) fun D ys hD hys => ?_
  · rw [hc.val f ((hc.mem f).mp hf)] at hv
    cases hv
    refine ⟨_, rfl, _, rfl, d, _, rfl, .inr ⟨kvs, kI f, q, .inr ⟨od, h3⟩, rfl, by rw [kI_kV]; exact hq3, (hc.val f ((hc.mem f).mp hf)).symm⟩, _, _, rfl, rfl, by show (0 : Int) < 2; decide, rfl, _, rfl, ?_⟩
    have : decide (V.int ((((allF rs).count f : Nat) : Int) % 2) = V.int 1) = oddP (allF rs) f := by
      unfold oddP
      by_cases e : (allF rs).count f % 2 = 1
      · rw [decide_eq_true e]
        exact ival (by omega)
      · rw [decide_eq_false e]
        exact ival_ne (by omega)
    rw [this]
    exact hR
  · have hDn : D ≠ d := fun z => by rw [z, hk] at hD; cases hD
    have eD : Ext H2 (upd H2 D (.lst ys)) := Ext.upd hD
    refine ⟨D, ys, fs.filter (oddP (allF rs)), dd, rfl, .inl (.inl upd_same), hys.ext eD, ?_, ?_, fun r hr => (hcf r ((hc.mem r).mp (List.mem_filter.mp hr).1)).2, fun zs qs p tq pq pw hp => ?_⟩
    · have := List.length_filter_le (oddP (allF rs)) fs
      omega
    · have := List.length_filter_le (oddP (allF rs)) fs
      have := nodup_lenT hc.dk.2 fun f hf => (hcf f ((hc.mem f).mp hf)).1
      omega
    · have hpH : H p = none := by
        cases z : H p with
        | none => rfl
        | some u => rw [eD _ _ (e2 _ _ z)] at hp; cases hp
      refine hq p zs qs _ ((e2.trans eD).trans (Ext.upd hp)) hpH upd_same (tq.ext (Ext.upd hp)) (pq.nodup_iff.mpr (hc.dk.2.filter _)) (fun f => ?_) pw
      rw [pq.mem_iff, List.mem_filter, hc.mem f]
      unfold oddP
      rw [decide_eq_true_iff]
end
end NA
set_option maxRecDepth 100000
set_option maxHeartbeats 4000000
/-! _law_table, _law_odd. -/
namespace NA
open PySem PySem.Spec PyProof.Rows L2
/-- at each tuple of l a list of as many items as l has it -/
structure TCnt (H : Hp) (kvs : List (List Key × V)) (fs l : List (List Int)) : Prop where
  dk : DK kvs fs
  mem : ∀ f, f ∈ fs ↔ f ∈ l
  val : ∀ f, f ∈ l → ∃ L ys, valV kvs (kI f) = some (.ref L) ∧ H L = some (.lst ys) ∧ ys.length = l.count f
theorem TCnt.nil {H : Hp} : TCnt H [] [] [] := ⟨.nil, fun _ => Iff.rfl, fun f h => by cases h⟩
theorem TCnt.ext {H H' : Hp} {kvs : List (List Key × V)} {fs l : List (List Int)} (h : TCnt H kvs fs l) (e : ∀ b ys, H b = some (.lst ys) → H' b = some (.lst ys)) : TCnt H' kvs fs l := ⟨h.dk, h.mem, fun f hf => by
  obtain ⟨L, ys, h1, h2, h3⟩ := h.val f hf
  exact ⟨L, ys, h1, e _ _ h2, h3⟩⟩
theorem TCnt.put {H : Hp} {kvs : List (List Key × V)} {fs l : List (List Int)} (h : TCnt H kvs fs l) (f : List Int) {p : Addr} {ys : List V} (hp : H p = some (.lst ys)) (hl : ys.length = l.count f + 1) : TCnt H (putK kvs (kI f) (.ref p)) (if f ∈ fs then fs else fs ++ [f]) (l ++ [f]) := by
  refine ⟨h.dk.put f _, fun g => ?_, fun g hg => ?_⟩
  · rw [mem_put, h.mem g, List.mem_append, List.mem_singleton]
  · rw [valV_put]
    by_cases e : g = f
    · subst e
      rw [if_pos rfl, List.count_append]
      exact ⟨p, ys, rfl, hp, by simp [hl]⟩
    · rw [if_neg (fun z => e (kI_inj z)), List.count_append]
      have hgl : g ∈ l := by
        rcases List.mem_append.mp hg with z | z
        · exact z
        · exact absurd (List.mem_singleton.mp z) e
      obtain ⟨L, zs, h1, h2, h3⟩ := h.val g hgl
      have : List.count g [f] = 0 := List.count_eq_zero_of_not_mem (by simpa using e)
      exact ⟨L, zs, h1, h2, by omega⟩
theorem TCnt.len {H : Hp} {kvs : List (List Key × V)} {fs l : List (List Int)} (h : TCnt H kvs fs l) : kvs.length ≤ l.length := by
  rw [h.dk.len]
  exact nodup_lenT h.dk.2 fun x hx => (h.mem x).mp hx
section
variable {P : Program} {w : World} {K : PySem.W.Frag} {mg : Str → Option Value} {base : Heap}
def nTab : List Str := ["_law_rooms_here", "_law_table_here", "_law_room", "_law_k", "_law_face"]
theorem scTab : FnScope nTab ["_law_rooms_here"] (defScope sTable) := ⟨rfl, rfl, rfl, by decide +kernel, rfl, by decide +kernel, by decide +kernel⟩
def spTab : Sp := fun vs H Q _ => ∃ (t : Addr) (xs : List V) (rs : List (List Int)), vs = [.ref t] ∧ H t = some (.lst xs) ∧ TIs H xs rs ∧ (∀ r ∈ rs, r.length ≤ 63) ∧ rs.length ≤ 63 ∧
  ∀ d H' kvs fs, H d = none → Ext H H' → H' d = some (.dT kvs) → TCnt H' kvs fs (allF rs) → Q (.ref d) H'
theorem ok_tab (T : Fx K mg) : FnOk P w K mg base CX0 1 (He.ga K "_law_table") T.fd_law_table ["_law_rooms_here"] spTab := by
  refine T.F_law_table.ok scTab (fun vs H Q E h => ?_) (fun cdv A outer s H vs Q E hr h => ⟨_, PSs.nox (pss_cons (ps_set (i := 1) scTab.nd rfl (Or.inl rfl) pe_dnewT) (pss_cons (ps_for PassesOwn.never rfl (pi_list (pv 0)) (pg_name (i := 2) scTab.nd rfl (Or.inl rfl))
    (pss_one (ps_for PassesOwn.never rfl (pi_range1 rfl T.n_range (pa_cons (pe_callB call_len_seq (by rfl) T.n_len PySem.boot_len (pa_cons (pv 2) pa_nil)) pa_nil)) (pg_name (i := 3) scTab.nd rfl (Or.inl rfl))
      (pss_cons (ps_set (i := 4) scTab.nd rfl (Or.inl rfl) (pe_op op_catA (pe_slice sl_tupA (pv 2) po_none (po_some (pv 3))) (pe_slice sl_tupA (pv 2) (po_some (pe_op op_add (pv 3) pe_int)) po_none)))
      (pss_one (ps_dput (hu_of hr) (pv 1) (pv 4) (pe_op op_cat (pe_dget2 (hu_of hr) (pv 1) (pv 4) (pe_lst pa_nil) ⟨rfl, rfl, rfl, rfl⟩) (pe_lst (pa_cons (pv 2) pa_nil))) rfl)))))) (pss_one (ps_ret (pv 1))))), ?_⟩)
  · obtain ⟨_, _, _, rfl, _⟩ := h
    rfl
  obtain ⟨t, xs, rs, rfl, htu, ht, h63, hz, hq⟩ := h
  have sz : sizeLine = 16777216 := sizeLine_eq
  intro d hd
  have e0 : Ext H (upd H d (.dT [])) := Ext.upd hd
  refine ⟨_, rfl, t, rfl, ⟨_, .inl (.inl (e0 _ _ htu))⟩, ?_⟩
  refine for_list (xs := xs) (fun i σ H' => (∃ a b c, σ = [some (.ref t), some (.ref d), a, b, c]) ∧ Ext H H' ∧ ∃ kvs fs, H' d = some (.dT kvs) ∧ TCnt H' kvs fs (allF (rs.take i))) ⟨⟨none, none, none, rfl⟩, e0, [], [], upd_same, TCnt.nil⟩ (fun i σ H' _ z => .inl (.inl (z.2.1 _ _ htu))) (fun i v σ H' hv z => ?_) fun σ H' z => ?_
  · obtain ⟨⟨a, b, c, rfl⟩, ex, kvs, fs, hk, hc⟩ := z
    obtain ⟨r, hr, rm, rfl, hrm⟩ := ht.at hv
    have hr63 := h63 r (List.mem_of_getElem? hr)
    refine ⟨_, rfl, rm, iV r, rfl, .inr (.inl (.inl (ex _ _ hrm))), ?_⟩
    refine ⟨_, rfl, by omega, by rw [iV_len]; omega, ?_⟩
    rw [iV_len]
    refine for_range (lo := 0) (n := ((r.length : Int)).toNat) (fun j σ H3 => (∃ b c, σ = [some (.ref t), some (.ref d), some (.ref rm), b, c]) ∧ Ext H H3 ∧ ∃ kvs fs, H3 d = some (.dT kvs) ∧ TCnt H3 kvs fs (allF (rs.take i) ++ (facesI r).take j)) ⟨⟨b, c, rfl⟩, ex, kvs, fs, hk, ?_⟩ (fun j σ H3 hj z => ?_) fun σ H3 z => ?_
    · rw [List.take_zero, List.append_nil]; exact hc
    · obtain ⟨⟨b, c, rfl⟩, ex3, kvs, fs, hk3, hc3⟩ := z
      have hj' : j < r.length := by simpa using hj
      rw [show (0 : Int) + (j : Int) = (j : Int) from Int.zero_add _]
      refine face_read (K := K) (a := 2) (b := 3) (σ := [some (.ref t), some (.ref d), some (.ref rm), some (.int (j : Int)), c]) (k := j) rfl rfl (ex3 _ _ hrm) hj' hr63 fun v H4 e4 tv => ?_
      obtain ⟨q, rfl, hqt⟩ := tv
      have hf : (facesI r)[j]? = some (r.eraseIdx j) := by
        unfold facesI
        rw [List.getElem?_map, List.getElem?_range hj']; rfl
      have hk4 := e4 _ _ hk3
      have hc4 := hc3.ext fun b ys hb => e4 _ _ hb
      refine ⟨_, rfl, d, rfl, .inr ⟨kvs, .inl hk4⟩, _, rfl, by show 0 ≤ sizeLine; omega, fun p0 hp0 => ?_⟩
      have e5 : Ext H4 (upd H4 p0 (.lst [])) := Ext.upd hp0
      refine ⟨_, DGet.t (e5 _ _ hk4) (k := kI (r.eraseIdx j)) (by rw [kI_kV]; exact e5 _ _ hqt), ?_⟩
      -- the old list
      have hold : ∃ L ys, (valV kvs (kI (r.eraseIdx j))).getD (.ref p0) = .ref L ∧ (upd H4 p0 (.lst [])) L = some (.lst ys) ∧ ys.length = (allF (rs.take i) ++ (facesI r).take j).count (r.eraseIdx j) := by
        by_cases hm : r.eraseIdx j ∈ allF (rs.take i) ++ (facesI r).take j
        · obtain ⟨L, ys, h1, h2, h3⟩ := hc4.val _ hm
          exact ⟨L, ys, by rw [h1]; rfl, e5 _ _ h2, h3⟩
        · have : valV kvs (kI (r.eraseIdx j)) = none := by
            cases q : valV kvs (kI (r.eraseIdx j)) with
            | none => rfl
            | some v => exact absurd ((hc4.mem _).mp ((hc4.dk.val _).mp (by rw [q]; rfl))) hm
          rw [this]
          exact ⟨p0, [], rfl, upd_same, by rw [List.count_eq_zero_of_not_mem hm]; rfl⟩
      obtain ⟨L, ys, g1, g2, g3⟩ := hold
      rw [g1]
      refine ⟨_, rfl, by show 1 ≤ sizeLine; omega, fun p1 hp1 => ?_⟩
      have e6 : Ext (upd H4 p0 (.lst [])) (upd (upd H4 p0 (.lst [])) p1 (.lst [.ref rm])) := Ext.upd hp1
      have hlenF : (allF (rs.take i) ++ (facesI r).take j).length ≤ 63 * 63 + 63 := by
        rw [List.length_append, List.length_take]
        have h2 := allF_len (rs := rs.take i) fun q hq => h63 q (List.mem_of_mem_take hq)
        rw [List.length_take] at h2
        have h3 : min i rs.length * 63 ≤ 63 * 63 := Nat.mul_le_mul_right 63 (by omega)
        have := facesI_len r
        omega
      have hys : ys.length ≤ 63 * 63 + 63 := by
        rw [g3]
        exact Nat.le_trans (List.count_le_length ..) hlenF
      refine ⟨L, p1, ys, [.ref rm], rfl, rfl, e6 _ _ g2, upd_same, by show ys.length + 1 ≤ sizeLine; omega, fun p2 hp2 => ?_⟩
      have e7 := (e5.trans e6).trans (Ext.upd (u := .lst (ys ++ [.ref rm])) hp2)
      generalize hH5 : upd (upd (upd H4 p0 (.lst [])) p1 (.lst [.ref rm])) p2 (.lst (ys ++ [.ref rm])) = H5 at e7
      have hp5 : H5 p2 = some (.lst (ys ++ [.ref rm])) := by rw [← hH5]; exact upd_same
      have hk5 := e7 _ _ hk4
      have hc5 := hc4.ext fun b ys hb => e7 _ _ hb
      refine ⟨_, rfl, _, rfl, d, _, rfl, DPut.t hk5 (k := kI (r.eraseIdx j)) (by rw [kI_kV]; exact e7 _ _ hqt) (by have := hc5.len; omega), ?_⟩
      refine ⟨⟨_, _, rfl⟩, fun b u e => ?_, _, (if r.eraseIdx j ∈ fs then fs else fs ++ [r.eraseIdx j]), upd_same, ?_⟩
      · rw [upd_ne (fun z => by rw [z, hd] at e; cases e)]
        exact e7 _ _ (e4 _ _ (ex3 b u e))
      · rw [List.take_succ, hf, ← List.append_assoc]
        refine (hc5.put _ hp5 (by rw [List.length_append, g3]; rfl)).ext fun b zs hb => ?_
        rw [upd_ne (fun z => by rw [z, hk5] at hb; cases hb)]
        exact hb
    · obtain ⟨⟨b, c, rfl⟩, ex3, kvs, fs, hk3, hc3⟩ := z
      have : (facesI r).take ((r.length : Int)).toNat = facesI r := List.take_of_length_le (by rw [facesI_len]; omega)
      rw [this] at hc3
      refine ⟨⟨_, _, _, rfl⟩, ex3, kvs, fs, hk3, ?_⟩
      rw [allF_snoc hr]
      exact hc3
  · obtain ⟨⟨a, b, c, rfl⟩, ex, kvs, fs, hk, hc⟩ := z
    rw [ht.1, List.take_length] at hc
    exact ⟨_, rfl, hq d H' kvs fs hd ex hk hc⟩
end
end NA
set_option maxRecDepth 100000
set_option maxHeartbeats 4000000
/-! _law_odd. -/
namespace NA
open PySem PySem.Spec PyProof.Rows L2
def rInt1 : List V → Hp → VK → Prop := fun xs H Q => (∃ i, xs = [.int i] ∧ Q (.int i) H) ∨ ∃ k, xs = [.bl k] ∧ Q (.int (if k then 1 else 0)) H
section
variable {P : Program} {w : World} {K : PySem.W.Frag} {mg : Str → Option Value} {base : Heap}
def nLOdd : List Str := ["_law_rooms_here", "_law_table_here", "_law_face"]
theorem scLOdd : FnScope nLOdd ["_law_rooms_here"] (defScope sOdd) := ⟨rfl, rfl, rfl, by decide +kernel, rfl, by decide +kernel, by decide +kernel⟩
def spLOdd : Sp := fun vs H Q _ => ∃ (t : Addr) (xs : List V) (rs : List (List Int)), vs = [.ref t] ∧ H t = some (.lst xs) ∧ TIs H xs rs ∧ (∀ r ∈ rs, r.length ≤ 63) ∧ rs.length ≤ 63 ∧ FewF (allF rs) ∧
  ∀ p ys qs H', Ext H H' → H p = none → H' p = some (.lst ys) → TIs H' ys qs → qs.Nodup → (∀ f, f ∈ qs ↔ f ∈ allF rs ∧ (allF rs).count f % 2 = 1) → qs.Pairwise (fun a b => cd a ≤ cd b) → Q (.ref p) H'
def tOddT (K : PySem.W.Frag) : TT := tTest (tOp rEq (tOp (rI (fun _ j => 0 < j) fun i j => .int (i % j)) (tCB rInt1 (tCons (tCB (rLenSq K) (tCons (tDGet (tVar 1) (tVar 2)) tNil)) tNil)) (tC (.int 2))) (tC (.int 1)))
theorem ok_lodd (T : Fx K mg) : FnOk P w K mg base CX0 2 (He.ga K "_law_odd") T.fd_law_odd ["_law_rooms_here"] spLOdd := by
  have bC : Binds K T.fd_law_table ["_law_rooms_here"] [] := T.F_law_table.bindsN fun _ _ _ _ _ _ us hl => match us, hl with | [_], _ => rfl
  refine T.F_law_odd.ok scLOdd (fun vs H Q E h => ?_) (fun cdv A outer s H vs Q E hr h => ⟨_, PSs.nox (pss_cons (ps_set (i := 1) scLOdd.nd rfl (Or.inr rfl) (pe_call (ok_tab T) hr rfl T.g_law_table T.F_law_table.kp bC .nil pass0 (pa_cons (pv 0) pa_nil)))
    (pss_one (ps_ret (pe_callB cr_sortTL (by rfl) T.n_sorted (by decide +kernel) (pa_cons (pe_lock (pe_lc (own := [("_law_face", 2)]) (g := gName 2) (wi := iKeys (tVar 1)) (tt := tOddT K) (te := tVar 2) rfl scLOdd.nd (pi_keys (pv 1)) (blkOk_by (N := nLOdd) (sc := defScope sOdd) (by decide +kernel)) (fun _ _ _ _ _ => pg_name (i := 2) scLOdd.nd rfl (Or.inl rfl))
      (fun _ _ _ _ _ => pts_one (pt_cmpR op_eq (pe_op op_mod (pe_callTy call_int1 (by rfl) T.n_int (by decide +kernel) (pa_cons (pe_callB call_len_seq (by rfl) T.n_len PySem.boot_len (pa_cons (pe_dget (hu_of hr) (pv 1) (pv 2) (fun _ _ => rfl)) pa_nil)) pa_nil)) pe_int) pe_int (nomark _))) (fun _ _ _ _ _ => pv 2))) pa_nil))))), ?_⟩)
  · obtain ⟨_, _, _, rfl, _⟩ := h
    rfl
  obtain ⟨t, xs, rs, rfl, htu, ht, h63, hz, ⟨cs, dd, hcs, hd1, hcf⟩, hq⟩ := h
  have sz : sizeLine = 16777216 := sizeLine_eq
  refine ⟨_, rfl, t, xs, rs, rfl, htu, ht, h63, hz, fun d H2 kvs fs hd e2 hk hc => ?_⟩
  have hfl : fs.length ≤ cs.length := nodup_lenT hc.dk.2 fun f hf => (hcf f ((hc.mem f).mp hf)).1
  refine keysF_read (c := 1) (v := 2) (σ := [some (.ref t), some (.ref d), none]) (H := H2) (kvs := kvs) (fs := fs) (pr := oddP (allF rs)) rfl (by decide) (by show 2 < 3; decide) hk hc.dk (by omega) (fun H3 f y q od R h3 hv hf hq3 ex hR => ?_) fun D ys hD hys => ?_
  · obtain ⟨L, zs, v1, v2, v3⟩ := hc.val f ((hc.mem f).mp hf)
    rw [v1] at hv
    cases hv
    have hLd : L ≠ d := fun z => by rw [z, hk] at v2; cases v2
    refine ⟨_, rfl, _, rfl, d, _, rfl, .inr ⟨kvs, kI f, q, .inr ⟨od, h3⟩, rfl, by rw [kI_kV]; exact hq3, v1.symm⟩, L, zs, rfl, .inl (.inl (.inl (ex _ _ hLd v2))), .inl ⟨_, rfl, _, _, rfl, rfl, by show (0 : Int) < 2; decide, rfl, _, rfl, ?_⟩⟩
    have : decide (V.int (((zs.length : Nat) : Int) % 2) = V.int 1) = oddP (allF rs) f := by
      unfold oddP
      by_cases e : (allF rs).count f % 2 = 1
      · rw [decide_eq_true e]
        exact ival (by omega)
      · rw [decide_eq_false e]
        exact ival_ne (by omega)
    rw [this]
    exact hR
  · have eD : Ext H2 (upd H2 D (.lst ys)) := Ext.upd hD
    refine ⟨D, ys, fs.filter (oddP (allF rs)), dd, rfl, .inl (.inl upd_same), hys.ext eD, ?_, ?_, fun r hr => (hcf r ((hc.mem r).mp (List.mem_filter.mp hr).1)).2, fun zs qs p tq pq pw hp => ?_⟩
    · have := List.length_filter_le (oddP (allF rs)) fs
      omega
    · have := List.length_filter_le (oddP (allF rs)) fs
      omega
    · have hpH : H p = none := by
        cases z : H p with
        | none => rfl
        | some u => rw [eD _ _ (e2 _ _ z)] at hp; cases hp
      refine hq p zs qs _ ((e2.trans eD).trans (Ext.upd hp)) hpH upd_same (tq.ext (Ext.upd hp)) (pq.nodup_iff.mpr (hc.dk.2.filter _)) (fun f => ?_) pw
      rw [pq.mem_iff, List.mem_filter, hc.mem f]
      unfold oddP
      rw [decide_eq_true_iff]
/-! ### _law_rooms -/
def combs : List Int → Nat → List (List Int)
  | _, 0 => [[]]
  | [], _ + 1 => []
  | a :: l, k + 1 => (combs l k).map (a :: ·) ++ combs l (k + 1)
def nLRooms : List Str := ["_law_items", "_law_size", "_law_found", "_law_k", "_law_rest_here"]
theorem scLRooms : FnScope nLRooms ["_law_items", "_law_size"] (defScope sRooms) := ⟨rfl, rfl, rfl, by decide +kernel, rfl, by decide +kernel, by decide +kernel⟩
def spLRooms (k : Nat) : Sp := fun vs H Q _ => ∃ (x : V) (r : List Int), vs = [x, .int (k : Int)] ∧ TI H x r ∧ r.length ≤ 7 ∧ k ≤ 63 ∧ ∀ p xs H', Ext H H' → H p = none → H' p = some (.lst xs) → TIs H' xs (combs r k) → Q (.ref p) H'
theorem ok_lrooms0 (T : Fx K mg) : FnOk P w K mg base CX0 1 (He.ga K "_law_rooms") T.fd_law_rooms ["_law_items", "_law_size"] (spLRooms 0) := by
  refine T.F_law_rooms.ok scLRooms (fun vs H Q E h => ?_) (fun cdv A outer s H vs Q E hr h => ⟨_, PSs.nox (pss_cons (ps_if (pt_cmpR op_eq (pv 1) pe_int (nomark _)) (pss_one (ps_ret (pe_lst (pa_cons (pe_tup pa_nil) pa_nil)))) pss_nil) pss_never), ?_⟩)
  · obtain ⟨_, _, rfl, _⟩ := h
    rfl
  obtain ⟨x, r, rfl, hx, hr7, _, hq⟩ := h
  have sz : sizeLine = 16777216 := sizeLine_eq
  refine ⟨_, rfl, rfl, _, rfl, ?_⟩
  refine iteT ?_
  refine ⟨by show 0 ≤ sizeLine; omega, fun t ht => ⟨by show 1 ≤ sizeLine; omega, fun p hp => ?_⟩⟩
  have e1 : Ext H (upd H t (.tup [])) := Ext.upd ht
  have hpH : H p = none := by
    cases z : H p with
    | none => rfl
    | some u => rw [e1 _ _ z] at hp; cases hp
  refine hq p _ _ (e1.trans (Ext.upd hp)) hpH upd_same ?_
  have : combs r 0 = [[]] := by cases r <;> rfl
  rw [this]
  exact TIs.cons ⟨t, rfl, (Ext.upd hp) _ _ upd_same⟩ TIs.nil
end
end NA
set_option maxRecDepth 100000
set_option maxHeartbeats 4000000
/-! _law_rooms: by recursion. -/
namespace NA
open PySem PySem.Spec PyProof.Rows L2
/-- the i-th part -/
def partC (r : List Int) (k i : Nat) : List (List Int) := match r[i]? with
  | some a => (combs (r.drop (i + 1)) k).map (a :: ·)
  | none => []
theorem combs_short : ∀ {r : List Int} {k : Nat}, r.length < k → combs r k = []
  | [], 0, h => by simp at h
  | [], k + 1, _ => rfl
  | a :: r, 0, h => by simp at h
  | a :: r, k + 1, h => by
    simp only [List.length_cons] at h
    show (combs r k).map (a :: ·) ++ combs r (k + 1) = []
    rw [combs_short (by omega), combs_short (by omega)]
    rfl
theorem combs_flat : ∀ (r : List Int) (k : Nat), combs r (k + 1) = (List.range (r.length - k)).flatMap (partC r k)
  | [], k => by simp [combs]
  | a :: r, k => by
    show (combs r k).map (a :: ·) ++ combs r (k + 1) = _
    rw [combs_flat r k]
    by_cases h : r.length < k
    · rw [combs_short h]
      have e1 : r.length - k = 0 := by omega
      have e2 : (a :: r).length - k = 0 := by simp only [List.length_cons]; omega
      rw [e1, e2]
      rfl
    · have e : (a :: r).length - k = (r.length - k) + 1 := by simp only [List.length_cons]; omega
      rw [e, List.range_succ_eq_map, List.flatMap_cons, List.flatMap_map]
      rfl
theorem combs_len8 : ((List.range 8).all fun n => (List.range 8).all fun k => decide ((combs (rng n) k).length ≤ 35)) = true := by decide +kernel
theorem combs_len7 (n k : Nat) (hn : n ≤ 7) (hk : k ≤ 7) : (combs (rng n) k).length ≤ 35 :=
  of_decide_eq_true (List.all_eq_true.mp (List.all_eq_true.mp combs_len8 n (List.mem_range.mpr (by omega))) k (List.mem_range.mpr (by omega)))
theorem length_combs : ∀ (r q : List Int) (k : Nat), r.length = q.length → (combs r k).length = (combs q k).length
  | [], [], k, _ => by rfl
  | a :: r, b :: q, 0, _ => rfl
  | a :: r, b :: q, k + 1, h => by
    have h' : r.length = q.length := by simpa using h
    show ((combs r k).map (a :: ·) ++ combs r (k + 1)).length = ((combs q k).map (b :: ·) ++ combs q (k + 1)).length
    rw [List.length_append, List.length_append, List.length_map, List.length_map, length_combs r q k h', length_combs r q (k + 1) h']
  | [], _ :: _, _, h => by simp at h
  | _ :: _, [], _, h => by simp at h
theorem combs_len (r : List Int) (k : Nat) (h : r.length ≤ 7) : (combs r k).length ≤ 35 := by
  by_cases hk : k ≤ 7
  · rw [length_combs r (rng r.length) k (by rw [rng_len])]
    exact combs_len7 _ _ h hk
  · rw [combs_short (by omega)]
    exact Nat.zero_le _
theorem flat_snoc {r : List Int} {k i : Nat} : (List.range (i + 1)).flatMap (partC r k) = (List.range i).flatMap (partC r k) ++ partC r k i := by
  rw [List.range_succ, List.flatMap_append]
  simp
theorem flat_len {r : List Int} {k : Nat} (h : r.length ≤ 7) : ∀ i, i ≤ 7 → ((List.range i).flatMap (partC r k)).length ≤ i * 35
  | 0, _ => by simp
  | i + 1, hi => by
    rw [flat_snoc, List.length_append]
    have := flat_len (k := k) h i (by omega)
    have : (partC r k i).length ≤ 35 := by
      unfold partC
      split
      · rw [List.length_map]
        exact combs_len _ _ (by rw [List.length_drop]; omega)
      · exact Nat.zero_le _
    omega
theorem iV_cons (a : Int) (r : List Int) : iV (a :: r) = .int a :: iV r := rfl
theorem TIs.append {H : Hp} : ∀ {ys : List V} {qs : List (List Int)} {xs : List V} {rs : List (List Int)}, TIs H xs rs → TIs H ys qs → TIs H (xs ++ ys) (rs ++ qs)
  | [], [], xs, rs, h, _ => by simpa using h
  | y :: ys, q :: qs, xs, rs, h, h' => by
    have := TIs.append (h.snoc h'.head) h'.tail
    rwa [List.append_assoc, List.append_assoc] at this
  | [], _ :: _, _, _, _, h' => absurd h'.1 (by simp)
  | _ :: _, [], _, _, _, h' => absurd h'.1 (by simp)
section
variable {P : Program} {w : World} {K : PySem.W.Frag} {mg : Str → Option Value} {base : Heap}
theorem ok_lrooms (T : Fx K mg) : ∀ k : Nat, FnOk P w K mg base CX0 (k + 1) (He.ga K "_law_rooms") T.fd_law_rooms ["_law_items", "_law_size"] (spLRooms k)
  | 0 => ok_lrooms0 T
  | k + 1 => by
    have ih := ok_lrooms T k
    have bR : Binds K T.fd_law_rooms ["_law_items", "_law_size"] [] := T.F_law_rooms.bindsN fun _ _ _ _ _ _ us hl => match us, hl with | [_, _], _ => rfl
    refine T.F_law_rooms.ok scLRooms (fun vs H Q E h => ?_) (fun cdv A outer s H vs Q E hr h => ⟨_, PSs.nox (pss_cons (ps_if (pt_cmpR op_eq (pv 1) pe_int (nomark _)) (pss_one ps_never) pss_nil)
      (pss_cons (ps_set (i := 2) scLRooms.nd rfl (Or.inl rfl) (pe_lst pa_nil))
      (pss_cons (ps_for PassesOwn.never rfl (pi_range1 rfl T.n_range (pa_cons (pe_op op_add (pe_op op_sub (pe_callB call_len_seq (by rfl) T.n_len PySem.boot_len (pa_cons (pv 0) pa_nil)) (pv 1)) pe_int) pa_nil)) (pg_name (i := 3) scLRooms.nd rfl (Or.inl rfl))
        (pss_one (ps_for PassesOwn.never rfl (pi_list (pe_call ih hr rfl T.g_law_rooms T.F_law_rooms.kp bR .nil pass0 (pa_cons (pe_slice sl_tupA (pv 0) (po_some (pe_op op_add (pv 3) pe_int)) po_none) (pa_cons (pe_op op_sub (pv 1) pe_int) pa_nil)))) (pg_name (i := 4) scLRooms.nd rfl (Or.inl rfl))
          (pss_one (ps_expr (pe_bm PySem.F.plainAttrs_list PySem.F.slot_list_append PySem.F.type_list_append mt_append (pv 2) (pa_cons (pe_op op_catA (pe_tup (pa_cons (pe_ix ix_tup (pv 0) (pv 3) (fun _ _ => rfl)) pa_nil)) (pv 4)) pa_nil)))))))
      (pss_one (ps_ret (pv 2)))))), ?_⟩)
    · obtain ⟨_, _, rfl, _⟩ := h
      rfl
    obtain ⟨x, r, rfl, ⟨x, rfl, hx⟩, hr7, hk63, hq⟩ := h
    have sz : sizeLine = 16777216 := sizeLine_eq
    refine ⟨_, rfl, rfl, _, rfl, ?_⟩
    rw [ival_ne (by omega)]
    refine iteF ?_
    refine ⟨by show 0 ≤ sizeLine; omega, fun F hF => ?_⟩
    have e0 : Ext H (upd H F (.lst [])) := Ext.upd hF
    refine ⟨_, rfl, x, iV r, rfl, .inr (.inl (.inl (e0 _ _ hx))), _, rfl, _, _, rfl, rfl, _, _, rfl, rfl, _, rfl, by rw [iV_len]; omega, by rw [iV_len]; omega, ?_⟩
    have en : (((iV r).length : Int) - ((k + 1 : Nat) : Int) + 1 - 0).toNat = r.length - k := by rw [iV_len]; omega
    have en2 : (((iV r).length : Int) - ((k + 1 : Nat) : Int) + 1).toNat = r.length - k := by rw [iV_len]; omega
    refine for_range (lo := 0) (n := (((iV r).length : Int) - ((k + 1 : Nat) : Int) + 1).toNat) (fun i σ H' => (∃ a b, σ = [some (.ref x), some (.int ((k + 1 : Nat) : Int)), some (.ref F), a, b]) ∧ Ext H H' ∧ ∃ xs, H' F = some (.lst xs) ∧ TIs H' xs ((List.range i).flatMap (partC r k))) ⟨⟨none, none, rfl⟩, e0, [], upd_same, TIs.nil⟩ (fun i σ H' hi z => ?_) fun σ H' z => ?_
    · obtain ⟨⟨a, b, rfl⟩, ex, xs, hxs, ht⟩ := z
      rw [en2] at hi
      rw [show (0 : Int) + (i : Int) = (i : Int) from Int.zero_add _]
      have hir : i < r.length := by omega
      have hxF : x ≠ F := fun z => by rw [z, hF] at hx; cases hx
      -- the rest of the items
      have hsl : ∀ (Q' : VK), (∀ q H2, Ext H' H2 → H2 q = some (.tup (iV (r.drop (i + 1)))) → Q' (.ref q) H2) → tSl (rSlA K) (tVar 0) (tPart (tOp (rI0 fun i j => .int (i + j)) (tVar 3) (tC (.int 1)))) tNoPart [some (V.ref x), some (.int ((k + 1 : Nat) : Int)), some (.ref F), some (.int (i : Int)), b] H' Q' := fun Q' hQ' => by
        refine ⟨_, rfl, _, rfl, _, _, rfl, rfl, _, rfl, x, iV r, rfl, .inl (.inl (ex _ _ hx)), fun hw => absurd hw.1 ?_, fun _ q hq2 => ?_⟩
        · show ¬ HT.sIx _ 0 (some (((i + 1 : Nat)) : Int)) = 0
          rw [HT.sIx_nat, iV_len]; omega
        · refine hQ' q _ (Ext.upd hq2) ?_
          rw [upd_same]
          show some (HO.tup (cutV (iV r) (some (((i + 1 : Nat)) : Int)) none)) = _
          unfold cutV
          rw [HT.sIx_none, HT.sIx_nat, iV_len, Nat.min_eq_left hir, iV_drop, List.take_of_length_le (by rw [iV_len, List.length_drop]; exact Nat.le_refl _)]
      refine hsl _ fun q H2 e2 hq2 => ?_
      refine ⟨_, rfl, _, _, rfl, rfl, .ref q, r.drop (i + 1), ?_, ⟨q, rfl, hq2⟩, by rw [List.length_drop]; omega, by omega, fun L ys H3 e3 hL hLl hys => ?_⟩
      · show [V.ref q, V.int (((k + 1 : Nat) : Int) - 1)] = [V.ref q, V.int (k : Int)]
        rw [show (((k + 1 : Nat) : Int) - 1) = ((k : Nat) : Int) by omega]
      refine ⟨L, rfl, ⟨_, .inl (.inl hLl)⟩, ?_⟩
      have hLF : L ≠ F := fun z => by rw [z, e2 _ _ hxs] at hL; cases hL
      have hpart : partC r k i = (combs (r.drop (i + 1)) k).map (r[i] :: ·) := by
        unfold partC
        rw [List.getElem?_eq_getElem hir]
      refine for_list (xs := ys) (fun j σ H4 => (∃ b, σ = [some (.ref x), some (.int ((k + 1 : Nat) : Int)), some (.ref F), some (.int (i : Int)), b]) ∧ (∀ b u, b ≠ F → H3 b = some u → H4 b = some u) ∧ ∃ xs, H4 F = some (.lst xs) ∧ TIs H4 xs ((List.range i).flatMap (partC r k) ++ ((combs (r.drop (i + 1)) k).take j).map (r[i] :: ·))) ⟨⟨b, rfl⟩, fun _ _ _ h => h, xs, e3 _ _ (e2 _ _ hxs), ?_⟩ (fun j σ H4 _ z => .inl (.inl (z.2.1 _ _ hLF hLl))) (fun j v σ H4 hv z => ?_) fun σ H4 z => ?_
      · rw [List.take_zero, List.map_nil, List.append_nil]
        exact (ht.ext e2).ext e3
      · obtain ⟨⟨b, rfl⟩, k4, zs, hzs, htz⟩ := z
        obtain ⟨c, hc, cq, rfl, hcq⟩ := hys.at hv
        have hcF : cq ≠ F := fun z => by rw [z, e3 _ _ (e2 _ _ hxs)] at hcq; cases hcq
        have hx4 : H4 x = some (.tup (iV r)) := k4 _ _ hxF (e3 _ _ (e2 _ _ (ex _ _ hx)))
        have hc4 : H4 cq = some (.tup (iV c)) := k4 _ _ hcF hcq
        refine ⟨_, rfl, .inl ⟨rfl, _, .inl (.inl hzs)⟩, _, rfl, _, rfl, x, iV r, (i : Int), .int r[i], rfl, rfl, .inl (.inl hx4), atI_nat (iV_at (List.getElem?_eq_getElem hir)), by show 1 ≤ sizeLine; omega, fun t ht1 => ?_⟩
        have e5 : Ext H4 (upd H4 t (.tup [.int r[i]])) := Ext.upd ht1
        have hzl : zs.length ≤ 7 * 35 + 35 := by
          rw [htz.1, List.length_append, List.length_map, List.length_take]
          have h1 := flat_len (r := r) (k := k) hr7 i (by omega)
          have h2 := combs_len (r.drop (i + 1)) k (by rw [List.length_drop]; omega)
          have : i * 35 ≤ 7 * 35 := Nat.mul_le_mul_right 35 (by omega)
          omega
        have fin : ∀ u H5, Ext H4 H5 → TI H5 u (r[i] :: c) → ∃ l zs', V.ref F = .ref l ∧ H5 l = some (.lst zs') ∧ zs'.length < sizeLine ∧ ((∃ b, [some (V.ref x), some (.int ((k + 1 : Nat) : Int)), some (.ref F), some (.int (i : Int)), some (.ref cq)] = [some (.ref x), some (.int ((k + 1 : Nat) : Int)), some (.ref F), some (.int (i : Int)), b]) ∧ (∀ b u', b ≠ F → H3 b = some u' → (upd H5 l (.lst (zs' ++ [u]))) b = some u') ∧ ∃ xs, (upd H5 l (.lst (zs' ++ [u]))) F = some (.lst xs) ∧ TIs (upd H5 l (.lst (zs' ++ [u]))) xs ((List.range i).flatMap (partC r k) ++ ((combs (r.drop (i + 1)) k).take (j + 1)).map (r[i] :: ·))) := fun u H5 e6 tu => by
          refine ⟨F, zs, rfl, e6 _ _ hzs, by omega, ⟨_, rfl⟩, fun b u' hb hu => ?_, _, upd_same, ?_⟩
          · rw [upd_ne hb]
            exact e6 _ _ (k4 _ _ hb hu)
          · rw [List.take_succ, hc, List.map_append, ← List.append_assoc]
            refine TIs.mono ((htz.ext e6).snoc tu) fun b ws hb => ?_
            rw [upd_ne (fun z => by rw [z, e6 _ _ hzs] at hb; cases hb)]
            exact hb
        have hcz : c.length ≤ 63 := by
          have h1 : (iV c).length ≤ 63 := by
            have := hys.1
            -- its length is k
            have hlen : ∀ (k : Nat) (q : List Int), ∀ z ∈ combs q k, z.length = k := by
              intro k
              induction k with
              | zero => intro q z hz; cases q <;> (simp [combs] at hz; rw [hz]; rfl)
              | succ k ih =>
                intro q
                induction q with
                | nil => intro z hz; cases hz
                | cons a q ih2 =>
                  intro z hz
                  rcases List.mem_append.mp hz with hz | hz
                  · obtain ⟨y, hy, rfl⟩ := List.mem_map.mp hz
                    rw [List.length_cons, ih q y hy]
                  · exact ih2 z hz
            rw [iV_len, hlen k _ c (List.mem_of_getElem? hc)]
            omega
          rwa [iV_len] at h1
        refine ⟨_, rfl, t, cq, [.int r[i]], iV c, rfl, rfl, .inl (.inl upd_same), .inl (.inl (e5 _ _ hc4)), by rw [iV_len]; show 1 + c.length ≤ sizeLine; omega, fun z => by simp at z, fun _ hn => ?_, fun _ hn p hp => ?_⟩
        · obtain ⟨l, zs', g1, g2, g3, g4⟩ := fin (.ref t) _ e5 ⟨t, rfl, by rw [upd_same, iV_cons, hn]⟩
          exact ⟨l, zs', _, g1, rfl, g2, g3, g4⟩
        · obtain ⟨l, zs', g1, g2, g3, g4⟩ := fin (.ref p) _ (e5.trans (Ext.upd hp)) ⟨p, rfl, by rw [upd_same, iV_cons]⟩
          exact ⟨l, zs', _, g1, rfl, g2, g3, g4⟩
      · obtain ⟨⟨b, rfl⟩, k4, zs, hzs, htz⟩ := z
        rw [hys.1, List.take_length, ← hpart, ← flat_snoc] at htz
        refine ⟨⟨_, _, rfl⟩, fun b u hb => ?_, zs, hzs, htz⟩
        exact k4 _ _ (fun z => by rw [z, hF] at hb; cases hb) (e3 _ _ (e2 _ _ (ex _ _ hb)))
    · obtain ⟨⟨a, b, rfl⟩, ex, xs, hxs, ht⟩ := z
      rw [en2, ← combs_flat] at ht
      exact ⟨_, rfl, hq F xs H' ex hF hxs ht⟩
end
end NA
set_option maxRecDepth 100000
set_option maxHeartbeats 2000000
/-! The plain law: combinations, their order. -/
namespace NA
open PySem PySem.Spec PyProof.Rows L2
theorem mem_combs : ∀ {r c : List Int} {k : Nat}, c ∈ combs r k ↔ c.Sublist r ∧ c.length = k
  | r, c, 0 => by
    have : combs r 0 = [[]] := by cases r <;> rfl
    rw [this, List.mem_singleton]
    constructor
    · rintro rfl
      exact ⟨List.nil_sublist _, rfl⟩
    · rintro ⟨_, h⟩
      exact List.length_eq_zero_iff.mp h
  | [], c, k + 1 => by
    constructor
    · intro h; cases h
    · rintro ⟨h1, h2⟩
      rw [List.sublist_nil.mp h1] at h2
      cases h2
  | a :: r, c, k + 1 => by
    show c ∈ (combs r k).map (a :: ·) ++ combs r (k + 1) ↔ _
    rw [List.mem_append, List.mem_map, mem_combs (r := r) (k := k + 1)]
    constructor
    · rintro (⟨d, hd, rfl⟩ | ⟨h1, h2⟩)
      · obtain ⟨h1, h2⟩ := (mem_combs (r := r) (k := k)).mp hd
        exact ⟨h1.cons_cons a, by rw [List.length_cons, h2]⟩
      · exact ⟨h1.cons a, h2⟩
    · rintro ⟨h1, h2⟩
      cases h1 with
      | cons _ h => exact .inr ⟨h, h2⟩
      | cons_cons _ h =>
        rename_i d
        exact .inl ⟨d, (mem_combs (r := r) (k := k)).mpr ⟨h, by simpa using h2⟩, rfl⟩
theorem rng_pair (n : Nat) : (rng n).Pairwise (· < ·) := by
  unfold rng
  rw [List.pairwise_map]
  exact List.pairwise_lt_range.imp fun h => by omega
theorem rng_nodup (n : Nat) : (rng n).Nodup := (rng_pair n).imp fun h => by omega
theorem rng_ok {n : Nat} (hn : n ≤ 63) : Ok64 (rng n) := fun m hm => by
  have := mem_rng.mp hm
  omega
theorem rng_succ (n : Nat) : rng (n + 1) = rng n ++ [(n : Int)] := by
  unfold rng
  rw [List.range_succ, List.map_append]
  rfl
theorem Ok64.sub {r c : List Int} (h : Ok64 r) (s : c.Sublist r) : Ok64 c := fun m hm => h m (s.subset hm)
/-- the order of equally long lists -/
theorem cd_cons {a b : Int} {r q : List Int} (hl : r.length = q.length) (hr : Ok64 r) (hq : Ok64 q) : cd (a :: r) < cd (b :: q) ↔ a < b ∨ (a = b ∧ cd r < cd q) := by
  constructor
  · intro h
    rcases Int.lt_trichotomy a b with z | z | z
    · exact .inl z
    · subst z
      exact .inr ⟨rfl, (TS.code_same hl).mp h⟩
    · have := TS.code_lt (B := 64) (d := b) (e := a) hl.symm hq hr z
      exact absurd h (Int.not_lt.mpr (Int.le_of_lt this))
  · rintro (h | ⟨rfl, h⟩)
    · exact TS.code_lt hl hr hq h
    · exact (TS.code_same hl).mpr h
theorem cd_inj : ∀ {r q : List Int}, r.length = q.length → Ok64 r → Ok64 q → cd r = cd q → r = q
  | [], [], _, _, _, _ => rfl
  | a :: r, b :: q, hl, hr, hq, h => by
    have hl' : r.length = q.length := by simpa using hl
    have hr' : Ok64 r := TS.Bd.tail hr
    have hq' : Ok64 q := TS.Bd.tail hq
    have n1 : ¬ cd (a :: r) < cd (b :: q) := by rw [h]; exact Int.lt_irrefl _
    have n2 : ¬ cd (b :: q) < cd (a :: r) := by rw [h]; exact Int.lt_irrefl _
    rw [cd_cons hl' hr' hq'] at n1
    rw [cd_cons hl'.symm hq' hr'] at n2
    have eab : a = b := by
      rcases Int.lt_trichotomy a b with z | z | z
      · exact absurd (.inl z) n1
      · exact z
      · exact absurd (.inl z) n2
    subst eab
    have e2 : cd r = cd q := by
      rcases Int.lt_trichotomy (cd r) (cd q) with z | z | z
      · exact absurd (.inr ⟨rfl, z⟩) n1
      · exact z
      · exact absurd (.inr ⟨rfl, z⟩) n2
    rw [cd_inj hl' hr' hq' e2]
  | [], _ :: _, h, _, _, _ => by simp at h
  | _ :: _, [], h, _, _, _ => by simp at h
/-- sorted lists of the same tuples -/
theorem sort_uniq {d : Nat} {qs rs : List (List Int)} (h : ∀ r ∈ qs, r.length = d ∧ Ok64 r) (p : qs.Perm rs) (hq : qs.Pairwise fun a b => cd a ≤ cd b) (hr : rs.Pairwise fun a b => cd a ≤ cd b) : qs = rs :=
  List.Perm.eq_of_pairwise (fun a b ha hb h1 h2 => cd_inj ((h a ha).1.trans (h b (p.mem_iff.mpr hb)).1.symm) (h a ha).2 (h b (p.mem_iff.mpr hb)).2 (Int.le_antisymm h1 h2)) hq hr p
theorem combs_sorted : ∀ (r : List Int) (k : Nat), r.Pairwise (· < ·) → Ok64 r → (combs r k).Pairwise fun a b => cd a < cd b
  | r, 0, _, _ => by
    have : combs r 0 = [[]] := by cases r <;> rfl
    rw [this]
    exact List.pairwise_singleton ..
  | [], k + 1, _, _ => List.Pairwise.nil
  | a :: r, k + 1, h, ok => by
    have h' := List.pairwise_cons.mp h
    have ok' : Ok64 r := TS.Bd.tail ok
    show ((combs r k).map (a :: ·) ++ combs r (k + 1)).Pairwise _
    rw [List.pairwise_append]
    refine ⟨?_, combs_sorted r (k + 1) h'.2 ok', fun x hx y hy => ?_⟩
    · rw [List.pairwise_map]
      refine List.Pairwise.imp_of_mem (fun {x y} hx hy hxy => ?_) (combs_sorted r k h'.2 ok')
      obtain ⟨x1, x2⟩ := mem_combs.mp hx
      obtain ⟨y1, y2⟩ := mem_combs.mp hy
      exact (cd_cons (x2.trans y2.symm) (ok'.sub x1) (ok'.sub y1)).mpr (.inr ⟨rfl, hxy⟩)
    · obtain ⟨z, hz, rfl⟩ := List.mem_map.mp hx
      obtain ⟨z1, z2⟩ := mem_combs.mp hz
      obtain ⟨y1, y2⟩ := mem_combs.mp hy
      match y, y1, y2 with
      | b :: y, y1, y2 =>
        have hb : b ∈ r := y1.subset List.mem_cons_self
        have oy := ok'.sub y1
        exact (cd_cons (by simp at y2; omega) (ok'.sub z1) (TS.Bd.tail oy)).mpr (.inl (h'.1 b hb))
theorem combs_nodup {r : List Int} {k : Nat} (h : r.Pairwise (· < ·)) (ok : Ok64 r) : (combs r k).Nodup := (combs_sorted r k h ok).imp fun hab e => by rw [e] at hab; exact Int.lt_irrefl _ hab
theorem mem_faces {f r : List Int} : f ∈ facesI r ↔ ∃ k, k < r.length ∧ f = r.eraseIdx k := by
  unfold facesI
  rw [List.mem_map]
  constructor
  · rintro ⟨k, hk, rfl⟩
    exact ⟨k, List.mem_range.mp hk, rfl⟩
  · rintro ⟨k, hk, rfl⟩
    exact ⟨k, List.mem_range.mpr hk, rfl⟩
theorem face_comb {r c f : List Int} {k : Nat} (hc : c ∈ combs r (k + 1)) (hf : f ∈ facesI c) : f ∈ combs r k := by
  obtain ⟨h1, h2⟩ := mem_combs.mp hc
  obtain ⟨j, hj, rfl⟩ := mem_faces.mp hf
  exact mem_combs.mpr ⟨(List.eraseIdx_sublist ..).trans h1, by rw [List.length_eraseIdx_of_lt hj, h2]; rfl⟩
theorem allF_comb {r : List Int} {rs : List (List Int)} {k : Nat} (h : ∀ c ∈ rs, c ∈ combs r (k + 1)) {f : List Int} (hf : f ∈ allF rs) : f ∈ combs r k := by
  obtain ⟨c, hc, hfc⟩ := List.mem_flatMap.mp hf
  exact face_comb (h c hc) hfc
theorem combs_one_le (r : List Int) : (combs r 0).length ≤ 1 := by
  have : combs r 0 = [[]] := by cases r <;> rfl
  rw [this]
  exact Nat.le_refl _
theorem fewF_comb {n k : Nat} (hn : n ≤ 7) {rs : List (List Int)} (h : ∀ c ∈ rs, c ∈ combs (rng n) (k + 1)) : FewF (allF rs) := by
  refine ⟨combs (rng n) k, k, by have := combs_len (rng n) k (by rw [rng_len]; exact hn); omega, ?_, fun f hf => ?_⟩
  · cases k with
    | zero => exact .inr (combs_one_le _)
    | succ k => exact .inl (by omega)
  · have hc := allF_comb h hf
    obtain ⟨h1, h2⟩ := mem_combs.mp hc
    exact ⟨hc, h2, (rng_ok (by omega)).sub h1⟩
end NA
set_option maxRecDepth 100000
set_option maxHeartbeats 4000000
/-! _law_some_rooms, _law_even_rooms. -/
namespace NA
open PySem PySem.Spec PyProof.Rows L2
theorem fn_ex {P : Program} {w : World} {K : PySem.W.Frag} {mg : Str → Option Value} {base : Heap} {CX : CXT} {L n : Nat} {f : Addr} {fd : FuncData} {ps : List Str} {sp : Nat → Sp} (h : ∀ k, k ≤ n → FnOk P w K mg base CX L f fd ps (sp k)) : FnOk P w K mg base CX L f fd ps fun vs H Q E => ∃ k, k ≤ n ∧ sp k vs H Q E :=
  ⟨fun vs H Q E ⟨k, hk, x⟩ => (h k hk).len vs H Q E x, fun A outer s H args us vs Q E hr e hb r ⟨k, hk, x⟩ => (h k hk).run A outer s H args us vs Q E hr e hb r x⟩
theorem rgV_rng (n : Nat) : rgV 0 (n : Int) = iV (rng n) := by
  unfold rgV iV rng
  rw [List.map_map]
  have : ((n : Int) - 0).toNat = n := by omega
  rw [this]
  refine List.map_congr_left fun i _ => ?_
  show V.int (0 + (i : Int)) = V.int (i : Int)
  rw [Int.zero_add]
section
variable {P : Program} {w : World} {K : PySem.W.Frag} {mg : Str → Option Value} {base : Heap}
def spLRoomsA : Sp := fun vs H Q E => ∃ k, k ≤ 8 ∧ spLRooms k vs H Q E
theorem ok_lroomsA (T : Fx K mg) : FnOk P w K mg base CX0 9 (He.ga K "_law_rooms") T.fd_law_rooms ["_law_items", "_law_size"] spLRoomsA := fn_ex fun k hk => (ok_lrooms T k).mono (by omega)
def nSome : List Str := ["_law_n", "_law_size", "_law_cell_here", "_law_chosen", "_law_room"]
def pSome : List Str := ["_law_n", "_law_size", "_law_cell_here"]
theorem scSome : FnScope nSome pSome (defScope sSomeRooms) := ⟨rfl, rfl, rfl, by decide +kernel, rfl, by decide +kernel, by decide +kernel⟩
def spSome : Sp := fun vs H Q _ => ∃ (n k : Nat) (c : Int), vs = [.int (n : Int), .int (k : Int), .int c] ∧ n ≤ 7 ∧ k ≤ 8 ∧ ∀ p xs rs H', Ext H H' → H p = none → H' p = some (.lst xs) → TIs H' xs rs → rs.Sublist (combs (rng n) k) → Q (.ref p) H'
theorem sub_snoc {α : Type} {s l : List α} {i : Nat} {a : α} (h : s.Sublist (l.take i)) (e : l[i]? = some a) : s.Sublist (l.take (i + 1)) ∧ (s ++ [a]).Sublist (l.take (i + 1)) := by
  rw [List.take_succ, e]
  exact ⟨h.trans (List.sublist_append_left ..), h.append (List.Sublist.refl _)⟩
theorem ok_some (T : Fx K mg) : FnOk P w K mg base CX0 10 (He.ga K "_law_some_rooms") T.fd_law_some_rooms pSome spSome := by
  have bR : Binds K T.fd_law_rooms ["_law_items", "_law_size"] [] := T.F_law_rooms.bindsN fun _ _ _ _ _ _ us hl => match us, hl with | [_, _], _ => rfl
  refine T.F_law_some_rooms.ok scSome (fun vs H Q E h => ?_) (fun cdv A outer s H vs Q E hr h => ⟨_, PSs.nox (pss_cons (ps_set (i := 3) scSome.nd rfl (Or.inl rfl) (pe_lst pa_nil))
    (pss_cons (ps_for PassesOwn.never rfl (pi_list (pe_call (ok_lroomsA T) hr rfl T.g_law_rooms T.F_law_rooms.kp bR .nil pass0 (pa_cons (pe_tupRg rfl rfl T.n_tuple (prg_1 rfl T.n_range (pv 0))) (pa_cons (pv 1) pa_nil)))) (pg_name (i := 4) scSome.nd rfl (Or.inl rfl))
      (pss_cons (ps_if (pt_cmpR op_eq (pe_op op_mod (pe_callTy call_int1 (by rfl) T.n_int (by decide +kernel) (pa_cons (pv 2) pa_nil)) pe_int) pe_int (nomark _)) (pss_one (ps_expr (pe_bm PySem.F.plainAttrs_list PySem.F.slot_list_append PySem.F.type_list_append mt_append (pv 3) (pa_cons (pv 4) pa_nil)))) pss_nil)
      (pss_one (ps_set (i := 2) scSome.nd rfl (Or.inl rfl) (pe_op op_fdiv (pv 2) pe_int)))))
    (pss_one (ps_ret (pv 3))))), ?_⟩)
  · obtain ⟨_, _, _, rfl, _⟩ := h
    rfl
  obtain ⟨n, k, c, rfl, hn, hk8, hq⟩ := h
  have sz : sizeLine = 16777216 := sizeLine_eq
  refine ⟨by show 0 ≤ sizeLine; omega, fun F hF => ?_⟩
  have e0 : Ext H (upd H F (.lst [])) := Ext.upd hF
  refine ⟨_, rfl, _, rfl, RgOk.of_le (by omega) (by omega) (by omega) (by omega), fun q hq1 => ?_⟩
  rw [rgV_rng]
  have e1 := e0.trans (Ext.upd (u := .tup (iV (rng n))) hq1)
  refine ⟨_, rfl, k, hk8, .ref q, rng n, rfl, ⟨q, rfl, upd_same⟩, by rw [rng_len]; exact hn, by omega, fun L ys H3 e3 hL hLl hys => ?_⟩
  refine ⟨L, rfl, ⟨_, .inl (.inl hLl)⟩, ?_⟩
  have hF1 : upd (upd H F (.lst [])) q (.tup (iV (rng n))) F = some (.lst []) := (Ext.upd hq1) _ _ upd_same
  have hF3 := e3 _ _ hF1
  have hLF : L ≠ F := fun z => by rw [z, hF1] at hL; cases hL
  refine for_list (xs := ys) (fun i σ H' => (∃ c b, σ = [some (.int (n : Int)), some (.int (k : Int)), some (.int c), some (.ref F), b]) ∧ (∀ b u, b ≠ F → H3 b = some u → H' b = some u) ∧ ∃ xs rs, H' F = some (.lst xs) ∧ TIs H' xs rs ∧ rs.Sublist ((combs (rng n) k).take i)) ⟨⟨c, none, rfl⟩, fun _ _ _ h => h, [], [], hF3, TIs.nil, List.Sublist.refl _⟩ (fun i σ H' _ z => .inl (.inl (z.2.1 _ _ hLF hLl))) (fun i v σ H' hv z => ?_) fun σ H' z => ?_
  · obtain ⟨⟨c, b, rfl⟩, k4, xs, rs, hxs, ht, hs⟩ := z
    obtain ⟨r, hr, rm, rfl, hrm⟩ := hys.at hv
    have hrF : rm ≠ F := fun z => by rw [z, hF3] at hrm; cases hrm
    obtain ⟨s1, s2⟩ := sub_snoc hs hr
    refine ⟨_, rfl, .inl ⟨c, rfl, _, _, rfl, rfl, by show (0 : Int) < 2; decide, rfl, _, rfl, ?_⟩⟩
    refine ite2 (fun _ => ?_) fun _ => ?_
    · have hl : xs.length < sizeLine := by
        rw [ht.1]
        have := hs.length_le
        have h2 := combs_len (rng n) k (by rw [rng_len]; exact hn)
        rw [List.length_take] at this
        omega
      refine ⟨_, rfl, .inl ⟨rfl, _, .inl (.inl hxs)⟩, _, rfl, F, xs, _, rfl, rfl, hxs, hl, ?_⟩
      refine ⟨_, rfl, c, 2, rfl, rfl, ⟨by decide, by decide⟩, ?_⟩
      refine ⟨⟨_, _, rfl⟩, fun b u hb hu => ?_, _, rs ++ [r], upd_same, ?_, s2⟩
      · rw [upd_ne hb]; exact k4 b u hb hu
      · refine TIs.mono (ht.snoc ⟨rm, rfl, k4 _ _ hrF hrm⟩) fun b ws hb => ?_
        rw [upd_ne (fun z => by rw [z, hxs] at hb; cases hb)]
        exact hb
    · refine ⟨_, rfl, c, 2, rfl, rfl, ⟨by decide, by decide⟩, ?_⟩
      exact ⟨⟨_, _, rfl⟩, k4, xs, rs, hxs, ht, s1⟩
  · obtain ⟨⟨c, b, rfl⟩, k4, xs, rs, hxs, ht, hs⟩ := z
    rw [hys.1, List.take_length] at hs
    exact ⟨_, rfl, hq F xs rs H' (fun b u hb => k4 b u (fun z => by rw [z, hF] at hb; cases hb) (e3 _ _ (e1 _ _ hb))) hF hxs ht hs⟩
end
end NA
set_option maxRecDepth 100000
set_option maxHeartbeats 4000000
/-! _law_even_rooms. -/
namespace NA
open PySem PySem.Spec PyProof.Rows L2
structure Par (kvs : List (List Key × V)) (fs l : List (List Int)) : Prop where
  dk : DK kvs fs
  mem : ∀ f, f ∈ fs ↔ f ∈ l
  val : ∀ f, f ∈ l → valV kvs (kI f) = some (.int ((l.count f % 2 : Nat) : Int))
theorem Par.nil : Par [] [] [] := ⟨.nil, fun _ => Iff.rfl, fun f h => by cases h⟩
theorem Par.getD {kvs : List (List Key × V)} {fs l : List (List Int)} (h : Par kvs fs l) (f : List Int) : (valV kvs (kI f)).getD (.int 0) = .int ((l.count f % 2 : Nat) : Int) := by
  by_cases e : f ∈ l
  · rw [h.val f e]; rfl
  · have : valV kvs (kI f) = none := by
      cases q : valV kvs (kI f) with
      | none => rfl
      | some v => exact absurd ((h.mem f).mp ((h.dk.val f).mp (by rw [q]; rfl))) e
    rw [this, List.count_eq_zero_of_not_mem e]
    rfl
theorem Par.put {kvs : List (List Key × V)} {fs l : List (List Int)} (h : Par kvs fs l) (f : List Int) : Par (putK kvs (kI f) (.int (1 - ((l.count f % 2 : Nat) : Int)))) (if f ∈ fs then fs else fs ++ [f]) (l ++ [f]) := by
  refine ⟨h.dk.put f _, fun g => ?_, fun g hg => ?_⟩
  · rw [mem_put, h.mem g, List.mem_append, List.mem_singleton]
  · rw [valV_put]
    by_cases e : g = f
    · subst e
      rw [if_pos rfl, List.count_append]
      have : List.count g [g] = 1 := by simp
      rw [this]
      congr 2
      omega
    · rw [if_neg (fun z => e (kI_inj z)), List.count_append]
      have hgl : g ∈ l := by
        rcases List.mem_append.mp hg with z | z
        · exact z
        · exact absurd (List.mem_singleton.mp z) e
      have : List.count g [f] = 0 := List.count_eq_zero_of_not_mem (by simpa using e)
      rw [h.val g hgl, this, Nat.add_zero]
theorem Par.len {kvs : List (List Key × V)} {fs l : List (List Int)} (h : Par kvs fs l) : kvs.length ≤ l.length := by
  rw [h.dk.len]
  exact nodup_lenT h.dk.2 fun x hx => (h.mem x).mp hx
theorem comb_whole {n k : Nat} {c : List Int} (hn : 1 ≤ n) (h : c ∈ combs (rng (n - 1)) k) : c ++ [((n - 1 : Nat) : Int)] ∈ combs (rng n) (k + 1) := by
  obtain ⟨h1, h2⟩ := mem_combs.mp h
  refine mem_combs.mpr ⟨?_, by rw [List.length_append, h2]; rfl⟩
  have e : n = (n - 1) + 1 := by omega
  rw [e, rng_succ]
  exact h1.append (List.Sublist.refl _)
def wholes (n : Nat) (ws : List (List Int)) : List (List Int) := ws.map (· ++ [((n - 1 : Nat) : Int)])
section
variable {P : Program} {w : World} {K : PySem.W.Frag} {mg : Str → Option Value} {base : Heap}
def nEven : List Str := ["_law_n", "_law_size", "_law_cell_here", "_law_known", "_law_room", "_law_whole", "_law_k", "_law_face"]
theorem scEven : FnScope nEven pSome (defScope sEvenRooms) := ⟨rfl, rfl, rfl, by decide +kernel, rfl, by decide +kernel, by decide +kernel⟩
def spEven : Sp := fun vs H Q _ => ∃ (n k : Nat) (c : Int), vs = [.int (n : Int), .int (k : Int), .int c] ∧ 1 ≤ n ∧ n ≤ 7 ∧ k ≤ 7 ∧
  ∀ p ys qs ws H', Ext H H' → H p = none → H' p = some (.lst ys) → TIs H' ys qs → ws.Sublist (combs (rng (n - 1)) k) → qs.Nodup → (∀ f, f ∈ qs ↔ f ∈ allF (wholes n ws) ∧ (allF (wholes n ws)).count f % 2 = 1) → qs.Pairwise (fun a b => cd a ≤ cd b) → Q (.ref p) H'
theorem ok_even (T : Fx K mg) : FnOk P w K mg base CX0 10 (He.ga K "_law_even_rooms") T.fd_law_even_rooms pSome spEven := by
  have bR : Binds K T.fd_law_rooms ["_law_items", "_law_size"] [] := T.F_law_rooms.bindsN fun _ _ _ _ _ _ us hl => match us, hl with | [_, _], _ => rfl
  refine T.F_law_even_rooms.ok scEven (fun vs H Q E h => ?_) (fun cdv A outer s H vs Q E hr h => ⟨_, PSs.nox (pss_cons (ps_set (i := 3) scEven.nd rfl (Or.inr rfl) pe_dnewT)
    (pss_cons (ps_for PassesOwn.never rfl (pi_list (pe_call (ok_lroomsA T) hr rfl T.g_law_rooms T.F_law_rooms.kp bR .nil pass0 (pa_cons (pe_tupRg rfl rfl T.n_tuple (prg_1 rfl T.n_range (pe_op op_sub (pv 0) pe_int))) (pa_cons (pv 1) pa_nil)))) (pg_name (i := 4) scEven.nd rfl (Or.inl rfl))
      (pss_cons (ps_if (pt_cmpR op_eq (pe_op op_mod (pe_callTy call_int1 (by rfl) T.n_int (by decide +kernel) (pa_cons (pv 2) pa_nil)) pe_int) pe_int (nomark _))
        (pss_cons (ps_set (i := 5) scEven.nd rfl (Or.inl rfl) (pe_op op_catA (pv 4) (pe_tup (pa_cons (pe_op op_sub (pv 0) pe_int) pa_nil))))
        (pss_one (ps_for PassesOwn.never rfl (pi_range1 rfl T.n_range (pa_cons (pe_op op_add (pv 1) pe_int) pa_nil)) (pg_name (i := 6) scEven.nd rfl (Or.inl rfl))
          (pss_cons (ps_set (i := 7) scEven.nd rfl (Or.inl rfl) (pe_op op_catA (pe_slice sl_tupA (pv 5) po_none (po_some (pv 6))) (pe_slice sl_tupA (pv 5) (po_some (pe_op op_add (pv 6) pe_int)) po_none)))
          (pss_one (ps_dput (hu_of hr) (pv 3) (pv 7) (pe_op op_sub pe_int (pe_dget2 (hu_of hr) (pv 3) (pv 7) pe_int ⟨rfl, rfl, rfl, rfl⟩)) rfl)))))) pss_nil)
      (pss_one (ps_set (i := 2) scEven.nd rfl (Or.inl rfl) (pe_op op_fdiv (pv 2) pe_int)))))
    (pss_one (ps_ret (pe_callB cr_sortTL (by rfl) T.n_sorted (by decide +kernel) (pa_cons (pe_lock (pe_lc (own := [("_law_room", 4)]) (g := gName 4) (wi := iKeys (tVar 3)) (tt := tTest (tOp rEq (tDGet (tVar 3) (tVar 4)) (tC (.int 1)))) (te := tVar 4) rfl scEven.nd (pi_keys (pv 3)) (blkOk_by (N := nEven) (sc := defScope sEvenRooms) (by decide +kernel)) (fun _ _ _ _ _ => pg_name (i := 4) scEven.nd rfl (Or.inl rfl))
      (fun _ _ _ _ _ => pts_one (pt_cmpR op_eq (pe_dget (hu_of hr) (pv 3) (pv 4) (fun _ _ => rfl)) pe_int (nomark _))) (fun _ _ _ _ _ => pv 4))) pa_nil)))))), ?_⟩)
  · obtain ⟨_, _, _, rfl, _⟩ := h
    rfl
  obtain ⟨n, k, c, rfl, hn1, hn, hk7, hq⟩ := h
  have sz : sizeLine = 16777216 := sizeLine_eq
  intro d hd
  have e0 : Ext H (upd H d (.dT [])) := Ext.upd hd
  have en1 : ((n : Int) - 1) = ((n - 1 : Nat) : Int) := by omega
  refine ⟨_, rfl, _, _, rfl, rfl, _, rfl, RgOk.of_le (by omega) (by omega) (by omega) (by omega), fun q hq1 => ?_⟩
  rw [en1, rgV_rng]
  have e1 := e0.trans (Ext.upd (u := .tup (iV (rng (n - 1)))) hq1)
  refine ⟨_, rfl, k, by omega, .ref q, rng (n - 1), rfl, ⟨q, rfl, upd_same⟩, by rw [rng_len]; omega, by omega, fun L ys H3 e3 hL hLl hys => ?_⟩
  refine ⟨L, rfl, ⟨_, .inl (.inl hLl)⟩, ?_⟩
  have hd1 : upd (upd H d (.dT [])) q (.tup (iV (rng (n - 1)))) d = some (.dT []) := (Ext.upd hq1) _ _ upd_same
  have hd3 := e3 _ _ hd1
  have hLd : L ≠ d := fun z => by rw [z, hd1] at hL; cases hL
  refine for_list (xs := ys) (fun i σ H' => (∃ c b b1 b2 b3, σ = [some (.int (n : Int)), some (.int (k : Int)), some (.int c), some (.ref d), b, b1, b2, b3]) ∧ (∀ b u, b ≠ d → H3 b = some u → H' b = some u) ∧ ∃ kvs fs ws, H' d = some (.dT kvs) ∧ ws.Sublist ((combs (rng (n - 1)) k).take i) ∧ Par kvs fs (allF (wholes n ws))) ⟨⟨c, none, none, none, none, rfl⟩, fun _ _ _ h => h, [], [], [], hd3, List.Sublist.refl _, Par.nil⟩ (fun i σ H' _ z => .inl (.inl (z.2.1 _ _ hLd hLl))) (fun i v σ H' hv z => ?_) fun σ H' z => ?_
  · obtain ⟨⟨c, b, b1, b2, b3, rfl⟩, k4, kvs, fs, ws, hk4, hs, hP⟩ := z
    obtain ⟨r, hr, rm, rfl, hrm⟩ := hys.at hv
    have hrd : rm ≠ d := fun z => by rw [z, hd3] at hrm; cases hrm
    have hrm' := k4 _ _ hrd hrm
    obtain ⟨s1, s2⟩ := sub_snoc hs hr
    obtain ⟨c1, c2⟩ := mem_combs.mp (List.mem_of_getElem? hr)
    refine ⟨_, rfl, .inl ⟨c, rfl, _, _, rfl, rfl, by show (0 : Int) < 2; decide, rfl, _, rfl, ?_⟩⟩
    refine ite2 (fun _ => ?_) fun _ => ?_
    · -- whole
      have hwh : ∀ (Q' : VK), (∀ wv H5, Ext H' H5 → H5 wv = some (.tup (iV (r ++ [((n - 1 : Nat) : Int)]))) → Q' (.ref wv) H5) → tOp (rCatA K) (tVar 4) (tTup (tCons (tOp (rI0 fun i j => .int (i - j)) (tVar 0) (tC (.int 1))) tNil)) [some (V.int (n : Int)), some (.int (k : Int)), some (.int c), some (.ref d), some (.ref rm), b1, b2, b3] H' Q' := fun Q' hQ' => by
        refine ⟨_, rfl, _, rfl, _, _, rfl, rfl, by show 1 ≤ sizeLine; omega, fun t ht => ?_⟩
        show rCatA K (.ref rm) (.ref t) (upd H' t (.tup [.int ((n : Int) - 1)])) Q'
        rw [en1]
        have e5 : Ext H' (upd H' t (.tup [.int ((n - 1 : Nat) : Int)])) := Ext.upd ht
        refine ⟨rm, t, iV r, _, rfl, rfl, .inl (.inl (e5 _ _ hrm')), .inl (.inl upd_same), by rw [iV_len, c2]; show k + 1 ≤ sizeLine; omega, fun z => ?_, ⟨fun _ z => absurd z (by simp), fun _ _ p hp => ?_⟩⟩
        · refine hQ' t _ e5 ?_
          rw [upd_same, iV_nil.mp z]
          rfl
        · refine hQ' p _ (e5.trans (Ext.upd hp)) ?_
          rw [upd_same, ← iV_append]; first | done | rfl
      refine hwh _ fun wv H5 e5 hwv => ?_
      have hk5 := e5 _ _ hk4
      have hwl : (r ++ [((n - 1 : Nat) : Int)]).length = k + 1 := by rw [List.length_append, c2]; rfl
      refine ⟨_, rfl, _, _, rfl, rfl, _, rfl, by omega, by omega, ?_⟩
      have enk : ((k : Int) + 1).toNat = k + 1 := by omega
      refine for_range (lo := 0) (n := ((k : Int) + 1).toNat) (fun j σ H6 => (∃ b2 b3, σ = [some (.int (n : Int)), some (.int (k : Int)), some (.int c), some (.ref d), some (.ref rm), some (.ref wv), b2, b3]) ∧ (∀ b u, b ≠ d → H5 b = some u → H6 b = some u) ∧ ∃ kvs fs, H6 d = some (.dT kvs) ∧ Par kvs fs (allF (wholes n ws) ++ (facesI (r ++ [((n - 1 : Nat) : Int)])).take j)) ⟨⟨b2, b3, rfl⟩, fun _ _ _ h => h, kvs, fs, hk5, by rw [List.take_zero, List.append_nil]; exact hP⟩ (fun j σ H6 hj z => ?_) fun σ H6 z => ?_
      · obtain ⟨⟨b2, b3, rfl⟩, k6, kvs, fs, hk6, hP6⟩ := z
        rw [enk] at hj
        rw [show (0 : Int) + (j : Int) = (j : Int) from Int.zero_add _]
        have hwd : wv ≠ d := fun z => by rw [z, hk5] at hwv; cases hwv
        refine face_read (K := K) (a := 5) (b := 6) (σ := [some (.int (n : Int)), some (.int (k : Int)), some (.int c), some (.ref d), some (.ref rm), some (.ref wv), some (.int (j : Int)), b3]) (k := j) rfl rfl (k6 _ _ hwd hwv) (by omega) (by omega) fun v H7 e7 tv => ?_
        obtain ⟨q2, rfl, hq2⟩ := tv
        have hf : (facesI (r ++ [((n - 1 : Nat) : Int)]))[j]? = some ((r ++ [((n - 1 : Nat) : Int)]).eraseIdx j) := by
          unfold facesI
          rw [List.getElem?_map, List.getElem?_range (by omega)]; rfl
        have hk7' := e7 _ _ hk6
        have hdg := hP6.getD ((r ++ [((n - 1 : Nat) : Int)]).eraseIdx j)
        refine ⟨_, rfl, d, rfl, .inr ⟨kvs, .inl hk7'⟩, _, rfl, _, DGet.t hk7' (k := kI ((r ++ [((n - 1 : Nat) : Int)]).eraseIdx j)) (by rw [kI_kV]; exact hq2), ?_⟩
        rw [hdg]
        refine ⟨_, _, rfl, rfl, ?_⟩
        have hlen : kvs.length < sizeLine := by
          have h1 := hP6.len
          rw [List.length_append, List.length_take, facesI_len, hwl] at h1
          have h2 := allF_len (rs := wholes n ws) fun q hq => by
            obtain ⟨y, hy, rfl⟩ := List.mem_map.mp hq
            have := (mem_combs.mp (List.mem_of_mem_take (hs.subset hy))).2
            rw [List.length_append, this]
            show k + 1 ≤ 63
            omega
          have h3 : (wholes n ws).length ≤ 35 := by
            unfold wholes
            rw [List.length_map]
            have h4 := hs.length_le
            rw [List.length_take] at h4
            have := combs_len (rng (n - 1)) k (by rw [rng_len]; omega)
            omega
          have h4 : (wholes n ws).length * 63 ≤ 35 * 63 := Nat.mul_le_mul_right 63 h3
          omega
        refine ⟨_, rfl, _, rfl, d, _, rfl, DPut.t hk7' (k := kI ((r ++ [((n - 1 : Nat) : Int)]).eraseIdx j)) (by rw [kI_kV]; exact hq2) hlen, ?_⟩
        refine ⟨⟨_, _, rfl⟩, fun b u hb hu => ?_, _, (if (r ++ [((n - 1 : Nat) : Int)]).eraseIdx j ∈ fs then fs else fs ++ [(r ++ [((n - 1 : Nat) : Int)]).eraseIdx j]), upd_same, ?_⟩
        · rw [upd_ne hb]; exact e7 _ _ (k6 b u hb hu)
        · rw [List.take_succ, hf, ← List.append_assoc]
          exact hP6.put _
      · obtain ⟨⟨b2, b3, rfl⟩, k6, kvs, fs, hk6, hP6⟩ := z
        have : (facesI (r ++ [((n - 1 : Nat) : Int)])).take ((k : Int) + 1).toNat = facesI (r ++ [((n - 1 : Nat) : Int)]) := List.take_of_length_le (by rw [facesI_len, hwl]; omega)
        rw [this] at hP6
        refine ⟨_, rfl, c, 2, rfl, rfl, ⟨by decide, by decide⟩, ?_⟩
        refine ⟨⟨_, _, _, _, _, rfl⟩, fun b u hb hu => k6 b u hb (e5 _ _ (k4 b u hb hu)), kvs, fs, ws ++ [r], hk6, s2, ?_⟩
        have : allF (wholes n (ws ++ [r])) = allF (wholes n ws) ++ facesI (r ++ [((n - 1 : Nat) : Int)]) := by
          unfold wholes allF
          rw [List.map_append, List.flatMap_append]
          simp
        rw [this]
        exact hP6
    · refine ⟨_, rfl, c, 2, rfl, rfl, ⟨by decide, by decide⟩, ?_⟩
      exact ⟨⟨_, _, _, _, _, rfl⟩, k4, kvs, fs, ws, hk4, s1, hP⟩
  · obtain ⟨⟨c, b, b1, b2, b3, rfl⟩, k4, kvs, fs, ws, hk4, hs, hP⟩ := z
    rw [hys.1, List.take_length] at hs
    obtain ⟨cs, dd, hcs, hd1', hcf⟩ := fewF_comb (n := n) (k := k) hn (rs := wholes n ws) fun c hc => by
      obtain ⟨y, hy, rfl⟩ := List.mem_map.mp hc
      exact comb_whole hn1 (hs.subset hy)
    have hfl : fs.length ≤ cs.length := nodup_lenT hP.dk.2 fun f hf => (hcf f ((hP.mem f).mp hf)).1
    have eH : Ext H H' := fun b u hb => k4 b u (fun z => by rw [z, hd] at hb; cases hb) (e3 _ _ (e1 _ _ hb))
    refine keysF_read (c := 3) (v := 4) (σ := [some (.int (n : Int)), some (.int (k : Int)), some (.int c), some (.ref d), b, b1, b2, b3]) (H := H') (kvs := kvs) (fs := fs) (pr := oddP (allF (wholes n ws))) rfl (by decide) (by show 4 < 8; decide) hk4 hP.dk (by omega) (fun H9 f y q od R h9 hv hf hq9 ex hR => ?_) fun D ys9 hD hys9 => ?_
    · have v1 := hP.val f ((hP.mem f).mp hf)
      rw [v1] at hv
      cases hv
      refine ⟨_, rfl, _, rfl, d, _, rfl, .inr ⟨kvs, kI f, q, .inr ⟨od, h9⟩, rfl, by rw [kI_kV]; exact hq9, v1.symm⟩, rfl, _, rfl, ?_⟩
      have : decide (V.int (((allF (wholes n ws)).count f % 2 : Nat) : Int) = V.int 1) = oddP (allF (wholes n ws)) f := by
        unfold oddP
        by_cases e : (allF (wholes n ws)).count f % 2 = 1
        · rw [decide_eq_true e]
          exact ival (by omega)
        · rw [decide_eq_false e]
          exact ival_ne (by omega)
      rw [this]
      exact hR
    · have eD : Ext H' (upd H' D (.lst ys9)) := Ext.upd hD
      refine ⟨D, ys9, fs.filter (oddP (allF (wholes n ws))), dd, rfl, .inl (.inl upd_same), hys9.ext eD, ?_, ?_, fun r hr => (hcf r ((hP.mem r).mp (List.mem_filter.mp hr).1)).2, fun zs qs p tq pq pw hp => ?_⟩
      · have := List.length_filter_le (oddP (allF (wholes n ws))) fs
        omega
      · have := List.length_filter_le (oddP (allF (wholes n ws))) fs
        omega
      · have hpH : H p = none := by
          cases z : H p with
          | none => rfl
          | some u => rw [eD _ _ (eH _ _ z)] at hp; cases hp
        refine hq p zs qs ws _ ((eH.trans eD).trans (Ext.upd hp)) hpH upd_same (tq.ext (Ext.upd hp)) hs (pq.nodup_iff.mpr (hP.dk.2.filter _)) (fun f => ?_) pw
        rw [pq.mem_iff, List.mem_filter, hP.mem f]
        unfold oddP
        rw [decide_eq_true_iff]
end
end NA
set_option maxRecDepth 100000
set_option maxHeartbeats 4000000
/-! _law_cell, _law_order. -/
namespace NA
open PySem PySem.Spec PyProof.Rows L2
section
variable {P : Program} {w : World} {K : PySem.W.Frag} {mg : Str → Option Value} {base : Heap}
def nCell : List Str := ["_law_script", "_law_k", "_law_cell_here"]
theorem scCell : FnScope nCell ["_law_script", "_law_k"] (defScope sCell) := ⟨rfl, rfl, rfl, by decide +kernel, rfl, by decide +kernel, by decide +kernel⟩
def spCell (K : PySem.W.Frag) : Sp := fun vs H Q _ => ∃ (a : Addr) (ns : List Int) (k : Nat), vs = [.ref a, .int (k : Int)] ∧ SqL K H a (iV ns) ∧ ns.length ≤ 63 ∧ k ≤ 100 ∧ ∀ i : Int, Q (.int i) H
theorem atI_iV {ns : List Int} {i : Int} (h0 : 0 ≤ i) (h1 : i < ns.length) : ∃ n, atI (iV ns) i = some (.int n) := by
  obtain ⟨m, rfl⟩ := Int.eq_ofNat_of_zero_le h0
  have hl : m < ns.length := by omega
  exact ⟨ns[m], atI_nat (iV_at (List.getElem?_eq_getElem hl))⟩
theorem ok_cell (T : Fx K mg) : FnOk P w K mg base CX0 1 (He.ga K "_law_cell") T.fd_law_cell ["_law_script", "_law_k"] (spCell K) := by
  refine T.F_law_cell.ok scCell (fun vs H Q E h => ?_) (fun cdv A outer s H vs Q E hr h => ⟨_, PSs.nox (pss_cons (ps_set (i := 2) scCell.nd rfl (Or.inl rfl) (pe_op op_add (pe_op op_mul pe_int (pv 1)) pe_int))
    (pss_cons (ps_if (pt_cmpR op_lt (pv 1) (pe_callB call_len_seq (by rfl) T.n_len PySem.boot_len (pa_cons (pv 0) pa_nil)) (nomark _))
      (pss_cons (ps_set (i := 2) scCell.nd rfl (Or.inl rfl) (pe_callB call_abs (by rfl) T.n_abs (by decide +kernel) (pa_cons (pe_ix ix_list (pv 0) (pv 1) (fun _ _ => rfl)) pa_nil)))
        (pss_one (ps_if (pt_cmpR op_ge (pv 2) (pe_op op_pow pe_int pe_int) (nomark _)) (pss_one (ps_ret (pe_op op_sub (pv 2) (pe_op op_pow pe_int pe_int)))) pss_nil)))
      (pss_one (ps_if (pt_cmpR op_gt (pe_callB call_len_seq (by rfl) T.n_len PySem.boot_len (pa_cons (pv 0) pa_nil)) pe_int (nomark _))
        (pss_one (ps_set (i := 2) scCell.nd rfl (Or.inl rfl) (pe_op op_add (pe_callB call_abs (by rfl) T.n_abs (by decide +kernel) (pa_cons (pe_ix ix_list (pv 0) (pe_op op_mod (pe_callTy call_int1 (by rfl) T.n_int (by decide +kernel) (pa_cons (pv 1) pa_nil)) (pe_callB call_len_seq (by rfl) T.n_len PySem.boot_len (pa_cons (pv 0) pa_nil))) (fun _ _ => rfl)) pa_nil)) (pe_op op_mul pe_int (pv 1))))) pss_nil)))
    (pss_cons (ps_set (i := 2) scCell.nd rfl (Or.inl rfl) (pe_op op_mod (pe_callTy call_int1 (by rfl) T.n_int (by decide +kernel) (pa_cons (pe_op op_add (pe_op op_add (pe_op op_mul (pv 2) pe_int) (pe_op op_mul pe_int (pv 1))) pe_int) pa_nil)) pe_int))
    (pss_one (ps_ret (pe_op op_fdiv (pe_op op_mod (pe_callTy call_int1 (by rfl) T.n_int (by decide +kernel) (pa_cons (pe_op op_mul (pe_op op_add (pe_op op_add (pe_op op_mul (pv 2) (pv 2)) (pe_op op_mul pe_int (pv 2))) (pv 1)) pe_int) pa_nil)) pe_int) pe_int)))))), ?_⟩)
  · obtain ⟨_, _, _, rfl, _⟩ := h
    rfl
  obtain ⟨a, ns, k, rfl, hs, hn, hk, hq⟩ := h
  -- the tail
  have tail : ∀ (c : Int) (Z : Ends), (∀ i : Int, Z.rt (.int i) H) → (tSeq (tAsg (tOp (rI (fun _ j => 0 < j) fun i j => .int (i % j)) (tCB rInt1 (tCons (tOp (rI0 fun i j => .int (i + j)) (tOp (rI0 fun i j => .int (i + j)) (tOp (rI CMul fun i j => .int (i * j)) (tVar 2) (tC (.int 48271))) (tOp (rI CMul fun i j => .int (i * j)) (tC (.int 11)) (tVar 1))) (tC (.int 7))) tNil)) (tC (.int 2147483647))) (gName 2))
      (tRet (tOp (rI CDiv fun i j => .int (i / j)) (tOp (rI (fun _ j => 0 < j) fun i j => .int (i % j)) (tCB rInt1 (tCons (tOp (rI CMul fun i j => .int (i * j)) (tOp (rI0 fun i j => .int (i + j)) (tOp (rI0 fun i j => .int (i + j)) (tOp (rI CMul fun i j => .int (i * j)) (tVar 2) (tVar 2)) (tOp (rI CMul fun i j => .int (i * j)) (tC (.int 69621)) (tVar 2))) (tVar 1)) (tC (.int 1000000000039))) tNil)) (tC (.int 2305843009213693951))) (tC (.int 2))))) Z [some (.ref a), some (.int (k : Int)), some (.int c)] H := fun c Z hZ => by
    refine ⟨_, rfl, _, _, rfl, rfl, .inr ⟨by decide, by decide⟩, ?_⟩
    refine ⟨_, rfl, _, _, rfl, rfl, .inl ⟨by decide, by decide⟩, ?_⟩
    refine ⟨_, _, rfl, rfl, _, _, rfl, rfl, .inl ⟨_, rfl, ?_⟩⟩
    refine ⟨_, _, rfl, rfl, by show (0 : Int) < 2147483647; decide, ?_⟩
    generalize he : (c * 48271 + 11 * (k : Int) + 7) % 2147483647 = e
    have h1 : 0 ≤ e := by rw [← he]; exact Int.emod_nonneg _ (by decide)
    have h2 : e < 2147483647 := by rw [← he]; exact Int.emod_lt_of_pos _ (by decide)
    refine ⟨_, rfl, _, rfl, _, _, rfl, rfl, .inl ⟨by omega, by omega⟩, ?_⟩
    refine ⟨_, rfl, _, _, rfl, rfl, .inl ⟨by decide, by decide⟩, ?_⟩
    refine ⟨_, _, rfl, rfl, _, rfl, _, _, rfl, rfl, _, _, rfl, rfl, .inr ⟨by decide, by decide⟩, .inl ⟨_, rfl, ?_⟩⟩
    exact ⟨_, _, rfl, rfl, by show (0 : Int) < 2305843009213693951; decide, _, _, rfl, rfl, ⟨by decide, by decide⟩, hZ _⟩
  refine ⟨_, rfl, _, _, rfl, rfl, .inl ⟨by decide, by decide⟩, _, _, rfl, rfl, ?_⟩
  refine ⟨_, rfl, _, rfl, a, iV ns, rfl, .inl hs, _, _, rfl, rfl, _, rfl, ?_⟩
  rw [iV_len]
  refine ite2 (fun hlt => ?_) fun hge => ?_
  · have hlt' : (k : Int) < (ns.length : Int) := of_decide_eq_true hlt
    obtain ⟨n, hat⟩ := atI_iV (ns := ns) (i := (k : Int)) (by omega) hlt'
    refine ⟨_, rfl, _, rfl, a, iV ns, (k : Int), _, rfl, rfl, hs, hat, _, rfl, ?_⟩
    refine ⟨_, rfl, _, _, rfl, rfl, ⟨by decide, by decide, by decide⟩, _, _, rfl, rfl, _, rfl, ?_⟩
    refine ite2 (fun _ => ?_) fun _ => ?_
    · exact ⟨_, rfl, _, _, rfl, rfl, ⟨by decide, by decide, by decide⟩, _, _, rfl, rfl, hq _⟩
    · exact tail _ _ hq
  · refine ⟨_, rfl, a, iV ns, rfl, .inl hs, _, _, rfl, rfl, _, rfl, ?_⟩
    refine ite2 (fun hp => ?_) fun _ => ?_
    · have hp' : (0 : Int) < ((iV ns).length : Int) := of_decide_eq_true hp
      rw [iV_len] at hp'
      have h1 : 0 ≤ (k : Int) % (ns.length : Int) := Int.emod_nonneg _ (by omega)
      have h2 : (k : Int) % (ns.length : Int) < (ns.length : Int) := Int.emod_lt_of_pos _ hp'
      obtain ⟨n, hat⟩ := atI_iV (ns := ns) (i := (k : Int) % (ns.length : Int)) h1 h2
      refine ⟨_, rfl, _, rfl, .inl ⟨_, rfl, _, rfl, a, iV ns, rfl, .inl hs, _, _, rfl, rfl, by rw [iV_len]; exact hp', ?_⟩⟩
      rw [iV_len]
      refine ⟨a, iV ns, (k : Int) % (ns.length : Int), _, rfl, rfl, hs, hat, _, rfl, ?_⟩
      exact ⟨_, rfl, _, _, rfl, rfl, .inl ⟨by decide, by decide⟩, _, _, rfl, rfl, tail _ _ hq⟩
    · exact tail _ _ hq
end
end NA
set_option maxRecDepth 100000
set_option maxHeartbeats 4000000
/-! _law_order, _law_turns, _law_labels. -/
namespace NA
open PySem PySem.Spec PyProof.Rows L2
theorem erase_perm {l : List Int} {i : Nat} {a : Int} (h : l[i]? = some a) : (a :: l.eraseIdx i).Perm l := by
  obtain ⟨hi, e⟩ := List.getElem?_eq_some_iff.mp h
  have h1 : l = l.take i ++ a :: l.drop (i + 1) := by
    rw [← e, List.getElem_cons_drop, List.take_append_drop]
  rw [List.eraseIdx_eq_take_drop_succ]
  conv => rhs; rw [h1]
  exact List.perm_middle.symm
theorem iV_erase (r : List Int) (i : Nat) : (iV r).eraseIdx i = iV (r.eraseIdx i) := by
  rw [List.eraseIdx_eq_take_drop_succ, List.eraseIdx_eq_take_drop_succ, iV_take, iV_drop, iV_append]
section
variable {P : Program} {w : World} {K : PySem.W.Frag} {mg : Str → Option Value} {base : Heap}
def nOrder : List Str := ["_law_cell_here", "_law_n", "_law_left", "_law_row", "_law_k", "_law_size"]
theorem scOrder : FnScope nOrder ["_law_cell_here", "_law_n"] (defScope sOrder) := ⟨rfl, rfl, rfl, by decide +kernel, rfl, by decide +kernel, by decide +kernel⟩
def spOrder : Sp := fun vs H Q _ => ∃ (c : Int) (n : Nat), vs = [.int c, .int (n : Int)] ∧ n ≤ 7 ∧ ∀ p rw H', Ext H H' → H p = none → H' p = some (.lst (iV rw)) → rw.Perm (rng n) → Q (.ref p) H'
theorem ok_order (T : Fx K mg) : FnOk P w K mg base CX0 1 (He.ga K "_law_order") T.fd_law_order ["_law_cell_here", "_law_n"] spOrder := by
  refine T.F_law_order.ok scOrder (fun vs H Q E h => ?_) (fun cdv A outer s H vs Q E hr h => ⟨_, PSs.nox (pss_cons (ps_set (i := 2) scOrder.nd rfl (Or.inl rfl) (pe_listRg rfl rfl T.n_list (prg_1 rfl T.n_range (pv 1))))
    (pss_cons (ps_set (i := 3) scOrder.nd rfl (Or.inl rfl) (pe_lst pa_nil))
    (pss_cons (ps_for PassesOwn.never rfl (pi_range1 rfl T.n_range (pa_cons (pv 1) pa_nil)) (pg_name (i := 4) scOrder.nd rfl (Or.inl rfl))
      (pss_cons (ps_set (i := 5) scOrder.nd rfl (Or.inl rfl) (pe_op op_sub (pv 1) (pv 4)))
      (pss_cons (ps_expr (pe_bm PySem.F.plainAttrs_list PySem.F.slot_list_append PySem.F.type_list_append mt_append (pv 3) (pa_cons (pe_bm PySem.F.plainAttrs_list PySem.F.slot_list_pop PySem.F.type_list_pop mt_popAt (pv 2) (pa_cons (pe_op op_mod (pe_callTy call_int1 (by rfl) T.n_int (by decide +kernel) (pa_cons (pv 0) pa_nil)) (pv 5)) pa_nil)) pa_nil)))
      (pss_one (ps_set (i := 0) scOrder.nd rfl (Or.inl rfl) (pe_op op_fdiv (pv 0) (pv 5)))))))
    (pss_one (ps_ret (pv 3)))))), ?_⟩)
  · obtain ⟨_, _, rfl, _⟩ := h
    rfl
  obtain ⟨c, n, rfl, hn, hq⟩ := h
  have sz : sizeLine = 16777216 := sizeLine_eq
  refine ⟨_, rfl, _, rfl, RgOk.of_le (by omega) (by omega) (by omega) (by omega), fun L hL => ?_⟩
  rw [rgV_rng]
  have e1 : Ext H (upd H L (.lst (iV (rng n)))) := Ext.upd hL
  refine ⟨by show 0 ≤ sizeLine; omega, fun R hR => ?_⟩
  have e2 := e1.trans (Ext.upd (u := .lst []) hR)
  have hLR : L ≠ R := fun z => by rw [← z, upd_same] at hR; cases hR
  have hRH : H R = none := by
    cases z : H R with
    | none => rfl
    | some u => rw [e1 _ _ z] at hR; cases hR
  refine ⟨_, rfl, _, rfl, by omega, by omega, ?_⟩
  refine for_range (lo := 0) (n := ((n : Int)).toNat) (fun i σ H' => (∃ c a b, σ = [some (.int c), some (.int (n : Int)), some (.ref L), some (.ref R), a, b]) ∧ Ext H H' ∧ ∃ lf rw', H' L = some (.lst (iV lf)) ∧ H' R = some (.lst (iV rw')) ∧ lf.length = n - i ∧ (rw' ++ lf).Perm (rng n)) ⟨⟨c, none, none, rfl⟩, e2, rng n, [], (Ext.upd hR) _ _ upd_same, upd_same, by rw [rng_len]; rfl, List.Perm.refl _⟩ (fun i σ H' hi z => ?_) fun σ H' z => ?_
  · obtain ⟨⟨c, a, b, rfl⟩, ex, lf, rw', hl, hr2, hlen, hp⟩ := z
    have hi' : i < n := by simpa using hi
    rw [show (0 : Int) + (i : Int) = (i : Int) from Int.zero_add _]
    have hs : (0 : Int) < (n : Int) - (i : Int) := by omega
    refine ⟨_, rfl, _, rfl, _, _, rfl, rfl, ?_⟩
    have m1 : 0 ≤ c % ((n : Int) - (i : Int)) := Int.emod_nonneg _ (by omega)
    have m2 : c % ((n : Int) - (i : Int)) < (n : Int) - (i : Int) := Int.emod_lt_of_pos _ hs
    obtain ⟨m, hm⟩ : ∃ m, c % ((n : Int) - (i : Int)) = m := ⟨_, rfl⟩
    rw [hm] at m1 m2
    have hml : m.toNat < lf.length := by omega
    have hget : lf[m.toNat]? = some lf[m.toNat] := List.getElem?_eq_getElem hml
    refine ⟨_, rfl, .inl ⟨rfl, _, .inl (.inl hr2)⟩, ?_⟩
    refine ⟨_, rfl, .inl ⟨rfl, _, .inl (.inl hl)⟩, _, rfl, .inl ⟨c, rfl, _, rfl, _, _, rfl, rfl, hs, ?_⟩⟩
    refine ⟨L, iV lf, m, m.toNat, .int lf[m.toNat], rfl, congrArg (fun z => [V.int z]) hm, hl, by omega, by omega, seqIndex_of m1 (by rw [iV_len]; omega), iV_at hget, ?_⟩
    rw [iV_erase]
    have hrw : rw'.length < sizeLine := by
      have := hp.length_eq
      rw [List.length_append, rng_len] at this
      omega
    refine ⟨R, iV rw', _, rfl, rfl, (upd_ne (Ne.symm hLR)).trans hr2, by rw [iV_len]; exact hrw, ?_⟩
    refine ⟨_, rfl, _, rfl, c, _, rfl, rfl, ⟨hs, by omega⟩, ?_⟩
    refine ⟨⟨_, _, _, rfl⟩, fun b u hb => ?_, lf.eraseIdx m.toNat, rw' ++ [lf[m.toNat]], (upd_ne hLR).trans upd_same, ?_, ?_, ?_⟩
    · rw [upd_ne (fun z => by rw [z, hRH] at hb; cases hb), upd_ne (fun z => by rw [z, hL] at hb; cases hb)]
      exact ex _ _ hb
    · rw [upd_same, ← iV_append]; rfl
    · rw [List.length_eraseIdx_of_lt hml, hlen]; omega
    · rw [List.append_assoc]
      exact ((erase_perm hget).append_left rw').trans hp
  · obtain ⟨⟨c, a, b, rfl⟩, ex, lf, rw', hl, hr2, hlen, hp⟩ := z
    have : lf = [] := List.length_eq_zero_iff.mp (by rw [hlen]; simp)
    rw [this, List.append_nil] at hp
    exact ⟨_, rfl, hq R rw' H' ex hRH hr2 hp⟩
end
end NA
set_option maxRecDepth 100000
set_option maxHeartbeats 4000000
/-! _law_turns, _law_labels. -/
namespace NA
open PySem PySem.Spec PyProof.Rows L2
theorem iV_set (r : List Int) (i : Nat) (a : Int) : (iV r).set i (.int a) = iV (r.set i a) := by
  unfold iV
  rw [List.map_set]
/-- labels from 1 to s -/
def LabIn (n s : Nat) (ls : List Int) : Prop := ls.length = n ∧ ∀ l ∈ ls, 1 ≤ l ∧ l ≤ s
theorem rep_flat (v : V) : ∀ n : Nat, (List.replicate n [v]).flatten = List.replicate n v
  | 0 => rfl
  | n + 1 => by
    rw [List.replicate_succ, List.flatten_cons, rep_flat v n, List.replicate_succ]
    rfl
section
variable {P : Program} {w : World} {K : PySem.W.Frag} {mg : Str → Option Value} {base : Heap}
def nTurns : List Str := ["_law_cell_here", "_law_n", "_law_size", "_law_labels_here", "_law_turns_here", "_law_k"]
def pTurns : List Str := ["_law_cell_here", "_law_n", "_law_size"]
theorem scTurns : FnScope nTurns pTurns (defScope sTurns) := ⟨rfl, rfl, rfl, by decide +kernel, rfl, by decide +kernel, by decide +kernel⟩
def spTurns : Sp := fun vs H Q _ => ∃ (c : Int) (n s : Nat), vs = [.int c, .int (n : Int), .int (s : Int)] ∧ n ≤ 7 ∧ 1 ≤ s ∧ s ≤ 7 ∧ ∀ p ls H', Ext H H' → H p = none → H' p = some (.lst (iV ls)) → LabIn n s ls → (s ≤ n → ∀ l : Int, 1 ≤ l → l ≤ s → l ∈ ls) → Q (.ref p) H'
theorem ok_turns (T : Fx K mg) : FnOk P w K mg base CX0 2 (He.ga K "_law_turns") T.fd_law_turns pTurns spTurns := by
  have bO : Binds K T.fd_law_order ["_law_cell_here", "_law_n"] [] := T.F_law_order.bindsN fun _ _ _ _ _ _ us hl => match us, hl with | [_, _], _ => rfl
  refine T.F_law_turns.ok scTurns (fun vs H Q E h => ?_) (fun cdv A outer s H vs Q E hr h => ⟨_, PSs.nox (pss_cons (ps_set (i := 3) scTurns.nd rfl (Or.inl rfl) (pe_op op_rep (pe_lst (pa_cons pe_int pa_nil)) (pv 1)))
    (pss_cons (ps_set (i := 4) scTurns.nd rfl (Or.inl rfl) (pe_call (ok_order T) hr rfl T.g_law_order T.F_law_order.kp bO .nil pass0 (pa_cons (pv 0) (pa_cons (pv 1) pa_nil))))
    (pss_cons (ps_for PassesOwn.never rfl (pi_range1 rfl T.n_range (pa_cons (pv 1) pa_nil)) (pg_name (i := 5) scTurns.nd rfl (Or.inl rfl))
      (pss_one (ps_asg (pe_op op_add pe_int (pe_op op_mod (pe_callTy call_int1 (by rfl) T.n_int (by decide +kernel) (pa_cons (pv 5) pa_nil)) (pv 2))) (pg_sub (pv 3) (pe_ix ix_list (pv 4) (pv 5) (fun _ _ => rfl)) set_list))))
    (pss_one (ps_ret (pv 3)))))), ?_⟩)
  · obtain ⟨_, _, _, rfl, _⟩ := h
    rfl
  obtain ⟨c, n, s, rfl, hn, hs1, hs7, hq⟩ := h
  have sz : sizeLine = 16777216 := sizeLine_eq
  refine ⟨by show 1 ≤ sizeLine; omega, fun l0 hl0 => ?_⟩
  have e1 : Ext H (upd H l0 (.lst [.int 1])) := Ext.upd hl0
  refine ⟨_, rfl, l0, (n : Int), [.int 1], rfl, rfl, upd_same, by omega, by omega, by show 1 * (n : Int).toNat ≤ sizeLine; omega, fun L hL => ?_⟩
  have e2 := e1.trans (Ext.upd (u := .lst (List.replicate ((n : Int)).toNat [V.int 1]).flatten) hL)
  have hLH : H L = none := by
    cases z : H L with
    | none => rfl
    | some u => rw [e1 _ _ z] at hL; cases hL
  have hrep : (List.replicate ((n : Int)).toNat [V.int 1]).flatten = iV (List.replicate n 1) := by
    have : ((n : Int)).toNat = n := by omega
    rw [this, rep_flat]
    unfold iV
    rw [List.map_replicate]
  rw [hrep] at e2 ⊢
  have hL2 : upd (upd H l0 (.lst [.int 1])) L (.lst (iV (List.replicate n 1))) L = some (.lst (iV (List.replicate n 1))) := upd_same
  refine ⟨_, rfl, _, rfl, c, n, rfl, hn, fun p rw' H3 e3 hp hpl hperm => ?_⟩
  have hpL : p ≠ L := fun z => by rw [z, hL2] at hp; cases hp
  have hrwn : rw'.length = n := by rw [hperm.length_eq, rng_len]
  have hnd : rw'.Nodup := hperm.nodup_iff.mpr (rng_nodup n)
  refine ⟨_, rfl, _, rfl, by omega, by omega, ?_⟩
  refine for_range (lo := 0) (n := ((n : Int)).toNat) (fun i σ H' => (∃ b, σ = [some (.int c), some (.int (n : Int)), some (.int (s : Int)), some (.ref L), some (.ref p), b]) ∧ (∀ b u, b ≠ L → H3 b = some u → H' b = some u) ∧ ∃ ls, H' L = some (.lst (iV ls)) ∧ LabIn n s ls ∧ ∀ (j : Nat) (t : Int), j < i → rw'[j]? = some t → ls[t.toNat]? = some (1 + (j : Int) % (s : Int))) ⟨⟨none, rfl⟩, fun _ _ _ h => h, List.replicate n 1, e3 _ _ hL2, ⟨List.length_replicate .., fun l hl => ?_⟩, fun j t hj => absurd hj (Nat.not_lt_zero _)⟩ (fun i σ H' hi z => ?_) fun σ H' z => ?_
  · rw [List.eq_of_mem_replicate hl]; omega
  · obtain ⟨⟨b, rfl⟩, k4, ls, hl, ⟨hl1, hl2⟩, hinv⟩ := z
    have hi' : i < n := by simpa using hi
    rw [show (0 : Int) + (i : Int) = (i : Int) from Int.zero_add _]
    have hti : rw'[i]? = some rw'[i] := List.getElem?_eq_getElem (by omega)
    have ht := mem_rng.mp (hperm.mem_iff.mp (List.mem_of_getElem? hti))
    have m1 : 0 ≤ (i : Int) % (s : Int) := Int.emod_nonneg _ (by omega)
    have m2 : (i : Int) % (s : Int) < (s : Int) := Int.emod_lt_of_pos _ (by omega)
    have hix : ixN (iV ls).length rw'[i] = some rw'[i].toNat := by
      unfold ixN
      rw [if_pos ht.1, if_pos (by rw [iV_len, hl1]; exact ht.2)]
    refine ⟨_, rfl, .inl ⟨_, rfl, _, rfl, _, _, rfl, rfl, by show (0 : Int) < (s : Int); omega, _, _, rfl, rfl, ?_⟩⟩
    refine ⟨_, rfl, _, rfl, _, rfl, p, iV rw', (i : Int), .int rw'[i], rfl, rfl, .inl (.inl (k4 _ _ hpL hpl)), atI_nat (iV_at hti), L, iV ls, rw'[i], rw'[i].toNat, rfl, rfl, hl, hix, ?_⟩
    refine ⟨⟨_, rfl⟩, fun b u hb hu => ?_, ls.set rw'[i].toNat (1 + (i : Int) % (s : Int)), ?_, ⟨by rw [List.length_set]; exact hl1, fun l hlm => ?_⟩, fun j t hj hjt => ?_⟩
    · rw [upd_ne hb]; exact k4 b u hb hu
    · rw [upd_same]
      exact congrArg (fun z => some (HO.lst z)) (iV_set ls _ _)
    · rcases List.mem_or_eq_of_mem_set hlm with z | z
      · exact hl2 l z
      · omega
    · have htj := mem_rng.mp (hperm.mem_iff.mp (List.mem_of_getElem? hjt))
      by_cases e : j = i
      · subst e
        rw [hti] at hjt
        cases hjt
        rw [List.getElem?_set_self (by rw [hl1]; omega)]
      · have hne : t ≠ rw'[i] := fun z => by
          obtain ⟨g1, g2⟩ := List.getElem?_eq_some_iff.mp hjt
          exact (List.pairwise_iff_getElem.mp hnd j i g1 (by omega) (by omega)) (g2.trans z)
        rw [List.getElem?_set_ne (by omega)]
        exact hinv j t (by omega) hjt
  · obtain ⟨⟨b, rfl⟩, k4, ls, hl, hlab, hinv⟩ := z
    have en : ((n : Int)).toNat = n := by omega
    rw [en] at hinv
    refine ⟨_, rfl, hq L ls H' (fun b u hb => k4 b u (fun z => by rw [z, hLH] at hb; cases hb) (e3 _ _ (e2 _ _ hb))) hLH hl hlab fun hsn l h1 h2 => ?_⟩
    have hj : (l - 1).toNat < rw'.length := by omega
    have := hinv (l - 1).toNat rw'[(l - 1).toNat] (by omega) (List.getElem?_eq_getElem hj)
    have e : 1 + (((l - 1).toNat : Nat) : Int) % (s : Int) = l := by
      rw [Int.emod_eq_of_lt (by omega) (by omega)]
      omega
    rw [e] at this
    exact List.mem_of_getElem? this
/-! ### _law_labels -/
def nLabels : List Str := ["_law_script", "_law_n", "_law_size", "_law_cell_here", "_law_labels_here", "_law_p"]
def pLabels : List Str := ["_law_script", "_law_n", "_law_size"]
theorem scLabels : FnScope nLabels pLabels (defScope sLabels) := ⟨rfl, rfl, rfl, by decide +kernel, rfl, by decide +kernel, by decide +kernel⟩
def spLabels (K : PySem.W.Frag) : Sp := fun vs H Q _ => ∃ (a : Addr) (ns : List Int) (n s : Nat), vs = [.ref a, .int (n : Int), .int (s : Int)] ∧ SqL K H a (iV ns) ∧ ns.length ≤ 63 ∧ n ≤ 7 ∧ 1 ≤ s ∧ s ≤ 7 ∧ ∀ p ls H', Ext H H' → H p = none → H' p = some (.lst (iV ls)) → LabIn n s ls → Q (.ref p) H'
theorem ok_labels (T : Fx K mg) : FnOk P w K mg base CX0 3 (He.ga K "_law_labels") T.fd_law_labels pLabels (spLabels K) := by
  have bC : Binds K T.fd_law_cell ["_law_script", "_law_k"] [] := T.F_law_cell.bindsN fun _ _ _ _ _ _ us hl => match us, hl with | [_, _], _ => rfl
  have bT : Binds K T.fd_law_turns pTurns [] := T.F_law_turns.bindsN fun _ _ _ _ _ _ us hl => match us, hl with | [_, _, _], _ => rfl
  refine T.F_law_labels.ok scLabels (fun vs H Q E h => ?_) (fun cdv A outer s H vs Q E hr h => ⟨_, PSs.nox (pss_cons (ps_set (i := 3) scLabels.nd rfl (Or.inl rfl) (pe_call (ok_cell T) (hr.mono (by decide)) rfl T.g_law_cell T.F_law_cell.kp bC .nil pass0 (pa_cons (pv 0) (pa_cons pe_int pa_nil))))
    (pss_cons (ps_if (pt_cmpR op_eq (pe_op op_mod (pe_callTy call_int1 (by rfl) T.n_int (by decide +kernel) (pa_cons (pe_op op_fdiv (pe_call (ok_cell T) (hr.mono (by decide)) rfl T.g_law_cell T.F_law_cell.kp bC .nil pass0 (pa_cons (pv 0) (pa_cons pe_int pa_nil))) pe_int) pa_nil)) pe_int) pe_int (nomark _))
      (pss_one (ps_ret (pe_call (ok_turns T) hr rfl T.g_law_turns T.F_law_turns.kp bT .nil pass0 (pa_cons (pv 3) (pa_cons (pv 1) (pa_cons (pv 2) pa_nil)))))) pss_nil)
    (pss_cons (ps_set (i := 4) scLabels.nd rfl (Or.inl rfl) (pe_lst pa_nil))
    (pss_cons (ps_for PassesOwn.never rfl (pi_range1 rfl T.n_range (pa_cons (pv 1) pa_nil)) (pg_name (i := 5) scLabels.nd rfl (Or.inl rfl))
      (pss_cons (ps_expr (pe_bm PySem.F.plainAttrs_list PySem.F.slot_list_append PySem.F.type_list_append mt_append (pv 4) (pa_cons (pe_op op_add pe_int (pe_op op_mod (pe_callTy call_int1 (by rfl) T.n_int (by decide +kernel) (pa_cons (pv 3) pa_nil)) (pv 2))) pa_nil)))
      (pss_one (ps_set (i := 3) scLabels.nd rfl (Or.inl rfl) (pe_op op_fdiv (pv 3) (pv 2))))))
    (pss_one (ps_ret (pv 4))))))), ?_⟩)
  · obtain ⟨_, _, _, _, rfl, _⟩ := h
    rfl
  obtain ⟨a, ns, n, s, rfl, ha, hns, hn, hs1, hs7, hq⟩ := h
  have sz : sizeLine = 16777216 := sizeLine_eq
  refine ⟨_, rfl, a, ns, 5, rfl, ha, hns, by decide, fun c => ?_⟩
  refine ⟨_, rfl, a, ns, 4, rfl, ha, hns, by decide, fun c4 => ?_⟩
  refine ⟨c4, 64, rfl, rfl, ⟨by decide, by decide⟩, .inl ⟨_, rfl, _, _, rfl, rfl, by show (0 : Int) < 2; decide, rfl, _, rfl, ?_⟩⟩
  refine ite2 (fun _ => ?_) fun _ => ?_
  · exact ⟨_, rfl, _, rfl, _, rfl, c, n, s, rfl, hn, hs1, hs7, fun p ls H' e hp hl hi _ => hq p ls H' e hp hl hi⟩
  · refine ⟨by show 0 ≤ sizeLine; omega, fun R hR => ?_⟩
    refine ⟨_, rfl, _, rfl, by omega, by omega, ?_⟩
    refine for_range (lo := 0) (n := ((n : Int)).toNat) (fun i σ H' => (∃ c b, σ = [some (.ref a), some (.int (n : Int)), some (.int (s : Int)), some (.int c), some (.ref R), b]) ∧ Ext H H' ∧ ∃ ls, H' R = some (.lst (iV ls)) ∧ LabIn i s ls) ⟨⟨c, none, rfl⟩, Ext.upd hR, [], upd_same, rfl, fun l hl => by cases hl⟩ (fun i σ H' hi z => ?_) fun σ H' z => ?_
    · obtain ⟨⟨c, b, rfl⟩, ex, ls, hl, hl1, hl2⟩ := z
      have hi' : i < n := by simpa using hi
      have m1 : 0 ≤ c % (s : Int) := Int.emod_nonneg _ (by omega)
      have m2 : c % (s : Int) < (s : Int) := Int.emod_lt_of_pos _ (by omega)
      refine ⟨_, rfl, .inl ⟨rfl, _, .inl (.inl hl)⟩, _, rfl, .inl ⟨c, rfl, _, rfl, _, _, rfl, rfl, by show (0 : Int) < (s : Int); omega, ?_⟩⟩
      refine ⟨_, _, rfl, rfl, R, iV ls, _, rfl, rfl, hl, by rw [iV_len, hl1]; omega, ?_⟩
      refine ⟨_, rfl, _, rfl, c, _, rfl, rfl, ⟨by omega, by omega⟩, ?_⟩
      refine ⟨⟨_, _, rfl⟩, fun b u hb => ?_, ls ++ [1 + c % (s : Int)], ?_, by rw [List.length_append, hl1]; rfl, fun l hlm => ?_⟩
      · rw [upd_ne (fun z => by rw [z, hR] at hb; cases hb)]
        exact ex _ _ hb
      · rw [upd_same, ← iV_append]; rfl
      · rcases List.mem_append.mp hlm with z | z
        · exact hl2 l z
        · rw [List.mem_singleton.mp z]; omega
    · obtain ⟨⟨c, b, rfl⟩, ex, ls, hl, hl1, hl2⟩ := z
      exact ⟨_, rfl, hq R ls H' ex hR hl ⟨by rw [hl1]; omega, hl2⟩⟩
end
end NA
set_option maxRecDepth 100000
set_option maxHeartbeats 4000000
/-! == of lists of ints, of lists of tuples of ints. -/
namespace NA
open PySem PySem.Spec PyProof.Rows L2
def dI (r : List Int) : List PyData := r.map PyData.int
def dT (rs : List (List Int)) : List PyData := rs.map fun r => PyData.tuple (dI r)
theorem dpI {K : PySem.W.Frag} {H : Hp} : ∀ r : List Int, DpAll K H (iV r) (dI r)
  | [] => .nil
  | a :: r => .cons (.int a) (dpI r)
theorem dpT {K : PySem.W.Frag} {H : Hp} : ∀ {xs : List V} {rs : List (List Int)}, TIs H xs rs → DpAll K H xs (dT rs)
  | [], [], _ => .nil
  | x :: xs, r :: rs, h => by
    obtain ⟨t, rfl, ht⟩ := h.head
    exact .cons (.tup (.inl (.inl ht)) (dpI r)) (dpT h.tail)
  | [], _ :: _, h => absurd h.1 (by simp)
  | _ :: _, [], h => absurd h.1 (by simp)
theorem eqvI : ∀ a b : List Int, PyData.eqvAll (dI a) (dI b) = decide (a = b)
  | [], [] => rfl
  | [], _ :: _ => rfl
  | _ :: _, [] => rfl
  | x :: a, y :: b => by
    show ((x == y) && PyData.eqvAll (dI a) (dI b)) = decide (x :: a = y :: b)
    rw [eqvI a b]
    by_cases h : x = y
    · subst h
      by_cases h2 : a = b
      · subst h2; simp
      · simp [h2]
    · simp [h]
theorem eqvT : ∀ a b : List (List Int), PyData.eqvAll (dT a) (dT b) = decide (a = b)
  | [], [] => rfl
  | [], _ :: _ => rfl
  | _ :: _, [] => rfl
  | x :: a, y :: b => by
    show (PyData.eqvAll (dI x) (dI y) && PyData.eqvAll (dT a) (dT b)) = decide (x :: a = y :: b)
    rw [eqvT a b, eqvI]
    by_cases h : x = y
    · subst h
      by_cases h2 : a = b
      · subst h2; simp
      · simp [h2]
    · simp [h]
theorem layI : ∀ r : List Int, PyData.canLayAll0 (dI r) = true ∧ PyData.depthAll (dI r) = 0
  | [] => ⟨rfl, rfl⟩
  | a :: r => by
    obtain ⟨h1, h2⟩ := layI r
    refine ⟨?_, ?_⟩
    · show (true && PyData.canLayAll0 (dI r)) = true
      rw [h1]; rfl
    · show max 0 (PyData.depthAll (dI r)) = 0
      rw [h2]; rfl
theorem layT : ∀ rs : List (List Int), PyData.canLayAll0 (dT rs) = true ∧ PyData.depthAll (dT rs) ≤ 1
  | [] => ⟨rfl, Nat.zero_le _⟩
  | r :: rs => by
    obtain ⟨h1, h2⟩ := layT rs
    obtain ⟨g1, g2⟩ := layI r
    refine ⟨?_, ?_⟩
    · show (PyData.canLayAll0 (dI r) && PyData.canLayAll0 (dT rs)) = true
      rw [g1, h1]; rfl
    · show max (PyData.depthAll (dI r) + 1) (PyData.depthAll (dT rs)) ≤ 1
      rw [g2]; omega
theorem shI (r : List Int) : SeqAt.shaped (.list (dI r)) = true := by
  obtain ⟨h1, h2⟩ := layI r
  show (PyData.canLayAll0 (dI r) && decide (PyData.depthAll (dI r) + 1 ≤ 64)) = true
  rw [h1, h2]; rfl
theorem shT (r : List (List Int)) : SeqAt.shaped (.list (dT r)) = true := by
  obtain ⟨h1, h2⟩ := layT r
  show (PyData.canLayAll0 (dT r) && decide (PyData.depthAll (dT r) + 1 ≤ 64)) = true
  rw [h1, decide_eq_true (by omega)]; rfl
/-- == of two lists of ints -/
theorem eqL_read {K : PySem.W.Frag} {H : Hp} {Q : VK} {p q : Addr} {a b : List Int} (h1 : SqL K H p (iV a)) (h2 : SqL K H q (iV b)) (h : Q (.bl (decide (a = b))) H) : rEqD K (.ref p) (.ref q) H Q :=
  ⟨.list (dI a), .list (dI b), .lst h1 (dpI a), .lst h2 (dpI b), shI a, shI b, by show Q (.bl (PyData.eqvAll (dI a) (dI b))) H; rw [eqvI]; exact h⟩
theorem neL_read {K : PySem.W.Frag} {H : Hp} {Q : VK} {p q : Addr} {a b : List Int} (h1 : SqL K H p (iV a)) (h2 : SqL K H q (iV b)) (h : Q (.bl (!decide (a = b))) H) : rNeD K (.ref p) (.ref q) H Q :=
  ⟨.list (dI a), .list (dI b), .lst h1 (dpI a), .lst h2 (dpI b), shI a, shI b, by show Q (.bl (!PyData.eqvAll (dI a) (dI b))) H; rw [eqvI]; exact h⟩
theorem eqLT_read {K : PySem.W.Frag} {H : Hp} {Q : VK} {p q : Addr} {xs ys : List V} {a b : List (List Int)} (h1 : SqL K H p xs) (t1 : TIs H xs a) (h2 : SqL K H q ys) (t2 : TIs H ys b) (h : Q (.bl (decide (a = b))) H) : rEqD K (.ref p) (.ref q) H Q :=
  ⟨.list (dT a), .list (dT b), .lst h1 (dpT t1), .lst h2 (dpT t2), shT a, shT b, by show Q (.bl (PyData.eqvAll (dT a) (dT b))) H; rw [eqvT]; exact h⟩
end NA
set_option maxRecDepth 100000
set_option maxHeartbeats 4000000
/-! _law_rest, _law_full. -/
namespace NA
open PySem PySem.Spec PyProof.Rows L2
def lab (ls : List Int) (p : Int) : Int := ls.getD p.toNat 0
def ones (s : Nat) : List Int := (List.range s).map fun i : Nat => 1 + (i : Int)
def fullP (ls : List Int) (s : Nat) (r : List Int) : Bool := decide (srt (r.map (lab ls)) = ones s)
theorem rgV_ones (s : Nat) : rgV 1 ((s : Int) + 1) = iV (ones s) := by
  unfold rgV iV ones
  rw [List.map_map]
  have : ((s : Int) + 1 - 1).toNat = s := by omega
  rw [this]
  rfl
theorem lab_at {ls : List Int} {p : Int} (h0 : 0 ≤ p) (h1 : p < ls.length) : atI (iV ls) p = some (.int (lab ls p)) := by
  obtain ⟨m, rfl⟩ := Int.eq_ofNat_of_zero_le h0
  have hl : m < ls.length := by omega
  have : lab ls (m : Int) = ls[m] := by
    show ls.getD m 0 = ls[m]
    rw [List.getD_eq_getElem?_getD, List.getElem?_eq_getElem hl]
    rfl
  rw [this]
  exact atI_nat (iV_at (List.getElem?_eq_getElem hl))
section
variable {P : Program} {w : World} {K : PySem.W.Frag} {mg : Str → Option Value} {base : Heap}
def nRest : List Str := ["_law_n", "_law_room", "_law_p"]
theorem scRest : FnScope nRest ["_law_n", "_law_room"] (defScope sRest) := ⟨rfl, rfl, rfl, by decide +kernel, rfl, by decide +kernel, by decide +kernel⟩
theorem ok_rest (T : Fx K mg) : FnOk P w K mg base CX0 1 (He.ga K "_law_rest") T.fd_law_rest ["_law_n", "_law_room"] spCompl := by
  refine T.F_law_rest.ok scRest (fun vs H Q E h => ?_) (fun cdv A outer s H vs Q E hr h => ⟨_, PSs.nox (pss_one (ps_ret (pe_callTy call_tuple_of (by rfl) T.n_tuple (by decide +kernel) (pa_cons (pe_lc (own := [("_law_p", 2)]) (g := gName 2) (wi := iRng1 (tCons (tVar 0) tNil)) (tt := tTest (tOp (rIn K true) (tVar 2) (tVar 1))) (te := tVar 2) rfl scRest.nd (pi_range1 rfl T.n_range (pa_cons (pv 0) pa_nil)) (blkOk_by (N := nRest) (sc := defScope sRest) (by decide +kernel)) (fun _ _ _ _ _ => pg_name (i := 2) scRest.nd rfl (Or.inl rfl)) (fun _ _ _ _ _ => pts_one (pt_cmpR op_notIn_seq (pv 2) (pv 1) (by rfl))) (fun _ _ _ _ _ => pv 2)) pa_nil)))), ?_⟩)
  · obtain ⟨_, _, _, rfl, _⟩ := h
    rfl
  obtain ⟨n, x, r, rfl, ⟨a, rfl, ha⟩, hz, hq⟩ := h
  have := rng_read (K := K) (σ := start nRest [.int (n : Int), .ref a]) (l := 0) (r := 1) (v := 2) (n := n) (rm := a) (room := r) (H := H) (Q := fun x H1 => rTupOf K [x] H1 Q) rfl rfl ha hz (by decide) (show 2 < 3 by decide) fun D hD => by
    refine ⟨D, _, rfl, .inl ⟨.inl (.inl upd_same), fun t ht => ?_⟩⟩
    exact hq _ _ ((Ext.upd hD).trans (Ext.upd ht)) ⟨t, rfl, upd_same⟩
  exact this
/-! ### [labels[p] for p in room] -/
def tLabs (K : PySem.W.Frag) (l r v : Nat) : TE := tLc (iTup K (tVar r)) (gName v) tYes (tOp (rIxL K) (tVar l) (tVar v)) [v]
theorem labs_read {K : PySem.W.Frag} {l r v : Nat} {σ : L2.St} {H : Hp} {Q : VK} {la rm : Addr} {ls room : List Int} (h1 : σ[l]? = some (some (.ref la))) (h2 : σ[r]? = some (some (.ref rm))) (hl : SqL K H la (iV ls)) (hr : H rm = some (.tup (iV room))) (hz : room.length ≤ 63) (hb : ∀ p ∈ room, 0 ≤ p ∧ p < ls.length)
    (hvl : v ≠ l) (hv : v < σ.length) (hq : ∀ D, H D = none → Q (.ref D) (upd H D (.lst (iV (room.map (lab ls)))))) : tLabs K l r v σ H Q := by
  refine ⟨_, h2, rm, rfl, ⟨_, .inl (.inl hr)⟩, fun D hD => ?_⟩
  have sz : sizeLine = 16777216 := sizeLine_eq
  refine lc_tup (xs := iV room) (fun i H' => H' = upd H D (.lst (iV ((room.take i).map (lab ls))))) rfl (fun i H' _ e => by rw [e]; exact .inl (.inl ((Ext.upd hD) _ _ hr))) (fun i x H' hx e => ?_) fun H' e => ?_
  · obtain ⟨p, hp, rfl⟩ := iV_get hx
    obtain ⟨b1, b2⟩ := hb p (List.mem_of_getElem? hp)
    subst e
    have hw : (wipe σ [v]) = σ.set v none := rfl
    rw [hw]
    refine ⟨?_, ?_⟩
    · show (((σ.set v none).set v (some (.int p))).set v none) = _
      rw [List.set_set, List.set_set]
    have e1 : ((σ.set v none).set v (some (V.int p)))[v]? = some (some (.int p)) := by
      rw [List.set_set, List.getElem?_set_self hv]
    have e2 : ((σ.set v none).set v (some (V.int p)))[l]? = some (some (.ref la)) := by
      rw [List.set_set, List.getElem?_set_ne hvl]
      exact h1
    refine ⟨_, e2, _, e1, la, iV ls, p, _, rfl, rfl, sqL_ext hl (Ext.upd hD), lab_at b1 b2, _, upd_same, ?_, ?_⟩
    · rw [iV_len, List.length_map, List.length_take]; omega
    · rw [upd_upd, List.take_succ, hp, List.map_append, ← iV_append]
      rfl
  · rw [e, iV_len, List.take_length]
    exact hq D hD
def nFull : List Str := ["_law_rooms_here", "_law_labels_here", "_law_size", "_law_room", "_law_p"]
def pFull : List Str := ["_law_rooms_here", "_law_labels_here", "_law_size"]
theorem scFull : FnScope nFull pFull (defScope sFull) := ⟨rfl, rfl, rfl, by decide +kernel, rfl, by decide +kernel, by decide +kernel⟩
def spFull (K : PySem.W.Frag) : Sp := fun vs H Q _ => ∃ (a l : Addr) (xs : List V) (rs : List (List Int)) (ls : List Int) (s : Nat), vs = [.ref a, .ref l, .int (s : Int)] ∧ H a = some (.lst xs) ∧ TIs H xs rs ∧ SqL K H l (iV ls) ∧ (∀ r ∈ rs, r.length ≤ 63 ∧ ∀ p ∈ r, 0 ≤ p ∧ p < ls.length) ∧ rs.length ≤ 63 ∧ s ≤ 63 ∧
  ∀ p ys H', Ext H H' → H p = none → H' p = some (.lst ys) → TIs H' ys (rs.filter (fullP ls s)) → Q (.ref p) H'
def tFullT (K : PySem.W.Frag) : TT := tTest (tOp (rEqD K) (tCB (rSortedI K) (tCons (tLabs K 1 3 4) tNil)) (tLstRg (tRg2 (tC (.int 1)) (tOp (rI0 fun i j => .int (i + j)) (tVar 2) (tC (.int 1))))))
theorem ok_full (T : Fx K mg) : FnOk P w K mg base CX0 1 (He.ga K "_law_full") T.fd_law_full pFull (spFull K) := by
  refine T.F_law_full.ok scFull (fun vs H Q E h => ?_) (fun cdv A outer s H vs Q E hr h => ⟨_, PSs.nox (pss_one (ps_ret (pe_lc (own := [("_law_room", 3)]) (g := gName 3) (wi := iList K (tVar 0)) (tt := tFullT K) (te := tVar 3) rfl scFull.nd (pi_list (pv 0)) (blkOk_by (N := nFull) (sc := defScope sFull) (by decide +kernel)) (fun _ _ _ _ _ => pg_name (i := 3) scFull.nd rfl (Or.inl rfl))
    (fun _ _ _ _ _ => pts_one (pt_cmpR (op_eqD hr.units) (pe_callB cr_sortedI (by rfl) T.n_sorted (by decide +kernel) (pa_cons (pe_lc (own := [("_law_p", 4)]) (g := gName 4) (wi := iTup K (tVar 3)) (tt := tYes) (te := tOp (rIxL K) (tVar 1) (tVar 4)) rfl scFull.nd (pi_tup (pv 3)) (blkOk_by (N := nFull) (by kernel_rfl)) (fun _ _ _ _ _ => pg_name (i := 4) scFull.nd rfl (Or.inl rfl)) (fun _ _ _ _ _ => pts_nil) (fun _ _ _ _ _ => pe_ix ix_list (pv 1) (pv 4) (fun _ _ => rfl))) pa_nil))
      (pe_listRg rfl rfl T.n_list (prg_2 rfl T.n_range pe_int (pe_op op_add (pv 2) pe_int))) (nomark _))) (fun _ _ _ _ _ => pv 3)))), ?_⟩)
  · obtain ⟨_, _, _, _, _, _, rfl, _⟩ := h
    rfl
  obtain ⟨a, l, xs, rs, ls, s, rfl, ha, ht, hl, hb, hrs, hs, hq⟩ := h
  have sz : sizeLine = 16777216 := sizeLine_eq
  refine ⟨_, rfl, a, rfl, ⟨_, .inl (.inl ha)⟩, fun D hD => ?_⟩
  have haD : a ≠ D := fun z => by rw [z, hD] at ha; cases ha
  refine lc_list (xs := xs) (fun i H' => (∀ b u, b ≠ D → H b = some u → H' b = some u) ∧ ∃ ys, H' D = some (.lst ys) ∧ TIs H' ys ((rs.take i).filter (fullP ls s))) ⟨fun b u hb hu => by rw [upd_ne hb]; exact hu, [], upd_same, TIs.nil⟩ (fun i H' _ z => .inl (.inl (z.1 _ _ haD ha))) (fun i x H' hx z => ?_) fun H' z => ?_
  · obtain ⟨k1, ys, hys, hty⟩ := z
    obtain ⟨r, hr, rm, rfl, hrm⟩ := ht.at hx
    obtain ⟨hr63, hbr⟩ := hb r (List.mem_of_getElem? hr)
    have hrD : rm ≠ D := fun z => by rw [z, hD] at hrm; cases hrm
    have hl' : SqL K H' l (iV ls) := by
      rcases hl with h | h
      · rcases h with h | ⟨o, h⟩
        · exact .inl (.inl (k1 _ _ (fun z => by rw [z, hD] at h; cases h) h))
        · exact .inl (.inr ⟨o, k1 _ _ (fun z => by rw [z, hD] at h; cases h) h⟩)
      · exact .inr h
    refine ⟨rfl, ?_⟩
    unfold tFullT tTest tOp tCB tCons tNil
    refine labs_read (K := K) (l := 1) (r := 3) (v := 4) (σ := [some (.ref a), some (.ref l), some (.int (s : Int)), some (.ref rm), none]) (H := H') (la := l) (rm := rm) (ls := ls) (room := r) rfl rfl hl' (k1 _ _ hrD hrm) hr63 hbr (by decide) (by show 4 < 5; decide) fun D2 hD2 => ?_
    have e1 : Ext H' (upd H' D2 (.lst (iV (r.map (lab ls))))) := Ext.upd hD2
    refine ⟨D2, r.map (lab ls), rfl, .inl (.inl upd_same), fun ns' p perm srted hp => ?_⟩
    have e2 := e1.trans (Ext.upd (u := .lst (ns'.map V.int)) hp)
    refine ⟨_, rfl, _, _, rfl, rfl, _, _, rfl, rfl, RgOk.of_le (by omega) (by omega) (by omega) (by omega), fun q hq2 => ?_⟩
    rw [rgV_ones]
    have e3 := e2.trans (Ext.upd (u := .lst (iV (ones s))) hq2)
    generalize hH4 : upd (upd (upd H' D2 (.lst (iV (r.map (lab ls))))) p (.lst (ns'.map V.int))) q (.lst (iV (ones s))) = H4 at e3
    have hp4 : H4 p = some (.lst (iV ns')) := by rw [← hH4]; exact (Ext.upd hq2) _ _ upd_same
    have hq4 : H4 q = some (.lst (iV (ones s))) := by rw [← hH4]; exact upd_same
    refine eqL_read (.inl (.inl hp4)) (.inl (.inl hq4)) ⟨_, rfl, ?_⟩
    rw [srt_of perm srted]
    have k4 : ∀ b u, b ≠ D → H b = some u → H4 b = some u := fun b u hb hu => e3 _ _ (k1 b u hb hu)
    by_cases hf : fullP ls s r = true
    · have hf' : srt (r.map (lab ls)) = ones s := of_decide_eq_true hf
      rw [decide_eq_true hf']
      refine ⟨_, rfl, ys, e3 _ _ hys, ?_, fun b u hb hu => by rw [upd_ne hb]; exact k4 b u hb hu, _, upd_same, ?_⟩
      · rw [hty.1]
        have := List.length_filter_le (fullP ls s) (rs.take i)
        rw [List.length_take] at this
        omega
      · rw [take_succ_filter hr, if_pos hf]
        refine TIs.mono ((hty.ext e3).snoc ⟨rm, rfl, k4 _ _ hrD hrm⟩) fun b ws hb => ?_
        rw [upd_ne (fun z => by rw [z, e3 _ _ hys] at hb; cases hb)]
        exact hb
    · have hf' : ¬ srt (r.map (lab ls)) = ones s := fun z => hf (decide_eq_true z)
      rw [decide_eq_false hf']
      refine ⟨k4, ys, e3 _ _ hys, ?_⟩
      rw [take_succ_filter hr, if_neg hf, List.append_nil]
      exact hty.ext e3
  · obtain ⟨k1, ys, hys, hty⟩ := z
    rw [ht.1, List.take_length] at hty
    exact hq D ys H' (fun b u hb => k1 b u (fun z => by rw [z, hD] at hb; cases hb) hb) hD hys hty
end
end NA
set_option maxRecDepth 100000
set_option maxHeartbeats 4000000
/-! _law_same, of equal data. -/
namespace NA
open PySem PySem.Spec PyProof.Rows L2
inductive DOk : Nat → PyData → Prop
  | int (m : Nat) (i : Int) : DOk m (.int i)
  | str (m : Nat) (x : Str) : DOk m (.str x)
  | lst (m : Nat) (ds : List PyData) : ds.length ≤ 1000 → (∀ d, d ∈ ds → DOk m d) → DOk (m + 1) (.list ds)
  | tup (m : Nat) (ds : List PyData) : ds.length ≤ 1000 → (∀ d, d ∈ ds → DOk m d) → DOk (m + 1) (.tuple ds)
theorem dpAll_len {K : PySem.W.Frag} {H : Hp} : ∀ {xs : List V} {ds : List PyData}, DpAll K H xs ds → xs.length = ds.length
  | _, _, .nil => rfl
  | _, _, .cons _ t => by rw [List.length_cons, List.length_cons, dpAll_len t]
theorem dpAll_get {K : PySem.W.Frag} {H : Hp} : ∀ {xs : List V} {ds : List PyData}, DpAll K H xs ds → ∀ {i : Nat} {d : PyData}, ds[i]? = some d → ∃ x, xs[i]? = some x ∧ Dp K H x d
  | _, _, .nil, i, d, h => by cases i <;> cases h
  | _, _, .cons h t, 0, d, e => by cases e; exact ⟨_, rfl, h⟩
  | _, _, .cons h t, i + 1, d, e => dpAll_get t (i := i) e
theorem ty_sqL {K : PySem.W.Frag} {H : Hp} {a : Addr} {xs : List V} (h : SqL K H a xs) : TyX K H (.ref a) (.type "list") := by
  rcases h with (h | ⟨o, h⟩) | ⟨o, its, n, h, hc, _⟩
  · exact .base (.lst h)
  · exact .base (.frz h)
  · exact .kList h hc
theorem ty_sqT {K : PySem.W.Frag} {H : Hp} {a : Addr} {xs : List V} (h : SqT K H a xs) : TyX K H (.ref a) (.type "tuple") := by
  rcases h with (h | ⟨o, h⟩) | ⟨o, its, n, h, hc, _⟩
  · exact .base (.tup h)
  · exact .fTuple h
  · exact .kTuple h hc
section
variable {X : Cx}
/-- isinstance(x, T) of a built-in class -/
theorem isi_read {K : PySem.W.Frag} {H : Hp} {Q : VK} {x : V} {a b : String} {r : Bool} (h : TyX K H x (.type a)) (hk : kitB a b = some r) (hq : Q (.bl r) H) : rIsi K [x, .ty b] H Q := ⟨x, .ty b, .type a, .type b, r, rfl, .ty b, h, kit_ty hk, hq⟩
theorem isiS_read {K : PySem.W.Frag} {σ : L2.St} {H : Hp} {i : Nat} {x : V} {a b : String} {r : Bool} {t u : TS} {D : Ends} (hx : σ[i]? = some (some x)) (h : TyX K H x (.type a)) (hk : kitB a b = some r) (hq : if r = true then t D σ H else u D σ H) : tIfS (tB (tCB (rIsi K) (tCons (tVar i) (tCons (tC (.ty b)) tNil)))) t u D σ H :=
  ⟨x, hx, x, .ty b, .type a, .type b, r, rfl, .ty b, h, kit_ty hk, r, rfl, hq⟩
theorem isiN_read {K : PySem.W.Frag} {σ : L2.St} {H : Hp} {i : Nat} {x : V} {a b : String} {u : TT} {Q : Bool → Hp → Prop} (hx : σ[i]? = some (some x)) (h : TyX K H x (.type a)) (hk : kitB a b = some true) (hq : u σ H Q) : tOr (tNot (tB (tCB (rIsi K) (tCons (tVar i) (tCons (tC (.ty b)) tNil))))) u σ H Q :=
  ⟨x, hx, x, .ty b, .type a, .type b, true, rfl, .ty b, h, kit_ty hk, true, rfl, hq⟩
theorem isiA_read {K : PySem.W.Frag} {σ : L2.St} {H : Hp} {i : Nat} {x : V} {a b : String} {tb : TE} {Q : VK} (hx : σ[i]? = some (some x)) (h : TyX K H x (.type a)) (hk : kitB a b = some true) (hq : tb σ H Q) : tAndV (tCB (rIsi K) (tCons (tVar i) (tCons (tC (.ty b)) tNil))) tb σ H Q :=
  ⟨x, hx, x, .ty b, .type a, .type b, true, rfl, .ty b, h, kit_ty hk, true, rfl, hq⟩
theorem isiNA_read {K : PySem.W.Frag} {σ : L2.St} {H : Hp} {i : Nat} {x : V} {a b : String} {tb : TE} {Q : VK} (hx : σ[i]? = some (some x)) (h : TyX K H x (.type a)) (hk : kitB a b = some false) (hq : tb σ H Q) : tAndV (tNotV (tCB (rIsi K) (tCons (tVar i) (tCons (tC (.ty b)) tNil)))) tb σ H Q :=
  ⟨x, hx, x, .ty b, .type a, .type b, false, rfl, .ty b, h, kit_ty hk, false, rfl, true, rfl, hq⟩
variable {P : Program} {w : World} {K : PySem.W.Frag} {mg : Str → Option Value} {base : Heap}
def nSame : List Str := ["_law_actual", "_law_due_here", "_law_k"]
theorem scSame : FnScope nSame ["_law_actual", "_law_due_here"] (defScope sSame) := ⟨rfl, rfl, rfl, by decide +kernel, rfl, by decide +kernel, by decide +kernel⟩
def spSame (K : PySem.W.Frag) (m : Nat) : Sp := fun vs H Q _ => ∃ (v u : V) (d : PyData), vs = [v, u] ∧ Dp K H v d ∧ Dp K H u d ∧ DOk m d ∧ Q (.bl true) H
/-- the calls of itself, when there are any -/
def spRec (K : PySem.W.Frag) : Nat → Sp
  | 0 => fun _ _ _ _ => False
  | m + 1 => spSame K m
theorem ok_same (T : Fx K mg) : ∀ m : Nat, FnOk P w K mg base CX0 (m + 2) (He.ga K "_law_same") T.fd_law_same ["_law_actual", "_law_due_here"] (spSame K m) := by
  intro m
  have ih : FnOk P w K mg base CX0 (m + 1) (He.ga K "_law_same") T.fd_law_same ["_law_actual", "_law_due_here"] (spRec K m) := by
    cases m with
    | zero => exact ⟨fun _ _ _ _ h => h.elim, fun _ _ _ _ _ _ _ _ _ _ _ _ _ h => h.elim⟩
    | succ m => exact ok_same T m
  have bS : Binds K T.fd_law_same ["_law_actual", "_law_due_here"] [] := T.F_law_same.bindsN fun _ _ _ _ _ _ us hl => match us, hl with | [_, _], _ => rfl
  refine T.F_law_same.ok scSame (fun vs H Q E h => ?_) (fun cdv A outer s H vs Q E hr h => ⟨_, PSs.nox (pss_cons (ps_if (pt_cmpR op_isN (pv 1) pe_non (nomark _)) pss_never pss_nil)
    (pss_cons (ps_if (pt_val (pe_callB call_isi (by rfl) T.n_isinstance (by decide +kernel) (pa_cons (pv 1) (pa_cons (pe_bltn (v := .ty "bool") (by rfl) T.n_bool (by decide +kernel) rfl) pa_nil)))) pss_never pss_nil)
    (pss_cons (ps_if (pt_val (pe_callB call_isi (by rfl) T.n_isinstance (by decide +kernel) (pa_cons (pv 1) (pa_cons (pe_bltn (v := .ty "int") (by rfl) T.n_int (by decide +kernel) rfl) pa_nil)))) (pss_one (ps_ret (pe_and (pe_callB call_isi (by rfl) T.n_isinstance (by decide +kernel) (pa_cons (pv 0) (pa_cons (pe_bltn (v := .ty "int") (by rfl) T.n_int (by decide +kernel) rfl) pa_nil))) (pe_and (pe_not (pe_callB call_isi (by rfl) T.n_isinstance (by decide +kernel) (pa_cons (pv 0) (pa_cons (pe_bltn (v := .ty "bool") (by rfl) T.n_bool (by decide +kernel) rfl) pa_nil)))) (pe_one (pe_cmpR op_eq (pv 0) (pv 1) (nomark _))))))) pss_nil)
    (pss_cons (ps_if (pt_val (pe_callB call_isi (by rfl) T.n_isinstance (by decide +kernel) (pa_cons (pv 1) (pa_cons (pe_bltn (v := .ty "str") (by rfl) T.n_str (by decide +kernel) rfl) pa_nil)))) (pss_one (ps_ret (pe_and (pe_callB call_isi (by rfl) T.n_isinstance (by decide +kernel) (pa_cons (pv 0) (pa_cons (pe_bltn (v := .ty "str") (by rfl) T.n_str (by decide +kernel) rfl) pa_nil))) (pe_one (pe_cmpR op_eq (pv 0) (pv 1) (nomark _)))))) pss_nil)
    (pss_cons (ps_if (pt_val (pe_callB call_isi (by rfl) T.n_isinstance (by decide +kernel) (pa_cons (pv 1) (pa_cons (pe_bltn (v := .ty "tuple") (by rfl) T.n_tuple (by decide +kernel) rfl) pa_nil)))) (pss_one (ps_if (PW.pt (pw_or (pt_not (pt_val (pe_callB call_isi (by rfl) T.n_isinstance (by decide +kernel) (pa_cons (pv 0) (pa_cons (pe_bltn (v := .ty "tuple") (by rfl) T.n_tuple (by decide +kernel) rfl) pa_nil))))) (pw_or1 (pt_cmpR op_ne (pe_callB call_len_seq (by rfl) T.n_len PySem.boot_len (pa_cons (pv 0) pa_nil)) (pe_callB call_len_seq (by rfl) T.n_len PySem.boot_len (pa_cons (pv 1) pa_nil)) (nomark _))))) pss_never pss_nil))
      (pss_one (ps_if (PW.pt (pw_or (pt_not (pt_val (pe_callB call_isi (by rfl) T.n_isinstance (by decide +kernel) (pa_cons (pv 0) (pa_cons (pe_bltn (v := .ty "list") (by rfl) T.n_list (by decide +kernel) rfl) pa_nil))))) (pw_or1 (pt_cmpR op_ne (pe_callB call_len_seq (by rfl) T.n_len PySem.boot_len (pa_cons (pv 0) pa_nil)) (pe_callB call_len_seq (by rfl) T.n_len PySem.boot_len (pa_cons (pv 1) pa_nil)) (nomark _))))) pss_never pss_nil)))
    (pss_cons (ps_for PassesOwn.never rfl (pi_range1 rfl T.n_range (pa_cons (pe_callB call_len_seq (by rfl) T.n_len PySem.boot_len (pa_cons (pv 1) pa_nil)) pa_nil)) (pg_name (i := 2) scSame.nd rfl (Or.inl rfl)) (pss_one (ps_if (pt_not (pt_val (pe_call ih hr rfl T.g_law_same T.F_law_same.kp bS .nil pass0 (pa_cons (pe_ix ix_seq (pv 0) (pv 2) (fun _ _ => rfl)) (pa_cons (pe_ix ix_seq (pv 1) (pv 2) (fun _ _ => rfl)) pa_nil))))) pss_never pss_nil)))
    (pss_one (ps_ret pe_bl)))))))), ?_⟩)
  · obtain ⟨_, _, _, rfl, _⟩ := h
    rfl
  obtain ⟨v, u, d, rfl, hv, hu, hd, hq⟩ := h
  -- the walk over two sequences of the same data
  have walk : ∀ (a b : Addr) (xs ys : List V) (ds : List PyData) (Z : Ends), ds.length ≤ 1000 → (SqL K H a xs ∨ SqT K H a xs) → (SqL K H b ys ∨ SqT K H b ys) → DpAll K H xs ds → DpAll K H ys ds → (∀ d, d ∈ ds → ∃ m', m = m' + 1 ∧ DOk m' d) → Z.rt (.bl true) H →
      tSeq (tFor (iRng1 (tCons (tCB (rLenSq K) (tCons (tVar 1) tNil)) tNil)) (gName 2) (tIfS (tNot (tB (tCall (spRec K m) [] E0 (tCons (tOp (rIx K) (tVar 0) (tVar 2)) (tCons (tOp (rIx K) (tVar 1) (tVar 2)) tNil))))) tNever tNext)) (tRet (tC (.bl true))) Z [some (.ref a), some (.ref b), none] H := fun a b xs ys ds Z hl ha hb hx hy hds hZ => by
    have l1 := (dpAll_len hx)
    have l2 := (dpAll_len hy)
    refine ⟨_, rfl, b, ys, rfl, hb, ?_⟩
    refine ⟨_, rfl, by omega, by omega, ?_⟩
    refine for_range (lo := 0) (n := ((ys.length : Nat) : Int).toNat) (fun i σ H' => H' = H ∧ ∃ c, σ = [some (.ref a), some (.ref b), c]) ⟨rfl, none, rfl⟩ (fun i σ H' hi z => ?_) fun σ H' z => ?_
    · obtain ⟨rfl, c, rfl⟩ := z
      have hi' : i < ds.length := by omega
      rw [show (0 : Int) + (i : Int) = (i : Int) from Int.zero_add _]
      have hdi : ds[i]? = some ds[i] := List.getElem?_eq_getElem hi'
      obtain ⟨x, gx, dx⟩ := dpAll_get hx hdi
      obtain ⟨y, gy, dy⟩ := dpAll_get hy hdi
      obtain ⟨m', rfl, hok⟩ := hds ds[i] (List.getElem_mem hi')
      have ix : ∀ (p : Addr) (zs : List V) (z : V) (R : VK), (SqL K H' p zs ∨ SqT K H' p zs) → zs[i]? = some z → R z H' → rIx K (.ref p) (.int (i : Int)) H' R := fun p zs z R hp hz hR => by
        rcases hp with hp | hp
        · exact .inl ⟨p, zs, (i : Int), z, rfl, rfl, hp, atI_nat hz, hR⟩
        · exact .inr (.inl ⟨p, zs, (i : Int), z, rfl, rfl, hp, atI_nat hz, hR⟩)
      refine ⟨_, rfl, _, rfl, ix a xs x _ ha gx ?_⟩
      refine ⟨_, rfl, _, rfl, ix b ys y _ hb gy ?_⟩
      refine ⟨x, y, ds[i], rfl, dx, dy, hok, _, rfl, ?_⟩
      exact iteF ⟨rfl, _, rfl⟩
    · obtain ⟨rfl, c, rfl⟩ := z
      exact hZ
  cases hd with
  | int m i =>
    cases hv
    cases hu
    refine ⟨_, rfl, rfl, _, rfl, iteF ?_⟩
    refine isiS_read (r := false) rfl (.base (.int i)) (by decide +kernel) (iteF ?_)
    refine isiS_read (r := true) rfl (.base (.int i)) (by decide +kernel) (iteT ?_)
    refine isiA_read rfl (.base (.int i)) (by decide +kernel) ?_
    refine isiNA_read rfl (.base (.int i)) (by decide +kernel) ?_
    refine ⟨_, rfl, _, rfl, rfl, ?_⟩
    rw [ival rfl]
    exact hq
  | str m x =>
    cases hv
    cases hu
    refine ⟨_, rfl, rfl, _, rfl, iteF ?_⟩
    refine isiS_read (r := false) rfl (.base (.str x)) (by decide +kernel) (iteF ?_)
    refine isiS_read (r := false) rfl (.base (.str x)) (by decide +kernel) (iteF ?_)
    refine isiS_read (r := true) rfl (.base (.str x)) (by decide +kernel) (iteT ?_)
    refine isiA_read rfl (.base (.str x)) (by decide +kernel) ?_
    refine ⟨_, rfl, _, rfl, rfl, ?_⟩
    rw [show decide (V.str x = V.str x) = true from decide_eq_true rfl]
    exact hq
  | lst m ds hl hds =>
    cases hv with
    | @lst a xs _ ha hx =>
    cases hu with
    | @lst b ys _ hb hy =>
    refine ⟨_, rfl, rfl, _, rfl, iteF ?_⟩
    refine isiS_read (r := false) rfl (ty_sqL hb) (by decide +kernel) (iteF ?_)
    refine isiS_read (r := false) rfl (ty_sqL hb) (by decide +kernel) (iteF ?_)
    refine isiS_read (r := false) rfl (ty_sqL hb) (by decide +kernel) (iteF ?_)
    refine isiS_read (r := false) rfl (ty_sqL hb) (by decide +kernel) (iteF ?_)
    refine isiN_read rfl (ty_sqL ha) (by decide +kernel) ?_
    refine ⟨_, rfl, a, xs, rfl, .inl ha, _, rfl, b, ys, rfl, .inl hb, rfl, _, rfl, ?_⟩
    rw [ival (by rw [(dpAll_len hx), (dpAll_len hy)])]
    refine iteF ?_
    exact walk a b xs ys ds _ hl (.inl ha) (.inl hb) hx hy (fun d h => ⟨m, rfl, hds d h⟩) hq
  | tup m ds hl hds =>
    cases hv with
    | @tup a xs _ ha hx =>
    cases hu with
    | @tup b ys _ hb hy =>
    refine ⟨_, rfl, rfl, _, rfl, iteF ?_⟩
    refine isiS_read (r := false) rfl (ty_sqT hb) (by decide +kernel) (iteF ?_)
    refine isiS_read (r := false) rfl (ty_sqT hb) (by decide +kernel) (iteF ?_)
    refine isiS_read (r := false) rfl (ty_sqT hb) (by decide +kernel) (iteF ?_)
    refine isiS_read (r := true) rfl (ty_sqT hb) (by decide +kernel) (iteT ?_)
    refine isiN_read rfl (ty_sqT ha) (by decide +kernel) ?_
    refine ⟨_, rfl, a, xs, rfl, .inr ha, _, rfl, b, ys, rfl, .inr hb, rfl, _, rfl, ?_⟩
    rw [ival (by rw [(dpAll_len hx), (dpAll_len hy)])]
    refine iteF ?_
    exact walk a b xs ys ds _ hl (.inr ha) (.inr hb) hx hy (fun d h => ⟨m, rfl, hds d h⟩) hq
end
end NA
set_option maxRecDepth 100000
set_option maxHeartbeats 4000000
/-! the facts of the exceptions. -/
namespace NA
open PySem PySem.Spec PyProof.Rows L2
abbrev cBL (K : PySem.W.Frag) : Addr := He.ga K "BadLabels"
abbrev cNE (K : PySem.W.Frag) : Addr := He.ga K "NotEven"
abbrev cNA (K : PySem.W.Frag) : Addr := He.ga K "NeverAloneError"
structure Fe (P : Program) (K : PySem.W.Frag) (mg : Str → Option Value) where
  xB : XTxt P K (cBL K) (He.ma K (cBL K) "__init__") sBadLabelsI "BadLabels.__init__" "fault" "at"
  xN : XTxt P K (cNE K) (He.ma K (cNE K) "__init__") sNotEvenI "NotEven.__init__" "at" "face"
  gB : mg "BadLabels" = some (.ref (cBL K))
  gN : mg "NotEven" = some (.ref (cNE K))
  gA : mg "NeverAloneError" = some (.ref (cNA K))
  sup : mg "super" = none
  fB : XfC K (cBL K)
  fN : XfC K (cNE K)
/-- a label out of range; a label that is not used -/
def badL (ls : List Int) (k : Int) (i : Nat) : Bool := !decide (1 ≤ ls.getD i 0 ∧ ls.getD i 0 ≤ k)
def unuL (ls : List Int) (i : Nat) : Bool := decide (1 + (i : Int) ∉ ls)
/-- the outcome of the labels' check: the fault and where -/
def chkIn (ls : List Int) (k : Int) : Option (Str × Int) := ((List.range ls.length).find? (badL ls k)).map fun i : Nat => ("label", (i : Int))
def chkUse (ls : List Int) (k : Nat) : Option (Str × Int) := ((List.range k).find? (unuL ls)).map fun i : Nat => ("unused", 1 + (i : Int))
def chkKinds (ls : List Int) (k : Nat) : Option (Str × Int) := if 1 ≤ k ∧ k < ls.length then (chkIn ls k).orElse fun _ => chkUse ls k else some ("kinds", (k : Int))
theorem findR {p : Nat → Bool} {n i : Nat} (h1 : i < n) (h2 : p i = true) (h3 : ∀ j, j < i → p j = false) : (List.range n).find? p = some i := by
  rw [List.find?_range_eq_some]
  exact ⟨h2, List.mem_range.mpr h1, fun j hj => by rw [h3 j hj]; rfl⟩
theorem findN {p : Nat → Bool} {n : Nat} (h : ∀ j, j < n → p j = false) : (List.range n).find? p = none := by
  rw [List.find?_range_eq_none]
  exact fun j hj => by rw [h j hj]; rfl
/-- BadLabels(f, a) leaves -/
def Leaves (K : PySem.W.Frag) (H : Hp) (E : XK) (f : Str) (a : Int) : Prop := ∀ d H', Ext H H' → H d = none → H' d = some (.xd [("fault", .str f), ("at", .int a)]) → E (.ref (cBL K)) (some d) H'
end NA
set_option maxRecDepth 100000
set_option maxHeartbeats 4000000
/-! check_labels. -/
namespace NA
open PySem PySem.Spec PyProof.Rows L2
def LenOk (K : PySem.W.Frag) (H : Hp) (l : Addr) (xs : List V) : Prop := SqL K H l xs ∨ SqT K H l xs
section
variable {P : Program} {w : World} {K : PySem.W.Frag} {mg : Str → Option Value} {base : Heap}
def nChk : List Str := ["labels", "kinds", "at", "label"]
theorem scChk : FnScope nChk ["labels", "kinds"] (defScope sCheckLabels) := ⟨rfl, rfl, rfl, by decide +kernel, rfl, by decide +kernel, by decide +kernel⟩
def spChk (K : PySem.W.Frag) : Sp := fun vs H Q E => ∃ (l : Addr) (ls : List Int) (k : Nat), vs = [.ref l, .int (k : Int)] ∧ (SqL K H l (iV ls) ∨ SqT K H l (iV ls)) ∧ ls.length ≤ 63 ∧ k ≤ 63 ∧
  (match chkKinds ls k with
    | some (f, a) => Leaves K H E f a
    | none => ∀ H', Ext H H' → Q .non H')
theorem ok_chk (T : Fx K mg) (Z : Fe P K mg) : FnOk P w K mg base (L2.CX P w) 3 (He.ga K "check_labels") T.fd_check_labels ["labels", "kinds"] (spChk K) := by
  refine T.F_check_labels.ok scChk (fun vs H Q E h => ?_) (fun cdv A outer s H vs Q E hr h => ⟨_, pss_cons (ps_if (pt_not (pt_chain op_le op_lt pe_int (pv 1) (pe_callB call_len_seq (by rfl) T.n_len PySem.boot_len (pa_cons (pv 0) pa_nil)))) (pss_one (ps_raise rfl (takes_of rfl rfl rfl rfl) (pmk_BadLabels Z.xB Z.gB Z.sup hr (pa_cons pe_str (pa_cons (pv 1) pa_nil))))) pss_nil)
    (pss_cons (ps_for (passes_of rfl) rfl (pi_enumS rfl T.n_enumerate (pa_cons (pv 0) pa_nil)) (pg_tup rfl (pgs_cons (pg_name (i := 2) scChk.nd rfl (Or.inl rfl)) (pgs_cons (pg_name (i := 3) scChk.nd rfl (Or.inl rfl)) pgs_nil))) (pss_one (ps_if (pt_not (pt_chain op_le op_le pe_int (pv 3) (pv 1))) (pss_one (ps_raise rfl (takes_of rfl rfl rfl rfl) (pmk_BadLabels Z.xB Z.gB Z.sup hr (pa_cons pe_str (pa_cons (pv 2) pa_nil))))) pss_nil)))
    (pss_one (ps_for (passes_of rfl) rfl (pi_range2 rfl T.n_range (pa_cons pe_int (pa_cons (pe_op op_add (pv 1) pe_int) pa_nil))) (pg_name (i := 3) scChk.nd rfl (Or.inl rfl)) (pss_one (ps_if (pt_cmpR op_notIn_seq (pv 3) (pv 0) (by rfl)) (pss_one (ps_raise rfl (takes_of rfl rfl rfl rfl) (pmk_BadLabels Z.xB Z.gB Z.sup hr (pa_cons pe_str (pa_cons (pv 3) pa_nil))))) pss_nil))))), ?_⟩)
  · obtain ⟨_, _, _, rfl, _⟩ := h
    rfl
  obtain ⟨l, ls, k, rfl, hl, hn, hk, hq⟩ := h
  have sz : sizeLine = 16777216 := sizeLine_eq
  have noneOf : ∀ {H' : Hp} {d : Addr}, Ext H H' → H' d = none → H d = none := fun {H' d} e hd => by
    cases z : H d with
    | none => rfl
    | some u => rw [e _ _ z] at hd; cases hd
  -- the raise
  have rz : ∀ (f : Str) (a : Int) (H' : Hp) (d : Addr), chkKinds ls k = some (f, a) → Ext H H' → H' d = none → E (.ref (cBL K)) (some d) (upd H' d (.xd [("fault", .str f), ("at", .int a)])) := fun f a H' d e ex hd => by
    rw [e] at hq
    exact hq d _ (ex.trans (Ext.upd hd)) (noneOf ex hd) upd_same
  have kinds : ¬ (1 ≤ k ∧ k < ls.length) → chkKinds ls k = some (("kinds" : Str), (k : Int)) := fun h => if_neg h
  refine ⟨_, rfl, _, _, rfl, rfl, _, rfl, ?_⟩
  refine ite2 (fun h1 => ?_) fun h1 => ?_
  · have h1' : (1 : Int) ≤ (k : Int) := of_decide_eq_true h1
    refine ⟨_, rfl, l, iV ls, rfl, hl, _, _, rfl, rfl, _, rfl, ?_⟩
    rw [iV_len]
    by_cases h2 : k < ls.length
    · rw [decide_eq_true (show (k : Int) < (ls.length : Int) by omega)]
      refine iteF ?_
      have hin : 1 ≤ k ∧ k < ls.length := ⟨by omega, h2⟩
      have hchk : chkKinds ls k = (chkIn ls k).orElse fun _ => chkUse ls k := if_pos hin
      refine ⟨_, rfl, ?_⟩
      refine for_enumS hl (fun i σ H' => (∃ a b, σ = [some (.ref l), some (.int (k : Int)), a, b]) ∧ Ext H H' ∧ ∀ j, j < i → badL ls k j = false) ⟨⟨none, none, rfl⟩, Ext.refl _, fun j hj => absurd hj (Nat.not_lt_zero _)⟩ (fun i σ H' _ z => ⟨fun h => sqL_ext h z.2.1, fun h => sqT_ext h z.2.1⟩) (fun i v Tn σ H' hv z hT => ?_) fun σ H' z => ?_
      · obtain ⟨⟨a, b, rfl⟩, ex, hb⟩ := z
        obtain ⟨m, hm, rfl⟩ := iV_get hv
        have hi : i < ls.length := (List.getElem?_eq_some_iff.mp hm).1
        have hgd : ls.getD i 0 = m := by rw [List.getD_eq_getElem?_getD, hm]; rfl
        have ex1 : Ext H (upd H' Tn (.tup [.int (i : Nat), .int m])) := ex.trans (Ext.upd hT)
        have bad : badL ls k i = true → chkKinds ls k = some (("label" : Str), (i : Int)) := fun h => by
          rw [hchk]
          unfold chkIn
          rw [findR hi h hb]
          rfl
        refine g2_read ?_
        refine ⟨_, rfl, _, _, rfl, rfl, _, rfl, ?_⟩
        refine ite2 (fun g1 => ?_) fun g1 => ?_
        · have g1' : (1 : Int) ≤ m := of_decide_eq_true g1
          refine ⟨_, rfl, _, _, rfl, rfl, _, rfl, ?_⟩
          by_cases g2 : m ≤ (k : Int)
          · rw [decide_eq_true g2]
            refine iteF ?_
            refine ⟨⟨_, _, rfl⟩, ex1, fun j hj => ?_⟩
            by_cases e : j = i
            · subst e
              unfold badL
              rw [hgd, decide_eq_true ⟨g1', g2⟩]
              rfl
            · exact hb j (by omega)
          · rw [decide_eq_false g2]
            refine iteT ?_
            refine ⟨_, rfl, _, _, rfl, fun d hd => rz "label" (i : Int) _ d (bad ?_) ex1 hd⟩
            unfold badL
            rw [hgd, decide_eq_false (fun z => g2 z.2)]; first | done | rfl
        · refine ⟨_, rfl, iteT ?_⟩
          have g1' : ¬ (1 : Int) ≤ m := fun z => g1 (decide_eq_true z)
          refine ⟨_, rfl, _, _, rfl, fun d hd => rz "label" (i : Int) _ d (bad ?_) ex1 hd⟩
          unfold badL
          rw [hgd, decide_eq_false (fun z => g1' z.1)]; first | done | rfl
      · obtain ⟨⟨a, b, rfl⟩, ex, hb⟩ := z
        rw [iV_len] at hb
        have hIn : chkIn ls k = none := by
          unfold chkIn
          rw [findN hb]
          rfl
        refine ⟨_, rfl, _, _, rfl, rfl, _, _, rfl, ⟨by omega, by omega, by omega, by omega⟩, ?_⟩
        refine for_range (lo := 1) (n := (((k : Int) + 1) - 1).toNat) (fun i σ H2 => (∃ a b, σ = [some (.ref l), some (.int (k : Int)), a, b]) ∧ H2 = H' ∧ ∀ j, j < i → unuL ls j = false) ⟨⟨_, _, rfl⟩, rfl, fun j hj => absurd hj (Nat.not_lt_zero _)⟩ (fun i σ H2 hi z => ?_) fun σ H2 z => ?_
        · obtain ⟨⟨a, b, rfl⟩, rfl, hu⟩ := z
          have hl2 : SqL K H2 l (iV ls) ∨ SqT K H2 l (iV ls) := hl.imp (fun h => sqL_ext h ex) fun h => sqT_ext h ex
          refine ⟨_, rfl, _, rfl, l, iV ls, rfl, hl2, rfl, iV_flat _, _, rfl, ?_⟩
          rw [iV_in]
          by_cases g : (1 + (i : Int)) ∈ ls
          · rw [decide_eq_true g]
            refine iteF ⟨⟨_, _, rfl⟩, rfl, fun j hj => ?_⟩
            by_cases e : j = i
            · subst e
              exact decide_eq_false (fun z => z g)
            · exact hu j (by omega)
          · rw [decide_eq_false g]
            refine iteT ?_
            refine ⟨_, rfl, _, _, rfl, fun d hd => rz "unused" (1 + (i : Int)) _ d ?_ ex hd⟩
            rw [hchk, hIn]
            show chkUse ls k = _
            unfold chkUse
            rw [findR (i := i) (by omega) (decide_eq_true g) hu]
            rfl
        · obtain ⟨⟨a, b, rfl⟩, rfl, hu⟩ := z
          have e : (((k : Int) + 1) - 1).toNat = k := by omega
          rw [e] at hu
          have : chkKinds ls k = none := by
            rw [hchk, hIn]
            show chkUse ls k = none
            unfold chkUse
            rw [findN hu]
            rfl
          rw [this] at hq
          exact hq _ ex
    · rw [decide_eq_false (show ¬ (k : Int) < (ls.length : Int) by omega)]
      refine iteT ?_
      exact ⟨_, rfl, _, _, rfl, fun d hd => rz "kinds" (k : Int) H d (kinds fun z => h2 z.2) (Ext.refl _) hd⟩
  · refine ⟨_, rfl, iteT ?_⟩
    have h1' : ¬ (1 : Int) ≤ (k : Int) := fun z => h1 (decide_eq_true z)
    exact ⟨_, rfl, _, _, rfl, fun d hd => rz "kinds" (k : Int) H d (kinds fun z => h1' (by omega)) (Ext.refl _) hd⟩
end
end NA
set_option maxRecDepth 100000
set_option maxHeartbeats 4000000
/-! one place of each label. -/
namespace NA
open PySem PySem.Spec PyProof.Rows L2
def alike (ls : List Int) (n : Nat) (l : Int) : List Int := (rng n).filter fun p => decide (lab ls p = l)
def chos (ls : List Int) (n : Nat) : Nat → List (List Int)
  | 0 => [[]]
  | l + 1 => (chos ls n l).flatMap fun c => (alike ls n (1 + (l : Int))).map fun p => c ++ [p]
theorem ones_succ (s : Nat) : ones (s + 1) = ones s ++ [1 + (s : Int)] := by
  unfold ones
  rw [List.range_succ, List.map_append]
  rfl
theorem ones_len (s : Nat) : (ones s).length = s := by
  unfold ones
  rw [List.length_map, List.length_range]
theorem ones_nodup (s : Nat) : (ones s).Nodup := by
  unfold ones
  refine List.Pairwise.map _ (fun a b h => ?_) List.nodup_range
  exact fun e => h (by omega)
theorem mem_chos {ls : List Int} {n : Nat} : ∀ {l : Nat} {c : List Int}, c ∈ chos ls n l ↔ c.map (lab ls) = ones l ∧ ∀ p ∈ c, p ∈ rng n
  | 0, c => by
    unfold chos
    constructor
    · intro h
      rw [List.mem_singleton.mp h]
      exact ⟨rfl, fun p hp => by cases hp⟩
    · rintro ⟨h, _⟩
      have : c = [] := List.map_eq_nil_iff.mp h
      rw [this]
      exact List.mem_singleton.mpr rfl
  | l + 1, c => by
    unfold chos
    rw [List.mem_flatMap, ones_succ]
    constructor
    · rintro ⟨d, hd, hc⟩
      obtain ⟨p, hp, rfl⟩ := List.mem_map.mp hc
      obtain ⟨h1, h2⟩ := mem_chos.mp hd
      obtain ⟨q1, q2⟩ := List.mem_filter.mp hp
      refine ⟨?_, fun q hq => ?_⟩
      · rw [List.map_append, h1]
        show _ ++ [lab ls p] = _
        rw [of_decide_eq_true q2]
      · rcases List.mem_append.mp hq with z | z
        · exact h2 q z
        · rw [List.mem_singleton.mp z]; exact q1
    · rintro ⟨h1, h2⟩
      obtain ⟨d, e, rfl, hd, he⟩ := List.map_eq_append_iff.mp h1
      obtain ⟨p, rfl, hp⟩ := List.map_eq_singleton_iff.mp he
      refine ⟨d, mem_chos.mpr ⟨hd, fun q hq => h2 q (List.mem_append_left _ hq)⟩, List.mem_map.mpr ⟨p, List.mem_filter.mpr ⟨h2 p (List.mem_append_right _ (List.mem_singleton.mpr rfl)), decide_eq_true hp⟩, rfl⟩⟩
theorem chos_nodup {ls : List Int} {n : Nat} : ∀ l : Nat, (chos ls n l).Nodup
  | 0 => by unfold chos; simp
  | l + 1 => by
    unfold chos
    refine List.pairwise_flatMap.mpr ⟨fun c _ => List.Pairwise.map _ (fun a b h e => h ?_) ((rng_nodup n).filter _), (chos_nodup l).imp_of_mem fun {a b} ha hb h x hx y hy e => h ?_⟩
    · exact List.singleton_inj.mp (List.append_cancel_left e)
    · obtain ⟨p, _, rfl⟩ := List.mem_map.mp hx
      obtain ⟨q, _, rfl⟩ := List.mem_map.mp hy
      exact (List.append_inj' e rfl).1
theorem mem_compl {n : Nat} {c : List Int} {p : Int} : p ∈ compl n c ↔ p ∈ rng n ∧ p ∉ c := by
  unfold compl sub
  rw [List.mem_filter]
  constructor
  · rintro ⟨h1, h2⟩
    exact ⟨h1, fun z => by rw [decide_eq_true z] at h2; cases h2⟩
  · rintro ⟨h1, h2⟩
    exact ⟨h1, by rw [decide_eq_false h2]; rfl⟩
theorem compl_sub (n : Nat) (c : List Int) : (compl n c).Sublist (rng n) := List.filter_sublist
theorem labs_nodup {ls : List Int} {l : Nat} {c : List Int} (h : c.map (lab ls) = ones l) : c.Nodup := by
  have := ones_nodup l
  rw [← h] at this
  exact (List.pairwise_map.mp this).imp fun h e => h (congrArg _ e)
theorem filter_len {α : Type} (p : α → Bool) : ∀ l : List α, (l.filter p).length + (l.filter fun x => !p x).length = l.length
  | [] => rfl
  | a :: l => by
    have := filter_len p l
    cases h : p a
    · rw [List.filter_cons_of_neg (by rw [h]; decide), List.filter_cons_of_pos (by rw [h]; decide)]
      simp only [List.length_cons]
      omega
    · rw [List.filter_cons_of_pos h, List.filter_cons_of_neg (by rw [h]; decide)]
      simp only [List.length_cons]
      omega
theorem compl_len {n : Nat} {c : List Int} (hn : c.Nodup) (hs : ∀ p ∈ c, p ∈ rng n) : (compl n c).length + c.length = n := by
  have h := filter_len (fun p => decide (p ∈ c)) (rng n)
  have e : ((rng n).filter fun p => decide (p ∈ c)).Perm c := by
    refine (List.perm_ext_iff_of_nodup ((rng_nodup n).filter _) hn).mpr fun p => ?_
    rw [List.mem_filter]
    exact ⟨fun z => of_decide_eq_true z.2, fun z => ⟨hs p z, decide_eq_true z⟩⟩
  rw [e.length_eq, rng_len] at h
  show (List.filter _ _).length + _ = _
  omega
theorem chos_inj {ls : List Int} {n l : Nat} {c d : List Int} (hc : c ∈ chos ls n l) (hd : d ∈ chos ls n l) (h : compl n c = compl n d) : c = d := by
  obtain ⟨c1, c2⟩ := mem_chos.mp hc
  obtain ⟨d1, d2⟩ := mem_chos.mp hd
  have hm : ∀ p ∈ rng n, p ∉ c → p ∉ d := fun p hp hpc => by
    have := mem_compl.mpr ⟨hp, hpc⟩
    rw [h] at this
    exact (mem_compl.mp this).2
  have hm' : ∀ p, p ∈ d → p ∈ c := fun p hp => Classical.byContradiction fun z => hm p (d2 p hp) z hp
  have lc : c.length = l := by have := congrArg List.length c1; rwa [List.length_map, ones_len] at this
  have ld : d.length = l := by have := congrArg List.length d1; rwa [List.length_map, ones_len] at this
  have at1 : ∀ {e : List Int} (he : e.map (lab ls) = ones l) (i : Nat) (hi : i < e.length), lab ls e[i] = 1 + (i : Int) := fun {e} he i hi => by
    have hi' : i < (ones l).length := by rw [← he, List.length_map]; exact hi
    have h1 : (e.map (lab ls))[i]'(by rw [List.length_map]; exact hi) = (ones l)[i] := by simp only [he]
    rw [List.getElem_map] at h1
    rw [h1]
    simp only [ones, List.getElem_map, List.getElem_range]
  refine List.ext_getElem (lc.trans ld.symm) fun i h1 h2 => ?_
  obtain ⟨j, hj, e⟩ := List.mem_iff_getElem.mp (hm' _ (List.getElem_mem h2))
  have q1 := at1 c1 j hj
  have q2 := at1 d1 i h2
  rw [e, q2] at q1
  have : i = j := by omega
  subst this
  exact e
theorem chos_comb {ls : List Int} {n k : Nat} {c : List Int} (hc : c ∈ chos ls n k) : compl n c ∈ combs (rng n) (n - k) := by
  obtain ⟨c1, c2⟩ := mem_chos.mp hc
  refine mem_combs.mpr ⟨compl_sub n c, ?_⟩
  have := compl_len (labs_nodup c1) c2
  have lc : c.length = k := by have := congrArg List.length c1; rwa [List.length_map, ones_len] at this
  omega
theorem chos_rooms {ls : List Int} {n k : Nat} : ((chos ls n k).map (compl n)).Nodup := by
  refine List.pairwise_map.mpr ((chos_nodup k).imp_of_mem fun {a b} ha hb h e => h (chos_inj ha hb e))
theorem chos_len {ls : List Int} {n k : Nat} (hn : n ≤ 7) : (chos ls n k).length ≤ 35 := by
  have h := nodup_lenT (chos_rooms (ls := ls) (n := n) (k := k)) (m := combs (rng n) (n - k)) fun x hx => by
    obtain ⟨c, hc, rfl⟩ := List.mem_map.mp hx
    exact chos_comb hc
  rw [List.length_map] at h
  exact Nat.le_trans h (combs_len _ _ (by rw [rng_len]; exact hn))
end NA
set_option maxRecDepth 100000
set_option maxHeartbeats 4000000
/-! label_book. -/
namespace NA
open PySem PySem.Spec PyProof.Rows L2
theorem make_ext {H H' : Hp} {x dx : Addr} {o i : HO} (h1 : H x = none) (h2 : H dx = none) (h : ExtB x (upd (upd H dx o) x i) H') : Ext H H' := fun b u e => by
  have n1 : b ≠ x := fun z => by rw [z, h1] at e; cases e
  have n2 : b ≠ dx := fun z => by rw [z, h2] at e; cases e
  refine h b u n1 ?_
  rw [upd_ne n1, upd_ne n2]
  exact e
theorem book_ext {K : PySem.W.Frag} {H H' : Hp} {x : Addr} {n k : Nat} {rs : List (List Int)} (h : BookAt K H x n k rs) (e : Ext H H') : BookAt K H' x n k rs := by
  obtain ⟨dx, t, ys, h1, h2, h3⟩ := h
  exact ⟨dx, t, ys, e _ _ h1, e _ _ h2, h3.ext e⟩
theorem chkN {ls : List Int} {k : Nat} (h : chkKinds ls k = none) : (1 ≤ k ∧ k < ls.length) ∧ chkIn ls k = none ∧ chkUse ls k = none := by
  unfold chkKinds at h
  split at h
  · rename_i g
    cases e : chkIn ls k with
    | some z => rw [e] at h; cases h
    | none => rw [e] at h; exact ⟨g, rfl, h⟩
  · cases h
section
variable {P : Program} {w : World} {K : PySem.W.Frag} {mg : Str → Option Value} {base : Heap}
def nLB : List Str := ["labels", "kinds", "empty", "lacking", "label", "alike", "place", "chosen"]
theorem scLB : FnScope nLB ["labels", "kinds"] (defScope sLabelBook) := ⟨rfl, rfl, rfl, by decide +kernel, rfl, by decide +kernel, by decide +kernel⟩
def spLB (K : PySem.W.Frag) : Sp := fun vs H Q E => ∃ (l : Addr) (ls : List Int) (k : Nat), vs = [.ref l, .int (k : Int)] ∧ (SqL K H l (iV ls) ∨ SqT K H l (iV ls)) ∧ ls.length ≤ 7 ∧ k ≤ 63 ∧
  (match chkKinds ls k with
    | some (f, a) => Leaves K H E f a
    | none => ∀ x H' qs, Ext H H' → H x = none → BookAt K H' x ls.length (ls.length - k) qs → qs.Perm ((chos ls ls.length k).map (compl ls.length)) → qs.Pairwise (fun a b => cd a ≤ cd b) → Q (.ref x) H')
def rIxA (K : PySem.W.Frag) : R2 := fun x y H Q => rIxL K x y H Q ∨ rIxT K x y H Q
theorem ix_any {X : Cx} : IxR X (rIxA X.K) := ix_list.or ix_tup
theorem ixA_read {K : PySem.W.Frag} {l : Addr} {ls : List Int} {H : Hp} {p : Int} {Q : VK} (hl : SqL K H l (iV ls) ∨ SqT K H l (iV ls)) (h0 : 0 ≤ p) (h1 : p < ls.length) (hq : Q (.int (lab ls p)) H) : rIxA K (.ref l) (.int p) H Q := by
  rcases hl with h | h
  · exact .inl ⟨l, iV ls, p, _, rfl, rfl, h, lab_at h0 h1, hq⟩
  · exact .inr ⟨l, iV ls, p, _, rfl, rfl, h, lab_at h0 h1, hq⟩
theorem seq_ext {K : PySem.W.Frag} {H H' : Hp} {l : Addr} {xs : List V} (h : SqL K H l xs ∨ SqT K H l xs) (e : Ext H H') : SqL K H' l xs ∨ SqT K H' l xs := h.imp (fun h => sqL_ext h e) fun h => sqT_ext h e
def tAlike (K : PySem.W.Frag) : TE := tLc (iRng1 (tCons (tFld K (tVar 2) "places") tNil)) (gName 6) (tTest (tOp rEq (tOp (rIxA K) (tVar 0) (tVar 6)) (tVar 4))) (tVar 6) [6]
def tLack (K : PySem.W.Frag) : TE := tLc2 (iList K (tVar 3)) (gName 7) tYes (iList K (tVar 5)) (gName 6) tYes (tOp (rCatA K) (tVar 7) (tTup (tCons (tVar 6) tNil))) [7, 6] [6]
def tComs (K : PySem.W.Frag) : TE := tLc (iList K (tVar 3)) (gName 7) tYes (tCall spCompl [] (fun _ _ _ => False) (tCons (tFld K (tVar 2) "places") (tCons (tVar 7) tNil))) [7]
theorem ext_updN {H H' : Hp} {D : Addr} {u : HO} (e : Ext H H') (hD : H D = none) : Ext H (upd H' D u) := fun b v hb => by
  rw [upd_ne (fun z => by rw [z, hD] at hb; cases hb)]
  exact e b v hb
theorem tis_lst {H : Hp} {D : Addr} {acc : List V} {u : HO} {xs : List V} {rs : List (List Int)} (h : TIs H xs rs) (hD : H D = some (.lst acc)) : TIs (upd H D u) xs rs := h.mono fun b ys hb => by
  rw [upd_ne (fun z => by rw [z, hD] at hb; cases hb)]
  exact hb
theorem alike_read (T : Fx K mg) {l x : Addr} {v1 v3 a b c : Option V} {lb : Int} {ls : List Int} {k : Nat} {rs : List (List Int)} {H : Hp} {Q : VK} (hl : SqL K H l (iV ls) ∨ SqT K H l (iV ls)) (hx : BookAt K H x ls.length k rs) (hn : ls.length ≤ 7)
    (hq : ∀ D, H D = none → Q (.ref D) (upd H D (.lst (iV (alike ls ls.length lb))))) : tAlike K [some (.ref l), v1, some (.ref x), v3, some (.int lb), a, b, c] H Q := by
  obtain ⟨dx, t, ys, hx, _, _⟩ := hx
  have sz : sizeLine = 16777216 := sizeLine_eq
  refine ⟨_, rfl, x, _, dx, _, _, rfl, hx, T.c_Book, T.na_Book_places, rfl, _, rfl, by omega, by omega, fun D hD => ?_⟩
  refine lc_range (lo := 0) (n := ((ls.length : Int)).toNat) (fun i H' => H' = upd H D (.lst (iV (((rng ls.length).take i).filter fun p => decide (lab ls p = lb))))) rfl (fun i H' hi e => ?_) fun H' e => ?_
  · rw [show (0 : Int) + (i : Int) = (i : Int) from Int.zero_add _]
    have hi' : i < ls.length := by simpa using hi
    have hg := rng_get hi'
    subst e
    refine ⟨rfl, ?_⟩
    refine ⟨_, rfl, _, rfl, ixA_read (seq_ext hl (Ext.upd hD)) (by omega) (by omega) ⟨.int lb, rfl, rfl, decide (V.int (lab ls (i : Int)) = V.int lb), rfl, ?_⟩⟩
    by_cases g : lab ls (i : Int) = lb
    · rw [ival g]
      refine iteT ?_
      refine ⟨_, rfl, _, upd_same, ?_, ?_⟩
      · rw [iV_len]
        have := List.length_filter_le (fun p => decide (lab ls p = lb)) ((rng ls.length).take i)
        rw [List.length_take] at this
        omega
      · rw [upd_upd, take_succ_filter hg, if_pos (decide_eq_true g), ← iV_append]
        rfl
    · rw [ival_ne g]
      refine iteF ?_
      show _ = _
      rw [take_succ_filter hg, if_neg (by rw [decide_eq_false g]; decide), List.append_nil]
  · have : (rng ls.length).take ((ls.length : Int)).toNat = rng ls.length := List.take_of_length_le (by rw [rng_len]; omega)
    rw [e, this]
    exact hq D hD
def ext1 (als : List Int) (c : List Int) : List (List Int) := als.map fun p => c ++ [p]
theorem ext1_len (als : List Int) : ∀ cs : List (List Int), (cs.flatMap (ext1 als)).length = cs.length * als.length
  | [] => by rw [List.flatMap_nil]; show 0 = 0 * _; rw [Nat.zero_mul]
  | c :: cs => by
    rw [List.flatMap_cons, List.length_append, ext1_len als cs]
    show (als.map _).length + _ = _
    rw [List.length_map, List.length_cons, Nat.succ_mul, Nat.add_comm]
theorem lack_read {lk al : Addr} {v0 v1 v2 v4 a b : Option V} {ys : List V} {cs : List (List Int)} {als : List Int} {H : Hp} {Q : VK} (hk : H lk = some (.lst ys)) (ht : TIs H ys cs) (ha : H al = some (.lst (iV als))) (h1 : cs.length ≤ 35) (h2 : als.length ≤ 7) (h3 : ∀ c ∈ cs, c.length ≤ 63)
    (hq : ∀ D zs H', Ext H H' → H D = none → H' D = some (.lst zs) → TIs H' zs (cs.flatMap (ext1 als)) → Q (.ref D) H') : tLack K [v0, v1, v2, some (.ref lk), v4, some (.ref al), a, b] H Q := by
  have sz : sizeLine = 16777216 := sizeLine_eq
  refine ⟨_, rfl, lk, rfl, ⟨_, .inl (.inl hk)⟩, fun D hD => ?_⟩
  let Pv : Nat → Nat → Hp → Prop := fun i j H' => Ext H H' ∧ ∃ zs, H' D = some (.lst zs) ∧ TIs H' zs ((cs.take i).flatMap (ext1 als) ++ (ext1 als (cs.getD i [])).take j)
  refine ⟨fun i m H' => m = cs.length - i ∧ i ≤ cs.length ∧ Pv i 0 H', ⟨cs.length, by simp, Nat.zero_le _, Ext.upd hD, [], upd_same, TIs.nil⟩, ?_⟩
  rintro i m H' ⟨rfl, hi, ex, zs, hz, tz⟩
  have sk : ∀ {H' : Hp}, Ext H H' → SqL K H' lk ys := fun ex => .inl (.inl (ex _ _ hk))
  have sa : ∀ {H' : Hp}, Ext H H' → SqL K H' al (iV als) := fun ex => .inl (.inl (ex _ _ ha))
  by_cases hlt : i < cs.length
  · refine .inr ⟨⟨ys, ys[i]'(by rw [ht.1]; exact hlt), sk ex, List.getElem?_eq_getElem _⟩, Pv (i + 1) 0, fun H'' p => ⟨_, by omega, rfl, hlt, p⟩, fun x H'' hy => ?_⟩
    obtain ⟨rfl, hy⟩ := hy
    have hxi := hy ys (sk ex)
    obtain ⟨c, hc, tc⟩ := ht.at hxi
    have hcd : cs.getD i [] = c := by rw [List.getD_eq_getElem?_getD, hc]; rfl
    obtain ⟨ct, rfl, hct⟩ := tc
    refine ⟨rfl, ?_⟩
    refine ⟨_, rfl, al, rfl, ⟨_, sa ex⟩, ?_⟩
    refine ⟨fun j m H' => m = als.length - j ∧ j ≤ als.length ∧ Pv i j H', ⟨als.length, by simp, Nat.zero_le _, ex, zs, hz, tz⟩, ?_⟩
    rintro j m H' ⟨rfl, hj, ex, zs, hz, tz⟩
    by_cases hjt : j < als.length
    · refine .inr ⟨⟨iV als, _, sa ex, iV_at (List.getElem?_eq_getElem hjt)⟩, Pv i (j + 1), fun H'' p => ⟨_, by omega, rfl, hjt, p⟩, fun x H'' hy => ?_⟩
      obtain ⟨rfl, hy⟩ := hy
      obtain ⟨p, hp, rfl⟩ := iV_get (hy _ (sa ex))
      refine ⟨rfl, ?_⟩
      have fin : ∀ (y : Addr) (H4 : Hp), Ext H'' H4 → H4 y = some (.tup (iV (c ++ [p]))) → ∃ acc, H4 D = some (.lst acc) ∧ acc.length < sizeLine ∧ Pv i (j + 1) (upd H4 D (.lst (acc ++ [V.ref y]))) := fun y H4 e4 hy => by
        have hD4 := e4 _ _ hz
        refine ⟨zs, hD4, ?_, ext_updN (ex.trans e4) hD, _, upd_same, ?_⟩
        · have := tz.1
          rw [List.length_append, ext1_len, List.length_take, List.length_take] at this
          have q : min i cs.length * als.length ≤ 35 * 7 := Nat.mul_le_mul (by omega) h2
          omega
        · rw [hcd]
          have hg : (ext1 als c)[j]? = some (c ++ [p]) := by
            unfold ext1
            rw [List.getElem?_map, hp]
            rfl
          rw [List.take_succ, hg, ← List.append_assoc]
          rw [hcd] at tz
          exact tis_lst ((tz.ext e4).snoc ⟨y, rfl, hy⟩) hD4
      refine ⟨_, rfl, _, rfl, by show 1 ≤ _; omega, fun q hq => ?_⟩
      have hcl := h3 c (List.mem_of_getElem? hc)
      refine ⟨ct, q, iV c, [V.int p], rfl, rfl, .inl (.inl ((Ext.upd hq) _ _ (ex _ _ hct))), .inl (.inl upd_same), by rw [iV_len]; show _ + 1 ≤ _; omega, fun z => ?_, (fun _ z => nomatch z), fun _ _ r hr => ?_⟩
      · have : c = [] := List.map_eq_nil_iff.mp z
        subst this
        exact fin q _ (Ext.upd hq) upd_same
      · refine fin r _ ((Ext.upd hq).trans (Ext.upd hr)) ?_
        rw [← iV_append]
        exact upd_same
    · have e : j = als.length := by omega
      subst e
      refine .inl ⟨⟨iV als, sa ex, by rw [iV_len]; exact Nat.le_refl _⟩, ex, zs, hz, ?_⟩
      have : (cs.take (i + 1)).flatMap (ext1 als) = (cs.take i).flatMap (ext1 als) ++ ext1 als c := by
        rw [List.take_succ, hc, List.flatMap_append]
        show _ ++ List.flatMap _ [c] = _
        rw [List.flatMap_cons, List.flatMap_nil, List.append_nil]
      rw [this, List.take_zero, List.append_nil]
      have tk : (ext1 als c).take als.length = ext1 als c := List.take_of_length_le (by unfold ext1; rw [List.length_map]; exact Nat.le_refl _)
      rw [hcd, tk] at tz
      exact tz
  · have e : i = cs.length := by omega
    subst e
    refine .inl ⟨⟨ys, sk ex, by rw [ht.1]; exact Nat.le_refl _⟩, hq D zs _ ex hD hz ?_⟩
    rw [List.take_length, List.take_zero, List.append_nil] at tz
    exact tz
theorem coms_read (T : Fx K mg) {lk x : Addr} {v0 v1 v4 v5 a b : Option V} {ys : List V} {cs : List (List Int)} {n k : Nat} {rs : List (List Int)} {H : Hp} {Q : VK} (hx : BookAt K H x n k rs) (hn : n ≤ 7) (hk : H lk = some (.lst ys)) (ht : TIs H ys cs) (h1 : cs.length ≤ 35)
    (hq : ∀ D zs H', Ext H H' → H D = none → H' D = some (.lst zs) → TIs H' zs (cs.map (compl n)) → Q (.ref D) H') : tComs K [v0, v1, some (.ref x), some (.ref lk), v4, v5, a, b] H Q := by
  obtain ⟨dx, t, ys0, hx, _, _⟩ := hx
  have sz : sizeLine = 16777216 := sizeLine_eq
  refine ⟨_, rfl, lk, rfl, ⟨_, .inl (.inl hk)⟩, fun D hD => ?_⟩
  refine lc_list (xs := ys) (fun i H' => Ext H H' ∧ ∃ zs, H' D = some (.lst zs) ∧ TIs H' zs ((cs.take i).map (compl n))) ⟨Ext.upd hD, [], upd_same, TIs.nil⟩ (fun i H' _ z => .inl (.inl (z.1 _ _ hk))) (fun i v H' hv z => ?_) fun H' z => ?_
  · obtain ⟨ex, zs, hz, tz⟩ := z
    obtain ⟨c, hc, tc⟩ := ht.at hv
    refine ⟨rfl, ?_⟩
    refine ⟨_, rfl, x, _, dx, _, _, rfl, ex _ _ hx, T.c_Book, T.na_Book_places, rfl, _, rfl, n, _, c, rfl, tc.ext ex, by omega, fun y H4 e4 ty => ?_⟩
    have hD4 := e4 _ _ hz
    refine ⟨zs, hD4, ?_, ext_updN (ex.trans e4) hD, _, upd_same, ?_⟩
    · have := tz.1
      rw [List.length_map, List.length_take] at this
      omega
    · rw [List.take_succ, hc, List.map_append]
      exact tis_lst ((tz.ext e4).snoc ty) hD4
  · obtain ⟨ex, zs, hz, tz⟩ := z
    rw [ht.1, List.take_length] at tz
    exact hq D zs H' ex hD hz tz
theorem ok_labelBook (T : Fx K mg) (Z : Fe P K mg) : FnOk P w K mg base (L2.CX P w) 5 (He.ga K "label_book") T.fd_label_book ["labels", "kinds"] (spLB K) := by
  have bC : Binds K T.fd_check_labels ["labels", "kinds"] [] := T.F_check_labels.bindsN fun _ _ _ _ _ _ us hl => match us, hl with | [_, _], _ => rfl
  have bM : Binds K T.fd_complement ["places", "room"] [] := T.F_complement.bindsN fun _ _ _ _ _ _ us hl => match us, hl with | [_, _], _ => rfl
  have bB : Binds K T.fd_Book_init pBookI [] := T.F_Book_init.bindsN fun _ _ _ _ _ _ us hl => match us, hl with | [_, _, _, _], _ => rfl
  refine T.F_label_book.ok scLB (fun vs H Q E h => ?_) (fun cdv A outer s H vs Q E hr h => ⟨_, pss_cons (ps_expr (pe_call (ok_chk T Z) (hr.mono (by decide)) rfl T.g_check_labels T.F_check_labels.kp bC .nil (passes_call (takes_of rfl rfl rfl rfl) (fun _ _ _ _ h => h)) (pa_cons (pv 0) (pa_cons (pv 1) pa_nil))))
    (PSs.nox (pss_cons (ps_set (i := 2) scLB.nd rfl (Or.inr rfl) (pe_make T.m_Book (ok_BookI T) (hr.mono (by decide)) rfl T.g_Book bB .nil pass0 (pa_cons (pe_callB call_len_seq (by rfl) T.n_len PySem.boot_len (pa_cons (pv 0) pa_nil)) (pa_cons (pe_op op_sub (pe_callB call_len_seq (by rfl) T.n_len PySem.boot_len (pa_cons (pv 0) pa_nil)) (pv 1)) (pa_cons (pe_lst pa_nil) pa_nil)))))
    (pss_cons (ps_set (i := 3) scLB.nd rfl (Or.inl rfl) (pe_lst (pa_cons (pe_tup pa_nil) pa_nil)))
    (pss_cons (ps_for PassesOwn.never rfl (pi_range2 rfl T.n_range (pa_cons pe_int (pa_cons (pe_op op_add (pv 1) pe_int) pa_nil))) (pg_name (i := 4) scLB.nd rfl (Or.inr rfl))
      (pss_cons (show PS _ _ (tAsg (tAlike K) (gName 5)) from ps_set (i := 5) scLB.nd rfl (Or.inr rfl) (pe_lc (own := [("place", 6)]) rfl scLB.nd (pi_range1 rfl T.n_range (pa_cons (pe_fld (pv 2) rfl) pa_nil)) (blkOk_by (N := nLB) (by kernel_rfl)) (fun _ _ _ _ _ => pg_name (i := 6) scLB.nd rfl (Or.inl rfl))
        (fun _ _ _ _ _ => pts_one (pt_cmpR op_eq (pe_ix ix_any (pv 0) (pv 6) (fun _ _ => rfl)) (pv 4) (nomark _))) (fun _ _ _ _ _ => pv 6)))
      (pss_one (show PS _ _ (tAsg (tLack K) (gName 3)) from ps_setLc2 (i := 3) (own := [("chosen", 7), ("place", 6)]) (vs1 := [6]) rfl scLB.nd rfl rfl rfl (pi_list (pv 3)) (blkOk_by (N := nLB) (by kernel_rfl)) (by decide) (fun _ _ _ _ _ => pg_name (i := 7) scLB.nd rfl (Or.inl rfl)) (fun _ _ _ _ _ => pts_nil)
        (fun _ _ _ _ _ => pi_list (pv 5)) (fun _ _ _ _ _ => pg_name (i := 6) scLB.nd rfl (Or.inl rfl)) (fun _ _ _ _ _ => pts_nil) (fun _ _ _ _ _ => pe_op op_catA (pv 7) (pe_tup (pa_cons (pv 6) pa_nil)))))))
    (pss_one (ps_ret (pe_make T.m_Book (ok_BookI T) (hr.mono (by decide)) rfl T.g_Book bB .nil pass0 (pa_cons (pe_fld (pv 2) rfl) (pa_cons (pe_fld (pv 2) rfl) (pa_cons (show PE _ _ (tComs K) from pe_lc (own := [("chosen", 7)]) rfl scLB.nd (pi_list (pv 3)) (blkOk_by (N := nLB) (by kernel_rfl)) (fun _ _ _ _ _ => pg_name (i := 7) scLB.nd rfl (Or.inl rfl)) (fun _ _ _ _ _ => pts_nil)
      (fun _ _ _ _ _ => pe_call (ok_complement T) (hr.mono (by decide)) rfl T.g_complement T.F_complement.kp bM .nil pass0 (pa_cons (pe_fld (pv 2) rfl) (pa_cons (pv 7) pa_nil)))) pa_nil)))))))))), ?_⟩)
  · obtain ⟨_, _, _, rfl, _⟩ := h
    rfl
  obtain ⟨l, ls, k, rfl, hl, hn, hk, hq⟩ := h
  have sz : sizeLine = 16777216 := sizeLine_eq
  refine ⟨_, rfl, _, rfl, l, ls, k, rfl, hl, by omega, hk, ?_⟩
  cases hc : chkKinds ls k with
  | some fa =>
    rw [hc] at hq
    exact fun d H' ex hd hd2 => hq d H' ex hd hd2
  | none =>
    rw [hc] at hq
    obtain ⟨⟨hk1, hk2⟩, _, _⟩ := chkN hc
    intro H1 ex1
    have hl1 := seq_ext hl ex1
    refine ⟨_, rfl, l, iV ls, rfl, hl1, _, rfl, l, iV ls, rfl, hl1, _, rfl, _, _, rfl, rfl, Nat.zero_le _, fun em hem => ?_⟩
    intro x dx hx hdx hne
    have hnk : (ls.length : Int) - (k : Int) = ((ls.length - k : Nat) : Int) := by omega
    rw [iV_len]
    generalize hH2 : upd H1 em (.lst []) = H2 at hx hdx
    have ex2 : Ext H H2 := by rw [← hH2]; exact ex1.trans (Ext.upd hem)
    have hem2 : H2 em = some (.lst []) := by rw [← hH2]; exact upd_same
    have nx : em ≠ x := fun z => by rw [z, hx] at hem2; cases hem2
    have ndx : em ≠ dx := fun z => by rw [z, hdx] at hem2; cases hem2
    refine ⟨x, dx, em, ls.length, ls.length - k, [], [], by show V.ref x :: ([V.int (ls.length : Int), V.int ((ls.length : Int) - (k : Int)), V.ref em] ++ []) = _; rw [hnk]; rfl, upd_same, by rw [upd_ne nx, upd_ne ndx]; exact hem2, TIs.nil, (fun r hr => nomatch hr), List.Pairwise.nil, by decide, by omega, by omega, by omega, by omega, fun H3 t ys qs eb hx3 ht3 tq pq pw => ⟨rfl, ?_⟩⟩
    have ex3 : Ext H2 H3 := make_ext hx hdx eb
    have hb3 : BookAt K H3 x ls.length (ls.length - k) qs := ⟨dx, t, ys, hx3, ht3, tq⟩
    refine ⟨Nat.zero_le _, fun tp htp => ?_⟩
    refine ⟨by show 1 ≤ _; omega, fun lk0 hlk0 => ?_⟩
    refine ⟨_, rfl, _, _, rfl, rfl, _, _, rfl, ⟨by omega, by omega, by omega, by omega⟩, ?_⟩
    have e4 : Ext H2 (upd (upd H3 tp (.tup [])) lk0 (.lst [.ref tp])) := ex3.trans ((Ext.upd htp).trans (Ext.upd hlk0))
    have hb4 : BookAt K (upd (upd H3 tp (.tup [])) lk0 (.lst [.ref tp])) x ls.length (ls.length - k) qs := book_ext hb3 ((Ext.upd htp).trans (Ext.upd hlk0))
    refine for_range (lo := 1) (n := (((k : Int) + 1) - 1).toNat) (fun i σ H' => (∃ a b c d lk ys, σ = [some (.ref l), some (.int (k : Int)), some (.ref x), some (.ref lk), a, b, c, d] ∧ H' lk = some (.lst ys) ∧ TIs H' ys (chos ls ls.length i)) ∧ Ext H H' ∧ BookAt K H' x ls.length (ls.length - k) qs) ⟨⟨none, none, none, none, lk0, [.ref tp], rfl, upd_same, TIs.cons ⟨tp, rfl, (Ext.upd hlk0) _ _ upd_same⟩ TIs.nil⟩, ex2.trans e4, hb4⟩ (fun i σ H' hi z => ?_) fun σ H' z => ?_
    · obtain ⟨⟨a, b, c, d, lk, ys, rfl, hlk, tk⟩, ex, hb⟩ := z
      have hlH := seq_ext hl ex
      unfold gName
      dsimp only
      unfold tSeq tAsg
      refine alike_read T hlH hb hn fun al hal => ?_
      have e5 : Ext H' (upd H' al (.lst (iV (alike ls ls.length (1 + (i : Int)))))) := Ext.upd hal
      dsimp only
      refine lack_read (e5 _ _ hlk) (tk.ext e5) upd_same (chos_len hn) ?_ (fun c hc => ?_) fun D zs H6 e6 hD hz tz => ?_
      · have := List.length_filter_le (fun p => decide (lab ls p = 1 + (i : Int))) (rng ls.length)
        rw [rng_len] at this
        exact Nat.le_trans this hn
      · have := congrArg List.length (mem_chos.mp hc).1
        rw [List.length_map, ones_len] at this
        omega
      · exact ⟨⟨_, _, _, _, D, zs, rfl, hz, tz⟩, ex.trans (e5.trans e6), book_ext hb (e5.trans e6)⟩
    · obtain ⟨⟨a, b, c, d, lk, ys, rfl, hlk, tk⟩, ex, hb⟩ := z
      have ek : (((k : Int) + 1) - 1).toNat = k := by omega
      rw [ek] at tk
      obtain ⟨dx2, t2, ys2, hx2, ht2, tq2⟩ := id hb
      refine ⟨_, rfl, x, _, dx2, _, _, rfl, hx2, T.c_Book, T.na_Book_places, rfl, _, rfl, x, _, dx2, _, _, rfl, hx2, T.c_Book, T.na_Book_size, rfl, ?_⟩
      refine coms_read T hb hn hlk tk (chos_len hn) fun D zs H6 e6 hD hz tz => ?_
      intro x7 dx7 hx7 hdx7 hne7
      have n1 : D ≠ x7 := fun z => by rw [z, hx7] at hz; cases hz
      have n2 : D ≠ dx7 := fun z => by rw [z, hdx7] at hz; cases hz
      have fr : ∀ r ∈ (chos ls ls.length k).map (compl ls.length), RoomOk ls.length (ls.length - k) r ∧ srt r = r := fun r hr => by
        obtain ⟨c, hc, rfl⟩ := List.mem_map.mp hr
        obtain ⟨h1, h2⟩ := mem_combs.mp (chos_comb hc)
        have hp := (rng_pair ls.length).sublist h1
        exact ⟨⟨h2, fun p hp => mem_rng.mp (h1.subset hp), hp.imp fun h => by omega⟩, (srt_of (List.Perm.refl _) (hp.imp fun h => by omega)).symm⟩
      have ms : ((chos ls ls.length k).map (compl ls.length)).map srt = (chos ls ls.length k).map (compl ls.length) := by
        refine (List.map_congr_left fun r hr => (fr r hr).2).trans (List.map_id _)
      refine ⟨x7, dx7, D, ls.length, ls.length - k, zs, _, rfl, upd_same, by rw [upd_ne n1, upd_ne n2]; exact hz, (tz.mono fun b us hb => ?_), fun r hr => (fr r hr).1, by rw [ms]; exact chos_rooms, ?_, by omega, by omega, by omega, by omega, fun H8 t8 ys8 qs8 eb8 hx8 ht8 tq8 pq8 pw8 => ⟨rfl, ?_⟩⟩
      · rw [upd_ne (fun z => by rw [z, hx7] at hb; cases hb), upd_ne (fun z => by rw [z, hdx7] at hb; cases hb)]
        exact hb
      · rw [List.length_map]
        have := chos_len (ls := ls) (k := k) hn
        omega
      · rw [ms] at pq8
        have e8 := make_ext hx7 hdx7 eb8
        have efull := ex.trans (e6.trans e8)
        refine hq x7 H8 qs8 efull ?_ ⟨dx7, t8, ys8, hx8, ht8, tq8⟩ pq8 pw8
        cases z : H x7 with
        | none => rfl
        | some u => rw [(ex.trans e6) _ _ z] at hx7; cases hx7
end
end NA
set_option maxRecDepth 100000
set_option maxHeartbeats 4000000
/-! _check_labels, full_rooms (sound labels). -/
namespace NA
open PySem PySem.Spec PyProof.Rows L2
section
variable {P : Program} {w : World} {K : PySem.W.Frag} {mg : Str → Option Value} {base : Heap}
def nChk2 : List Str := ["places", "labels", "kinds", "at", "label"]
def pChk2 : List Str := ["places", "labels", "kinds"]
theorem scChk2 : FnScope nChk2 pChk2 (defScope sCheckLabels2) := ⟨rfl, rfl, rfl, by decide +kernel, rfl, by decide +kernel, by decide +kernel⟩
def spChk2 (K : PySem.W.Frag) : Sp := fun vs H Q _ => ∃ (l : Addr) (ls : List Int) (k : Nat), vs = [.int (ls.length : Int), .ref l, .int (k : Int)] ∧ (SqL K H l (iV ls) ∨ SqT K H l (iV ls)) ∧ ls.length ≤ 63 ∧ k ≤ 63 ∧ (∀ m ∈ ls, 1 ≤ m ∧ m ≤ k) ∧ ∀ H', Ext H H' → Q .non H'
theorem ok_chk2 (T : Fx K mg) : FnOk P w K mg base CX0 1 (He.ga K "_check_labels") T.fd_check_labels2 pChk2 (spChk2 K) := by
  refine T.F_check_labels2.ok scChk2 (fun vs H Q E h => ?_) (fun cdv A outer s H vs Q E hr h => ⟨_, PSs.nox (pss_cons (ps_if (pt_cmpR op_ne (pe_callB call_len_seq (by rfl) T.n_len PySem.boot_len (pa_cons (pv 1) pa_nil)) (pv 0) (nomark _)) (pss_one ps_never) pss_nil)
    (pss_one (ps_for PassesOwn.never rfl (pi_enumS rfl T.n_enumerate (pa_cons (pv 1) pa_nil)) (pg_tup rfl (pgs_cons (pg_name (i := 3) scChk2.nd rfl (Or.inl rfl)) (pgs_cons (pg_name (i := 4) scChk2.nd rfl (Or.inl rfl)) pgs_nil))) (pss_one (ps_if (pt_not (pt_chain op_le op_le pe_int (pv 4) (pv 2))) (pss_one ps_never) pss_nil))))), ?_⟩)
  · obtain ⟨_, _, _, rfl, _⟩ := h
    rfl
  obtain ⟨l, ls, k, rfl, hl, hn, hk, hb, hq⟩ := h
  have sz : sizeLine = 16777216 := sizeLine_eq
  refine ⟨_, rfl, l, iV ls, rfl, hl, _, rfl, rfl, _, rfl, ?_⟩
  rw [iV_len, ival rfl]
  refine iteF ⟨_, rfl, ?_⟩
  refine for_enumS hl (fun i σ H' => (∃ a b, σ = [some (.int (ls.length : Int)), some (.ref l), some (.int (k : Int)), a, b]) ∧ Ext H H') ⟨⟨none, none, rfl⟩, Ext.refl _⟩ (fun i σ H' _ z => ⟨fun h => sqL_ext h z.2, fun h => sqT_ext h z.2⟩) (fun i v Tn σ H' hv z hT => ?_) fun σ H' z => hq _ z.2
  obtain ⟨⟨a, b, rfl⟩, ex⟩ := z
  obtain ⟨m, hm, rfl⟩ := iV_get hv
  obtain ⟨b1, b2⟩ := hb m (List.mem_of_getElem? hm)
  refine g2_read ?_
  refine ⟨_, rfl, _, _, rfl, rfl, _, rfl, ?_⟩
  rw [decide_eq_true b1]
  refine iteT ?_
  refine ⟨_, rfl, _, _, rfl, rfl, _, rfl, ?_⟩
  rw [decide_eq_true b2]
  refine iteF ?_
  exact ⟨⟨_, _, rfl⟩, ex.trans (Ext.upd hT)⟩
def nFR : List Str := ["book", "labels", "room", "p"]
theorem scFR : FnScope nFR ["book", "labels"] (defScope sFullRooms) := ⟨rfl, rfl, rfl, by decide +kernel, rfl, by decide +kernel, by decide +kernel⟩
def tLabsA (K : PySem.W.Frag) (l r v : Nat) : TE := tLc (iTup K (tVar r)) (gName v) tYes (tOp (rIxA K) (tVar l) (tVar v)) [v]
theorem labsA_read {K : PySem.W.Frag} {l r v : Nat} {σ : L2.St} {H : Hp} {Q : VK} {la rm : Addr} {ls room : List Int} (h1 : σ[l]? = some (some (.ref la))) (h2 : σ[r]? = some (some (.ref rm))) (hl : SqL K H la (iV ls) ∨ SqT K H la (iV ls)) (hr : H rm = some (.tup (iV room))) (hz : room.length ≤ 63) (hb : ∀ p ∈ room, 0 ≤ p ∧ p < ls.length)
    (hvl : v ≠ l) (hv : v < σ.length) (hq : ∀ D, H D = none → Q (.ref D) (upd H D (.lst (iV (room.map (lab ls)))))) : tLabsA K l r v σ H Q := by
  refine ⟨_, h2, rm, rfl, ⟨_, .inl (.inl hr)⟩, fun D hD => ?_⟩
  have sz : sizeLine = 16777216 := sizeLine_eq
  refine lc_tup (xs := iV room) (fun i H' => H' = upd H D (.lst (iV ((room.take i).map (lab ls))))) rfl (fun i H' _ e => by rw [e]; exact .inl (.inl ((Ext.upd hD) _ _ hr))) (fun i x H' hx e => ?_) fun H' e => ?_
  · obtain ⟨p, hp, rfl⟩ := iV_get hx
    obtain ⟨b1, b2⟩ := hb p (List.mem_of_getElem? hp)
    subst e
    have hw : (wipe σ [v]) = σ.set v none := rfl
    rw [hw]
    refine ⟨?_, ?_⟩
    · show (((σ.set v none).set v (some (.int p))).set v none) = _
      rw [List.set_set, List.set_set]
    have e1 : ((σ.set v none).set v (some (V.int p)))[v]? = some (some (.int p)) := by
      rw [List.set_set, List.getElem?_set_self hv]
    have e2 : ((σ.set v none).set v (some (V.int p)))[l]? = some (some (.ref la)) := by
      rw [List.set_set, List.getElem?_set_ne hvl]
      exact h1
    refine ⟨_, e2, _, e1, ixA_read (seq_ext hl (Ext.upd hD)) b1 b2 ⟨_, upd_same, ?_, ?_⟩⟩
    · rw [iV_len, List.length_map, List.length_take]; omega
    · rw [upd_upd, List.take_succ, hp, List.map_append, ← iV_append]
      rfl
  · rw [e, iV_len, List.take_length]
    exact hq D hD
def distP (ls : List Int) (r : List Int) : Bool := decide ((r.map (lab ls)).Nodup)
def spFR (K : PySem.W.Frag) : Sp := fun vs H Q _ => ∃ (x l : Addr) (rs : List (List Int)) (ls : List Int) (k : Nat), vs = [.ref x, .ref l] ∧ BookAt K H x ls.length k rs ∧ (SqL K H l (iV ls) ∨ SqT K H l (iV ls)) ∧ ls.length ≤ 63 ∧ k ≤ 63 ∧ (∀ m ∈ ls, 1 ≤ m ∧ m ≤ k) ∧ (∀ r ∈ rs, r.length = k ∧ ∀ p ∈ r, 0 ≤ p ∧ p < ls.length) ∧ rs.length ≤ 63 ∧
  ∀ p ys H', Ext H H' → H p = none → H' p = some (.lst ys) → TIs H' ys (rs.filter (distP ls)) → Q (.ref p) H'
def tDistT (K : PySem.W.Frag) : TT := tTest (tOp rEq (tLenSetL K (tLabsA K 1 2 3)) (tFld K (tVar 0) "size"))
theorem ok_fullRooms (T : Fx K mg) : FnOk P w K mg base CX0 2 (He.ga K "full_rooms") T.fd_full_rooms ["book", "labels"] (spFR K) := by
  have bC : Binds K T.fd_check_labels2 pChk2 [] := T.F_check_labels2.bindsN fun _ _ _ _ _ _ us hl => match us, hl with | [_, _, _], _ => rfl
  refine T.F_full_rooms.ok scFR (fun vs H Q E h => ?_) (fun cdv A outer s H vs Q E hr h => ⟨_, PSs.nox (pss_cons (ps_expr (pe_call (ok_chk2 T) hr rfl T.g_check_labels2 T.F_check_labels2.kp bC .nil pass0 (pa_cons (pe_fld (pv 0) rfl) (pa_cons (pv 1) (pa_cons (pe_fld (pv 0) rfl) pa_nil)))))
    (pss_one (ps_ret (pe_lc (own := [("room", 2)]) (g := gName 2) (wi := iTup K (tFld K (tVar 0) "rooms")) (tt := tDistT K) (te := tVar 2) rfl scFR.nd (pi_tup (pe_fld (pv 0) rfl)) (blkOk_by (N := nFR) (sc := defScope sFullRooms) (by decide +kernel)) (fun _ _ _ _ _ => pg_name (i := 2) scFR.nd rfl (Or.inl rfl))
    (fun _ _ _ _ _ => pts_one (pt_cmpR op_eq (pe_lenSetL rfl T.n_len rfl T.n_set (pe_lc (own := [("p", 3)]) (g := gName 3) (wi := iTup K (tVar 2)) (tt := tYes) (te := tOp (rIxA K) (tVar 1) (tVar 3)) rfl scFR.nd (pi_tup (pv 2)) (blkOk_by (N := nFR) (by kernel_rfl)) (fun _ _ _ _ _ => pg_name (i := 3) scFR.nd rfl (Or.inl rfl)) (fun _ _ _ _ _ => pts_nil) (fun _ _ _ _ _ => pe_ix ix_any (pv 1) (pv 3) (fun _ _ => rfl))))
      (pe_fld (pv 0) rfl) (nomark _))) (fun _ _ _ _ _ => pv 2))))), ?_⟩)
  · obtain ⟨_, _, _, _, _, rfl, _⟩ := h
    rfl
  obtain ⟨x, l, rs, ls, k, rfl, ⟨dx, t, xs, hx, ht, tx⟩, hl, hn, hk, hb, hrb, hrs, hq⟩ := h
  have sz : sizeLine = 16777216 := sizeLine_eq
  refine ⟨_, rfl, x, _, dx, _, _, rfl, hx, T.c_Book, T.na_Book_places, rfl, _, rfl, _, rfl, x, _, dx, _, _, rfl, hx, T.c_Book, T.na_Book_size, rfl, l, ls, k, rfl, hl, hn, hk, hb, fun H1 ex1 => ?_⟩
  have hx1 := ex1 _ _ hx
  have ht1 := ex1 _ _ ht
  refine ⟨_, rfl, x, _, dx, _, _, rfl, hx1, T.c_Book, T.na_Book_rooms, rfl, t, rfl, ⟨_, .inl (.inl ht1)⟩, fun D hD => ?_⟩
  refine lc_tup (xs := xs) (fun i H' => Ext H1 H' ∧ ∃ zs, H' D = some (.lst zs) ∧ TIs H' zs ((rs.take i).filter (distP ls))) ⟨Ext.upd hD, [], upd_same, TIs.nil⟩ (fun i H' _ z => .inl (.inl (z.1 _ _ ht1))) (fun i v H' hv z => ?_) fun H' z => ?_
  · obtain ⟨ex, zs, hz, tz⟩ := z
    obtain ⟨r, hr, rm, rfl, hrm⟩ := (tx.ext ex1).at hv
    obtain ⟨hr63, hbr⟩ := hrb r (List.mem_of_getElem? hr)
    have exx := ex1.trans ex
    refine ⟨rfl, ?_⟩
    unfold tDistT tTest tOp tLenSetL
    refine labsA_read (K := K) (l := 1) (r := 2) (v := 3) (σ := [some (.ref x), some (.ref l), some (.ref rm), none]) (H := H') (la := l) (rm := rm) (ls := ls) (room := r) rfl rfl (seq_ext hl exx) (ex _ _ hrm) (by omega) hbr (by decide) (by show 3 < 4; decide) fun D2 hD2 => ?_
    have e1 : Ext H' (upd H' D2 (.lst (iV (r.map (lab ls))))) := Ext.upd hD2
    refine ⟨D2, r.map (lab ls), rfl, .inl (.inl (.inl upd_same)), by rw [List.length_map]; omega, fun d hd1 hd2 => ?_⟩
    rw [List.length_map, hr63] at hd2
    refine ⟨_, rfl, x, _, dx, _, _, rfl, e1 _ _ (exx _ _ hx), T.c_Book, T.na_Book_size, rfl, rfl, _, rfl, ?_⟩
    by_cases g : (r.map (lab ls)).Nodup
    · rw [ival (show (d : Int) = (k : Int) by rw [hd2.mpr g])]
      refine iteT ?_
      refine ⟨_, rfl, zs, e1 _ _ hz, ?_, ext_updN (ex.trans e1) hD, _, upd_same, ?_⟩
      · have := tz.1
        have h2 := List.length_filter_le (distP ls) (rs.take i)
        rw [List.length_take] at h2
        omega
      · rw [take_succ_filter hr, if_pos (show distP ls r = true from decide_eq_true g)]
        exact tis_lst ((tz.ext e1).snoc ⟨rm, rfl, e1 _ _ (ex _ _ hrm)⟩) (e1 _ _ hz)
    · rw [ival_ne (show (d : Int) ≠ (k : Int) from fun z => g (hd2.mp (by omega)))]
      refine iteF ?_
      refine ⟨ex.trans e1, zs, e1 _ _ hz, ?_⟩
      rw [take_succ_filter hr, if_neg (show ¬ distP ls r = true from fun z => g (of_decide_eq_true z)), List.append_nil]
      exact tz.ext e1
  · obtain ⟨ex, zs, hz, tz⟩ := z
    rw [tx.1, List.take_length] at tz
    refine hq D zs H' (ex1.trans ex) ?_ hz tz
    cases z : H D with
    | none => rfl
    | some u => rw [ex1 _ _ z] at hD; cases hD
end
end NA
set_option maxRecDepth 100000
set_option maxHeartbeats 4000000
/-! Family.__init__, label_family. -/
namespace NA
open PySem PySem.Spec PyProof.Rows L2
section
variable {P : Program} {w : World} {K : PySem.W.Frag} {mg : Str → Option Value} {base : Heap}
def nFamI : List Str := ["self", "books", "at", "book", "odd"]
theorem scFamI : FnScope nFamI ["self", "books"] (defScope sFamI) := ⟨rfl, rfl, rfl, by decide +kernel, rfl, by decide +kernel, by decide +kernel⟩
def oddIn (rs : List (List Int)) (f : List Int) : Prop := f ∈ allF rs ∧ (allF rs).count f % 2 = 1
/-- the raise of a book that is not even -/
def LeavesN (K : PySem.W.Frag) (H : Hp) (E : XK) (rs : List (List Int)) : Prop := ∀ d H' f v, Ext H H' → H d = none → TI H' v f → oddIn rs f → (∀ g, oddIn rs g → cd f ≤ cd g) → H' d = some (.xd [("at", .int 0), ("face", v)]) → E (.ref (cNE K)) (some d) H'
def FewB (n k : Nat) (rs : List (List Int)) : Prop := n ≤ 7 ∧ 1 ≤ k ∧ (∀ r ∈ rs, r ∈ combs (rng n) k) ∧ rs.Nodup
def spFamI (K : PySem.W.Frag) : Sp := fun vs H Q E => ∃ (y dy l x1 x2 : Addr) (n k k2 : Nat) (rs qs : List (List Int)), vs = [.ref y, .ref l] ∧ H y = some (.ins (He.ga K "Family") dy []) ∧ H l = some (.lst [.ref x1, .ref x2]) ∧ BookAt K H x1 n k rs ∧ BookAt K H x2 n k2 qs ∧ k + k2 = n ∧ FewB n k rs ∧ FewB n k2 qs ∧ (∀ f, ¬ oddIn qs f) ∧
  LeavesN K H E rs ∧ ((∀ f, ¬ oddIn rs f) → ∀ H' t, ExtB y H H' → H' y = some (.ins (He.ga K "Family") dy [("places", .int (n : Int)), ("books", .ref t)]) → H' t = some (.tup [.ref x1, .ref x2]) → Q .non H')
def tSizes (K : PySem.W.Frag) : TE := tLc (iList K (tVar 1)) (gName 3) tYes (tFld K (tVar 3) "size") [3]
theorem sizes_loop (T : Fx K mg) {l x1 x2 D : Addr} {v0 a b c : Option V} {n m k k2 : Nat} {rs qs : List (List Int)} {H : Hp} {Qd : Hp → Prop} (hl : H l = some (.lst [.ref x1, .ref x2])) (h1 : BookAt K H x1 n k rs) (h2 : BookAt K H x2 m k2 qs) (hD : H D = none)
    (hq : Qd (upd H D (.lst (iV [(k : Int), (k2 : Int)])))) : LcW (Itl K l) (gName 3) tYes (tFld K (tVar 3) "size") [3] [v0, some (.ref l), a, b, c] H D Qd := by
  obtain ⟨d1, t1, y1, g1, _, _⟩ := h1
  obtain ⟨d2, t2, y2, g2, _, _⟩ := h2
  have sz : sizeLine = 16777216 := sizeLine_eq
  refine lc_list (xs := [.ref x1, .ref x2]) (fun i H' => H' = upd H D (.lst (iV ([(k : Int), (k2 : Int)].take i)))) rfl (fun i H' _ e => by rw [e]; exact .inl (.inl ((Ext.upd hD) _ _ hl))) (fun i x H' hx e => ?_) fun H' e => ?_
  · subst e
    refine ⟨rfl, ?_⟩
    match i, hx with
    | 0, hx =>
      cases hx
      refine ⟨_, rfl, x1, _, d1, _, _, rfl, (Ext.upd hD) _ _ g1, T.c_Book, T.na_Book_size, rfl, _, upd_same, by show 0 < sizeLine; omega, ?_⟩
      rw [upd_upd]
      rfl
    | 1, hx =>
      cases hx
      refine ⟨_, rfl, x2, _, d2, _, _, rfl, (Ext.upd hD) _ _ g2, T.c_Book, T.na_Book_size, rfl, _, upd_same, by show 1 < sizeLine; omega, ?_⟩
      rw [upd_upd]
      rfl
    | j + 2, hx => cases hx
  · rw [e]
    exact hq
theorem ok_FamI (T : Fx K mg) (Z : Fe P K mg) : FnOk P w K mg base (L2.CX P w) 4 (He.ma K (He.ga K "Family") "__init__") T.fd_Family_init ["self", "books"] (spFamI K) := by
  have bO : Binds K T.fd_Book_odd_faces ["self"] [] := T.F_Book_odd_faces.bindsN fun _ _ _ _ _ _ us hl => match us, hl with | [_], _ => rfl
  refine T.F_Family_init.ok scFamI (fun vs H Q E h => ?_) (fun cdv A outer s H vs Q E hr h => ⟨_, pss_cons (ps_if (pt_cmpR op_eq (pe_callB call_len_seq (by rfl) T.n_len PySem.boot_len (pa_cons (pv 1) pa_nil)) pe_int (nomark _)) (pss_one ps_never) pss_nil)
    (pss_cons (ps_for (passes_of rfl) rfl (pi_enumS rfl T.n_enumerate (pa_cons (pv 1) pa_nil)) (pg_tup rfl (pgs_cons (pg_name (i := 2) scFamI.nd rfl (Or.inl rfl)) (pgs_cons (pg_name (i := 3) scFamI.nd rfl (Or.inl rfl)) pgs_nil)))
      (pss_one (ps_if (pt_cmpR op_ne (pe_fld (pv 3) rfl) (pe_fld (pe_ix ix_list (pv 1) pe_int (fun _ _ => rfl)) rfl) (nomark _)) (pss_one ps_never) pss_nil)))
    (pss_cons (ps_if (pt_cmpR op_ne (pe_callB (cr_sum rfl) (by rfl) T.n_sum (by decide +kernel) (pa_cons (show PE _ _ (tSizes K) from pe_lc (own := [("book", 3)]) rfl scFamI.nd (pi_list (pv 1)) (blkOk_by (N := nFamI) (by kernel_rfl)) (fun _ _ _ _ _ => pg_name (i := 3) scFamI.nd rfl (Or.inl rfl)) (fun _ _ _ _ _ => pts_nil) (fun _ _ _ _ _ => pe_fld (pv 3) rfl)) pa_nil)) (pe_fld (pe_ix ix_list (pv 1) pe_int (fun _ _ => rfl)) rfl) (nomark _)) (pss_one ps_never) pss_nil)
    (pss_cons (ps_for (passes_of rfl) rfl (pi_enumS rfl T.n_enumerate (pa_cons (pv 1) pa_nil)) (pg_tup rfl (pgs_cons (pg_name (i := 2) scFamI.nd rfl (Or.inl rfl)) (pgs_cons (pg_name (i := 3) scFamI.nd rfl (Or.inl rfl)) pgs_nil)))
      (pss_cons (ps_set (i := 4) scFamI.nd rfl (Or.inl rfl) (pe_meth0 (pv 3) T.c_Book T.me_odd (ok_oddF T) hr bO .nil pass0))
      (pss_one (ps_if (pt_cmpR op_gt (pe_callB call_len_seq (by rfl) T.n_len PySem.boot_len (pa_cons (pv 4) pa_nil)) pe_int (nomark _)) (pss_one (ps_raise rfl (takes_of rfl rfl rfl rfl) (pmk_NotEven Z.xN Z.gN Z.sup hr (pa_cons (pv 2) (pa_cons (pe_ix ix_list (pv 4) pe_int (fun _ _ => rfl)) pa_nil))))) pss_nil))))
    (pss_cons (ps_fld (pv 0) (pe_fld (pe_ix ix_list (pv 1) pe_int (fun _ _ => rfl)) rfl) rfl)
    (pss_one (ps_fld (pv 0) (pe_callTy call_tuple_of (by rfl) T.n_tuple (by decide +kernel) (pa_cons (pv 1) pa_nil)) rfl)))))), ?_⟩)
  · obtain ⟨_, _, _, _, _, _, _, _, _, _, rfl, _⟩ := h
    rfl
  obtain ⟨y, dy, l, x1, x2, n, k, k2, rs, qs, rfl, hy, hl, hb1, hb2, hk, fw1, fw2, he2, hE, hQ⟩ := h
  have sz : sizeLine = 16777216 := sizeLine_eq
  have at2 : ∀ (i : Nat) (v : V), ([V.ref x1, V.ref x2] : List V)[i]? = some v → ∃ x kx rx, v = .ref x ∧ BookAt K H x n kx rx ∧ FewB n kx rx ∧ ((i = 0 ∧ rx = rs) ∨ (0 < i ∧ ∀ f, ¬ oddIn rx f)) := fun i v hv => by
    match i, hv with
    | 0, hv => cases hv; exact ⟨x1, k, rs, rfl, hb1, fw1, .inl ⟨rfl, rfl⟩⟩
    | 1, hv => cases hv; exact ⟨x2, k2, qs, rfl, hb2, fw2, .inr ⟨by decide, he2⟩⟩
    | j + 2, hv => cases hv
  obtain ⟨d1, t1, y1, g1, g1', g1''⟩ := id hb1
  refine ⟨_, rfl, l, [.ref x1, .ref x2], rfl, .inl (.inl (.inl hl)), rfl, _, rfl, ?_⟩
  refine iteF ⟨_, rfl, ?_⟩
  refine for_enumS (.inl (.inl (.inl hl))) (fun i σ H' => (∃ a b c, σ = [some (.ref y), some (.ref l), a, b, c]) ∧ Ext H H') ⟨⟨none, none, none, rfl⟩, Ext.refl _⟩ (fun i σ H' _ z => ⟨fun h => sqL_ext h z.2, fun h => sqT_ext h z.2⟩) (fun i v Tn σ H' hv z hT => ?_) fun σ H' z => ?_
  · obtain ⟨⟨a, b, c, rfl⟩, ex⟩ := z
    obtain ⟨x, kx, rx, rfl, ⟨dx, tx, yx, gx, _, _⟩, _, _⟩ := at2 i v hv
    refine g2_read ?_
    have e2 := ex.trans (Ext.upd (u := .tup [.int (i : Nat), .ref x]) hT)
    refine ⟨_, rfl, x, _, dx, _, _, rfl, e2 _ _ gx, T.c_Book, T.na_Book_places, rfl, _, rfl, l, [.ref x1, .ref x2], 0, _, rfl, rfl, .inl (.inl (e2 _ _ hl)), rfl, x1, _, d1, _, _, rfl, e2 _ _ g1, T.c_Book, T.na_Book_places, rfl, rfl, _, rfl, ?_⟩
    rw [ival rfl]
    exact iteF ⟨⟨_, _, _, rfl⟩, e2⟩
  obtain ⟨⟨a, b, c, rfl⟩, ex⟩ := z
  refine ⟨_, rfl, l, rfl, ⟨_, .inl (.inl (ex _ _ hl))⟩, fun D hD => sizes_loop T (ex _ _ hl) (book_ext hb1 ex) (book_ext hb2 ex) hD ?_⟩
  have e2 := ex.trans (Ext.upd (u := .lst (iV [(k : Int), (k2 : Int)])) hD)
  refine ⟨D, [(k : Int), (k2 : Int)], rfl, .inl (.inl upd_same), _, rfl, l, [.ref x1, .ref x2], 0, _, rfl, rfl, .inl (.inl (e2 _ _ hl)), rfl, x1, _, d1, _, _, rfl, e2 _ _ g1, T.c_Book, T.na_Book_places, rfl, rfl, _, rfl, ?_⟩
  rw [ival (show ([(k : Int), (k2 : Int)]).sum = (n : Int) by show (k : Int) + ((k2 : Int) + 0) = _; omega)]
  refine iteF ⟨_, rfl, ?_⟩
  generalize hH2 : upd H' D (.lst (iV [(k : Int), (k2 : Int)])) = H2 at e2
  refine for_enumS (.inl (.inl (.inl (e2 _ _ hl)))) (fun i σ H' => (∃ a b c, σ = [some (.ref y), some (.ref l), a, b, c]) ∧ Ext H H' ∧ (0 < i → ∀ f, ¬ oddIn rs f) ∧ Ext H2 H') ⟨⟨_, _, _, rfl⟩, e2, (fun h => absurd h (Nat.lt_irrefl 0)), Ext.refl _⟩ (fun i σ H' _ z => ⟨fun h => sqL_ext (.inl (.inl hl)) z.2.1, fun h => sqT_ext h z.2.2.2⟩) (fun i v Tn σ H' hv z hT => ?_) fun σ H' z => ?_
  · obtain ⟨⟨a, b, c, rfl⟩, ex, hev, ex2⟩ := z
    obtain ⟨x, kx, rx, rfl, hbx, ⟨hn7, hkx, hcx, hndx⟩, hox⟩ := at2 i v hv
    refine g2_read ?_
    have e3 := ex.trans (Ext.upd (u := .tup [.int (i : Nat), .ref x]) hT)
    obtain ⟨dx, tx, yx, gx, gx', gx''⟩ := id hbx
    have hkk : kx = (kx - 1) + 1 := by omega
    refine ⟨_, rfl, x, dx, _, rfl, e3 _ _ gx, rfl, x, n, kx, rx, rfl, book_ext hbx e3, fun r hr => ?_, ?_, ?_, fun p ys os H4 e4 hp hpl tq nd mem sorted => ?_⟩
    · have := (mem_combs.mp (hcx r hr)).1.length_le
      rw [rng_len] at this
      omega
    · have h1 := nodup_lenT hndx hcx
      have h2 := combs_len (rng n) kx (by rw [rng_len]; exact hn7)
      omega
    · exact fewF_comb (k := kx - 1) hn7 fun c hc => by rw [← hkk]; exact hcx c hc
    have e5 := e3.trans e4
    refine ⟨_, rfl, p, ys, rfl, .inl (.inl (.inl hpl)), _, _, rfl, rfl, _, rfl, ?_⟩
    rw [tq.1]
    cases os with
    | nil =>
      refine iteF ⟨⟨_, _, _, rfl⟩, e5, fun _ f hf => ?_, ex2.trans ((Ext.upd hT).trans e4)⟩
      rcases hox with ⟨_, rfl⟩ | ⟨h0, _⟩
      · exact nomatch (mem f).mpr hf
      · exact hev h0 f hf
    | cons f os =>
      refine ite2 (fun _ => ?_) fun h => absurd (show decide (((os.length + 1 : Nat) : Int) > 0) = true from decide_eq_true (by omega)) h
      rcases hox with ⟨rfl, rfl⟩ | ⟨_, h0⟩
      · obtain ⟨v0, ys', rfl⟩ : ∃ v0 ys', ys = v0 :: ys' := by
          cases ys with
          | nil => have := tq.1; cases this
          | cons a b => exact ⟨a, b, rfl⟩
        refine ⟨_, rfl, _, rfl, p, _, 0, _, rfl, rfl, .inl (.inl hpl), atI_nat (show (v0 :: ys')[0]? = some v0 from rfl), _, _, rfl, fun d hd => ?_⟩
        have hf : oddIn rx f := (mem f).mp (List.mem_cons_self ..)
        refine hE d _ f v0 (e5.trans (Ext.upd hd)) ?_ (tq.head.ext (Ext.upd hd)) hf (fun g hg => ?_) upd_same
        · cases z : H d with
          | none => rfl
          | some u => rw [e5 _ _ z] at hd; cases hd
        · rcases List.mem_cons.mp ((mem g).mpr hg) with rfl | hm
          · exact Int.le_refl _
          · exact (List.pairwise_cons.mp sorted).1 g hm
      · exact absurd ((mem f).mp (List.mem_cons_self ..)) (h0 f)
  · obtain ⟨⟨a, b, c, rfl⟩, ex, hev, ex2⟩ := z
    refine ⟨_, rfl, l, [.ref x1, .ref x2], 0, _, rfl, rfl, .inl (.inl (ex _ _ hl)), rfl, x1, _, d1, _, _, rfl, ex _ _ g1, T.c_Book, T.na_Book_places, rfl, _, rfl, y, _, dy, _, rfl, ex _ _ hy, T.c_Family, T.na_Family_places, by show 0 < 1000; decide, ?_⟩
    have hly : l ≠ y := ne_of hl hy (by intro z; cases z)
    generalize hH3 : upd H' y _ = H3
    have hy3 : H3 y = some (.ins (He.ga K "Family") dy [("places", .int (n : Int))]) := by rw [← hH3]; exact upd_same
    have hl3 : H3 l = some (.lst [.ref x1, .ref x2]) := by rw [← hH3, upd_ne hly]; exact ex _ _ hl
    refine ⟨_, rfl, l, [.ref x1, .ref x2], rfl, .inl ⟨.inl (.inl hl3), fun t ht => ?_⟩⟩
    have hty : t ≠ y := fun z => by rw [z, hy3] at ht; cases ht
    refine ⟨_, rfl, y, _, dy, _, rfl, (Ext.upd ht) _ _ hy3, T.c_Family, T.na_Family_books, by show 1 < 1000; decide, ?_⟩
    refine hQ (hev (Nat.zero_lt_succ _)) _ t (fun b u hb e => ?_) upd_same ((upd_ne hty).trans upd_same)
    rw [upd_ne hb]
    refine (Ext.upd ht) _ _ ?_
    rw [← hH3, upd_ne hb]
    exact ex _ _ e
def LbEven : Prop := ∀ (ls : List Int) (k : Nat) (qs : List (List Int)), chkKinds ls k = none → ls.length ≤ 7 → qs.Perm ((chos ls ls.length k).map (compl ls.length)) → ∀ f, ¬ oddIn qs f
def nLF : List Str := ["book", "labels"]
theorem scLF : FnScope nLF ["book", "labels"] (defScope sLabelFamily) := ⟨rfl, rfl, rfl, by decide +kernel, rfl, by decide +kernel, by decide +kernel⟩
/-- the family at y -/
def FamAt (K : PySem.W.Frag) (H : Hp) (y x x2 t : Addr) (n : Nat) : Prop := (∃ dy, H y = some (.ins (He.ga K "Family") dy [("places", .int (n : Int)), ("books", .ref t)])) ∧ H t = some (.tup [.ref x, .ref x2])
def spLF (K : PySem.W.Frag) : Sp := fun vs H Q E => ∃ (x l : Addr) (n k : Nat) (rs : List (List Int)) (ls : List Int), vs = [.ref x, .ref l] ∧ BookAt K H x n k rs ∧ (SqL K H l (iV ls) ∨ SqT K H l (iV ls)) ∧ ls.length ≤ 63 ∧ FewB n k rs ∧ k ≤ 63 ∧
  (ls.length ≠ n → Leaves K H E "count" (ls.length : Int)) ∧ (ls.length = n → match chkKinds ls k with
    | some (f, a) => Leaves K H E f a
    | none => LeavesN K H E rs ∧ ((∀ f, ¬ oddIn rs f) → ∀ y x2 t qs H', Ext H H' → H y = none → FamAt K H' y x x2 t n → BookAt K H' x2 n (n - k) qs → qs.Perm ((chos ls n k).map (compl n)) → qs.Pairwise (fun a b => cd a ≤ cd b) → Q (.ref y) H'))
theorem ok_labelFamily (T : Fx K mg) (Z : Fe P K mg) (he : LbEven) : FnOk P w K mg base (L2.CX P w) 6 (He.ga K "label_family") T.fd_label_family ["book", "labels"] (spLF K) := by
  have bL : Binds K T.fd_label_book ["labels", "kinds"] [] := T.F_label_book.bindsN fun _ _ _ _ _ _ us hl => match us, hl with | [_, _], _ => rfl
  have bF : Binds K T.fd_Family_init ["self", "books"] [] := T.F_Family_init.bindsN fun _ _ _ _ _ _ us hl => match us, hl with | [_, _], _ => rfl
  refine T.F_label_family.ok scLF (fun vs H Q E h => ?_) (fun cdv A outer s H vs Q E hr h => ⟨_, pss_cons (ps_if (pt_cmpR op_ne (pe_callB call_len_seq (by rfl) T.n_len PySem.boot_len (pa_cons (pv 1) pa_nil)) (pe_fld (pv 0) rfl) (nomark _)) (pss_one (ps_raise rfl (takes_of rfl rfl rfl rfl) (pmk_BadLabels Z.xB Z.gB Z.sup hr (pa_cons pe_str (pa_cons (pe_callB call_len_seq (by rfl) T.n_len PySem.boot_len (pa_cons (pv 1) pa_nil)) pa_nil))))) pss_nil)
    (pss_one (ps_ret (pe_make T.m_Family (ok_FamI T Z) (hr.mono (by decide)) rfl T.g_Family bF .nil (passes_call (takes_of rfl rfl rfl rfl) (fun _ _ _ _ h => h)) (pa_cons (pe_lst (pa_cons (pv 0) (pa_cons (pe_call (ok_labelBook T Z) hr rfl T.g_label_book T.F_label_book.kp bL .nil (passes_call (takes_of rfl rfl rfl rfl) (fun _ _ _ _ h => h)) (pa_cons (pv 1) (pa_cons (pe_fld (pv 0) rfl) pa_nil))) pa_nil))) pa_nil)))), ?_⟩)
  · obtain ⟨_, _, _, _, _, _, rfl, _⟩ := h
    rfl
  obtain ⟨x, l, n, k, rs, ls, rfl, hb, hl, hn, fw, hk, h1, h2⟩ := h
  have sz : sizeLine = 16777216 := sizeLine_eq
  obtain ⟨dx, t, ys, hx, hx', hx''⟩ := id hb
  refine ⟨_, rfl, l, iV ls, rfl, hl, _, rfl, x, _, dx, _, _, rfl, hx, T.c_Book, T.na_Book_places, rfl, rfl, _, rfl, ?_⟩
  rw [iV_len]
  by_cases e : ls.length = n
  · rw [ival (show (ls.length : Int) = (n : Int) by rw [e])]
    refine iteF ?_
    have h2 := h2 e
    subst e
    refine ⟨_, rfl, _, rfl, _, rfl, x, _, dx, _, _, rfl, hx, T.c_Book, T.na_Book_size, rfl, l, ls, k, rfl, hl, fw.1, hk, ?_⟩
    cases hc : chkKinds ls k with
    | some fa =>
      rw [hc] at h2
      exact h2
    | none =>
      rw [hc] at h2
      obtain ⟨hN, hQ⟩ := h2
      intro x2 H1 qs ex1 hx2 hb2 pq pw
      obtain ⟨⟨hk1, hk2⟩, _, _⟩ := chkN hc
      refine ⟨by show 2 ≤ sizeLine; omega, fun bl hbl => ?_⟩
      intro y dy hy hdy hne
      have ex2 : Ext H (upd H1 bl (.lst [.ref x, .ref x2])) := ex1.trans (Ext.upd hbl)
      have eb2 := book_ext hb2 (Ext.upd (u := .lst [.ref x, .ref x2]) hbl)
      have hbl2 : upd H1 bl (.lst [.ref x, .ref x2]) bl = some (.lst [.ref x, .ref x2]) := upd_same
      generalize hH2 : upd H1 bl (.lst [.ref x, .ref x2]) = H2 at hy hdy ex2 eb2 hbl2
      have e3 : Ext H2 (upd (upd H2 dy (.own y)) y (.ins (He.ga K "Family") dy [])) := (Ext.upd hdy).trans (Ext.upd ((upd_ne (Ne.symm hne)).trans hy))
      have efw : FewB ls.length (ls.length - k) qs := ⟨fw.1, by omega, fun r hr => by
        obtain ⟨c, hc1, rfl⟩ := List.mem_map.mp (pq.mem_iff.mp hr)
        exact chos_comb hc1, pq.nodup_iff.mpr chos_rooms⟩
      refine ⟨y, dy, bl, x, x2, ls.length, k, ls.length - k, rs, qs, rfl, upd_same, e3 _ _ hbl2, book_ext hb (ex2.trans e3), book_ext eb2 e3, by omega, fw, efw, he ls k qs hc fw.1 pq, ?_, ?_⟩
      · intro d H' f v ex hd tv ho hmin hf
        refine hN d H' f v (ex2.trans (e3.trans ex)) ?_ tv ho hmin hf
        cases z : H d with
        | none => rfl
        | some u => rw [(ex2.trans e3) _ _ z] at hd; cases hd
      · intro hno H' t eb hy' ht'
        have e4 := make_ext hy hdy eb
        refine ⟨rfl, hQ hno y x2 t qs H' (ex2.trans e4) ?_ ⟨⟨dy, hy'⟩, ht'⟩ (book_ext eb2 e4) pq pw⟩
        cases z : H y with
        | none => rfl
        | some u => rw [ex2 _ _ z] at hy; cases hy
  · rw [ival_ne (show (ls.length : Int) ≠ (n : Int) by omega)]
    refine iteT ?_
    refine ⟨_, rfl, l, iV ls, rfl, hl, _, _, rfl, fun d hd => ?_⟩
    rw [iV_len]
    exact h1 e d _ (Ext.upd hd) hd upd_same
end
end NA
set_option maxRecDepth 100000
set_option maxHeartbeats 4000000
/-! the label book is even. -/
namespace NA
open PySem PySem.Spec PyProof.Rows L2
theorem faces_nodup {r : List Int} (h : r.Nodup) : (facesI r).Nodup := by
  unfold facesI
  refine List.pairwise_map.mpr (List.Pairwise.imp_of_mem (fun {i j} hi hj hij e => ?_) (List.pairwise_lt_range))
  have hj' := List.mem_range.mp hj
  have hi' := List.mem_range.mp hi
  have h1 : r[i] ∈ r.eraseIdx j := by
    rw [List.mem_eraseIdx_iff_getElem]
    exact ⟨i, hi', by omega, rfl⟩
  rw [← e, List.mem_eraseIdx_iff_getElem] at h1
  obtain ⟨m, hm, hne, he⟩ := h1
  exact hne ((List.getElem_inj h).mp he)
theorem sub_face : ∀ {f r : List Int}, f.Sublist r → f.length + 1 = r.length → f ∈ facesI r
  | f, [], h, e => by cases e
  | f, a :: r, h, e => by
    rw [mem_faces]
    cases h with
    | cons _ h =>
      have : f = r := h.eq_of_length (by simpa using e)
      subst this
      exact ⟨0, by simp, rfl⟩
    | cons_cons _ h =>
      rename_i f
      obtain ⟨k, hk, he⟩ := mem_faces.mp (sub_face h (by simpa using e))
      exact ⟨k + 1, by simpa using hk, by rw [he]; rfl⟩
theorem sorted_eq {a b : List Int} (ha : a.Pairwise (· < ·)) (hb : b.Pairwise (· < ·)) (h : ∀ p, p ∈ a ↔ p ∈ b) : a = b := by
  have na : a.Nodup := ha.imp fun h => by omega
  have nb : b.Nodup := hb.imp fun h => by omega
  exact List.Perm.eq_of_pairwise (fun x y _ _ (h1 : x < y) (h2 : y < x) => by omega) ha hb ((List.perm_ext_iff_of_nodup na nb).mpr h)
theorem sorted_sub {a b : List Int} (ha : a.Pairwise (· < ·)) (hb : b.Pairwise (· < ·)) (h : ∀ p ∈ a, p ∈ b) : a.Sublist b := by
  have : a = b.filter fun p => decide (p ∈ a) := sorted_eq ha (hb.filter _) fun p => by
    rw [List.mem_filter]
    exact ⟨fun z => ⟨h p z, decide_eq_true z⟩, fun z => of_decide_eq_true z.2⟩
  rw [this]
  exact List.filter_sublist
theorem face_count {r f : List Int} (hr : r.Pairwise (· < ·)) (hf : f.Pairwise (· < ·)) (hl : f.length + 1 = r.length) : (facesI r).count f = if ∀ p ∈ f, p ∈ r then 1 else 0 := by
  by_cases h : ∀ p ∈ f, p ∈ r
  · rw [if_pos h]
    have h1 := List.nodup_iff_count.mp (faces_nodup (r := r) (hr.imp fun h => by omega)) f
    have h2 := List.count_pos_iff.mpr (sub_face (sorted_sub hf hr h) hl)
    omega
  · rw [if_neg h]
    refine List.count_eq_zero_of_not_mem fun hm => h ?_
    obtain ⟨k, _, rfl⟩ := mem_faces.mp hm
    exact fun p hp => (List.eraseIdx_sublist ..).subset hp
/-- the product of the numbers of the places in U of each label -/
def prodU (ls : List Int) (n : Nat) (U : Int → Bool) : Nat → Nat
  | 0 => 1
  | l + 1 => prodU ls n U l * ((alike ls n (1 + (l : Int))).filter U).length
def sumU (ls : List Int) (n : Nat) (U : Int → Bool) : Nat → Nat
  | 0 => 0
  | l + 1 => sumU ls n U l + ((alike ls n (1 + (l : Int))).filter U).length
theorem flat_filter (U : Int → Bool) (als : List Int) : ∀ cs : List (List Int), ((cs.flatMap fun c => als.map fun p => c ++ [p]).filter fun c => c.all U).length = (cs.filter fun c => c.all U).length * (als.filter U).length
  | [] => by rw [List.flatMap_nil]; show 0 = 0 * _; rw [Nat.zero_mul]
  | c :: cs => by
    rw [List.flatMap_cons, List.filter_append, List.length_append, flat_filter U als cs, List.filter_map, List.length_map]
    by_cases h : c.all U = true
    · rw [List.filter_cons_of_pos (by simpa using h), List.length_cons, Nat.succ_mul, Nat.add_comm]
      congr 2
      refine List.filter_congr fun p _ => ?_
      show (c ++ [p]).all U = U p
      rw [List.all_append, h]
      simp
    · rw [List.filter_cons_of_neg (by simpa using h)]
      have : als.filter ((fun c => c.all U) ∘ fun p => c ++ [p]) = [] := by
        refine List.filter_eq_nil_iff.mpr fun p _ z => h ?_
        have z : (c ++ [p]).all U = true := z
        rw [List.all_append] at z
        exact (Bool.and_eq_true_iff.mp z).1
      rw [this, List.length_nil, Nat.zero_add]
theorem chos_count (ls : List Int) (n : Nat) (U : Int → Bool) : ∀ l, ((chos ls n l).filter fun c => c.all U).length = prodU ls n U l
  | 0 => rfl
  | l + 1 => by
    unfold chos prodU
    rw [flat_filter, chos_count ls n U l]
theorem sum_count (ls : List Int) (n : Nat) (U : Int → Bool) : ∀ l : Nat, sumU ls n U l = ((rng n).filter fun p => U p && decide (1 ≤ lab ls p ∧ lab ls p ≤ (l : Int))).length
  | 0 => by
    have : ((rng n).filter fun p => U p && decide (1 ≤ lab ls p ∧ lab ls p ≤ ((0 : Nat) : Int))) = [] := List.filter_eq_nil_iff.mpr fun p _ z => by
      have := of_decide_eq_true (Bool.and_eq_true_iff.mp z).2
      omega
    rw [this]; rfl
  | l + 1 => by
    unfold sumU alike
    rw [sum_count ls n U l, List.filter_filter]
    generalize rng n = r
    induction r with
    | nil => rfl
    | cons a r ih =>
      by_cases hU : U a = true
      · by_cases h1 : 1 ≤ lab ls a ∧ lab ls a ≤ (l : Int)
        · rw [List.filter_cons_of_pos (by rw [hU, decide_eq_true h1]; rfl), List.filter_cons_of_neg (by rw [decide_eq_false (show ¬ lab ls a = 1 + (l : Int) by omega)]; simp), List.filter_cons_of_pos (by rw [hU, decide_eq_true (show 1 ≤ lab ls a ∧ lab ls a ≤ ((l + 1 : Nat) : Int) by omega)]; rfl), List.length_cons, List.length_cons]
          omega
        · by_cases h2 : lab ls a = 1 + (l : Int)
          · rw [List.filter_cons_of_neg (by rw [decide_eq_false h1]; simp), List.filter_cons_of_pos (by rw [hU, decide_eq_true h2]; rfl), List.filter_cons_of_pos (by rw [hU, decide_eq_true (show 1 ≤ lab ls a ∧ lab ls a ≤ ((l + 1 : Nat) : Int) by omega)]; rfl), List.length_cons, List.length_cons]
            omega
          · rw [List.filter_cons_of_neg (by rw [decide_eq_false h1]; simp), List.filter_cons_of_neg (by rw [decide_eq_false h2]; simp), List.filter_cons_of_neg (by rw [decide_eq_false (show ¬ (1 ≤ lab ls a ∧ lab ls a ≤ ((l + 1 : Nat) : Int)) by omega)]; simp)]
            exact ih
      · rw [List.filter_cons_of_neg (by simp [hU]), List.filter_cons_of_neg (by simp [hU]), List.filter_cons_of_neg (by simp [hU])]
        exact ih
theorem prod_sum (ls : List Int) (n : Nat) (U : Int → Bool) : ∀ l, prodU ls n U l % 2 = 1 → sumU ls n U l % 2 = l % 2
  | 0, _ => rfl
  | l + 1, h => by
    unfold prodU at h
    unfold sumU
    have h1 : prodU ls n U l % 2 = 1 := by
      rcases Nat.mod_two_eq_zero_or_one (prodU ls n U l) with z | z
      · rw [Nat.mul_mod, z] at h; simp at h
      · exact z
    have h2 : ((alike ls n (1 + (l : Int))).filter U).length % 2 = 1 := by
      rw [Nat.mul_mod, h1, Nat.one_mul, Nat.mod_mod] at h
      exact h
    have := prod_sum ls n U l h1
    omega
theorem count_allF (f : List Int) : ∀ rs : List (List Int), (allF rs).count f = (rs.map fun r => (facesI r).count f).sum
  | [] => rfl
  | r :: rs => by
    unfold allF
    rw [List.flatMap_cons, List.count_append, List.map_cons, List.sum_cons, ← count_allF f rs]
    rfl
theorem sum_ite {α : Type} (p : α → Bool) : ∀ l : List α, (l.map fun x => if p x = true then 1 else 0).sum = (l.filter p).length
  | [] => rfl
  | a :: l => by
    rw [List.map_cons, List.sum_cons, sum_ite p l]
    by_cases h : p a = true
    · rw [if_pos h, List.filter_cons_of_pos h, List.length_cons, Nat.add_comm]
    · rw [if_neg h, List.filter_cons_of_neg h, Nat.zero_add]
theorem lab_get {ls : List Int} {i : Nat} (h : i < ls.length) : lab ls (i : Int) = ls[i] := by
  show ls.getD i 0 = ls[i]
  rw [List.getD_eq_getElem?_getD, List.getElem?_eq_getElem h]
  rfl
theorem chkIn_all {ls : List Int} {k : Int} (h : chkIn ls k = none) {p : Int} (hp : p ∈ rng ls.length) : 1 ≤ lab ls p ∧ lab ls p ≤ k := by
  obtain ⟨h0, h1⟩ := mem_rng.mp hp
  obtain ⟨i, rfl⟩ := Int.eq_ofNat_of_zero_le h0
  have hi : i < ls.length := by omega
  unfold chkIn at h
  have h := Option.map_eq_none_iff.mp h
  rw [List.find?_range_eq_none] at h
  have := h i hi
  unfold badL at this
  have q : decide (1 ≤ ls.getD i 0 ∧ ls.getD i 0 ≤ k) = true := by simpa using this
  exact of_decide_eq_true q
theorem lb_even : LbEven := by
  intro ls k qs hc hn hp f ⟨hf, ho⟩
  obtain ⟨⟨hk1, hk2⟩, hin, _⟩ := chkN hc
  have hpa : (allF qs).Perm (allF ((chos ls ls.length k).map (compl ls.length))) := hp.flatMap_right _
  rw [hpa.count_eq] at ho
  have hf := hpa.mem_iff.mp hf
  obtain ⟨r, hr, hfr⟩ := List.mem_flatMap.mp hf
  obtain ⟨c0, hc0, rfl⟩ := List.mem_map.mp hr
  have srt : ∀ c, (compl ls.length c).Pairwise (· < ·) := fun c => (rng_pair ls.length).sublist (compl_sub ls.length c)
  obtain ⟨j, hj, ej⟩ := mem_faces.mp hfr
  have hfs : f.Sublist (compl ls.length c0) := by rw [ej]; exact List.eraseIdx_sublist ..
  have hfp := (srt c0).sublist hfs
  have hlen : ∀ c ∈ chos ls ls.length k, (compl ls.length c).length = ls.length - k := fun c hc => (mem_combs.mp (chos_comb hc)).2
  have hfl : f.length + 1 = ls.length - k := by
    rw [ej, List.length_eraseIdx_of_lt hj, hlen c0 hc0]
    omega
  let U : Int → Bool := fun p => !decide (p ∈ f)
  have e1 : (allF ((chos ls ls.length k).map (compl ls.length))).count f = prodU ls ls.length U k := by
    rw [count_allF, List.map_map, ← chos_count, ← sum_ite]
    congr 1
    refine List.map_congr_left fun c hc => ?_
    show (facesI (compl ls.length c)).count f = _
    rw [face_count (srt c) hfp (by rw [hlen c hc]; exact hfl)]
    have : (∀ p ∈ f, p ∈ compl ls.length c) ↔ c.all U = true := by
      rw [List.all_eq_true]
      constructor
      · intro h q hq
        show (!decide (q ∈ f)) = true
        rw [decide_eq_false fun z => (mem_compl.mp (h q z)).2 hq]
        rfl
      · intro h p hp
        refine mem_compl.mpr ⟨(compl_sub _ _).subset (hfs.subset hp), fun z => ?_⟩
        have := h p z
        have q : (!decide (p ∈ f)) = true := this
        rw [decide_eq_true hp] at q
        cases q
    by_cases g : c.all U = true
    · rw [if_pos (this.mpr g), if_pos g]
    · rw [if_neg (fun z => g (this.mp z)), if_neg g]
  rw [e1] at ho
  have h2 := prod_sum ls ls.length U k ho
  rw [sum_count] at h2
  have e2 : ((rng ls.length).filter fun p => U p && decide (1 ≤ lab ls p ∧ lab ls p ≤ (k : Int))) = compl ls.length f := by
    unfold compl sub
    refine List.filter_congr fun p hp => ?_
    rw [decide_eq_true (chkIn_all hin hp), Bool.and_true]
  have hfn : f.Nodup := hfp.imp fun h => by omega
  have e3 := compl_len hfn fun p hp => (compl_sub _ _).subset (hfs.subset hp)
  rw [e2] at h2
  omega
end NA
set_option maxRecDepth 100000
set_option maxHeartbeats 4000000
/-! _law_due. -/
namespace NA
open PySem PySem.Spec PyProof.Rows L2
/-- the due outcome of label_family -/
inductive Due where
  | fine
  | lab (f : Str) (a : Int)
  | odd (f : List Int)
def DueAt (H : Hp) (v : V) : Due → Prop
  | .fine => v = .non
  | .lab f a => ∃ t, v = .ref t ∧ H t = some (.tup [.str "labels", .str f, .int a])
  | .odd f => ∃ t v0, v = .ref t ∧ H t = some (.tup [.str "odd", .int 0, v0]) ∧ TI H v0 f
def IsDue (n k : Nat) (rs : List (List Int)) (ls : List Int) (d : Due) : Prop :=
  if ls.length ≠ n then d = .lab "count" (ls.length : Int) else match chkKinds ls k with
    | some (f, a) => d = .lab f a
    | none => (d = .fine ∧ ∀ f, ¬ oddIn rs f) ∨ (∃ f, d = .odd f ∧ oddIn rs f ∧ ∀ g, oddIn rs g → cd f ≤ cd g)
section
variable {P : Program} {w : World} {K : PySem.W.Frag} {mg : Str → Option Value} {base : Heap}
def nDue : List Str := ["_law_n", "_law_size", "_law_rooms_here", "_law_labels_here", "_law_at", "_law_label", "_law_odd_here"]
def pDue : List Str := ["_law_n", "_law_size", "_law_rooms_here", "_law_labels_here"]
theorem scDue : FnScope nDue pDue (defScope sDue) := ⟨rfl, rfl, rfl, by decide +kernel, rfl, by decide +kernel, by decide +kernel⟩
def spDue (K : PySem.W.Frag) : Sp := fun vs H Q _ => ∃ (n k : Nat) (a l : Addr) (xs : List V) (rs : List (List Int)) (ls : List Int), vs = [.int (n : Int), .int (k : Int), .ref a, .ref l] ∧ H a = some (.lst xs) ∧ TIs H xs rs ∧ SqL K H l (iV ls) ∧ ls.length ≤ 63 ∧ 1 ≤ k ∧ k ≤ 63 ∧ FewB n k rs ∧
  ∀ d v H', Ext H H' → IsDue n k rs ls d → DueAt H' v d → Q v H'
theorem ok_due (T : Fx K mg) : FnOk P w K mg base CX0 3 (He.ga K "_law_due") T.fd_law_due pDue (spDue K) := by
  have bO : Binds K T.fd_law_odd ["_law_rooms_here"] [] := T.F_law_odd.bindsN fun _ _ _ _ _ _ us hl => match us, hl with | [_], _ => rfl
  refine T.F_law_due.ok scDue (fun vs H Q E h => ?_) (fun cdv A outer s H vs Q E hr h => ⟨_, PSs.nox (pss_cons (ps_if (pt_cmpR op_ne (pe_callB call_len_seq (by rfl) T.n_len PySem.boot_len (pa_cons (pv 3) pa_nil)) (pv 0) (nomark _)) (pss_one (ps_ret (pe_tup (pa_cons pe_str (pa_cons pe_str (pa_cons (pe_callB call_len_seq (by rfl) T.n_len PySem.boot_len (pa_cons (pv 3) pa_nil)) pa_nil)))))) pss_nil)
    (pss_cons (ps_if (pt_cmpR op_ge (pv 1) (pv 0) (nomark _)) (pss_one (ps_ret (pe_tup (pa_cons pe_str (pa_cons pe_str (pa_cons (pv 1) pa_nil)))))) pss_nil)
    (pss_cons (ps_for PassesOwn.never rfl (pi_range1 rfl T.n_range (pa_cons (pv 0) pa_nil)) (pg_name (i := 4) scDue.nd rfl (Or.inl rfl))
      (pss_one (ps_if (PW.pt (pw_or (pt_cmpR op_lt (pe_ix ix_list (pv 3) (pv 4) (fun _ _ => rfl)) pe_int (nomark _)) (pw_or1 (pt_cmpR op_gt (pe_ix ix_list (pv 3) (pv 4) (fun _ _ => rfl)) (pv 1) (nomark _))))) (pss_one (ps_ret (pe_tup (pa_cons pe_str (pa_cons pe_str (pa_cons (pv 4) pa_nil)))))) pss_nil)))
    (pss_cons (ps_for PassesOwn.never rfl (pi_range2 rfl T.n_range (pa_cons pe_int (pa_cons (pe_op op_add (pv 1) pe_int) pa_nil))) (pg_name (i := 5) scDue.nd rfl (Or.inl rfl))
      (pss_one (ps_if (pt_cmpR op_notIn_seq (pv 5) (pv 3) (by rfl)) (pss_one (ps_ret (pe_tup (pa_cons pe_str (pa_cons pe_str (pa_cons (pv 5) pa_nil)))))) pss_nil)))
    (pss_cons (ps_set (i := 6) scDue.nd rfl (Or.inl rfl) (pe_call (ok_lodd T) hr rfl T.g_law_odd T.F_law_odd.kp bO .nil pass0 (pa_cons (pv 2) pa_nil)))
    (pss_cons (ps_if (pt_cmpR op_gt (pe_callB call_len_seq (by rfl) T.n_len PySem.boot_len (pa_cons (pv 6) pa_nil)) pe_int (nomark _)) (pss_one (ps_ret (pe_tup (pa_cons pe_str (pa_cons pe_int (pa_cons (pe_ix ix_list (pv 6) pe_int (fun _ _ => rfl)) pa_nil)))))) pss_nil)
    (pss_one (ps_ret pe_non)))))))), ?_⟩)
  · obtain ⟨_, _, _, _, _, _, _, rfl, _⟩ := h
    rfl
  obtain ⟨n, k, a, l, xs, rs, ls, rfl, ha, ht, hl, hn, hk1, hk, fw, hq⟩ := h
  have sz : sizeLine = 16777216 := sizeLine_eq
  refine ⟨_, rfl, l, iV ls, rfl, .inl hl, _, rfl, rfl, _, rfl, ?_⟩
  rw [iV_len]
  by_cases e : ls.length = n
  · rw [ival (show (ls.length : Int) = (n : Int) by rw [e])]
    refine iteF ?_
    subst e
    have fin : ∀ (f : Str) (v : Int) (t : Addr) (H' : Hp), Ext H H' → chkKinds ls k = some (f, v) → H' t = none → Q (.ref t) (upd H' t (.tup [.str "labels", .str f, .int v])) := fun f v t H' ex hc ht => by
      refine hq (.lab f v) _ _ (ex.trans (Ext.upd ht)) ?_ ⟨t, rfl, upd_same⟩
      unfold IsDue
      rw [if_neg (fun z => z rfl), hc]
    refine ⟨_, rfl, _, rfl, _, _, rfl, rfl, _, rfl, ?_⟩
    refine ite2 (fun h1 => ?_) fun h1 => ?_
    · have h1' : (k : Int) ≥ (ls.length : Int) := of_decide_eq_true h1
      refine ⟨_, rfl, by show 3 ≤ sizeLine; omega, fun t ht => ?_⟩
      exact fin "kinds" (k : Int) t H (Ext.refl _) (if_neg (by omega)) ht
    have h1' : ¬ (k : Int) ≥ (ls.length : Int) := fun z => h1 (decide_eq_true z)
    have hin : 1 ≤ k ∧ k < ls.length := ⟨hk1, by omega⟩
    have hchk : chkKinds ls k = (chkIn ls k).orElse fun _ => chkUse ls k := if_pos hin
    refine ⟨_, rfl, _, rfl, by omega, by omega, ?_⟩
    refine for_range (lo := 0) (n := ((ls.length : Int)).toNat) (fun i σ H2 => (∃ b c d, σ = [some (.int (ls.length : Int)), some (.int (k : Int)), some (.ref a), some (.ref l), b, c, d]) ∧ H2 = H ∧ ∀ j, j < i → badL ls k j = false) ⟨⟨none, none, none, rfl⟩, rfl, fun j hj => absurd hj (Nat.not_lt_zero _)⟩ (fun i σ H2 hi z => ?_) fun σ H2 z => ?_
    · obtain ⟨⟨b, c, d, rfl⟩, rfl, hb⟩ := z
      rw [show (0 : Int) + (i : Int) = (i : Int) from Int.zero_add _]
      have hi' : i < ls.length := by simpa using hi
      have hgd : ls.getD i 0 = lab ls (i : Int) := rfl
      have hat := lab_at (ls := ls) (p := (i : Int)) (by omega) (by omega)
      have bad : badL ls k i = true → chkKinds ls k = some (("label" : Str), (i : Int)) := fun h => by
        rw [hchk]
        unfold chkIn
        rw [findR hi' h hb]
        rfl
      refine ⟨_, rfl, _, rfl, l, iV ls, (i : Int), _, rfl, rfl, hl, hat, _, _, rfl, rfl, _, rfl, ?_⟩
      refine ite2 (fun g1 => ?_) fun g1 => ?_
      · have g1' : lab ls (i : Int) < 1 := of_decide_eq_true g1
        refine iteT ⟨_, rfl, by show 3 ≤ sizeLine; omega, fun t ht => ?_⟩
        refine fin "label" (i : Int) t _ (Ext.refl _) (bad ?_) ht
        unfold badL
        rw [hgd, decide_eq_false (fun z => by omega)]; first | done | rfl
      · have g1' : ¬ lab ls (i : Int) < 1 := fun z => g1 (decide_eq_true z)
        refine ⟨_, rfl, _, rfl, l, iV ls, (i : Int), _, rfl, rfl, hl, hat, _, rfl, _, _, rfl, rfl, _, rfl, ?_⟩
        refine ite2 (fun g2 => ?_) fun g2 => ?_
        · have g2' : lab ls (i : Int) > (k : Int) := of_decide_eq_true g2
          refine ⟨_, rfl, by show 3 ≤ sizeLine; omega, fun t ht => ?_⟩
          refine fin "label" (i : Int) t _ (Ext.refl _) (bad ?_) ht
          unfold badL
          rw [hgd, decide_eq_false (fun z => by omega)]; first | done | rfl
        · have g2' : ¬ lab ls (i : Int) > (k : Int) := fun z => g2 (decide_eq_true z)
          refine ⟨⟨_, _, _, rfl⟩, rfl, fun j hj => ?_⟩
          by_cases e : j = i
          · subst e
            unfold badL
            rw [hgd, decide_eq_true ⟨by omega, by omega⟩]
            rfl
          · exact hb j (by omega)
    · obtain ⟨⟨b, c, d, rfl⟩, rfl, hb⟩ := z
      have hIn : chkIn ls k = none := by
        unfold chkIn
        rw [findN (fun j hj => hb j (by omega))]
        rfl
      refine ⟨_, rfl, _, _, rfl, rfl, _, _, rfl, ⟨by omega, by omega, by omega, by omega⟩, ?_⟩
      refine for_range (lo := 1) (n := (((k : Int) + 1) - 1).toNat) (fun i σ H3 => (∃ b c d, σ = [some (.int (ls.length : Int)), some (.int (k : Int)), some (.ref a), some (.ref l), b, c, d]) ∧ H3 = H2 ∧ ∀ j, j < i → unuL ls j = false) ⟨⟨_, _, _, rfl⟩, rfl, fun j hj => absurd hj (Nat.not_lt_zero _)⟩ (fun i σ H3 hi z => ?_) fun σ H3 z => ?_
      · obtain ⟨⟨b, c, d, rfl⟩, rfl, hu⟩ := z
        refine ⟨_, rfl, _, rfl, l, iV ls, rfl, .inl hl, rfl, iV_flat _, _, rfl, ?_⟩
        rw [iV_in]
        by_cases g : (1 + (i : Int)) ∈ ls
        · rw [decide_eq_true g]
          refine iteF ⟨⟨_, _, _, rfl⟩, rfl, fun j hj => ?_⟩
          by_cases e : j = i
          · subst e
            exact decide_eq_false (fun z => z g)
          · exact hu j (by omega)
        · rw [decide_eq_false g]
          refine iteT ⟨_, rfl, by show 3 ≤ sizeLine; omega, fun t ht => ?_⟩
          refine fin "unused" (1 + (i : Int)) t _ (Ext.refl _) ?_ ht
          rw [hchk, hIn]
          show chkUse ls k = _
          unfold chkUse
          rw [findR (i := i) (by omega) (decide_eq_true g) hu]
          rfl
      · obtain ⟨⟨b, c, d, rfl⟩, rfl, hu⟩ := z
        have e : (((k : Int) + 1) - 1).toNat = k := by omega
        rw [e] at hu
        have hcn : chkKinds ls k = none := by
          rw [hchk, hIn]
          show chkUse ls k = none
          unfold chkUse
          rw [findN hu]
          rfl
        obtain ⟨hn7, _, hcx, hndx⟩ := fw
        have hkk : k = (k - 1) + 1 := by omega
        refine ⟨_, rfl, a, xs, rs, rfl, ha, ht, fun r hr => ?_, ?_, ?_, fun p ys os H4 e4 hp hpl tq nd mem sorted => ?_⟩
        · have := (mem_combs.mp (hcx r hr)).1.length_le
          rw [rng_len] at this
          omega
        · have h1 := nodup_lenT hndx hcx
          have h2 := combs_len (rng ls.length) k (by rw [rng_len]; exact hn7)
          omega
        · exact fewF_comb (k := k - 1) hn7 fun c hc => by rw [← hkk]; exact hcx c hc
        refine ⟨_, rfl, p, ys, rfl, .inl (.inl (.inl hpl)), _, _, rfl, rfl, _, rfl, ?_⟩
        rw [tq.1]
        cases os with
        | nil =>
          refine iteF ?_
          refine hq .fine _ _ e4 ?_ rfl
          unfold IsDue
          rw [if_neg (fun z => z rfl), hcn]
          exact .inl ⟨rfl, fun f hf => nomatch (mem f).mpr hf⟩
        | cons f os =>
          refine ite2 (fun _ => ?_) fun h => absurd (show decide (((os.length + 1 : Nat) : Int) > 0) = true from decide_eq_true (by omega)) h
          obtain ⟨v0, ys', rfl⟩ : ∃ v0 ys', ys = v0 :: ys' := by
            cases ys with
            | nil => have := tq.1; cases this
            | cons a b => exact ⟨a, b, rfl⟩
          refine ⟨_, rfl, p, _, 0, _, rfl, rfl, .inl (.inl hpl), atI_nat (show (v0 :: ys')[0]? = some v0 from rfl), by show 3 ≤ sizeLine; omega, fun t ht => ?_⟩
          refine hq (.odd f) _ _ (e4.trans (Ext.upd ht)) ?_ ⟨t, v0, rfl, upd_same, tq.head.ext (Ext.upd ht)⟩
          unfold IsDue
          rw [if_neg (fun z => z rfl), hcn]
          refine .inr ⟨f, rfl, (mem f).mp (List.mem_cons_self ..), fun g hg => ?_⟩
          rcases List.mem_cons.mp ((mem g).mpr hg) with rfl | hm
          · exact Int.le_refl _
          · exact (List.pairwise_cons.mp sorted).1 g hm
  · rw [ival_ne (show (ls.length : Int) ≠ (n : Int) by omega)]
    refine iteT ?_
    refine ⟨_, rfl, l, iV ls, rfl, .inl hl, by show 3 ≤ sizeLine; omega, fun t ht => ?_⟩
    rw [iV_len]
    exact hq (.lab "count" (ls.length : Int)) _ _ (Ext.upd ht) (by unfold IsDue; rw [if_pos e]) ⟨t, rfl, upd_same⟩
end
end NA
set_option maxRecDepth 100000
set_option maxHeartbeats 4000000
/-! extended_ways, tail_ways. -/
namespace NA
open PySem PySem.Spec PyProof.Rows L2
section
variable {P : Program} {w : World} {K : PySem.W.Frag} {mg : Str → Option Value} {base : Heap}
def nExt : List Str := ["ways", "rooms", "longer", "covered", "room", "union"]
theorem scExt : FnScope nExt ["ways", "rooms"] (defScope sExtWays) := ⟨rfl, rfl, rfl, by decide +kernel, rfl, by decide +kernel, by decide +kernel⟩
def OneV (kvs : List (List Key × V)) (rs : List (List Int)) : Prop := DK kvs rs ∧ ∀ r ∈ rs, valV kvs (kI r) = some (.int 1)
def spExt : Sp := fun vs H Q _ => ∃ (wd t : Addr) (ys : List V) (rs : List (List Int)), vs = [.ref wd, .ref t] ∧ H wd = some (.dT [([], .int 1)]) ∧ H t = some (.tup ys) ∧ TIs H ys rs ∧ rs.length ≤ 63 ∧ (∀ r ∈ rs, r.length ≤ 63 ∧ srt r = r) ∧ rs.Nodup ∧
  ∀ d H' kvs, H d = none → Ext H H' → H' d = some (.dT kvs) → OneV kvs rs → Q (.ref d) H'
theorem ok_ext (T : Fx K mg) : FnOk P w K mg base CX0 2 (He.ga K "extended_ways") T.fd_extended_ways ["ways", "rooms"] spExt := by
  have bS : Binds K T.fd_shuffle_sign ["first", "second"] [] := T.F_shuffle_sign.bindsN fun _ _ _ _ _ _ us hl => match us, hl with | [_, _], _ => rfl
  have bM : Binds K T.fd_merged nMerged [] := T.F_merged.bindsN fun _ _ _ _ _ _ us hl => match us, hl with | [_, _], _ => rfl
  refine T.F_extended_ways.ok scExt (fun vs H Q E h => ?_) (fun cdv A outer s H vs Q E hr h => ⟨_, PSs.nox (pss_cons (ps_set (i := 2) scExt.nd rfl (Or.inl rfl) pe_dnewT)
    (pss_cons (ps_lock (ps_for PassesOwn.never rfl (pi_keys (pv 0)) (pg_name (i := 3) scExt.nd rfl (Or.inl rfl))
      (pss_one (ps_for PassesOwn.never rfl (pi_tup (pv 1)) (pg_name (i := 4) scExt.nd rfl (Or.inl rfl))
        (pss_one (ps_if (pt_cmpR op_ne (pe_call (ok_shuffle T) hr rfl T.g_shuffle_sign T.F_shuffle_sign.kp bS .nil pass0 (pa_cons (pv 3) (pa_cons (pv 4) pa_nil))) pe_int (nomark _))
          (pss_cons (ps_set (i := 5) scExt.nd rfl (Or.inl rfl) (pe_call (ok_merged T) hr rfl T.g_merged T.F_merged.kp bM .nil pass0 (pa_cons (pv 3) (pa_cons (pv 4) pa_nil))))
          (pss_one (ps_dput (hu_of hr) (pv 2) (pv 5) (pe_op op_add (pe_dget2 (hu_of hr) (pv 2) (pv 5) pe_int ⟨rfl, rfl, rfl, rfl⟩) (pe_dget (hu_of hr) (pv 0) (pv 3) (fun _ _ => rfl))) rfl))) pss_nil))))))
    (pss_one (ps_ret (pv 2))))), ?_⟩)
  · obtain ⟨_, _, _, _, rfl, _⟩ := h
    rfl
  obtain ⟨wd, t, ys, rs, rfl, hw, ht, hty, hrs, hr63, hnd, hq⟩ := h
  have sz : sizeLine = 16777216 := sizeLine_eq
  intro ld hld
  have hwl : wd ≠ ld := fun z => by rw [z, hld] at hw; cases hw
  have htw : t ≠ wd := ne_of ht hw (by intro z; cases z)
  refine ⟨wd, .dT [([], .int 1)], (Ext.upd hld) _ _ hw, trivial, fun od => ?_⟩
  refine ⟨_, rfl, wd, od, rfl, .inr ⟨_, upd_same, ?_⟩⟩
  have hK0 : ∀ b u, b ≠ wd → H b = some u → (upd (upd H ld (.dT [])) wd (.frz od (.dT [([], .int 1)]))) b = some u := fun b u hb hu => by
    rw [upd_ne hb]
    exact (Ext.upd hld) _ _ hu
  refine for_keysT (fun i σ H' => (∃ a b c, σ = [some (.ref wd), some (.ref t), some (.ref ld), a, b, c]) ∧ (∀ b u, b ≠ wd → H b = some u → H' b = some u) ∧ H' wd = some (.frz od (.dT [([], .int 1)])) ∧ ∃ kvs, H' ld = some (.dT kvs) ∧ OneV kvs (if i = 0 then [] else rs)) ⟨⟨none, none, none, rfl⟩, hK0, upd_same, [], (upd_ne (Ne.symm hwl)).trans upd_same, DK.nil, fun r hr => nomatch hr⟩ (fun i σ H' _ z => z.2.2.1) (fun i k v q σ H' hkv z hqt => ?_) fun σ H' z => ?_
  · obtain ⟨⟨a, b, c, rfl⟩, k1, hf, kvs, hk, ho⟩ := z
    match i, hkv with
    | j + 1, hkv => cases hkv
    | 0, hkv =>
    cases hkv
    have ht' := k1 _ _ htw ht
    refine ⟨_, rfl, t, rfl, ⟨ys, .inl (.inl ht')⟩, ?_⟩
    refine for_tup (xs := ys) (fun j σ H3 => (∃ b c, σ = [some (.ref wd), some (.ref t), some (.ref ld), some (.ref q), b, c]) ∧ (∀ b u, b ≠ wd → H b = some u → H3 b = some u) ∧ H3 q = some (.tup []) ∧ H3 wd = some (.frz od (.dT [([], .int 1)])) ∧ ∃ kvs, H3 ld = some (.dT kvs) ∧ OneV kvs (rs.take j)) ⟨⟨_, _, rfl⟩, k1, hqt, hf, kvs, hk, ho⟩ (fun j σ H3 _ z => .inl (.inl (z.2.1 _ _ htw ht))) (fun j v σ H3 hv z => ?_) fun σ H3 z => ?_
    · obtain ⟨⟨b, c, rfl⟩, k1, hqt, hf, kvs, hk, ho⟩ := z
      obtain ⟨r, hr, rm, rfl, hrm⟩ := hty.at hv
      have hrw : rm ≠ wd := fun z => by rw [z, hw] at hrm; cases hrm
      have hrm3 := k1 _ _ hrw hrm
      obtain ⟨hr1, hr2⟩ := hr63 r (List.mem_of_getElem? hr)
      refine ⟨_, rfl, _, rfl, _, _, [], r, rfl, ⟨q, rfl, hqt⟩, ⟨rm, rfl, hrm3⟩, fun sg hsg => ?_⟩
      refine ⟨rfl, _, rfl, ?_⟩
      have hs0 : sg ≠ 0 := fun z => by
        obtain ⟨p, hp, _⟩ := hsg.mp z
        cases hp
      rw [ival_ne hs0]
      refine iteT ?_
      refine ⟨_, rfl, _, rfl, _, _, [], r, rfl, ⟨q, rfl, hqt⟩, ⟨rm, rfl, hrm3⟩, Nat.zero_le _, hr1, fun u H4 e4 tu => ?_⟩
      rw [List.nil_append, hr2] at tu
      obtain ⟨uq, rfl, huq⟩ := tu
      have hnew : valV kvs (kI r) = none := by
        refine valV_not ?_
        rw [ho.1.1, map_kI_mem]
        exact nodup_take_not hnd hr
      have hk4 := e4 _ _ hk
      refine ⟨_, rfl, ld, rfl, .inr ⟨kvs, .inl hk4⟩, _, rfl, _, DGet.t hk4 (k := kI r) (by rw [kI_kV]; exact huq), ?_⟩
      rw [hnew]
      refine ⟨_, rfl, _, rfl, wd, _, rfl, .inr ⟨_, [], q, .inr ⟨od, e4 _ _ hf⟩, rfl, e4 _ _ hqt, rfl⟩, _, _, rfl, rfl, ?_⟩
      have hlen : kvs.length < sizeLine := by
        have h1 := ho.1.len
        rw [List.length_take] at h1
        omega
      refine ⟨_, rfl, _, rfl, ld, _, rfl, DPut.t hk4 (k := kI r) (by rw [kI_kV]; exact huq) hlen, ?_⟩
      have hnm : r ∉ rs.take j := nodup_take_not hnd hr
      have hql : q ≠ ld := fun z => by rw [z, hk] at hqt; cases hqt
      refine ⟨⟨_, _, rfl⟩, fun b u hb hu => ?_, (upd_ne hql).trans (e4 _ _ hqt), (upd_ne hwl).trans (e4 _ _ hf), _, upd_same, ?_⟩
      · rw [upd_ne (fun z => by rw [z, hld] at hu; cases hu)]
        exact e4 _ _ (k1 b u hb hu)
      · rw [List.take_succ, hr]
        have hp := ho.1.put r (V.int (0 + 1))
        rw [if_neg hnm] at hp
        refine ⟨hp, fun p hp2 => ?_⟩
        rw [valV_put]
        by_cases e : p = r
        · subst e
          rw [if_pos rfl]
          rfl
        · rw [if_neg (fun z => e (kI_inj z))]
          rcases List.mem_append.mp hp2 with h | h
          · exact ho.2 p h
          · exact absurd (List.mem_singleton.mp h) e
    · obtain ⟨⟨b, c, rfl⟩, k1, hqt, hf, kvs, hk, ho⟩ := z
      rw [hty.1, List.take_length] at ho
      exact ⟨⟨_, _, _, rfl⟩, k1, hf, kvs, hk, ho⟩
  · obtain ⟨⟨a, b, c, rfl⟩, k1, hf, kvs, hk, ho⟩ := z
    refine ⟨hf, _, rfl, ?_⟩
    refine hq ld _ kvs hld (fun b u hu => ?_) ((upd_ne (Ne.symm hwl)).trans hk) ho
    by_cases hb : b = wd
    · subst hb
      rw [hw] at hu
      cases hu
      exact upd_same
    · rw [upd_ne hb]
      exact k1 b u hb hu
end
end NA
set_option maxRecDepth 100000
set_option maxHeartbeats 4000000
/-! {key: value} with a tuple key. -/
namespace NA
open PySem PySem.Spec PyProof.Rows L2
def tDisp1T (tk tv : TE) : TE := fun σ H Q => ∀ p, H p = none → tk σ (upd H p (.dT [])) fun x H1 => tv σ H1 fun y H2 => H2 p = some (.dT []) ∧ ∃ b ks, x = .ref b ∧ H2 b = some (.tup (ks.map kV)) ∧ Q (.ref p) (upd H2 p (.dT [(ks, y)]))
theorem pe_disp1T {X : Cx} {k v : Expr} {tk tv : TE} {pos : Pos} (hu : X.A.units + 2 < cLine) (hk : PE X k tk) (hv : PE X v tv) : PE X (.Dict [some k] [v] pos) (tDisp1T tk tv) := by
  refine ⟨fun pins s σ H Q I q => ?_⟩
  have hn := I.hok.fresh (Nat.le_refl s.heap.objs.size)
  have I1 := I.laid (a := s.heap.objs.size) (o := .dT []) (h' := s.heap.push { cls := .type "dict", data := .dict #[] }) (t' := s.toks) (fun _ _ q => Heap.get?_push_of_some _ q) (Nat.le_refl _) (dt_empty s.heap I.big)
  have hl : (pairTrees [some k] [v] X.env pos).length = 1 := pairTrees_length [some k] [v] X.env pos rfl rfl
  rw [arm_eval_Dict, zip_pairTrees [some k] [v] X.env pos rfl rfl, dictDisplay_pairs _ (fun z => by have := congrArg List.length z; rw [hl] at this; cases this) (by rw [hl]; decide)]
  refine wpAny_bind (wpAny_standAt (wpAny_bind (wpAny_subDictH (knd := tupleKind (mixKind X.prog X.w)) (Q := fun d s' => wpAny (model X.prog X.w) X.A (pure (Value.ref d)) _ X.xe s') (show X.A.units < cLine by omega) (by rw [hl]; decide) ?_)))
  refine thn ((pps_cons hk hv pps_nil).run pins _ σ _ (fun ps H2 => match ps with | [(x, y)] => H2 s.heap.objs.size = some (.dT []) ∧ ∃ b ks, x = .ref b ∧ H2 b = some (.tup (ks.map kV)) ∧ Q (.ref s.heap.objs.size) (upd H2 s.heap.objs.size (.dT [(ks, y)])) | _ => False) I1 (q _ hn)) fun ws s2 ⟨ps, H2, I2, rel, hps⟩ => ?_
  obtain ⟨x, y, eps⟩ : ∃ x y, ps = [(x, y)] := by
    match ps, hps with
    | [(x, y)], _ => exact ⟨x, y, rfl⟩
  subst eps
  obtain ⟨e, b, ks, ex, eb, q2⟩ := hps
  subst ex
  obtain ⟨z, hd, xs, r0, dd⟩ := dt_of I2.hok e
  cases r0
  cases rel with
  | @cons p0 q0 ps2 qs2 h t =>
    cases t
    obtain ⟨h1, h2⟩ := h
    obtain ⟨w1, w2⟩ := q0
    cases (show w1 = Value.ref b from h1)
    refine ⟨[(ks, b, w2)], ⟨rfl, rfl, key_of I2.hok eb, trivial⟩, dd, fun h' tk dd' hs => wpAny_pure ⟨.ref s.heap.objs.size, _, ?_, rfl, q2⟩⟩
    obtain ⟨oq, es, ep, hq, g2, g3, g4, _, g5⟩ := dd'
    refine d_write I2 (by rw [e]; exact True.intro) hs ⟨oq, hq⟩ ⟨by show 1 ≤ sizeLine; rw [sizeLine_eq]; omega, hd, _, (KT.put (kvs := []) .nil ks eb h2).keeps fun c ys ec => ?_, oq, es, ep, hq, g2, g3, g4, g5⟩
    rw [upd_ne (ne_of ec e (fun z => nomatch z))]
    exact ec
end NA
set_option maxRecDepth 100000
set_option maxHeartbeats 4000000
/-! tail_ways. -/
namespace NA
open PySem PySem.Spec PyProof.Rows L2
section
variable {P : Program} {w : World} {K : PySem.W.Frag} {mg : Str → Option Value} {base : Heap}
def nTail : List Str := ["choices", "tails", "rooms"]
theorem scTail : FnScope nTail ["choices"] (defScope sTailWays) := ⟨rfl, rfl, rfl, by decide +kernel, rfl, by decide +kernel, by decide +kernel⟩
def spTail : Sp := fun vs H Q _ => ∃ (l t0 t1 : Addr) (y0 y1 : List V) (r1 : List (List Int)), vs = [.ref l] ∧ H l = some (.lst [.ref t0, .ref t1]) ∧ H t1 = some (.tup y1) ∧ TIs H y1 r1 ∧ r1.length ≤ 63 ∧ (∀ r ∈ r1, r.length ≤ 63 ∧ srt r = r) ∧ r1.Nodup ∧
  ∀ L H' d0 d1 kvs, H L = none → Ext H H' → H' L = some (.lst [.ref d0, .ref d1]) → H' d0 = some (.dT kvs) → OneV kvs r1 → H' d1 = some (.dT [([], .int 1)]) → Q (.ref L) H'
theorem ok_tail (T : Fx K mg) : FnOk P w K mg base CX0 3 (He.ga K "tail_ways") T.fd_tail_ways ["choices"] spTail := by
  have bE : Binds K T.fd_extended_ways ["ways", "rooms"] [] := T.F_extended_ways.bindsN fun _ _ _ _ _ _ us hl => match us, hl with | [_, _], _ => rfl
  refine T.F_tail_ways.ok scTail (fun vs H Q E h => ?_) (fun cdv A outer s H vs Q E hr h => ⟨_, PSs.nox (pss_cons (ps_set (i := 1) scTail.nd rfl (Or.inl rfl) (pe_lst (pa_cons (pe_disp1T (Nat.lt_of_le_of_lt (Nat.add_le_add_left (show 2 ≤ 64 by decide) _) hr.units) (pe_tup pa_nil) pe_int) pa_nil)))
    (pss_cons (ps_for PassesOwn.never rfl (pi_reversed rfl T.n_reversed (pa_cons (pe_callTy call_list_of (by rfl) T.n_list (by decide +kernel) (pa_cons (pe_slice sl_list (pv 0) (po_some pe_int) po_none) pa_nil)) pa_nil)) (pg_name (i := 2) scTail.nd rfl (Or.inl rfl))
      (pss_one (ps_set (i := 1) scTail.nd rfl (Or.inl rfl) (pe_op op_cat (pe_lst (pa_cons (pe_call (ok_ext T) hr rfl T.g_extended_ways T.F_extended_ways.kp bE .nil pass0 (pa_cons (pe_ix ix_list (pv 1) pe_int (fun _ _ => rfl)) (pa_cons (pv 2) pa_nil))) pa_nil)) (pv 1)))))
    (pss_one (ps_ret (pv 1))))), ?_⟩)
  · obtain ⟨_, _, _, _, _, _, rfl, _⟩ := h
    rfl
  obtain ⟨l, t0, t1, y0, y1, r1, rfl, hl, ht1, hy1, h63, hr63, hnd, hq⟩ := h
  have sz : sizeLine = 16777216 := sizeLine_eq
  intro dd hdd
  refine ⟨Nat.zero_le _, fun te hte => ?_⟩
  have e1 : Ext H (upd (upd H dd (.dT [])) te (.tup [])) := (Ext.upd hdd).trans (Ext.upd hte)
  refine ⟨(Ext.upd hte) _ _ upd_same, te, [], rfl, upd_same, by show 1 ≤ sizeLine; omega, fun tl htl => ?_⟩
  generalize hH2 : upd (upd (upd H dd (.dT [])) te (.tup [])) dd (.dT [([], .int 1)]) = H2 at htl
  have e2 : Ext H H2 := by rw [← hH2]; exact ext_updN e1 hdd
  have hd2 : H2 dd = some (.dT [([], .int 1)]) := by rw [← hH2]; exact upd_same
  have e3 := e2.trans (Ext.upd (u := .lst [.ref dd]) htl)
  refine ⟨_, rfl, _, rfl, l, [.ref t0, .ref t1], rfl, .inl (.inl (e3 _ _ hl)), fun cp hcp => ?_⟩
  refine ⟨cp, [.ref t1], rfl, .inl (.inl (.inl upd_same)), fun cl hcl => ?_⟩
  refine ⟨cl, [.ref t1], rfl, .inl (.inl upd_same), ?_⟩
  have e4 : Ext (upd H2 tl (.lst [.ref dd])) (upd (upd (upd H2 tl (.lst [.ref dd])) cp (.lst [.ref t1])) cl (.lst [.ref t1])) := (Ext.upd hcp).trans (Ext.upd hcl)
  have hcl4 : (upd (upd (upd H2 tl (.lst [.ref dd])) cp (.lst [.ref t1])) cl (.lst [.ref t1])) cl = some (.lst [.ref t1]) := upd_same
  have htl4 := e4 _ _ (show (upd H2 tl (.lst [.ref dd])) tl = some (.lst [.ref dd]) from upd_same)
  have hd4 := e4 _ _ ((Ext.upd htl) _ _ hd2)
  have e5 := e3.trans e4
  refine loop_by (n := 1) (fun i σ H' => (∃ L c, σ = [some (.ref l), some (.ref L), c] ∧ ((i = 0 ∧ L = tl ∧ H' = upd (upd (upd H2 tl (.lst [.ref dd])) cp (.lst [.ref t1])) cl (.lst [.ref t1])) ∨ (i = 1 ∧ ∃ d0 kvs, H L = none ∧ Ext H H' ∧ H' L = some (.lst [.ref d0, .ref dd]) ∧ H' d0 = some (.dT kvs) ∧ OneV kvs r1 ∧ H' dd = some (.dT [([], .int 1)]))))) ⟨tl, none, rfl, .inl ⟨rfl, rfl, rfl⟩⟩ (fun i σ H' hi z => ?_) (fun σ H' z => Nat.le_refl 1) (fun i v σ H' H3 hi z y => ?_) fun σ H' z => ?_
  · obtain ⟨L, c, rfl, ⟨rfl, rfl, rfl⟩ | ⟨rfl, _⟩⟩ := z
    · exact ⟨by show 0 < 1; decide, [.ref t1], .ref t1, .inl (.inl hcl4), rfl⟩
    · exact absurd hi (Nat.lt_irrefl 1)
  · obtain ⟨L, c, rfl, ⟨rfl, rfl, rfl⟩ | ⟨rfl, _⟩⟩ := z
    · obtain ⟨rfl, hy⟩ := y
      have hv := hy [.ref t1] (.inl (.inl hcl4))
      cases hv
      refine ⟨_, rfl, L, [.ref dd], 0, _, rfl, rfl, .inl (.inl htl4), rfl, _, rfl, dd, t1, y1, r1, rfl, hd4, e5 _ _ ht1, hy1.ext e5, h63, hr63, hnd, fun d0 H6 kvs hd0 e6 hd6 ho => ?_⟩
      refine ⟨by show 1 ≤ sizeLine; omega, fun p hp => ?_⟩
      have e7 := e6.trans (Ext.upd (u := .lst [.ref d0]) hp)
      refine ⟨_, rfl, p, L, [.ref d0], [.ref dd], rfl, rfl, upd_same, e7 _ _ htl4, by show 2 ≤ sizeLine; omega, fun q hq' => ?_⟩
      have e8 := e7.trans (Ext.upd (u := .lst [.ref d0, .ref dd]) hq')
      refine ⟨q, _, rfl, .inr ⟨rfl, d0, kvs, ?_, e5.trans e8, upd_same, (Ext.upd hq') _ _ ((Ext.upd hp) _ _ hd6), ho, e8 _ _ hd4⟩⟩
      cases z : H q with
      | none => rfl
      | some u => rw [(e5.trans e7) _ _ z] at hq'; cases hq'
    · exact absurd hi (Nat.lt_irrefl 1)
  · obtain ⟨L, c, rfl, ⟨h, _⟩ | ⟨_, d0, kvs, h1, h2, h3, h4, h5, h6⟩⟩ := z
    · cases h
    · exact ⟨_, rfl, hq L H' d0 dd kvs h1 h2 h3 h4 h5 h6⟩
end
end NA
set_option maxRecDepth 100000
set_option maxHeartbeats 4000000
/-! count_choices. -/
namespace NA
open PySem PySem.Spec PyProof.Rows L2
section
variable {P : Program} {w : World} {K : PySem.W.Frag} {mg : Str → Option Value} {base : Heap}
def nCC : List Str := ["places", "choices", "ways", "room"]
theorem scCC : FnScope nCC ["places", "choices"] (defScope sCountChoices) := ⟨rfl, rfl, rfl, by decide +kernel, rfl, by decide +kernel, by decide +kernel⟩
def cntC (n : Nat) (r0 r1 : List (List Int)) : Nat := (r0.filter fun r => decide (compl n r ∈ r1)).length
def spCC : Sp := fun vs H Q _ => ∃ (n : Nat) (l t0 t1 : Addr) (y0 y1 : List V) (r0 r1 : List (List Int)), vs = [.int (n : Int), .ref l] ∧ H l = some (.lst [.ref t0, .ref t1]) ∧ H t0 = some (.tup y0) ∧ TIs H y0 r0 ∧ r0.length ≤ 63 ∧ n ≤ 63 ∧ H t1 = some (.tup y1) ∧ TIs H y1 r1 ∧ r1.length ≤ 63 ∧ (∀ r ∈ r1, r.length ≤ 63 ∧ srt r = r) ∧ r1.Nodup ∧
  ∀ H', Ext H H' → Q (.int (cntC n r0 r1 : Nat)) H'
theorem ok_cc (T : Fx K mg) : FnOk P w K mg base CX0 4 (He.ga K "count_choices") T.fd_count_choices ["places", "choices"] spCC := by
  have bT : Binds K T.fd_tail_ways ["choices"] [] := T.F_tail_ways.bindsN fun _ _ _ _ _ _ us hl => match us, hl with | [_], _ => rfl
  have bM : Binds K T.fd_complement ["places", "room"] [] := T.F_complement.bindsN fun _ _ _ _ _ _ us hl => match us, hl with | [_, _], _ => rfl
  refine T.F_count_choices.ok scCC (fun vs H Q E h => ?_) (fun cdv A outer s H vs Q E hr h => ⟨_, PSs.nox (pss_cons (ps_set (i := 2) scCC.nd rfl (Or.inr rfl) (pe_ix ix_list (pe_call (ok_tail T) hr rfl T.g_tail_ways T.F_tail_ways.kp bT .nil pass0 (pa_cons (pv 1) pa_nil)) pe_int (fun _ _ => rfl)))
    (pss_one (ps_ret (pe_callB (cr_sum rfl) (by rfl) T.n_sum (by decide +kernel) (pa_cons (pe_lc (own := [("room", 3)]) (g := gName 3) (wi := iTup K (tOp (rIxL K) (tVar 1) (tC (.int 0)))) (tt := tYes) (te := tDGet2 (tVar 2) (tCall spCompl [] (fun _ _ _ => False) (tCons (tVar 0) (tCons (tVar 3) tNil))) (tC (.int 0))) rfl scCC.nd (pi_tup (pe_ix ix_list (pv 1) pe_int (fun _ _ => rfl))) (blkOk_by (N := nCC) (sc := defScope sCountChoices) (by decide +kernel)) (fun _ _ _ _ _ => pg_name (i := 3) scCC.nd rfl (Or.inl rfl)) (fun _ _ _ _ _ => pts_nil)
      (fun _ _ _ _ _ => pe_dget2 (hu_of hr) (pv 2) (pe_call (ok_complement T) (hr.mono (by decide)) rfl T.g_complement T.F_complement.kp bM .nil pass0 (pa_cons (pv 0) (pa_cons (pv 3) pa_nil))) pe_int ⟨rfl, rfl, rfl, rfl⟩)) pa_nil))))), ?_⟩)
  · obtain ⟨_, _, _, _, _, _, _, _, rfl, _⟩ := h
    rfl
  obtain ⟨n, l, t0, t1, y0, y1, r0, r1, rfl, hl, ht0, hy0, h0, hn, ht1, hy1, h63, hr63, hnd, hq⟩ := h
  have sz : sizeLine = 16777216 := sizeLine_eq
  refine ⟨_, rfl, l, t0, t1, y0, y1, r1, rfl, hl, ht1, hy1, h63, hr63, hnd, fun L H1 d0 d1 kvs hL e1 hL1 hd0 ho _ => ?_⟩
  refine ⟨L, [.ref d0, .ref d1], 0, _, rfl, rfl, .inl (.inl hL1), rfl, ?_⟩
  refine ⟨_, rfl, l, [.ref t0, .ref t1], 0, _, rfl, rfl, .inl (.inl (e1 _ _ hl)), rfl, t0, rfl, ⟨y0, .inl (.inl (e1 _ _ ht0))⟩, fun D hD => ?_⟩
  let one : List Int → Int := fun r => if compl n r ∈ r1 then 1 else 0
  refine lc_tup (xs := y0) (fun i H' => Ext H1 H' ∧ H' D = some (.lst (iV ((r0.take i).map one)))) ⟨Ext.upd hD, upd_same⟩ (fun i H' _ z => .inl (.inl (z.1 _ _ (e1 _ _ ht0)))) (fun i v H' hv z => ?_) fun H' z => ?_
  · obtain ⟨ex, hz⟩ := z
    obtain ⟨r, hr, tr⟩ := hy0.at hv
    refine ⟨rfl, ?_⟩
    refine ⟨_, rfl, d0, rfl, .inr ⟨kvs, .inl (ex _ _ hd0)⟩, _, rfl, _, rfl, n, _, r, rfl, tr.ext (e1.trans ex), hn, fun u H4 e4 tu => ?_⟩
    obtain ⟨q, rfl, hqt⟩ := tu
    refine ⟨_, DGet.t (e4 _ _ (ex _ _ hd0)) (k := kI (compl n r)) (by rw [kI_kV]; exact hqt), ?_⟩
    have hval : (valV kvs (kI (compl n r))).getD (.int 0) = .int (one r) := by
      show _ = V.int (if compl n r ∈ r1 then 1 else 0)
      by_cases g : compl n r ∈ r1
      · rw [if_pos g, ho.2 _ g]; rfl
      · rw [if_neg g]
        have : valV kvs (kI (compl n r)) = none := valV_not (by rw [ho.1.1, map_kI_mem]; exact g)
        rw [this]; rfl
    rw [hval]
    refine ⟨_, e4 _ _ hz, ?_, ext_updN (ex.trans e4) hD, ?_⟩
    · rw [iV_len, List.length_map, List.length_take]; omega
    · rw [List.take_succ, hr, List.map_append, ← iV_append]
      exact upd_same
  · obtain ⟨ex, hz⟩ := z
    rw [hy0.1, List.take_length] at hz
    refine ⟨D, r0.map one, rfl, .inl (.inl hz), ?_⟩
    have hs : ∀ l : List (List Int), (l.map one).sum = ((cntC n l r1 : Nat) : Int) := fun l => by
      induction l with
      | nil => rfl
      | cons a l ih =>
        rw [List.map_cons, List.sum_cons, ih]
        show (if compl n a ∈ r1 then (1 : Int) else 0) + _ = _
        unfold cntC
        by_cases g : compl n a ∈ r1
        · rw [if_pos g, List.filter_cons_of_pos (by simpa using g), List.length_cons]; omega
        · rw [if_neg g, List.filter_cons_of_neg (by simpa using g), Int.zero_add]
    rw [hs]
    exact hq H' (e1.trans ex)
end
end NA
set_option maxRecDepth 100000
set_option maxHeartbeats 4000000
/-! len(o) and o[i] by own defs. -/
namespace NA
open PySem PySem.Spec PyProof.Rows L2
section
variable {X : Cx} {pins : List (Addr × Obj)} {σ : L2.St} {H : Hp} {s : Shared} {k : Nat} {f : Addr} {fd : FuncData} {ps : List Str} {sp : Sp} {E : XK} {Q : VK} {A1 : Around}
theorem run_in (sb : Sub X k A1) (F : FnOk X.prog X.w X.K X.mg X.base CX0 k f fd ps sp) (b : Binds X.K fd ps []) (I : Inv X pins σ H s) {vs : List V} {us : List Value} (r : Vals vs us) (h : sp vs H Q E) : wpAny (model X.prog X.w) A1 (call (.ref f) us) (EP X pins σ Q) X.xe s := by
  have e0 : Env0 X.prog X.w X.K X.mg X.base A1 X.stack s H := by
    have e := I.env0
    exact ⟨by rw [sb.fr]; exact e.frames, e.mod, e.bs, e.bsz, e.funs, e.frf, e.hok, e.bare⟩
  have hl : us.length = ps.length := by rw [← F.len _ _ _ _ h]; exact r.length.symm
  refine wpAny_call (codeAny_mono (F.run A1 X.stack s H ⟨us, []⟩ us vs Q E sb.room e0 (by
    have := b s us I.kIn (by simpa using hl)
    simpa using this) r h) fun r s' hq => ?_)
  cases r with
  | error e => exact hq.elim
  | ok fl =>
    cases fl with
    | ret u => exact I.after hq
    | next => exact False.elim hq
    | brk => exact False.elim hq
    | cont => exact False.elim hq
/-- len(o) by an own __len__ -/
def rLenO (C : Addr) (sp : Sp) : List V → Hp → VK → Prop := fun vs H Q => ∃ a dx fs, vs = [.ref a] ∧ H a = some (.ins C dx fs) ∧ sp [.ref a] H (fun v H' => ∃ n : Nat, v = .int (n : Int) ∧ n < 2 ^ 62 ∧ Q (.int (n : Int)) H') fun _ _ _ => False
theorem cr_lenO {C : Addr} (sb : Sub X k X.A.in1) (F : FnOk X.prog X.w X.K X.mg X.base CX0 k f fd ps sp) (b : Binds X.K fd ps []) (hl : PySem.W.findIn X.K (.ref C) "__len__" = some (some (.ref f))) (hf : PySem.W.isFn X.K (.ref f) = true) : CallR X (.builtin "len") (rLenO C sp) := by
  intro pins s σ H vs us Q I r h
  obtain ⟨a, dx, fs, rfl, ha, hsp⟩ := h
  obtain ⟨u, rfl, ru⟩ : ∃ u, us = [u] ∧ RelV (.ref a) u := by
    cases r with
    | cons h t => cases t; exact ⟨_, rfl, h⟩
  obtain rfl : u = Value.ref a := ru
  obtain ⟨mA, J, _⟩ := ins_get I.hok ha
  obtain ⟨od, J, _⟩ := J.look
  obtain ⟨m, hF⟩ := I.fr
  refine PySem.W.len_K hF I.ok.mod.kin J hl hf (wpAny_mono (run_in sb F b I (vs := [V.ref a]) (us := [Value.ref a]) (.cons rfl .nil) hsp) (fun r s' hr => ?_) fun _ _ z => z)
  obtain ⟨v, H', I', rv, n, rfl, hn, q⟩ := hr
  obtain ⟨t, rfl⟩ := rv
  exact ⟨⟨by omega, by omega⟩, .int (n : Int), H', I'.tok _, ⟨_, rfl⟩, q⟩
/-- o[i] by an own __getitem__ -/
def rIxO (C : Addr) (sp : Sp) : R2 := fun x y H Q => ∃ a dx fs, x = .ref a ∧ H a = some (.ins C dx fs) ∧ sp [x, y] H Q fun _ _ _ => False
theorem pe_ixO {C : Addr} {o e : Expr} {to te : TE} {pos : Pos} (sb : Sub X k X.A.in1) (F : FnOk X.prog X.w X.K X.mg X.base CX0 k f fd ps sp) (b : Binds X.K fd ps []) (hl : PySem.W.findIn X.K (.ref C) "__getitem__" = some (some (.ref f))) (hfn : PySem.W.fnIn X.K f = true) (hf : PySem.W.isFn X.K (.ref f) = true)
    (ho : PE X o to) (he : PE X e te) (hsl : ∀ v i, subscripted e true v i = runValue (.builtin "lifetime.subscript" ⟨[v, i], []⟩)) : PE X (.Subscript o e pos) (tOp (rIxO C sp) to te) := by
  refine ⟨fun pins s σ H Q I h => ?_⟩
  refine PyProof.Rows.Subscript_ (thn (ho.run pins s σ H _ I h) fun v s1 ⟨x, H1, I1, r1, q1⟩ => thn (he.run pins s1 σ H1 _ I1 q1) fun u s2 ⟨y, H2, I2, r2, q2⟩ => ?_)
  obtain ⟨a, dx, fs, rfl, ha, hsp⟩ := q2
  obtain rfl : v = Value.ref a := r1
  obtain ⟨mA, J, _⟩ := ins_get I2.hok ha
  obtain ⟨od, J, _⟩ := J.look
  obtain ⟨m, hF⟩ := I2.fr
  exact PySem.W.sub_K hF I2.ok.mod.kin J hl hfn hf (run_in sb F b I2 (vs := [V.ref a, y]) (us := [Value.ref a, u]) (.cons rfl (.cons r2 .nil)) hsp) (hsl _ _)
end
end NA
set_option maxRecDepth 100000
set_option maxHeartbeats 4000000
/-! for x in o, list(o), by an own __iter__ that says iter(self.f), self.f a tuple. -/
namespace NA
open PySem PySem.Spec PyProof.Rows L2
abbrev itT (t : Addr) (i : Nat) : Obj := { cls := .type "tuple_iterator", data := .fields #[.ref t, .int i 0] }
/-- at it a fresh iterator of the tuple at t -/
def ItT (t it : Addr) : HO := .ext fun h => h.get? it = some (itT t 0)
def rIterT (K : PySem.W.Frag) (n : Nat) : List V → Hp → VK → Prop := fun xs H Q => ∃ (t : Addr) (zs : List V), xs = [.ref t] ∧ SqT K H t zs ∧ ∀ it, H it = none → n ≤ it → Q (.ref it) (upd H it (ItT t it))
theorem itT_ok {P : Program} {w : World} {H : Hp} {h : Heap} {t it : Addr} (e : h.get? it = some (itT t 0)) : ObjOk P w H h it (ItT t it) := ⟨e, ⟨_, e⟩, fun h1 h2 q k => k _ q⟩
section
variable {X : Cx}
theorem call_iterT : CallR X (.builtin "iter") (rIterT X.K X.s_0.heap.objs.size) := by
  intro pins s σ H xs us Q I r h
  obtain ⟨t, zs, rfl, hq, q⟩ := h
  obtain rfl := Vals.ref1 r
  obtain ⟨its, rv, pl, hz⟩ := I.tuple hq
  refine Calls.call_function_entry (by decide +kernel) (by decide +kernel) PySem.W.kdk_entry_iter (PySem.W.kdk_args_iter _) ?_
  unfold Builtin.«iter»
  refine wpAny_bind (m := someArgs "iter" 1 2 _) (wpAny_of_eq (a := [Value.ref t]) (by first | rfl | kernel_rfl!) ?_)
  show wpAny _ _ (pyIter (.ref t) >>= _) _ _ _
  refine wpAny_bind (wpAny_pyIter_tuple (show s.heap.IsTuple t its.toArray from pl) (wpAny_pure ⟨_, rfl, ?_⟩))
  exact ⟨.ref s.heap.objs.size, _, I.laid (t' := s.toks) (fun b u e => Heap.get?_push_of_some _ e) (Nat.le_refl _) (itT_ok (Heap.get?_push_size _ rfl)), rfl, q _ (I.hok.fresh (Nat.le_refl _)) I.sz⟩
end
/-- one call of a def, in one state -/
theorem fn_at {CX : CXT} {P : Program} {w : World} {K : PySem.W.Frag} {mg : Str → Option Value} {base : Heap} {k : Nat} {f : Addr} {name qual : Str} {params : Arguments} {body : List Stmt} {scope : Scope} {dV kV doc pm cdv ct oc : Value} {an od : Option Addr} {osl : Array (Option Value)} {N ps : List Str}
    (lk : K.lookup f = some ⟨oc, od, .func (PySem.W.fnOf name qual params body scope dV kV doc pm an cdv ct), osl⟩) (hcd : PySem.W.codeIn K cdv qual = true) (S : FnScope N ps scope) {A : Around} {outer : List Env} {s : Shared} {H : Hp} {args : Args} {us : List Value} {vs : List V} {Q : VK} {E : XK} {t : TS}
    (hl : vs.length = ps.length) (hr : Room (k + 1) A) (e0 : Env0 P w K mg base A outer s H) (hb : BindsTo s (PySem.W.fnOf name qual params body scope dV kV doc pm an cdv ct) args (ps.zip us)) (r : Vals vs us)
    (ht : PSs (cxOf CX P w K mg base N qual scope f cdv A outer s H E) body t) (hq : t { nx := fun _ H' => Q .non H', rt := Q } (start N vs) H) : codeAny (model P w) A (.call (.ref f) args) (CR CX outer P w H s Q E) s := by
  have kx := e0.mod.kin.keeps fun b o e => (e0.bs b o e).1
  have nl := e0.mod.nolimit.keeps fun b o e => (e0.bs b o e).1
  refine codeAny_call_function hr.depth (kx _ _ lk) rfl S.co S.gen rfl (PySem.W.codeRec_of kx hcd) (hb _ _ _ _ (wpAny_newFunctionEnv_cells S.kind (fun y hy => (S.par y.1 (List.of_mem_zip hy).1).imp id fun q => ⟨q, PySem.W.cellsFrom_some _ _ _ (.inl q)⟩) fun env he s1 x => ?_))
  subst he
  refine ⟨nl.keeps x.toInCall.keep, codeAny_func (wpAny_mono (ht.run [] s1 (start N vs) H _ (inv_start S hr.hd e0 hl r x) hq) (fun fl s' hs => ?_) fun e s' z => z)⟩
  cases fl with
  | next => obtain ⟨σ', H', J, q⟩ := hs; exact ⟨.non, H', J.os, J.bare, J.base, J.hok, rfl, q⟩
  | ret u => obtain ⟨v, σ', H', J, rv, q⟩ := hs; exact ⟨v, H', J.os, J.bare, J.base, J.hok, rv, q⟩
  | brk => obtain ⟨_, _, _, q⟩ := hs; exact q.elim
  | cont => obtain ⟨_, _, _, q⟩ := hs; exact q.elim
/-- what an own class with such an __iter__ is -/
structure ItOwn (K : PySem.W.Frag) (mg : Str → Option Value) (C : Addr) (qual : Str) (st : Stmt) (fld : Str) (fd : FuncData) : Prop where
  it : PySem.W.findIn K (.ref C) "__iter__" = some (some (.ref (He.ma K C "__iter__")))
  itF : PySem.W.isFn K (.ref (He.ma K C "__iter__")) = true
  fn : FunD K "__iter__" qual (defArgs st) (defBody st) (defScope st) [] [] (He.ma K C "__iter__") fd
  sc : FnScope ["self"] ["self"] (defScope st)
  na : NoAttr K C fld
  cl : Cls K C
  ni : mg "iter" = none
  body : ∃ p0 p1 p2 p3 p4, defBody st = [.Return (some (.Call (.Name "iter" p0) [.Attribute (.Name "self" p1) fld p2] [] p3)) p4]
  vis : Vis (defScope st) "self"
  b : Binds K fd ["self"] []
  gi : ∀ (f : Addr) (cd : Value) (n : Nat), (envOfC qual (defScope st) n f cd).kindOf "iter" = some .globalImplicit
section
variable {X : Cx} {pins : List (Addr × Obj)} {σ : L2.St} {H : Hp} {s : Shared} {k : Nat} {A1 : Around} {C a dx t : Addr} {fs : List (Str × V)} {zs : List V} {qual fld : Str} {st : Stmt} {fd : FuncData}
theorem own_iter {Q : Value → Shared → Prop} (T : ItOwn X.K X.mg C qual st fld fd) (sb : Sub X 1 A1) (I : Inv X pins σ H s) (ha : H a = some (.ins C dx fs)) (hf : fs.lookup fld = some (.ref t)) (ht : SqT X.K H t zs)
    (hQ : ∀ it s', Inv X pins σ H s' → s'.heap.IsTupleIter it t 0 → s.heap.objs.size ≤ it → H it = none → Q (.ref it) s') : wpAny (model X.prog X.w) A1 (pyIter (.ref a)) Q X.xe s := by
  obtain ⟨mA, J, _⟩ := ins_get I.hok ha
  obtain ⟨od, J, _⟩ := J.look
  obtain ⟨m, hF⟩ := I.fr
  have e0 : Env0 X.prog X.w X.K X.mg X.base A1 X.stack s H := by
    have e := I.env0
    exact ⟨by rw [sb.fr]; exact e.frames, e.mod, e.bs, e.bsz, e.funs, e.frf, e.hok, e.bare⟩
  have b := T.b
  have bt : BindsTo s fd ⟨[.ref a], []⟩ ((["self"] : List Str).zip [Value.ref a]) := by
    have := b s [.ref a] I.kIn rfl
    simpa using this
  obtain ⟨oc, od2, dV, kV, doc, pm, an, cdv, ct, osl, rfl, lk, hcd, _, _⟩ := T.fn.ex
  obtain ⟨p0, p1, p2, p3, p4, hbody⟩ := T.body
  refine PySem.W.owit_iter hF I.ok.mod.kin J T.it T.itF ?_
  refine wpAny_call (codeAny_mono (fn_at (CX := CX0) (k := 0) (N := ["self"]) (ps := ["self"]) (us := [.ref a]) (vs := [.ref a]) (H := H) (E := E0) (Q := fun v H' => ∃ it, v = .ref it ∧ H it = none ∧ s.heap.objs.size ≤ it ∧ H' = upd H it (ItT t it)) lk hcd T.sc rfl sb.room e0 bt (.cons rfl .nil)
    (by
      rw [hbody]
      exact pss_one (ps_ret (pe_callB call_iterT (T.gi _ _ _) T.ni (by decide +kernel) (pa_cons (pe_fld (pe_var (i := 0) rfl T.vis) rfl) pa_nil)))) ?_) fun r s' hq => ?_)
  · exact ⟨_, rfl, a, C, dx, _, _, rfl, ha, T.cl, T.na, hf, t, zs, rfl, ht, fun it h1 h2 => ⟨it, rfl, h1, h2, rfl⟩⟩
  cases r with
  | error e => exact hq.elim
  | ok fl =>
    cases fl with
    | next => exact False.elim hq
    | brk => exact False.elim hq
    | cont => exact False.elim hq
    | ret u =>
      obtain ⟨v, H', I', rv, it, ev, hn, hsz, eH⟩ := I.after hq
      subst ev
      subst eH
      cases rv
      have hi : upd H it (ItT t it) it = some (ItT t it) := upd_same
      have hg : s'.heap.get? it = some (itT t 0) := (I'.hok it _ hi).1
      have st' : s'.heap.IsTupleIter it t 0 := ⟨_, hg, rfl, rfl⟩
      have I2 := ItX.inv_drop I' hi
      rw [ItX.dropH_upd hn] at I2
      unfold PySem.W.OwitIt
      exact wpAny_specialOf (name := Str.ofString "__next__") st'.typeIs PySem.F.slot_tuple_iterator_next.lookup (hQ it s' I2 st' hsz hn)
end
end NA
set_option maxRecDepth 100000
set_option maxHeartbeats 4000000
namespace NA
open PySem PySem.Spec PyProof.Rows L2
/-- for x in o -/
def iOwnT (K : PySem.W.Frag) (C : Addr) (fld : Str) (te : TE) : L2.TI := fun σ H R => te σ H fun x H1 => ∃ (a dx : Addr) (fs : List (Str × V)) (t : Addr) (zs : List V), x = .ref a ∧ H1 a = some (.ins C dx fs) ∧ fs.lookup fld = some (.ref t) ∧ SqT K H1 t zs ∧ R (Itt K t) H1
section
variable {X : Cx} {pins : List (Addr × Obj)} {σ : L2.St} {H : Hp} {s : Shared} {k : Nat} {A1 : Around} {C a dx t : Addr} {fs : List (Str × V)} {zs : List V} {qual fld : Str} {st : Stmt} {fd : FuncData}
theorem pi_own {e tg : Expr} {te : TE} (T : ItOwn X.K X.mg C qual st fld fd) (hr : Room 1 X.A) (he : PE X e te) : PI X tg e (iOwnT X.K C fld te) := by
  refine ⟨fun pins s σ H R I h => ?_⟩
  refine thn (he.run pins s σ H _ I h) fun v s1 ⟨x, H1, I1, r1, a, dx, fs, t, zs, ex, ha, hf, ht, q⟩ => ?_
  subst ex
  cases r1
  refine own_iter T ⟨hr, rfl⟩ I1 ha hf ht fun it s' I' st hsz hn => ?_
  refine ⟨it, [it], _, _, H1, rfl, I', turn_tuple t _, st, fun b hb => ?_, q⟩
  rw [List.mem_singleton.mp hb]
  exact I1.fpOk hsz hn
/-- the list at q takes what is left of the tuple -/
theorem take_loop {Rs : Result → Shared → Prop} {q it : Addr} (hh : A1.in1.handled = none) (hz : zs.length ≤ 1000) (hiq : it ≠ q) (htq : t ≠ q) (ht : H t = some (.tup zs)) (hfp : FpOk X pins H it) (hdone : ∀ s, Inv X pins σ (upd H q (.lst zs)) s → Rs (.ok (.ret .none)) s) :
    ∀ (n i : Nat) (s : Shared), n + i = zs.length → Inv X pins σ (upd H q (.lst (zs.take i))) s → s.heap.IsTupleIter it t i → codeAny (model X.prog X.w) A1 (.builtin "list.extend.loop" ⟨[.ref q, .ref it, .none], []⟩) Rs s := by
  have sz : sizeLine = 16777216 := sizeLine_eq
  intro n
  induction n with
  | zero =>
    intro i s hi I st
    obtain ⟨f0, f1, f2, f3, f4, f5⟩ := hfp
    obtain ⟨its, rv, p, _⟩ := I.tuple (.inl (.inl ((upd_ne htq).trans ht)))
    have hl := rv.length
    refine codeAny_builtin PySem.F.entry_extend_loop ?_
    rw [Around.under_plainId PySem.F.plain_extend_loop _]
    show wpAny _ A1.in1 (pyNext (.ref it) >>= _) _ _ s
    refine wpAny_bind (wpAny_pyNext_tuple_end hh st (show s.heap.IsTuple t its.toArray from p) (by simp; omega) fun h' eb => ?_)
    have I1 := I.turned (t' := s.toks) (h' := h') (fun b o hb e => eb b o hb e) ((upd_ne hiq).trans f0) f1 f3 f4 f5
    refine wpAny_pure (hdone _ ?_)
    rw [List.take_of_length_le (by omega)] at I1
    exact I1
  | succ n ih =>
    intro i s hi I st
    obtain ⟨f0, f1, f2, f3, f4, f5⟩ := id hfp
    obtain ⟨its, rv, p, _⟩ := I.tuple (.inl (.inl ((upd_ne htq).trans ht)))
    have hx : zs[i]? = some zs[i] := List.getElem?_eq_getElem (by omega)
    obtain ⟨u, hu, ru⟩ := rv.get hx
    refine codeAny_builtin PySem.F.entry_extend_loop ?_
    rw [Around.under_plainId PySem.F.plain_extend_loop _]
    show wpAny _ A1.in1 (pyNext (.ref it) >>= _) _ _ s
    refine wpAny_bind (wpAny_pyNext_tuple_item st (show s.heap.IsTuple t its.toArray from p) (x := u) (by simpa using hu) fun h' st' sb => ?_)
    have I1 : Inv X pins σ (upd H q (.lst (zs.take i))) { s with heap := h' } := I.turned (t' := s.toks) (fun b o hb e => (sb.2 b hb).trans e) ((upd_ne hiq).trans f0) f1 f3 f4 f5
    obtain ⟨_, gs, m, r2, hl, e⟩ := I1.lstM upd_same
    have hl1 : (zs.take i).length = i := by rw [List.length_take]; omega
    show wpAny _ A1.in1 (updateSeq q (·.push u) >>= _) _ _ _
    refine wpAny_bind (wpAny_updateSeq e rfl (wpAny_pure ⟨plainId_quiet PySem.F.plain_extend_loop _, ?_⟩) (by rw [List.size_toArray]; omega) (by show (gs.toArray.push u).size ≤ sizeLine + 1; rw [Array.size_push, List.size_toArray]; omega))
    have I2 := I1.lset (ys := zs.take i ++ [zs[i]]) (its' := gs ++ [u]) (t' := s.toks) upd_same e (f := (·.push u)) (by simp) (r2.append (.cons ru .nil)) (by rw [List.length_append, hl1]; show i + 1 ≤ sizeLine; omega)
    rw [upd_upd, show zs.take i ++ [zs[i]] = zs.take (i + 1) by rw [List.take_succ, hx]; rfl] at I2
    exact ih (i + 1) _ (by omega) I2 (st'.at fun o e => (Heap.get?_update_other h' (Obj.mapSeq (·.push u)) (Ne.symm hiq)).trans e)
theorem run_inE {k : Nat} {f : Addr} {fd : FuncData} {ps : List Str} {sp : Sp} {E : XK} {Q : VK} {A1 : Around} {EE : Value → Shared → Prop} (sb : Sub X k A1) (F : FnOk X.prog X.w X.K X.mg X.base CX0 k f fd ps sp) (b : Binds X.K fd ps []) (I : Inv X pins σ H s) {vs : List V} {us : List Value} (r : Vals vs us) (h : sp vs H Q E) : wpAny (model X.prog X.w) A1 (call (.ref f) us) (fun u s' => EP X pins σ Q u s' ∧ ∀ b o, s.heap.get? b = some o → H b = none → b ∉ frs X.stack → s'.heap.get? b = some o) EE s := by
  have e0 : Env0 X.prog X.w X.K X.mg X.base A1 X.stack s H := by
    have e := I.env0
    exact ⟨by rw [sb.fr]; exact e.frames, e.mod, e.bs, e.bsz, e.funs, e.frf, e.hok, e.bare⟩
  have hl : us.length = ps.length := by rw [← F.len _ _ _ _ h]; exact r.length.symm
  have bt := b s us I.kIn (by simpa using hl)
  rw [List.append_nil] at bt
  refine wpAny_call (codeAny_mono (F.run A1 X.stack s H ⟨us, []⟩ us vs Q E sb.room e0 bt r h) fun r s' hq => ?_)
  match r, hq with
  | .ok (.ret u), hq =>
    refine ⟨I.after hq, fun b o e hn hf => ?_⟩
    obtain ⟨_, _, _, _, un, _⟩ := hq
    exact un.keep b o e hn hf (by simp)
/-- what the own __len__ says -/
structure LenOwn (K : PySem.W.Frag) (C : Addr) : Prop where
  ln : PySem.W.findIn K (.ref C) "__len__" = some (some (.ref (He.ma K C "__len__")))
  lnF : PySem.W.isFn K (.ref (He.ma K C "__len__")) = true
theorem own_hint {A : Around} {Q : Bool → Shared → Prop} {fdL : FuncData} {sp : Sp} (L : LenOwn X.K C) (sb : Sub X k A.in1) (F : FnOk X.prog X.w X.K X.mg X.base CX0 k (He.ma X.K C "__len__") fdL ["self"] sp) (b : Binds X.K fdL ["self"] []) (I : Inv X pins σ H s) (ha : H a = some (.ins C dx fs))
    {m : Nat} (hm : m ≤ 1000) (hsp : sp [.ref a] H (fun v H' => v = .int (m : Int) ∧ H' = H) fun _ _ _ => False) (hQ : ∀ s', Inv X pins σ H s' → (∀ b o, s.heap.get? b = some o → H b = none → b ∉ frs X.stack → s'.heap.get? b = some o) → Q ((m : Int) != 0) s') : wpAny (model X.prog X.w) A (Builtin.List.listLengthHint (.ref a)) Q X.xe s := by
  obtain ⟨mA, J, _⟩ := ins_get I.hok ha
  obtain ⟨od, J, _⟩ := J.look
  obtain ⟨m0, hF⟩ := I.fr
  unfold Builtin.List.listLengthHint
  refine wpAny_bind (wpAny_bind (J.type.here ((PySem.W.looks_findIn I.kIn L.ln).here ?_)))
  refine PySem.W.KFB.if_not rfl ?_
  refine PySem.W.KFB.if_so rfl ?_
  refine wpAny_bind (wpAny_rule ?_)
  refine wpAny_bind (wpAny_attempt (PySem.W.len_K hF I.ok.mod.kin J L.ln L.lnF (wpAny_mono (run_inE (EE := fun _ _ => False) sb F b I (vs := [V.ref a]) (us := [Value.ref a]) (.cons rfl .nil) hsp) (fun r s' hr => ?_) fun _ _ z => z.elim)))
  obtain ⟨⟨v, H', I', rv, rfl, rfl⟩, kp⟩ := hr
  obtain ⟨tt, rfl⟩ := rv
  refine ⟨⟨by omega, by omega⟩, ?_⟩
  refine wpAny_bind (wpAny_pure ?_)
  have sz : sizeLine = 16777216 := sizeLine_eq
  refine PySem.W.KFB.if_not (notLongL (show ((m : Int)).toNat ≤ sizeLine by omega)) ?_
  exact wpAny_pure (hQ _ (I'.tok _) kp)
/-- list(o) -/
def rListOT (C : Addr) (fld : Str) (spL : Sp) : List V → Hp → VK → Prop := fun xs H Q => ∃ (a dx : Addr) (fs : List (Str × V)) (t : Addr) (zs : List V), xs = [.ref a] ∧ H a = some (.ins C dx fs) ∧ fs.lookup fld = some (.ref t) ∧ H t = some (.tup zs) ∧ zs.length ≤ 1000 ∧ (∀ H', Ext H H' → spL [.ref a] H' (fun v H2 => v = .int (zs.length : Int) ∧ H2 = H') fun _ _ _ => False) ∧ ∀ q, H q = none → Q (.ref q) (upd H q (.lst zs))
theorem call_listOT {fdL : FuncData} {spL : Sp} (hc : X.calm = true) (T : ItOwn X.K X.mg C qual st fld fd) (L : LenOwn X.K C) (F : FnOk X.prog X.w X.K X.mg X.base CX0 k (He.ma X.K C "__len__") fdL ["self"] spL) (b : Binds X.K fdL ["self"] []) (hr : Room (k + 4) X.A) : CallR X (.type "list") (rListOT C fld spL) := by
  intro pins s σ H xs us Q I rv h
  obtain ⟨a, dx, fs, t, zs, rfl, ha, hf, ht, hz, hL, hq⟩ := h
  obtain ⟨u, rfl, ru⟩ := rv.one
  cases ru
  have sb : Sub X (k + 2) X.A.in1.in1 := Sub.in1 (Sub.in1 (⟨hr, rfl⟩ : Sub X (k + 4) X.A))
  refine callType_codes (Q₁ := fun obj s₁ => obj = .ref s.heap.objs.size ∧ s₁ = { s with heap := s.heap.push { cls := .type "list", data := .seq #[] } }) PySem.F.called_list (PySem.F.typeCall_list_1 _) PySem.F.entry_list_init (code_list_new _ ⟨rfl, rfl⟩) fun obj s₁ h₁ => ?_
  obtain ⟨rfl, rfl⟩ := h₁
  generalize hqq : s.heap.objs.size = q
  have hS : (s.heap.push { cls := .type "list", data := .seq #[] }).get? q = some { cls := .type "list", data := .seq #[] } := by rw [← hqq]; exact Heap.get?_push_size _ rfl
  refine ⟨⟨_, hS, rfl⟩, PySem.F.args_list_init_2 _ _, ?_⟩
  have fr : H q = none := by rw [← hqq]; exact I.hok.fresh (Nat.le_refl _)
  have I1 : Inv X pins σ (upd H q (.lst [])) { s with heap := s.heap.push { cls := .type "list", data := .seq #[] } } := by rw [← hqq]; exact I.lnew (its := []) (t' := s.toks) .nil (Nat.zero_le _)
  show wpAny _ _ (Builtin.List.listItems (.ref q) >>= fun old => Builtin.List.listUpdate (.ref q) (fun _ => #[]) >>= fun _ => letGo old.toList.reverse >>= fun _ => Builtin.List.listExtendWith (.ref q) (.ref a) .none) _ _ _
  refine wpAny_bind ?_
  unfold Builtin.List.listItems
  refine wpAny_bind (wpAny_seqItems hS rfl (wpAny_pure ?_))
  show wpAny _ _ (updateSeq q (fun _ => #[]) >>= fun _ => letGo (#[] : Array Value).toList.reverse >>= fun _ => Builtin.List.listExtendWith (.ref q) (.ref a) .none) _ _ _
  refine wpAny_bind (wpAny_updateSeq hS rfl ?_)
  have I2 := I1.lset (f := fun _ => #[]) (its := []) (its' := []) (ys := []) (t' := s.toks) upd_same hS rfl .nil (Nat.zero_le _)
  rw [upd_upd] at I2
  refine wpAny_bind (wpAny_letGo ?_)
  have ex : Ext H (upd H q (.lst [])) := Ext.upd fr
  have ha2 := ex _ _ ha
  have ht2 := ex _ _ ht
  have hne : q ≠ a := fun z => by rw [z, ha] at fr; cases fr
  have htq : t ≠ q := fun z => by rw [← z, ht] at fr; cases fr
  obtain ⟨mA, J, _⟩ := ins_get I2.hok ha2
  obtain ⟨od, J, _⟩ := J.look
  unfold Builtin.List.listExtendWith
  refine wpAny_bind (J.type.here ?_)
  have h1 : Builtin.List.listSameRef (.ref q) (.ref a) = false := by simp [Builtin.List.listSameRef, hne]
  simp only [h1, show (Value.ref C == Value.type "list") = false from rfl, show (Value.ref C == Value.type "tuple") = false from rfl, Bool.or_false, Bool.false_eq_true, if_false]
  refine wpAny_bind (own_iter T (sb.mono (by omega)) I2 ha2 hf (.inl (.inl ht2)) fun it s' I3 st3 hsz hn => ?_)
  have hiq : it ≠ q := fun z => by rw [z, upd_same] at hn; cases hn
  have hnH : H it = none := by rw [← upd_ne hiq (H := H) (o := .lst [])]; exact hn
  have hfp := I2.fpOk (H' := H) hsz hnH
  have sb2 : Sub X k X.A.in1.in1.in1 := Sub.in1 (sb.mono (by omega))
  refine wpAny_bind (wpAny_holding (own_hint L sb2 F b I3 ha2 hz (hL _ ex) fun s4 I4 kp4 => ?_))
  have st4 : s4.heap.IsTupleIter it t 0 := by
    obtain ⟨o, e, c, d⟩ := id st3
    refine ⟨o, kp4 it o e ((upd_ne hiq).trans hnH) (fun hm => ?_), c, d⟩
    obtain ⟨_, o', e', hnf⟩ := I3.stack.mem hm
    rw [e] at e'
    cases e'
    exact hnf _ d
  have fin : ∀ s5, Inv X pins σ (upd H q (.lst [])) s5 → s5.heap.IsTupleIter it t 0 → codeAny (model X.prog X.w) X.A.in1 (.builtin "list.extend.loop" ⟨[.ref q, .ref it, .none], []⟩) (wants (fun r s₂ => r = .none ∧ EP X pins σ Q (.ref q) s₂) X.xe) s5 := fun s5 I5 st5 =>
    take_loop (A1 := X.A.in1) (zs := zs) (t := t) (q := q) (it := it) (I5.ok.hd hc) hz hiq htq ht hfp (fun s6 I6 => ⟨rfl, .ref q, _, I6, rfl, hq q fr⟩) zs.length 0 s5 (by omega) (by rw [List.take_zero]; exact I5) st5
  have rest : ∀ s5, Inv X pins σ (upd H q (.lst [])) s5 → s5.heap.IsTupleIter it t 0 → wpAny (model X.prog X.w) X.A.in1.in1 (again (.builtin "list.extend.loop" ⟨[.ref q, .ref it, .none], []⟩))
      (fun fin s' => match fin with | .done f => wants (fun r s₂ => r = .none ∧ EP X pins σ Q (.ref q) s₂) X.xe (.ok f) s' | .again c' => c'.quiet = true ∧ codeAny (model X.prog X.w) X.A.in1 c' (wants (fun r s₂ => r = .none ∧ EP X pins σ Q (.ref q) s₂) X.xe) s') X.xe s5 := fun s5 I5 st5 =>
    wpAny_pure ⟨plainId_quiet PySem.F.plain_extend_loop _, fin s5 I5 st5⟩
  have sz : sizeLine = 16777216 := sizeLine_eq
  refine wpAny_ite_split (fun _ => ?_) fun _ => rest s4 I4 st4
  obtain ⟨_, g4, n4, r4, _, e4⟩ := I4.lstM (l := q) upd_same
  cases r4
  have J1 := I4.lset (f := (·.push Value.none)) (its' := [Value.none]) (ys := [.non]) (t' := s4.toks) upd_same e4 (by simp) (.cons rfl .nil) (by show 1 ≤ sizeLine; omega)
  obtain ⟨_, g5, n5, r5, _, e5⟩ := J1.lstM (l := q) upd_same
  obtain ⟨u5, rfl, _⟩ := r5.one
  have J2 := J1.lset (f := (·.pop)) (its := [u5]) (its' := []) (ys := []) (t' := s4.toks) upd_same e5 (by rfl) .nil (Nat.zero_le _)
  rw [upd_upd, upd_upd] at J2
  have kp5 : ∀ (h : Heap) (o : Obj) (f : Obj → Obj), h.get? it = some o → (h.update q f).get? it = some o := fun h o f e => (Heap.get?_update_other h f (Ne.symm hiq)).trans e
  refine wpAny_bind (wpAny_rule (wpAny_bind ?_))
  show wpAny _ _ (updateSeq q (·.push .none) >>= fun _ => updateSeq q (·.pop)) _ _ _
  refine wpAny_bind (wpAny_updateSeq e4 rfl (wpAny_updateSeq e5 rfl (rest _ J2 ?_) (by show 1 ≤ sizeLine; omega) (by show 0 ≤ sizeLine + 1; exact Nat.zero_le _)) (Nat.zero_le _) (by show 1 ≤ sizeLine + 1; omega))
  exact st4.at fun o e => kp5 _ o _ (kp5 _ o _ e)
end
end NA
set_option maxRecDepth 100000
set_option maxHeartbeats 4000000
/-! the boundary of a boundary; the parity of the full rooms. -/
namespace NA
open PySem PySem.Spec PyProof.Rows L2
theorem map_getD (w : List Int) : (List.range w.length).map (fun i => w.getD i 0) = w := by
  refine List.ext_getElem (by simp) fun i h1 h2 => ?_
  simp [List.getElem?_eq_getElem h2]
theorem idx_filter (w : List Int) (p : Int → Bool) : ((List.range w.length).filter fun i => p (w.getD i 0)).length = (w.filter p).length := by
  have h : w.filter p = ((List.range w.length).filter fun i => p (w.getD i 0)).map fun i => w.getD i 0 := by
    conv => lhs; rw [← map_getD w]
    rw [List.filter_map]
    rfl
  rw [h, List.length_map]
theorem faces_filter (w : List Int) (p : List Int → Bool) : ((facesI w).filter p).length = ((List.range w.length).filter fun i => p (w.eraseIdx i)).length := by
  unfold facesI
  rw [List.filter_map, List.length_map]
  rfl
theorem allF_append (a b : List (List Int)) : allF (a ++ b) = allF a ++ allF b := by
  unfold allF
  rw [List.flatMap_append]
theorem face_pair {w f : List Int} (hw : w.Pairwise (· < ·)) (hf : f ∈ facesI w) : f.Pairwise (· < ·) ∧ f.length + 1 = w.length ∧ f.Sublist w := by
  obtain ⟨j, hj, rfl⟩ := mem_faces.mp hf
  refine ⟨hw.sublist (List.eraseIdx_sublist ..), ?_, List.eraseIdx_sublist ..⟩
  rw [List.length_eraseIdx_of_lt hj]
  omega
theorem bb_even {w : List Int} (hw : w.Pairwise (· < ·)) (g : List Int) : (allF (facesI w)).count g % 2 = 0 := by
  by_cases hg : g ∈ allF (facesI w)
  · obtain ⟨f0, hf0, hgf⟩ := List.mem_flatMap.mp hg
    obtain ⟨p0, l0, s0⟩ := face_pair hw hf0
    obtain ⟨pg, lg, sg⟩ := face_pair p0 hgf
    have nw : w.Nodup := hw.imp fun h => by omega
    have ng : g.Nodup := pg.imp fun h => by omega
    have e1 : (allF (facesI w)).count g = ((facesI w).filter fun f => decide (∀ p ∈ g, p ∈ f)).length := by
      rw [count_allF, ← sum_ite]
      congr 1
      refine List.map_congr_left fun f hf => ?_
      obtain ⟨pf, lf, _⟩ := face_pair hw hf
      rw [face_count pf pg (by omega)]
      by_cases h : ∀ p ∈ g, p ∈ f
      · rw [if_pos h, if_pos (decide_eq_true h)]
      · rw [if_neg h, if_neg (by rw [decide_eq_false h]; decide)]
    have e2 : ((List.range w.length).filter fun i => decide (∀ p ∈ g, p ∈ w.eraseIdx i)) = (List.range w.length).filter fun i => !decide (w.getD i 0 ∈ g) := by
      refine List.filter_congr fun i hi => ?_
      have hi' := List.mem_range.mp hi
      have hgd : w.getD i 0 = w[i] := by rw [List.getD_eq_getElem?_getD, List.getElem?_eq_getElem hi']; rfl
      rw [hgd]
      by_cases h : w[i] ∈ g
      · rw [decide_eq_true h, decide_eq_false fun z => ?_]; first | done | rfl
        have := z _ h
        rw [List.mem_eraseIdx_iff_getElem] at this
        obtain ⟨m, hm, hne, he⟩ := this
        exact hne ((List.getElem_inj nw).mp he)
      · rw [decide_eq_false h, decide_eq_true (p := ∀ p ∈ g, p ∈ w.eraseIdx i) fun p hp => ?_]; first | done | rfl
        obtain ⟨m, hm, he⟩ := List.mem_iff_getElem.mp (s0.subset (sg.subset hp))
        rw [List.mem_eraseIdx_iff_getElem]
        refine ⟨m, hm, fun z => h ?_, he⟩
        subst z
        rw [he]
        exact hp
    rw [e1, faces_filter, e2, idx_filter w fun p => !decide (p ∈ g)]
    have h := filter_len (fun p => decide (p ∈ g)) w
    have e : (w.filter fun p => decide (p ∈ g)).Perm g := by
      refine (List.perm_ext_iff_of_nodup (nw.filter _) ng).mpr fun p => ?_
      rw [List.mem_filter]
      exact ⟨fun z => of_decide_eq_true z.2, fun z => ⟨s0.subset (sg.subset z), decide_eq_true z⟩⟩
    rw [e.length_eq] at h
    have : (w.filter fun p => !decide (p ∈ g)).length = 2 := by omega
    rw [this]
  · rw [List.count_eq_zero_of_not_mem hg]
/-- what lies in a list an odd number of times tells its sums by two -/
theorem par_sum (c : List Int → Nat) : ∀ (A qs : List (List Int)), qs.Nodup → (∀ f, f ∈ qs ↔ A.count f % 2 = 1) → ((A.map c).sum + (qs.map c).sum) % 2 = 0
  | [], qs, _, h => by
    have : qs = [] := List.eq_nil_iff_forall_not_mem.mpr fun f hf => by
      have := (h f).mp hf
      simp at this
    rw [this]
    rfl
  | a :: A, qs, nd, h => by
    by_cases ha : a ∈ qs
    · have ih := par_sum c A (qs.erase a) (nd.erase a) fun f => by
        rw [nd.mem_erase_iff, h f, List.count_cons]
        by_cases e : f = a
        · subst e
          have := (h f).mp ha
          rw [List.count_cons] at this
          simp at this ⊢
          omega
        · have : ¬ (a == f) = true := fun z => e (by simpa using (eq_of_beq z).symm)
          rw [if_neg this]
          simp [e]
      have hp := ((List.perm_cons_erase ha).map c).sum_nat
      rw [List.map_cons, List.sum_cons] at hp
      rw [List.map_cons, List.sum_cons, hp]
      omega
    · have ih := par_sum c A (a :: qs) (List.nodup_cons.mpr ⟨ha, nd⟩) fun f => by
        rw [List.mem_cons]
        by_cases e : f = a
        · subst e
          have := mt (h f).mpr ha
          rw [List.count_cons] at this
          simp at this ⊢
          omega
        · rw [h f, List.count_cons]
          have : ¬ (a == f) = true := fun z => e (by simpa using (eq_of_beq z).symm)
          rw [if_neg this]
          simp [e]
      rw [List.map_cons, List.sum_cons] at ih ⊢
      omega
theorem bb_all {ws : List (List Int)} (h : ∀ w ∈ ws, w.Pairwise (· < ·)) (g : List Int) : (allF (allF ws)).count g % 2 = 0 := by
  induction ws with
  | nil => rfl
  | cons w ws ih =>
    have e : allF (w :: ws) = facesI w ++ allF ws := rfl
    rw [e, allF_append, List.count_append]
    have h1 := bb_even (h w List.mem_cons_self) g
    have h2 := ih fun w hw => h w (List.mem_cons_of_mem _ hw)
    omega
theorem comb_pair {n k : Nat} {r : List Int} (h : r ∈ combs (rng n) k) : r.Pairwise (· < ·) := (rng_pair n).sublist (mem_combs.mp h).1
theorem even_book {n k : Nat} {ws qs : List (List Int)} (hn : 1 ≤ n) (hw : ws.Sublist (combs (rng (n - 1)) k)) (nd : qs.Nodup) (hq : ∀ f, f ∈ qs ↔ f ∈ allF (wholes n ws) ∧ (allF (wholes n ws)).count f % 2 = 1) (g : List Int) : ¬ oddIn qs g := by
  rintro ⟨_, ho⟩
  have h1 := par_sum (fun f => (facesI f).count g) (allF (wholes n ws)) qs nd fun f => by
    rw [hq f]
    refine ⟨fun z => z.2, fun z => ⟨?_, z⟩⟩
    refine List.count_pos_iff.mp ?_
    omega
  rw [← count_allF, ← count_allF] at h1
  have h2 := bb_all (ws := wholes n ws) (fun w hw' => by
    obtain ⟨y, hy, rfl⟩ := List.mem_map.mp hw'
    exact comb_pair (comb_whole hn (hw.subset hy))) g
  omega
/-! ### full rooms of an even book -/
theorem ones_sorted (s : Nat) : (ones s).Pairwise (· ≤ ·) := by
  unfold ones
  rw [List.pairwise_map]
  exact List.pairwise_lt_range.imp fun h => by omega
theorem full_iff_perm {ls : List Int} {s : Nat} {r : List Int} : fullP ls s r = true ↔ (r.map (lab ls)).Perm (ones s) := by
  unfold fullP
  rw [decide_eq_true_iff]
  constructor
  · intro h
    rw [← h]
    exact (srt_perm _).symm
  · intro h
    exact (srt_of h.symm (ones_sorted s)).symm
theorem mem_ones {s : Nat} {x : Int} : x ∈ ones s ↔ 1 ≤ x ∧ x ≤ (s : Int) := by
  unfold ones
  rw [List.mem_map]
  constructor
  · rintro ⟨i, hi, rfl⟩
    have := List.mem_range.mp hi
    omega
  · rintro ⟨h1, h2⟩
    exact ⟨(x - 1).toNat, List.mem_range.mpr (by omega), by omega⟩
theorem map_eraseI (f : Int → Int) : ∀ (l : List Int) (i : Nat), (l.eraseIdx i).map f = (l.map f).eraseIdx i
  | [], i => by cases i <;> rfl
  | a :: l, 0 => rfl
  | a :: l, i + 1 => by
    show f a :: (l.eraseIdx i).map f = f a :: (l.map f).eraseIdx i
    rw [map_eraseI f l i]
theorem perm_eraseI : ∀ (l : List Int) (i : Nat) (h : i < l.length), (l[i] :: l.eraseIdx i).Perm l
  | a :: l, 0, _ => .refl _
  | a :: l, i + 1, h => (List.Perm.swap a _ _).trans ((perm_eraseI l i (by simpa using h)).cons a)
theorem room_par {ls : List Int} {m : Nat} {r : List Int} (hl : r.length = m + 1) (hb : ∀ p ∈ r, 1 ≤ lab ls p ∧ lab ls p ≤ ((m + 1 : Nat) : Int)) : ((facesI r).filter (fullP ls m)).length % 2 = if fullP ls (m + 1) r = true then 1 else 0 := by
  have hL : ∀ x ∈ r.map (lab ls), 1 ≤ x ∧ x ≤ ((m + 1 : Nat) : Int) := fun x hx => by
    obtain ⟨p, hp, rfl⟩ := List.mem_map.mp hx
    exact hb p hp
  have hfull : fullP ls (m + 1) r = true ↔ (r.map (lab ls)).Perm (((m + 1 : Nat) : Int) :: ones m) := by
    rw [full_iff_perm, ones_succ]
    have e : (ones m ++ [1 + (m : Int)]).Perm (((m + 1 : Nat) : Int) :: ones m) := by
      rw [show 1 + (m : Int) = ((m + 1 : Nat) : Int) by omega]
      exact List.perm_append_comm
    exact ⟨fun h => h.trans e, fun h => h.trans e.symm⟩
  generalize hLL : r.map (lab ls) = L at hL hfull
  have hLl : L.length = m + 1 := by rw [← hLL, List.length_map, hl]
  have e1 : ((facesI r).filter (fullP ls m)).length = (L.filter fun x => decide (L.Perm (x :: ones m))).length := by
    rw [faces_filter, ← idx_filter L, show L.length = r.length by omega]
    congr 1
    refine List.filter_congr fun i hi => ?_
    have hi' := List.mem_range.mp hi
    have hiL : i < L.length := by omega
    have hgd : L.getD i 0 = L[i] := by rw [List.getD_eq_getElem?_getD, List.getElem?_eq_getElem hiL]; rfl
    rw [hgd]
    have hm : (r.eraseIdx i).map (lab ls) = L.eraseIdx i := by rw [← hLL, map_eraseI]
    have hp : (L[i] :: L.eraseIdx i).Perm L := perm_eraseI L i hiL
    by_cases h : (L.eraseIdx i).Perm (ones m)
    · rw [full_iff_perm.mpr (by rw [hm]; exact h), decide_eq_true (hp.symm.trans (h.cons _))]
    · have : ¬ fullP ls m (r.eraseIdx i) = true := fun z => h (by rw [← hm]; exact full_iff_perm.mp z)
      rw [Bool.eq_false_iff.mpr this, decide_eq_false fun z => h ((hp.trans z).cons_inv)]
  rw [e1]
  by_cases hx : ∃ x ∈ L, L.Perm (x :: ones m)
  · obtain ⟨x, hxL, hxp⟩ := hx
    have uniq : ∀ y, L.Perm (y :: ones m) ↔ y = x := fun y => by
      constructor
      · intro hy
        have h1 := (hy.symm.trans hxp)
        have h2 := h1.count_eq y
        refine Classical.byContradiction fun z => ?_
        have z' : ¬ (x == y) = true := fun q => z (eq_of_beq q).symm
        rw [List.count_cons_self, List.count_cons, if_neg z'] at h2
        omega
      · rintro rfl
        exact hxp
    have e2 : (L.filter fun y => decide (L.Perm (y :: ones m))).length = L.count x := by
      rw [List.count_eq_length_filter]
      congr 1
      refine List.filter_congr fun y _ => ?_
      by_cases h : y = x
      · rw [decide_eq_true ((uniq y).mpr h)]
        simp [h]
      · rw [decide_eq_false fun z => h ((uniq y).mp z)]
        simp [h]
    rw [e2, hxp.count_eq, List.count_cons_self]
    obtain ⟨b1, b2⟩ := hL x hxL
    by_cases h : x = ((m + 1 : Nat) : Int)
    · have : (ones m).count x = 0 := List.count_eq_zero_of_not_mem fun z => by
        have := mem_ones.mp z
        omega
      rw [this, if_pos (hfull.mpr (by rw [← h]; exact hxp))]
    · have : (ones m).count x = 1 := by rw [(ones_nodup m).count, if_pos (mem_ones.mpr ⟨b1, by omega⟩)]
      rw [this, if_neg fun z => h ((uniq _).mp (hfull.mp z)).symm]
  · have : (L.filter fun y => decide (L.Perm (y :: ones m))) = [] := List.filter_eq_nil_iff.mpr fun y hy z => hx ⟨y, hy, of_decide_eq_true z⟩
    rw [this, if_neg fun z => ?_]
    · rfl
    · have h := hfull.mp z
      exact hx ⟨_, h.symm.subset List.mem_cons_self, h⟩
theorem all_par (p : List Int → Bool) (q : List Int → Bool) : ∀ rs : List (List Int), (∀ r ∈ rs, ((facesI r).filter p).length % 2 = if q r = true then 1 else 0) → ((allF rs).filter p).length % 2 = (rs.filter q).length % 2
  | [], _ => rfl
  | r :: rs, h => by
    have ih := all_par p q rs fun r hr => h r (List.mem_cons_of_mem _ hr)
    have h1 := h r List.mem_cons_self
    have e : allF (r :: rs) = facesI r ++ allF rs := rfl
    rw [e, List.filter_append, List.length_append]
    by_cases g : q r = true
    · rw [if_pos g] at h1
      rw [List.filter_cons_of_pos g, List.length_cons]
      omega
    · rw [if_neg g] at h1
      rw [List.filter_cons_of_neg g]
      omega
theorem full_even {n k : Nat} {ls : List Int} {rs : List (List Int)} (hk : 1 ≤ k) (hl : ls.length = n) (hlab : ∀ m ∈ ls, 1 ≤ m ∧ m ≤ (k : Int)) (hr : ∀ r ∈ rs, r ∈ combs (rng n) k) (he : ∀ f, ¬ oddIn rs f) : (rs.filter (fullP ls k)).length % 2 = 0 := by
  obtain ⟨m, rfl⟩ : ∃ m, k = m + 1 := ⟨k - 1, by omega⟩
  rw [← all_par (fullP ls m) (fullP ls (m + 1)) rs fun r hr' => ?_]
  · have h := par_sum (fun f => if fullP ls m f = true then 1 else 0) (allF rs) [] List.nodup_nil fun f => by
      exact ⟨fun z => (by cases z), fun z => absurd ⟨List.count_pos_iff.mp (by omega), z⟩ (he f)⟩
    rw [sum_ite] at h
    simpa using h
  · obtain ⟨c1, c2⟩ := mem_combs.mp (hr r hr')
    refine room_par c2 fun p hp => ?_
    have h0 := mem_rng.mp (c1.subset hp)
    have hi : p.toNat < ls.length := by omega
    have e : lab ls p = ls[p.toNat] := by
      show ls.getD p.toNat 0 = _
      rw [List.getD_eq_getElem?_getD, List.getElem?_eq_getElem hi]; rfl
    rw [e]
    exact hlab _ (List.getElem_mem hi)
/-! ### the rooms of the label book -/
theorem perm_map_of {α β : Type} (f : α → β) {l m : List β} (h : l.Perm m) : ∀ {r : List α}, r.map f = l → ∃ c : List α, c.Perm r ∧ c.map f = m := by
  induction h with
  | nil => exact fun {r} e => ⟨r, .refl _, e⟩
  | cons x _ ih =>
    intro r e
    obtain ⟨a, r', rfl, rfl, e'⟩ := List.map_eq_cons_iff.mp e
    obtain ⟨c, hc, e2⟩ := ih e'
    exact ⟨a :: c, hc.cons a, by rw [List.map_cons, e2]⟩
  | swap x y l =>
    intro r e
    obtain ⟨a, r', rfl, rfl, e'⟩ := List.map_eq_cons_iff.mp e
    obtain ⟨b, r2, rfl, rfl, e2⟩ := List.map_eq_cons_iff.mp e'
    exact ⟨b :: a :: r2, .swap a b r2, by rw [List.map_cons, List.map_cons, e2]⟩
  | trans _ _ ih1 ih2 =>
    intro r e
    obtain ⟨c, hc, e1⟩ := ih1 e
    obtain ⟨d, hd, e2⟩ := ih2 e1
    exact ⟨d, hd.trans hc, e2⟩
theorem compl_congr {n : Nat} {c d : List Int} (h : ∀ p, p ∈ c ↔ p ∈ d) : compl n c = compl n d := by
  unfold compl sub
  refine List.filter_congr fun p _ => ?_
  by_cases e : p ∈ c
  · rw [decide_eq_true e, decide_eq_true ((h p).mp e)]
  · rw [decide_eq_false e, decide_eq_false fun z => e ((h p).mpr z)]
theorem compl_inj {n k j : Nat} {r q : List Int} (hr : r ∈ combs (rng n) k) (hq : q ∈ combs (rng n) j) (h : compl n r = compl n q) : r = q := by
  refine sorted_eq (comb_pair hr) (comb_pair hq) fun p => ?_
  have h1 : ∀ {a b : List Int}, a.Sublist (rng n) → compl n a = compl n b → p ∈ a → p ∈ b := fun {a b} ha e hp => Classical.byContradiction fun z => by
    have := mem_compl.mpr ⟨ha.subset hp, z⟩
    rw [← e] at this
    exact (mem_compl.mp this).2 hp
  exact ⟨h1 (mem_combs.mp hr).1 h, h1 (mem_combs.mp hq).1 h.symm⟩
theorem full_chos {n k : Nat} {ls r : List Int} (hr : r ∈ combs (rng n) k) : compl n r ∈ (chos ls n k).map (compl n) ↔ fullP ls k r = true := by
  obtain ⟨r1, r2⟩ := mem_combs.mp hr
  rw [full_iff_perm, List.mem_map]
  constructor
  · rintro ⟨c, hc, e⟩
    obtain ⟨c1, c2⟩ := mem_chos.mp hc
    have hs : ∀ p, p ∈ r ↔ p ∈ c := fun p => by
      constructor
      · exact fun hp => Classical.byContradiction fun z => by
          have := mem_compl.mpr ⟨r1.subset hp, z⟩
          rw [e] at this
          exact (mem_compl.mp this).2 hp
      · exact fun hp => Classical.byContradiction fun z => by
          have := mem_compl.mpr ⟨c2 p hp, z⟩
          rw [← e] at this
          exact (mem_compl.mp this).2 hp
    have hp : r.Perm c := (List.perm_ext_iff_of_nodup ((comb_pair hr).imp fun h => by omega) (labs_nodup c1)).mpr hs
    rw [← c1]
    exact hp.map _
  · intro h
    obtain ⟨c, hc, e⟩ := perm_map_of (lab ls) h rfl
    exact ⟨c, mem_chos.mpr ⟨e, fun p hp => r1.subset (hc.mem_iff.mp hp)⟩, compl_congr fun p => hc.mem_iff⟩
theorem label_perm {n k : Nat} {ls : List Int} (hn : n ≤ 63) : ((chos ls n k).map (compl n)).Perm (((combs (rng n) k).filter (fullP ls k)).map (compl n)) := by
  refine (List.perm_ext_iff_of_nodup chos_rooms ?_).mpr fun x => ?_
  · refine List.pairwise_map.mpr (((combs_nodup (rng_pair n) (rng_ok hn)).filter _).imp_of_mem fun {a b} ha hb h e => h (compl_inj (List.mem_filter.mp ha).1 (List.mem_filter.mp hb).1 e))
  · constructor
    · intro hx
      obtain ⟨c, hc, rfl⟩ := List.mem_map.mp hx
      obtain ⟨c1, c2⟩ := mem_chos.mp hc
      have hnd := labs_nodup c1
      have hs : (srt c).Pairwise (· < ·) := by
        have h2 : (srt c).Nodup := (srt_perm c).nodup_iff.mpr hnd
        exact (srt_sorted c).imp₂ (fun _ _ h1 h2 => by omega) h2
      have hsub : (srt c).Sublist (rng n) := sorted_sub hs (rng_pair n) fun p hp => c2 p ((srt_perm c).mem_iff.mp hp)
      have hlen : c.length = k := by have := congrArg List.length c1; rwa [List.length_map, ones_len] at this
      refine List.mem_map.mpr ⟨srt c, List.mem_filter.mpr ⟨mem_combs.mpr ⟨hsub, by rw [srt_len, hlen]⟩, ?_⟩, compl_congr fun p => (srt_perm c).mem_iff⟩
      rw [full_iff_perm, ← c1]
      exact (srt_perm c).map _
    · intro hx
      obtain ⟨r, hr, rfl⟩ := List.mem_map.mp hx
      obtain ⟨h1, h2⟩ := List.mem_filter.mp hr
      exact (full_chos h1).mpr h2
/-! ### different labels: all labels -/
theorem nodup_lenZ : ∀ {l m : List Int}, l.Nodup → (∀ x ∈ l, x ∈ m) → l.length ≤ m.length
  | [], m, _, _ => Nat.zero_le _
  | a :: l, m, h, s => by
    have ha := s a List.mem_cons_self
    have h' := List.nodup_cons.mp h
    have : l.length ≤ (m.erase a).length := nodup_lenZ h'.2 fun x hx => by
      have ne : x ≠ a := fun z => h'.1 (z ▸ hx)
      exact (List.mem_erase_of_ne ne).mpr (s x (List.mem_cons_of_mem _ hx))
    rw [List.length_erase_of_mem ha] at this
    have : 0 < m.length := List.length_pos_of_mem ha
    simp only [List.length_cons]
    omega
theorem dist_full {n k : Nat} {ls r : List Int} (hl : ls.length = n) (hlab : ∀ m ∈ ls, 1 ≤ m ∧ m ≤ (k : Int)) (hr : r ∈ combs (rng n) k) : distP ls r = fullP ls k r := by
  obtain ⟨r1, r2⟩ := mem_combs.mp hr
  have hm : ∀ x ∈ r.map (lab ls), x ∈ ones k := fun x hx => by
    obtain ⟨p, hp, rfl⟩ := List.mem_map.mp hx
    have h0 := mem_rng.mp (r1.subset hp)
    have hi : p.toNat < ls.length := by omega
    have e : lab ls p = ls[p.toNat] := by
      show ls.getD p.toNat 0 = _
      rw [List.getD_eq_getElem?_getD, List.getElem?_eq_getElem hi]; rfl
    rw [e]
    exact mem_ones.mpr (hlab _ (List.getElem_mem hi))
  unfold distP
  by_cases h : (r.map (lab ls)).Nodup
  · rw [decide_eq_true h]
    symm
    rw [full_iff_perm]
    refine (List.perm_ext_iff_of_nodup h (ones_nodup k)).mpr fun x => ⟨hm x, fun hx => Classical.byContradiction fun z => ?_⟩
    have := nodup_lenZ (l := x :: r.map (lab ls)) (m := ones k) (List.nodup_cons.mpr ⟨z, h⟩) fun y hy => by
      rcases List.mem_cons.mp hy with rfl | hy
      · exact hx
      · exact hm y hy
    rw [List.length_cons, List.length_map, ones_len] at this
    omega
  · rw [decide_eq_false h]
    symm
    refine Bool.eq_false_iff.mpr fun z => h ?_
    exact (full_iff_perm.mp z).nodup_iff.mpr (ones_nodup k)
end NA
set_option maxRecDepth 100000
set_option maxHeartbeats 4000000
/-! the own classes' special defs. -/
namespace NA
open PySem PySem.Spec PyProof.Rows L2
abbrev cB (K : PySem.W.Frag) : Addr := He.ga K "Book"
abbrev cF (K : PySem.W.Frag) : Addr := He.ga K "Family"
/-- isinstance of its instances is asked plainly -/
structure InsC (K : PySem.W.Frag) (C : Addr) : Prop where
  ha : PySem.W.findIn K (.ref C) "__class__" = some (some (.builtin "object.__class__"))
  hn : PySem.W.specialIn K (.builtin "object.__class__") "__get__" = some (some (.builtin "getset_descriptor.__get__"))
  ht : PySem.W.takesIn K (.builtin "object.__class__") = some true
  hm : PySem.W.mroIn K C (.type "object") = some true
structure Fz (K : PySem.W.Frag) (mg : Str → Option Value) : Prop where
  n_iter : mg "iter" = none
  itB : PySem.W.findIn K (.ref (cB K)) "__iter__" = some (some (.ref (He.ma K (cB K) "__iter__")))
  itBF : PySem.W.isFn K (.ref (He.ma K (cB K) "__iter__")) = true
  itF : PySem.W.findIn K (.ref (cF K)) "__iter__" = some (some (.ref (He.ma K (cF K) "__iter__")))
  itFF : PySem.W.isFn K (.ref (He.ma K (cF K) "__iter__")) = true
  lnB : LenOwn K (cB K)
  lnF : LenOwn K (cF K)
  gt : PySem.W.findIn K (.ref (cF K)) "__getitem__" = some (some (.ref (He.ma K (cF K) "__getitem__")))
  gtF : PySem.W.isFn K (.ref (He.ma K (cF K) "__getitem__")) = true
  gtN : PySem.W.fnIn K (He.ma K (cF K) "__getitem__") = true
  insB : InsC K (cB K)
  insF : InsC K (cF K)
section
variable {P : Program} {w : World} {K : PySem.W.Frag} {mg : Str → Option Value} {base : Heap}
theorem ty_own {H : Hp} {a C dx : Addr} {fs : List (Str × V)} (I : InsC K C) (c : Cls K C) (h : H a = some (.ins C dx fs)) : TyX K H (.ref a) (.ref C) := .base (.ins h c I.ha I.hn I.ht I.hm)
theorem isO_read {H : Hp} {Q : VK} {a C dx : Addr} {fs : List (Str × V)} (I : InsC K C) (c : Cls K C) (h : H a = some (.ins C dx fs)) (q : Q (.bl true) H) : rIsi K [.ref a, .ref C] H Q :=
  ⟨_, _, _, _, true, rfl, .own C, ty_own I c h, if_pos (beq_self_eq_true _), q⟩
theorem it_B (T : Fx K mg) (Z : Fz K mg) : ItOwn K mg (cB K) "Book.__iter__" sBookIter "rooms" T.fd_Book_iter where
  it := Z.itB
  itF := Z.itBF
  fn := T.F_Book_iter
  sc := ⟨rfl, rfl, rfl, by decide +kernel, rfl, by decide +kernel, by decide +kernel⟩
  na := T.na_Book_rooms
  cl := T.c_Book
  ni := Z.n_iter
  body := ⟨_, _, _, _, _, rfl⟩
  vis := .inl rfl
  b := T.F_Book_iter.bindsN fun _ _ _ _ _ _ us hl => match us, hl with | [_], _ => rfl
  gi := fun _ _ _ => rfl
theorem it_F (T : Fx K mg) (Z : Fz K mg) : ItOwn K mg (cF K) "Family.__iter__" sFamIter "books" T.fd_Family_iter where
  it := Z.itF
  itF := Z.itFF
  fn := T.F_Family_iter
  sc := ⟨rfl, rfl, rfl, by decide +kernel, rfl, by decide +kernel, by decide +kernel⟩
  na := T.na_Family_books
  cl := T.c_Family
  ni := Z.n_iter
  body := ⟨_, _, _, _, _, rfl⟩
  vis := .inl rfl
  b := T.F_Family_iter.bindsN fun _ _ _ _ _ _ us hl => match us, hl with | [_], _ => rfl
  gi := fun _ _ _ => rfl
def spOLen (C : Addr) (fld : Str) : Sp := fun vs H Q _ => ∃ (a dx : Addr) (fs : List (Str × V)) (t : Addr) (zs : List V), vs = [.ref a] ∧ H a = some (.ins C dx fs) ∧ fs.lookup fld = some (.ref t) ∧ H t = some (.tup zs) ∧ Q (.int (zs.length : Int)) H
theorem scBLen : FnScope ["self"] ["self"] (defScope sBookLen) := ⟨rfl, rfl, rfl, by decide +kernel, rfl, by decide +kernel, by decide +kernel⟩
theorem scFLen : FnScope ["self"] ["self"] (defScope sFamLen) := ⟨rfl, rfl, rfl, by decide +kernel, rfl, by decide +kernel, by decide +kernel⟩
theorem scFGet : FnScope ["self", "at"] ["self", "at"] (defScope sFamGet) := ⟨rfl, rfl, rfl, by decide +kernel, rfl, by decide +kernel, by decide +kernel⟩
theorem ok_BLen (T : Fx K mg) : FnOk P w K mg base CX0 1 (He.ma K (cB K) "__len__") T.fd_Book_len ["self"] (spOLen (cB K) "rooms") := by
  refine T.F_Book_len.ok scBLen (fun vs H Q E h => ?_) (fun cdv A outer s H vs Q E hr h => ⟨_, PSs.nox (pss_one (ps_ret (pe_callB call_len_seq (by rfl) T.n_len PySem.boot_len (pa_cons (pe_fld (pv 0) rfl) pa_nil)))), ?_⟩)
  · obtain ⟨_, _, _, _, _, rfl, _⟩ := h
    rfl
  obtain ⟨a, dx, fs, t, zs, rfl, ha, hf, ht, hq⟩ := h
  exact ⟨_, rfl, a, _, dx, _, _, rfl, ha, T.c_Book, T.na_Book_rooms, hf, t, zs, rfl, .inr (.inl (.inl ht)), hq⟩
theorem ok_FLen (T : Fx K mg) : FnOk P w K mg base CX0 1 (He.ma K (cF K) "__len__") T.fd_Family_len ["self"] (spOLen (cF K) "books") := by
  refine T.F_Family_len.ok scFLen (fun vs H Q E h => ?_) (fun cdv A outer s H vs Q E hr h => ⟨_, PSs.nox (pss_one (ps_ret (pe_callB call_len_seq (by rfl) T.n_len PySem.boot_len (pa_cons (pe_fld (pv 0) rfl) pa_nil)))), ?_⟩)
  · obtain ⟨_, _, _, _, _, rfl, _⟩ := h
    rfl
  obtain ⟨a, dx, fs, t, zs, rfl, ha, hf, ht, hq⟩ := h
  exact ⟨_, rfl, a, _, dx, _, _, rfl, ha, T.c_Family, T.na_Family_books, hf, t, zs, rfl, .inr (.inl (.inl ht)), hq⟩
def spFGet (K : PySem.W.Frag) : Sp := fun vs H Q _ => ∃ (a dx : Addr) (fs : List (Str × V)) (t : Addr) (zs : List V) (i : Nat) (v : V), vs = [.ref a, .int (i : Int)] ∧ H a = some (.ins (cF K) dx fs) ∧ fs.lookup ("books" : Str) = some (.ref t) ∧ H t = some (.tup zs) ∧ zs[i]? = some v ∧ Q v H
theorem ok_FGet (T : Fx K mg) : FnOk P w K mg base CX0 1 (He.ma K (cF K) "__getitem__") T.fd_Family_getitem ["self", "at"] (spFGet K) := by
  refine T.F_Family_getitem.ok scFGet (fun vs H Q E h => ?_) (fun cdv A outer s H vs Q E hr h => ⟨_, PSs.nox (pss_one (ps_ret (pe_ix ix_tup (pe_fld (pv 0) rfl) (pv 1) (fun _ _ => rfl)))), ?_⟩)
  · obtain ⟨_, _, _, _, _, _, _, rfl, _⟩ := h
    rfl
  obtain ⟨a, dx, fs, t, zs, i, v, rfl, ha, hf, ht, hv, hq⟩ := h
  exact ⟨_, rfl, a, _, dx, _, _, rfl, ha, T.c_Family, T.na_Family_books, hf, _, rfl, t, zs, (i : Int), v, rfl, rfl, .inl (.inl ht), atI_nat hv, hq⟩
end
end NA
set_option maxRecDepth 100000
set_option maxHeartbeats 2000000
namespace NA
open PySem PySem.Spec PyProof.Rows L2 GenW
def sgW (ch tl lf : Addr) (at_ : Int) (a b c : Option V) : L2.St := [some (.ref ch), some (.ref tl), some (.ref lf), some (.int at_), a, b, c, none]
theorem turnW {K : PySem.W.Frag} {ty tn : TGn} {D : GEnds} {ys : List V} {H : Hp} {ch tl lf e : Addr} {at_ : Int} {a b c : Option V} {x c0 c1 e0 e1 : V} {left r : List Int} {kv : List (List Key × V)}
    (h1 : Rd H ch (.lst [c0, c1])) (h2 : Rd H tl (.lst [e0, e1])) (he : atI [e0, e1] at_ = some (.ref e)) (hk : Rd H e (.dT kv)) (hl : Rd H lf (.tup (iV left))) (hx : TI H x r) (hz : left.length ≤ 63)
    (h : ∀ l H', Ext H H' → H' l = some (.tup (iV (sub left r))) → if (valV kv (kI (sub left r))).isSome = true then (if at_ + 1 = 2 then ty D ys (sgW ch tl lf at_ (some x) (some (.ref l)) c) H' else tn D ys (sgW ch tl lf at_ (some x) (some (.ref l)) c) H') else D.nx ys (sgW ch tl lf at_ (some x) (some (.ref l)) c) H') :
    gName 4 x (sgW ch tl lf at_ a b c) H fun σ2 H2 => tGThen (tPlain (tAsg (tCB (rTupOf K) (tCons (tRest K 2 4 7) tNil)) (gName 5)))
      (tGIf (tB (tDIn (tVar 5) (tOp (rIxL K) (tVar 1) (tVar 3)))) (tGIf (tTest (tOp rEq (tOp (rI0 fun i j => .int (i + j)) (tVar 3) (tC (.int 1))) (tCB (rLenSq K) (tCons (tVar 0) tNil)))) ty tn) tG0) D ys σ2 H2 := by
  obtain ⟨rm, rfl, hr⟩ := hx
  show tCB (rTupOf K) (tCons (tRest K 2 4 7) tNil) (sgW ch tl lf at_ (some (.ref rm)) b c) H _
  unfold tCB tCons tNil
  refine rest_read (σ := sgW ch tl lf at_ (some (.ref rm)) b c) (l := 2) (r := 4) (v := 7) (lf := lf) (rm := rm) (left := left) (room := r) rfl rfl hl hr hz (by decide) (by show 7 < 8; decide) fun Dl hD => ?_
  refine ⟨Dl, _, rfl, .inl ⟨.inl (.inl upd_same), fun l hln => ?_⟩⟩
  have x1 : Ext H (upd H Dl (.lst (iV (sub left r)))) := Ext.upd hD
  have x2 : Ext H (upd (upd H Dl (.lst (iV (sub left r)))) l (.tup (iV (sub left r)))) := x1.trans (Ext.upd hln)
  have hh := h l _ x2 upd_same
  generalize hH' : upd (upd H Dl (.lst (iV (sub left r)))) l (.tup (iV (sub left r))) = H' at x2 hh
  have hll : H' l = some (.tup (iV (sub left r))) := by rw [← hH']; exact upd_same
  show tGIf (tB (tDIn (tVar 5) (tOp (rIxL K) (tVar 1) (tVar 3)))) _ _ D ys (sgW ch tl lf at_ (some (.ref rm)) (some (.ref l)) c) H'
  refine ⟨_, rfl, _, rfl, _, rfl, tl, [e0, e1], at_, _, rfl, rfl, .inl (rd_ext h2 x2), he, ?_⟩
  refine ⟨e, _, rfl, .inr ⟨kv, kI (sub left r), l, rd_ext hk x2, rfl, by rw [kI_kV]; exact hll, rfl⟩, _, rfl, ?_⟩
  by_cases q : (valV kv (kI (sub left r))).isSome = true
  · rw [if_pos q] at hh
    rw [if_pos q]
    refine ⟨_, rfl, at_, 1, rfl, rfl, _, rfl, ch, [c0, c1], rfl, .inl (.inl (rd_ext h1 x2)), ?_, ?_⟩
    · rfl
    · refine ⟨_, rfl, ?_⟩
      by_cases q2 : at_ + 1 = 2
      · rw [if_pos q2] at hh
        rw [show (decide (V.int (at_ + 1) = V.int (([c0, c1] : List V).length : Int))) = true from ival (by rw [q2]; rfl), if_pos rfl]
        exact hh
      · rw [if_neg q2] at hh
        rw [show (decide (V.int (at_ + 1) = V.int (([c0, c1] : List V).length : Int))) = false from ival_ne (by show at_ + 1 ≠ ((2 : Nat) : Int); exact q2), if_neg Bool.false_ne_true]
        exact hh
  · rw [if_neg q] at hh
    rw [if_neg q]
    exact hh
theorem pure_walk1 {K : PySem.W.Frag} {Hs : Hp} {vs : List V} {spec : List (List V)} (hs : sp1 vs Hs spec) :
    bodyW K (tGYield2 (PIs spec) (tTup (tCons (tVar 4) tNil))) (fun _ _ _ _ => False) { nx := fun ys _ H' => PNs spec ys H', rt := fun ys v H' => v = .non ∧ PNs spec ys H' } [] (start nW vs) Hs := by
  obtain ⟨ch, tl, lf, kvs, xs0, r0, xs1, r1, left, rfl, d, hlf, hz, rfl⟩ := hs
  obtain ⟨c0, c1, e0, e1, h1, h2, h3, h4, h5, h6⟩ := d.dat
  have sz : sizeLine = 16777216 := sizeLine_eq
  have hl1 : xs1.length = r1.length := d.t1.1
  show bodyW K _ _ _ [] (sgW ch tl lf 1 none none none) Hs
  refine ⟨_, rfl, _, rfl, ch, _, 1, _, rfl, rfl, .inl h1, rfl, ?_⟩
  refine ⟨c1, rfl, ⟨_, .inl h4⟩, ?_⟩
  refine gfor_tup (xs := xs1) (fun i ys σ H => Ext Hs H ∧ (∃ a b c, σ = sgW ch tl lf 1 a b c) ∧ PNs (wz1 ((xs1.zip r1).take i) left) ys H) ⟨Ext.refl _, ⟨_, _, _, rfl⟩, PNs.nil⟩ (fun i ys σ H _ z => .inl (rd_ext h4 z.1)) (fun i x ys σ H hx z => ?_) fun ys σ H z => ?_
  · obtain ⟨ex, ⟨a, b, c, rfl⟩, hP⟩ := z
    obtain ⟨r, hr, hxt⟩ := d.t1.at hx
    have hzp : (xs1.zip r1)[i]? = some (x, r) := zip_get hx hr
    refine turnW (rd_ext h1 ex) (rd_ext h2 ex) (e := e1) (by rfl) (rd_ext h6 ex) (rd_ext hlf ex) (hxt.ext ex) hz fun l H' ex' hl => ?_
    have ev : (valV [(([] : List Key), V.int 1)] (kI (sub left r))).isSome = decide (sub left r = []) := by
      by_cases q : sub left r = []
      · rw [q]; rfl
      · have : ¬ (([] : List Key) = kI (sub left r)) := fun z => q (kI_nil.mp z.symm)
        rw [decide_eq_false q]
        unfold valV
        simp [this]
    rw [ev]
    have hP' := hP.ext ex'
    by_cases q : sub left r = []
    · rw [decide_eq_true q, if_pos rfl, if_pos (by decide)]
      have hlen : ys.length ≤ 63 := by
        rw [hP.1]
        refine Nat.le_trans wz1_len ?_
        have := d.l1
        simp only [List.length_take, List.length_zip]
        omega
      refine ⟨by omega, _, rfl, by show 1 ≤ sizeLine; omega, fun p hp => ?_⟩
      have hP2 : PNs (wz1 ((xs1.zip r1).take (i + 1)) left) (ys ++ [.ref p]) (upd H' p (.tup [x])) := by
        rw [wz1_snoc hzp, if_pos q]
        exact (hP'.ext (Ext.upd hp)).snoc upd_same
      refine ⟨?_, ?_⟩
      · rw [w1_wz, wz1_split (i + 1)]
        exact hP2.pre
      · exact ⟨(ex.trans ex').trans (Ext.upd hp), ⟨_, _, _, rfl⟩, hP2⟩
    · rw [decide_eq_false q, if_neg Bool.false_ne_true]
      refine ⟨ex.trans ex', ⟨_, _, _, rfl⟩, ?_⟩
      rw [wz1_snoc hzp, if_neg q, List.append_nil]
      exact hP'
  · obtain ⟨_, _, hP⟩ := z
    have : (xs1.zip r1).take xs1.length = xs1.zip r1 := List.take_of_length_le (by rw [List.length_zip]; exact Nat.min_le_left _ _)
    rw [this] at hP
    exact hP
end NA
set_option maxRecDepth 100000
set_option maxHeartbeats 2000000
namespace NA
open PySem PySem.Spec PyProof.Rows L2 GenW
def tArgW : TA := tCons (tVar 0) (tCons (tVar 1) (tCons (tVar 5) (tCons (tOp (rI0 fun i j => .int (i + j)) (tVar 3) (tC (.int 1))) tNil)))
theorem walk0_ok {G : GA} {P : Program} {w : World} {K : PySem.W.Frag} {mg : Str → Option Value} {base : Heap} {spec : List (List V)} {L f R : Addr} {fd : FuncData} {cdv : Value} (O : G.Ok) (C : CondR R G) (hP : G.prog = P) (hw : G.w = w) (hK : G.K = K) (hmg : G.mg = mg) (hB : G.base = base) (hE : G.env = envOfC "walk_choices" (defScope sWalk) L f cdv) (hN : G.N = nW) (gT : mg "tuple" = none) (gL : mg "len" = none)
    (F : GFn2 P w K mg base 2 f fd pW sp1 fun _ => True) (gW : mg "walk_choices" = some (.ref f)) (kp : PySem.W.keepIn K (.ref f) = true) (hb : Binds K fd pW []) (hr : Room 3 G.A) :
    GSs2 G (PIs spec) (defBody sWalk) (bodyW K (fun _ _ _ _ => False) (tGForG G sp1 (PIs spec) 4 6 tArgW)) := by
  obtain ⟨prog, w, K, mg, base, A, N, env, outer, pn, hc, Hs, M, g, prot, Rec, Dyn⟩ := G
  cases hE
  cases hN
  cases hP
  cases hw
  cases hK
  cases hmg
  cases hB
  exact gss2_one (gs2_for (wi := iTup K (tOp (rIxL K) (tVar 0) (tVar 3))) (g := gName 4) (fun _ => pi_tup (pe_ix ix_list (pv 0) (pv 3) (fun _ _ => rfl))) (fun _ => pg_name (i := 4) scW.nd rfl (Or.inr rfl))
    (gss2_cons (gs2_ps (t := tAsg (tCB (rTupOf K) (tCons (tRest K 2 4 7) tNil)) (gName 5)) (fun _ => ps_set (i := 5) scW.nd rfl (Or.inl rfl) (pe_callTy call_tuple_of (by rfl) gT (by decide +kernel) (pa_cons (pe_lc (own := [("p", 7)]) (g := gName 7) rfl scW.nd (pi_tup (pv 2)) (blkOk_by (N := nW) (sc := defScope sWalk) (by decide +kernel)) (fun _ _ _ _ _ => pg_name (i := 7) scW.nd rfl (Or.inl rfl)) (fun _ _ _ _ _ => pts_one (pt_cmpR op_notIn_seq (pv 7) (pv 4) (by rfl))) (fun _ _ _ _ _ => pv 7)) pa_nil))))
    (gss2_one (gs2_if (tc := tB (tDIn (tVar 5) (tOp (rIxL K) (tVar 1) (tVar 3)))) (fun _ => pt_cmp (pc_din (hu_of hr) (pv 5) (pe_ix ix_list (pv 1) (pv 3) (fun _ _ => rfl))))
      (gss2_one (gs2_if (tc := tTest (tOp rEq (tOp (rI0 fun i j => .int (i + j)) (tVar 3) (tC (.int 1))) (tCB (rLenSq K) (tCons (tVar 0) tNil)))) (fun _ => pt_cmpR op_eq (pe_op op_add (pv 3) pe_int) (pe_callB call_len_seq (by rfl) gL PySem.boot_len (pa_cons (pv 0) pa_nil)) (nomark _)) (gss2_one gs2_never)
        (gss2_one (gs2_forG (R := R) (ir := 4) (il := 6) (t := tArgW) O C F (fun _ => trivial) hr (by rfl) gW kp hb (fun _ => pak_cons (pvk 0) (pak_cons (pvk 1) (pak_cons (pvk 5) (pak_cons (pek_op opk_addI (pvk 3) pek_int) pak_nil)))) scW.nd rfl rfl (fun _ => pvk 4) (fun _ => pvk 6) (by decide))))) gss2_nil))))
end NA
set_option maxRecDepth 100000
set_option maxHeartbeats 2000000
namespace NA
open PySem PySem.Spec PyProof.Rows L2 GenW
def in0 (kvs : List (List Key × V)) (zs1 : List (V × List Int)) (left : List Int) (q : V × List Int) : List (List V) := if (valV kvs (kI (sub left q.2))).isSome = true then (wz1 zs1 (sub left q.2)).map (q.1 :: ·) else []
def wz0 (kvs : List (List Key × V)) (zs0 zs1 : List (V × List Int)) (left : List Int) : List (List V) := zs0.flatMap (in0 kvs zs1 left)
theorem w0_wz {kvs : List (List Key × V)} {xs0 xs1 : List V} {r0 r1 : List (List Int)} {left : List Int} : w0 kvs xs0 r0 xs1 r1 left = wz0 kvs (xs0.zip r0) (xs1.zip r1) left := rfl
theorem wz0_snoc {kvs : List (List Key × V)} {zs0 zs1 : List (V × List Int)} {left : List Int} {i : Nat} {q : V × List Int} (h : zs0[i]? = some q) : wz0 kvs (zs0.take (i + 1)) zs1 left = wz0 kvs (zs0.take i) zs1 left ++ in0 kvs zs1 left q := by
  unfold wz0
  rw [List.take_succ, h, List.flatMap_append]
  simp
theorem wz0_split {kvs : List (List Key × V)} {zs0 zs1 : List (V × List Int)} {left : List Int} (i : Nat) : wz0 kvs zs0 zs1 left = wz0 kvs (zs0.take i) zs1 left ++ wz0 kvs (zs0.drop i) zs1 left := by
  unfold wz0
  rw [← List.flatMap_append, List.take_append_drop]
theorem in0_len {kvs : List (List Key × V)} {zs1 : List (V × List Int)} {left : List Int} {q : V × List Int} : (in0 kvs zs1 left q).length ≤ zs1.length := by
  unfold in0
  split
  · rw [List.length_map]; exact wz1_len
  · exact Nat.zero_le _
theorem wz0_len {kvs : List (List Key × V)} {zs1 : List (V × List Int)} {left : List Int} : ∀ {zs0 : List (V × List Int)}, (wz0 kvs zs0 zs1 left).length ≤ zs0.length * zs1.length
  | [] => by simp [wz0]
  | q :: zs0 => by
    have h1 := wz0_len (kvs := kvs) (zs1 := zs1) (left := left) (zs0 := zs0)
    have h2 := in0_len (kvs := kvs) (zs1 := zs1) (left := left) (q := q)
    show ((q :: zs0).flatMap (in0 kvs zs1 left)).length ≤ _
    rw [List.flatMap_cons, List.length_append, List.length_cons, Nat.succ_mul]
    have : (zs0.flatMap (in0 kvs zs1 left)).length ≤ zs0.length * zs1.length := h1
    omega
theorem PNs.trunc {sp post : List (List V)} {j : Nat} {ys : List V} {H : Hp} (h : PNs (sp ++ post.take j) ys H) : PIs (sp ++ post) ys H := by
  have : sp ++ post = (sp ++ post.take j) ++ post.drop j := by rw [List.append_assoc, List.take_append_drop]
  rw [this]
  exact h.pre
theorem pure_walk0 {G : GA} {R : Addr} {Hs : Hp} {vs : List V} {spec : List (List V)} (hs : sp0 vs Hs spec) :
    bodyW G.K (fun _ _ _ _ => False) (tGForG G sp1 (PIs spec) 4 6 tArgW) { nx := fun ys _ H' => PNs spec ys H', rt := fun ys v H' => v = .non ∧ PNs spec ys H' } [] (start nW vs) Hs := by
  obtain ⟨ch, tl, lf, kvs, xs0, r0, xs1, r1, left, rfl, d, hlf, hz, rfl⟩ := hs
  obtain ⟨c0, c1, e0, e1, h1, h2, h3, h4, h5, h6⟩ := d.dat
  have sz : sizeLine = 16777216 := sizeLine_eq
  have hl0 : xs0.length = r0.length := d.t0.1
  have hl1 : xs1.length = r1.length := d.t1.1
  have d0 := d.l0
  have d1 := d.l1
  have zl1 : (xs1.zip r1).length ≤ 63 := by rw [List.length_zip]; omega
  show bodyW G.K _ _ _ [] (sgW ch tl lf 0 none none none) Hs
  refine ⟨_, rfl, _, rfl, ch, _, 0, _, rfl, rfl, .inl h1, rfl, ?_⟩
  refine ⟨c0, rfl, ⟨_, .inl h3⟩, ?_⟩
  refine gfor_tup (xs := xs0) (fun i ys σ H => Ext Hs H ∧ (∃ a b c, σ = sgW ch tl lf 0 a b c) ∧ PNs (wz0 kvs ((xs0.zip r0).take i) (xs1.zip r1) left) ys H) ⟨Ext.refl _, ⟨_, _, _, rfl⟩, PNs.nil⟩ (fun i ys σ H _ z => .inl (rd_ext h3 z.1)) (fun i x ys σ H hx z => ?_) fun ys σ H z => ?_
  · obtain ⟨ex, ⟨a, b, c, rfl⟩, hP⟩ := z
    obtain ⟨r, hr, hxt⟩ := d.t0.at hx
    have hzp : (xs0.zip r0)[i]? = some (x, r) := zip_get hx hr
    refine turnW (rd_ext h1 ex) (rd_ext h2 ex) (e := e0) (by rfl) (rd_ext h5 ex) (rd_ext hlf ex) (hxt.ext ex) hz fun l H' ex' hl => ?_
    have hP' := hP.ext ex'
    by_cases q : (valV kvs (kI (sub left r))).isSome = true
    · rw [if_pos q, if_neg (by decide)]
      have hin : in0 kvs (xs1.zip r1) left (x, r) = (wz1 (xs1.zip r1) (sub left r)).map (x :: ·) := by
        unfold in0
        rw [if_pos q]
      refine ⟨_, rfl, _, rfl, _, rfl, _, rfl, 0, 1, rfl, rfl, ?_⟩
      refine ⟨rfl, x, wz1 (xs1.zip r1) (sub left r), rfl, fun s hs => ?_, ?_, fun t ht => hP'.tups t ht, fun L h hL hM ok => ?_, ?_⟩
      · obtain ⟨q2, _, rfl⟩ := List.mem_map.mp hs
        exact ⟨by simp, by show 1 < sizeLine; omega⟩
      · have hlen : ys.length ≤ 63 * 63 := by
          rw [hP.1]
          refine Nat.le_trans wz0_len (Nat.mul_le_mul ?_ zl1)
          simp only [List.length_take, List.length_zip]
          omega
        have := wz1_len (zs := xs1.zip r1) (left := sub left r)
        omega
      · have hM' : ∀ b ∈ L :: G.M, H' b = none := fun b hb => by
          rcases List.mem_cons.mp hb with rfl | hb
          · exact hL
          · exact hM b hb
        exact ⟨ch, tl, l, kvs, xs0, r0, xs1, r1, sub left r, rfl, (d.ext (ex.trans ex')).frz ok hM', frz_rdT (rd_notin (.inl hl) hM') (.inl hl), Nat.le_trans (sub_len ..) hz, w1_wz.symm⟩
      · refine ⟨fun j ys' H2 => Ext H' H2 ∧ PNs (wz0 kvs ((xs0.zip r0).take i) (xs1.zip r1) left ++ ((wz1 (xs1.zip r1) (sub left r)).map (x :: ·)).take j) ys' H2, ⟨Ext.refl _, ?_⟩, fun j ys' H2 s p hW hs hp => ?_, fun ys' H2 σ' hW hlen hsl => ?_⟩
        · rw [List.take_zero, List.append_nil]
          exact hP'
        · have hP3 : PNs (wz0 kvs ((xs0.zip r0).take i) (xs1.zip r1) left ++ ((wz1 (xs1.zip r1) (sub left r)).map (x :: ·)).take (j + 1)) (ys' ++ [.ref p]) (upd H2 p (.tup (x :: s))) := by
            have e : ((wz1 (xs1.zip r1) (sub left r)).map (x :: ·))[j]? = some (x :: s) := by rw [List.getElem?_map, hs]; rfl
            rw [List.take_succ, e, ← List.append_assoc]
            exact (hW.2.ext (Ext.upd hp)).snoc upd_same
          refine ⟨?_, hW.1.trans (Ext.upd hp), hP3⟩
          rw [w0_wz, wz0_split (i + 1), wz0_snoc hzp, hin]
          have z := hP3.trunc
          have z2 : wz0 kvs ((xs0.zip r0).take i) (xs1.zip r1) left ++ (wz1 (xs1.zip r1) (sub left r)).map (x :: ·) ++ wz0 kvs ((xs0.zip r0).drop (i + 1)) (xs1.zip r1) left = (wz0 kvs ((xs0.zip r0).take i) (xs1.zip r1) left ++ ((wz1 (xs1.zip r1) (sub left r)).map (x :: ·)).take (j + 1)) ++ (((wz1 (xs1.zip r1) (sub left r)).map (x :: ·)).drop (j + 1) ++ wz0 kvs ((xs0.zip r0).drop (i + 1)) (xs1.zip r1) left) := by
            rw [List.append_assoc, List.append_assoc, ← List.append_assoc (List.take _ _), List.take_append_drop]
          rw [z2]
          exact hP3.pre
        · refine ⟨(ex.trans ex').trans hW.1, ?_, ?_⟩
          · refine ⟨some x, some (.ref l), (σ'[6]?).join, List.ext_getElem? fun m => ?_⟩
            by_cases h6 : m = 6
            · subst h6
              have : 6 < σ'.length := by rw [hlen]; exact (by decide : 6 < 8)
              rw [List.getElem?_eq_getElem this]
              rfl
            · rw [hsl m h6]
              match m, h6 with
              | 0, _ => rfl
              | 1, _ => rfl
              | 2, _ => rfl
              | 3, _ => rfl
              | 4, _ => rfl
              | 5, _ => rfl
              | 7, _ => rfl
              | m + 8, _ => rfl
          · have z := hW.2
            rw [show (wz1 (xs1.zip r1) (sub left r)).length = ((wz1 (xs1.zip r1) (sub left r)).map (x :: ·)).length from (List.length_map ..).symm, List.take_length, ← hin] at z
            rw [wz0_snoc hzp]
            exact z
    · rw [if_neg q]
      refine ⟨ex.trans ex', ⟨_, _, _, rfl⟩, ?_⟩
      rw [wz0_snoc hzp]
      have : in0 kvs (xs1.zip r1) left (x, r) = [] := by unfold in0; rw [if_neg q]
      rw [this, List.append_nil]
      exact hP'
  · obtain ⟨_, _, hP⟩ := z
    have : (xs0.zip r0).take xs0.length = xs0.zip r0 := List.take_of_length_le (by rw [List.length_zip]; exact Nat.min_le_left _ _)
    rw [this] at hP
    exact hP
end NA
set_option maxRecDepth 100000
set_option maxHeartbeats 2000000
namespace NA
open PySem PySem.Spec PyProof.Rows L2 GenW

section
variable {P : Program} {w : World} {K : PySem.W.Frag} {mg : Str → Option Value} {base : Heap} {f : Addr} {fd : FuncData}
theorem gok_walk1 (F : FnP K "walk_choices" sWalk f fd) (gT : mg "tuple" = none) (gL : mg "len" = none) : GFn2 P w K mg base 2 f fd pW sp1 fun _ => True := by
  obtain ⟨oc, od, dV, kV, doc, pm, an, cdv, ct, osl, rfl, lk, hcd, _, _⟩ := F.ex
  refine gfn2_of (k := 1) lk hcd scW (fun vs H spec h => ?_) fun G vs spec O h1 h2 h3 h4 h5 h6 h7 hr _ hs => ?_
  · obtain ⟨_, _, _, _, _, _, _, _, _, rfl, _⟩ := h
    rfl
  · obtain ⟨L, hE⟩ := h7
    exact ⟨_, walk1_ok O hE h6 (by rw [h4]; exact gT) (by rw [h4]; exact gL) hr, pure_walk1 hs⟩
theorem gok_walk0 (F : FnP K "walk_choices" sWalk f fd) (gT : mg "tuple" = none) (gL : mg "len" = none) (gW : mg "walk_choices" = some (.ref f)) : GFn2 P w K mg base 4 f fd pW sp0 fun G => ∃ R, CondR R G := by
  have F1 := gok_walk1 (P := P) (w := w) (base := base) F gT gL
  have hb : Binds K fd pW [] := F.bindsN fun _ _ _ _ _ _ us hl => match us, hl with | [_, _, _, _], _ => rfl
  have kp := F.kp
  obtain ⟨oc, od, dV, kV, doc, pm, an, cdv, ct, osl, rfl, lk, hcd, _, _⟩ := F.ex
  refine gfn2_of (k := 3) lk hcd scW (fun vs H spec h => ?_) fun G vs spec O h1 h2 h3 h4 h5 h6 h7 hr C hs => ?_
  · obtain ⟨_, _, _, _, _, _, _, _, _, rfl, _⟩ := h
    rfl
  · obtain ⟨L, hE⟩ := h7
    obtain ⟨R, C⟩ := C
    refine ⟨_, walk0_ok O C h1 h2 h3 h4 h5 hE h6 gT gL F1 gW kp hb hr, ?_⟩
    rw [← h3]
    exact pure_walk0 (R := R) hs
end
end NA
set_option maxRecDepth 100000
set_option maxHeartbeats 4000000
/-! list_choices. -/
namespace NA
open PySem PySem.Spec PyProof.Rows L2 GenW
def nLC : List Str := ["places", "choices", "most", "rows", "row"]
def pLC : List Str := ["places", "choices", "most"]
theorem scLC : FnScope nLC pLC (defScope sListChoices) := ⟨rfl, rfl, rfl, by decide +kernel, rfl, by decide +kernel, by decide +kernel⟩
def okLC (R : Addr) (σ : L2.St) : Prop := σ[3]? = some (some (.ref R)) ∧ σ[2]? = some (some (.int 5000)) ∧ σ.length = 5
def forBody : Stmt → List Stmt
  | .For _ _ b _ _ => b
  | _ => []
abbrev lcBody : List Stmt := forBody ((defBody sListChoices).getD 1 (.Pass ⟨0, 0, 0, 0⟩))
section
variable {P : Program} {w : World} {K : PySem.W.Frag} {mg : Str → Option Value} {base : Heap}
abbrev cLC (P : Program) (w : World) (K : PySem.W.Frag) (mg : Str → Option Value) (base : Heap) (f : Addr) (cdv : Value) (A : Around) (outer : List Env) (s0 : Shared) (H0 : Hp) (E : XK) : Cx := (cxOf CX0 P w K mg base nLC "list_choices" (defScope sListChoices) f cdv A outer s0 H0 E).nox
theorem body_LC {f : Addr} {cdv : Value} {A : Around} {outer : List Env} {s0 : Shared} {H0 : Hp} {E : XK} {p1 : Pos} (T : Fx K mg) : BodyLow (cLC P w K mg base f cdv A outer s0 H0 E) (.Name "row" p1) lcBody 4 okLC 5000 := by
  intro pins s σ H R xs x u I ok r hR hlen
  obtain ⟨o3, o2, o5⟩ := ok
  refine low_store (i := 4) I scLC.nd rfl rfl r fun s2 I2 b2 => ?_
  have J := I2.toTry (fun _ _ => False)
  have e3 : (σ.set 4 (some x))[3]? = some (some (.ref R)) := by rw [List.getElem?_set_ne (by decide)]; exact o3
  have e2 : (σ.set 4 (some x))[2]? = some (some (.int 5000)) := by rw [List.getElem?_set_ne (by decide)]; exact o2
  have e4 : (σ.set 4 (some x))[4]? = some (some x) := List.getElem?_set_self (by omega)
  have hz : sizeLine = 16777216 := sizeLine_eq
  refine wpAny_execs_cons (wpAny_If (wpAny_mono ((ptk_cmp (X := (cLC P w K mg base f cdv A outer s0 H0 E).tr ((cLC P w K mg base f cdv A outer s0 H0 E).pn ++ pins) fun _ _ => False) (op := .Eq) opk_eqI (pek_len (x := "len") rfl T.n_len PySem.boot_len (pak_cons (pvk 3) pak_nil)) (pvk 2) (nomark _)).run _ s2 _ H (fun b H' => b = false ∧ H' = H) J ⟨_, e3, R, xs, rfl, .inl (.inl hR), _, e2, _, _, rfl, rfl, _, rfl, decide_eq_false (by omega), rfl⟩) (fun b s3 hb => ?_) fun _ _ z => z))
  obtain ⟨⟨H3, J3, rfl, rfl⟩, g3⟩ := hb
  refine wpAny_execs_nil ?_
  refine wpAny_execs_cons (low_append (X := (cLC P w K mg base f cdv A outer s0 H0 E).tr ((cLC P w K mg base f cdv A outer s0 H0 E).pn ++ pins) fun _ _ => False) (pvk 3) (pak_cons (pvk 4) pak_nil) (I := J3) (R := R) (xs := xs) (x := x) (h1 := ⟨_, e3, rfl, rfl⟩) (h2 := ⟨_, e4, rfl, rfl⟩) (hR := hR) (hz := by omega) (hq := fun s4 J4 b4 => ?_))
  refine wpAny_execs_nil ⟨rfl, J4.ofTry I.ok, ?_⟩
  exact ((b2.mono fun b hb => List.mem_cons.mpr (.inl (List.mem_singleton.mp hb))).trans (g3.but _)).trans (b4.mono fun b hb => List.mem_cons_of_mem _ hb)
/-- the rows: for each room of the first book the rooms of the second that hold the rest -/
def rowsOf (n : Nat) (y0 : List V) (r0 : List (List Int)) (y1 : List V) (r1 : List (List Int)) : List (List V) :=
  (y0.zip r0).flatMap fun q => if compl n q.2 ∈ r1 then (w1 y1 r1 (compl n q.2)).map (q.1 :: ·) else []
def spLC : Sp := fun vs H Q _ => ∃ (n : Nat) (l t0 t1 : Addr) (y0 y1 : List V) (r0 r1 : List (List Int)), vs = [.int (n : Int), .ref l, .int 5000] ∧ H l = some (.lst [.ref t0, .ref t1]) ∧ H t0 = some (.tup y0) ∧ TIs H y0 r0 ∧ r0.length ≤ 63 ∧ n ≤ 63 ∧ H t1 = some (.tup y1) ∧ TIs H y1 r1 ∧ r1.length ≤ 63 ∧ (∀ r ∈ r1, r.length ≤ 63 ∧ srt r = r) ∧ r1.Nodup ∧
  ∀ R ys H', Ext H H' → H R = none → H' R = some (.lst ys) → PNs (rowsOf n y0 r0 y1 r1) ys H' → Q (.ref R) H'
theorem WD.frzL {M : List Addr} {h : Heap} {H : Hp} {ch tl : Addr} {kvs : List (List Key × V)} {xs0 xs1 : List V} {r0 r1 : List (List Int)} (d : WD H ch tl kvs xs0 r0 xs1 r1) (ok : HOk P w H h) (hM : ∀ b ∈ M, H b = none ∨ H b = some (.lst [])) : WD (frzH M h H) ch tl kvs xs0 r0 xs1 r1 := by
  obtain ⟨c0, c1, e0, e1, h1, h2, h3, h4, h5, h6⟩ := d.dat
  have no : ∀ {a : Addr} {u : HO}, Rd H a u → u ≠ .lst [] → a ∉ M := fun {a u} e ne hm => by
    rcases hM a hm with z | z <;> rcases e with e | ⟨o, e⟩ <;> rw [z] at e <;> cases e
    exact ne rfl
  have tm : ∀ {xs : List V} {rs : List (List Int)}, TIs H xs rs → TIs (frzH M h H) xs rs := fun {xs rs} t => ⟨t.1, fun i r hr => by
    obtain ⟨b, g1, g2⟩ := t.2 i r hr
    exact ⟨b, g1, frz_tup (no (.inl g2) (by simp)) g2⟩⟩
  exact ⟨⟨c0, c1, e0, e1, frz_rdL ok (no h1 (by simp)) h1, frz_rdL ok (no h2 (by simp)) h2, frz_rdT (no h3 (by simp)) h3, frz_rdT (no h4 (by simp)) h4, frz_dT ok (no h5 (by simp)) h5, frz_dT ok (no h6 (by simp)) h6⟩, tm d.t0, tm d.t1, d.l0, d.l1⟩
theorem w0_rows {n : Nat} {kvs : List (List Key × V)} {y0 y1 : List V} {r0 r1 : List (List Int)} (ho : OneV kvs r1) : w0 kvs y0 r0 y1 r1 (rng n) = rowsOf n y0 r0 y1 r1 := by
  unfold w0 rowsOf
  congr 1
  funext q
  show (if (valV kvs (kI (compl n q.2))).isSome = true then _ else _) = _
  by_cases g : compl n q.2 ∈ r1
  · rw [if_pos g, ho.2 _ g]
    exact if_pos rfl
  · have : valV kvs (kI (compl n q.2)) = none := valV_not (by rw [ho.1.1, map_kI_mem]; exact g)
    rw [if_neg g, this, if_neg (by simp)]
theorem rows_len {n : Nat} {y0 y1 : List V} {r0 r1 : List (List Int)} (h0 : r0.length ≤ 63) (h1 : r1.length ≤ 63) : (rowsOf n y0 r0 y1 r1).length ≤ 3969 := by
  have hw : ∀ l, (w1 y1 r1 l).length ≤ 63 := fun l => by
    unfold w1
    rw [List.length_map]
    refine Nat.le_trans (List.length_filter_le ..) ?_
    rw [List.length_zip]
    omega
  have key : ∀ zs : List (V × List Int), (zs.flatMap fun q => if compl n q.2 ∈ r1 then (w1 y1 r1 (compl n q.2)).map (q.1 :: ·) else []).length ≤ zs.length * 63 := fun zs => by
    induction zs with
    | nil => exact Nat.le_refl _
    | cons q zs ih =>
      rw [List.flatMap_cons, List.length_append, List.length_cons, Nat.succ_mul]
      have : (if compl n q.2 ∈ r1 then (w1 y1 r1 (compl n q.2)).map (q.1 :: ·) else []).length ≤ 63 := by
        by_cases g : compl n q.2 ∈ r1
        · rw [if_pos g, List.length_map]; exact hw _
        · rw [if_neg g]; exact Nat.zero_le _
      omega
  refine Nat.le_trans (key _) ?_
  rw [List.length_zip]
  have : min y0.length r0.length ≤ 63 := by omega
  omega
theorem ok_lc (T : Fx K mg) : FnOk P w K mg base CX0 6 (He.ga K "list_choices") T.fd_list_choices pLC spLC := by
  have bT : Binds K T.fd_tail_ways ["choices"] [] := T.F_tail_ways.bindsN fun _ _ _ _ _ _ us hl => match us, hl with | [_], _ => rfl
  have bW : Binds K T.fd_walk_choices pW [] := T.F_walk_choices.bindsN fun _ _ _ _ _ _ us hl => match us, hl with | [_, _, _, _], _ => rfl
  refine T.F_list_choices.ok scLC (fun vs H Q E h => ?_) (fun cdv A outer s H vs Q E hr h => ⟨_, PSs.nox (pss_cons (ps_set (i := 3) scLC.nd rfl (Or.inl rfl) (pe_lst pa_nil))
    (pss_cons (ps_forG (i := 4) (most := 5000) (okR := okLC) rfl (gok_walk0 T.F_walk_choices T.n_tuple T.n_len T.g_walk_choices) (fun G L R h1 h2 h3 h4 h5 => ⟨R, by rw [h1]; exact List.mem_cons_of_mem _ List.mem_cons_self, h2, h3, h4, h5⟩) hr rfl T.g_walk_choices T.F_walk_choices.kp bW
      (pa_cons (pv 1) (pa_cons (pe_call (ok_tail T) (hr.mono (by decide)) rfl T.g_tail_ways T.F_tail_ways.kp bT .nil pass0 (pa_cons (pv 1) pa_nil)) (pa_cons (pe_tupRg rfl rfl T.n_tuple (prg_1 rfl T.n_range (pv 0))) (pa_cons pe_int pa_nil))))
      (body_LC T) (by rw [sizeLine_eq]; decide) (fun R σ v ok => ⟨by rw [List.getElem?_set_ne (by decide)]; exact ok.1, by rw [List.getElem?_set_ne (by decide)]; exact ok.2.1, by rw [List.length_set]; exact ok.2.2⟩) rfl)
    (pss_one (ps_ret (pv 3))))), ?_⟩)
  · obtain ⟨_, _, _, _, _, _, _, _, rfl, _⟩ := h
    rfl
  obtain ⟨n, l, t0, t1, y0, y1, r0, r1, rfl, hl, ht0, hy0, h0, hn, ht1, hy1, h63, hr63, hnd, hq⟩ := h
  have sz : sizeLine = 16777216 := sizeLine_eq
  refine ⟨by show 0 ≤ sizeLine; omega, fun R hR => ?_⟩
  have e0 : Ext H (upd H R (.lst [])) := Ext.upd hR
  refine ⟨R, ⟨rfl, rfl, rfl⟩, ?_⟩
  refine ⟨_, rfl, _, rfl, l, t0, t1, y0, y1, r1, rfl, e0 _ _ hl, e0 _ _ ht1, hy1.ext e0, h63, hr63, hnd, fun L H1 d0 d1 kvs hL e1 hL1 hd0 ho hd1 => ?_⟩
  refine ⟨_, rfl, _, rfl, RgOk.of_le (by omega) (by omega) (by omega) (by omega), fun q hq1 => ?_⟩
  rw [rgV_rng]
  have e2 : Ext (upd H R (.lst [])) (upd H1 q (.tup (iV (rng n)))) := e1.trans (Ext.upd hq1)
  have ex := e0.trans e2
  have hR2 : upd H1 q (.tup (iV (rng n))) R = some (.lst []) := e2 _ _ upd_same
  refine ⟨hR2, rowsOf n y0 r0 y1 r1, Nat.le_trans (rows_len h0 h63) (by decide), fun Lf hp hLf hok => ?_, fun ys H' σ' hk hR' hP hlen hsl => ?_⟩
  · have hM : ∀ b ∈ [Lf, R], upd H1 q (.tup (iV (rng n))) b = none ∨ upd H1 q (.tup (iV (rng n))) b = some (.lst []) := fun b hb => by
      rcases List.mem_cons.mp hb with rfl | hb
      · exact .inl hLf
      · rw [List.mem_singleton.mp hb]; exact .inr hR2
    have eq : Ext H1 (upd H1 q (.tup (iV (rng n)))) := Ext.upd hq1
    have d : WD (upd H1 q (.tup (iV (rng n)))) l L kvs y0 r0 y1 r1 := ⟨⟨t0, t1, d0, d1, .inl (ex _ _ hl), .inl (eq _ _ hL1), .inl (ex _ _ ht0), .inl (ex _ _ ht1), .inl (eq _ _ hd0), .inl (eq _ _ hd1)⟩, hy0.ext ex, hy1.ext ex, h0, h63⟩
    refine ⟨l, L, q, kvs, y0, r0, y1, r1, rng n, rfl, d.frzL hok hM, .inl (frz_tup (fun hm => ?_) upd_same), by rw [rng_len]; exact hn, (w0_rows ho).symm⟩
    rcases hM q hm with z | z <;> rw [upd_same] at z <;> cases z
  · refine ⟨_, (hsl 3 (by decide)).trans rfl, ?_⟩
    refine hq R ys H' (fun b u hb => hk b u (fun z => by rw [z, hR] at hb; cases hb) (ex _ _ hb)) hR hR' hP
end
end NA
set_option maxRecDepth 100000
set_option maxHeartbeats 4000000
/-! list_partitions, count_partitions. -/
namespace NA
open PySem PySem.Spec PyProof.Rows L2 GenW
/-! ### the rows as data -/
def dPair (n : Nat) (r : List Int) : PyData := .tuple [.tuple (dI r), .tuple (dI (compl n r))]
def dRows (n : Nat) (rs : List (List Int)) : List PyData := rs.map (dPair n)
theorem w1_none {left : List Int} : ∀ {xs : List V} {rs : List (List Int)}, (∀ r ∈ rs, sub left r ≠ []) → w1 xs rs left = []
  | [], _, _ => rfl
  | _ :: _, [], _ => rfl
  | x :: xs, r :: rs, h => by
    have ih := w1_none (xs := xs) (rs := rs) fun r hr => h r (List.mem_cons_of_mem _ hr)
    unfold w1 at ih ⊢
    rw [List.zip_cons_cons, List.filter_cons_of_neg (by simpa using h r List.mem_cons_self)]
    exact ih
theorem w1_one {H : Hp} {left : List Int} : ∀ {xs : List V} {rs : List (List Int)}, TIs H xs rs → rs.Nodup → left ∈ rs → (∀ r ∈ rs, sub left r = [] ↔ r = left) → ∃ y, w1 xs rs left = [[y]] ∧ TI H y left
  | [], [], _, _, h, _ => by cases h
  | x :: xs, r :: rs, t, nd, h, hs => by
    have nd' := List.nodup_cons.mp nd
    by_cases e : r = left
    · subst e
      refine ⟨x, ?_, t.head⟩
      have h0 : w1 xs rs r = [] := w1_none fun q hq z => nd'.1 (by rw [← (hs q (List.mem_cons_of_mem _ hq)).mp z]; exact hq)
      unfold w1 at h0 ⊢
      rw [List.zip_cons_cons, List.filter_cons_of_pos (by simpa using (hs r List.mem_cons_self).mpr rfl), List.map_cons, h0]
    · obtain ⟨y, hy, ty⟩ := w1_one t.tail nd'.2 ((List.mem_cons.mp h).resolve_left fun z => e z.symm) fun q hq => hs q (List.mem_cons_of_mem _ hq)
      refine ⟨y, ?_, ty⟩
      unfold w1 at hy ⊢
      rw [List.zip_cons_cons, List.filter_cons_of_neg (by simpa using fun z => e ((hs r List.mem_cons_self).mp z))]
      exact hy
  | [], _ :: _, t, _, _, _ => absurd t.1 (by simp)
  | _ :: _, [], t, _, _, _ => absurd t.1 (by simp)
inductive RowsAre (n : Nat) (H : Hp) : List (List V) → List (List Int) → Prop
  | nil : RowsAre n H [] []
  | cons {x y : V} {r : List Int} {sp : List (List V)} {rs : List (List Int)} (hx : TI H x r) (hy : TI H y (compl n r)) (t : RowsAre n H sp rs) : RowsAre n H ([x, y] :: sp) (r :: rs)
theorem rows_are {n : Nat} {H : Hp} {y1 : List V} {r1 : List (List Int)} (t1 : TIs H y1 r1) (nd : r1.Nodup) : ∀ {y0 : List V} {r0 : List (List Int)}, TIs H y0 r0 → (∀ r ∈ r0, ∀ q ∈ r1, sub (compl n r) q = [] ↔ q = compl n r) → RowsAre n H (rowsOf n y0 r0 y1 r1) (r0.filter fun r => decide (compl n r ∈ r1))
  | [], [], _, _ => .nil
  | x :: xs, r :: rs, t, h => by
    have ih := rows_are t1 nd t.tail fun q hq => h q (List.mem_cons_of_mem _ hq)
    unfold rowsOf at ih ⊢
    rw [List.zip_cons_cons, List.flatMap_cons]
    by_cases g : compl n r ∈ r1
    · obtain ⟨y, hy, ty⟩ := w1_one t1 nd g (h r List.mem_cons_self)
      rw [if_pos g, hy, List.filter_cons_of_pos (by simpa using g)]
      exact .cons t.head ty ih
    · rw [if_neg g, List.filter_cons_of_neg (by simpa using g)]
      exact ih
  | [], _ :: _, t, _ => absurd t.1 (by simp)
  | _ :: _, [], t, _ => absurd t.1 (by simp)
theorem dI_ti {K : PySem.W.Frag} {H : Hp} {x : V} {r : List Int} (h : TI H x r) : Dp K H x (.tuple (dI r)) := by
  obtain ⟨t, rfl, ht⟩ := h
  exact .tup (.inl (.inl ht)) (dpI r)
theorem rows_data {K : PySem.W.Frag} {n : Nat} {H : Hp} {spec : List (List V)} {rs : List (List Int)} (h : RowsAre n H spec rs) : ∀ {ys : List V}, PNs spec ys H → DpAll K H ys (dRows n rs) := by
  induction h with
  | nil =>
    intro ys h
    have : ys = [] := List.length_eq_zero_iff.mp h.1
    rw [this]
    exact .nil
  | @cons x y r sp rs hx hy t ih =>
    intro ys h
    obtain ⟨h1, _, h2⟩ := h
    match ys, h1, h2 with
    | z :: zs, h1, h2 =>
      obtain ⟨a, s, rfl, e, ha⟩ := h2 0 z rfl
      cases e
      have hl : zs.length = sp.length := by simpa using h1
      refine .cons (.tup (.inl (.inl ha)) (.cons (dI_ti hx) (.cons (dI_ti hy) .nil))) (ih ⟨hl, Nat.le_of_eq hl, fun j x e => ?_⟩)
      exact h2 (j + 1) x e
theorem srt_comb {n k : Nat} {r : List Int} (h : r ∈ combs (rng n) k) : srt r = r := (srt_of (.refl r) ((comb_pair h).imp fun h => by omega)).symm
theorem comb_len {n k : Nat} {r : List Int} (h : r ∈ combs (rng n) k) : r.length = k := (mem_combs.mp h).2
theorem comb_compl {n k k2 : Nat} (hk : k + k2 = n) {r : List Int} (h : r ∈ combs (rng n) k) : compl n r ∈ combs (rng n) k2 := by
  obtain ⟨h1, h2⟩ := mem_combs.mp h
  refine mem_combs.mpr ⟨compl_sub n r, ?_⟩
  have := compl_len (n := n) ((comb_pair h).imp fun h => by omega) fun p hp => h1.subset hp
  omega
theorem sub_nil {n k : Nat} {l q : List Int} (hl : l ∈ combs (rng n) k) (hq : q ∈ combs (rng n) k) : sub l q = [] ↔ q = l := by
  constructor
  · intro h
    have hs : ∀ p ∈ l, p ∈ q := fun p hp => Classical.byContradiction fun z => by
      have : p ∈ sub l q := List.mem_filter.mpr ⟨hp, by rw [decide_eq_false z]; rfl⟩
      rw [h] at this
      cases this
    exact ((sorted_sub (comb_pair hl) (comb_pair hq) hs).eq_of_length ((comb_len hl).trans (comb_len hq).symm)).symm
  · rintro rfl
    refine List.filter_eq_nil_iff.mpr fun p hp z => ?_
    rw [decide_eq_true hp] at z
    cases z
theorem few_len {n k : Nat} {rs : List (List Int)} (f : FewB n k rs) : rs.length ≤ 35 := by
  obtain ⟨hn, _, hc, nd⟩ := f
  have h1 := nodup_lenT nd hc
  have h2 := combs_len (rng n) k (by rw [rng_len]; exact hn)
  omega
section
variable {P : Program} {w : World} {K : PySem.W.Frag} {mg : Str → Option Value} {base : Heap}
theorem fam_ext {H H' : Hp} {y x x2 t : Addr} {n : Nat} (h : FamAt K H y x x2 t n) (e : Ext H H') : FamAt K H' y x x2 t n := by
  obtain ⟨⟨dy, h1⟩, h2⟩ := h
  exact ⟨⟨dy, e _ _ h1⟩, e _ _ h2⟩
/-! ### [book.rooms for book in family] -/
def tBooks (K : PySem.W.Frag) (v : Nat) : TE := tLc (iOwnT K (cF K) "books" (tVar 0)) (gName v) tYes (tFld K (tVar v) "rooms") [v]
theorem books_read (T : Fx K mg) {v : Nat} {σ : L2.St} {H : Hp} {Q : VK} {y x x2 t : Addr} {n k k2 : Nat} {rs qs : List (List Int)} (h0 : σ[0]? = some (some (.ref y))) (hf : FamAt K H y x x2 t n) (hb : BookAt K H x n k rs) (hb2 : BookAt K H x2 n k2 qs) (hv : v < σ.length) (hv0 : v ≠ 0)
    (hq : ∀ D t0 t1 y0 y1, H D = none → H t0 = some (.tup y0) → TIs H y0 rs → H t1 = some (.tup y1) → TIs H y1 qs → Q (.ref D) (upd H D (.lst [.ref t0, .ref t1]))) : tBooks K v σ H Q := by
  obtain ⟨⟨dy, hy⟩, ht⟩ := hf
  obtain ⟨d0, t0, y0, g0, g0', g0''⟩ := hb
  obtain ⟨d1, t1, y1, g1, g1', g1''⟩ := hb2
  have sz : sizeLine = 16777216 := sizeLine_eq
  refine ⟨_, h0, y, dy, _, t, [.ref x, .ref x2], rfl, hy, rfl, .inl (.inl ht), fun D hD => ?_⟩
  have hw : (wipe σ [v]) = σ.set v none := rfl
  have st : ∀ a : Addr, ((σ.set v none).set v (some (V.ref a)))[v]? = some (some (.ref a)) := fun a => by rw [List.set_set, List.getElem?_set_self hv]
  have ww : ∀ a : Addr, wipe ((σ.set v none).set v (some (V.ref a))) [v] = σ.set v none := fun a => by
    show (((σ.set v none).set v (some (V.ref a))).set v none) = _
    rw [List.set_set, List.set_set]
  refine lc_tup (xs := [.ref x, .ref x2]) (fun i H' => H' = upd H D (.lst ([V.ref t0, V.ref t1].take i))) rfl (fun i H' _ e => by rw [e]; exact .inl (.inl ((Ext.upd hD) _ _ ht))) (fun i z H' hz e => ?_) fun H' e => ?_
  · subst e
    rw [hw]
    match i, hz with
    | 0, hz =>
      cases hz
      refine ⟨ww x, ⟨_, st x, x, _, d0, _, _, rfl, (Ext.upd hD) _ _ g0, T.c_Book, T.na_Book_rooms, rfl, _, upd_same, by show 0 < sizeLine; omega, ?_⟩⟩
      rw [upd_upd]
      rfl
    | 1, hz =>
      cases hz
      refine ⟨ww x2, ⟨_, st x2, x2, _, d1, _, _, rfl, (Ext.upd hD) _ _ g1, T.c_Book, T.na_Book_rooms, rfl, _, upd_same, by show 1 < sizeLine; omega, ?_⟩⟩
      rw [upd_upd]
      rfl
    | j + 2, hz => cases hz
  · rw [e]
    exact hq D t0 t1 y0 y1 hD g0' g0'' g1' g1''
def nLP : List Str := ["family", "most", "book"]
theorem scLP : FnScope nLP ["family", "most"] (defScope sListPart) := ⟨rfl, rfl, rfl, by decide +kernel, rfl, by decide +kernel, by decide +kernel⟩
def FamOk (K : PySem.W.Frag) (H : Hp) (y x x2 t : Addr) (n k k2 : Nat) (rs qs : List (List Int)) : Prop := FamAt K H y x x2 t n ∧ BookAt K H x n k rs ∧ BookAt K H x2 n k2 qs ∧ FewB n k rs ∧ FewB n k2 qs ∧ k + k2 = n
def spLP (K : PySem.W.Frag) : Sp := fun vs H Q _ => ∃ (y x x2 t : Addr) (n k k2 : Nat) (rs qs : List (List Int)), vs = [.ref y, .int 5000] ∧ FamOk K H y x x2 t n k k2 rs qs ∧
  ∀ R ys H', Ext H H' → H R = none → H' R = some (.lst ys) → DpAll K H' ys (dRows n (rs.filter fun r => decide (compl n r ∈ qs))) → Q (.ref R) H'
theorem ok_lp (T : Fx K mg) (Z : Fz K mg) : FnOk P w K mg base CX0 7 (He.ga K "list_partitions") T.fd_list_partitions ["family", "most"] (spLP K) := by
  have bL : Binds K T.fd_list_choices pLC [] := T.F_list_choices.bindsN fun _ _ _ _ _ _ us hl => match us, hl with | [_, _, _], _ => rfl
  refine T.F_list_partitions.ok scLP (fun vs H Q E h => ?_) (fun cdv A outer s H vs Q E hr h => ⟨_, PSs.nox (pss_one (ps_ret (pe_call (ok_lc T) hr rfl T.g_list_choices T.F_list_choices.kp bL .nil pass0 (pa_cons (pe_fld (pv 0) rfl) (pa_cons (show PE _ _ (tBooks K 2) from pe_lc (own := [("book", 2)]) (g := gName 2) (wi := iOwnT K (cF K) "books" (tVar 0)) (tt := tYes) (te := tFld K (tVar 2) "rooms") rfl scLP.nd (pi_own (it_F T Z) (hr.mono (by decide)) (pv 0)) (blkOk_by (N := nLP) (sc := defScope sListPart) (by decide +kernel)) (fun _ _ _ _ _ => pg_name (i := 2) scLP.nd rfl (Or.inl rfl)) (fun _ _ _ _ _ => pts_nil) (fun _ _ _ _ _ => pe_fld (pv 2) rfl)) (pa_cons (pv 1) pa_nil)))))), ?_⟩)
  · obtain ⟨_, _, _, _, _, _, _, _, _, rfl, _⟩ := h
    rfl
  obtain ⟨y, x, x2, t, n, k, k2, rs, qs, rfl, ⟨hf, hb, hb2, f1, f2, hk⟩, hq⟩ := h
  obtain ⟨dy, hy⟩ := hf.1
  refine ⟨_, rfl, y, _, dy, _, _, rfl, hy, T.c_Family, T.na_Family_places, rfl, books_read T rfl hf hb hb2 (by show 2 < 3; decide) (by decide) fun D t0 t1 y0 y1 hD g0 g0' g1 g1' => ?_⟩
  have e1 : Ext H (upd H D (.lst [.ref t0, .ref t1])) := Ext.upd hD
  have l1 := few_len f1
  have l2 := few_len f2
  refine ⟨_, rfl, n, D, t0, t1, y0, y1, rs, qs, rfl, upd_same, e1 _ _ g0, g0'.ext e1, by omega, by have := f1.1; omega, e1 _ _ g1, g1'.ext e1, by omega, fun r hr => ?_, f2.2.2.2, fun R ys H' e2 hR hR' hP => ?_⟩
  · have hc := f2.2.2.1 r hr
    have := comb_len hc
    have := f2.1
    have := (mem_combs.mp hc).1.length_le
    rw [rng_len] at this
    exact ⟨by omega, srt_comb hc⟩
  · have ex := e1.trans e2
    refine hq R ys H' ex ?_ hR' (rows_data (rows_are (g1'.ext ex) f2.2.2.2 (g0'.ext ex) fun r hr q hq => sub_nil (comb_compl hk (f1.2.2.1 r hr)) (f2.2.2.1 q hq)) hP)
    cases z : H R with
    | none => rfl
    | some u => rw [e1 _ _ z] at hR; cases hR
def nCP : List Str := ["family", "book"]
theorem scCP : FnScope nCP ["family"] (defScope sCountPart) := ⟨rfl, rfl, rfl, by decide +kernel, rfl, by decide +kernel, by decide +kernel⟩
def spCP (K : PySem.W.Frag) : Sp := fun vs H Q _ => ∃ (y x x2 t : Addr) (n k k2 : Nat) (rs qs : List (List Int)), vs = [.ref y] ∧ FamOk K H y x x2 t n k k2 rs qs ∧
  ∀ H', Ext H H' → Q (.int (cntC n rs qs : Nat)) H'
theorem ok_cp (T : Fx K mg) (Z : Fz K mg) : FnOk P w K mg base CX0 5 (He.ga K "count_partitions") T.fd_count_partitions ["family"] (spCP K) := by
  have bL : Binds K T.fd_count_choices ["places", "choices"] [] := T.F_count_choices.bindsN fun _ _ _ _ _ _ us hl => match us, hl with | [_, _], _ => rfl
  refine T.F_count_partitions.ok scCP (fun vs H Q E h => ?_) (fun cdv A outer s H vs Q E hr h => ⟨_, PSs.nox (pss_one (ps_ret (pe_call (ok_cc T) hr rfl T.g_count_choices T.F_count_choices.kp bL .nil pass0 (pa_cons (pe_fld (pv 0) rfl) (pa_cons (show PE _ _ (tBooks K 1) from pe_lc (own := [("book", 1)]) (g := gName 1) (wi := iOwnT K (cF K) "books" (tVar 0)) (tt := tYes) (te := tFld K (tVar 1) "rooms") rfl scCP.nd (pi_own (it_F T Z) (hr.mono (by decide)) (pv 0)) (blkOk_by (N := nCP) (sc := defScope sCountPart) (by decide +kernel)) (fun _ _ _ _ _ => pg_name (i := 1) scCP.nd rfl (Or.inl rfl)) (fun _ _ _ _ _ => pts_nil) (fun _ _ _ _ _ => pe_fld (pv 1) rfl)) pa_nil))))), ?_⟩)
  · obtain ⟨_, _, _, _, _, _, _, _, _, rfl, _⟩ := h
    rfl
  obtain ⟨y, x, x2, t, n, k, k2, rs, qs, rfl, ⟨hf, hb, hb2, f1, f2, hk⟩, hq⟩ := h
  obtain ⟨dy, hy⟩ := hf.1
  refine ⟨_, rfl, y, _, dy, _, _, rfl, hy, T.c_Family, T.na_Family_places, rfl, books_read T rfl hf hb hb2 (by show 1 < 2; decide) (by decide) fun D t0 t1 y0 y1 hD g0 g0' g1 g1' => ?_⟩
  have e1 : Ext H (upd H D (.lst [.ref t0, .ref t1])) := Ext.upd hD
  have l1 := few_len f1
  have l2 := few_len f2
  refine ⟨n, D, t0, t1, y0, y1, rs, qs, rfl, upd_same, e1 _ _ g0, g0'.ext e1, by omega, by have := f1.1; omega, e1 _ _ g1, g1'.ext e1, by omega, fun r hr => ?_, f2.2.2.2, fun H' e2 => hq H' (e1.trans e2)⟩
  have hc := f2.2.2.1 r hr
  have := f2.1
  have := (mem_combs.mp hc).1.length_le
  rw [rng_len] at this
  exact ⟨by omega, srt_comb hc⟩
end
end NA
set_option maxRecDepth 100000
set_option maxHeartbeats 4000000
/-! _law_book. -/
namespace NA
open PySem PySem.Spec PyProof.Rows L2
theorem dok_I {m : Nat} {r : List Int} (h : r.length ≤ 1000) : DOk (m + 1) (.tuple (dI r)) := .tup m _ (by unfold dI; rw [List.length_map]; exact h) fun d hd => by
  obtain ⟨i, _, rfl⟩ := List.mem_map.mp hd
  exact .int m i
theorem dok_T {m : Nat} {rs : List (List Int)} (h : rs.length ≤ 1000) (h2 : ∀ r ∈ rs, r.length ≤ 1000) : DOk (m + 2) (.tuple (dT rs)) := .tup (m + 1) _ (by unfold dT; rw [List.length_map]; exact h) fun d hd => by
  obtain ⟨r, hr, rfl⟩ := List.mem_map.mp hd
  exact dok_I (h2 r hr)
theorem dok_TL {m : Nat} {rs : List (List Int)} (h : rs.length ≤ 1000) (h2 : ∀ r ∈ rs, r.length ≤ 1000) : DOk (m + 2) (.list (dT rs)) := .lst (m + 1) _ (by unfold dT; rw [List.length_map]; exact h) fun d hd => by
  obtain ⟨r, hr, rfl⟩ := List.mem_map.mp hd
  exact dok_I (h2 r hr)
theorem dok_R {n : Nat} {rs : List (List Int)} (h : rs.length ≤ 1000) (h2 : ∀ r ∈ rs, r.length ≤ 1000) (hn : n ≤ 1000) : DOk 3 (.list (dRows n rs)) := .lst 2 _ (by unfold dRows; rw [List.length_map]; exact h) fun d hd => by
  obtain ⟨r, hr, rfl⟩ := List.mem_map.mp hd
  refine .tup 1 _ (by show 2 ≤ 1000; decide) fun d hd => ?_
  rcases List.mem_cons.mp hd with rfl | hd
  · exact dok_I (h2 r hr)
  · rw [List.mem_singleton.mp hd]
    refine dok_I ?_
    have := (compl_sub n r).length_le
    rw [rng_len] at this
    omega
section
variable {P : Program} {w : World} {K : PySem.W.Frag} {mg : Str → Option Value} {base : Heap}
theorem isON_read {σ : L2.St} {H : Hp} {i : Nat} {a C dx : Addr} {fs : List (Str × V)} {u : TT} {Q : Bool → Hp → Prop} (hx : σ[i]? = some (some (.ref a))) (I : InsC K C) (c : Cls K C) (h : H a = some (.ins C dx fs)) (hq : u σ H Q) : tOr (tNot (tB (tCB (rIsi K) (tCons (tVar i) (tCons (tC (.ref C)) tNil))))) u σ H Q :=
  ⟨_, hx, _, _, _, _, true, rfl, .own C, ty_own I c h, if_pos (beq_self_eq_true _), true, rfl, hq⟩
def nLBk : List Str := ["_law_book_here", "_law_n", "_law_size", "_law_rooms_here"]
theorem scLBk : FnScope nLBk nLBk (defScope sLBook) := ⟨rfl, rfl, rfl, by decide +kernel, rfl, by decide +kernel, by decide +kernel⟩
def spLBk (K : PySem.W.Frag) : Sp := fun vs H Q _ => ∃ (x a : Addr) (n k : Nat) (xs : List V) (rs : List (List Int)), vs = [.ref x, .int (n : Int), .int (k : Int), .ref a] ∧ BookAt K H x n k rs ∧ H a = some (.lst xs) ∧ TIs H xs rs ∧ rs.length ≤ 1000 ∧ (∀ r ∈ rs, r.length ≤ 1000) ∧ ∀ H', Ext H H' → Q (.bl true) H'
theorem ok_lbook (T : Fx K mg) (Z : Fz K mg) : FnOk P w K mg base CX0 6 (He.ga K "_law_book") T.fd_law_book nLBk (spLBk K) := by
  have bS : Binds K T.fd_law_same ["_law_actual", "_law_due_here"] [] := T.F_law_same.bindsN fun _ _ _ _ _ _ us hl => match us, hl with | [_, _], _ => rfl
  refine T.F_law_book.ok scLBk (fun vs H Q E h => ?_) (fun cdv A outer s H vs Q E hr h => ⟨_, PSs.nox (pss_cons (ps_if (PW.pt (pw_or (pt_not (pt_val (pe_callB call_isi (by rfl) T.n_isinstance (by decide +kernel) (pa_cons (pv 0) (pa_cons (pe_glob (v := .ref (cB K)) rfl T.g_Book rfl) pa_nil)))))
      (pw_or (pt_not (pt_val (pe_call (ok_same T 3) hr rfl T.g_law_same T.F_law_same.kp bS .nil pass0 (pa_cons (pe_fld (pv 0) rfl) (pa_cons (pv 1) pa_nil)))))
      (pw_or1 (pt_not (pt_val (pe_call (ok_same T 3) hr rfl T.g_law_same T.F_law_same.kp bS .nil pass0 (pa_cons (pe_fld (pv 0) rfl) (pa_cons (pv 2) pa_nil))))))))) (pss_one (ps_ret pe_bl)) pss_nil)
    (pss_one (ps_ret (pe_call (ok_same T 3) hr rfl T.g_law_same T.F_law_same.kp bS .nil pass0 (pa_cons (pe_fld (pv 0) rfl) (pa_cons (pe_callTy call_tuple_of (by rfl) T.n_tuple (by decide +kernel) (pa_cons (pv 3) pa_nil)) pa_nil)))))), ?_⟩)
  · obtain ⟨_, _, _, _, _, _, rfl, _⟩ := h
    rfl
  obtain ⟨x, a, n, k, xs, rs, rfl, ⟨dx, t, ys, hx, ht, tx⟩, ha, tr, hl, hl2, hq⟩ := h
  refine isON_read rfl Z.insB T.c_Book hx ?_
  refine ⟨_, rfl, x, _, dx, _, _, rfl, hx, T.c_Book, T.na_Book_places, rfl, _, rfl, _, _, .int (n : Int), rfl, .int _, .int _, .int 3 _, _, rfl, ?_⟩
  refine ⟨_, rfl, x, _, dx, _, _, rfl, hx, T.c_Book, T.na_Book_size, rfl, _, rfl, _, _, .int (k : Int), rfl, .int _, .int _, .int 3 _, _, rfl, ?_⟩
  refine iteF ?_
  refine ⟨_, rfl, x, _, dx, _, _, rfl, hx, T.c_Book, T.na_Book_rooms, rfl, _, rfl, a, xs, rfl, .inl ⟨.inl (.inl ha), fun q hq1 => ?_⟩⟩
  have ex : Ext H (upd H q (.tup xs)) := Ext.upd hq1
  exact ⟨_, _, .tuple (dT rs), rfl, .tup (.inl (.inl (ex _ _ ht))) (dpT (tx.ext ex)), .tup (.inl (.inl upd_same)) (dpT (tr.ext ex)), dok_T hl hl2, hq _ ex⟩
theorem b_lp (T : Fx K mg) : ∃ ds, Vals [.int 5000] ds ∧ Binds K T.fd_list_partitions ["family", "most"] ds :=
  T.F_list_partitions.binds0 1 (by simp) rfl fun D doc pm an cdv ct us ks hl hk => match us, ks, hl, hk with | [_], [_], _, _ => ⟨_, _, _, _, _, _, rfl, rfl, rfl⟩
end
end NA
set_option maxRecDepth 100000
set_option maxHeartbeats 4000000
/-! _law_spoilt. -/
namespace NA
open PySem PySem.Spec PyProof.Rows L2
theorem cut_iV (ls : List Int) (lo hi : Option Int) : ∃ qs : List Int, cutV (iV ls) lo hi = iV qs ∧ qs.length ≤ ls.length := by
  unfold cutV iV
  refine ⟨_, (by rw [← List.map_drop, ← List.map_take] : _ = List.map V.int ((ls.drop _).take _)), ?_⟩
  rw [List.length_take, List.length_drop]
  omega
section
variable {P : Program} {w : World} {K : PySem.W.Frag} {mg : Str → Option Value} {base : Heap}
def nSp : List Str := ["_law_script", "_law_labels_here", "_law_size", "_law_choice", "_law_far", "_law_spoilt_here", "_law_one", "_law_k", "_law_at", "_law_label"]
def pSp : List Str := ["_law_script", "_law_labels_here", "_law_size"]
theorem scSp : FnScope nSp pSp (defScope sSpoilt) := ⟨rfl, rfl, rfl, by decide +kernel, rfl, by decide +kernel, by decide +kernel⟩
def spSp (K : PySem.W.Frag) : Sp := fun vs H Q _ => ∃ (a l : Addr) (ns ls : List Int) (n s : Nat), vs = [.ref a, .ref l, .int (s : Int)] ∧ SqL K H a (iV ns) ∧ ns.length ≤ 63 ∧ H l = some (.lst (iV ls)) ∧ LabIn n s ls ∧ 2 ≤ n ∧ n ≤ 7 ∧ 1 ≤ s ∧ s ≤ 7 ∧
  ∀ p qs H', Ext H H' → H p = none → H' p = some (.lst (iV qs)) → qs.length ≤ 9 → Q (.ref p) H'
def tSwap (K : PySem.W.Frag) : TE := tOp (rIxL K) (tLst (tCons (tVar 9) (tCons (tOp (rI0 fun i j => .int (i + j)) (tC (.int 1)) (tOp (rI (fun _ j => 0 < j) fun i j => .int (i % j)) (tCB rInt1 (tCons (tVar 6) tNil)) (tVar 2))) tNil))) (tCB rInt1 (tCons (tOp rEq (tVar 9) (tVar 6)) tNil))
theorem ok_sp (T : Fx K mg) : FnOk P w K mg base CX0 2 (He.ga K "_law_spoilt") T.fd_law_spoilt pSp (spSp K) := by
  have bC : Binds K T.fd_law_cell ["_law_script", "_law_k"] [] := T.F_law_cell.bindsN fun _ _ _ _ _ _ us hl => match us, hl with | [_, _], _ => rfl
  refine T.F_law_spoilt.ok scSp (fun vs H Q E h => ?_) (fun cdv A outer s H vs Q E hr h => ⟨_, PSs.nox (pss_cons (ps_set (i := 3) scSp.nd rfl (Or.inl rfl) (pe_op op_mod (pe_callTy call_int1 (by rfl) T.n_int (by decide +kernel) (pa_cons (pe_op op_fdiv (pe_call (ok_cell T) hr rfl T.g_law_cell T.F_law_cell.kp bC .nil pass0 (pa_cons (pv 0) (pa_cons pe_int pa_nil))) pe_int) pa_nil)) pe_int))
    (pss_cons (ps_set (i := 4) scSp.nd rfl (Or.inl rfl) (pe_op op_add pe_int (pe_op op_mod (pe_callTy call_int1 (by rfl) T.n_int (by decide +kernel) (pa_cons (pe_call (ok_cell T) hr rfl T.g_law_cell T.F_law_cell.kp bC .nil pass0 (pa_cons (pv 0) (pa_cons pe_int pa_nil))) pa_nil)) (pe_op op_pow pe_int pe_int))))
    (pss_cons (ps_set (i := 5) scSp.nd rfl (Or.inl rfl) (pe_callTy call_list_of (by rfl) T.n_list (by decide +kernel) (pa_cons (pv 1) pa_nil)))
    (pss_cons (ps_if (pt_cmpR op_eq (pv 3) pe_int (nomark _)) (pss_one (ps_ret (pe_slice sl_list (pv 5) po_none (po_some (pe_un un_neg pe_int))))) pss_nil)
    (pss_cons (ps_if (pt_cmpR op_eq (pv 3) pe_int (nomark _)) (pss_one (ps_ret (pe_op op_cat (pv 5) (pe_lst (pa_cons (pe_op op_add pe_int (pe_op op_mod (pe_callTy call_int1 (by rfl) T.n_int (by decide +kernel) (pa_cons (pv 4) pa_nil)) (pv 2))) pa_nil))))) pss_nil)
    (pss_cons (ps_if (pt_cmpR op_eq (pv 3) pe_int (nomark _)) (pss_one (ps_ret (pe_op op_cat (pv 5) (pe_lst (pa_cons pe_int (pa_cons pe_int pa_nil)))))) pss_nil)
    (pss_cons (ps_if (pt_cmpR op_eq (pv 3) pe_int (nomark _)) (pss_one (ps_ret (pe_op op_cat (pe_slice sl_list (pv 5) po_none (po_some (pe_un un_neg pe_int))) (pe_lst (pa_cons (pe_op op_add (pv 2) pe_int) pa_nil))))) pss_nil)
    (pss_cons (ps_if (pt_cmpR op_lt (pv 3) pe_int (nomark _))
      (pss_cons (ps_set (i := 6) scSp.nd rfl (Or.inr rfl) (pe_op op_add pe_int (pe_op op_mod (pe_callTy call_int1 (by rfl) T.n_int (by decide +kernel) (pa_cons (pe_call (ok_cell T) hr rfl T.g_law_cell T.F_law_cell.kp bC .nil pass0 (pa_cons (pv 0) (pa_cons pe_int pa_nil))) pa_nil)) (pv 2))))
      (pss_one (ps_ret (pe_lc (own := [("_law_label", 9)]) (g := gName 9) (wi := iList K (tVar 5)) (tt := tYes) (te := tSwap K) rfl scSp.nd (pi_list (pv 5)) (blkOk_by (N := nSp) (sc := defScope sSpoilt) (by decide +kernel)) (fun _ _ _ _ _ => pg_name (i := 9) scSp.nd rfl (Or.inl rfl)) (fun _ _ _ _ _ => pts_nil)
        (fun _ _ _ _ _ => pe_ix ix_list (pe_lst (pa_cons (pv 9) (pa_cons (pe_op op_add pe_int (pe_op op_mod (pe_callTy call_int1 (by rfl) T.n_int (by decide +kernel) (pa_cons (pv 6) pa_nil)) (pv 2))) pa_nil))) (pe_callTy call_int1 (by rfl) T.n_int (by decide +kernel) (pa_cons (pe_cmpR op_eq (pv 9) (pv 6) (nomark _)) pa_nil)) (fun _ _ => rfl)))))) pss_nil)
    (pss_cons (ps_if (pt_cmpR op_lt (pv 3) pe_int (nomark _))
      (pss_one (ps_for PassesOwn.never rfl (pi_range1 rfl T.n_range (pa_cons (pe_op op_sub (pv 3) pe_int) pa_nil)) (pg_name (i := 7) scSp.nd rfl (Or.inl rfl))
        (pss_cons (ps_set (i := 8) scSp.nd rfl (Or.inl rfl) (pe_op op_mod (pe_callTy call_int1 (by rfl) T.n_int (by decide +kernel) (pa_cons (pe_call (ok_cell T) hr rfl T.g_law_cell T.F_law_cell.kp bC .nil pass0 (pa_cons (pv 0) (pa_cons (pe_op op_add pe_int (pv 7)) pa_nil))) pa_nil)) (pe_callB call_len_seq (by rfl) T.n_len PySem.boot_len (pa_cons (pv 5) pa_nil))))
        (pss_one (ps_asg (pe_ix ix_list (pe_lst (pa_cons pe_int (pa_cons (pe_op op_add (pv 2) pe_int) (pa_cons (pe_un un_neg (pv 4)) (pa_cons (pe_op op_add (pv 2) (pv 4)) pa_nil))))) (pe_op op_mod (pe_callTy call_int1 (by rfl) T.n_int (by decide +kernel) (pa_cons (pe_op op_fdiv (pe_call (ok_cell T) hr rfl T.g_law_cell T.F_law_cell.kp bC .nil pass0 (pa_cons (pv 0) (pa_cons (pe_op op_add pe_int (pv 7)) pa_nil))) pe_int) pa_nil)) pe_int) (fun _ _ => rfl)) (pg_sub (pv 5) (pv 8) set_list)))))) pss_nil)
    (pss_one (ps_ret (pv 5)))))))))))), ?_⟩)
  · obtain ⟨_, _, _, _, _, _, rfl, _⟩ := h
    rfl
  obtain ⟨a, l, ns, ls, n, s, rfl, ha, hns, hl, ⟨hl1, hl2⟩, hn2, hn7, hs1, hs7, hq⟩ := h
  have sz : sizeLine = 16777216 := sizeLine_eq
  refine ⟨_, rfl, a, ns, 6, rfl, ha, hns, by decide, fun c6 => ?_⟩
  refine ⟨c6, 64, rfl, rfl, ⟨by decide, by decide⟩, .inl ⟨_, rfl, _, _, rfl, rfl, by show (0 : Int) < 16; decide, ?_⟩⟩
  generalize hch : (fun (i j : Int) => V.int (i % j)) (c6 / 64) 16 = cv
  obtain ⟨ch, rfl⟩ : ∃ ch, cv = V.int ch := ⟨_, hch.symm⟩
  refine ⟨_, rfl, a, ns, 7, rfl, ha, hns, by decide, fun c7 => .inl ⟨_, rfl, ?_⟩⟩
  refine ⟨_, _, rfl, rfl, ⟨by decide, by decide, by decide⟩, _, _, rfl, rfl, by show (0 : Int) < 10 ^ Int.toNat 20; decide, _, _, rfl, rfl, ?_⟩
  generalize hfar : (fun (i j : Int) => V.int (i + j)) 1 (c7 % 10 ^ Int.toNat 20) = fv
  obtain ⟨far, rfl⟩ : ∃ far, fv = V.int far := ⟨_, hfar.symm⟩
  refine ⟨_, rfl, l, iV ls, rfl, .inl (.inl (.inl hl)), fun S hS => ?_⟩
  have e1 : Ext H (upd H S (.lst (iV ls))) := Ext.upd hS
  have hS1 : upd H S (.lst (iV ls)) S = some (.lst (iV ls)) := upd_same
  generalize hH1 : upd H S (.lst (iV ls)) = H1 at e1 hS1
  have new : ∀ {p : Addr}, H1 p = none → H p = none := fun {p} hp => by
    cases z : H p with
    | none => rfl
    | some u => rw [e1 _ _ z] at hp; cases hp
  have fin : ∀ (p : Addr) (H' : Hp) (qs : List Int), Ext H1 H' → H' p = none → qs.length ≤ 9 → Q (.ref p) (upd H' p (.lst (iV qs))) := fun p H' qs ex hp hz => by
    have hpH : H p = none := by
      cases z : H p with
      | none => rfl
      | some u => rw [(e1.trans ex) _ _ z] at hp; cases hp
    exact hq p qs _ ((e1.trans ex).trans (Ext.upd hp)) hpH upd_same hz
  have posS : ∀ i : Int, 0 ≤ i % (s : Int) ∧ i % (s : Int) < (s : Int) := fun i => ⟨Int.emod_nonneg _ (by omega), Int.emod_lt_of_pos _ (by omega)⟩
  refine ⟨_, rfl, rfl, _, rfl, ite2 (fun _ => ?_) fun _ => ?_⟩
  · refine ⟨_, rfl, _, rfl, _, rfl, S, iV ls, rfl, .inl (.inl hS1), fun p hp => ?_⟩
    obtain ⟨qs, e, hz⟩ := cut_iV ls none (some (-1))
    rw [e]
    exact fin p H1 qs (Ext.refl _) hp (by omega)
  refine ⟨_, rfl, rfl, _, rfl, ite2 (fun _ => ?_) fun _ => ?_⟩
  · refine ⟨_, rfl, _, rfl, .inl ⟨far, rfl, _, rfl, _, _, rfl, rfl, by show (0 : Int) < (s : Int); omega, _, _, rfl, rfl, by show 1 ≤ sizeLine; omega, fun p hp => ?_⟩⟩
    have e2 : Ext H1 (upd H1 p (.lst (iV [1 + far % (s : Int)]))) := Ext.upd hp
    refine ⟨S, p, iV ls, iV [1 + far % (s : Int)], rfl, rfl, e2 _ _ hS1, upd_same, by rw [iV_len]; show ls.length + 1 ≤ sizeLine; omega, fun q hq2 => ?_⟩
    rw [iV_append]
    exact fin q _ _ e2 hq2 (by rw [List.length_append]; show ls.length + 1 ≤ 9; omega)
  refine ⟨_, rfl, rfl, _, rfl, ite2 (fun _ => ?_) fun _ => ?_⟩
  · refine ⟨_, rfl, by show 2 ≤ sizeLine; omega, fun p hp => ?_⟩
    have e2 : Ext H1 (upd H1 p (.lst (iV [0, 1]))) := Ext.upd hp
    refine ⟨S, p, iV ls, iV [0, 1], rfl, rfl, e2 _ _ hS1, upd_same, by rw [iV_len]; show ls.length + 2 ≤ sizeLine; omega, fun q hq2 => ?_⟩
    rw [iV_append]
    exact fin q _ _ e2 hq2 (by rw [List.length_append]; show ls.length + 2 ≤ 9; omega)
  refine ⟨_, rfl, rfl, _, rfl, ite2 (fun _ => ?_) fun _ => ?_⟩
  · refine ⟨_, rfl, _, rfl, _, rfl, S, iV ls, rfl, .inl (.inl hS1), fun p hp => ?_⟩
    obtain ⟨qs, e, hz⟩ := cut_iV ls none (some (-2))
    rw [e]
    have e2 : Ext H1 (upd H1 p (.lst (iV qs))) := Ext.upd hp
    refine ⟨_, rfl, _, _, rfl, rfl, by show 1 ≤ sizeLine; omega, fun p2 hp2 => ?_⟩
    have e3 := e2.trans (Ext.upd (u := .lst (iV [(s : Int) + 1])) hp2)
    refine ⟨p, p2, iV qs, iV [(s : Int) + 1], rfl, rfl, (Ext.upd hp2) _ _ upd_same, upd_same, by rw [iV_len]; show qs.length + 1 ≤ sizeLine; omega, fun q hq2 => ?_⟩
    rw [iV_append]
    exact fin q _ _ e3 hq2 (by rw [List.length_append]; show qs.length + 1 ≤ 9; omega)
  refine ⟨_, rfl, _, _, rfl, rfl, _, rfl, ite2 (fun _ => ?_) fun h6 => ?_⟩
  · refine ⟨_, rfl, a, ns, 8, rfl, sqL_ext ha e1, hns, by decide, fun c8 => .inl ⟨_, rfl, _, rfl, _, _, rfl, rfl, by show (0 : Int) < (s : Int); omega, _, _, rfl, rfl, ?_⟩⟩
    refine ⟨_, rfl, S, rfl, ⟨_, .inl (.inl hS1)⟩, fun D hD => ?_⟩
    generalize hone : (fun (i j : Int) => V.int (i + j)) 1 (c8 % (s : Int)) = ov
    obtain ⟨one, rfl⟩ : ∃ one, ov = V.int one := ⟨_, hone.symm⟩
    refine lc_list (xs := iV ls) (fun i H' => Ext H1 H' ∧ ∃ qs, H' D = some (.lst (iV qs)) ∧ qs.length = i) ⟨Ext.upd hD, [], upd_same, rfl⟩ (fun i H' _ z => .inl (.inl (z.1 _ _ hS1))) (fun i v H' hv z => ?_) fun H' z => ?_
    · obtain ⟨ex, qs, hD', hlen⟩ := z
      obtain ⟨m, hm, rfl⟩ := iV_get hv
      have hi : i < ls.length := (List.getElem?_eq_some_iff.mp hm).1
      refine ⟨rfl, ?_⟩
      refine ⟨_, rfl, _, rfl, .inl ⟨_, rfl, _, rfl, _, _, rfl, rfl, by show (0 : Int) < (s : Int); omega, _, _, rfl, rfl, by show 2 ≤ sizeLine; omega, fun p hp => ?_⟩⟩
      have e2 : Ext H' (upd H' p (.lst (iV [m, 1 + one % (s : Int)]))) := Ext.upd hp
      refine ⟨_, rfl, _, rfl, rfl, .inr ⟨_, rfl, ?_⟩⟩
      have hat : ∀ k : Bool, ∃ z : Int, atI (iV [m, 1 + one % (s : Int)]) (if k = true then 1 else 0) = some (.int z) := fun k => by cases k <;> exact ⟨_, rfl⟩
      obtain ⟨z, hz⟩ := hat (decide (V.int m = V.int one))
      refine ⟨p, _, _, _, rfl, rfl, .inl (.inl upd_same), hz, iV qs, e2 _ _ hD', by rw [iV_len]; omega, ext_updN (ex.trans e2) hD, qs ++ [z], ?_, by rw [List.length_append, hlen]; rfl⟩
      rw [upd_same, ← iV_append]; first | done | rfl
    · obtain ⟨ex, qs, hD', hlen⟩ := z
      rw [iV_len] at hlen
      refine hq D qs H' (e1.trans ex) (new hD) hD' (by omega)
  refine ⟨_, rfl, _, _, rfl, rfl, _, rfl, ite2 (fun h8 => ?_) fun _ => ?_⟩
  · have hc1 : ch < 8 := of_decide_eq_true h8
    have hc2 : ¬ ch < 6 := fun z => h6 (decide_eq_true z)
    refine ⟨_, rfl, _, _, rfl, rfl, _, rfl, by omega, by omega, ?_⟩
    refine for_range (lo := 0) (n := (ch - 5).toNat) (fun i σ H' => (∃ b c d, σ = [some (.ref a), some (.ref l), some (.int (s : Int)), some (.int ch), some (.int far), some (.ref S), b, c, d, none]) ∧ (∀ b u, b ≠ S → H1 b = some u → H' b = some u) ∧ ∃ qs, H' S = some (.lst (iV qs)) ∧ qs.length = ls.length) ⟨⟨none, none, none, rfl⟩, fun _ _ _ h => h, ls, hS1, rfl⟩ (fun i σ H' hi z => ?_) fun σ H' z => ?_
    · obtain ⟨⟨b, c, d, rfl⟩, kp, qs, hS', hlen⟩ := z
      have hi2 : i ≤ 2 := by omega
      have haS : SqL K H' a (iV ns) := by
        rcases ha with (h | ⟨o, h⟩) | h
        · exact .inl (.inl (kp _ _ (fun z => by rw [z, hS] at h; cases h) (e1 _ _ h)))
        · exact .inl (.inr ⟨o, kp _ _ (fun z => by rw [z, hS] at h; cases h) (e1 _ _ h)⟩)
        · exact .inr h
      rw [show (0 : Int) + (i : Int) = (i : Int) from Int.zero_add _]
      refine ⟨_, rfl, _, rfl, _, _, rfl, rfl, a, ns, 8 + i, congrArg (fun z => [V.ref a, V.int z]) (by omega), haS, hns, by omega, fun c8 => .inl ⟨_, rfl, _, rfl, S, iV qs, rfl, .inl (.inl (.inl hS')), _, _, rfl, rfl, by rw [iV_len]; omega, ?_⟩⟩
      rw [iV_len]
      have m1 : 0 ≤ c8 % (qs.length : Int) := Int.emod_nonneg _ (by omega)
      have m2 : c8 % (qs.length : Int) < (qs.length : Int) := Int.emod_lt_of_pos _ (by omega)
      refine ⟨_, rfl, _, _, rfl, rfl, _, rfl, _, rfl, _, rfl, _, rfl, _, _, rfl, rfl, by show 4 ≤ sizeLine; omega, fun p hp => ?_⟩
      have e2 : Ext H' (upd H' p (.lst (iV [0, (s : Int) + 1, -far, (s : Int) + far]))) := Ext.upd hp
      have haP : SqL K (upd H' p (.lst (iV [0, (s : Int) + 1, -far, (s : Int) + far]))) a (iV ns) := sqL_ext haS e2
      refine ⟨_, rfl, _, rfl, _, _, rfl, rfl, a, ns, 10 + i, congrArg (fun z => [V.ref a, V.int z]) (by omega), haP, hns, by omega, fun c10 => ⟨c10, 64, rfl, rfl, ⟨by decide, by decide⟩, .inl ⟨_, rfl, _, _, rfl, rfl, by show (0 : Int) < 4; decide, ?_⟩⟩⟩
      obtain ⟨z, hz⟩ := atI_iV (ns := [0, (s : Int) + 1, -far, (s : Int) + far]) (i := c10 / 64 % 4) (Int.emod_nonneg _ (by decide)) (Int.emod_lt_of_pos _ (by decide))
      have hix : ixN (iV qs).length (c8 % (qs.length : Int)) = some (c8 % (qs.length : Int)).toNat := by
        unfold ixN
        rw [if_pos m1, if_pos (by rw [iV_len]; exact m2)]
      refine ⟨p, _, _, _, rfl, rfl, .inl (.inl upd_same), hz, _, rfl, _, rfl, S, iV qs, _, _, rfl, rfl, e2 _ _ hS', hix, ?_⟩
      refine ⟨⟨_, _, _, rfl⟩, fun b u hb hu => ?_, qs.set (c8 % (qs.length : Int)).toNat z, ?_, by rw [List.length_set]; exact hlen⟩
      · rw [upd_ne hb]; exact e2 _ _ (kp b u hb hu)
      · rw [upd_same]
        exact congrArg (fun z => some (HO.lst z)) (iV_set qs _ _)
    · obtain ⟨⟨b, c, d, rfl⟩, kp, qs, hS', hlen⟩ := z
      refine ⟨_, rfl, hq S qs H' (fun b u hb => kp b u (fun z => by rw [z, hS] at hb; cases hb) (e1 _ _ hb)) hS hS' (by omega)⟩
  · exact ⟨_, rfl, hq S ls H1 e1 hS hS1 (by omega)⟩
end
end NA
set_option maxRecDepth 100000
set_option maxHeartbeats 4000000
/-! try with several clauses, some with names; isinstance of a caught error with its own dict. -/
namespace NA
open PySem PySem.Spec PyProof.Rows L2
abbrev SuT : Type := Addr → Value → Option Addr → TS
/-- a suite's reading: slot i is the caught error's name -/
def sufA (o : Option Nat) (ts : SuT) (a : Addr) (cls : Value) (d : Option Addr) (D : Ends) (σ : L2.St) (H : Hp) : Prop := match o with
  | none => ts a cls d D σ H
  | some i => ts a cls d { nx := fun σ' H' => D.nx (σ'.set i none) H', rt := D.rt, bk := fun σ' H' => D.bk (σ'.set i none) H', ct := fun σ' H' => D.ct (σ'.set i none) H' } (σ.set i (some (.ref a))) H
def wManyA (K : PySem.W.Frag) (D : Ends) : List (Value × Option Nat × SuT) → WX
  | [] => fun _ _ _ _ => False
  | (c, o, ts) :: r => fun cls d σ H => ∃ b, PySem.W.exmOne K cls c = some b ∧ (b = true → ∀ a, H a = none → sufA o ts a cls d D σ H) ∧ (b = false → wManyA K D r cls d σ H)
abbrev SuOk (X : Cx) (sts : List Stmt) (ts : SuT) : Prop := ∀ (a : Addr) (oe : Obj) (cls : Value) (d : Option Addr) (pn : List (Addr × Obj)), Zc cls d oe → (∃ vs, oe.data = .fields vs) → PSs (X.suite a ((a, oe) :: pn)) sts (ts a cls d)
inductive HdsA (X : Cx) : List ExceptHandler → List (Value × Option Nat × SuT) → Prop
  | nil : HdsA X [] []
  | plain {x : Str} {c : Value} {ts : SuT} {b₀ : Stmt} {suite : List Stmt} {np pos' : Pos} {hds : List ExceptHandler} {l : List (Value × Option Nat × SuT)} (hc : Names X x c) (hsu : SuOk X (b₀ :: suite) ts) (r : HdsA X hds l) :
      HdsA X (.ExceptHandler (some (.Name x np)) none (b₀ :: suite) pos' :: hds) ((c, none, ts) :: l)
  | named {x n : Str} {c : Value} {i : Nat} {ts : SuT} {b₀ : Stmt} {suite : List Stmt} {np pos' : Pos} {hds : List ExceptHandler} {l : List (Value × Option Nat × SuT)} (hi : X.N[i]? = some n) (hln : X.env.kindOf n = some .local) (hc : Names X x c) (hsu : SuOk X (b₀ :: suite) ts) (r : HdsA X hds l) :
      HdsA X (.ExceptHandler (some (.Name x np)) (some n) (b₀ :: suite) pos' :: hds) ((c, some i, ts) :: l)
section
variable {X : Cx} {body : List Stmt} {h₀ : ExceptHandler} {hds : List ExceptHandler} {l : List (Value × Option Nat × SuT)} {pos : Pos} {tb : WX → TS}
theorem ps_try_manyA (hs : X.stack = X.env :: X.outer) (hf : X.env.frame = some X.env.locals) (hN : X.N.Nodup)
    (hb : ∀ (W : WX) (pn : List (Addr × Obj)) (xe : Value → Shared → Prop), Takes (X.tr pn xe) W → PassesOwn (model X.prog X.w) X.A X.env xe → PSs (X.tr pn xe) body (tb W)) (hh : HdsA X (h₀ :: hds) l) : PS X (.Try body (h₀ :: hds) [] [] pos) (fun D σ H => tb (wManyA X.K D l) D σ H) := by
  refine ⟨fun pins s σ H D I h => ?_⟩
  have ok := I.ok
  have hfr : X.A.frames = some (X.env :: X.outer) := by rw [ok.frames, hs]
  refine wpAny_Try_except (wpAny_mono ((hb (wManyA X.K D l) (X.pn ++ pins) (fun e s₁ => wpAny (model X.prog X.w) X.A (noteFrame e X.env) (fun _ s₂ => wpAny (model X.prog X.w) X.A (setFlight e none) (fun _ s₃ => wpAny (model X.prog X.w) X.A (handleBy e X.env (h₀ :: hds)) (SP X pins D) X.xe s₃) X.xe s₂) X.xe s₁)
    (fun u s' xx => ?_) PassesOwn.looking).run [] s σ H D (I.toTry _) h) (fun f s1 hsp => ?_) (fun e s1 he => he))
  · obtain ⟨a, B, sI, pins', σ', H', cls, d, rfl, J', nb, up, sky, na, os, ag, w⟩ := xx
    have J : Inv X pins σ' H' sI := J'.ofTry ok
    have sky' : Sky B (X.env :: X.outer) a (Zc cls d) X.env.locals s'.heap := by rw [← hs]; exact sky
    show wpAny (model X.prog X.w) X.A (noteFrame (.ref a) X.env) _ _ _
    refine Sky.land Zc.steady hfr hf sky' fun h3 fl3 up3 => ?_
    have J3 : Inv X pins σ' H' { s' with heap := h3 } := J.landed nb fl3.1 (up.trans up3) os ag
    obtain ⟨oe3, vs3, he3, hz3, hd3⟩ := fl3.there
    have nfr : a ∉ frs (X.env :: X.outer) := fun hm => by
      obtain ⟨_, o', e', hnf⟩ := fl3.2.2.1.mem hm
      rw [he3] at e'
      cases e'
      exact hnf _ hd3
    have nL : a ≠ X.env.locals := fun z => nfr (List.mem_filterMap.mpr ⟨X.env, List.mem_cons_self, by rw [hf, z]⟩)
    have nF : a ∉ X.fs := fun hm => by
      obtain ⟨e, he, q⟩ := List.mem_filterMap.mp hm
      exact nfr (List.mem_filterMap.mpr ⟨e, List.mem_cons_of_mem _ he, q⟩)
    have S3 := J3.suite he3 hd3 na nL nF
    have test : ∀ {x : Str} {c : Value} {np : Pos} {Q : Value → Shared → Prop} {E : Value → Shared → Prop}, Names X x c → Q c { s' with heap := h3 } → wpAny (model X.prog X.w) (X.A.mark (some (.ref a))) (eval (.Name x np) X.env) Q E { s' with heap := h3 } := fun {x c np Q E} hc q => by
      obtain ⟨hg, hdbg, hm | ⟨hm, hv, hnn⟩⟩ := hc
      · exact ld_glob (X := X.suite a ((a, oe3) :: (X.pn ++ pins))) S3 hg hm q hdbg
      · exact ld_blt (X := X.suite a ((a, oe3) :: (X.pn ++ pins))) S3 hg hm hv q hnn hdbg
    have LT : PySem.W.Looks (model X.prog X.w) h3 (typeOf (.ref a)) cls := fun A Q E s k q => wpAny_typeOf_ref (k _ _ he3) (by rw [hz3.1]; exact q)
    have go : ∀ {hds' : List ExceptHandler} {l' : List (Value × Option Nat × SuT)}, HdsA X hds' l' → wManyA X.K D l' cls d σ' H' → wpAny (model X.prog X.w) X.A (handleBy (.ref a) X.env hds') (SP X pins D) X.xe { s' with heap := h3 } := by
      intro hds' l' hk
      induction hk with
      | nil => exact fun w => w.elim
      | plain hc hsu r ih =>
        rintro ⟨b, hb1, hyes, hno⟩
        refine wpAny_handleBy_cons (codeAny_handlers_test (test hc ((PySem.W.exm_one (M := model X.prog X.w) (J3.kIn) LT hb1).here ?_))) (by intro q; cases q)
        match b, hyes, hno with
        | true, hyes, _ =>
          refine codeAny_handlers_suite (HandSPX.lands_againZ fl3 fun h4 fl4 up4 => ?_)
          have J4 : Inv X pins σ' H' { s' with heap := h4 } := J.landed nb fl4.1 ((up.trans up3).trans up4) os ag
          obtain ⟨oe4, vs4, he4, hz4, hd4⟩ := fl4.there
          refine wpAny_mono ((hsu a oe4 cls d (X.pn ++ pins) hz4 ⟨_, hd4⟩).run [] _ _ H' _ (J4.suite he4 hd4 na nL nF) (hyes rfl a na)) (fun f s6 hsp => ?_) (fun _ _ z => False.elim z)
          cases f with
          | next => obtain ⟨_, _, S6, q6⟩ := hsp; exact ⟨_, _, S6.unsuite ok, q6⟩
          | brk => obtain ⟨_, _, S6, q6⟩ := hsp; exact ⟨_, _, S6.unsuite ok, q6⟩
          | cont => obtain ⟨_, _, S6, q6⟩ := hsp; exact ⟨_, _, S6.unsuite ok, q6⟩
          | ret u => obtain ⟨_, _, _, S6, r6, q6⟩ := hsp; exact ⟨_, _, _, S6.unsuite ok, r6, q6⟩
        | false, _, hno => exact ih (hno rfl)
      | @named x n c i ts b₀ suite np pos' hds l hi hln hc hsu r ih =>
        rintro ⟨b, hb1, hyes, hno⟩
        refine wpAny_handleBy_cons (codeAny_handlers_test (test hc ((PySem.W.exm_one (M := model X.prog X.w) (J3.kIn) LT hb1).here ?_))) (by intro q; cases q)
        match b, hyes, hno with
        | true, hyes, _ =>
          refine codeAny_handlers_suite_as (HandSPX.lands_againZ fl3 fun h4 fl4 up4 => ?_)
          have J4 : Inv X pins σ' H' { s' with heap := h4 } := J.landed nb fl4.1 ((up.trans up3).trans up4) os ag
          obtain ⟨oe4, vs4, he4, hz4, hd4⟩ := fl4.there
          refine store_ok (X := X.suite a ((a, oe4) :: (X.pn ++ pins))) (v := .ref a) (J4.suite he4 hd4 na nL nF) hN hi (.inl hln) rfl (fun s5 S5 => ?_) (.inr hln)
          refine wpAny_mono ((hsu a oe4 cls d (X.pn ++ pins) hz4 ⟨_, hd4⟩).run [] s5 _ H' _ S5 (hyes rfl a na)) (fun f s6 hsp => ?_) (fun _ _ z => False.elim z)
          have end_ : ∀ {σ6 : L2.St} {H6 : Hp} {Q : Shared → Prop}, Inv (X.suite a ((a, oe4) :: (X.pn ++ pins))) [] σ6 H6 s6 → (∀ s7, Inv X pins (σ6.set i none) H6 s7 → Q s7) → wpAny (model X.prog X.w) X.A (do bindName X.env n .none; unbindBehindTheSuite X.env n pos') (fun _ s7 => Q s7) X.xe s6 := fun {σ6 H6 Q} S6 hq => gone_ok (S6.unsuite ok) hN hi hln hq
          cases f with
          | next => obtain ⟨_, _, S6, q6⟩ := hsp; exact end_ S6 fun s7 J7 => ⟨_, _, J7, q6⟩
          | brk => obtain ⟨_, _, S6, q6⟩ := hsp; exact end_ S6 fun s7 J7 => ⟨_, _, J7, q6⟩
          | cont => obtain ⟨_, _, S6, q6⟩ := hsp; exact end_ S6 fun s7 J7 => ⟨_, _, J7, q6⟩
          | ret u => obtain ⟨_, _, _, S6, r6, q6⟩ := hsp; exact end_ S6 fun s7 J7 => ⟨_, _, _, J7, r6, q6⟩
        | false, _, hno => exact ih (hno rfl)
    exact go hh w
  · cases f with
    | next => obtain ⟨_, _, J', q⟩ := hsp; exact wpAny_execs_nil ⟨_, _, J'.ofTry ok, q⟩
    | brk => obtain ⟨_, _, J', q⟩ := hsp; exact ⟨_, _, J'.ofTry ok, q⟩
    | cont => obtain ⟨_, _, J', q⟩ := hsp; exact ⟨_, _, J'.ofTry ok, q⟩
    | ret u => obtain ⟨_, _, _, J', r, q⟩ := hsp; exact ⟨_, _, _, J'.ofTry ok, r, q⟩
end
/-! ### isinstance(e, c), isinstance(e, (c1, c2, ..)), e with its own dict -/
def rIsX (K : PySem.W.Frag) (D a : Addr) (cls : Value) (d : Option Addr) : List V → Hp → VK → Prop := fun xs H Q => ∃ (dd : Addr) (fs : List (Str × V)) (b : Bool), cls = .ref D ∧ d = some dd ∧ H dd = some (.xd fs) ∧
  ((∃ c cv, xs = [.ref a, c] ∧ ClsV c cv ∧ PySem.W.kitOne K (.ref D) cv = some b) ∨ (∃ (tp : Addr) (cs : List V) (us : List Value), xs = [.ref a, .ref tp] ∧ H tp = some (.tup cs) ∧ Paired ClsV cs us ∧ PySem.W.kitAny K (.ref D) us = some b)) ∧ Q (.bl b) H
theorem call_isX {X : Cx} {a D : Addr} {d : Option Addr} {cls : Value} {oe : Obj} {pn : List (Addr × Obj)} (C : ExcC X.K D) (hcl : (PySem.W.clsIn X.K D).isSome = true) (hz : Zc cls d oe) (hf : ∃ vs, oe.data = .fields vs) : CallR (X.suite a ((a, oe) :: pn)) (.builtin "isinstance") (rIsX X.K D a cls d) := by
  intro pins s σ H xs us Q I r h
  obtain ⟨dd, fs, b, hc, rfl, hdd, hx, q⟩ := h
  subst hc
  obtain ⟨hget, _⟩ := I.pin (a, oe) (List.mem_append.mpr (.inl List.mem_cons_self))
  obtain ⟨vs, hv⟩ := hf
  obtain ⟨mA, hns, hr⟩ := (show ObjOk X.prog X.w H s.heap dd (.xd fs) from I.hok dd _ hdd)
  obtain ⟨od, ho, hl⟩ := lookIn_ns hns
  have J : PySem.W.InstAt s.heap a oe D (some od) := ⟨hget, hz.1, by unfold PySem.W.notCls; rw [hv] <;> rfl, by rw [hz.2]; exact ho⟩
  have Z := PySem.W.kitx_exc (x := a) (ox := oe) (od := some od) hcl C.hg C.hk C.hs C.ha C.hn C.ht C.hm
  rcases hx with ⟨c, cv, rfl, k, e⟩ | ⟨tp, cs, ws, rfl, hT, k, e⟩
  · obtain ⟨u1, u2, rfl, r1, r2⟩ := vals2 r
    obtain rfl := k.eq r2
    cases (show u1 = Value.ref a from r1)
    exact PySem.W.kia_one Z I.kIn J e (fun z => nomatch z) fun tk => ⟨.bl b, H, I.tok tk, rfl, q⟩
  · obtain ⟨u1, u2, rfl, r1, r2⟩ := vals2 r
    cases (show u1 = Value.ref a from r1)
    cases (show u2 = Value.ref tp from r2)
    obtain ⟨_, its, rv, ⟨oc, od2, dt, sl⟩, h1, h2, n, h3⟩ := (show ObjOk X.prog X.w H s.heap tp (.tup cs) from I.hok tp _ hT)
    obtain rfl := ClsV.all k rv
    simp only at h2 h3
    subst h2 h3
    exact PySem.W.kia_tup Z I.kIn J h1 e (fun z => nomatch z) fun tk => ⟨.bl b, H, I.tok tk, rfl, q⟩
end NA
set_option maxRecDepth 100000
set_option maxHeartbeats 4000000
/-! _law_refused. -/
namespace NA
open PySem PySem.Spec PyProof.Rows L2
abbrev cBF (K : PySem.W.Frag) : Addr := He.ga K "BadFamily"
abbrev cMM (K : PySem.W.Frag) : Addr := He.ga K "Mismatch"
/-- what isinstance answers of the errors -/
structure Fr (K : PySem.W.Frag) (mg : Str → Option Value) : Prop where
  exB : ExcC K (cBL K)
  exN : ExcC K (cNE K)
  clB : (PySem.W.clsIn K (cBL K)).isSome = true
  clN : (PySem.W.clsIn K (cNE K)).isSome = true
  kBA : PySem.W.kitOne K (.ref (cBL K)) (.ref (cNA K)) = some true
  kBV : PySem.W.kitOne K (.ref (cBL K)) (.type "ValueError") = some true
  kBs : PySem.W.kitAny K (.ref (cBL K)) [.ref (cBF K), .ref (cMM K), .ref (cNE K)] = some false
  kNA : PySem.W.kitOne K (.ref (cNE K)) (.ref (cNA K)) = some true
  kNF : PySem.W.kitOne K (.ref (cNE K)) (.ref (cBF K)) = some false
  mBB : PySem.W.exmOne K (.ref (cBL K)) (.ref (cBL K)) = some true
  mNB : PySem.W.exmOne K (.ref (cNE K)) (.ref (cBL K)) = some false
  mNN : PySem.W.exmOne K (.ref (cNE K)) (.ref (cNE K)) = some true
  gF : mg "BadFamily" = some (.ref (cBF K))
  gM : mg "Mismatch" = some (.ref (cMM K))
  nV : mg "ValueError" = none
section
variable {P : Program} {w : World} {K : PySem.W.Frag} {mg : Str → Option Value} {base : Heap}
def nRf : List Str := ["_law_book_here", "_law_labels_here", "e", "f"]
def pRf : List Str := ["_law_book_here", "_law_labels_here"]
theorem scRf : FnScope nRf pRf (defScope sRefused) := ⟨rfl, rfl, rfl, by decide +kernel, rfl, by decide +kernel, by decide +kernel⟩
def tIsX (K : PySem.W.Frag) (D a : Addr) (cls : Value) (d : Option Addr) (i : Nat) (c : V) : TE := tCB (rIsX K D a cls d) (tCons (tVar i) (tCons (tC c) tNil))
def su1T (K : PySem.W.Frag) : SuT := fun a cls d => tIfS (tAnd (tB (tIsX K (cBL K) a cls d 2 (.ref (cNA K)))) (tB (tIsX K (cBL K) a cls d 2 (.ty "ValueError"))))
  (tRet (tOp (rIxL K) (tLst (tCons (tTup (tCons (tC (.str "labels")) (tCons (tXf a cls d (cBL K) "fault" (tVar 2)) (tCons (tXf a cls d (cBL K) "at" (tVar 2)) tNil)))) (tCons (tC .non) tNil)))
    (tCB rInt1 (tCons (tCB (rIsX K (cBL K) a cls d) (tCons (tVar 2) (tCons (tTup (tCons (tC (.ref (cBF K))) (tCons (tC (.ref (cMM K))) (tCons (tC (.ref (cNE K))) tNil)))) tNil))) tNil)))) tNext
def su2T (K : PySem.W.Frag) : SuT := fun a cls d => tIfS (tAnd (tB (tIsX K (cNE K) a cls d 3 (.ref (cNA K)))) (tNot (tB (tIsX K (cNE K) a cls d 3 (.ref (cBF K))))))
  (tRet (tTup (tCons (tC (.str "odd")) (tCons (tXf a cls d (cNE K) "at" (tVar 3)) (tCons (tXf a cls d (cNE K) "face" (tVar 3)) tNil))))) tNext
def su3T : SuT := fun _ _ _ => tNever
def spRf (K : PySem.W.Frag) : Sp := fun vs H Q _ => ∃ (x l : Addr) (n k : Nat) (rs : List (List Int)) (ls : List Int) (d : Due), vs = [.ref x, .ref l] ∧ BookAt K H x n k rs ∧ (SqL K H l (iV ls) ∨ SqT K H l (iV ls)) ∧ ls.length ≤ 63 ∧ FewB n k rs ∧ k ≤ 63 ∧ IsDue n k rs ls d ∧ d ≠ .fine ∧
  ∀ v H', Ext H H' → DueAt H' v d → Q v H'
theorem su1_read (R : Fr K mg) {e dd : Addr} {D : Ends} {σ : L2.St} {H : Hp} {f : Str} {a : Int} (he : σ[2]? = some (some (.ref e))) (hd : H dd = some (.xd [("fault", .str f), ("at", .int a)])) (hq : ∀ t H', Ext H H' → H' t = some (.tup [.str "labels", .str f, .int a]) → D.rt (.ref t) H') : su1T K e (.ref (cBL K)) (some dd) D σ H := by
  have sz : sizeLine = 16777216 := sizeLine_eq
  refine ⟨_, he, dd, _, true, rfl, rfl, hd, .inl ⟨_, _, rfl, .own _, R.kBA⟩, true, rfl, ?_⟩
  refine ⟨_, he, dd, _, true, rfl, rfl, hd, .inl ⟨_, _, rfl, .ty _, R.kBV⟩, true, rfl, ?_⟩
  refine ⟨_, he, rfl, rfl, dd, _, _, rfl, hd, rfl, _, he, rfl, rfl, dd, _, _, rfl, hd, rfl, by show 3 ≤ sizeLine; omega, fun t ht => ?_⟩
  refine ⟨by show 2 ≤ sizeLine; omega, fun L hL => ?_⟩
  have e1 : Ext H (upd H t (.tup [.str "labels", .str f, .int a])) := Ext.upd ht
  have e2 : Ext (upd H t (.tup [.str "labels", .str f, .int a])) (upd (upd H t (.tup [.str "labels", .str f, .int a])) L (.lst [.ref t, .non])) := Ext.upd hL
  refine ⟨_, he, by show 3 ≤ sizeLine; omega, fun q hq1 => ?_⟩
  have e3 := e2.trans (Ext.upd (u := .tup [.ref (cBF K), .ref (cMM K), .ref (cNE K)]) hq1)
  refine ⟨dd, _, false, rfl, rfl, (e1.trans e3) _ _ hd, .inr ⟨q, _, _, rfl, upd_same, .cons (.own _) (.cons (.own _) (.cons (.own _) .nil)), R.kBs⟩, .inr ⟨false, rfl, L, [.ref t, .non], 0, _, rfl, rfl, .inl (.inl ((Ext.upd hq1) _ _ upd_same)), rfl, ?_⟩⟩
  exact hq t _ (e1.trans e3) (e3 _ _ upd_same)
theorem su2_read (R : Fr K mg) {e dd : Addr} {D : Ends} {σ : L2.St} {H : Hp} {v : V} (he : σ[3]? = some (some (.ref e))) (hd : H dd = some (.xd [("at", .int 0), ("face", v)])) (hq : ∀ t H', Ext H H' → H' t = some (.tup [.str "odd", .int 0, v]) → D.rt (.ref t) H') : su2T K e (.ref (cNE K)) (some dd) D σ H := by
  have sz : sizeLine = 16777216 := sizeLine_eq
  refine ⟨_, he, dd, _, true, rfl, rfl, hd, .inl ⟨_, _, rfl, .own _, R.kNA⟩, true, rfl, ?_⟩
  refine ⟨_, he, dd, _, false, rfl, rfl, hd, .inl ⟨_, _, rfl, .own _, R.kNF⟩, false, rfl, ?_⟩
  refine ⟨_, he, rfl, rfl, dd, _, _, rfl, hd, rfl, _, he, rfl, rfl, dd, _, _, rfl, hd, rfl, by show 3 ≤ sizeLine; omega, fun t ht => ?_⟩
  exact hq t _ (Ext.upd ht) upd_same
theorem odd_uniq {n k : Nat} {rs : List (List Int)} (fw : FewB n k rs) {f g : List Int} (hf : oddIn rs f) (hg : oddIn rs g) (h1 : ∀ q, oddIn rs q → cd f ≤ cd q) (h2 : ∀ q, oddIn rs q → cd g ≤ cd q) : f = g := by
  obtain ⟨hn, hk, hc, _⟩ := fw
  obtain ⟨m, rfl⟩ : ∃ m, k = m + 1 := ⟨k - 1, by omega⟩
  have c1 := mem_combs.mp (allF_comb hc hf.1)
  have c2 := mem_combs.mp (allF_comb hc hg.1)
  exact cd_inj (c1.2.trans c2.2.symm) ((rng_ok (by omega)).sub c1.1) ((rng_ok (by omega)).sub c2.1) (Int.le_antisymm (h1 g hg) (h2 f hf))
theorem ok_rf (T : Fx K mg) (Z : Fe P K mg) (R : Fr K mg) : FnOk P w K mg base CX0 7 (He.ga K "_law_refused") T.fd_law_refused pRf (spRf K) := by
  have bL : Binds K T.fd_label_family ["book", "labels"] [] := T.F_label_family.bindsN fun _ _ _ _ _ _ us hl => match us, hl with | [_, _], _ => rfl
  refine T.F_law_refused.ok scRf (fun vs H Q E h => ?_) (fun cdv A outer s H vs Q E hr h => ⟨_, PSs.nox (pss_cons (ps_try_manyA (tb := fun W => tDrop (tCallS (spLF K) (WE W) (tCons (tVar 0) (tCons (tVar 1) tNil)))) rfl rfl scRf.nd
      (fun W pn xe tk _ => pss_one (ps_expr (pe_callS (ok_labelFamily T Z lb_even) hr rfl T.g_label_family T.F_label_family.kp bL (fun σ => passAt tk σ) (pa_cons (pv 0) (pa_cons (pv 1) pa_nil)))))
      (.named (ts := su1T K) (i := 2) rfl rfl ⟨rfl, by decide, .inl Z.gB⟩ (fun a oe cls d pn hz hf => pss_one (ps_if (PW.pt (pw_and (pt_val (pe_callB (call_isX R.exB R.clB hz hf) (by rfl) T.n_isinstance (by decide +kernel) (pa_cons (pv 2) (pa_cons (pe_glob (v := .ref (cNA K)) rfl Z.gA rfl) pa_nil)))) (pw_and1 (pt_val (pe_callB (call_isX R.exB R.clB hz hf) (by rfl) T.n_isinstance (by decide +kernel) (pa_cons (pv 2) (pa_cons (pe_bltn (v := .ty "ValueError") (by rfl) R.nV (by decide +kernel) rfl) pa_nil)))))))
          (pss_one (ps_ret (pe_ix ix_list (pe_lst (pa_cons (pe_tup (pa_cons pe_str (pa_cons (pe_xf Z.fB Z.xB.no1 hz hf (pv 2)) (pa_cons (pe_xf Z.fB Z.xB.no2 hz hf (pv 2)) pa_nil)))) (pa_cons pe_non pa_nil)))
            (pe_callTy call_int1 (by rfl) T.n_int (by decide +kernel) (pa_cons (pe_callB (call_isX R.exB R.clB hz hf) (by rfl) T.n_isinstance (by decide +kernel) (pa_cons (pv 2) (pa_cons (pe_tup (pa_cons (pe_glob (v := .ref (cBF K)) rfl R.gF rfl) (pa_cons (pe_glob (v := .ref (cMM K)) rfl R.gM rfl) (pa_cons (pe_glob (v := .ref (cNE K)) rfl Z.gN rfl) pa_nil)))) pa_nil))) pa_nil)) (fun _ _ => rfl)))) pss_nil))
      (.named (ts := su2T K) (i := 3) rfl rfl ⟨rfl, by decide, .inl Z.gN⟩ (fun a oe cls d pn hz hf => pss_one (ps_if (PW.pt (pw_and (pt_val (pe_callB (call_isX R.exN R.clN hz hf) (by rfl) T.n_isinstance (by decide +kernel) (pa_cons (pv 3) (pa_cons (pe_glob (v := .ref (cNA K)) rfl Z.gA rfl) pa_nil)))) (pw_and1 (pt_not (pt_val (pe_callB (call_isX R.exN R.clN hz hf) (by rfl) T.n_isinstance (by decide +kernel) (pa_cons (pv 3) (pa_cons (pe_glob (v := .ref (cBF K)) rfl R.gF rfl) pa_nil))))))))
          (pss_one (ps_ret (pe_tup (pa_cons pe_str (pa_cons (pe_xf Z.fN Z.xN.no1 hz hf (pv 3)) (pa_cons (pe_xf Z.fN Z.xN.no2 hz hf (pv 3)) pa_nil)))))) pss_nil))
      (.plain (ts := su3T) ⟨rfl, by decide, .inl Z.gA⟩ (fun a oe cls d pn hz hf => pss_one ps_never) .nil))))
    (pss_one (ps_ret pe_non))), ?_⟩)
  · obtain ⟨_, _, _, _, _, _, _, rfl, _⟩ := h
    rfl
  obtain ⟨x, l, n, k, rs, ls, d, rfl, hb, hl, hn, fw, hk, hd, hnf, hq⟩ := h
  have sz : sizeLine = 16777216 := sizeLine_eq
  refine ⟨_, rfl, _, rfl, x, l, n, k, rs, ls, rfl, hb, hl, hn, fw, hk, ?_, ?_⟩
  · intro hne d0 H' ex hd0 hx
    refine ⟨true, R.mBB, fun _ e he => su1_read R rfl hx fun t H2 e2 ht => ?_, fun z => by cases z⟩
    unfold IsDue at hd
    rw [if_pos hne] at hd
    subst hd
    exact hq _ H2 (ex.trans e2) ⟨t, rfl, ht⟩
  · intro heq
    unfold IsDue at hd
    rw [if_neg (fun z => z heq)] at hd
    cases hc : chkKinds ls k with
    | some fa =>
      obtain ⟨f, a⟩ := fa
      rw [hc] at hd
      obtain rfl : d = .lab f a := hd
      intro d0 H' ex hd0 hx
      exact ⟨true, R.mBB, fun _ e he => su1_read R rfl hx fun t H2 e2 ht => hq _ H2 (ex.trans e2) ⟨t, rfl, ht⟩, fun z => by cases z⟩
    | none =>
      rw [hc] at hd
      rcases hd with ⟨rfl, _⟩ | ⟨f, rfl, hf, hmin⟩
      · exact absurd rfl hnf
      refine ⟨?_, fun hno => absurd hf (hno f)⟩
      intro d0 H' g v ex hd0 tv hg hmin2 hx
      obtain rfl := odd_uniq fw hf hg hmin hmin2
      refine ⟨false, R.mNB, fun z => (by cases z), fun _ => ⟨true, R.mNN, fun _ e he => su2_read R rfl hx fun t H2 e2 ht => ?_, fun z => by cases z⟩⟩
      exact hq _ H2 (ex.trans e2) ⟨t, v, rfl, ht, tv.ext e2⟩
end
end NA
set_option maxRecDepth 100000
set_option maxHeartbeats 4000000
/-! words for _law_right: a book made, lists changed, pairs. -/
namespace NA
open PySem PySem.Spec PyProof.Rows L2
theorem pass_no {X : Cx} : Passes (L2.CX X.prog X.w) X (fun _ _ _ => False) := fun _ _ _ _ _ _ _ c => by
  obtain ⟨_, _, _, _, _, _, _, _, _, _, _, _, hE⟩ := c
  exact hE.elim
section
variable {P : Program} {w : World} {K : PySem.W.Frag} {mg : Str → Option Value} {base : Heap}
/-- Book(n, k, rooms), sound rooms in order -/
theorem mk_book {H : Hp} {Q : Hp → Prop} {E : XK} {x dx : Addr} {n k : Nat} {a : Addr} {xs : List V} {rs : List (List Int)} (ha : H a = some (.lst xs)) (tx : TIs H xs rs) (fw : FewB n k rs) (hk : k ≤ n) (hs : rs.Pairwise fun a b => cd a ≤ cd b) (hx : H x = none) (hdx : H dx = none) (hne : dx ≠ x) (hq : ∀ H', Ext H H' → BookAt K H' x n k rs → Q H') :
    spBookI K (.ref x :: ([V.int (n : Int), V.int (k : Int), V.ref a] ++ [])) (upd (upd H dx (.own x)) x (.ins (cB K) dx [])) (fun v H2 => v = .non ∧ Q H2) E := by
  have n1 : a ≠ x := fun z => by rw [z, hx] at ha; cases ha
  have n2 : a ≠ dx := fun z => by rw [z, hdx] at ha; cases ha
  have hl := few_len fw
  obtain ⟨hn7, hk1, hc, nd⟩ := fw
  have so : ∀ r ∈ rs, srt r = r := fun r hr => srt_comb (hc r hr)
  have ms : rs.map srt = rs := (List.map_congr_left so).trans (List.map_id _)
  have hok : ∀ r ∈ rs, r.length = k ∧ Ok64 r := fun r hr => ⟨comb_len (hc r hr), (rng_ok (by omega)).sub (mem_combs.mp (hc r hr)).1⟩
  refine ⟨x, dx, a, n, k, xs, rs, rfl, upd_same, by rw [upd_ne n1, upd_ne n2]; exact ha, tx.mono fun b us hb => ?_, fun r hr => ?_, by rw [ms]; exact nd, by omega, by omega, by omega, hk1, hk, fun H2 t ys qs eb hx2 ht2 tq pq pw => ⟨rfl, ?_⟩⟩
  · rw [upd_ne (fun z => by rw [z, hx] at hb; cases hb), upd_ne (fun z => by rw [z, hdx] at hb; cases hb)]
    exact hb
  · obtain ⟨h1, h2⟩ := mem_combs.mp (hc r hr)
    exact ⟨h2, fun p hp => mem_rng.mp (h1.subset hp), (comb_pair (hc r hr)).imp fun h => by omega⟩
  · rw [ms] at pq
    obtain rfl := sort_uniq (fun r hr => hok r (pq.mem_iff.mp hr)) pq pw hs
    exact hq H2 (make_ext hx hdx eb) ⟨dx, t, ys, hx2, ht2, tq⟩
/-! ### a list changed -/
theorem book_updL {H : Hp} {p x : Addr} {n k : Nat} {rs : List (List Int)} {zs : List V} {u : HO} (h : BookAt K H x n k rs) (hp : H p = some (.lst zs)) : BookAt K (upd H p u) x n k rs := by
  obtain ⟨dx, t, ys, h1, h2, h3⟩ := h
  exact ⟨dx, t, ys, (upd_ne (ne_of h1 hp (by intro z; cases z))).trans h1, (upd_ne (ne_of h2 hp (by intro z; cases z))).trans h2, tis_lst h3 hp⟩
theorem fam_updL {H : Hp} {p y x x2 t : Addr} {n : Nat} {zs : List V} {u : HO} (h : FamAt K H y x x2 t n) (hp : H p = some (.lst zs)) : FamAt K (upd H p u) y x x2 t n := by
  obtain ⟨⟨dy, h1⟩, h2⟩ := h
  exact ⟨⟨dy, (upd_ne (ne_of h1 hp (by intro z; cases z))).trans h1⟩, (upd_ne (ne_of h2 hp (by intro z; cases z))).trans h2⟩
theorem sqL_updN {H : Hp} {p l : Addr} {xs : List V} {u : HO} {H0 : Hp} (h0 : SqL K H0 l xs) (hp : H0 p = none) (h : SqL K H l xs) : SqL K (upd H p u) l xs := by
  rcases h0 with (g | ⟨o, g⟩) | g
  · have ne : l ≠ p := fun z => by rw [z, hp] at g; cases g
    rcases h with (h | ⟨o, h⟩) | h
    · exact .inl (.inl ((upd_ne ne).trans h))
    · exact .inl (.inr ⟨o, (upd_ne ne).trans h⟩)
    · exact .inr h
  · have ne : l ≠ p := fun z => by rw [z, hp] at g; cases g
    rcases h with (h | ⟨o, h⟩) | h
    · exact .inl (.inl ((upd_ne ne).trans h))
    · exact .inl (.inr ⟨o, (upd_ne ne).trans h⟩)
    · exact .inr h
  · exact .inr g
/-! ### pairs (room, rest) -/
inductive PairsAt (n : Nat) (H : Hp) : List V → List (List Int) → Prop
  | nil : PairsAt n H [] []
  | cons {t : Addr} {x y : V} {r : List Int} {vs : List V} {rs : List (List Int)} (ht : H t = some (.tup [x, y])) (hx : TI H x r) (hy : TI H y (compl n r)) (h : PairsAt n H vs rs) : PairsAt n H (.ref t :: vs) (r :: rs)
theorem TI.mono {H H' : Hp} {x : V} {r : List Int} (h : TI H x r) (e : ∀ b ys, H b = some (.tup ys) → H' b = some (.tup ys)) : TI H' x r := by
  obtain ⟨t, rfl, ht⟩ := h
  exact ⟨t, rfl, e _ _ ht⟩
theorem PairsAt.mono {n : Nat} {H H' : Hp} {vs : List V} {rs : List (List Int)} (h : PairsAt n H vs rs) (e : ∀ b ys, H b = some (.tup ys) → H' b = some (.tup ys)) : PairsAt n H' vs rs := by
  induction h with
  | nil => exact .nil
  | cons ht hx hy _ ih => exact .cons (e _ _ ht) (hx.mono e) (hy.mono e) ih
theorem PairsAt.ext {n : Nat} {H H' : Hp} {vs : List V} {rs : List (List Int)} (h : PairsAt n H vs rs) (e : Ext H H') : PairsAt n H' vs rs := h.mono fun b ys hb => e _ _ hb
theorem PairsAt.snoc {n : Nat} {H : Hp} {t : Addr} {x y : V} {r : List Int} {vs : List V} {rs : List (List Int)} (h : PairsAt n H vs rs) (ht : H t = some (.tup [x, y])) (hx : TI H x r) (hy : TI H y (compl n r)) : PairsAt n H (vs ++ [.ref t]) (rs ++ [r]) := by
  induction h with
  | nil => exact .cons ht hx hy .nil
  | cons h1 h2 h3 _ ih => exact .cons h1 h2 h3 ih
theorem PairsAt.len {n : Nat} {H : Hp} {vs : List V} {rs : List (List Int)} (h : PairsAt n H vs rs) : vs.length = rs.length := by
  induction h with
  | nil => rfl
  | cons _ _ _ _ ih => rw [List.length_cons, List.length_cons, ih]
theorem PairsAt.data {n : Nat} {H : Hp} {vs : List V} {rs : List (List Int)} (h : PairsAt n H vs rs) : DpAll K H vs (dRows n rs) := by
  induction h with
  | nil => exact .nil
  | cons ht hx hy _ ih => exact .cons (.tup (.inl (.inl ht)) (.cons (dI_ti hx) (.cons (dI_ti hy) .nil))) ih
theorem tup_updL {H : Hp} {p : Addr} {zs : List V} {u : HO} (hp : H p = some (.lst zs)) : ∀ b ys, H b = some (.tup ys) → upd H p u b = some (.tup ys) := fun b ys hb => (upd_ne (ne_of hb hp (by intro z; cases z))).trans hb
end
end NA
set_option maxRecDepth 100000
set_option maxHeartbeats 4000000
/-! _law_right. -/
namespace NA
open PySem PySem.Spec PyProof.Rows L2
section
variable {P : Program} {w : World} {K : PySem.W.Frag} {mg : Str → Option Value} {base : Heap}
def nRt : List Str := ["_law_n", "_law_size", "_law_rooms_here", "_law_labels_here", "_law_book_here", "_law_passed", "_law_family", "_law_full_here", "_law_due_here", "_law_whole", "_law_told", "_law_room"]
def pRt : List Str := ["_law_n", "_law_size", "_law_rooms_here", "_law_labels_here"]
theorem scRt : FnScope nRt pRt (defScope sRight) := ⟨rfl, rfl, rfl, by decide +kernel, rfl, by decide +kernel, by decide +kernel⟩
def spRt (K : PySem.W.Frag) : Sp := fun vs H Q _ => ∃ (n k : Nat) (a l : Addr) (xs : List V) (rs : List (List Int)) (ls : List Int), vs = [.int (n : Int), .int (k : Int), .ref a, .ref l] ∧ H a = some (.lst xs) ∧ TIs H xs rs ∧ FewB n k rs ∧ k ≤ n ∧ rs.Pairwise (fun a b => cd a ≤ cd b) ∧ SqL K H l (iV ls) ∧ ls.length = n ∧ chkKinds ls k = none ∧ (∀ f, ¬ oddIn rs f) ∧
  ∀ H', Ext H H' → Q (.bl true) H'
def tPair : TE := tTup (tCons (tVar 11) (tCons (tCall spCompl [] (fun _ _ _ => False) (tCons (tVar 0) (tCons (tVar 11) tNil))) tNil))
def tRests (K : PySem.W.Frag) : TE := tLc (iList K (tVar 9)) (gName 11) tYes (tCall spCompl [] (fun _ _ _ => False) (tCons (tVar 0) (tCons (tVar 11) tNil))) [11]
theorem ok_rt (T : Fx K mg) (Z : Fe P K mg) (Y : Fz K mg) : FnOk P w K mg base CX0 10 (He.ga K "_law_right") T.fd_law_right pRt (spRt K) := by
  have bB : Binds K T.fd_Book_init pBookI [] := T.F_Book_init.bindsN fun _ _ _ _ _ _ us hl => match us, hl with | [_, _, _, _], _ => rfl
  have bL : Binds K T.fd_label_family ["book", "labels"] [] := T.F_label_family.bindsN fun _ _ _ _ _ _ us hl => match us, hl with | [_, _], _ => rfl
  have bS : Binds K T.fd_law_same ["_law_actual", "_law_due_here"] [] := T.F_law_same.bindsN fun _ _ _ _ _ _ us hl => match us, hl with | [_, _], _ => rfl
  have bF : Binds K T.fd_law_full pFull [] := T.F_law_full.bindsN fun _ _ _ _ _ _ us hl => match us, hl with | [_, _, _], _ => rfl
  have bR : Binds K T.fd_law_rooms ["_law_items", "_law_size"] [] := T.F_law_rooms.bindsN fun _ _ _ _ _ _ us hl => match us, hl with | [_, _], _ => rfl
  have bE : Binds K T.fd_law_rest ["_law_n", "_law_room"] [] := T.F_law_rest.bindsN fun _ _ _ _ _ _ us hl => match us, hl with | [_, _], _ => rfl
  have bK : Binds K T.fd_law_book nLBk [] := T.F_law_book.bindsN fun _ _ _ _ _ _ us hl => match us, hl with | [_, _, _, _], _ => rfl
  have bC : Binds K T.fd_count_partitions ["family"] [] := T.F_count_partitions.bindsN fun _ _ _ _ _ _ us hl => match us, hl with | [_], _ => rfl
  have bG : Binds K T.fd_full_rooms ["book", "labels"] [] := T.F_full_rooms.bindsN fun _ _ _ _ _ _ us hl => match us, hl with | [_, _], _ => rfl
  have bN : Binds K T.fd_Family_len ["self"] [] := T.F_Family_len.bindsN fun _ _ _ _ _ _ us hl => match us, hl with | [_], _ => rfl
  have bI : Binds K T.fd_Family_getitem ["self", "at"] [] := T.F_Family_getitem.bindsN fun _ _ _ _ _ _ us hl => match us, hl with | [_, _], _ => rfl
  obtain ⟨ds, hds, bP⟩ := b_lp T
  refine T.F_law_right.ok scRt (fun vs H Q E h => ?_) (fun cdv A outer s H vs Q E hr h => ⟨_, PSs.nox (pss_cons (ps_set (i := 4) scRt.nd rfl (Or.inl rfl) (pe_make T.m_Book (ok_BookI T) (hr.mono (by decide)) rfl T.g_Book bB .nil pass0 (pa_cons (pv 0) (pa_cons (pv 1) (pa_cons (pv 2) pa_nil)))))
    (pss_cons (ps_set (i := 5) scRt.nd rfl (Or.inl rfl) (pe_callTy call_list_of (by rfl) T.n_list (by decide +kernel) (pa_cons (pv 3) pa_nil)))
    (pss_cons (ps_set (i := 6) scRt.nd rfl (Or.inl rfl) (pe_call (ok_labelFamily T Z lb_even) (hr.mono (by decide)) rfl T.g_label_family T.F_label_family.kp bL .nil pass_no (pa_cons (pv 4) (pa_cons (pv 5) pa_nil))))
    (pss_cons (ps_if (PW.pt (pw_or (pt_cmpR (op_neD hr.units) (pv 5) (pv 3) (nomark _)) (pw_or (pt_not (pt_val (pe_callB call_isi (by rfl) T.n_isinstance (by decide +kernel) (pa_cons (pv 6) (pa_cons (pe_glob (v := .ref (cF K)) rfl T.g_Family rfl) pa_nil)))))
      (pw_or1 (pt_not (pt_val (pe_call (ok_same T 3) (hr.mono (by decide)) rfl T.g_law_same T.F_law_same.kp bS .nil pass0 (pa_cons (pe_fld (pv 6) rfl) (pa_cons (pv 0) pa_nil))))))))) (pss_one (ps_ret pe_bl)) pss_nil)
    (pss_cons (ps_asg pe_int (pg_sub (pv 5) pe_int set_list))
    (pss_cons (ps_set (i := 7) scRt.nd rfl (Or.inl rfl) (pe_call (ok_full T) (hr.mono (by decide)) rfl T.g_law_full T.F_law_full.kp bF .nil pass0 (pa_cons (pv 2) (pa_cons (pv 3) (pa_cons (pv 1) pa_nil)))))
    (pss_cons (show PS _ _ (tAsg (tLc (iList K (tVar 7)) (gName 11) tYes tPair [11]) (gName 8)) from ps_setLc (i := 8) (own := [("_law_room", 11)]) rfl scRt.nd rfl rfl rfl (pi_list (pv 7)) (blkOk_by (N := nRt) (by kernel_rfl)) (fun _ _ _ _ _ => pg_name (i := 11) scRt.nd rfl (Or.inl rfl)) (fun _ _ _ _ _ => pts_nil)
        (fun _ _ _ _ _ => pe_tup (pa_cons (pv 11) (pa_cons (pe_call (ok_rest T) (hr.mono (by decide)) rfl T.g_law_rest T.F_law_rest.kp bE .nil pass0 (pa_cons (pv 0) (pa_cons (pv 11) pa_nil))) pa_nil))))
    (pss_cons (ps_set (i := 9) scRt.nd rfl (Or.inl rfl) (pe_call (ok_full T) (hr.mono (by decide)) rfl T.g_law_full T.F_law_full.kp bF .nil pass0 (pa_cons (pe_call (ok_lroomsA T) hr rfl T.g_law_rooms T.F_law_rooms.kp bR .nil pass0 (pa_cons (pe_tupRg rfl rfl T.n_tuple (prg_1 rfl T.n_range (pv 0))) (pa_cons (pv 1) pa_nil))) (pa_cons (pv 3) (pa_cons (pv 1) pa_nil)))))
    (pss_cons (ps_if (PW.pt (pw_or (pt_cmpR op_ne (pe_callB (cr_lenO (Sub.in1 (n := 1) ⟨hr.mono (by decide), rfl⟩) (ok_FLen T) bN Y.lnF.ln Y.lnF.lnF) (by rfl) T.n_len PySem.boot_len (pa_cons (pv 6) pa_nil)) pe_int (nomark _))
      (pw_or (pt_not (pt_val (pe_callB call_isi (by rfl) T.n_isinstance (by decide +kernel) (pa_cons (pe_fld (pv 6) rfl) (pa_cons (pe_bltn (v := .ty "tuple") (by rfl) T.n_tuple (by decide +kernel) rfl) pa_nil)))))
      (pw_or1 (pt_not (pt_val (pe_call (ok_lbook T Y) (hr.mono (by decide)) rfl T.g_law_book T.F_law_book.kp bK .nil pass0 (pa_cons (pe_ixO (Sub.in1 (n := 1) ⟨hr.mono (by decide), rfl⟩) (ok_FGet T) bI Y.gt Y.gtN Y.gtF (pv 6) pe_int (fun _ _ => rfl)) (pa_cons (pv 0) (pa_cons (pv 1) (pa_cons (pv 2) pa_nil))))))))))) (pss_one (ps_ret pe_bl)) pss_nil)
    (pss_cons (ps_if (pt_not (pt_val (pe_call (ok_lbook T Y) (hr.mono (by decide)) rfl T.g_law_book T.F_law_book.kp bK .nil pass0 (pa_cons (pe_ixO (Sub.in1 (n := 1) ⟨hr.mono (by decide), rfl⟩) (ok_FGet T) bI Y.gt Y.gtN Y.gtF (pv 6) pe_int (fun _ _ => rfl)) (pa_cons (pv 0) (pa_cons (pe_op op_sub (pv 0) (pv 1))
      (pa_cons (pe_callB cr_sortTL (by rfl) T.n_sorted (by decide +kernel) (pa_cons (show PE _ _ (tRests K) from pe_lc (own := [("_law_room", 11)]) rfl scRt.nd (pi_list (pv 9)) (blkOk_by (N := nRt) (by kernel_rfl)) (fun _ _ _ _ _ => pg_name (i := 11) scRt.nd rfl (Or.inl rfl)) (fun _ _ _ _ _ => pts_nil) (fun _ _ _ _ _ => pe_call (ok_rest T) (hr.mono (by decide)) rfl T.g_law_rest T.F_law_rest.kp bE .nil pass0 (pa_cons (pv 0) (pa_cons (pv 11) pa_nil)))) pa_nil)) pa_nil))))))) (pss_one (ps_ret pe_bl)) pss_nil)
    (pss_cons (ps_set (i := 10) scRt.nd rfl (Or.inl rfl) (pe_call (ok_lp T Y) (hr.mono (by decide)) rfl T.g_list_partitions T.F_list_partitions.kp bP hds pass0 (pa_cons (pv 6) pa_nil)))
    (pss_cons (ps_if (PW.pt (pw_or (pt_not (pt_val (pe_call (ok_same T 3) (hr.mono (by decide)) rfl T.g_law_same T.F_law_same.kp bS .nil pass0 (pa_cons (pv 10) (pa_cons (pv 8) pa_nil)))))
      (pw_or (pt_not (pt_val (pe_call (ok_same T 3) (hr.mono (by decide)) rfl T.g_law_same T.F_law_same.kp bS .nil pass0 (pa_cons (pe_call (ok_cp T Y) (hr.mono (by decide)) rfl T.g_count_partitions T.F_count_partitions.kp bC .nil pass0 (pa_cons (pv 6) pa_nil)) (pa_cons (pe_callB call_len_seq (by rfl) T.n_len PySem.boot_len (pa_cons (pv 8) pa_nil)) pa_nil)))))
      (pw_or1 (pt_cmpR op_eq (pe_op op_mod (pe_callTy call_int1 (by rfl) T.n_int (by decide +kernel) (pa_cons (pe_callB call_len_seq (by rfl) T.n_len PySem.boot_len (pa_cons (pv 10) pa_nil)) pa_nil)) pe_int) pe_int (nomark _)))))) (pss_one (ps_ret pe_bl)) pss_nil)
    (pss_cons (ps_expr (pe_bm PySem.F.plainAttrs_list PySem.F.slot_list_append PySem.F.type_list_append mt_append (pv 10) (pa_cons (pe_tup pa_nil) pa_nil)))
    (pss_cons (ps_if (pt_not (pt_val (pe_call (ok_same T 3) (hr.mono (by decide)) rfl T.g_law_same T.F_law_same.kp bS .nil pass0 (pa_cons (pe_call (ok_lp T Y) (hr.mono (by decide)) rfl T.g_list_partitions T.F_list_partitions.kp bP hds pass0 (pa_cons (pe_call (ok_labelFamily T Z lb_even) (hr.mono (by decide)) rfl T.g_label_family T.F_label_family.kp bL .nil pass_no (pa_cons (pv 4) (pa_cons (pe_callTy call_tuple_of (by rfl) T.n_tuple (by decide +kernel) (pa_cons (pv 3) pa_nil)) pa_nil))) pa_nil)) (pa_cons (pv 8) pa_nil))))) (pss_one (ps_ret pe_bl)) pss_nil)
    (pss_one (ps_ret (pe_and (pe_call (ok_same T 3) (hr.mono (by decide)) rfl T.g_law_same T.F_law_same.kp bS .nil pass0 (pa_cons (pe_call (ok_fullRooms T) (hr.mono (by decide)) rfl T.g_full_rooms T.F_full_rooms.kp bG .nil pass0 (pa_cons (pv 4) (pa_cons (pe_callTy call_tuple_of (by rfl) T.n_tuple (by decide +kernel) (pa_cons (pv 3) pa_nil)) pa_nil))) (pa_cons (pv 7) pa_nil)))
      (pe_one (pe_call (ok_same T 3) (hr.mono (by decide)) rfl T.g_law_same T.F_law_same.kp bS .nil pass0 (pa_cons (pe_call (ok_lp T Y) (hr.mono (by decide)) rfl T.g_list_partitions T.F_list_partitions.kp bP hds pass0 (pa_cons (pv 6) pa_nil)) (pa_cons (pv 8) pa_nil))))))))))))))))))))), ?_⟩)
  · obtain ⟨_, _, _, _, _, _, _, rfl, _⟩ := h
    rfl
  obtain ⟨n, k, a, l, xs, rs, ls, rfl, ha, tx, fw, hkn, hs, hl, hln, hc, he, hq⟩ := h
  have sz : sizeLine = 16777216 := sizeLine_eq
  obtain ⟨⟨hk1, hk2⟩, hin, _⟩ := chkN hc
  have hn7 := fw.1
  have hnd := fw.2.2.2
  have hcx := fw.2.2.1
  have hlab : ∀ m ∈ ls, 1 ≤ m ∧ m ≤ (k : Int) := fun m hm => by
    obtain ⟨i, hi, rfl⟩ := List.mem_iff_getElem.mp hm
    have := chkIn_all hin (p := (i : Int)) (mem_rng.mpr ⟨by omega, by omega⟩)
    rwa [lab_get hi] at this
  have hl35 := few_len fw
  refine ⟨_, rfl, _, rfl, _, rfl, ?_⟩
  intro x dx hx hdx hne
  refine mk_book ha tx fw hkn hs hx hdx hne fun H1 e1 hb => ?_
  refine ⟨_, rfl, l, iV ls, rfl, .inl (sqL_ext hl e1), fun p5 hp5 => ?_⟩
  have e2 : Ext H1 (upd H1 p5 (.lst (iV ls))) := Ext.upd hp5
  refine ⟨_, rfl, _, rfl, x, p5, n, k, rs, ls, rfl, book_ext hb e2, .inl (.inl (.inl upd_same)), by omega, fw, by omega, fun hne => absurd hln hne, fun _ => ?_⟩
  rw [hc]
  refine ⟨fun d H' f v ex hd tv ho _ _ => he f ho, fun _ y x2 t qs H3 e3 hy hf hb2 pq pw => ?_⟩
  have e13 := e2.trans e3
  have hp3 : H3 p5 = some (.lst (iV ls)) := e3 _ _ upd_same
  obtain ⟨dy, hy3⟩ := hf.1
  refine ⟨_, rfl, _, rfl, neL_read (.inl (.inl hp3)) (sqL_ext hl (e1.trans e13)) ⟨_, rfl, ?_⟩⟩
  rw [decide_eq_true rfl]
  refine isON_read rfl Y.insF T.c_Family hy3 ?_
  refine ⟨_, rfl, y, _, dy, _, _, rfl, hy3, T.c_Family, T.na_Family_places, rfl, _, rfl, _, _, .int (n : Int), rfl, .int _, .int _, .int 3 _, _, rfl, ?_⟩
  refine iteF ?_
  have hix : ixN (iV ls).length 0 = some 0 := by
    unfold ixN
    rw [if_pos (by decide), if_pos (by rw [iV_len]; omega)]
    rfl
  refine ⟨_, rfl, p5, iV ls, 0, 0, rfl, rfl, hp3, hix, ?_⟩
  have e15 : Ext H1 (upd H3 p5 (.lst ((iV ls).set 0 (.int 0)))) := fun b u hbu => (upd_ne (fun z => by rw [z, hp5] at hbu; cases hbu)).trans (e13 _ _ hbu)
  have hf5 := fam_updL (u := .lst ((iV ls).set 0 (.int 0))) hf hp3
  have hb25 := book_updL (u := .lst ((iV ls).set 0 (.int 0))) hb2 hp3
  generalize upd H3 p5 (.lst ((iV ls).set 0 (.int 0))) = H5 at e15 hf5 hb25
  have e05 := e1.trans e15
  have hb5 := book_ext hb e15
  have rlen : ∀ r ∈ rs, r.length ≤ 63 ∧ ∀ p ∈ r, 0 ≤ p ∧ p < ls.length := fun r hr => by
    have c := mem_combs.mp (hcx r hr)
    exact ⟨by omega, fun p hp => by have := mem_rng.mp (c.1.subset hp); omega⟩
  have clen : ∀ r ∈ combs (rng n) k, r.length ≤ 63 ∧ ∀ p ∈ r, 0 ≤ p ∧ p < ls.length := fun r hr => by
    have c := mem_combs.mp hr
    exact ⟨by omega, fun p hp => by have := mem_rng.mp (c.1.subset hp); omega⟩
  have c35 := combs_len (rng n) k (by rw [rng_len]; exact hn7)
  -- full
  refine ⟨_, rfl, _, rfl, _, rfl, a, l, xs, rs, ls, k, rfl, e05 _ _ ha, tx.ext e05, sqL_ext hl e05, rlen, by omega, by omega, fun L7 y7 H6 e6 hL7 hl7 t7 => ?_⟩
  generalize hfull : rs.filter (fullP ls k) = full at t7
  have fsub : ∀ r ∈ full, r ∈ rs := fun r hr => by rw [← hfull] at hr; exact (List.mem_filter.mp hr).1
  have flen : full.length ≤ 35 := by rw [← hfull]; exact Nat.le_trans (List.length_filter_le ..) hl35
  -- due
  refine ⟨_, rfl, L7, rfl, ⟨_, .inl (.inl hl7)⟩, fun D hD => ?_⟩
  refine lc_list (xs := y7) (fun i H' => Ext H6 H' ∧ ∃ ps, H' D = some (.lst ps) ∧ PairsAt n H' ps (full.take i)) ⟨Ext.upd hD, [], upd_same, .nil⟩ (fun i H' _ z => .inl (.inl (z.1 _ _ hl7))) (fun i v H' hv z => ?_) fun H8 z => ?_
  · obtain ⟨ex, ps, hps, pa⟩ := z
    obtain ⟨r, hr, rm, rfl, hrm⟩ := (t7.ext ex).at hv
    refine ⟨rfl, ?_⟩
    refine ⟨_, rfl, _, rfl, _, rfl, n, _, r, rfl, ⟨rm, rfl, hrm⟩, by omega, fun u H4 e4 tu => ?_⟩
    refine ⟨by show 2 ≤ sizeLine; omega, fun t ht => ?_⟩
    have e9 := e4.trans (Ext.upd (u := .tup [.ref rm, u]) ht)
    refine ⟨ps, e9 _ _ hps, ?_, ext_updN (ex.trans e9) hD, ps ++ [.ref t], upd_same, ?_⟩
    · have := pa.len
      rw [List.length_take] at this
      omega
    · rw [List.take_succ, hr]
      have h1 := (pa.ext e9).snoc (upd_same (H := H4) (a := t) (o := .tup [.ref rm, u])) ⟨rm, rfl, e9 _ _ hrm⟩ (tu.ext (Ext.upd ht))
      exact h1.mono (tup_updL (e9 _ _ hps))
  obtain ⟨e8, ps, hps, pa⟩ := z
  rw [t7.1, List.take_length] at pa
  have e58 := e6.trans e8
  have e08 := e05.trans e58
  -- whole
  refine ⟨_, rfl, _, rfl, RgOk.of_le (by omega) (by omega) (by omega) (by omega), fun q hq1 => ?_⟩
  rw [rgV_rng]
  have e9 : Ext H8 (upd H8 q (.tup (iV (rng n)))) := Ext.upd hq1
  refine ⟨_, rfl, k, by omega, .ref q, rng n, rfl, ⟨q, rfl, upd_same⟩, by rw [rng_len]; exact hn7, by omega, fun L ys HL eL hL hLl hys => ?_⟩
  refine ⟨_, rfl, _, rfl, L, l, ys, combs (rng n) k, ls, k, rfl, hLl, hys, sqL_ext hl (e08.trans (e9.trans eL)), clen, by omega, by omega, fun L9 y9 H9 e9' hL9 hl9 t9 => ?_⟩
  have e89 := e9.trans (eL.trans e9')
  generalize hwhole : (combs (rng n) k).filter (fullP ls k) = whole at t9
  have wlen : whole.length ≤ 35 := by rw [← hwhole]; exact Nat.le_trans (List.length_filter_le ..) c35
  have wsub : ∀ r ∈ whole, r ∈ combs (rng n) k := fun r hr => by rw [← hwhole] at hr; exact (List.mem_filter.mp hr).1
  have e59 := e58.trans e89
  have e09 := e05.trans e59
  have hf9 := fam_ext hf5 e59
  have hb9 := book_ext hb5 e59
  have hb29 := book_ext hb25 e59
  obtain ⟨⟨dy9, hy9⟩, ht9⟩ := id hf9
  refine ⟨_, rfl, y, dy9, _, rfl, hy9, y, dy9, _, t, [.ref x, .ref x2], rfl, hy9, rfl, ht9, 2, rfl, by decide, rfl, _, rfl, ?_⟩
  rw [ival (show ((2 : Nat) : Int) = 2 from rfl)]
  refine ⟨_, rfl, y, _, dy9, _, _, rfl, hy9, T.c_Family, T.na_Family_books, rfl, .ref t, .ty "tuple", .type "tuple", .type "tuple", true, rfl, .ty _, .base (.tup ht9), kit_ty (by decide +kernel), true, rfl, ?_⟩
  refine ⟨_, rfl, y, dy9, _, rfl, hy9, y, dy9, _, t, [.ref x, .ref x2], 0, .ref x, rfl, hy9, rfl, ht9, rfl, _, rfl, _, rfl, _, rfl, x, a, n, k, xs, rs, rfl, hb9, e09 _ _ ha, tx.ext e09, by omega, fun r hr => by have := (rlen r hr).1; omega, fun H10 e10 => ⟨_, rfl, ?_⟩⟩
  refine iteF ?_
  have e5A := e59.trans e10
  have e0A := e05.trans e5A
  have hfA := fam_ext hf5 e5A
  have hbA := book_ext hb5 e5A
  have hb2A := book_ext hb25 e5A
  obtain ⟨⟨dyA, hyA⟩, htA⟩ := id hfA
  have hl9A := e10 _ _ hl9
  have t9A := t9.ext e10
  -- the second book
  refine ⟨_, rfl, y, dyA, _, rfl, hyA, y, dyA, _, t, [.ref x, .ref x2], 1, .ref x2, rfl, hyA, rfl, htA, rfl, _, rfl, _, rfl, _, rfl, _, _, rfl, rfl, ?_⟩
  refine ⟨_, rfl, L9, rfl, ⟨_, .inl (.inl hl9A)⟩, fun D2 hD2 => ?_⟩
  refine lc_list (xs := y9) (fun i H' => Ext H10 H' ∧ ∃ zs, H' D2 = some (.lst zs) ∧ TIs H' zs ((whole.map (compl n)).take i)) ⟨Ext.upd hD2, [], upd_same, TIs.nil⟩ (fun i H' _ z => .inl (.inl (z.1 _ _ hl9A))) (fun i v H' hv z => ?_) fun H11 z => ?_
  · obtain ⟨ex, zs, hzs, tz⟩ := z
    obtain ⟨r, hr, rm, rfl, hrm⟩ := (t9A.ext ex).at hv
    refine ⟨rfl, ?_⟩
    refine ⟨_, rfl, _, rfl, n, _, r, rfl, ⟨rm, rfl, hrm⟩, by omega, fun u H4 e4 tu => ?_⟩
    refine ⟨zs, e4 _ _ hzs, ?_, ext_updN (ex.trans e4) hD2, _, upd_same, ?_⟩
    · have := tz.1
      rw [List.length_take, List.length_map] at this
      omega
    · rw [List.take_succ, List.getElem?_map, hr]
      exact tis_lst ((tz.ext e4).snoc tu) (e4 _ _ hzs)
  obtain ⟨e11, zs, hzs, tz⟩ := z
  rw [t9A.1, ← List.length_map (f := compl n), List.take_length] at tz
  have wok : ∀ r ∈ whole.map (compl n), r.length = n - k ∧ Ok64 r := fun r hr => by
    obtain ⟨c, hc', rfl⟩ := List.mem_map.mp hr
    have h1 := comb_compl (k2 := n - k) (by omega) (wsub c hc')
    exact ⟨comb_len h1, (rng_ok (by omega)).sub (mem_combs.mp h1).1⟩
  refine ⟨D2, zs, whole.map (compl n), n - k, rfl, .inl (.inl hzs), tz, by rw [List.length_map]; omega, .inl (by omega), wok, fun ys' qs' p' tq pq' pw' hp' => ?_⟩
  have hqq : qs' = qs := by
    refine sort_uniq (fun r hr => wok r (pq'.mem_iff.mp hr)) (pq'.trans ?_) pw' pw
    refine List.Perm.trans ?_ pq.symm
    rw [← hwhole]
    exact (label_perm (by omega)).symm
  subst hqq
  have e12 : Ext H11 (upd H11 p' (.lst ys')) := Ext.upd hp'
  have eA12 := e11.trans e12
  refine ⟨x2, p', n, n - k, ys', qs', by show [V.ref x2, V.int (n : Int), V.int ((n : Int) - (k : Int)), V.ref p'] = _; rw [show (n : Int) - (k : Int) = ((n - k : Nat) : Int) by omega], book_ext hb2A eA12, upd_same, tq.ext e12, by have := pq'.length_eq; rw [List.length_map] at this; omega, fun r hr => by have := (wok r (pq'.mem_iff.mp hr)).1; omega, fun H12 e12' => ⟨_, rfl, ?_⟩⟩
  refine iteF ?_
  have eAC := eA12.trans e12'
  have e5C := e5A.trans eAC
  have e0C := e05.trans e5C
  have hfC := fam_ext hf5 e5C
  have hbC := book_ext hb5 e5C
  have hb2C := book_ext hb25 e5C
  have fwG : ∀ qz : List (List Int), qz.Perm ((chos ls n k).map (compl n)) → FewB n (n - k) qz := fun qz pz => ⟨hn7, by omega, fun r hr => by
    obtain ⟨c, hc', rfl⟩ := List.mem_map.mp (pz.mem_iff.mp hr)
    exact chos_comb hc', pz.nodup_iff.mpr (chos_rooms (ls := ls) (n := n) (k := k))⟩
  have filG : ∀ qz : List (List Int), qz.Perm ((chos ls n k).map (compl n)) → (rs.filter fun r => decide (compl n r ∈ qz)) = full := fun qz pz => by
    rw [← hfull]
    refine List.filter_congr fun r hr => ?_
    have h1 := full_chos (ls := ls) (hcx r hr)
    rw [← pz.mem_iff] at h1
    by_cases g : fullP ls k r = true
    · rw [g, decide_eq_true (h1.mpr g)]
    · rw [Bool.eq_false_iff.mpr g, decide_eq_false fun z => g (h1.mp z)]
  have fw2 := fwG qs' pq
  have hfil := filG qs' pq
  have fcond : ∀ r ∈ full, r.length ≤ 1000 := fun r hr => by have := (rlen r (fsub r hr)).1; omega
  have hdok : DOk 3 (.list (dRows n full)) := dok_R (by omega) fcond (by omega)
  -- told
  refine ⟨_, rfl, y, x, x2, t, n, k, n - k, rs, qs', rfl, ⟨hfC, hbC, hb2C, fw, fw2, by omega⟩, fun R yR H13 e13' hR hRl hD13 => ?_⟩
  rw [hfil] at hD13
  have e8C := e89.trans (e10.trans eAC)
  have e8D := e8C.trans e13'
  have hps13 := e8D _ _ hps
  have pa13 := pa.ext e8D
  refine ⟨_, rfl, _, rfl, _, _, .list (dRows n full), rfl, .lst (.inl (.inl hRl)) hD13, .lst (.inl (.inl hps13)) pa13.data, hdok, _, rfl, ?_⟩
  have e5D := e5C.trans e13'
  refine ⟨_, rfl, y, x, x2, t, n, k, n - k, rs, qs', rfl, ⟨fam_ext hf5 e5D, book_ext hb5 e5D, book_ext hb25 e5D, fw, fw2, by omega⟩, fun H14 e14 => ?_⟩
  have e8E := e8D.trans e14
  have hcnt : ((cntC n rs qs' : Nat) : Int) = (ps.length : Int) := by
    unfold cntC
    rw [hfil, pa.len]
  refine ⟨_, rfl, D, ps, rfl, .inl (.inl (.inl (e8E _ _ hps))), _, _, .int (ps.length : Int), rfl, by rw [hcnt]; exact .int _, .int _, .int 3 _, _, rfl, ?_⟩
  have hyl : yR.length = full.length := by
    have := dpAll_len hD13
    unfold dRows at this
    rw [List.length_map] at this
    exact this
  have hev : full.length % 2 = 0 := by rw [← hfull]; exact full_even hk1 hln hlab hcx he
  refine ⟨_, rfl, R, yR, rfl, .inl (.inl (.inl (e14 _ _ hRl))), .inl ⟨_, rfl, _, _, rfl, rfl, by show (0 : Int) < 2; decide, rfl, _, rfl, ?_⟩⟩
  rw [ival_ne (show (yR.length : Int) % 2 ≠ 1 by omega)]
  refine iteF ?_
  -- the append
  have hR14 := e14 _ _ hRl
  refine ⟨_, rfl, .inl ⟨rfl, _, .inl (.inl hR14)⟩, Nat.zero_le _, fun em hem => ?_⟩
  have e15' : Ext H14 (upd H14 em (.tup [])) := Ext.upd hem
  refine ⟨R, yR, _, rfl, rfl, e15' _ _ hR14, by omega, ?_⟩
  have eCF : Ext H12 (upd (upd H14 em (.tup [])) R (.lst (yR ++ [.ref em]))) := fun b u hbu => (upd_ne (fun z => by rw [z, hR] at hbu; cases hbu)).trans ((e13'.trans (e14.trans e15')) _ _ hbu)
  generalize upd (upd H14 em (.tup [])) R (.lst (yR ++ [.ref em])) = HF at eCF
  have e5F := e5C.trans eCF
  have e0F := e05.trans e5F
  have e8F := e8C.trans eCF
  -- labels in a tuple
  refine ⟨_, rfl, _, rfl, l, iV ls, rfl, .inl ⟨sqL_ext hl e0F, fun tp htp => ?_⟩⟩
  have eT : Ext HF (upd HF tp (.tup (iV ls))) := Ext.upd htp
  refine ⟨x, tp, n, k, rs, ls, rfl, book_ext hb5 (e5F.trans eT), .inr (.inl (.inl upd_same)), by omega, fw, by omega, fun hne => absurd hln hne, fun _ => ?_⟩
  rw [hc]
  refine ⟨fun d H' f v ex hd tv ho _ _ => he f ho, fun _ y' z2 t' qz HG eG hyG hfG hbG pz pzw => ?_⟩
  have e5G := e5F.trans (eT.trans eG)
  refine ⟨y', x, z2, t', n, k, n - k, rs, qz, rfl, ⟨hfG, book_ext hb5 e5G, hbG, fw, fwG qz pz, by omega⟩, fun R2 yR2 HH eH hR2 hR2l hD2' => ?_⟩
  rw [filG qz pz] at hD2'
  have e8H := e8F.trans ((eT.trans eG).trans eH)
  refine ⟨_, rfl, _, _, .list (dRows n full), rfl, .lst (.inl (.inl hR2l)) hD2', .lst (.inl (.inl (e8H _ _ hps))) (pa.ext e8H).data, hdok, _, rfl, ?_⟩
  refine iteF ?_
  have e5H := e5G.trans eH
  have e0H := e05.trans e5H
  refine ⟨_, rfl, _, rfl, l, iV ls, rfl, .inl ⟨sqL_ext hl e0H, fun tp2 htp2 => ?_⟩⟩
  have eT2 : Ext HH (upd HH tp2 (.tup (iV ls))) := Ext.upd htp2
  refine ⟨x, tp2, rs, ls, k, rfl, by rw [hln]; exact book_ext hb5 (e5H.trans eT2), .inr (.inl (.inl upd_same)), by omega, by omega, hlab, fun r hr => ⟨comb_len (hcx r hr), (rlen r hr).2⟩, by omega, fun p3 y3 HI eI hp3' hp3l t3 => ?_⟩
  have hdist : rs.filter (distP ls) = full := by
    rw [← hfull]
    exact List.filter_congr fun r hr => dist_full hln hlab (hcx r hr)
  rw [hdist] at t3
  have e8I := e8H.trans (eT2.trans eI)
  have e6I := e8.trans e8I
  refine ⟨_, rfl, _, _, .list (dT full), rfl, .lst (.inl (.inl hp3l)) (dpT t3), .lst (.inl (.inl (e6I _ _ hl7))) (dpT (t7.ext e6I)), dok_TL (by omega) fcond, _, rfl, iteT ?_⟩
  have e5I := e5H.trans (eT2.trans eI)
  refine ⟨_, rfl, y, x, x2, t, n, k, n - k, rs, qs', rfl, ⟨fam_ext hf5 e5I, book_ext hb5 e5I, book_ext hb25 e5I, fw, fw2, by omega⟩, fun R3 yR3 HJ eJ hR3 hR3l hD3 => ?_⟩
  rw [hfil] at hD3
  have e8J := e8I.trans eJ
  exact ⟨_, rfl, _, _, .list (dRows n full), rfl, .lst (.inl (.inl hR3l)) hD3, .lst (.inl (.inl (e8J _ _ hps))) (pa.ext e8J).data, hdok, hq _ (e05.trans (e5I.trans eJ))⟩
end
end NA
set_option maxRecDepth 100000
set_option maxHeartbeats 4000000
/-! _law_small. -/
namespace NA
open PySem PySem.Spec PyProof.Rows L2
theorem lab_nat {ls : List Int} {i : Nat} : lab ls (i : Int) = ls.getD i 0 := rfl
theorem chk_none {n k : Nat} {ls : List Int} (h : LabIn n k ls) (hu : ∀ l : Int, 1 ≤ l → l ≤ k → l ∈ ls) (h1 : 1 ≤ k) (h2 : k < n) : chkKinds ls k = none := by
  obtain ⟨hl, hb⟩ := h
  have e1 : chkIn ls (k : Int) = none := by
    unfold chkIn
    rw [findN fun j hj => ?_]
    · rfl
    · unfold badL
      have hg : ls.getD j 0 = ls[j] := by rw [List.getD_eq_getElem?_getD, List.getElem?_eq_getElem hj]; rfl
      rw [hg, decide_eq_true (hb _ (List.getElem_mem hj))]
      rfl
  have e2 : chkUse ls k = none := by
    unfold chkUse
    rw [findN fun j hj => ?_]
    · rfl
    · exact decide_eq_false fun z => z (hu _ (by omega) (by omega))
  unfold chkKinds
  rw [if_pos ⟨h1, by omega⟩, e1]
  exact e2
theorem chk_spoilt {n k i : Nat} {ls : List Int} {z : Int} (h : LabIn n k ls) (h1 : 1 ≤ k) (h2 : k < n) (hi : i < n) (hz : z < 1 ∨ (k : Int) < z) : (ls.take i ++ [z] ++ ls.drop (i + 1)).length = n ∧ chkKinds (ls.take i ++ [z] ++ ls.drop (i + 1)) k = some (("label" : Str), (i : Int)) := by
  obtain ⟨hl, hb⟩ := h
  have hlen : (ls.take i ++ [z] ++ ls.drop (i + 1)).length = n := by
    rw [List.length_append, List.length_append, List.length_take, List.length_drop]
    show min i ls.length + 1 + (ls.length - (i + 1)) = n
    omega
  refine ⟨hlen, ?_⟩
  generalize hq : ls.take i ++ [z] ++ ls.drop (i + 1) = qs at hlen
  have at_ : ∀ j, j < i → qs.getD j 0 = ls.getD j 0 := fun j hj => by
    rw [← hq, List.getD_eq_getElem?_getD, List.getD_eq_getElem?_getD, List.append_assoc, List.getElem?_append_left (by rw [List.length_take]; omega), List.getElem?_take, if_pos hj]
  have ati : qs.getD i 0 = z := by
    rw [← hq, List.getD_eq_getElem?_getD, List.append_assoc, List.getElem?_append_right (by rw [List.length_take]; omega), List.length_take, show i - min i ls.length = 0 by omega]
    rfl
  have e1 : chkIn qs (k : Int) = some (("label" : Str), (i : Int)) := by
    unfold chkIn
    rw [findR (i := i) (by omega) ?_ fun j hj => ?_]
    · rfl
    · unfold badL
      rw [ati, decide_eq_false (by omega)]
      rfl
    · unfold badL
      have hg : ls.getD j 0 = ls[j]'(by omega) := by rw [List.getD_eq_getElem?_getD, List.getElem?_eq_getElem (by omega)]; rfl
      rw [at_ j hj, hg, decide_eq_true (hb _ (List.getElem_mem _))]
      rfl
  unfold chkKinds
  rw [if_pos ⟨h1, by omega⟩, e1]
  rfl
theorem cut_to (ls : List Int) {i : Nat} (h : i ≤ ls.length) : cutV (iV ls) none (some (i : Int)) = iV (ls.take i) := by
  unfold cutV
  rw [HT.sIx_none, HT.sIx_nat, iV_len, List.drop_zero, Nat.sub_zero, Nat.min_eq_left h, iV_take]
theorem cut_from (ls : List Int) {i : Nat} (h : i ≤ ls.length) : cutV (iV ls) (some (i : Int)) none = iV (ls.drop i) := by
  unfold cutV
  rw [HT.sIx_none, HT.sIx_nat, iV_len, Nat.min_eq_left h, iV_drop, List.take_of_length_le (by rw [iV_len, List.length_drop]; exact Nat.le_refl _)]
theorem few_even {n k : Nat} {ws qs : List (List Int)} (hn : 1 ≤ n) (hn7 : n ≤ 7) (hk : 1 ≤ k) (hw : ws.Sublist (combs (rng (n - 1)) k)) (nd : qs.Nodup) (hq : ∀ f, f ∈ qs ↔ f ∈ allF (wholes n ws) ∧ (allF (wholes n ws)).count f % 2 = 1) : FewB n k qs :=
  ⟨hn7, hk, fun r hr => allF_comb (k := k) (fun c hc => by
    obtain ⟨y, hy, rfl⟩ := List.mem_map.mp hc
    exact comb_whole hn (hw.subset hy)) ((hq r).mp hr).1, nd⟩
/-- a due outcome as data -/
def dDue : Due → PyData
  | .fine => .none
  | .lab f a => .tuple [.str "labels", .str f, .int a]
  | .odd f => .tuple [.str "odd", .int 0, .tuple (dI f)]
section
variable {P : Program} {w : World} {K : PySem.W.Frag} {mg : Str → Option Value} {base : Heap}
theorem DueAt.ext {H H' : Hp} {v : V} {d : Due} (h : DueAt H v d) (e : Ext H H') : DueAt H' v d := by
  cases d with
  | fine => exact h
  | lab f a =>
    obtain ⟨t, rfl, ht⟩ := h
    exact ⟨t, rfl, e _ _ ht⟩
  | odd f =>
    obtain ⟨t, v0, rfl, ht, tv⟩ := h
    exact ⟨t, v0, rfl, e _ _ ht, tv.ext e⟩
theorem due_dp {H : Hp} {v : V} {d : Due} (h : DueAt H v d) : Dp K H v (dDue d) := by
  cases d with
  | fine =>
    obtain rfl : v = .non := h
    exact .non
  | lab f a =>
    obtain ⟨t, rfl, ht⟩ := h
    exact .tup (.inl (.inl ht)) (.cons (.str _) (.cons (.str _) (.cons (.int _) .nil)))
  | odd f =>
    obtain ⟨t, v0, rfl, ht, tv⟩ := h
    exact .tup (.inl (.inl ht)) (.cons (.str _) (.cons (.int _) (.cons (dI_ti tv) .nil)))
theorem due_ok {d : Due} (h : d ≠ .fine) (hf : ∀ f, d = .odd f → f.length ≤ 1000) : DOk 3 (dDue d) := by
  cases d with
  | fine => exact absurd rfl h
  | lab f a =>
    refine .tup 2 _ (by show 3 ≤ 1000; decide) fun d hd => ?_
    rcases List.mem_cons.mp hd with rfl | hd
    · exact .str _ _
    · rcases List.mem_cons.mp hd with rfl | hd
      · exact .str _ _
      · rw [List.mem_singleton.mp hd]; exact .int _ _
  | odd f =>
    refine .tup 2 _ (by show 3 ≤ 1000; decide) fun d hd => ?_
    rcases List.mem_cons.mp hd with rfl | hd
    · exact .str _ _
    · rcases List.mem_cons.mp hd with rfl | hd
      · exact .int _ _
      · rw [List.mem_singleton.mp hd]; exact dok_I (hf f rfl)
def nSm : List Str := ["_law_script", "_law_n", "_law_size", "_law_rooms_here", "_law_labels_here", "_law_at", "_law_spoilt_here"]
def pSm : List Str := ["_law_script", "_law_n", "_law_size"]
theorem scSm : FnScope nSm pSm (defScope sSmall) := ⟨rfl, rfl, rfl, by decide +kernel, rfl, by decide +kernel, by decide +kernel⟩
def spSm (K : PySem.W.Frag) : Sp := fun vs H Q _ => ∃ (a : Addr) (ns : List Int) (n k : Nat), vs = [.ref a, .int (n : Int), .int (k : Int)] ∧ SqL K H a (iV ns) ∧ ns.length ≤ 63 ∧ 2 ≤ n ∧ n ≤ 7 ∧ 1 ≤ k ∧ k < n ∧ ∀ H', Ext H H' → Q (.bl true) H'
theorem ok_sm (T : Fx K mg) (Z : Fe P K mg) (Y : Fz K mg) (R : Fr K mg) : FnOk P w K mg base CX0 11 (He.ga K "_law_small") T.fd_law_small pSm (spSm K) := by
  have bC : Binds K T.fd_law_cell ["_law_script", "_law_k"] [] := T.F_law_cell.bindsN fun _ _ _ _ _ _ us hl => match us, hl with | [_, _], _ => rfl
  have bV : Binds K T.fd_law_even_rooms pSome [] := T.F_law_even_rooms.bindsN fun _ _ _ _ _ _ us hl => match us, hl with | [_, _, _], _ => rfl
  have bT : Binds K T.fd_law_turns pTurns [] := T.F_law_turns.bindsN fun _ _ _ _ _ _ us hl => match us, hl with | [_, _, _], _ => rfl
  have bR : Binds K T.fd_law_right pRt [] := T.F_law_right.bindsN fun _ _ _ _ _ _ us hl => match us, hl with | [_, _, _, _], _ => rfl
  have bS : Binds K T.fd_law_same ["_law_actual", "_law_due_here"] [] := T.F_law_same.bindsN fun _ _ _ _ _ _ us hl => match us, hl with | [_, _], _ => rfl
  have bB : Binds K T.fd_Book_init pBookI [] := T.F_Book_init.bindsN fun _ _ _ _ _ _ us hl => match us, hl with | [_, _, _, _], _ => rfl
  have bF : Binds K T.fd_law_refused pRf [] := T.F_law_refused.bindsN fun _ _ _ _ _ _ us hl => match us, hl with | [_, _], _ => rfl
  refine T.F_law_small.ok scSm (fun vs H Q E h => ?_) (fun cdv A outer s H vs Q E hr h => ⟨_, PSs.nox (pss_cons (ps_set (i := 3) scSm.nd rfl (Or.inl rfl) (pe_call (ok_even T) hr rfl T.g_law_even_rooms T.F_law_even_rooms.kp bV .nil pass0 (pa_cons (pv 1) (pa_cons (pv 2) (pa_cons (pe_call (ok_cell T) (hr.mono (by decide)) rfl T.g_law_cell T.F_law_cell.kp bC .nil pass0 (pa_cons (pv 0) (pa_cons pe_int pa_nil))) pa_nil)))))
    (pss_cons (ps_set (i := 4) scSm.nd rfl (Or.inl rfl) (pe_call (ok_turns T) (hr.mono (by decide)) rfl T.g_law_turns T.F_law_turns.kp bT .nil pass0 (pa_cons (pe_call (ok_cell T) (hr.mono (by decide)) rfl T.g_law_cell T.F_law_cell.kp bC .nil pass0 (pa_cons (pv 0) (pa_cons pe_int pa_nil))) (pa_cons (pv 1) (pa_cons (pv 2) pa_nil)))))
    (pss_cons (ps_if (pt_not (pt_val (pe_call (ok_rt T Z Y) hr rfl T.g_law_right T.F_law_right.kp bR .nil pass0 (pa_cons (pv 1) (pa_cons (pv 2) (pa_cons (pv 3) (pa_cons (pv 4) pa_nil))))))) (pss_one (ps_ret pe_bl)) pss_nil)
    (pss_cons (ps_set (i := 5) scSm.nd rfl (Or.inl rfl) (pe_op op_mod (pe_callTy call_int1 (by rfl) T.n_int (by decide +kernel) (pa_cons (pe_call (ok_cell T) (hr.mono (by decide)) rfl T.g_law_cell T.F_law_cell.kp bC .nil pass0 (pa_cons (pv 0) (pa_cons pe_int pa_nil))) pa_nil)) (pv 1)))
    (pss_cons (ps_set (i := 6) scSm.nd rfl (Or.inl rfl) (pe_op op_cat (pe_op op_cat (pe_slice sl_list (pv 4) po_none (po_some (pv 5))) (pe_lst (pa_cons (pe_ix ix_list (pe_lst (pa_cons pe_int (pa_cons (pe_op op_add (pv 2) pe_int) pa_nil))) (pe_op op_mod (pe_callTy call_int1 (by rfl) T.n_int (by decide +kernel) (pa_cons (pe_op op_fdiv (pe_call (ok_cell T) (hr.mono (by decide)) rfl T.g_law_cell T.F_law_cell.kp bC .nil pass0 (pa_cons (pv 0) (pa_cons pe_int pa_nil))) pe_int) pa_nil)) pe_int) (fun _ _ => rfl)) pa_nil)))
      (pe_slice sl_list (pv 4) (po_some (pe_op op_add (pv 5) pe_int)) po_none)))
    (pss_one (ps_ret (pe_call (ok_same T 3) (hr.mono (by decide)) rfl T.g_law_same T.F_law_same.kp bS .nil pass0 (pa_cons (pe_call (ok_rf T Z R) (hr.mono (by decide)) rfl T.g_law_refused T.F_law_refused.kp bF .nil pass0 (pa_cons (pe_make T.m_Book (ok_BookI T) (hr.mono (by decide)) rfl T.g_Book bB .nil pass0 (pa_cons (pv 1) (pa_cons (pv 2) (pa_cons (pv 3) pa_nil)))) (pa_cons (pv 6) pa_nil))) (pa_cons (pe_tup (pa_cons pe_str (pa_cons pe_str (pa_cons (pv 5) pa_nil)))) pa_nil)))))))))), ?_⟩)
  · obtain ⟨_, _, _, _, rfl, _⟩ := h
    rfl
  obtain ⟨a, ns, n, k, rfl, ha, hns, hn2, hn7, hk1, hkn, hq⟩ := h
  have sz : sizeLine = 16777216 := sizeLine_eq
  refine ⟨_, rfl, _, rfl, _, rfl, a, ns, 12, rfl, ha, hns, by decide, fun c12 => ?_⟩
  refine ⟨n, k, c12, rfl, by omega, hn7, by omega, fun p xs qs ws H1 e1 hp hpl tx hws nd mem pw => ?_⟩
  have fw := few_even (by omega) hn7 hk1 hws nd mem
  have hev := even_book (by omega) hws nd mem
  refine ⟨_, rfl, a, ns, 13, rfl, sqL_ext ha e1, hns, by decide, fun c13 => ?_⟩
  refine ⟨_, rfl, _, rfl, c13, n, k, rfl, hn7, hk1, by omega, fun pl ls H2 e2 hpl2 hll hlab hall => ?_⟩
  have hc := chk_none hlab (hall (by omega)) hk1 hkn
  refine ⟨_, rfl, _, rfl, _, rfl, _, rfl, n, k, p, pl, xs, qs, ls, rfl, e2 _ _ hpl, tx.ext e2, fw, by omega, pw, .inl (.inl hll), hlab.1, hc, hev, fun H3 e3 => ⟨_, rfl, ?_⟩⟩
  refine iteF ?_
  have e03 := (e1.trans e2).trans e3
  have hll3 := e3 _ _ hll
  refine ⟨_, rfl, a, ns, 14, rfl, sqL_ext ha e03, hns, by decide, fun c14 => .inl ⟨_, rfl, _, rfl, _, _, rfl, rfl, by show (0 : Int) < (n : Int); omega, ?_⟩⟩
  generalize hat : (fun (i j : Int) => V.int (i % j)) c14 (n : Int) = av
  obtain ⟨i, rfl, hi⟩ : ∃ i : Nat, av = .int (i : Int) ∧ i < n := by
    have m1 : 0 ≤ c14 % (n : Int) := Int.emod_nonneg _ (by omega)
    have m2 : c14 % (n : Int) < (n : Int) := Int.emod_lt_of_pos _ (by omega)
    refine ⟨(c14 % (n : Int)).toNat, ?_, by omega⟩
    rw [← hat]
    show V.int (c14 % (n : Int)) = _
    rw [Int.toNat_of_nonneg m1]
  have hl1 := hlab.1
  refine ⟨_, rfl, _, rfl, _, rfl, pl, iV ls, rfl, .inl (.inl hll3), fun p1 hp1 => ?_⟩
  rw [cut_to ls (by omega)]
  have f1 : Ext H3 (upd H3 p1 (.lst (iV (ls.take i)))) := Ext.upd hp1
  refine ⟨_, rfl, _, _, rfl, rfl, by show 2 ≤ sizeLine; omega, fun p2 hp2 => ?_⟩
  have f2 := f1.trans (Ext.upd (u := .lst (iV [0, (k : Int) + 1])) hp2)
  refine ⟨_, rfl, a, ns, 14, rfl, sqL_ext ha (e03.trans f2), hns, by decide, fun c15 => ⟨c15, 64, rfl, rfl, ⟨by decide, by decide⟩, .inl ⟨_, rfl, _, _, rfl, rfl, by show (0 : Int) < 2; decide, ?_⟩⟩⟩
  obtain ⟨z, hz, hzb⟩ : ∃ z : Int, atI (iV [0, (k : Int) + 1]) (c15 / 64 % 2) = some (.int z) ∧ (z < 1 ∨ (k : Int) < z) := by
    rcases (show c15 / 64 % 2 = 0 ∨ c15 / 64 % 2 = 1 by omega) with h | h <;> rw [h]
    · exact ⟨0, rfl, .inl (by decide)⟩
    · exact ⟨(k : Int) + 1, rfl, .inr (by omega)⟩
  refine ⟨p2, _, _, _, rfl, rfl, .inl (.inl upd_same), hz, by show 1 ≤ sizeLine; omega, fun p3 hp3 => ?_⟩
  have f3 := f2.trans (Ext.upd (u := .lst (iV [z])) hp3)
  have g1 : (upd (upd (upd H3 p1 (.lst (iV (ls.take i)))) p2 (.lst (iV [0, (k : Int) + 1]))) p3 (.lst (iV [z]))) p1 = some (.lst (iV (ls.take i))) := (Ext.upd hp3) _ _ ((Ext.upd hp2) _ _ upd_same)
  refine ⟨p1, p3, iV (ls.take i), iV [z], rfl, rfl, g1, upd_same, by rw [iV_len, List.length_take]; show min i ls.length + 1 ≤ sizeLine; omega, fun p4 hp4 => ?_⟩
  rw [iV_append]
  have f4 := f3.trans (Ext.upd (u := .lst (iV (ls.take i ++ [z]))) hp4)
  refine ⟨_, rfl, _, rfl, _, _, rfl, rfl, _, rfl, pl, iV ls, rfl, .inl (.inl (f4 _ _ hll3)), fun p5 hp5 => ?_⟩
  rw [show cutV (iV ls) (some ((i : Int) + 1)) none = iV (ls.drop (i + 1)) from cut_from ls (i := i + 1) (by omega)]
  have f5 := f4.trans (Ext.upd (u := .lst (iV (ls.drop (i + 1)))) hp5)
  refine ⟨p4, p5, iV (ls.take i ++ [z]), iV (ls.drop (i + 1)), rfl, rfl, (Ext.upd hp5) _ _ upd_same, upd_same, by rw [iV_len, iV_len, List.length_append, List.length_take, List.length_drop]; show min i ls.length + 1 + (ls.length - (i + 1)) ≤ sizeLine; omega, fun p6 hp6 => ?_⟩
  rw [iV_append]
  obtain ⟨hlen, hchk⟩ := chk_spoilt hlab hk1 hkn hi hzb
  generalize ls.take i ++ [z] ++ ls.drop (i + 1) = qz at hlen hchk
  have f6 := f5.trans (Ext.upd (u := .lst (iV qz)) hp6)
  have e16 := (e2.trans e3).trans f6
  refine ⟨_, rfl, _, rfl, _, rfl, ?_⟩
  intro x dx hx hdx hne
  refine mk_book (e16 _ _ hpl) (tx.ext e16) fw (by omega) pw hx hdx hne fun H7 e7 hb => ?_
  refine ⟨_, rfl, x, p6, n, k, qs, qz, .lab "label" (i : Int), rfl, hb, .inl (.inl (.inl (e7 _ _ upd_same))), by omega, fw, by omega, ?_, fun z => (by cases z), fun v H8 e8 hd => ?_⟩
  · unfold IsDue
    rw [if_neg (fun z => z hlen), hchk]
  refine ⟨_, rfl, by show 3 ≤ sizeLine; omega, fun t ht => ?_⟩
  have e9 : Ext H8 (upd H8 t (.tup [.str "labels", .str "label", .int (i : Int)])) := Ext.upd ht
  exact ⟨v, _, dDue (.lab "label" (i : Int)), rfl, due_dp (hd.ext e9), due_dp ⟨t, rfl, upd_same⟩, due_ok (fun z => by cases z) (fun f z => by cases z), hq _ ((e1.trans e16).trans (e7.trans (e8.trans e9)))⟩
end
end NA
set_option maxRecDepth 100000
set_option maxHeartbeats 4000000
/-! law. -/
namespace NA
open PySem PySem.Spec PyProof.Rows L2
theorem few_some {n k : Nat} {rs : List (List Int)} (hn7 : n ≤ 7) (hk : 1 ≤ k) (h : rs.Sublist (combs (rng n) k)) : FewB n k rs ∧ rs.Pairwise fun a b => cd a ≤ cd b :=
  ⟨⟨hn7, hk, fun r hr => h.subset hr, (combs_nodup (rng_pair n) (rng_ok (by omega))).sublist h⟩, ((combs_sorted (rng n) k (rng_pair n) (rng_ok (by omega))).sublist h).imp fun h => Int.le_of_lt h⟩
theorem due_fine {n k : Nat} {rs : List (List Int)} {ls : List Int} (h : IsDue n k rs ls .fine) : ls.length = n ∧ chkKinds ls k = none ∧ ∀ f, ¬ oddIn rs f := by
  unfold IsDue at h
  by_cases e : ls.length = n
  · rw [if_neg (fun z => z e)] at h
    cases hc : chkKinds ls k with
    | some fa =>
      obtain ⟨f, a⟩ := fa
      rw [hc] at h
      cases h
    | none =>
      rw [hc] at h
      rcases h with ⟨_, h⟩ | ⟨f, h, _⟩
      · exact ⟨e, rfl, h⟩
      · cases h
  · rw [if_pos e] at h
    cases h
theorem due_odd {n k : Nat} {rs : List (List Int)} {ls f : List Int} (h : IsDue n k rs ls (.odd f)) : oddIn rs f := by
  unfold IsDue at h
  by_cases e : ls.length = n
  · rw [if_neg (fun z => z e)] at h
    cases hc : chkKinds ls k with
    | some fa =>
      obtain ⟨g, a⟩ := fa
      rw [hc] at h
      cases h
    | none =>
      rw [hc] at h
      rcases h with ⟨h, _⟩ | ⟨g, h, ho, _⟩
      · cases h
      · cases h; exact ho
  · rw [if_pos e] at h
    cases h
theorem due_ref {H : Hp} {v : V} {d : Due} (h : DueAt H v d) (hn : d ≠ .fine) : ∃ t, v = .ref t := by
  cases d with
  | fine => exact absurd rfl hn
  | lab f a => obtain ⟨t, rfl, _⟩ := h; exact ⟨t, rfl⟩
  | odd f => obtain ⟨t, _, rfl, _⟩ := h; exact ⟨t, rfl⟩
section
variable {P : Program} {w : World} {K : PySem.W.Frag} {mg : Str → Option Value} {base : Heap}
/-- a statement, a word, the rest -/
def tCutA (t u : TS) : TS := fun D σ H => ∃ Mid : L2.St → Hp → Prop, t { D with nx := Mid } σ H ∧ ∀ σ' H', Mid σ' H' → u D σ' H'
theorem pss_cutA {X : Cx} {st : Stmt} {rest : List Stmt} {t u : TS} (h1 : PS X st t) (h2 : PSs X rest u) : PSs X (st :: rest) (tCutA t u) := ⟨fun pins s σ H D I ⟨Mid, hm, hu⟩ => wpAny_execs_cons (thn (h1.run pins s σ H { D with nx := Mid } I hm) fun f s1 q => match f, q with
  | .next, ⟨σ', H', I', q⟩ => h2.run pins s1 σ' H' D I' (hu σ' H' q)
  | .ret _, q => q
  | .brk, q => q
  | .cont, q => q)⟩
def nLw : List Str := ["_law_script", "_law_n", "_law_size", "_law_rooms_here", "_law_labels_here", "_law_kept", "_law_due_here", "_law_book_here"]
theorem scLw : FnScope nLw ["_law_script"] (defScope sLaw) := ⟨rfl, rfl, rfl, by decide +kernel, rfl, by decide +kernel, by decide +kernel⟩
def spLaw (K : PySem.W.Frag) : Sp := fun vs H Q _ => ∃ (a : Addr) (ns : List Int), vs = [.ref a] ∧ SqL K H a (iV ns) ∧ ns.length ≤ 63 ∧ ∀ H', Q (.bl true) H'
theorem ok_law (T : Fx K mg) (Z : Fe P K mg) (Y : Fz K mg) (R : Fr K mg) : FnOk P w K mg base CX0 12 (He.ga K "law") T.fd_law ["_law_script"] (spLaw K) := by
  have bC : Binds K T.fd_law_cell ["_law_script", "_law_k"] [] := T.F_law_cell.bindsN fun _ _ _ _ _ _ us hl => match us, hl with | [_, _], _ => rfl
  have bV : Binds K T.fd_law_even_rooms pSome [] := T.F_law_even_rooms.bindsN fun _ _ _ _ _ _ us hl => match us, hl with | [_, _, _], _ => rfl
  have bM : Binds K T.fd_law_some_rooms pSome [] := T.F_law_some_rooms.bindsN fun _ _ _ _ _ _ us hl => match us, hl with | [_, _, _], _ => rfl
  have bL : Binds K T.fd_law_labels pLabels [] := T.F_law_labels.bindsN fun _ _ _ _ _ _ us hl => match us, hl with | [_, _, _], _ => rfl
  have bP : Binds K T.fd_law_spoilt pSp [] := T.F_law_spoilt.bindsN fun _ _ _ _ _ _ us hl => match us, hl with | [_, _, _], _ => rfl
  have bD : Binds K T.fd_law_due pDue [] := T.F_law_due.bindsN fun _ _ _ _ _ _ us hl => match us, hl with | [_, _, _, _], _ => rfl
  have bR : Binds K T.fd_law_right pRt [] := T.F_law_right.bindsN fun _ _ _ _ _ _ us hl => match us, hl with | [_, _, _, _], _ => rfl
  have bS : Binds K T.fd_law_same ["_law_actual", "_law_due_here"] [] := T.F_law_same.bindsN fun _ _ _ _ _ _ us hl => match us, hl with | [_, _], _ => rfl
  have bB : Binds K T.fd_Book_init pBookI [] := T.F_Book_init.bindsN fun _ _ _ _ _ _ us hl => match us, hl with | [_, _, _, _], _ => rfl
  have bF : Binds K T.fd_law_refused pRf [] := T.F_law_refused.bindsN fun _ _ _ _ _ _ us hl => match us, hl with | [_, _], _ => rfl
  have bU : Binds K T.fd_law_small pSm [] := T.F_law_small.bindsN fun _ _ _ _ _ _ us hl => match us, hl with | [_, _, _], _ => rfl
  have bN : Binds K T.fd_Book_len ["self"] [] := T.F_Book_len.bindsN fun _ _ _ _ _ _ us hl => match us, hl with | [_], _ => rfl
  refine T.F_law.ok scLw (fun vs H Q E h => ?_) (fun cdv A outer s H vs Q E hr h => ⟨_, PSs.nox (pss_cons (ps_set (i := 1) scLw.nd rfl (Or.inl rfl) (pe_op op_add pe_int (pe_op op_mod (pe_callTy call_int1 (by rfl) T.n_int (by decide +kernel) (pa_cons (pe_op op_fdiv (pe_call (ok_cell T) (hr.mono (by decide)) rfl T.g_law_cell T.F_law_cell.kp bC .nil pass0 (pa_cons (pv 0) (pa_cons pe_int pa_nil))) pe_int) pa_nil)) pe_int)))
    (pss_cons (ps_set (i := 2) scLw.nd rfl (Or.inl rfl) (pe_op op_add pe_int (pe_op op_mod (pe_callTy call_int1 (by rfl) T.n_int (by decide +kernel) (pa_cons (pe_op op_fdiv (pe_call (ok_cell T) (hr.mono (by decide)) rfl T.g_law_cell T.F_law_cell.kp bC .nil pass0 (pa_cons (pv 0) (pa_cons pe_int pa_nil))) pe_int) pa_nil)) (pe_op op_sub (pv 1) pe_int))))
    (pss_cutA (ps_if (pt_cmpR op_eq (pe_op op_mod (pe_callTy call_int1 (by rfl) T.n_int (by decide +kernel) (pa_cons (pe_op op_fdiv (pe_call (ok_cell T) (hr.mono (by decide)) rfl T.g_law_cell T.F_law_cell.kp bC .nil pass0 (pa_cons (pv 0) (pa_cons pe_int pa_nil))) pe_int) pa_nil)) pe_int) pe_int (nomark _)) (pss_one (ps_set (i := 2) scLw.nd rfl (Or.inl rfl) (pv 1))) pss_nil)
    (pss_cutA (ps_if (pt_cmpR op_eq (pe_op op_mod (pe_callTy call_int1 (by rfl) T.n_int (by decide +kernel) (pa_cons (pe_op op_fdiv (pe_call (ok_cell T) (hr.mono (by decide)) rfl T.g_law_cell T.F_law_cell.kp bC .nil pass0 (pa_cons (pv 0) (pa_cons pe_int pa_nil))) pe_int) pa_nil)) pe_int) pe_int (nomark _)) (pss_one (ps_set (i := 3) scLw.nd rfl (Or.inl rfl) (pe_call (ok_some T) (hr.mono (by decide)) rfl T.g_law_some_rooms T.F_law_some_rooms.kp bM .nil pass0 (pa_cons (pv 1) (pa_cons (pv 2) (pa_cons (pe_call (ok_cell T) (hr.mono (by decide)) rfl T.g_law_cell T.F_law_cell.kp bC .nil pass0 (pa_cons (pv 0) (pa_cons pe_int pa_nil))) pa_nil)))))) (pss_one (ps_set (i := 3) scLw.nd rfl (Or.inl rfl) (pe_call (ok_even T) (hr.mono (by decide)) rfl T.g_law_even_rooms T.F_law_even_rooms.kp bV .nil pass0 (pa_cons (pv 1) (pa_cons (pv 2) (pa_cons (pe_call (ok_cell T) (hr.mono (by decide)) rfl T.g_law_cell T.F_law_cell.kp bC .nil pass0 (pa_cons (pv 0) (pa_cons pe_int pa_nil))) pa_nil)))))))
    (pss_cons (ps_set (i := 4) scLw.nd rfl (Or.inl rfl) (pe_call (ok_sp T) (hr.mono (by decide)) rfl T.g_law_spoilt T.F_law_spoilt.kp bP .nil pass0 (pa_cons (pv 0) (pa_cons (pe_call (ok_labels T) (hr.mono (by decide)) rfl T.g_law_labels T.F_law_labels.kp bL .nil pass0 (pa_cons (pv 0) (pa_cons (pv 1) (pa_cons (pv 2) pa_nil)))) (pa_cons (pv 2) pa_nil)))))
    (pss_cons (ps_set (i := 5) scLw.nd rfl (Or.inl rfl) (pe_callTy call_list_of (by rfl) T.n_list (by decide +kernel) (pa_cons (pv 4) pa_nil)))
    (pss_cons (ps_set (i := 6) scLw.nd rfl (Or.inl rfl) (pe_call (ok_due T) (hr.mono (by decide)) rfl T.g_law_due T.F_law_due.kp bD .nil pass0 (pa_cons (pv 1) (pa_cons (pv 2) (pa_cons (pv 3) (pa_cons (pv 4) pa_nil))))))
    (pss_cons (ps_set (i := 7) scLw.nd rfl (Or.inl rfl) (pe_make T.m_Book (ok_BookI T) (hr.mono (by decide)) rfl T.g_Book bB .nil pass0 (pa_cons (pv 1) (pa_cons (pv 2) (pa_cons (pv 3) pa_nil)))))
    (pss_cutA (ps_if (pt_cmpR op_isN (pv 6) pe_non (nomark _)) (pss_one (ps_if (pt_not (pt_val (pe_call (ok_rt T Z Y) (hr.mono (by decide)) rfl T.g_law_right T.F_law_right.kp bR .nil pass0 (pa_cons (pv 1) (pa_cons (pv 2) (pa_cons (pv 3) (pa_cons (pv 4) pa_nil))))))) (pss_one (ps_ret pe_bl)) pss_nil)) (pss_one (ps_if (PW.pt (pw_or (pt_not (pt_val (pe_call (ok_same T 3) (hr.mono (by decide)) rfl T.g_law_same T.F_law_same.kp bS .nil pass0 (pa_cons (pe_call (ok_rf T Z R) (hr.mono (by decide)) rfl T.g_law_refused T.F_law_refused.kp bF .nil pass0 (pa_cons (pv 7) (pa_cons (pv 4) pa_nil))) (pa_cons (pv 6) pa_nil))))) (pw_or1 (pt_not (pt_val (pe_call (ok_same T 3) (hr.mono (by decide)) rfl T.g_law_same T.F_law_same.kp bS .nil pass0 (pa_cons (pe_call (ok_rf T Z R) (hr.mono (by decide)) rfl T.g_law_refused T.F_law_refused.kp bF .nil pass0 (pa_cons (pv 7) (pa_cons (pe_callTy call_tuple_of (by rfl) T.n_tuple (by decide +kernel) (pa_cons (pv 4) pa_nil)) pa_nil))) (pa_cons (pv 6) pa_nil)))))))) (pss_one (ps_ret pe_bl)) pss_nil)))
    (pss_cutA (ps_if (PW.pt (pw_or (pt_not (pt_val (pe_call (ok_sm T Z Y R) hr rfl T.g_law_small T.F_law_small.kp bU .nil pass0 (pa_cons (pv 0) (pa_cons (pv 1) (pa_cons (pe_callB (call_min2 rfl) (by rfl) T.n_min (by decide +kernel) (pa_cons (pv 2) (pa_cons (pe_op op_sub (pv 1) pe_int) pa_nil))) pa_nil)))))) (pw_or1 (pt_cmpR (op_neD hr.units) (pv 4) (pv 5) (nomark _))))) (pss_one (ps_ret pe_bl)) pss_nil)
    (pss_cons (ps_if (pt_cmpR op_isN (pv 6) pe_non (nomark _)) (pss_one (ps_ret (pe_call (ok_rt T Z Y) (hr.mono (by decide)) rfl T.g_law_right T.F_law_right.kp bR .nil pass0 (pa_cons (pv 1) (pa_cons (pv 2) (pa_cons (pv 3) (pa_cons (pv 4) pa_nil))))))) pss_nil)
    (pss_one (ps_ret (pe_and (pe_call (ok_same T 3) (hr.mono (by decide)) rfl T.g_law_same T.F_law_same.kp bS .nil pass0 (pa_cons (pe_call (ok_rf T Z R) (hr.mono (by decide)) rfl T.g_law_refused T.F_law_refused.kp bF .nil pass0 (pa_cons (pv 7) (pa_cons (pv 4) pa_nil))) (pa_cons (pv 6) pa_nil))) (pe_one (pe_cmpR (op_eqD hr.units) (pe_callTy (call_listOT rfl (it_B T Y) Y.lnB (ok_BLen T) bN (hr.mono (by decide))) (by rfl) T.n_list (by decide +kernel) (pa_cons (pv 7) pa_nil)) (pv 3) (nomark _))))))))))))))))), ?_⟩)
  · obtain ⟨_, _, rfl, _⟩ := h
    rfl
  obtain ⟨a, ns, rfl, ha, hns, hq⟩ := h
  have sz : sizeLine = 16777216 := sizeLine_eq
  refine ⟨_, rfl, a, ns, 0, rfl, ha, hns, by decide, fun c0 => ?_⟩
  refine ⟨c0, 64, rfl, rfl, ⟨by decide, by decide⟩, .inl ⟨_, rfl, _, _, rfl, rfl, by show (0 : Int) < 6; decide, _, _, rfl, rfl, ?_⟩⟩
  generalize hnv : (fun (i j : Int) => V.int (i + j)) 2 (c0 / 64 % 6) = nv
  obtain ⟨n, rfl, hn2, hn7⟩ : ∃ n : Nat, nv = .int (n : Int) ∧ 2 ≤ n ∧ n ≤ 7 := by
    refine ⟨(2 + c0 / 64 % 6).toNat, ?_, by omega, by omega⟩
    rw [← hnv]
    show V.int (2 + c0 / 64 % 6) = _
    rw [Int.toNat_of_nonneg (by omega)]
  refine ⟨_, rfl, a, ns, 1, rfl, ha, hns, by decide, fun c1 => ?_⟩
  refine ⟨c1, 1024, rfl, rfl, ⟨by decide, by decide⟩, .inl ⟨_, rfl, _, rfl, _, _, rfl, rfl, _, _, rfl, rfl, by show (0 : Int) < (n : Int) - 1; omega, _, _, rfl, rfl, ?_⟩⟩
  generalize hkv : (fun (i j : Int) => V.int (i + j)) 1 (c1 / 1024 % ((n : Int) - 1)) = kv
  obtain ⟨k0, rfl, hk01, hk02⟩ : ∃ k : Nat, kv = .int (k : Int) ∧ 1 ≤ k ∧ k ≤ n := by
    have m1 : 0 ≤ c1 / 1024 % ((n : Int) - 1) := Int.emod_nonneg _ (by omega)
    have m2 : c1 / 1024 % ((n : Int) - 1) < (n : Int) - 1 := Int.emod_lt_of_pos _ (by omega)
    refine ⟨(1 + c1 / 1024 % ((n : Int) - 1)).toNat, ?_, by omega, by omega⟩
    rw [← hkv]
    show V.int (1 + c1 / 1024 % ((n : Int) - 1)) = _
    rw [Int.toNat_of_nonneg (by omega)]
  refine ⟨fun σ' H' => H' = H ∧ ∃ k : Nat, 1 ≤ k ∧ k ≤ n ∧ σ' = [some (.ref a), some (.int (n : Int)), some (.int (k : Int)), none, none, none, none, none], ?_, ?_⟩
  · refine ⟨_, rfl, a, ns, 1, rfl, ha, hns, by decide, fun c2 => ?_⟩
    refine ⟨c2, 64, rfl, rfl, ⟨by decide, by decide⟩, .inl ⟨_, rfl, _, _, rfl, rfl, by show (0 : Int) < 16; decide, rfl, _, rfl, ?_⟩⟩
    refine ite2 (fun _ => ?_) fun _ => ?_
    · exact ⟨_, rfl, rfl, n, by omega, by omega, rfl⟩
    · exact ⟨rfl, k0, hk01, hk02, rfl⟩
  rintro σ' H' ⟨rfl, k, hk1, hkn, rfl⟩
  refine ⟨fun σ' H2 => Ext H' H2 ∧ ∃ (p : Addr) (xs : List V) (rs : List (List Int)), H2 p = some (.lst xs) ∧ TIs H2 xs rs ∧ FewB n k rs ∧ rs.Pairwise (fun a b => cd a ≤ cd b) ∧ σ' = [some (.ref a), some (.int (n : Int)), some (.int (k : Int)), some (.ref p), none, none, none, none], ?_, ?_⟩
  · refine ⟨_, rfl, a, ns, 2, rfl, ha, hns, by decide, fun c2 => ?_⟩
    refine ⟨c2, 64, rfl, rfl, ⟨by decide, by decide⟩, .inl ⟨_, rfl, _, _, rfl, rfl, by show (0 : Int) < 4; decide, rfl, _, rfl, ?_⟩⟩
    refine ite2 (fun _ => ?_) fun _ => ?_
    · refine ⟨_, rfl, _, rfl, _, rfl, a, ns, 3, rfl, ha, hns, by decide, fun c3 => ?_⟩
      refine ⟨n, k, c3, rfl, hn7, by omega, fun p xs rs H2 e2 hp hpl tx hsub => ?_⟩
      obtain ⟨fw, pw⟩ := few_some hn7 hk1 hsub
      exact ⟨e2, p, xs, rs, hpl, tx, fw, pw, rfl⟩
    · refine ⟨_, rfl, _, rfl, _, rfl, a, ns, 3, rfl, ha, hns, by decide, fun c3 => ?_⟩
      refine ⟨n, k, c3, rfl, by omega, hn7, by omega, fun p xs qs ws H2 e2 hp hpl tx hws nd mem pw => ?_⟩
      exact ⟨e2, p, xs, qs, hpl, tx, few_even (by omega) hn7 hk1 hws nd mem, pw, rfl⟩
  rintro σ' H2 ⟨e2, p, xs, rs, hp, tx, fw, pw, rfl⟩
  have hl35 := few_len fw
  -- the labels
  refine ⟨_, rfl, _, rfl, _, rfl, _, rfl, a, ns, n, k, rfl, sqL_ext ha e2, hns, hn7, hk1, by omega, fun p0 l0 H3 e3 hp0 hl0 hlab0 => ?_⟩
  refine ⟨_, rfl, a, p0, ns, l0, n, k, rfl, sqL_ext ha (e2.trans e3), hns, hl0, hlab0, hn2, hn7, hk1, by omega, fun pl ls H4 e4 hpl hll hlen => ?_⟩
  refine ⟨_, rfl, pl, iV ls, rfl, .inl (.inl (.inl hll)), fun pk hpk => ?_⟩
  have e5 : Ext H4 (upd H4 pk (.lst (iV ls))) := Ext.upd hpk
  have e25 := (e3.trans e4).trans e5
  refine ⟨_, rfl, _, rfl, _, rfl, _, rfl, n, k, p, pl, xs, rs, ls, rfl, e25 _ _ hp, tx.ext e25, .inl (.inl (e5 _ _ hll)), by omega, hk1, by omega, fw, fun d dv H6 e6 hd hdv => ?_⟩
  have e26 := e25.trans e6
  refine ⟨_, rfl, _, rfl, _, rfl, ?_⟩
  intro x dx hx hdx hne
  refine mk_book (e26 _ _ hp) (tx.ext e26) fw hkn pw hx hdx hne fun H7 e7 hb => ?_
  have e27 := e26.trans e7
  have hll7 : H7 pl = some (.lst (iV ls)) := (e5.trans (e6.trans e7)) _ _ hll
  have hpk7 : H7 pk = some (.lst (iV ls)) := (e6.trans e7) _ _ upd_same
  have hdv7 := hdv.ext e7
  have hp7 := e27 _ _ hp
  have tx7 := tx.ext e27
  have ha7 := sqL_ext ha (e2.trans e27)
  have hok : d ≠ .fine → DOk 3 (dDue d) := fun hne => due_ok hne fun f z => by
    subst z
    have h1 := (due_odd hd).1
    obtain ⟨m, hm⟩ : ∃ m, k = m + 1 := ⟨k - 1, by omega⟩
    have h2 := (mem_combs.mp (allF_comb (k := m) (fun c hc => by rw [← hm]; exact fw.2.2.1 c hc) h1)).2
    omega
  have hT : decide (dv = V.non) = true → d = .fine := fun z => Classical.byContradiction fun g => by
    obtain ⟨t, e⟩ := due_ref hdv g
    rw [of_decide_eq_true z] at e
    cases e
  have hF : ¬ decide (dv = V.non) = true → d ≠ .fine := fun z g => by
    subst g
    exact z (decide_eq_true (show dv = V.non from hdv))
  refine ⟨fun σ' H' => Ext H7 H' ∧ σ' = [some (.ref a), some (.int (n : Int)), some (.int (k : Int)), some (.ref p), some (.ref pl), some (.ref pk), some dv, some (.ref x)], ?_, ?_⟩
  · refine ⟨_, rfl, rfl, _, rfl, ?_⟩
    refine ite2 (fun hdf => ?_) fun hdf => ?_
    · obtain rfl := hT hdf
      obtain ⟨h1, h2, h3⟩ := due_fine hd
      refine ⟨_, rfl, _, rfl, _, rfl, _, rfl, n, k, p, pl, xs, rs, ls, rfl, hp7, tx7, fw, hkn, pw, .inl (.inl hll7), h1, h2, h3, fun H8 e8 => ⟨_, rfl, ?_⟩⟩
      exact iteF ⟨e8, rfl⟩
    · have hne := hF hdf
      refine ⟨_, rfl, _, rfl, x, pl, n, k, rs, ls, d, rfl, hb, .inl (.inl (.inl hll7)), by omega, fw, by omega, hd, hne, fun v H8 e8 hv => ?_⟩
      refine ⟨_, rfl, v, dv, dDue d, rfl, due_dp hv, due_dp (hdv7.ext e8), hok hne, _, rfl, ?_⟩
      refine ⟨_, rfl, _, rfl, pl, iV ls, rfl, .inl ⟨.inl (.inl (e8 _ _ hll7)), fun tp htp => ?_⟩⟩
      have e9 := e8.trans (Ext.upd (u := .tup (iV ls)) htp)
      refine ⟨x, tp, n, k, rs, ls, d, rfl, book_ext hb e9, .inr (.inl (.inl upd_same)), by omega, fw, by omega, hd, hne, fun v2 HA eA hv2 => ?_⟩
      refine ⟨_, rfl, v2, dv, dDue d, rfl, due_dp hv2, due_dp (hdv7.ext (e9.trans eA)), hok hne, _, rfl, ?_⟩
      exact iteF ⟨e9.trans eA, rfl⟩
  rintro σ' H8 ⟨e8, rfl⟩
  refine ⟨fun σ' H' => Ext H7 H' ∧ σ' = [some (.ref a), some (.int (n : Int)), some (.int (k : Int)), some (.ref p), some (.ref pl), some (.ref pk), some dv, some (.ref x)], ?_, ?_⟩
  · have hmin : (if (n : Int) - 1 < (k : Int) then (n : Int) - 1 else (k : Int)) = ((min k (n - 1) : Nat) : Int) := by
      split <;> omega
    refine ⟨_, rfl, _, rfl, _, rfl, _, rfl, _, _, rfl, rfl, _, _, rfl, a, ns, n, min k (n - 1), congrArg (fun z => [V.ref a, V.int (n : Int), V.int z]) hmin, sqL_ext ha7 e8, hns, hn2, hn7, by omega, by omega, fun H9 e9 => ⟨_, rfl, ?_⟩⟩
    have e89 := e8.trans e9
    refine ⟨_, rfl, _, rfl, neL_read (.inl (.inl (e89 _ _ hll7))) (.inl (.inl (e89 _ _ hpk7))) ⟨_, rfl, ?_⟩⟩
    rw [decide_eq_true rfl]
    exact iteF ⟨e89, rfl⟩
  rintro σ' H9 ⟨e9, rfl⟩
  refine ⟨_, rfl, rfl, _, rfl, ?_⟩
  refine ite2 (fun hdf => ?_) fun hdf => ?_
  · obtain rfl := hT hdf
    obtain ⟨h1, h2, h3⟩ := due_fine hd
    exact ⟨_, rfl, _, rfl, _, rfl, _, rfl, n, k, p, pl, xs, rs, ls, rfl, e9 _ _ hp7, tx7.ext e9, fw, hkn, pw, .inl (.inl (e9 _ _ hll7)), h1, h2, h3, fun HA eA => hq _⟩
  · have hne := hF hdf
    refine ⟨_, rfl, _, rfl, x, pl, n, k, rs, ls, d, rfl, book_ext hb e9, .inl (.inl (.inl (e9 _ _ hll7))), by omega, fw, by omega, hd, hne, fun v HA eA hv => ?_⟩
    have e7A := e9.trans eA
    refine ⟨_, rfl, v, dv, dDue d, rfl, due_dp hv, due_dp (hdv7.ext e7A), hok hne, _, rfl, iteT ?_⟩
    obtain ⟨dx2, t2, ys2, hx2, ht2, tx2⟩ := book_ext hb e7A
    refine ⟨_, rfl, x, dx2, _, t2, ys2, rfl, hx2, rfl, ht2, by rw [tx2.1]; omega, fun HB eB => ⟨x, dx2, _, t2, ys2, rfl, eB _ _ hx2, rfl, eB _ _ ht2, rfl, rfl⟩, fun q hq1 => ?_⟩
    have eC : Ext HA (upd HA q (.lst ys2)) := Ext.upd hq1
    refine ⟨_, rfl, eqLT_read (.inl (.inl upd_same)) (tx2.ext eC) (.inl (.inl ((e7A.trans eC) _ _ hp7))) (tx7.ext (e7A.trans eC)) ?_⟩
    rw [decide_eq_true rfl]
    exact hq _
end
end NA
set_option maxRecDepth 100000
set_option maxHeartbeats 0
/-! what is asked of the head. -/
namespace NA
open PySem PySem.Spec PyProof.Rows L2
def d_faces : He.DefD := ⟨("faces", none), "faces", "faces", defArgs sFaces, defBody sFaces, defScope sFaces, [], []⟩
def d_merged : He.DefD := ⟨("merged", none), "merged", "merged", defArgs sMerged, defBody sMerged, defScope sMerged, [], []⟩
def d_complement : He.DefD := ⟨("complement", none), "complement", "complement", defArgs sComplement, defBody sComplement, defScope sComplement, [], []⟩
def d_shuffle_sign : He.DefD := ⟨("shuffle_sign", none), "shuffle_sign", "shuffle_sign", defArgs sShuffle, defBody sShuffle, defScope sShuffle, [], []⟩
def d_room_fault : He.DefD := ⟨("room_fault", none), "room_fault", "room_fault", defArgs sRoomFault, defBody sRoomFault, defScope sRoomFault, [], []⟩
def d_face_counts : He.DefD := ⟨("face_counts", none), "face_counts", "face_counts", defArgs sFaceCounts, defBody sFaceCounts, defScope sFaceCounts, [], []⟩
def d_check_labels : He.DefD := ⟨("check_labels", none), "check_labels", "check_labels", defArgs sCheckLabels, defBody sCheckLabels, defScope sCheckLabels, [], []⟩
def d_label_book : He.DefD := ⟨("label_book", none), "label_book", "label_book", defArgs sLabelBook, defBody sLabelBook, defScope sLabelBook, [], []⟩
def d_list_partitions : He.DefD := ⟨("list_partitions", none), "list_partitions", "list_partitions", defArgs sListPart, defBody sListPart, defScope sListPart, [], [("most", .int 5000)]⟩
def d_count_partitions : He.DefD := ⟨("count_partitions", none), "count_partitions", "count_partitions", defArgs sCountPart, defBody sCountPart, defScope sCountPart, [], []⟩
def d_extended_ways : He.DefD := ⟨("extended_ways", none), "extended_ways", "extended_ways", defArgs sExtWays, defBody sExtWays, defScope sExtWays, [], []⟩
def d_tail_ways : He.DefD := ⟨("tail_ways", none), "tail_ways", "tail_ways", defArgs sTailWays, defBody sTailWays, defScope sTailWays, [], []⟩
def d_count_choices : He.DefD := ⟨("count_choices", none), "count_choices", "count_choices", defArgs sCountChoices, defBody sCountChoices, defScope sCountChoices, [], []⟩
def d_walk_choices : He.DefD := ⟨("walk_choices", none), "walk_choices", "walk_choices", defArgs sWalk, defBody sWalk, defScope sWalk, [], []⟩
def d_list_choices : He.DefD := ⟨("list_choices", none), "list_choices", "list_choices", defArgs sListChoices, defBody sListChoices, defScope sListChoices, [], []⟩
def d_check_labels2 : He.DefD := ⟨("_check_labels", none), "_check_labels", "_check_labels", defArgs sCheckLabels2, defBody sCheckLabels2, defScope sCheckLabels2, [], []⟩
def d_full_rooms : He.DefD := ⟨("full_rooms", none), "full_rooms", "full_rooms", defArgs sFullRooms, defBody sFullRooms, defScope sFullRooms, [], []⟩
def d_label_family : He.DefD := ⟨("label_family", none), "label_family", "label_family", defArgs sLabelFamily, defBody sLabelFamily, defScope sLabelFamily, [], []⟩
def d_law_cell : He.DefD := ⟨("_law_cell", none), "_law_cell", "_law_cell", defArgs sCell, defBody sCell, defScope sCell, [], []⟩
def d_law_same : He.DefD := ⟨("_law_same", none), "_law_same", "_law_same", defArgs sSame, defBody sSame, defScope sSame, [], []⟩
def d_law_order : He.DefD := ⟨("_law_order", none), "_law_order", "_law_order", defArgs sOrder, defBody sOrder, defScope sOrder, [], []⟩
def d_law_rooms : He.DefD := ⟨("_law_rooms", none), "_law_rooms", "_law_rooms", defArgs sRooms, defBody sRooms, defScope sRooms, [], []⟩
def d_law_some_rooms : He.DefD := ⟨("_law_some_rooms", none), "_law_some_rooms", "_law_some_rooms", defArgs sSomeRooms, defBody sSomeRooms, defScope sSomeRooms, [], []⟩
def d_law_even_rooms : He.DefD := ⟨("_law_even_rooms", none), "_law_even_rooms", "_law_even_rooms", defArgs sEvenRooms, defBody sEvenRooms, defScope sEvenRooms, [], []⟩
def d_law_table : He.DefD := ⟨("_law_table", none), "_law_table", "_law_table", defArgs sTable, defBody sTable, defScope sTable, [], []⟩
def d_law_odd : He.DefD := ⟨("_law_odd", none), "_law_odd", "_law_odd", defArgs sOdd, defBody sOdd, defScope sOdd, [], []⟩
def d_law_turns : He.DefD := ⟨("_law_turns", none), "_law_turns", "_law_turns", defArgs sTurns, defBody sTurns, defScope sTurns, [], []⟩
def d_law_labels : He.DefD := ⟨("_law_labels", none), "_law_labels", "_law_labels", defArgs sLabels, defBody sLabels, defScope sLabels, [], []⟩
def d_law_spoilt : He.DefD := ⟨("_law_spoilt", none), "_law_spoilt", "_law_spoilt", defArgs sSpoilt, defBody sSpoilt, defScope sSpoilt, [], []⟩
def d_law_due : He.DefD := ⟨("_law_due", none), "_law_due", "_law_due", defArgs sDue, defBody sDue, defScope sDue, [], []⟩
def d_law_refused : He.DefD := ⟨("_law_refused", none), "_law_refused", "_law_refused", defArgs sRefused, defBody sRefused, defScope sRefused, [], []⟩
def d_law_book : He.DefD := ⟨("_law_book", none), "_law_book", "_law_book", defArgs sLBook, defBody sLBook, defScope sLBook, [], []⟩
def d_law_rest : He.DefD := ⟨("_law_rest", none), "_law_rest", "_law_rest", defArgs sRest, defBody sRest, defScope sRest, [], []⟩
def d_law_full : He.DefD := ⟨("_law_full", none), "_law_full", "_law_full", defArgs sFull, defBody sFull, defScope sFull, [], []⟩
def d_law_right : He.DefD := ⟨("_law_right", none), "_law_right", "_law_right", defArgs sRight, defBody sRight, defScope sRight, [], []⟩
def d_law_small : He.DefD := ⟨("_law_small", none), "_law_small", "_law_small", defArgs sSmall, defBody sSmall, defScope sSmall, [], []⟩
def d_law : He.DefD := ⟨("law", none), "law", "law", defArgs sLaw, defBody sLaw, defScope sLaw, [], []⟩
def d_Book_init : He.DefD := ⟨("Book", some "__init__"), "__init__", "Book.__init__", defArgs sBookI, defBody sBookI, defScope sBookI, [], []⟩
def d_Book_iter : He.DefD := ⟨("Book", some "__iter__"), "__iter__", "Book.__iter__", defArgs sBookIter, defBody sBookIter, defScope sBookIter, [], []⟩
def d_Book_len : He.DefD := ⟨("Book", some "__len__"), "__len__", "Book.__len__", defArgs sBookLen, defBody sBookLen, defScope sBookLen, [], []⟩
def d_Book_odd_faces : He.DefD := ⟨("Book", some "odd_faces"), "odd_faces", "Book.odd_faces", defArgs sOddFaces, defBody sOddFaces, defScope sOddFaces, [], []⟩
def d_Family_init : He.DefD := ⟨("Family", some "__init__"), "__init__", "Family.__init__", defArgs sFamI, defBody sFamI, defScope sFamI, [], []⟩
def d_Family_len : He.DefD := ⟨("Family", some "__len__"), "__len__", "Family.__len__", defArgs sFamLen, defBody sFamLen, defScope sFamLen, [], []⟩
def d_Family_iter : He.DefD := ⟨("Family", some "__iter__"), "__iter__", "Family.__iter__", defArgs sFamIter, defBody sFamIter, defScope sFamIter, [], []⟩
def d_Family_getitem : He.DefD := ⟨("Family", some "__getitem__"), "__getitem__", "Family.__getitem__", defArgs sFamGet, defBody sFamGet, defScope sFamGet, [], []⟩
def d_NotEven_init : He.DefD := ⟨("NotEven", some "__init__"), "__init__", "NotEven.__init__", defArgs sNotEvenI, defBody sNotEvenI, defScope sNotEvenI, [], []⟩
def d_BadLabels_init : He.DefD := ⟨("BadLabels", some "__init__"), "__init__", "BadLabels.__init__", defArgs sBadLabelsI, defBody sBadLabelsI, defScope sBadLabelsI, [], []⟩
def fn : List He.DefD := [d_faces, d_merged, d_complement, d_shuffle_sign, d_room_fault, d_face_counts, d_check_labels, d_label_book, d_list_partitions, d_count_partitions, d_extended_ways, d_tail_ways, d_count_choices, d_walk_choices, d_list_choices, d_check_labels2, d_full_rooms, d_label_family, d_law_cell, d_law_same, d_law_order, d_law_rooms, d_law_some_rooms, d_law_even_rooms, d_law_table, d_law_odd, d_law_turns, d_law_labels, d_law_spoilt, d_law_due, d_law_refused, d_law_book, d_law_rest, d_law_full, d_law_right, d_law_small, d_law, d_Book_init, d_Book_iter, d_Book_len, d_Book_odd_faces, d_Family_init, d_Family_len, d_Family_iter, d_Family_getitem]
def fa : List He.Fa := [.glo "NeverAloneError", .glo "BadBook", .glo "Mismatch", .glo "NotEven", .glo "BadFamily", .glo "TooMany", .glo "BadLabels", .glo "faces", .glo "merged", .glo "complement", .glo "shuffle_sign", .glo "room_fault", .glo "Book", .glo "face_counts", .glo "Family", .glo "check_labels", .glo "label_book", .glo "list_partitions", .glo "count_partitions", .glo "extended_ways", .glo "tail_ways", .glo "count_choices", .glo "walk_choices", .glo "list_choices", .glo "_check_labels", .glo "full_rooms", .glo "label_family", .glo "_law_cell", .glo "_law_same", .glo "_law_order", .glo "_law_rooms", .glo "_law_some_rooms", .glo "_law_even_rooms", .glo "_law_table", .glo "_law_odd", .glo "_law_turns", .glo "_law_labels", .glo "_law_spoilt", .glo "_law_due", .glo "_law_refused", .glo "_law_book", .glo "_law_rest", .glo "_law_full", .glo "_law_right", .glo "_law_small", .glo "law", .free "len", .free "tuple", .free "sorted", .free "list", .free "range", .free "set", .free "enumerate", .free "isinstance", .free "sum", .free "reversed", .free "abs", .free "int", .free "min", .free "bool", .free "str", .free "ValueError", .cls "Book", .mkr "Book", .cls "Family", .mkr "Family", .noat "Book" "places", .noat "Book" "size", .noat "Book" "rooms", .noat "Family" "places", .noat "Family" "books", .exm "BadLabels" "BadLabels" true, .exm "BadLabels" "NotEven" false, .exm "BadLabels" "NeverAloneError" true, .exm "NotEven" "BadLabels" false, .exm "NotEven" "NotEven" true, .exm "NotEven" "NeverAloneError" true, .free "iter", .free "super", .meth "Book" "odd_faces"]
/-! ### the own errors with their __init__ -/
abbrev FnCv : Type := Option (Str × Str × Arguments × FuncBody × Scope × Addr × List Str × Addr)
def fnC (K : PySem.W.Frag) (f : Addr) : FnCv := match K.lookup f with
  | some ⟨_, _, .func fd, _⟩ => some (fd.name, fd.qualname, fd.params, fd.body, fd.scope, fd.globals, fd.closure.map (·.1), fd.builtins)
  | _ => none
def valC (qual : Str) (st : Stmt) : FnCv := some ("__init__", qual, defArgs st, .stmts (defBody st), defScope st, mainGlobals, ["__class__"], builtinsNs)
def fileB (K : PySem.W.Frag) : Value → Bool
  | .ref c => (match K.lookup c with
    | some ⟨_, _, .fields vs, _⟩ => (match (vs[2]? : Option Value) with
      | some (.str file _) => ((prog0.main.file : Str) == file)
      | _ => false)
    | _ => false)
  | _ => false
def cellB (K : PySem.W.Frag) (C : Addr) : List (Str × Addr) → Bool
  | [q] => (match K.lookup q.2 with
    | some ⟨_, _, .cell (some (.ref a)), _⟩ => decide (a = C)
    | _ => false)
  | _ => false
def noneB : Value → Bool
  | .none => true
  | _ => false
def fnB (K : PySem.W.Frag) (C f : Addr) (qual : Str) : Bool := match K.lookup f with
  | some ⟨_, _, .func fd, _⟩ => noneB fd.defaults && (PySem.W.codeIn K fd.code qual && (fileB K fd.code && cellB K C fd.closure))
  | _ => false
def slotB : List (Option Value) → Bool
  | [_, _, _, _, some (.builtin id), _] => decide (id = "ValueError.__new__")
  | _ => false
def mroB (K : PySem.W.Frag) (C : Addr) : List Value → Bool
  | .ref a :: bm => decide (a = C) && (PySem.HandSPX.refsVE bm && He.eqO (PySem.W.alongIn K "__init__" bm) (some (some (.builtin "ValueError.__init__"))))
  | _ => false
def clsB (K : PySem.W.Frag) (C : Addr) : Bool := match K.lookup C with
  | some ⟨.type c, _, .cls cd, sl⟩ => decide (c = "type") && (mroB K C cd.mro && (cd.hasDict && (!cd.hasDel && slotB sl.toList)))
  | _ => false
def oB (a : Option Bool) (b : Bool) : Bool := decide (a = some b)
def vB (a : Option Value) (b : Value) : Bool := decide (a = some b)
def xtB (K : PySem.W.Frag) (C f : Addr) (qual f1 f2 : Str) : Bool := clsB K C && (He.eqO (PySem.W.findIn K (.ref C) "__setattr__") (some (some (.builtin "object.__setattr__"))) && (He.eqO (PySem.W.findIn K (.ref C) f1) (some none) && (He.eqO (PySem.W.findIn K (.ref C) f2) (some none) &&
  (He.eqO (PySem.W.findIn K (.ref C) "__init__") (some (some (.ref f))) && (vB (PySem.W.typeIn K (.ref f)) (.type "function") && (PySem.W.keepIn K (.ref C) && (oB (PySem.W.subIn K (.ref C) (.type "BaseException")) true && (oB (PySem.W.subIn K (.ref C) (.type "ValueError")) true &&
  (vB (PySem.W.typeIn K (.ref C)) (.type "type") && (oB (PySem.W.mroIn K C (.ref C)) true && (He.eqO (PySem.W.nsIn K cStatics "thirdparty.any") (some none) && fnB K C f qual)))))))))))
def insB (K : PySem.W.Frag) (C : Addr) : Bool := He.eqO (PySem.W.findIn K (.ref C) "__class__") (some (some (.builtin "object.__class__"))) && (He.eqO (PySem.W.specialIn K (.builtin "object.__class__") "__get__") (some (some (.builtin "getset_descriptor.__get__"))) && (oB (PySem.W.takesIn K (.builtin "object.__class__")) true && oB (PySem.W.mroIn K C (.type "object")) true))
def excB (K : PySem.W.Frag) (C : Addr) : Bool := xfB K C && (insB K C && (PySem.W.clsIn K C).isSome)
def spB (K : PySem.W.Frag) (C : Addr) (m : Str) : Bool := He.eqO (PySem.W.findIn K (.ref C) m) (some (some (.ref (He.ma K C m)))) && PySem.W.isFn K (.ref (He.ma K C m))
def fzB (K : PySem.W.Frag) : Bool := spB K (cB K) "__iter__" && (spB K (cF K) "__iter__" && (spB K (cB K) "__len__" && (spB K (cF K) "__len__" && (spB K (cF K) "__getitem__" && (PySem.W.fnIn K (He.ma K (cF K) "__getitem__") && (insB K (cB K) && insB K (cF K)))))))
def frB (K : PySem.W.Frag) : Bool := oB (PySem.W.kitOne K (.ref (cBL K)) (.ref (cNA K))) true && (oB (PySem.W.kitOne K (.ref (cBL K)) (.type "ValueError")) true && (oB (PySem.W.kitAny K (.ref (cBL K)) [.ref (cBF K), .ref (cMM K), .ref (cNE K)]) false && (oB (PySem.W.kitOne K (.ref (cNE K)) (.ref (cNA K))) true && oB (PySem.W.kitOne K (.ref (cNE K)) (.ref (cBF K))) false)))
def valB : Option PySem.W.CFound → Bool
  | some (.val (.int i _)) => decide (i = 12)
  | _ => false
def rdB (K : PySem.W.Frag) : Bool := PySem.W.readsIn K (cB K) (.type "type") && (He.eqO (PySem.W.specialIn K (.ref (cB K)) "__getattribute__") (some (some (.builtin "type.__getattribute__"))) && valB (PySem.W.findCls K (.ref (cB K)) (.type "type") "MOST_PLACES"))
def exN (K : PySem.W.Frag) : Bool := xtB K (cBL K) (He.ma K (cBL K) "__init__") "BadLabels.__init__" "fault" "at" && (xtB K (cNE K) (He.ma K (cNE K) "__init__") "NotEven.__init__" "at" "face" && (excB K (cBL K) && (excB K (cNE K) && (fzB K && (frB K && rdB K)))))
abbrev AlN : Type := He.AlD × (FnCv × FnCv) × Bool
def obsN (K : PySem.W.Frag) : AlN := (He.obsD fa fn K, (fnC K (He.ma K (cBL K) "__init__"), fnC K (He.ma K (cNE K) "__init__")), exN K)
def vlN : AlN := (He.valD fn, (valC "BadLabels.__init__" sBadLabelsI, valC "NotEven.__init__" sNotEvenI), true)
def asN (g : Addr → Option Obj) : List Addr := cStatics :: He.asD g 5
def obsG (g : Addr → Option Obj) : AlN := obsN (He.frG g (asN g))
def hk : PySem.W.Hook where
  α := AlN
  obs := fun s => obsG s.heap.get?
  val := fun _ => vlN
  says := fun _ h => ∃ K : PySem.W.Frag, K.In h ∧ obsN K = vlN
  of := fun _ _ e => ⟨_, He.frG_in, e⟩
  keeps := fun _ _ _ ⟨K, hK, c⟩ k => ⟨K, PySem.W.Frag.In.keeps hK k, c⟩
abbrev R : PySem.W.OpenRow := PySem.W.OpenLaw.row PySem.Challenge.rw_neveralone_k68_whole_full_rooms_are_part
def ob (s : PySem.W.SharedT) : AlN := obsG (HandSHeadRun.getT s)
theorem ob_eq (s : PySem.W.SharedT) : ob s = hk.obs s.abs := by
  have e : HandSHeadRun.getT s = s.abs.heap.get? := funext (HandSHeadRun.getT_eq s)
  unfold ob
  rw [e]
  rfl
def lo1 : List Str := ["__name__", "_wall", "NeverAloneError", "BadBook", "Mismatch", "NotEven", "BadFamily", "TooMany", "BadLabels", "faces", "merged", "complement", "shuffle_sign", "room_fault", "Book", "face_counts", "Family", "check_labels", "label_book", "MOST_LISTED", "list_partitions", "count_partitions", "extended_ways", "tail_ways"]
def lo2 : List Str := ["count_choices", "walk_choices", "list_choices", "_check_labels", "full_rooms", "label_family", "_law_cell", "_law_same", "_law_order", "_law_rooms", "_law_some_rooms", "_law_even_rooms", "_law_table", "_law_odd", "_law_turns", "_law_labels", "_law_spoilt", "_law_due", "_law_refused", "_law_book", "_law_rest", "_law_full", "_law_right", "_law_small"]
def loose : List Str := lo1 ++ lo2
end NA
set_option maxRecDepth 100000
set_option maxHeartbeats 4000000
/-! from the head to the facts. -/
namespace NA
open PySem PySem.Spec PyProof.Rows L2
theorem oB_ok {a : Option Bool} {b : Bool} (h : oB a b = true) : a = some b := of_decide_eq_true h
theorem vB_ok {a : Option Value} {b : Value} (h : vB a b = true) : a = some b := of_decide_eq_true h
section
variable {K : PySem.W.Frag}
theorem slot_of {l : List (Option Value)} (h : slotB l = true) : ∃ k0 k1 k2 k3 k5, l = [k0, k1, k2, k3, some (.builtin "ValueError.__new__"), k5] := by
  unfold slotB at h
  split at h
  · obtain rfl := of_decide_eq_true h
    exact ⟨_, _, _, _, _, rfl⟩
  · cases h
theorem mro_of {C : Addr} {l : List Value} (h : mroB K C l = true) : ∃ bm, l = .ref C :: bm ∧ PySem.HandSPX.refsVE bm = true ∧ PySem.W.alongIn K "__init__" bm = some (some (.builtin "ValueError.__init__")) := by
  unfold mroB at h
  split at h
  · obtain ⟨g1, g⟩ := He.ba h
    obtain ⟨g2, g3⟩ := He.ba g
    obtain rfl := of_decide_eq_true g1
    exact ⟨_, rfl, g2, He.eqO_ok g3⟩
  · cases h
theorem cls_of {C : Addr} (h : clsB K C = true) : ∃ nm q N bs bm sn sub ab col dd k0 k1 k2 k3 k5, K.lookup C = some (excClassObj nm q C N bs bm true sn sub ab col dd k0 k1 k2 k3 k5 "ValueError.__new__") ∧ PySem.HandSPX.refsVE bm = true ∧ PySem.W.alongIn K "__init__" bm = some (some (.builtin "ValueError.__init__")) := by
  unfold clsB at h
  split at h
  · rename_i c dd cd sl e
    obtain ⟨h1, h⟩ := He.ba h
    obtain ⟨h2, h⟩ := He.ba h
    obtain ⟨h3, h⟩ := He.ba h
    obtain ⟨h4, h5⟩ := He.ba h
    obtain ⟨nm, bs, mro, N, q, hd, sn, sub, ab, col, dl⟩ := cd
    obtain rfl : hd = true := h3
    obtain rfl : dl = false := by simpa using h4
    obtain rfl := of_decide_eq_true h1
    obtain ⟨sl⟩ := sl
    obtain ⟨bm, em, g2, g3⟩ := mro_of (show mroB K C mro = true from h2)
    obtain ⟨k0, k1, k2, k3, k5, es⟩ := slot_of (show slotB sl = true from h5)
    subst em es
    exact ⟨nm, q, N, bs, bm, sn, sub, ab, col, dd, k0, k1, k2, k3, k5, e, g2, g3⟩
  · cases h
theorem file_of {v : Value} (h : fileB K v = true) : ∃ cda, v = .ref cda ∧ ∃ ccl cdd vs ccs file tf, K.lookup cda = some ⟨ccl, cdd, .fields vs, ccs⟩ ∧ vs[2]? = some (.str file tf) ∧ ((prog0.main.file : Str) == file) = true := by
  cases v with
  | ref c =>
    refine ⟨c, rfl, ?_⟩
    unfold fileB at h
    dsimp only at h
    split at h
    · rename_i a b vs d e
      split at h
      · rename_i file tf e2
        exact ⟨_, _, _, _, file, tf, e, e2, h⟩
      · cases h
    · cases h
  | _ => cases h
theorem cell_of {C : Addr} {l : List (Str × Addr)} (h : cellB K C l = true) : ∃ x cc, l = [(x, cc)] ∧ ∃ cl cld csl, K.lookup cc = some ⟨cl, cld, .cell (some (.ref C)), csl⟩ := by
  unfold cellB at h
  split at h
  · rename_i q
    obtain ⟨x, cc⟩ := q
    refine ⟨x, cc, rfl, ?_⟩
    dsimp only at h
    split at h
    · rename_i a b c d e
      obtain rfl := of_decide_eq_true h
      exact ⟨_, _, _, e⟩
    · cases h
  · cases h
theorem fn_of' {C f : Addr} {qual : Str} {st : Stmt} (h : fnB K C f qual = true) (e : fnC K f = valC qual st) : ∃ (oc : Value) (od : Option Addr) (kV doc pm : Value) (an : Option Addr) (cda cc : Addr) (ct : Value) (osl : Array (Option Value)),
    K.lookup f = some ⟨oc, od, .func (PySem.W.fnX "__init__" qual (defArgs st) (defBody st) (defScope st) [("__class__", cc)] .none kV doc pm an (.ref cda) ct), osl⟩ ∧ PySem.W.codeIn K (.ref cda) qual = true ∧
    (∃ ccl cdd vs ccs file tf, K.lookup cda = some ⟨ccl, cdd, .fields vs, ccs⟩ ∧ vs[2]? = some (.str file tf) ∧ ((prog0.main.file : Str) == file) = true) ∧ ∃ cl cld csl, K.lookup cc = some ⟨cl, cld, .cell (some (.ref C)), csl⟩ := by
  unfold fnB at h
  unfold fnC at e
  cases q : K.lookup f with
  | none => rw [q] at h; cases h
  | some ob =>
    rw [q] at h e
    obtain ⟨oc, od, dt, osl⟩ := ob
    cases dt with
    | func fd =>
      dsimp only at h e
      obtain ⟨n1, n2, n3, n4, n5, n6, n7, n8, n9, n10, n11, n12, n13, n14, n15⟩ := fd
      obtain ⟨h1, h⟩ := He.ba h
      obtain ⟨h2, h⟩ := He.ba h
      obtain ⟨h3, h4⟩ := He.ba h
      obtain ⟨x, cc, ec, hc⟩ := cell_of h4
      obtain ⟨cda, ed, hd⟩ := file_of h3
      dsimp only at ec ed
      subst ec ed
      have e2 : (some (n1, n2, n3, n4, n5, n6, [x], n15) : FnCv) = some (("__init__" : Str), qual, defArgs st, FuncBody.stmts (defBody st), defScope st, mainGlobals, [("__class__" : Str)], builtinsNs) := e
      simp only [Option.some.injEq, Prod.mk.injEq, List.cons.injEq, and_true] at e2
      obtain ⟨g1, g2, g3, g4, g5, g6, g7, g8⟩ := e2
      subst g1 g2 g3 g4 g5 g6 g7 g8
      have : n8 = .none := by
        cases n8 with
        | none => rfl
        | _ => cases h1
      subst this
      exact ⟨oc, od, n9, n10, n11, n12, cda, cc, n14, osl, rfl, h2, hd, hc⟩
    | _ => cases h
theorem xt_of {C f : Addr} {qual f1 f2 : Str} {st : Stmt} (h : xtB K C f qual f1 f2 = true) (e : fnC K f = valC qual st) : XTxt prog0 K C f st qual f1 f2 := by
  obtain ⟨a1, h⟩ := He.ba h
  obtain ⟨a2, h⟩ := He.ba h
  obtain ⟨a3, h⟩ := He.ba h
  obtain ⟨a4, h⟩ := He.ba h
  obtain ⟨a5, h⟩ := He.ba h
  obtain ⟨a6, h⟩ := He.ba h
  obtain ⟨a7, h⟩ := He.ba h
  obtain ⟨a8, h⟩ := He.ba h
  obtain ⟨a9, h⟩ := He.ba h
  obtain ⟨b1, h⟩ := He.ba h
  obtain ⟨b2, h⟩ := He.ba h
  obtain ⟨b3, b4⟩ := He.ba h
  exact { cls := cls_of a1, sa := He.eqO_ok a2, no1 := He.eqO_ok a3, no2 := He.eqO_ok a4, iC := He.eqO_ok a5, tI := vB_ok a6, kC := a7, exC := oB_ok a8, veC := oB_ok a9, tyC := vB_ok b1, self := oB_ok b2, stat := He.eqO_ok b3, fn := fn_of' b4 e, top := by decide +kernel }
theorem ins_of {C : Addr} (h : insB K C = true) : InsC K C := by
  obtain ⟨a1, h⟩ := He.ba h
  obtain ⟨a2, h⟩ := He.ba h
  obtain ⟨a3, a4⟩ := He.ba h
  exact ⟨He.eqO_ok a1, He.eqO_ok a2, oB_ok a3, oB_ok a4⟩
theorem exc_of {C : Addr} (h : excB K C = true) : XfC K C ∧ ExcC K C ∧ (PySem.W.clsIn K C).isSome = true := by
  obtain ⟨a1, h⟩ := He.ba h
  obtain ⟨a2, a3⟩ := He.ba h
  have f := xfB_ok a1
  have i := ins_of a2
  exact ⟨f, ⟨f.ga, f.gg, f.exC, f.hdC, i.ha, i.hn, i.ht, i.hm⟩, a3⟩
theorem sp_of {C : Addr} {m : Str} (h : spB K C m = true) : PySem.W.findIn K (.ref C) m = some (some (.ref (He.ma K C m))) ∧ PySem.W.isFn K (.ref (He.ma K C m)) = true := by
  obtain ⟨a1, a2⟩ := He.ba h
  exact ⟨He.eqO_ok a1, a2⟩
theorem val_ok (h : valB (PySem.W.findCls K (.ref (cB K)) (.type "type") "MOST_PLACES") = true) : ∃ u, ClX.CVal K (cB K) (.type "type") "MOST_PLACES" (.int 12) u := by
  unfold valB at h
  split at h
  · rename_i i t e
    obtain rfl := of_decide_eq_true h
    exact ⟨_, e, t, rfl⟩
  · cases h
theorem facts {h : Heap} {mg : Str → Option Value} (X : K.In h) (G : h.Ns mainGlobals mg) (c : obsN K = vlN) : ∃ T : Fx K mg, Fe prog0 K mg ∧ Fz K mg ∧ Fr K mg := by
  have c1 : He.SaysD fa fn K := congrArg (fun z : AlN => z.1) c
  have c2 : fnC K (He.ma K (cBL K) "__init__") = valC "BadLabels.__init__" sBadLabelsI := congrArg (fun z : AlN => z.2.1.1) c
  have c3 : fnC K (He.ma K (cNE K) "__init__") = valC "NotEven.__init__" sNotEvenI := congrArg (fun z : AlN => z.2.1.2) c
  have c4 : exN K = true := congrArg (fun z : AlN => z.2.2) c
  obtain ⟨x1, c4⟩ := He.ba c4
  obtain ⟨x2, c4⟩ := He.ba c4
  obtain ⟨x3, c4⟩ := He.ba c4
  obtain ⟨x4, c4⟩ := He.ba c4
  obtain ⟨x5, c4⟩ := He.ba c4
  obtain ⟨x6, x7⟩ := He.ba c4
  obtain ⟨r1, x7⟩ := He.ba x7
  obtain ⟨r2, r3⟩ := He.ba x7
  obtain ⟨f3, g3, h3⟩ := exc_of x3
  obtain ⟨f4, g4, h4⟩ := exc_of x4
  obtain ⟨y1, x5⟩ := He.ba x5
  obtain ⟨y2, x5⟩ := He.ba x5
  obtain ⟨y3, x5⟩ := He.ba x5
  obtain ⟨y4, x5⟩ := He.ba x5
  obtain ⟨y5, x5⟩ := He.ba x5
  obtain ⟨y6, x5⟩ := He.ba x5
  obtain ⟨y7, y8⟩ := He.ba x5
  obtain ⟨z1, x6⟩ := He.ba x6
  obtain ⟨z2, x6⟩ := He.ba x6
  obtain ⟨z3, x6⟩ := He.ba x6
  obtain ⟨z4, z5⟩ := He.ba x6
  obtain ⟨w0, W0⟩ := c1.def_ 0 (d := d_faces) rfl
  obtain ⟨w1, W1⟩ := c1.def_ 1 (d := d_merged) rfl
  obtain ⟨w2, W2⟩ := c1.def_ 2 (d := d_complement) rfl
  obtain ⟨w3, W3⟩ := c1.def_ 3 (d := d_shuffle_sign) rfl
  obtain ⟨w4, W4⟩ := c1.def_ 4 (d := d_room_fault) rfl
  obtain ⟨w5, W5⟩ := c1.def_ 5 (d := d_face_counts) rfl
  obtain ⟨w6, W6⟩ := c1.def_ 6 (d := d_check_labels) rfl
  obtain ⟨w7, W7⟩ := c1.def_ 7 (d := d_label_book) rfl
  obtain ⟨w8, W8⟩ := c1.def_ 8 (d := d_list_partitions) rfl
  obtain ⟨w9, W9⟩ := c1.def_ 9 (d := d_count_partitions) rfl
  obtain ⟨w10, W10⟩ := c1.def_ 10 (d := d_extended_ways) rfl
  obtain ⟨w11, W11⟩ := c1.def_ 11 (d := d_tail_ways) rfl
  obtain ⟨w12, W12⟩ := c1.def_ 12 (d := d_count_choices) rfl
  obtain ⟨w13, W13⟩ := c1.def_ 13 (d := d_walk_choices) rfl
  obtain ⟨w14, W14⟩ := c1.def_ 14 (d := d_list_choices) rfl
  obtain ⟨w15, W15⟩ := c1.def_ 15 (d := d_check_labels2) rfl
  obtain ⟨w16, W16⟩ := c1.def_ 16 (d := d_full_rooms) rfl
  obtain ⟨w17, W17⟩ := c1.def_ 17 (d := d_label_family) rfl
  obtain ⟨w18, W18⟩ := c1.def_ 18 (d := d_law_cell) rfl
  obtain ⟨w19, W19⟩ := c1.def_ 19 (d := d_law_same) rfl
  obtain ⟨w20, W20⟩ := c1.def_ 20 (d := d_law_order) rfl
  obtain ⟨w21, W21⟩ := c1.def_ 21 (d := d_law_rooms) rfl
  obtain ⟨w22, W22⟩ := c1.def_ 22 (d := d_law_some_rooms) rfl
  obtain ⟨w23, W23⟩ := c1.def_ 23 (d := d_law_even_rooms) rfl
  obtain ⟨w24, W24⟩ := c1.def_ 24 (d := d_law_table) rfl
  obtain ⟨w25, W25⟩ := c1.def_ 25 (d := d_law_odd) rfl
  obtain ⟨w26, W26⟩ := c1.def_ 26 (d := d_law_turns) rfl
  obtain ⟨w27, W27⟩ := c1.def_ 27 (d := d_law_labels) rfl
  obtain ⟨w28, W28⟩ := c1.def_ 28 (d := d_law_spoilt) rfl
  obtain ⟨w29, W29⟩ := c1.def_ 29 (d := d_law_due) rfl
  obtain ⟨w30, W30⟩ := c1.def_ 30 (d := d_law_refused) rfl
  obtain ⟨w31, W31⟩ := c1.def_ 31 (d := d_law_book) rfl
  obtain ⟨w32, W32⟩ := c1.def_ 32 (d := d_law_rest) rfl
  obtain ⟨w33, W33⟩ := c1.def_ 33 (d := d_law_full) rfl
  obtain ⟨w34, W34⟩ := c1.def_ 34 (d := d_law_right) rfl
  obtain ⟨w35, W35⟩ := c1.def_ 35 (d := d_law_small) rfl
  obtain ⟨w36, W36⟩ := c1.def_ 36 (d := d_law) rfl
  obtain ⟨w37, W37⟩ := c1.def_ 37 (d := d_Book_init) rfl
  obtain ⟨w38, W38⟩ := c1.def_ 38 (d := d_Book_iter) rfl
  obtain ⟨w39, W39⟩ := c1.def_ 39 (d := d_Book_len) rfl
  obtain ⟨w40, W40⟩ := c1.def_ 40 (d := d_Book_odd_faces) rfl
  obtain ⟨w41, W41⟩ := c1.def_ 41 (d := d_Family_init) rfl
  obtain ⟨w42, W42⟩ := c1.def_ 42 (d := d_Family_len) rfl
  obtain ⟨w43, W43⟩ := c1.def_ 43 (d := d_Family_iter) rfl
  obtain ⟨w44, W44⟩ := c1.def_ 44 (d := d_Family_getitem) rfl
  refine ⟨{ fd_faces := w0, F_faces := W0, g_faces := He.glo_ok X G (c1.fact 7 (f := .glo "faces") rfl), fd_merged := w1, F_merged := W1, g_merged := He.glo_ok X G (c1.fact 8 (f := .glo "merged") rfl), fd_complement := w2, F_complement := W2, g_complement := He.glo_ok X G (c1.fact 9 (f := .glo "complement") rfl), fd_shuffle_sign := w3, F_shuffle_sign := W3, g_shuffle_sign := He.glo_ok X G (c1.fact 10 (f := .glo "shuffle_sign") rfl), fd_room_fault := w4, F_room_fault := W4, g_room_fault := He.glo_ok X G (c1.fact 11 (f := .glo "room_fault") rfl), fd_face_counts := w5, F_face_counts := W5, g_face_counts := He.glo_ok X G (c1.fact 13 (f := .glo "face_counts") rfl), fd_check_labels := w6, F_check_labels := W6, g_check_labels := He.glo_ok X G (c1.fact 15 (f := .glo "check_labels") rfl), fd_label_book := w7, F_label_book := W7, g_label_book := He.glo_ok X G (c1.fact 16 (f := .glo "label_book") rfl), fd_list_partitions := w8, F_list_partitions := W8, g_list_partitions := He.glo_ok X G (c1.fact 17 (f := .glo "list_partitions") rfl), fd_count_partitions := w9, F_count_partitions := W9, g_count_partitions := He.glo_ok X G (c1.fact 18 (f := .glo "count_partitions") rfl), fd_extended_ways := w10, F_extended_ways := W10, g_extended_ways := He.glo_ok X G (c1.fact 19 (f := .glo "extended_ways") rfl), fd_tail_ways := w11, F_tail_ways := W11, g_tail_ways := He.glo_ok X G (c1.fact 20 (f := .glo "tail_ways") rfl), fd_count_choices := w12, F_count_choices := W12, g_count_choices := He.glo_ok X G (c1.fact 21 (f := .glo "count_choices") rfl), fd_walk_choices := w13, F_walk_choices := W13, g_walk_choices := He.glo_ok X G (c1.fact 22 (f := .glo "walk_choices") rfl), fd_list_choices := w14, F_list_choices := W14, g_list_choices := He.glo_ok X G (c1.fact 23 (f := .glo "list_choices") rfl), fd_check_labels2 := w15, F_check_labels2 := W15, g_check_labels2 := He.glo_ok X G (c1.fact 24 (f := .glo "_check_labels") rfl), fd_full_rooms := w16, F_full_rooms := W16, g_full_rooms := He.glo_ok X G (c1.fact 25 (f := .glo "full_rooms") rfl), fd_label_family := w17, F_label_family := W17, g_label_family := He.glo_ok X G (c1.fact 26 (f := .glo "label_family") rfl), fd_law_cell := w18, F_law_cell := W18, g_law_cell := He.glo_ok X G (c1.fact 27 (f := .glo "_law_cell") rfl), fd_law_same := w19, F_law_same := W19, g_law_same := He.glo_ok X G (c1.fact 28 (f := .glo "_law_same") rfl), fd_law_order := w20, F_law_order := W20, g_law_order := He.glo_ok X G (c1.fact 29 (f := .glo "_law_order") rfl), fd_law_rooms := w21, F_law_rooms := W21, g_law_rooms := He.glo_ok X G (c1.fact 30 (f := .glo "_law_rooms") rfl), fd_law_some_rooms := w22, F_law_some_rooms := W22, g_law_some_rooms := He.glo_ok X G (c1.fact 31 (f := .glo "_law_some_rooms") rfl), fd_law_even_rooms := w23, F_law_even_rooms := W23, g_law_even_rooms := He.glo_ok X G (c1.fact 32 (f := .glo "_law_even_rooms") rfl), fd_law_table := w24, F_law_table := W24, g_law_table := He.glo_ok X G (c1.fact 33 (f := .glo "_law_table") rfl), fd_law_odd := w25, F_law_odd := W25, g_law_odd := He.glo_ok X G (c1.fact 34 (f := .glo "_law_odd") rfl), fd_law_turns := w26, F_law_turns := W26, g_law_turns := He.glo_ok X G (c1.fact 35 (f := .glo "_law_turns") rfl), fd_law_labels := w27, F_law_labels := W27, g_law_labels := He.glo_ok X G (c1.fact 36 (f := .glo "_law_labels") rfl), fd_law_spoilt := w28, F_law_spoilt := W28, g_law_spoilt := He.glo_ok X G (c1.fact 37 (f := .glo "_law_spoilt") rfl), fd_law_due := w29, F_law_due := W29, g_law_due := He.glo_ok X G (c1.fact 38 (f := .glo "_law_due") rfl), fd_law_refused := w30, F_law_refused := W30, g_law_refused := He.glo_ok X G (c1.fact 39 (f := .glo "_law_refused") rfl), fd_law_book := w31, F_law_book := W31, g_law_book := He.glo_ok X G (c1.fact 40 (f := .glo "_law_book") rfl), fd_law_rest := w32, F_law_rest := W32, g_law_rest := He.glo_ok X G (c1.fact 41 (f := .glo "_law_rest") rfl), fd_law_full := w33, F_law_full := W33, g_law_full := He.glo_ok X G (c1.fact 42 (f := .glo "_law_full") rfl), fd_law_right := w34, F_law_right := W34, g_law_right := He.glo_ok X G (c1.fact 43 (f := .glo "_law_right") rfl), fd_law_small := w35, F_law_small := W35, g_law_small := He.glo_ok X G (c1.fact 44 (f := .glo "_law_small") rfl), fd_law := w36, F_law := W36, g_law := He.glo_ok X G (c1.fact 45 (f := .glo "law") rfl), fd_Book_init := w37, F_Book_init := W37, fd_Book_iter := w38, F_Book_iter := W38, fd_Book_len := w39, F_Book_len := W39, fd_Book_odd_faces := w40, F_Book_odd_faces := W40, fd_Family_init := w41, F_Family_init := W41, fd_Family_len := w42, F_Family_len := W42, fd_Family_iter := w43, F_Family_iter := W43, fd_Family_getitem := w44, F_Family_getitem := W44, n_len := He.free_ok X G (c1.fact 46 (f := .free "len") rfl), n_tuple := He.free_ok X G (c1.fact 47 (f := .free "tuple") rfl), n_sorted := He.free_ok X G (c1.fact 48 (f := .free "sorted") rfl), n_list := He.free_ok X G (c1.fact 49 (f := .free "list") rfl), n_range := He.free_ok X G (c1.fact 50 (f := .free "range") rfl), n_set := He.free_ok X G (c1.fact 51 (f := .free "set") rfl), n_enumerate := He.free_ok X G (c1.fact 52 (f := .free "enumerate") rfl), n_isinstance := He.free_ok X G (c1.fact 53 (f := .free "isinstance") rfl), n_sum := He.free_ok X G (c1.fact 54 (f := .free "sum") rfl), n_reversed := He.free_ok X G (c1.fact 55 (f := .free "reversed") rfl), n_abs := He.free_ok X G (c1.fact 56 (f := .free "abs") rfl), n_int := He.free_ok X G (c1.fact 57 (f := .free "int") rfl), n_min := He.free_ok X G (c1.fact 58 (f := .free "min") rfl), n_bool := He.free_ok X G (c1.fact 59 (f := .free "bool") rfl), n_str := He.free_ok X G (c1.fact 60 (f := .free "str") rfl), g_Book := He.glo_ok X G (c1.fact 12 (f := .glo "Book") rfl), c_Book := He.cls_ok (c1.fact 62 (f := .cls "Book") rfl), m_Book := He.mkr_ok (c1.fact 63 (f := .mkr "Book") rfl), na_Book_places := He.noat_ok (c1.fact 66 (f := .noat "Book" "places") rfl), na_Book_size := He.noat_ok (c1.fact 67 (f := .noat "Book" "size") rfl), na_Book_rooms := He.noat_ok (c1.fact 68 (f := .noat "Book" "rooms") rfl), g_Family := He.glo_ok X G (c1.fact 14 (f := .glo "Family") rfl), c_Family := He.cls_ok (c1.fact 64 (f := .cls "Family") rfl), m_Family := He.mkr_ok (c1.fact 65 (f := .mkr "Family") rfl), na_Family_places := He.noat_ok (c1.fact 69 (f := .noat "Family" "places") rfl), na_Family_books := He.noat_ok (c1.fact 70 (f := .noat "Family" "books") rfl), cr_Book := ⟨r1, He.eqO_ok r2⟩, cv_Book := val_ok r3, me_odd := He.meth_ok (c1.fact 79 (f := .meth "Book" "odd_faces") rfl) }, ?_, ?_, ?_⟩
  · exact { xB := xt_of x1 c2, xN := xt_of x2 c3, gB := He.glo_ok X G (c1.fact 6 (f := .glo "BadLabels") rfl), gN := He.glo_ok X G (c1.fact 3 (f := .glo "NotEven") rfl), gA := He.glo_ok X G (c1.fact 0 (f := .glo "NeverAloneError") rfl), sup := He.free_ok X G (c1.fact 78 (f := .free "super") rfl), fB := f3, fN := f4 }
  · exact { n_iter := He.free_ok X G (c1.fact 77 (f := .free "iter") rfl), itB := (sp_of y1).1, itBF := (sp_of y1).2, itF := (sp_of y2).1, itFF := (sp_of y2).2, lnB := ⟨(sp_of y3).1, (sp_of y3).2⟩, lnF := ⟨(sp_of y4).1, (sp_of y4).2⟩, gt := (sp_of y5).1, gtF := (sp_of y5).2, gtN := y6, insB := ins_of y7, insF := ins_of y8 }
  · exact { exB := g3, exN := g4, clB := h3, clN := h4, kBA := oB_ok z1, kBV := oB_ok z2, kBs := oB_ok z3, kNA := oB_ok z4, kNF := oB_ok z5, mBB := He.exm_ok (c1.fact 71 (f := .exm "BadLabels" "BadLabels" true) rfl), mNB := He.exm_ok (c1.fact 74 (f := .exm "NotEven" "BadLabels" false) rfl), mNN := He.exm_ok (c1.fact 75 (f := .exm "NotEven" "NotEven" true) rfl), gF := He.glo_ok X G (c1.fact 4 (f := .glo "BadFamily") rfl), gM := He.glo_ok X G (c1.fact 2 (f := .glo "Mismatch") rfl), nV := He.free_ok X G (c1.fact 61 (f := .free "ValueError") rfl) }
end
end NA
set_option maxRecDepth 100000
set_option maxHeartbeats 0
namespace NA
open PySem PySem.Spec PyProof.Rows L2
theorem run (w : World) : HandSHeadRun.RunEq R (PySem.W.view R.prog [55]) hk ob 6000 loose w := by
  intro os
  kernel_rfl
end NA
set_option maxRecDepth 100000
set_option maxHeartbeats 0
namespace NA
open PySem PySem.Spec PyProof.Rows L2
theorem b_law {K : PySem.W.Frag} {mg : Str → Option Value} (T : Fx K mg) : ∀ (s : Shared) (v : Value), BindsTo s T.fd_law ⟨[v], []⟩ [("_law_script", v)] := by
  have b := FunD.bindsA (ps := ["_law_script"]) T.F_law fun _ _ _ _ _ _ us hl => match us, hl with | [_], _ => rfl
  exact fun s v => b s [v] rfl
end NA
open PySem PySem.W PySem.Calls PyProof.Rows
set_option maxRecDepth 100000 in
set_option maxHeartbeats 0 in
theorem PySem.Challenge.cw_neveralone_k68_whole_full_rooms_are_part_holds : PySem.Challenge.rw_neveralone_k68_whole_full_rooms_are_part.Holds := by
  w_on; o_law
  refine HandSHeadRun.head_any (r := OpenLaw.row PySem.Challenge.rw_neveralone_k68_whole_full_rooms_are_part) (q := view (OpenLaw.row PySem.Challenge.rw_neveralone_k68_whole_full_rooms_are_part).prog [55]) (H := NA.hk) (ob := NA.ob) (M := 6000) (loose := NA.loose) (d := HandSHeadRun.topDef (OpenLaw.row PySem.Challenge.rw_neveralone_k68_whole_full_rooms_are_part).prog 55) (kwd := []) NA.ob_eq
    (by kernel_rfl) (fun s => by kernel_rfl) NA.run (by kernel_rfl) (by kernel_rfl) (by kernel_rfl) (by rfl) (by first | assumption | decide +kernel) (by decide +kernel) ⟨rfl, rfl, rfl, rfl, rfl, by decide +kernel⟩ ?hw ?hc
  case hw => w_witness2
  case hc =>
    refine L2.walk_ofE (l := PySem.Challenge.rw_neveralone_k68_whole_full_rooms_are_part) (n := 63) (k := 12) (x := "_law_script") (CX := L2.CX0) rfl (by decide) (by kernel_rfl) ⟨rfl, by decide, by decide⟩ ?F (fun _ _ _ _ z => z)
    intro w mg fa h Y G hmg0
    obtain ⟨K, KX, c⟩ := Y
    have hmg : mg ("law" : PySem.Str) = some (.ref fa) := by
      have e : (HandSHeadRun.topDef (OpenLaw.row PySem.Challenge.rw_neveralone_k68_whole_full_rooms_are_part).prog 55).name = ("law" : PySem.Str) := by kernel_rfl
      rw [← e]
      exact hmg0
    obtain ⟨T, Z, Y, R⟩ := NA.facts KX G c
    obtain rfl : fa = He.ga K "law" := Value.ref.inj (Option.some.inj (hmg.symm.trans T.g_law))
    exact ⟨K, T.fd_law, NA.spLaw K, KX, NA.b_law T, fun H a ns hl _ hS => ⟨a, ns, rfl, hS, hl, fun _ => rfl⟩, fun base _ _ => NA.ok_law T Z Y R⟩
