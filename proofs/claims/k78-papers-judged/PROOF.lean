import PyProof.Rows.All
import HandS.GenList
import PyProof.TupleOfGen
import PyProof.CollectWalk
import HandS.WordsExc
import HandS.Evl
import HandS.ForMost
import PyProof.Draws
import Wide.All
import OpenK.AllK
import Wide.FinOn
import HandS.IsInst
import HandS.Style
import HandS.TupAny
import HandS.TupMul
import HandS.Deep
import HandS.BoundDict
import HandS.WideMore
import HandS.Codes
import KE.KUnpackStar
import HandS.Zip
import HandS.Star
import PySem.Challenge.RW_onebetween_k78_whole_equality_papers_jud
set_option Elab.async false
set_option linter.all false
set_option maxRecDepth 100000
section
set_option maxHeartbeats 1000000
/-! KGen1: a generator's run, cut at its sleeps: the context of each stretch leans on the heap below the generator's own frame alone. -/
namespace KG
open PySem PySem.Spec PyProof.Rows L2 GenW

/-! ### the heap below an address, of the places that p tells -/
def goneObj : Obj := { cls := .none, data := .freed }
def below (p : Addr → Bool) (n : Nat) (h : Heap) : Heap := { h with objs := (h.objs.extract 0 n).mapIdx fun i o => if p i = true then o else goneObj }
theorem below_size {p : Addr → Bool} {n : Nat} {h : Heap} (hn : n ≤ h.objs.size) : (below p n h).objs.size = n := by
  show ((h.objs.extract 0 n).mapIdx _).size = n
  rw [Array.size_mapIdx, Array.size_extract]; omega
theorem ext_get {α : Type} (xs : Array α) (n b : Nat) (hb : b < n) : (xs.extract 0 n)[b]? = xs[b]? := by
  rw [Array.getElem?_extract]
  by_cases hs : b < xs.size
  · rw [if_pos (by omega)]; simp
  · rw [if_neg (by omega)]
    exact (Array.getElem?_eq_none (by omega)).symm
theorem below_get {p : Addr → Bool} {n : Nat} {h : Heap} {b : Addr} (hb : b < n) (hp : p b = true) : (below p n h).get? b = h.get? b := by
  have e : (below p n h).objs[b]? = h.objs[b]? := by
    show ((h.objs.extract 0 n).mapIdx _)[b]? = h.objs[b]?
    rw [Array.getElem?_mapIdx, ext_get h.objs n b hb, hp]
    cases h.objs[b]? <;> rfl
  unfold Heap.get?
  rw [e]
theorem of_below {p : Addr → Bool} {n : Nat} {h : Heap} {b : Addr} {o : Obj} (e : (below p n h).get? b = some o) : (b < n ∧ p b = true) ∧ h.get? b = some o := by
  have hb : b < n := by
    have z := Heap.lt_size e
    have z' : b < ((h.objs.extract 0 n).mapIdx fun i o => if p i = true then o else goneObj).size := z
    rw [Array.size_mapIdx, Array.size_extract] at z'
    exact Nat.lt_of_lt_of_le z' (by omega)
  have hp : p b = true := by
    cases hp : p b with
    | true => rfl
    | false =>
      have e2 : (below p n h).objs[b]? = (h.objs[b]?).map fun _ => goneObj := by
        show ((h.objs.extract 0 n).mapIdx _)[b]? = _
        rw [Array.getElem?_mapIdx, ext_get h.objs n b hb, hp]
        cases h.objs[b]? <;> rfl
      unfold Heap.get? at e
      rw [e2] at e
      cases q : h.objs[b]? with
      | none => rw [q] at e; cases e
      | some u => rw [q] at e; cases e
  exact ⟨⟨hb, hp⟩, by rw [← below_get hb hp]; exact e⟩

/-! ### what stays through a generator's life -/
structure Kon where
  P : Program
  w : World
  K : PySem.W.Frag
  mg : Str → Option Value
  base : Heap
  N : List Str
  env : Env
  outer : List Env
  A : Around
  Hs : Hp
  E : XK
  /-- what stood below the frame when the generator was made -/
  old : Addr → Bool

/-- a stretch's entry: the state of its start, the heap below the frame -/
def Kon.cut (G : Kon) (s : Shared) : Shared := { s with heap := below G.old G.env.locals s.heap }
/-- a stretch's context -/
def Kon.cx (G : Kon) (pn : List (Addr × Obj)) (s : Shared) : Cx where
  prog := G.P
  w := G.w
  K := G.K
  mg := G.mg
  base := G.base
  A := G.A.deeper G.env
  N := G.N
  s_0 := G.cut s
  H_0 := G.Hs
  env := G.env
  outer := G.outer
  stack := G.env :: G.outer
  ex := []
  calm := true
  fn := fun _ => true
  pn := pn
  xe := fun e s' => wpAny (model G.P G.w) (G.A.deeper G.env) (leaving G.env e) (fun _ s'' => L2.CX G.P G.w G.outer G.Hs (G.cut s) G.E e s'' ∧ ∀ p ∈ pn, s''.heap.get? p.1 = some p.2) (fun _ _ => False) s'

structure Kon.Good (G : Kon) : Prop where
  mod : Mod G.K G.mg G.base
  kind : G.env.scope.kind = .function
  glob : G.env.globals = mainGlobals
  blt : G.env.builtins = builtinsNs
  inj : ∀ x y c, G.env.cells.lookup x = some c → G.env.cells.lookup y = some c → x = y
  has : ∀ x, (G.env.kindOf x = some .cell ∨ G.env.kindOf x = some .free) → ∃ c, G.env.cells.lookup x = some c
  cab : ∀ x c, G.env.cells.lookup x = some c → G.env.locals ≤ c
  frame : G.env.frame = some G.env.locals
  hd : G.A.handled = none
  frames : G.A.frames = some G.outer
  olt : ∀ b, G.old b = true → b < G.env.locals
  frlt : ∀ b ∈ frs G.outer, G.old b = true
  bold : ∀ b o, G.base.get? b = some o → G.old b = true
  bsz : G.base.objs.size ≤ G.env.locals
  bs : ∀ b o, G.base.get? b = some o → G.Hs b = none
  frf : ∀ b ∈ frs G.outer, G.Hs b = none
  frz : ∀ b o, G.Hs b = some o → ∃ ob u, o = .frz ob u
  hlt : ∀ b o, G.Hs b = some o → G.old b = true

/-- what a state must hold for a stretch to begin there -/
structure Kon.At (G : Kon) (s : Shared) : Prop where
  base : ∀ b o, G.base.get? b = some o → s.heap.get? b = some o
  funs : s.heap.FunFrames G.base G.outer
  size : G.env.locals ≤ s.heap.objs.size
  bare : AllBare s.gens
  hs : HOk G.P G.w G.Hs s.heap
  old : ∀ b, G.old b = true → ∃ o, s.heap.get? b = some o

theorem funs_below {base : Heap} {p : Addr → Bool} {n : Nat} {h : Heap} : ∀ (l : List Env), (∀ b ∈ frs l, p b = true) → (∀ b, p b = true → b < n) → h.FunFrames base l → (below p n h).FunFrames base l := by
  intro l
  induction l with
  | nil => intro _ _ _; trivial
  | cons env r ih =>
    intro hs hlt hl
    obtain ⟨hk, ⟨L, o, hf, hn, ho, hd⟩, hr⟩ := hl
    have hL : p L = true := hs L (by unfold frs; rw [List.filterMap_cons, hf]; exact List.mem_cons_self)
    exact ⟨hk, ⟨L, o, hf, hn, by rw [below_get (hlt L hL) hL]; exact ho, hd⟩, ih (fun b hb => hs b (by unfold frs; rw [List.filterMap_cons, hf]; exact List.mem_cons_of_mem _ hb)) hlt hr⟩

theorem Kon.Good.ok {G : Kon} (g : G.Good) {s : Shared} (t : G.At s) (pn : List (Addr × Obj)) : (G.cx pn s).Ok where
  mod := g.mod
  kind := g.kind
  glob := g.glob
  blt := g.blt
  above := by
    show (below G.old G.env.locals s.heap).objs.size ≤ G.env.locals
    rw [below_size t.size]
    exact Nat.le_refl _
  inj := g.inj
  has := g.has
  cab := fun x c _ h => by
    show (below G.old G.env.locals s.heap).objs.size ≤ c
    rw [below_size t.size]
    exact g.cab x c h
  hd := fun _ => g.hd
  frames := Around.frames_deeper g.frames
  stk := .inr ⟨rfl, g.frame⟩
  exf := fun b z => absurd (show b ∈ ([] : List Addr) from z) (by simp)
  bs := fun b o e => ⟨by
    show (below G.old G.env.locals s.heap).get? b = some o
    rw [below_get (g.olt b (g.bold b o e)) (g.bold b o e)]
    exact t.base b o e, g.bs b o e⟩
  bsz := by
    show G.base.objs.size ≤ (below G.old G.env.locals s.heap).objs.size
    rw [below_size t.size]
    exact g.bsz
  noex := fun b _ _ z => absurd (show b ∈ ([] : List Addr) from z) (by simp)
  exfs := fun b z => absurd (show b ∈ ([] : List Addr) from z) (by simp)
  funs := funs_below G.outer g.frlt g.olt t.funs
  frf := g.frf

/-- a stretch begins at s': the generator's own things are as they were at s -/
theorem rouse {G : Kon} (g : G.Good) {X : Cx} {pn' ip ip' : List (Addr × Obj)} {σ : L2.St} {H : Hp} {s s' : Shared} (I : Inv X ip σ H s) (e1 : X.prog = G.P) (e2 : X.w = G.w) (e3 : X.N = G.N) (e4 : X.env = G.env)
    (t : G.At s') (hH : ∀ b o, G.Hs b = some o → H b = some o) (hlow : ∀ b o, G.old b = true → H b = some o → G.Hs b = some o)
    (kp : ∀ b o, G.old b = false → (b = G.env.locals ∨ (∃ x, G.env.cells.lookup x = some b) ∨ H b ≠ none) → s.heap.get? b = some o → s'.heap.get? b = some o)
    (hp : ∀ p ∈ pn' ++ ip', s'.heap.get? p.1 = some p.2 ∧ H p.1 = none ∧ p.1 ≠ G.env.locals ∧ p.1 ∉ frs G.outer ∧ ∀ v, p.2.data ≠ .cell v) : Inv (G.cx pn' s') ip' σ H s' := by
  have young : ∀ b, G.env.locals ≤ b → G.old b = false := fun b hb => by
    cases q : G.old b with
    | false => rfl
    | true => exact absurd (Nat.lt_of_lt_of_le (g.olt b q) hb) (Nat.lt_irrefl _)
  have hlen : σ.length = G.N.length := by rw [← e3]; exact I.len
  have hfree : H G.env.locals = none := by rw [← e4]; exact I.free
  have hfreeC : ∀ x c, G.env.cells.lookup x = some c → H c = none := fun x c h => I.freeC x c (by rw [e4]; exact h)
  have hcell : ∀ x c, G.env.cells.lookup x = some c → ∃ v, s'.heap.IsCell c v := fun x c h => by
    obtain ⟨v, o, ho, hd⟩ := I.cell x c (by rw [e4]; exact h)
    exact ⟨v, o, kp c o (young c (g.cab x c h)) (.inr (.inl ⟨x, h⟩)) ho, hd⟩
  have hloc : ∃ m, s'.heap.Ns G.env.locals m ∧ ∀ (i : Nat) (x : Str) (v : V), G.N[i]? = some x → σ[i]? = some (some v) → Vis G.env.scope x → ∃ u, RelV v u ∧ Look G.env s'.heap m x u := by
    obtain ⟨m, ⟨o, es, ep, ho, r⟩, hl⟩ := I.loc
    rw [e4] at ho
    refine ⟨m, ⟨o, es, ep, kp _ o (young _ (Nat.le_refl _)) (.inl rfl) ho, r⟩, fun i x v h1 h2 h3 => ?_⟩
    obtain ⟨u, rv, l⟩ := hl i x v (by rw [e3]; exact h1) h2 (by rw [e4]; exact h3)
    rw [e4] at l
    refine ⟨u, rv, ?_⟩
    rcases l with l | ⟨k, c, e, oc, ho, hd⟩
    · exact .inl l
    · exact .inr ⟨k, c, e, oc, kp c oc (young c (g.cab x c e)) (.inr (.inl ⟨x, e⟩)) ho, hd⟩
  have hok : HOk G.P G.w H s'.heap := fun b u e => by
    have hI := I.hok
    rw [e1, e2] at hI
    cases hb : G.old b with
    | true =>
      have z := t.hs b u (hlow b u hb e)
      exact z.stay (fun _ _ _ q => q) (fun c q => hH c _ q) fun c xs q => hH c _ q
    | false =>
      refine (hI b u e).stay (fun c o hc q => ?_) (fun _ q => q) fun _ _ q => q
      have hcn : H c ≠ none := by
        rcases hc with rfl | hc
        · rw [e]; exact fun z => nomatch z
        · rw [hc]; exact fun z => nomatch z
      cases hcl : G.old c with
      | true =>
        cases hh : H c with
        | none => exact absurd hh hcn
        | some oc =>
          have z := hlow c oc hcl hh
          obtain ⟨ob, uu, ez⟩ := g.frz c oc z
          subst ez
          have y1 := (t.hs c _ z).1
          have y2 := (hI c _ hh).1
          rw [q] at y2
          rw [y1, y2]
      | false => exact kp c o hcl (.inr (.inr hcn)) q
  refine ⟨g.ok t pn', rfl, t.bare, ⟨fun b o e _ _ _ => (of_below e).2, fun b o e _ _ _ => ⟨o.slots, (of_below e).2⟩, fun b o e n _ => ?_, fun b o e _ => ⟨o, (of_below e).2⟩,
    fun b xs e => hH b _ e, fun b o u e => hH b _ e, fun b ps e => ?_⟩, hloc, hcell, hfree, hfreeC, hp, hok, hlen⟩
  · have hb := (of_below e).1.2
    cases q : H b with
    | none => rfl
    | some u =>
      have z := hlow b u hb q
      rw [show G.Hs b = none from n] at z
      cases z
  · refine ⟨#[], ?_⟩
    rw [hH b _ e]; simp
/-- within a stretch: nothing old is tracked but Hs -/
theorem low_of {G : Kon} (g : G.Good) {pn ip : List (Addr × Obj)} {σ : L2.St} {H : Hp} {s₀ s : Shared} (t : G.At s₀) (I : Inv (G.cx pn s₀) ip σ H s) :
    (∀ b o, G.Hs b = some o → H b = some o) ∧ ∀ b o, G.old b = true → H b = some o → G.Hs b = some o := by
  have up : ∀ b o, G.Hs b = some o → H b = some o := fun b o e => by
    obtain ⟨ob, u, rfl⟩ := g.frz b o e
    exact I.base.frzs b ob u e
  refine ⟨up, fun b o hb e => ?_⟩
  cases q : G.Hs b with
  | some u => rw [up b u q] at e; exact e
  | none =>
    obtain ⟨ob, ho⟩ := t.old b hb
    have z := I.base.free b ob (show (below G.old G.env.locals s₀.heap).get? b = some ob by rw [below_get (g.olt b hb) hb]; exact ho) q (by intro z; exact absurd (show b ∈ ([] : List Addr) from z) (by simp))
    rw [z] at e; cases e
/-- within a stretch: what is old is kept, the callers' frames up to slots -/
theorem old_of {G : Kon} (g : G.Good) {pn ip : List (Addr × Obj)} {σ : L2.St} {H : Hp} {s₀ s : Shared} (t : G.At s₀) (I : Inv (G.cx pn s₀) ip σ H s) :
    (∀ b o, G.old b = true → b ∉ frs G.outer → s₀.heap.get? b = some o → s.heap.get? b = some o) ∧ ∀ b o, b ∈ frs G.outer → s₀.heap.get? b = some o → ∃ sl, s.heap.get? b = some { o with slots := sl } := by
  have noex : ∀ b : Addr, b ∉ (G.cx pn s₀).ex := fun b z => absurd (show b ∈ ([] : List Addr) from z) (by simp)
  have at0 : ∀ b o, G.old b = true → s₀.heap.get? b = some o → (G.cx pn s₀).s_0.heap.get? b = some o := fun b o hb e => by
    show (below G.old G.env.locals s₀.heap).get? b = some o
    rw [below_get (g.olt b hb) hb]; exact e
  refine ⟨fun b o hb hf e => ?_, fun b o hf e => ?_⟩
  · cases q : G.Hs b with
    | none => exact I.base.keep b o (at0 b o hb e) q hf (noex b)
    | some u =>
      obtain ⟨ob, uu, rfl⟩ := g.frz b u q
      have y1 := (t.hs b _ q).1
      have y2 := (I.hok b _ ((low_of g t I).1 b _ q)).1
      rw [e] at y1
      rw [y1]; exact y2
  · exact I.base.slot b o (at0 b o (g.frlt b hf) e) (g.frf b hf) hf (noex b)
end KG

end

section
set_option maxHeartbeats 1000000
/-! KGen2: the judgement of a generator's statements: blocks, if, while, for, yield. -/
namespace KG
open PySem PySem.Spec PyProof.Rows L2 GenW

structure Run where
  G : Kon
  a : Addr
  go : Obj
  /-- the consumer's own things, and what it knows by them of all that came -/
  Ss : List Addr
  Gh : List V → Heap → Prop
  /-- what is told of an item -/
  yl : List V → V → Hp → Prop
def Run.pn (r : Run) (s₀ : Shared) : List (Addr × Obj) := (r.a, r.go) :: pinsAt r.Ss s₀.heap
abbrev Run.X (r : Run) (s₀ : Shared) : Cx := r.G.cx (r.pn s₀) s₀
structure Run.Good (r : Run) : Prop where
  g : r.G.Good
  aS : r.a ∉ r.Ss
  ao : r.G.old r.a = false
structure Run.At (r : Run) (s : Shared) : Prop where
  t : r.G.At s
  ss : ∀ S ∈ r.Ss, ∃ o, s.heap.get? S = some o ∧ ∀ v, o.data ≠ .cell v
/-- running, amid a stretch that began at s₀ -/
structure KI (r : Run) (s₀ : Shared) (ip : List (Addr × Obj)) (ys : List V) (σ : L2.St) (H : Hp) (s : Shared) : Prop where
  t : r.At s₀
  gh : r.Gh ys s₀.heap
  inv : Inv (r.X s₀) ip σ H s
/-- what a stretch tells at its end -/
structure Told (r : Run) (s₀ s : Shared) (H : Hp) : Prop where
  os : s.os = s₀.os
  bare : AllBare s.gens
  keep : ∀ b o, r.G.old b = true → b ∉ frs r.G.outer → s₀.heap.get? b = some o → s.heap.get? b = some o
  slot : ∀ b o, b ∈ frs r.G.outer → s₀.heap.get? b = some o → ∃ sl, s.heap.get? b = some { o with slots := sl }
  own : ∀ S ∈ r.Ss, ∀ o, s₀.heap.get? S = some o → s.heap.get? S = some o
  gen : s.heap.get? r.a = some r.go
  hok : HOk r.G.P r.G.w H s.heap
  up : ∀ b o, r.G.Hs b = some o → H b = some o
  low : ∀ b o, r.G.old b = true → H b = some o → r.G.Hs b = some o
  ssH : ∀ S ∈ r.Ss, H S = none
  lt : ∃ o, s.heap.get? r.G.env.locals = some o
/-- what the consumer keeps while the generator sleeps -/
structure Btw (r : Run) (s s' : Shared) : Prop where
  t : r.At s'
  keep : ∀ b o, r.G.old b = false → b ∉ r.Ss → s.heap.get? b = some o → s'.heap.get? b = some o
def KY (r : Run) : Protocol := fun n s₀ v s kap =>
  ∃ ys x H, n + 1 + ys.length = sizeLine ∧ RelV x v ∧ r.Gh ys s₀.heap ∧ r.yl ys x H ∧ Told r s₀ s H ∧ ∀ s', Btw r s s' → r.Gh (ys ++ [x]) s'.heap → kap (.send .none) s'

theorem pin_of {r : Run} {s₀ : Shared} {S : Addr} {o : Obj} (hS : S ∈ r.Ss) (e : s₀.heap.get? S = some o) : (S, o) ∈ r.pn s₀ := List.mem_cons_of_mem _ (mem_pinsAt hS e)
theorem KI.told {r : Run} (rg : r.Good) {s₀ s : Shared} {ip : List (Addr × Obj)} {ys : List V} {σ : L2.St} {H : Hp} (h : KI r s₀ ip ys σ H s) : Told r s₀ s H where
  os := h.inv.os
  bare := h.inv.bare
  keep := (old_of rg.g h.t.t h.inv).1
  slot := (old_of rg.g h.t.t h.inv).2
  own := fun S hS o e => (h.inv.pin (S, o) (List.mem_append_left _ (pin_of hS e))).1
  gen := (h.inv.pin (r.a, r.go) (List.mem_append_left _ List.mem_cons_self)).1
  hok := h.inv.hok
  up := (low_of rg.g h.t.t h.inv).1
  low := (low_of rg.g h.t.t h.inv).2
  ssH := fun S hS => by
    obtain ⟨o, e, _⟩ := h.t.ss S hS
    exact (h.inv.pin (S, o) (List.mem_append_left _ (pin_of hS e))).2.1
  lt := let ⟨_, ⟨o, _, _, e, _⟩, _⟩ := h.inv.loc; ⟨o, e⟩
/-- roused from a sleep -/
theorem KI.roused {r : Run} (rg : r.Good) {s₀ s s' : Shared} {ip : List (Addr × Obj)} {ys ys' : List V} {σ : L2.St} {H : Hp} (h : KI r s₀ ip ys σ H s) (hip : ∀ p ∈ ip, r.G.env.locals ≤ p.1 ∧ p.1 ∉ r.Ss) (b : Btw r s s') (gh : r.Gh ys' s'.heap) :
    KI r s' ip ys' σ H s' := by
  have T := h.told rg
  have young : ∀ b, r.G.env.locals ≤ b → r.G.old b = false := fun b hb => by
    cases q : r.G.old b with
    | false => rfl
    | true => exact absurd (Nat.lt_of_lt_of_le (rg.g.olt b q) hb) (Nat.lt_irrefl _)
  have pinS : ∀ S ∈ r.Ss, ∃ o, s.heap.get? S = some o ∧ H S = none ∧ S ≠ r.G.env.locals ∧ S ∉ frs r.G.outer ∧ ∀ v, o.data ≠ .cell v := fun S hS => by
    obtain ⟨o, e, _⟩ := h.t.ss S hS
    exact ⟨o, h.inv.pin (S, o) (List.mem_append_left _ (pin_of hS e))⟩
  refine ⟨b.t, gh, rouse rg.g h.inv rfl rfl rfl rfl b.t.t T.up T.low (fun c o hc hw e => b.keep c o hc (fun hS => ?_) e) fun p hp => ?_⟩
  · obtain ⟨ob, e1, e2, e3, e4, e5⟩ := pinS c hS
    rcases hw with hw | ⟨x, hx⟩ | hw
    · exact e3 hw
    · obtain ⟨v, oc, h1, h2⟩ := h.inv.cell x c hx
      rw [e1] at h1; cases h1
      exact e5 v h2
    · exact hw e2
  · rcases List.mem_append.mp hp with hp | hp
    · rcases List.mem_cons.mp hp with hp | hp
      · subst hp
        obtain ⟨e1, e2⟩ := h.inv.pin (r.a, r.go) (List.mem_append_left _ List.mem_cons_self)
        exact ⟨b.keep r.a r.go rg.ao rg.aS e1, e2⟩
      · obtain ⟨hS, e⟩ := of_pinsAt hp
        obtain ⟨ob, e1, e2, e3, e4, e5⟩ := pinS p.1 hS
        obtain ⟨o', e', d⟩ := b.t.ss p.1 hS
        rw [e] at e'; cases e'
        exact ⟨e, e2, e3, e4, d⟩
    · obtain ⟨e1, e2⟩ := h.inv.pin p (List.mem_append_right _ hp)
      exact ⟨b.keep p.1 p.2 (young p.1 (hip p hp).1) (hip p hp).2 e1, e2⟩

/-! ### the judgement -/
def KSP (r : Run) (ip : List (Addr × Obj)) (D : GEnds) (s₀ : Shared) (ys : List V) (f : Flow) (s : Shared) : Prop :=
  match f with
  | .next => ∃ σ H, KI r s₀ ip ys σ H s ∧ D.nx ys σ H
  | .brk => ∃ σ H, KI r s₀ ip ys σ H s ∧ D.bk ys σ H
  | .cont => ∃ σ H, KI r s₀ ip ys σ H s ∧ D.ct ys σ H
  | .ret u => ∃ v σ H, KI r s₀ ip ys σ H s ∧ RelV v u ∧ D.rt ys v H
structure KC (r : Run) (ip : List (Addr × Obj)) (c : Code) (fs : List Frame) (gd : Bool → Bool) : Prop where
  ip : ∀ p ∈ ip, r.G.env.locals ≤ p.1 ∧ p.1 ∉ r.Ss
  over : r.G.A.over c fs = r.G.A.deeper r.G.env
  split : splitAtGen fs = none
  guard : fs.any Frame.guarded = false
  gd : gd false = false
structure KK (r : Run) (ip : List (Addr × Obj)) (R : GenEnd) (c : Code) (fs : List Frame) (K : Flow → Sem PySem.Fin) (J : Value → Sem PySem.Fin) (D : GEnds) : Prop where
  ok : ∀ (n : Nat) (ys : List V) (s₀ s : Shared) (f : Flow), n + ys.length = sizeLine → KSP r ip D s₀ ys f s → Seg (model r.G.P r.G.w) r.G.A R (KY r) n s₀ c (K f) fs s
  exc : ∀ (n : Nat) (s₀ : Shared) (e : Value) (s : Shared), r.At s₀ → (r.X s₀).xe e s → Seg (model r.G.P r.G.w) r.G.A R (KY r) n s₀ c (J e) fs s
structure KS (r : Run) (st : Stmt) (t : TGn) : Prop where
  run : ∀ (R : GenEnd) (ip : List (Addr × Obj)) (n : Nat) (ys : List V) (s₀ : Shared) (c : Code) (fs : List Frame) (K : Flow → Sem PySem.Fin) (J : Value → Sem PySem.Fin) (gd : Bool → Bool) (lv : List Value → List Value) (s : Shared) (σ : L2.St) (H : Hp) (D : GEnds),
    KC r ip c fs gd → n + ys.length = sizeLine → KK r ip R c fs K J D → KI r s₀ ip ys σ H s → t D ys σ H → Seg (model r.G.P r.G.w) r.G.A R (KY r) n s₀ c ((exec st r.G.env).wrap K J gd lv) fs s
structure KSs (r : Run) (st : List Stmt) (t : TGn) : Prop where
  run : ∀ (R : GenEnd) (ip : List (Addr × Obj)) (n : Nat) (ys : List V) (s₀ : Shared) (c : Code) (fs : List Frame) (K : Flow → Sem PySem.Fin) (J : Value → Sem PySem.Fin) (gd : Bool → Bool) (lv : List Value → List Value) (s : Shared) (σ : L2.St) (H : Hp) (D : GEnds),
    KC r ip c fs gd → n + ys.length = sizeLine → KK r ip R c fs K J D → KI r s₀ ip ys σ H s → t D ys σ H → Seg (model r.G.P r.G.w) r.G.A R (KY r) n s₀ c ((execs st r.G.env).wrap K J gd lv) fs s

section
variable {r : Run} {st : Stmt} {rest : List Stmt}
theorem ksp_of {ip : List (Addr × Obj)} {D : GEnds} {s₀ : Shared} {ys : List V} {f : Flow} {s : Shared} (t : r.At s₀) (gh : r.Gh ys s₀.heap) (h : SP (r.X s₀) ip (D.at ys) f s) : KSP r ip D s₀ ys f s := by
  cases f with
  | next => obtain ⟨σ, H, I, q⟩ := h; exact ⟨σ, H, ⟨t, gh, I⟩, q⟩
  | brk => obtain ⟨σ, H, I, q⟩ := h; exact ⟨σ, H, ⟨t, gh, I⟩, q⟩
  | cont => obtain ⟨σ, H, I, q⟩ := h; exact ⟨σ, H, ⟨t, gh, I⟩, q⟩
  | ret u => obtain ⟨v, σ, H, I, q1, q⟩ := h; exact ⟨v, σ, H, ⟨t, gh, I⟩, q1, q⟩
theorem ks_ps {t : TS} (h : ∀ s₀, PS (r.X s₀) st t) : KS r st (tPlain t) :=
  ⟨fun R ip n ys s₀ c fs K J gd lv s σ H D g hn k hI ht => by
    refine seg_wrap ?_
    rw [g.over]
    exact wpAny_mono ((h s₀).run ip s σ H (D.at ys) hI.inv ht) (fun f s' hs => k.ok n ys s₀ s' f hn (ksp_of hI.t hI.gh hs)) fun x s' hx => k.exc n s₀ x s' hI.t hx⟩
theorem kss_pss {t : TS} (h : ∀ s₀, PSs (r.X s₀) rest t) : KSs r rest (tPlain t) :=
  ⟨fun R ip n ys s₀ c fs K J gd lv s σ H D g hn k hI ht => by
    refine seg_wrap ?_
    rw [g.over]
    exact wpAny_mono ((h s₀).run ip s σ H (D.at ys) hI.inv ht) (fun f s' hs => k.ok n ys s₀ s' f hn (ksp_of hI.t hI.gh hs)) fun x s' hx => k.exc n s₀ x s' hI.t hx⟩
theorem kss_nil : KSs r [] tG0 :=
  ⟨fun R ip n ys s₀ c fs K J gd lv s σ H D g hn k hI ht => seg_execs_nil (k.ok n ys s₀ s .next hn ⟨σ, H, hI, ht⟩)⟩
theorem kss_cons {t u : TGn} (a : KS r st t) (b : KSs r rest u) : KSs r (st :: rest) (tGThen t u) := by
  refine ⟨fun R ip n ys s₀ c fs K J gd lv s σ H D g hn k hI ht => seg_execs_cons ?_⟩
  refine a.run R ip n ys s₀ c fs _ J gd lv s σ H { D with nx := fun ys' σ' H' => u D ys' σ' H' } g hn ⟨fun n' ys' s₀' s' f hn' hs => ?_, k.exc⟩ hI ht
  cases f with
  | next =>
    obtain ⟨σ', H', I', q⟩ := hs
    exact b.run R ip n' ys' s₀' c fs K J gd lv s' σ' H' D g hn' k I' q
  | brk => exact k.ok n' ys' s₀' s' .brk hn' hs
  | cont => exact k.ok n' ys' s₀' s' .cont hn' hs
  | ret u => exact k.ok n' ys' s₀' s' (.ret u) hn' hs
theorem kss_one {t : TGn} (a : KS r st t) : KSs r [st] (tGThen t tG0) := kss_cons a kss_nil

/-! ### if -/
def tGIf (c : TT) (t u : TGn) : TGn := fun D ys σ H => c σ H fun b H1 => if b = true then t D ys σ H1 else u D ys σ H1
theorem ks_if {test : Expr} {x y : List Stmt} {pos : Pos} {tc : TT} {t u : TGn} (hc : ∀ s₀, PT (r.X s₀) test tc) (hx : KSs r x t) (hy : KSs r y u) : KS r (.If test x y pos) (tGIf tc t u) := by
  refine ⟨fun R ip n ys s₀ c fs K J gd lv s σ H D g hn k hI ht => ?_⟩
  rw [exec_If]
  refine seg_bind_wrap (wpAny_standAt ?_)
  refine seg_bind_wrap ?_
  rw [g.over]
  refine wpAny_mono ((hc s₀).run ip s σ H _ hI.inv ht) (fun b s1 hb => ?_) fun e s1 hx => k.exc n s₀ e s1 hI.t hx
  obtain ⟨H1, I1, q⟩ := hb
  cases b with
  | true => exact hx.run R ip n ys s₀ c fs K J gd lv s1 σ H1 D g hn k ⟨hI.t, hI.gh, I1⟩ q
  | false => exact hy.run R ip n ys s₀ c fs K J gd lv s1 σ H1 D g hn k ⟨hI.t, hI.gh, I1⟩ q

/-! ### yield -/
def tKYield (yl : List V → V → Hp → Prop) (te : TE) : TGn := fun D ys σ H => ys.length < sizeLine ∧ te σ H fun x H1 => yl ys x H1 ∧ D.nx (ys ++ [x]) σ H1
theorem ks_yield (rg : r.Good) {e : Expr} {yp pos : Pos} {te : TE} (he : ∀ s₀, PE (r.X s₀) e te) (hco : r.G.env.scope.isCoroutine = false := by rfl) (hi : interactive r.G.env = false := by rfl) : KS r (.Expr (.Yield (some e) yp) pos) (tKYield r.yl te) := by
  refine ⟨fun R ip n ys s₀ c fs K J gd lv s σ H D g hn k hI ht => ?_⟩
  obtain ⟨hlt, ht⟩ := ht
  obtain ⟨n, rfl⟩ : ∃ m, n = m + 1 := ⟨n - 1, by omega⟩
  refine seg_Expr_Yield g.split g.gd g.guard ?_ hco hi
  rw [g.over]
  refine wpAny_mono ((he s₀).run ip s σ H _ hI.inv ht) (fun v s' hv => ?_) fun x s' hx => k.exc _ s₀ x s' hI.t hx
  obtain ⟨x, H1, I1, rv, hy, q⟩ := hv
  have K1 : KI r s₀ ip ys σ H1 s' := ⟨hI.t, hI.gh, I1⟩
  intro kap hk
  refine ⟨ys, x, H1, hn, rv, hI.gh, hy, K1.told rg, fun s'' hb gh => hk .none s'' ?_⟩
  refine k.ok n (ys ++ [x]) s'' s'' .next ?_ ⟨σ, H1, K1.roused rg g.ip hb gh, q⟩
  rw [List.length_append, List.length_singleton]; omega
end
end KG

end

section
set_option maxHeartbeats 1000000
/-! KGen3: loops of a generator: while, for. -/
namespace KG
open PySem PySem.Spec PyProof.Rows L2 GenW

section
variable {r : Run}
theorem kc_in {ip ip' : List (Addr × Obj)} {c c' : Code} {fs : List Frame} {gd : Bool → Bool} {k : Result → Sem PySem.Fin} {l kp : List Value} {p : Pos} (g : KC r ip c fs gd) (hip : ∀ p ∈ ip', r.G.env.locals ≤ p.1 ∧ p.1 ∉ r.Ss) (hw : c'.weight = 0) (hu : c'.cUnits = 0) :
    KC r ip' c' (.ret k none (gd false) l c p kp :: fs) id where
  ip := hip
  over := (over_loop hw hu).trans g.over
  split := by
    show (splitAtGen fs).map _ = none
    rw [g.split]; rfl
  guard := by
    show (gd false || fs.any Frame.guarded) = false
    rw [g.gd, g.guard]; rfl
  gd := rfl
/-- an exception leaves a loop's code -/
theorem seg_out {ip : List (Addr × Obj)} {R : GenEnd} {c : Code} {fs : List Frame} {K : Flow → Sem PySem.Fin} {J : Value → Sem PySem.Fin} {gd : Bool → Bool} {lv : List Value → List Value} {D : GEnds} {n : Nat} {s₀ s : Shared} {e : Value}
    (g : KC r ip c fs gd) (k : KK r ip R c fs K J D) (t : r.At s₀) (h : cameBackBy (model r.G.P r.G.w) (r.G.A.deeper r.G.env) r.G.env (r.X s₀).xe e s) :
    Seg (model r.G.P r.G.w) r.G.A R (KY r) n s₀ c (((Sem.raise e : Sem Flow).onRaise (cameBack r.G.env)).wrap K J gd lv) fs s := by
  show Seg _ _ _ _ _ _ _ (((cameBack r.G.env e).bind fun _ => (Sem.raise e : Sem Flow)).wrap K J gd lv) _ _
  rw [Sem.bind_eq_wrap, Sem.wrap_wrap]
  refine seg_wrap ?_
  rw [g.over]
  exact wpAny_mono h (fun _ s' hx => k.exc n s₀ e s' t hx) fun x s' hx => k.exc n s₀ x s' t hx

theorem ks_while {test : Expr} {body : List Stmt} {pos : Pos} {tc : TT} {tb : TGn} (hp : ∀ s₀, PassesOwn (model r.G.P r.G.w) (r.G.A.deeper r.G.env) r.G.env (r.X s₀).xe) (hc : ∀ s₀, PT (r.X s₀) test tc) (hb : KSs r body tb) : KS r (.While test body [] pos) (tGWhile tc tb) := by
  refine ⟨fun R ip n ys s₀ c fs K J gd lv s σ H D g hn k hI ht => ?_⟩
  obtain ⟨W, ⟨m0, w0⟩, turn⟩ := ht
  refine seg_While fun p => ?_
  have gl := fun (kk : Result → Sem PySem.Fin) => kc_in (k := kk) (ip' := ip) (c' := .whileLoop test body [] r.G.env) (l := lv []) (kp := []) (p := p) g g.ip rfl rfl
  have go : ∀ (m n : Nat) (ys : List V) (s₀ s : Shared) (σ : L2.St) (H : Hp), n + ys.length = sizeLine → W m ys σ H → KI r s₀ ip ys σ H s →
      Seg (model r.G.P r.G.w) r.G.A R (KY r) n s₀ (.whileLoop test body [] r.G.env) ((model r.G.P r.G.w).den (.whileLoop test body [] r.G.env))
        (.ret (fun q => ((match q with | .ok f => (.pure f : Sem Flow) | .error e => .raise e).onRaise (cameBack r.G.env)).wrap K J gd lv) none (gd false) (lv []) c p [] :: fs) s := by
    intro m
    induction m using Nat.strongRecOn with
    | ind m ih =>
      intro n ys s₀ s σ H hn w hI
      have bad : ∀ (n : Nat) (s₀ : Shared) (x : Value) (s' : Shared), r.At s₀ → (r.X s₀).xe x s' → Seg (model r.G.P r.G.w) r.G.A R (KY r) n s₀ (.whileLoop test body [] r.G.env)
          ((do noteFrame x r.G.env; theTreesLotGoes x : Sem Unit).wrap (fun _ => .raise x) .raise id id)
          (.ret (fun q => ((match q with | .ok f => (.pure f : Sem Flow) | .error e => .raise e).onRaise (cameBack r.G.env)).wrap K J gd lv) none (gd false) (lv []) c p [] :: fs) s' := fun n s₀ x s' t hx => by
        refine seg_wrap ?_
        rw [(gl _).over]
        refine wpAny_bind (wpAny_mono (hp s₀ x s' hx) (fun _ s'' hcb => wpAny_theTreesLotGoes ?_) fun y s'' hcb => ?_)
        · exact seg_leaf (.error x) (seg_out g k t hcb)
        · exact seg_leaf (.error y) (seg_out g k t hcb)
      refine seg_whileLoop ?_
      rw [(gl _).over]
      refine wpAny_mono ((hc s₀).run ip s σ H _ hI.inv (turn m ys σ H w)) (fun b s' hb' => ?_) fun x s' hx => bad n s₀ x s' hI.t hx
      obtain ⟨H2, I2, q2⟩ := hb'
      cases b with
      | true =>
        obtain ⟨N, hN, q2⟩ := q2
        rw [if_pos rfl]
        refine hb.run R ip n ys s₀ _ _ _ _ id id s' σ H2 { D with nx := N, ct := N, bk := D.nx } (gl _) hn ⟨fun n' ys' s₀' s3 f hn' hs => ?_, fun n' s₀' x s3 t hx => bad n' s₀' x s3 t hx⟩ ⟨hI.t, hI.gh, I2⟩ q2
        cases f with
        | next =>
          obtain ⟨σ3, H3, I3, n3⟩ := hs
          obtain ⟨m', hm, w3⟩ := hN ys' σ3 H3 n3
          exact seg_again rfl (ih m' hm n' ys' s₀' s3 σ3 H3 hn' w3 I3)
        | cont =>
          obtain ⟨σ3, H3, I3, n3⟩ := hs
          obtain ⟨m', hm, w3⟩ := hN ys' σ3 H3 n3
          exact seg_again rfl (ih m' hm n' ys' s₀' s3 σ3 H3 hn' w3 I3)
        | brk => exact seg_leaf (.ok .next) (k.ok n' ys' s₀' s3 .next hn' hs)
        | ret v => exact seg_leaf (.ok (.ret v)) (k.ok n' ys' s₀' s3 (.ret v) hn' hs)
      | false =>
        rw [if_neg Bool.false_ne_true]
        refine seg_execs_nil ?_
        exact seg_leaf (.ok .next) (k.ok n ys s₀ s' .next hn ⟨σ, H2, ⟨hI.t, hI.gh, I2⟩, q2⟩)
  exact go m0 n ys s₀ s σ H hn w0 hI
end

section
variable {P : Program} {w : World} {A : Around} {R : GenEnd} {Y : Protocol} {n : Nat} {s₀ : Shared} {fs : List Frame} {s : Shared} {env : Env}
/-- one turn of a for's code -/
theorem seg_turn {tg : Expr} {it : Value} {body : List Stmt}
    (h : wpAny (model P w) (A.over (.forLoop tg it body [] env) fs) (pyNext it) (fun q s1 => match q with
        | none => Seg (model P w) A R Y n s₀ (.forLoop tg it body [] env) (.pure (.again (.block [] env))) fs s1
        | some v => wpAny (model P w) (A.over (.forLoop tg it body [] env) fs) (letOwnedTupleGo tg it v) (fun _ s2 =>
            wpAny (model P w) (A.over (.forLoop tg it body [] env) fs) (assign tg env v) (fun _ s3 =>
              Seg (model P w) A R Y n s₀ (.forLoop tg it body [] env) ((execs body env).wrap (fun f => match f with
                | .next | .cont => .pure (.again (.forLoop tg it body [] env))
                | .brk => .pure (.done .next)
                | .ret v => .pure (.done (.ret v))) (fun e => (do noteFrame e env; theTreesLotGoes e : Sem Unit).wrap (fun _ => .raise e) .raise id id) id id) fs s3)
              (fun x s' => Seg (model P w) A R Y n s₀ (.forLoop tg it body [] env) ((do noteFrame x env; theTreesLotGoes x : Sem Unit).wrap (fun _ => .raise x) .raise id id) fs s') s2)
            (fun x s' => Seg (model P w) A R Y n s₀ (.forLoop tg it body [] env) ((do noteFrame x env; theTreesLotGoes x : Sem Unit).wrap (fun _ => .raise x) .raise id id) fs s') s1)
      (fun x s' => Seg (model P w) A R Y n s₀ (.forLoop tg it body [] env) ((do noteFrame x env; theTreesLotGoes x : Sem Unit).wrap (fun _ => .raise x) .raise id id) fs s') s) :
    Seg (model P w) A R Y n s₀ (.forLoop tg it body [] env) ((model P w).den (.forLoop tg it body [] env)) fs s := by
  show Seg _ A R Y n s₀ _ ((forTurn tg it body [] env).onRaise (fun x => do noteFrame x env; theTreesLotGoes x)) fs s
  rw [Sem.onRaise_eq_wrap]
  rw [Sem.wrap_congr (forTurn tg it body [] env) _ _ (K' := .pure) (H' := fun e => (do noteFrame e env; theTreesLotGoes e : Sem Unit).wrap (fun _ => .raise e) .raise id id) (fun _ => rfl)
    (fun e => by first | exact Sem.bind_eq_wrap _ _ | (show (do noteFrame e env; theTreesLotGoes e : Sem Unit).bind (fun _ => .raise e) = _; rw [Sem.bind_eq_wrap]))]
  unfold forTurn
  refine seg_bind_wrap (wpAny_standAt ?_)
  refine seg_bind_wrap (wpAny_onRaise (wpAny_mono h (fun q s1 h1 => ?_) fun _ _ h' => wpAny_standAt h'))
  cases q with
  | none => exact h1
  | some v =>
    refine seg_bind_wrap (wpAny_mono h1 (fun _ s2 h2 => ?_) fun _ _ h' => h')
    refine seg_bind_wrap (wpAny_mono h2 (fun _ s3 h3 => ?_) fun _ _ h' => h')
    rw [Sem.bind_eq_wrap', Sem.wrap_wrap]
    rw [Sem.wrap_congr (execs body env) _ _ (K' := fun f => match f with
            | .next | .cont => .pure (.again (.forLoop tg it body [] env))
            | .brk => .pure (.done .next)
            | .ret v => .pure (.done (.ret v))) (H' := (fun e => (do noteFrame e env; theTreesLotGoes e : Sem Unit).wrap (fun _ => .raise e) .raise id id))
        (fun f => by cases f <;> rfl) (fun e => by rfl)]
    exact h3
end

section
variable {r : Run}
/-- for: W the invariant by the turn and a measure -/
def tGFor (wi : TI) (g : TG) (tb : TGn) : TGn := fun D ys σ H => wi σ H fun J H1 => ∃ W : Nat → Nat → List V → L2.St → Hp → Prop, (∃ m, W 0 m ys σ H1) ∧ ∀ i m ys σ H, W i m ys σ H →
  (J.stop i H ∧ D.nx ys σ H) ∨ (J.go i H ∧ ∃ N : List V → L2.St → Hp → Prop, (∀ ys' σ' H', N ys' σ' H' → ∃ m', m' < m ∧ W (i + 1) m' ys' σ' H') ∧ ∀ x H', J.yld i H x H' → g x σ H' fun σ2 H2 => tb { D with nx := N, ct := N, bk := D.nx } ys σ2 H2)
theorem ks_for {tg iter : Expr} {body : List Stmt} {wi : TI} {g : TG} {tb : TGn} {pos : Pos} (hp : ∀ s₀, PassesOwn (model r.G.P r.G.w) (r.G.A.deeper r.G.env) r.G.env (r.X s₀).xe) (hi : ∀ s₀, PI (r.X s₀) tg iter wi) (hg : ∀ s₀, PG (r.X s₀) tg g) (hb : KSs r body tb)
    (hs : ∀ x, foldedSetIterable iter r.G.env x = pure x := by intro _; rfl) : KS r (.For tg iter body [] pos) (tGFor wi g tb) := by
  refine ⟨fun R ip n ys s₀ c fs K J gd lv s σ H D kc hn k hI ht => ?_⟩
  rw [exec_For]
  refine seg_bind_wrap (wpAny_standAt ?_)
  refine seg_bind_wrap ?_
  rw [kc.over]
  refine wpAny_mono ((hi s₀).run ip s σ H _ hI.inv ht) (fun v s1 h1 => ?_) fun x s' hx => k.exc n s₀ x s' hI.t hx
  rw [hs]
  refine seg_bind_wrap (wpAny_pure ?_)
  refine seg_bind_wrap (wpAny_standAt ?_)
  refine seg_bind_wrap (wpAny_holding ?_)
  rw [kc.over]
  refine wpAny_mono h1 (fun itv s2 h2 => ?_) fun x s' hx => k.exc n s₀ x s' hI.t hx
  obtain ⟨it, fp, tn, Jt, H2, e, I2, T, st2, f2, W, ⟨m0, w0⟩, turn⟩ := h2
  subst e
  -- what stays true of the iterator's objects
  have fpS : ∀ b ∈ fp, r.G.env.locals ≤ b ∧ b ∉ r.Ss := fun b hb => by
    obtain ⟨f0, f1, f2', f3, f4, f5⟩ := f2 b hb
    refine ⟨?_, fun hS => ?_⟩
    · rcases f3 with z | z
      · exact absurd (show b ∈ ([] : List Addr) from z) (by simp)
      · have z' : (below r.G.old r.G.env.locals s₀.heap).objs.size ≤ b := z
        rw [below_size hI.t.t.size] at z'
        exact z'
    · obtain ⟨o, eo, _⟩ := hI.t.ss b hS
      exact f5 (b, o) (List.mem_append_left _ (pin_of hS eo)) rfl
  have stat : ∀ {s₀' : Shared} {H' : Hp} {s' : Shared} {σ' : L2.St} {ys' : List V}, KI r s₀' ip ys' σ' H' s' → (∀ b ∈ fp, H' b = none) → ∀ b ∈ fp, FpOk (r.X s₀') ip H' b := fun {s₀' H' s' σ' ys'} hK hn b hb => by
    obtain ⟨f0, f1, f2', f3, f4, f5⟩ := f2 b hb
    refine ⟨hn b hb, f1, f2', .inr ?_, f4, fun p hp => ?_⟩
    · show (below r.G.old r.G.env.locals s₀'.heap).objs.size ≤ b
      rw [below_size hK.t.t.size]
      exact (fpS b hb).1
    · rcases List.mem_append.mp hp with hp | hp
      · rcases List.mem_cons.mp hp with hp | hp
        · rw [hp]
          exact f5 (r.a, r.go) (List.mem_append_left _ List.mem_cons_self)
        · obtain ⟨hS, _⟩ := of_pinsAt hp
          exact fun z => (fpS b hb).2 (z ▸ hS)
      · exact f5 p (List.mem_append_right _ hp)
  refine seg_call fun p => ?_
  have gl := fun (kk : Result → Sem PySem.Fin) => kc_in (k := kk) (ip' := ip) (c' := .forLoop tg (.ref it) body [] r.G.env) (l := lv []) (kp := []) (p := p) kc kc.ip rfl rfl
  have go : ∀ (m i n : Nat) (ys : List V) (s₀ s : Shared) (σ : L2.St) (H : Hp), n + ys.length = sizeLine → W i m ys σ H → KI r s₀ ip ys σ H s → tn i s.heap → (∀ b ∈ fp, H b = none) →
      Seg (model r.G.P r.G.w) r.G.A R (KY r) n s₀ (.forLoop tg (.ref it) body [] r.G.env) ((model r.G.P r.G.w).den (.forLoop tg (.ref it) body [] r.G.env))
        (.ret (fun q => ((match q with | .ok f => (.pure f : Sem Flow) | .error e => .raise e).onRaise (cameBack r.G.env)).wrap K J gd lv) none (gd false) (lv []) c p [] :: fs) s := by
    intro m
    induction m using Nat.strongRecOn with
    | ind m ih =>
      intro i n ys s₀ s σ H hn wv hI st fr
      have bad : ∀ (n : Nat) (s₀ : Shared) (x : Value) (s' : Shared), r.At s₀ → (r.X s₀).xe x s' → Seg (model r.G.P r.G.w) r.G.A R (KY r) n s₀ (.forLoop tg (.ref it) body [] r.G.env)
          ((do noteFrame x r.G.env; theTreesLotGoes x : Sem Unit).wrap (fun _ => .raise x) .raise id id)
          (.ret (fun q => ((match q with | .ok f => (.pure f : Sem Flow) | .error e => .raise e).onRaise (cameBack r.G.env)).wrap K J gd lv) none (gd false) (lv []) c p [] :: fs) s' := fun n s₀ x s' t hx => by
        refine seg_wrap ?_
        rw [(gl _).over]
        refine wpAny_bind (wpAny_mono (hp s₀ x s' hx) (fun _ s'' hcb => wpAny_theTreesLotGoes ?_) fun y s'' hcb => ?_)
        · exact seg_leaf (.error x) (seg_out kc k t hcb)
        · exact seg_leaf (.error y) (seg_out kc k t hcb)
      refine seg_turn ?_
      rw [(gl _).over]
      rcases turn i m ys σ H wv with ⟨stop, qn⟩ | ⟨gogo, N, hN, step⟩
      · refine wpAny_mono (T.done (r.X s₀) rfl rfl rfl rfl i ip s σ H (r.X s₀).xe hI.inv (stat hI fr) st stop) (fun q s4 ⟨hq, I4⟩ => ?_) fun x s' hx => bad n s₀ x s' hI.t hx
        subst hq
        refine seg_again rfl ?_
        show Seg _ _ _ _ _ _ _ (.pure (.done .next)) _ _
        exact seg_leaf (.ok .next) (k.ok n ys s₀ s4 .next hn ⟨σ, H, ⟨hI.t, hI.gh, I4⟩, qn⟩)
      · refine wpAny_mono (T.item (r.X s₀) rfl rfl rfl rfl i ip s σ H (r.X s₀).xe hI.inv (stat hI fr) st gogo) (fun q s4 ⟨u, hq, h4⟩ => ?_) fun x s' hx => bad n s₀ x s' hI.t hx
        subst hq
        refine wpAny_mono h4 (fun _ s5 ⟨x, H5, I5, r5, y5, st5, fr5⟩ => ?_) fun x s' hx => bad n s₀ x s' hI.t hx
        have I5' := I5.pinned (stat ⟨hI.t, hI.gh, I5⟩ fr5) (T.obj _ _ st5)
        refine wpAny_mono ((hg s₀).run _ s5 σ H5 x u _ I5' r5 (step x H5 y5)) (fun _ s6 ⟨σ6, H6, I6, q6⟩ => ?_) fun x s' hx => bad n s₀ x s' hI.t hx
        have back : ∀ {s₀' : Shared} {ys7 : List V} {σ7 : L2.St} {H7 : Hp} {s7 : Shared}, KI r s₀' (ip ++ pinsAt fp s5.heap) ys7 σ7 H7 s7 → KI r s₀' ip ys7 σ7 H7 s7 := fun {s₀' ys7 σ7 H7 s7} h => ⟨h.t, h.gh, h.inv.unpinned⟩
        have again : ∀ {n7 : Nat} {s₀' : Shared} {ys7 : List V} {σ7 : L2.St} {H7 : Hp} {s7 : Shared}, n7 + ys7.length = sizeLine → KI r s₀' (ip ++ pinsAt fp s5.heap) ys7 σ7 H7 s7 → N ys7 σ7 H7 →
            Seg (model r.G.P r.G.w) r.G.A R (KY r) n7 s₀' (.forLoop tg (.ref it) body [] r.G.env) ((model r.G.P r.G.w).den (.forLoop tg (.ref it) body [] r.G.env))
              (.ret (fun q => ((match q with | .ok f => (.pure f : Sem Flow) | .error e => .raise e).onRaise (cameBack r.G.env)).wrap K J gd lv) none (gd false) (lv []) c p [] :: fs) s7 := fun {n7 s₀' ys7 σ7 H7 s7} hn7 I7 nn => by
          obtain ⟨m', hm, w7⟩ := hN ys7 σ7 H7 nn
          refine ih m' hm (i + 1) n7 ys7 s₀' s7 σ7 H7 hn7 w7 (back I7) (T.keep _ _ _ st5 fun b hb o e => (I7.inv.pin (b, o) (List.mem_append_right _ (List.mem_append_right _ (mem_pinsAt hb e)))).1) fun b hb => ?_
          obtain ⟨o, e, d⟩ := T.obj _ _ st5 b hb
          exact (I7.inv.pin (b, o) (List.mem_append_right _ (List.mem_append_right _ (mem_pinsAt hb e)))).2.1
        refine hb.run R (ip ++ pinsAt fp s5.heap) n ys s₀ _ _ _ _ id id s6 σ6 H6 { D with nx := N, ct := N, bk := D.nx } ⟨fun p hp => ?_, (gl _).over, (gl _).split, (gl _).guard, rfl⟩ hn ⟨fun n' ys' s₀' s7 f hn' h7 => ?_, fun n' s₀' x s7 t hx => bad n' s₀' x s7 t hx⟩ ⟨hI.t, hI.gh, I6⟩ q6
        · rcases List.mem_append.mp hp with hp | hp
          · exact kc.ip p hp
          · exact fpS p.1 (of_pinsAt hp).1
        · cases f with
          | next => obtain ⟨σ7, H7, I7, n7⟩ := h7; exact seg_again rfl (again hn' I7 n7)
          | cont => obtain ⟨σ7, H7, I7, n7⟩ := h7; exact seg_again rfl (again hn' I7 n7)
          | brk => obtain ⟨σ7, H7, I7, q7⟩ := h7; exact seg_leaf (.ok .next) (k.ok n' ys' s₀' s7 .next hn' ⟨σ7, H7, back I7, q7⟩)
          | ret v => obtain ⟨x7, σ7, H7, I7, r7, q7⟩ := h7; exact seg_leaf (.ok (.ret v)) (k.ok n' ys' s₀' s7 (.ret v) hn' ⟨x7, σ7, H7, back I7, r7, q7⟩)
  exact go m0 0 n ys s₀ s2 σ H2 hn w0 ⟨hI.t, hI.gh, I2⟩ st2 fun b hb => (f2 b hb).1
end
end KG

end

section
set_option maxHeartbeats 1000000
/-! KGen4: a generator def's promise; what a call makes; the consumers that draw all. -/
namespace KG
open PySem PySem.Spec PyProof.Rows L2 GenW

/-- what stood is kept through stretches and sleeps -/
structure Since (G : Kon) (s s' : Shared) : Prop where
  os : s'.os = s.os
  bare : AllBare s'.gens
  keep : ∀ b o, G.old b = true → b ∉ frs G.outer → s.heap.get? b = some o → s'.heap.get? b = some o
  slot : ∀ b o, b ∈ frs G.outer → s.heap.get? b = some o → ∃ sl, s'.heap.get? b = some { o with slots := sl }
  lt : ∃ o, s'.heap.get? G.env.locals = some o
theorem Since.trans {G : Kon} {s s1 s2 : Shared} (a : Since G s s1) (b : Since G s1 s2) : Since G s s2 where
  os := b.os.trans a.os
  bare := b.bare
  keep := fun c o h1 h2 e => b.keep c o h1 h2 (a.keep c o h1 h2 e)
  slot := fun c o h e => by
    obtain ⟨sl, e1⟩ := a.slot c o h e
    obtain ⟨sl', e2⟩ := b.slot c _ h e1
    exact ⟨sl', e2⟩
  lt := b.lt
theorem Told.since {r : Run} {s₀ s : Shared} {H : Hp} (T : Told r s₀ s H) : Since r.G s₀ s := ⟨T.os, T.bare, T.keep, T.slot, T.lt⟩
/-- where all that is old is kept a stretch may begin -/
theorem Since.at {G : Kon} (g : G.Good) {s s' : Shared} (t : G.At s) (S : Since G s s') : G.At s' := by
  have nofr : ∀ b o, G.base.get? b = some o → b ∉ frs G.outer := fun b o e hb => by
    have z := (t.funs.mem hb).1
    rw [e] at z; cases z
  have all : ∀ (l : List Env), (∀ b ∈ frs l, b ∈ frs G.outer) → s.heap.FunFrames G.base l → s'.heap.FunFrames G.base l := by
    intro l
    induction l with
    | nil => intro _ _; trivial
    | cons env l ih =>
      intro hs hl
      obtain ⟨hk, ⟨L, o, hf, hn, ho, hd⟩, hr⟩ := hl
      have hL : L ∈ frs G.outer := hs L (by unfold frs; rw [List.filterMap_cons, hf]; exact List.mem_cons_self)
      obtain ⟨sl, e⟩ := S.slot L o hL ho
      exact ⟨hk, ⟨L, _, hf, hn, e, hd⟩, ih (fun b hb => hs b (by unfold frs; rw [List.filterMap_cons, hf]; exact List.mem_cons_of_mem _ hb)) hr⟩
  refine ⟨fun b o e => S.keep b o (g.bold b o e) (nofr b o e) (t.base b o e), all _ (fun _ h => h) t.funs, (let ⟨_, e⟩ := S.lt; Nat.le_of_lt (Heap.lt_size e)), S.bare, fun b o e => ?_, fun b hb => ?_⟩
  · obtain ⟨ob, u, rfl⟩ := g.frz b o e
    refine (t.hs b _ e).stay (fun c v hc q => ?_) (fun _ z => z) fun _ _ z => z
    rcases hc with rfl | hc
    · refine S.keep _ v (g.hlt _ _ e) (fun hf => ?_) q
      have z := g.frf _ hf
      rw [e] at z; cases z
    · obtain ⟨ob', u', z⟩ := g.frz _ _ hc
      cases z
  · obtain ⟨o, e⟩ := t.old b hb
    by_cases hf : b ∈ frs G.outer
    · obtain ⟨sl, e'⟩ := S.slot b o hf e
      exact ⟨_, e'⟩
    · exact ⟨o, S.keep b o hb hf e⟩
theorem Kon.At.gens {G : Kon} {s : Shared} (t : G.At s) {X : Array GenState} (hX : AllBare X) : G.At { s with gens := X } := ⟨t.base, t.funs, t.size, hX, t.hs, t.old⟩
theorem Since.gens {G : Kon} {s s' : Shared} (t : Since G s s') {X : Array GenState} (hX : AllBare X) : Since G s { s' with gens := X } := ⟨t.os, hX, t.keep, t.slot, t.lt⟩

/-- the end of a run -/
def KEnd (r : Run) (Q : List V → Hp → Prop) : GenEnd := fun n s₀ q s =>
  ((q = .ok (.ret .none) ∨ q = .ok .next) ∧ ∃ ys H, n + ys.length = sizeLine ∧ r.Gh ys s₀.heap ∧ Told r s₀ s H ∧ Q ys H) ∨
  ∃ e, q = .error e ∧ (∃ s₀, L2.CX r.G.P r.G.w r.G.outer r.G.Hs (r.G.cut s₀) r.G.E e s) ∧ s.heap.get? r.a = some r.go

/-- a generator def's promise: arguments, what it may read of the heap (all locked), what is told of an item, what is wanted at the end, an exception -/
abbrev SpK := List V → Hp → (List V → V → Hp → Prop) → (List V → Hp → Prop) → XK → Prop
/-- what is read by the generator: locked things of the caller's -/
def Plain (u : HO) : Prop := (∃ xs, u = .lst xs) ∨ (∃ xs, u = .tup xs) ∨ ∃ kvs, u = .dK kvs
theorem Plain.swap {P : Program} {w : World} {H H' : Hp} {h : Heap} {a : Addr} {ob : Obj} {u : HO} (p : Plain u) (x : ObjOk P w H h a (.frz ob u)) : ObjOk P w H' h a (.frz ob u) := by
  rcases p with ⟨xs, rfl⟩ | ⟨xs, rfl⟩ | ⟨kvs, rfl⟩
  · exact x
  · exact x
  · exact x
structure Shares (H Hs : Hp) : Prop where
  sub : ∀ b o, Hs b = some o → H b = some o
  frz : ∀ b o, Hs b = some o → ∃ ob u, o = .frz ob u ∧ Plain u
def noHp : Hp := fun _ => none
theorem Shares.none (H : Hp) : Shares H noHp where
  sub := fun b o e => nomatch (show Option.none = some o from e)
  frz := fun b o e => nomatch (show Option.none = some o from e)
/-- what a call gives -/
def KMade (P : Program) (w : World) (k : Nat) (outer : List Env) (Hs : Hp) (sc : Shared) (yl : List V → V → Hp → Prop) (Q : List V → Hp → Prop) (E : XK) (u : Value) (s' : Shared) : Prop :=
  ∃ (a : Addr) (g : Nat) (c : Code) (go : Obj) (G : Around → Kon), u = .ref a ∧ (∀ h : Heap, h.get? a = some go → h.IsGen a g) ∧ s'.heap.get? a = some go ∧ s'.gens[g]? = some (.fresh c) ∧ sc.heap.get? a = none ∧
    s'.os = sc.os ∧ AllBare s'.gens ∧ (∀ b o, sc.heap.get? b = some o → s'.heap.get? b = some o) ∧ (∃ o, s'.heap.get? sc.heap.objs.size = some o) ∧
    (∀ A, (G A).P = P ∧ (G A).w = w ∧ (G A).outer = outer ∧ (G A).Hs = Hs ∧ (G A).E = E ∧ (G A).A = A ∧ (G A).env.locals = sc.heap.objs.size ∧ (G A).old = fun b => (sc.heap.get? b).isSome) ∧
    ∀ (A : Around), Room k A → A.frames = some outer → (G A).Good ∧ (G A).At s' ∧ ∀ (Ss : List Addr) (Gh : List V → Heap → Prop) (s2 : Shared), a ∉ Ss → (∀ S ∈ Ss, s'.heap.objs.size ≤ S) → Run.At ⟨G A, a, go, Ss, Gh, yl⟩ s2 → (∀ b o, s'.heap.get? b = some o → s2.heap.get? b = some o) → Gh [] s2.heap →
      Seg (model P w) A (KEnd ⟨G A, a, go, Ss, Gh, yl⟩ Q) (KY ⟨G A, a, go, Ss, Gh, yl⟩) sizeLine s2 c ((model P w).den c) [] s2

structure KFn (P : Program) (w : World) (K : PySem.W.Frag) (mg : Str → Option Value) (base : Heap) (k : Nat) (f : Addr) (fd : FuncData) (ps : List Str) (sp : SpK) : Prop where
  len : ∀ vs Hs yl Q E, sp vs Hs yl Q E → vs.length = ps.length
  run : ∀ (A : Around) (outer : List Env) (s : Shared) (H Hs : Hp) (args : Args) (us : List Value) (vs : List V) (yl : List V → V → Hp → Prop) (Q : List V → Hp → Prop) (E : XK), Room k A → Env0 P w K mg base A outer s H → Shares H Hs → BindsTo s fd args (ps.zip us) → Vals vs us → sp vs Hs yl Q E →
    codeAny (model P w) A (.call (.ref f) args) (fun q s' => match q with | .ok (.ret u) => KMade P w k outer Hs s yl Q E u s' | _ => False) s

/-- the run of a def's body, A the around of its frame -/
def konOf (P : Program) (w : World) (K : PySem.W.Frag) (mg : Str → Option Value) (base : Heap) (N : List Str) (env : Env) (outer : List Env) (Hs : Hp) (E : XK) (sc : Shared) (A : Around) : Kon :=
  ⟨P, w, K, mg, base, N, env, outer, A, Hs, E, fun b => (sc.heap.get? b).isSome⟩

/-- THE RULE: a generator def, by its body -/
theorem kfn_of {P : Program} {w : World} {K : PySem.W.Frag} {mg : Str → Option Value} {base : Heap} {k : Nat} {f : Addr} {name qual : Str} {params : Arguments} {body : List Stmt} {scope : Scope} {dV kV doc pm cdv ct oc : Value} {an od : Option Addr}
    {osl : Array (Option Value)} {N ps : List Str} {sp : SpK} (lk : K.lookup f = some ⟨oc, od, .func (PySem.W.fnOf name qual params body scope dV kV doc pm an cdv ct), osl⟩) (hcd : PySem.W.codeIn K cdv qual = true) (S : GScope N ps scope)
    (len : ∀ vs H yl Q E, sp vs H yl Q E → vs.length = ps.length)
    (hbody : ∀ (A : Around) (outer : List Env) (sc : Shared) (Hs : Hp) (vs : List V) (yl : List V → V → Hp → Prop) (Q : List V → Hp → Prop) (E : XK) (a : Addr) (go : Obj) (Ss : List Addr) (Gh : List V → Heap → Prop),
      Room k (A.deeper (envOfC qual scope sc.heap.objs.size f cdv)) → Run.Good ⟨konOf P w K mg base N (envOfC qual scope sc.heap.objs.size f cdv) outer Hs E sc A, a, go, Ss, Gh, yl⟩ → sp vs Hs yl Q E →
      ∃ t, KSs ⟨konOf P w K mg base N (envOfC qual scope sc.heap.objs.size f cdv) outer Hs E sc A, a, go, Ss, Gh, yl⟩ body t ∧ t { nx := fun ys _ H' => Q ys H', rt := fun ys v H' => v = .non ∧ Q ys H' } [] (start N vs) Hs) :
    KFn P w K mg base (k + 1) f (PySem.W.fnOf name qual params body scope dV kV doc pm an cdv ct) ps sp := by
  refine ⟨len, fun A outer s H Hs args us vs yl Q E hr e0 sh hb rv hsp => ?_⟩
  have hl := len _ _ _ _ _ hsp
  have KX : K.In s.heap := e0.mod.kin.keeps fun b o e => (e0.bs b o e).1
  have lim : s.heap.NoLimit := e0.mod.nolimit.keeps fun b o e => (e0.bs b o e).1
  have hkind : ∀ y ∈ ps.zip us, scope.names.lookup y.1 = some .local ∨ (scope.names.lookup y.1 = some .cell ∧ ((cellsFrom (s.heap.objs.size + 1) scope.names []).lookup y.1).isSome = true) := fun ⟨n, v⟩ hy => by
    rcases S.par n (List.of_mem_zip hy).1 with q | q
    · exact .inl q
    · exact .inr ⟨q, PySem.W.cellsFrom_some _ _ _ (.inl q)⟩
  -- the heap with Hs alone tracked
  have hsok : HOk P w Hs s.heap := fun b o e => by
    obtain ⟨ob, u, rfl, pl⟩ := sh.frz b o e
    exact pl.swap (e0.hok b _ (sh.sub b _ e))
  have gone : ∀ b, H b = none → Hs b = none := fun b hn => by
    cases q : Hs b with
    | none => rfl
    | some u =>
      have z := sh.sub b u q
      rw [hn] at z; cases z
  have e0s : Env0 P w K mg base A outer s Hs := ⟨e0.frames, e0.mod, fun b o e => ⟨(e0.bs b o e).1, gone b (e0.bs b o e).2⟩, e0.bsz, e0.funs, fun b hb => gone b (e0.frf b hb), hsok, e0.bare⟩
  refine codeAny_call_generator hr.depth (KX _ _ lk) rfl S.co S.gen rfl (PySem.W.codeRec_of KX hcd) (hb _ _ _ _ ?_)
  refine wpAny_newFunctionEnv_cells S.kind hkind fun env he s1 x => ?_
  subst he
  refine ⟨lim.keeps x.toInCall.keep, ?_⟩
  obtain ⟨h1, tk, es1, hk1⟩ := x.done
  have os1 : s1.os = s.os := by rw [es1]
  have gen1 : s1.gens = s.gens := by rw [es1]
  have lt1 : s.heap.objs.size < s1.heap.objs.size := x.toInCall.ns.lt
  have kp1 : ∀ b o, s.heap.get? b = some o → s1.heap.get? b = some o := x.toInCall.keep
  have main : ∀ (go : Obj) (nm qn : Value) (tk2 : Nat), go.cls = .type "generator" → go.data = .fields #[.int s1.gens.size 0, nm, qn] → go.slots = #[] → (∀ h : Heap, (h.push go).get? h.objs.size = some go) →
      KMade P w (k + 1) outer Hs s yl Q E (.ref s1.heap.objs.size) { s1 with gens := s1.gens.push (.fresh (.func body (envOfC qual scope s.heap.objs.size f cdv))), toks := tk2, heap := s1.heap.push go } := by
    intro go nm qn tk2 hgc hgd0 hgs hgp
    have hpushed : (s1.heap.push go).get? s1.heap.objs.size = some go := hgp _
    have young : ∀ b, s.heap.objs.size ≤ b → (s.heap.get? b).isSome = false := fun b hb => by
      rw [Heap.get?_none_of_le hb]; rfl
    refine ⟨s1.heap.objs.size, s1.gens.size, _, go, konOf P w K mg base N (envOfC qual scope s.heap.objs.size f cdv) outer Hs E s, rfl, fun h e => ⟨go, nm, qn, e, hgc, hgd0, hgs⟩, hpushed, Array.getElem?_push_size .., Heap.get?_none_of_le (Nat.le_of_lt lt1), os1, AllBare.push (by rw [gen1]; exact e0.bare) rfl,
      fun b o e => Heap.get?_push_of_some _ (kp1 b o e), ?_, fun A => ⟨rfl, rfl, rfl, rfl, rfl, rfl, rfl, rfl⟩, fun Aw hrw hfr => ?_⟩
    · obtain ⟨oL, _, _, hoL, _⟩ := x.toInCall.ns
      exact ⟨oL, Heap.get?_push_of_some _ hoL⟩
    have e0w : Env0 P w K mg base Aw outer s Hs := ⟨hfr, e0.mod, e0s.bs, e0.bsz, e0.funs, e0s.frf, hsok, e0.bare⟩
    have I1 : Inv (gcxOf P w K mg base N qual scope f cdv Aw outer s Hs E []) [] (start N vs) Hs s1 := inv_startG S hrw.hd e0w hl rv x
    have G : (konOf P w K mg base N (envOfC qual scope s.heap.objs.size f cdv) outer Hs E s Aw).Good :=
      { mod := e0.mod, kind := S.kind, glob := rfl, blt := rfl, inj := I1.ok.inj, has := I1.ok.has, cab := fun y c h => I1.ok.cab y c rfl h, frame := rfl, hd := hrw.hd, frames := hfr,
        olt := fun b hb => by
          obtain ⟨o, e⟩ := Option.isSome_iff_exists.mp hb
          exact Heap.lt_size e
        frlt := fun b hb => by
          obtain ⟨_, o, e, _⟩ := e0.funs.mem hb
          show (s.heap.get? b).isSome = true
          rw [e]; rfl
        bold := fun b o e => by
          show (s.heap.get? b).isSome = true
          rw [(e0.bs b o e).1]; rfl
        bsz := e0.bsz, bs := fun b o e => (e0s.bs b o e).2, frf := e0s.frf
        frz := fun b o e => by
          obtain ⟨ob, u, z, _⟩ := sh.frz b o e
          exact ⟨ob, u, z⟩
        hlt := fun b o e => by
          obtain ⟨ob, u, rfl, _⟩ := sh.frz b o e
          show (s.heap.get? b).isSome = true
          rw [(hsok b _ e).1]; rfl }
    have kpp : ∀ b o, s.heap.get? b = some o → (s1.heap.push go).get? b = some o := fun b o e => Heap.get?_push_of_some _ (kp1 b o e)
    refine ⟨G, ⟨fun b o e => kpp b o (e0.bs b o e).1, e0.funs.of_keeps fun b o e _ => ⟨o, kpp b o e, rfl⟩, ?_, AllBare.push (by rw [gen1]; exact e0.bare) rfl, hsok.kept kpp, fun b hb => ?_⟩, fun Ss Gh s2 haS hSs t2 hk2 hGh => ?_⟩
    · show s.heap.objs.size ≤ (s1.heap.push go).objs.size
      rw [Heap.size_push]; exact Nat.le_succ_of_le (Nat.le_of_lt lt1)
    · obtain ⟨o, e⟩ := Option.isSome_iff_exists.mp hb
      exact ⟨o, kpp b o e⟩
    have rg : Run.Good ⟨konOf P w K mg base N (envOfC qual scope s.heap.objs.size f cdv) outer Hs E s Aw, s1.heap.objs.size, go, Ss, Gh, yl⟩ := ⟨G, haS, young _ (Nat.le_of_lt lt1)⟩
    obtain ⟨t, ht, hq⟩ := hbody Aw outer s Hs vs yl Q E s1.heap.objs.size go Ss Gh (hrw.deeper _) rg hsp
    have kp2 : ∀ b o, s1.heap.get? b = some o → s2.heap.get? b = some o := fun b o e => hk2 b o (Heap.get?_push_of_some _ e)
    have yg : ∀ b, s1.heap.objs.size ≤ b → Hs b = none ∧ b ≠ s.heap.objs.size ∧ b ∉ frs outer := fun b hb => ⟨I1.hok.fresh hb, Nat.ne_of_gt (Nat.lt_of_lt_of_le lt1 hb), I1.nofs hb⟩
    have hpn : ∀ p ∈ Run.pn ⟨konOf P w K mg base N (envOfC qual scope s.heap.objs.size f cdv) outer Hs E s Aw, s1.heap.objs.size, go, Ss, Gh, yl⟩ s2 ++ [], s2.heap.get? p.1 = some p.2 ∧ Hs p.1 = none ∧ p.1 ≠ s.heap.objs.size ∧ p.1 ∉ frs outer ∧ ∀ v, p.2.data ≠ .cell v := fun p hp => by
      rw [List.append_nil] at hp
      rcases List.mem_cons.mp hp with hp | hp
      · subst hp
        obtain ⟨y1, y2, y3⟩ := yg s1.heap.objs.size (Nat.le_refl _)
        exact ⟨hk2 _ _ hpushed, y1, y2, y3, fun v q => by rw [hgd0] at q; cases q⟩
      · obtain ⟨hS, e⟩ := of_pinsAt hp
        have hz : s1.heap.objs.size ≤ p.1 := by
          have q : (s1.heap.push go).objs.size ≤ p.1 := hSs p.1 hS
          rw [Heap.size_push] at q
          exact Nat.le_of_succ_le q
        obtain ⟨y1, y2, y3⟩ := yg p.1 hz
        obtain ⟨o', e', d⟩ := t2.ss p.1 hS
        rw [e] at e'; cases e'
        exact ⟨e, y1, y2, y3, d⟩
    have J : Inv (Run.X ⟨konOf P w K mg base N (envOfC qual scope s.heap.objs.size f cdv) outer Hs E s Aw, s1.heap.objs.size, go, Ss, Gh, yl⟩ s2) [] (start N vs) Hs s2 :=
      rouse G I1 rfl rfl rfl rfl t2.t (fun _ _ e => e) (fun _ _ _ e => e) (fun b o _ _ e => kp2 b o e) hpn
    have hI : KI ⟨konOf P w K mg base N (envOfC qual scope s.heap.objs.size f cdv) outer Hs E s Aw, s1.heap.objs.size, go, Ss, Gh, yl⟩ s2 [] [] (start N vs) Hs s2 := ⟨t2, hGh, J⟩
    refine seg_func ?_
    refine ht.run _ [] sizeLine [] s2 _ [] _ _ id id s2 (start N vs) Hs _ ⟨fun p hp => (by simp at hp), over_func, rfl, rfl, rfl⟩ (Nat.add_zero _) ⟨fun n ys s₀ s' fl hn hs => ?_, fun n s₀ e s' t0 hx => ?_⟩ hI hq
    · cases fl with
      | next =>
        obtain ⟨σ', H', hI', hQ⟩ := hs
        exact seg_end (.ok (.ret .none)) (.inl ⟨.inl rfl, ys, H', hn, hI'.gh, hI'.told rg, hQ⟩)
      | brk => obtain ⟨_, _, _, q⟩ := hs; exact False.elim q
      | cont => obtain ⟨_, _, _, q⟩ := hs; exact False.elim q
      | ret u =>
        obtain ⟨v, σ', H', hI', rv', ev, hQ⟩ := hs
        subst ev
        have eu : u = Value.none := rv'
        subst eu
        exact seg_end (.ok (.ret .none)) (.inl ⟨.inl rfl, ys, H', hn, hI'.gh, hI'.told rg, hQ⟩)
    · refine seg_wrap ?_
      rw [over_func]
      refine wpAny_mono hx (fun _ s'' q => ?_) fun _ s'' q => q.elim
      exact seg_end (.error e) (.inr ⟨e, rfl, ⟨_, q.1⟩, q.2 (s1.heap.objs.size, go) List.mem_cons_self⟩)
  exact main _ _ _ _ rfl rfl rfl fun h => Heap.get?_push_size _ rfl
end KG

end

section
set_option maxHeartbeats 1000000
/-! KGen5: who draws: list, tuple, the first item by a for. -/
namespace KG
open PySem PySem.Spec PyProof.Rows L2 GenW

/-- the list that a consumer fills -/
def GhL (S : Addr) : List V → Heap → Prop := fun ys h => ∃ acc c, h.get? S = some (lstObj acc c) ∧ Vals ys acc.toList

/-- the heap grows -/
theorem Since.more {G : Kon} {s s' : Shared} (S : Since G s s') {h' : Heap} (k : ∀ b o, s'.heap.get? b = some o → h'.get? b = some o) {t : Nat} : Since G s { s' with heap := h', toks := t } where
  os := S.os
  bare := S.bare
  keep := fun b o h1 h2 e => k b o (S.keep b o h1 h2 e)
  slot := fun b o h e => by
    obtain ⟨sl, e'⟩ := S.slot b o h e
    exact ⟨sl, k _ _ e'⟩
  lt := let ⟨o, e⟩ := S.lt; ⟨o, k _ _ e⟩
/-- a young thing of the consumer's own changes -/
theorem Since.poke {G : Kon} (g : G.Good) {s s' : Shared} (S : Since G s s') {h' : Heap} {x : Addr} (hx : G.old x = false) (hL : x ≠ G.env.locals) (k : ∀ b o, b ≠ x → s'.heap.get? b = some o → h'.get? b = some o) : Since G s { s' with heap := h' } where
  os := S.os
  bare := S.bare
  keep := fun b o h1 h2 e => k b o (fun z => by rw [z, hx] at h1; cases h1) (S.keep b o h1 h2 e)
  slot := fun b o h e => by
    obtain ⟨sl, e'⟩ := S.slot b o h e
    exact ⟨sl, k b _ (fun z => by have q := g.frlt b h; rw [z, hx] at q; cases q) e'⟩
  lt := let ⟨o, e⟩ := S.lt; ⟨o, k _ _ (Ne.symm hL) e⟩

section
variable {P : Program} {w : World} {G : Kon} {a : Addr} {go : Obj} {S : Addr} {yl : List V → V → Hp → Prop} {Q : List V → Hp → Prop}
/-- the loop that fills a list -/
theorem kdrain (g0 : G.Good) (hP : G.P = P) (hw : G.w = w) (hE : G.E = E0) {A : Around} {R : Result → Shared → Prop} {g : Nat} {res : Value} {sb : Shared}
    (hh : A.handled = none) (hd : A.depth < recursionLimit) (hGA : G.A = A.in1.in1) (hg : ∀ h : Heap, h.get? a = some go → h.IsGen a g) (hSa : S ≠ a) (hSo : G.old S = false) (hao : G.old a = false) (hSL : S ≠ G.env.locals)
    (tb : G.At sb)
    (hend : ∀ s' acc c H' ys, Since G sb s' → s'.heap.get? S = some (lstObj acc c) → Vals ys acc.toList → ys.length ≤ sizeLine → HOk P w H' s'.heap → (∀ b o, G.Hs b = some o → H' b = some o) → (∀ b o, G.old b = true → H' b = some o → G.Hs b = some o) → H' S = none → Q ys H' → R (.ok (.ret res)) s') :
    ∀ (m : Nat) (s : Shared), Since G sb s → s.heap.get? a = some go → (∃ o, s.heap.get? S = some o ∧ ∀ v, o.data ≠ .cell v) →
      (∃ gs, s.gens[g]? = some gs ∧ gs.Goes (model P w) A.in1.in1 (KEnd ⟨G, a, go, [S], GhL S, yl⟩ Q) (KY ⟨G, a, go, [S], GhL S, yl⟩) m (.send .none) (s.setGen g .running)) →
      codeAny (model P w) A (.builtin "list.extend.loop" ⟨[.ref S, .ref a, res], []⟩) R s := by
  subst hP hw
  have goes : ∀ {gs : GenState} {B : Around} {n : Nat} {q : Resume} {s : Shared}, gs.Goes (model G.P G.w) B (KEnd ⟨G, a, go, [S], GhL S, yl⟩ Q) (KY ⟨G, a, go, [S], GhL S, yl⟩) n q s →
      gs.Goes (model G.P G.w) B (fun n s₀ q s => ((q = .ok (.ret .none) ∨ q = .ok .next) ∧ (∃ ys H, n + ys.length = sizeLine ∧ GhL S ys s₀.heap ∧ Told ⟨G, a, go, [S], GhL S, yl⟩ s₀ s H ∧ Q ys H)) ∨
        ∃ e, q = .error e ∧ ((∃ s₀, L2.CX G.P G.w G.outer G.Hs (G.cut s₀) G.E e s) ∧ s.heap.get? a = some go)) (KY ⟨G, a, go, [S], GhL S, yl⟩) n q s := fun h => h
  have lim : ∀ s, Since G sb s → s.heap.NoLimit := fun s h => g0.mod.nolimit.keeps (h.at g0 tb).base
  have sg : ∀ {s : Shared} {x : GenState}, Since G sb s → x.bare = true → Since G sb (s.setGen g x) := fun {s x} h hx => ⟨h.os, allBare_setGen h.bare hx, h.keep, h.slot, h.lt⟩
  have told : ∀ {s s1 : Shared} {H : Hp} {x : GenState}, Since G sb s → Told ⟨G, a, go, [S], GhL S, yl⟩ (s.setGen g x) s1 H → Since G sb s1 := fun {s s1 H x} h T =>
    Since.trans h ⟨T.os, T.bare, T.keep, T.slot, T.lt⟩
  have fin : ∀ {n : Nat} {s s₁ : Shared}, Since G sb s → (∃ ys H, n + ys.length = sizeLine ∧ GhL S ys (s.setGen g .running).heap ∧ Told ⟨G, a, go, [S], GhL S, yl⟩ (s.setGen g .running) s₁ H ∧ Q ys H) → ∀ h', (∀ b o, s₁.heap.get? b = some o → h'.get? b = some o) →
      R (.ok (.ret res)) { s₁.setGen g .finished with heap := h' } := fun {n s s₁} hs hp h' hk => by
    obtain ⟨ys, H, hn, ⟨acc, c, hS, hv⟩, T, hQ⟩ := hp
    have S1 := told hs T
    exact hend _ acc c H ys ((sg (s := s₁) S1 rfl).more (t := s₁.toks) hk) (hk _ _ (T.own S List.mem_cons_self _ hS)) hv (by omega) (T.hok.kept hk) T.up T.low (T.ssH S List.mem_cons_self) hQ
  have bad : ∀ {s : Shared} {e : Value}, (∃ s₀, L2.CX G.P G.w G.outer G.Hs (G.cut s₀) G.E e s) → False := fun {s e} ⟨s₀, h⟩ => by
    obtain ⟨_, _, _, _, _, _, _, _, _, _, _, _, z⟩ := h
    rw [hE] at z
    exact z.elim
  intro m
  induction m with
  | zero =>
    intro s hs ha hS ⟨gs, hgs, hgo⟩
    refine codeAny_builtin F.entry_extend_loop ?_
    rw [Around.under_plainId F.plain_extend_loop _]
    show wpAny _ A.in1 (pyNext (.ref a) >>= _) _ _ s
    refine wpAny_bind (next_genG (A := A.in1) hh (lim s hs) hd (hg _ ha) hgs (goes hgo) (fun v s₁ gs' hbare hv => ?_) (fun s₁ hp h' hk => ?_) fun e s₁ he => (bad he.1).elim)
    · obtain ⟨ys, x, H, hn, rv, gh, hy, T, hk⟩ := hv
      have S1 := told hs T
      obtain ⟨acc, c, hSo', hvl⟩ := gh
      have hS1 := T.own S List.mem_cons_self _ hSo'
      refine False.elim (hk { s₁ with heap := s₁.heap.update S (Obj.mapSeq (·.push v)) } ⟨⟨(S1.poke g0 hSo hSL fun b o hb e => (Heap.get?_update_other _ _ (Ne.symm hb)).trans e).at g0 tb, fun S' hS' => ?_⟩, fun b o hb hbS e => (Heap.get?_update_other _ _ fun (z : S = b) => hbS (by rw [← z]; exact List.mem_cons_self)).trans e⟩ ?_)
      · obtain rfl := List.mem_singleton.mp hS'
        exact ⟨_, Heap.get?_update_self _ hS1 rfl, fun v q => by cases q⟩
      · refine ⟨acc.push v, _, Heap.get?_update_self _ hS1 rfl, ?_⟩
        rw [Array.toList_push]
        exact hvl.append (.cons rv .nil)
    · exact wpAny_pure (fin hs hp h' hk)
  | succ m ih =>
    intro s hs ha hS ⟨gs, hgs, hgo⟩
    have hgl : g < s.gens.size := (Array.getElem?_eq_some_iff.mp hgs).1
    refine codeAny_builtin F.entry_extend_loop ?_
    rw [Around.under_plainId F.plain_extend_loop _]
    show wpAny _ A.in1 (pyNext (.ref a) >>= _) _ _ s
    refine wpAny_bind (wpAny_gsz (n := g + 1) hgl (next_genG (A := A.in1) hh (lim s hs) hd (hg _ ha) hgs (goes hgo) (fun v s₁ gs' hbare hv => ?_) (fun s₁ hp h' hk => ?_) fun e s₁ he => (bad he.1).elim))
    · intro hsz
      obtain ⟨ys, x, H, hn, rv, gh, hy, T, hk⟩ := hv
      have S1 := told hs T
      obtain ⟨acc, c, hSo', hvl⟩ := gh
      have hS1 := T.own S List.mem_cons_self _ hSo'
      have hasz : acc.size < sizeLine := by
        have e1 := hvl.length
        have e2 : acc.toList.length = acc.size := by simp
        omega
      show wpAny _ A.in1 (updateSeq S (·.push v) >>= _) _ _ _
      refine wpAny_bind ?_
      refine wpAny_updateSeq hS1 rfl (wpAny_pure ⟨plainId_quiet F.plain_extend_loop _, ?_⟩) (Nat.le_of_lt hasz) (by show (acc.push v).size ≤ sizeLine + 1; rw [Array.size_push]; omega)
      have keep3 : ∀ b o, b ≠ S → s₁.heap.get? b = some o → (s₁.heap.update S (Obj.mapSeq (·.push v))).get? b = some o := fun b o hbS e => (Heap.get?_update_other _ _ (Ne.symm hbS)).trans e
      have hsz1 : g < s₁.gens.size := by
        have q : (s₁.setGen g gs').gens.size = s₁.gens.size := setGen_size _ _ _
        have hsz' : g + 1 ≤ (s₁.setGen g gs').gens.size := hsz
        omega
      have S2 : Since G sb { s₁.setGen g gs' with heap := s₁.heap.update S (Obj.mapSeq (·.push v)) } := (sg (s := s₁) S1 hbare).poke g0 hSo hSL keep3
      have hSn : (s₁.heap.update S (Obj.mapSeq (·.push v))).get? S = some (Obj.mapSeq (·.push v) (lstObj acc c)) := Heap.get?_update_self _ hS1 rfl
      refine ih { s₁.setGen g gs' with heap := s₁.heap.update S (Obj.mapSeq (·.push v)) } S2 (keep3 a go (Ne.symm hSa) T.gen) ⟨_, hSn, fun v q => by cases q⟩ ⟨gs', setGen_at hsz1, ?_⟩
      refine hk _ ⟨⟨(sg S2 rfl).at g0 tb, fun S' hS' => ?_⟩, fun b o hb hbS e => keep3 b o (fun z => hbS (by rw [z]; exact List.mem_cons_self)) e⟩ ?_
      · obtain rfl := List.mem_singleton.mp hS'
        exact ⟨_, hSn, fun v q => by cases q⟩
      · refine ⟨acc.push v, _, hSn, ?_⟩
        rw [Array.toList_push]
        exact hvl.append (.cons rv .nil)
    · intro hsz
      exact wpAny_pure (fin hs hp h' hk)
end
end KG

end

section
set_option maxHeartbeats 1000000
/-! KGen6: list(g), tuple(g), the first item by a for, over the layer. -/
namespace KG
open PySem PySem.Spec PyProof.Rows L2 GenW

/-- behind the drawing: the caller's heap and what the generator tells, as one -/
theorem join {X : Cx} {pins : List (Addr × Obj)} {σ : L2.St} {H H' Hs : Hp} {sc s1 : Shared} {G : Kon} (I : Inv X pins σ H sc) (hold : G.old = fun b => (sc.heap.get? b).isSome) (hout : G.outer = X.stack) (sh : Shares H Hs) (hHs : G.Hs = Hs)
    (Sn : Since G sc s1) (hok : HOk X.prog X.w H' s1.heap) (up : ∀ b o, G.Hs b = some o → H' b = some o) (low : ∀ b o, G.old b = true → H' b = some o → G.Hs b = some o) :
    ∃ Hm : Hp, Un (frs X.stack) [] H Hm sc.heap s1.heap ∧ HOk X.prog X.w Hm s1.heap ∧ Evl.Ex H Hm ∧ Evl.Ex H' Hm ∧ (∀ b, G.old b = false → Hm b = H' b) := by
  have oldT : ∀ b o, H b = some o → G.old b = true := fun b o e => by
    obtain ⟨u, hu⟩ := objOk_get (I.hok b o e)
    rw [hold]
    show (sc.heap.get? b).isSome = true
    rw [hu]; rfl
  have kp : ∀ b o, b ∉ frs X.stack → sc.heap.get? b = some o → s1.heap.get? b = some o := fun b o hb e => by
    refine Sn.keep b o ?_ (by rw [hout]; exact hb) e
    rw [hold]
    show (sc.heap.get? b).isSome = true
    rw [e]; rfl
  have nfr : ∀ b o, H b = some o → b ∉ frs X.stack := fun b o e hb => by
    rw [I.stkFree b hb] at e; cases e
  have nfz : ∀ b o, G.old b = true → H' b = some o → ∃ ob u, o = .frz ob u ∧ Plain u := fun b o h e => by
    have z := low b o h e
    rw [hHs] at z
    exact sh.frz b o z
  refine ⟨fun b => if G.old b = true then H b else H' b, ⟨fun b o e _ hf _ => kp b o hf e, fun b o e _ hf _ => ?_, fun b o e n _ => ?_, fun b o e _ => ?_, fun b xs e => ?_, fun b o u e => ?_, fun b ps e => ⟨#[], ?_⟩⟩, fun b o e => ?_, fun b o e => ?_, fun b o e => ?_, fun b h => ?_⟩
  · exact Sn.slot b o (by rw [hout]; exact hf) e
  · have hb : G.old b = true := by
      rw [hold]
      show (sc.heap.get? b).isSome = true
      rw [e]; rfl
    show (if G.old b = true then H b else H' b) = none
    rw [if_pos hb]; exact n
  · by_cases hf : b ∈ frs X.stack
    · obtain ⟨sl, q⟩ := Sn.slot b o (by rw [hout]; exact hf) e
      exact ⟨_, q⟩
    · exact ⟨o, kp b o hf e⟩
  · show (if G.old b = true then H b else H' b) = _
    rw [if_pos (oldT b _ e)]; exact e
  · show (if G.old b = true then H b else H' b) = _
    rw [if_pos (oldT b _ e)]; exact e
  · show (if G.old b = true then H b else H' b) = _
    rw [if_pos (oldT b _ e)]; simp [e]
  · by_cases hb : G.old b = true
    · have e' : H b = some o := by
        have z : (if G.old b = true then H b else H' b) = some o := e
        rw [if_pos hb] at z; exact z
      refine (I.hok b o e').stay (fun c v hc q => ?_) (fun c q => ?_) fun c xs q => ?_
      · refine kp c v ?_ q
        rcases hc with rfl | hc
        · exact nfr _ _ e'
        · exact nfr _ _ hc
      · show (if G.old c = true then H c else H' c) = _
        rw [if_pos (oldT c _ q)]; exact q
      · show (if G.old c = true then H c else H' c) = _
        rw [if_pos (oldT c _ q)]; exact q
    · have e' : H' b = some o := by
        have z : (if G.old b = true then H b else H' b) = some o := e
        rw [if_neg hb] at z; exact z
      refine (hok b o e').stay (fun _ _ _ q => q) (fun c q => ?_) fun c xs q => ?_
      · show (if G.old c = true then H c else H' c) = _
        by_cases hc : G.old c = true
        · obtain ⟨_, _, z, _⟩ := nfz c _ hc q
          cases z
        · rw [if_neg hc]; exact q
      · show (if G.old c = true then H c else H' c) = _
        by_cases hc : G.old c = true
        · obtain ⟨_, _, z, _⟩ := nfz c _ hc q
          cases z
        · rw [if_neg hc]; exact q
  · show (if G.old b = true then H b else H' b) = _
    rw [if_pos (oldT b _ e)]; exact e
  · show (if G.old b = true then H b else H' b) = _
    by_cases hb : G.old b = true
    · rw [if_pos hb]
      have z := low b o hb e
      rw [hHs] at z
      exact sh.sub b o z
    · rw [if_neg hb]; exact e
  · show (if G.old b = true then H b else H' b) = _
    rw [if_neg (by rw [h]; exact Bool.false_ne_true)]

/-! ### the drawing of all -/
section
variable {P : Program} {w : World} {A : Around} {E : Value → Shared → Prop} {s : Shared} {k : Nat} {outer : List Env} {Hs : Hp} {sc : Shared} {yl : List V → V → Hp → Prop} {Q : List V → Hp → Prop} {u : Value}
/-- what a drawing tells: a list at S, its items, the heap -/
def Drawn (P : Program) (w : World) (outer : List Env) (Hs : Hp) (sc : Shared) (Q : List V → Hp → Prop) (S : Addr) (s' : Shared) : Prop :=
  ∃ (G : Kon) (acc : Array Value) (c : Nat) (H' : Hp) (ys : List V), G.outer = outer ∧ G.Hs = Hs ∧ (G.old = fun b => (sc.heap.get? b).isSome) ∧ sc.heap.objs.size ≤ S ∧ Since G sc s' ∧ s'.heap.get? S = some (lstObj acc c) ∧ Vals ys acc.toList ∧ ys.length ≤ sizeLine ∧
    HOk P w H' s'.heap ∧ (∀ b o, G.Hs b = some o → H' b = some o) ∧ (∀ b o, G.old b = true → H' b = some o → G.Hs b = some o) ∧ H' S = none ∧ Q ys H'
/-- the loop begins: the new list at S -/
theorem kfill {R : Result → Shared → Prop} {res : Value} {S : Addr} {B : Around} (hr3 : Room k B.in1.in1) (hdB : B.depth < recursionLimit) (hfr : B.frames = some outer) {a : Addr} {g : Nat} {c : Code} {go : Obj} {G : Around → Kon} {s2 : Shared}
    (hg : ∀ h : Heap, h.get? a = some go → h.IsGen a g) (ha : s.heap.get? a = some go) (hgs : s.gens[g]? = some (.fresh c)) (han : sc.heap.get? a = none) (hos : s.os = sc.os) (hb : AllBare s.gens) (hkp : ∀ b o, sc.heap.get? b = some o → s.heap.get? b = some o) (hlo : ∃ o, s.heap.get? sc.heap.objs.size = some o)
    (hG : ∀ A, (G A).P = P ∧ (G A).w = w ∧ (G A).outer = outer ∧ (G A).Hs = Hs ∧ (G A).E = E0 ∧ (G A).A = A ∧ (G A).env.locals = sc.heap.objs.size ∧ (G A).old = fun b => (sc.heap.get? b).isSome)
    (wake : ∀ (A : Around), Room k A → A.frames = some outer → (G A).Good ∧ (G A).At s ∧ ∀ (Ss : List Addr) (Gh : List V → Heap → Prop) (s2 : Shared), a ∉ Ss → (∀ S ∈ Ss, s.heap.objs.size ≤ S) → Run.At ⟨G A, a, go, Ss, Gh, yl⟩ s2 → (∀ b o, s.heap.get? b = some o → s2.heap.get? b = some o) → Gh [] s2.heap →
      Seg (model P w) A (KEnd ⟨G A, a, go, Ss, Gh, yl⟩ Q) (KY ⟨G A, a, go, Ss, Gh, yl⟩) sizeLine s2 c ((model P w).den c) [] s2)
    (hS : S = s.heap.objs.size) (h2 : s2.gens = s.gens) (ho2 : s2.os = s.os) (hk2 : ∀ b o, s.heap.get? b = some o → s2.heap.get? b = some o) (hS2 : ∃ c, s2.heap.get? S = some (lstObj #[] c))
    (hend : ∀ s', Drawn P w outer Hs sc Q S s' → R (.ok (.ret res)) s') : codeAny (model P w) B (.builtin "list.extend.loop" ⟨[.ref S, .ref a, res], []⟩) R s2 := by
  have hfr3 : B.in1.in1.frames = some outer := hfr
  obtain ⟨e1, e2, e3, e4, e5, e6, e7, e8⟩ := hG B.in1.in1
  obtain ⟨g0, t, wk⟩ := wake B.in1.in1 hr3 hfr3
  have hSn : s.heap.get? S = none := by rw [hS]; exact Heap.get?_none_of_le (Nat.le_refl _)
  have hSc : sc.heap.get? S = none := by
    cases q : sc.heap.get? S with
    | none => rfl
    | some o => have z := hkp S o q; rw [hSn] at z; cases z
  have hSa : S ≠ a := fun z => by rw [z, ha] at hSn; cases hSn
  have hSo : (G B.in1.in1).old S = false := by rw [e8]; show (sc.heap.get? S).isSome = false; rw [hSc]; rfl
  have hao : (G B.in1.in1).old a = false := by rw [e8]; show (sc.heap.get? a).isSome = false; rw [han]; rfl
  obtain ⟨oL, hoL⟩ := hlo
  have hlt : sc.heap.objs.size < S := by rw [hS]; exact Heap.lt_size hoL
  have bare2 : AllBare s2.gens := by rw [h2]; exact hb
  have os2 : s2.os = sc.os := ho2.trans hos
  have old_some : ∀ b, (G B.in1.in1).old b = true → ∃ o, sc.heap.get? b = some o := fun b hb => by
    rw [e8] at hb
    exact Option.isSome_iff_exists.mp hb
  have S2 : Since (G B.in1.in1) s s2 := ⟨ho2, bare2, fun b o _ _ e => hk2 b o e, fun b o _ e => ⟨o.slots, hk2 b o e⟩, ⟨oL, by rw [e7]; exact hk2 _ _ hoL⟩⟩
  obtain ⟨cS, hcS⟩ := hS2
  have gl : g < s2.gens.size := by rw [h2]; exact (Array.getElem?_eq_some_iff.mp hgs).1
  refine kdrain (P := P) (w := w) (G := G B.in1.in1) (a := a) (go := go) (S := S) (yl := yl) (Q := Q) g0 e1 e2 e5 (A := B) (g := g) (sb := s) hr3.hd hdB e6 hg hSa hSo hao (by rw [e7]; exact Nat.ne_of_gt hlt) t
    (fun s' acc c' H' ys q1 q2 q3 q4 q5 q6 q7 q8 q9 => hend s' ⟨G B.in1.in1, acc, c', H', ys, e3, e4, e8, Nat.le_of_lt hlt, ⟨q1.os.trans hos, q1.bare, fun b o h1 h2 e => q1.keep b o h1 h2 (hkp b o e), fun b o h e => q1.slot b o h (hkp b o e), q1.lt⟩, q2, q3, q4, q5, q6, q7, q8, q9⟩)
    sizeLine s2 S2 (hk2 _ _ ha) ⟨_, hcS, fun v q => by cases q⟩ ⟨.fresh c, by rw [h2]; exact hgs, rfl, ?_⟩
  refine wk [S] (GhL S) (s2.setGen g .running) (fun hm => hSa (List.mem_singleton.mp hm).symm) (fun S' hS' => ?_) ⟨(Since.at g0 t ⟨ho2, allBare_setGen bare2 rfl, S2.keep, S2.slot, S2.lt⟩), fun S' hS' => ?_⟩ (fun b o e => hk2 b o e) ⟨#[], cS, hcS, .nil⟩
  · rw [List.mem_singleton.mp hS', hS]; exact Nat.le_refl _
  · rw [List.mem_singleton.mp hS']
    exact ⟨_, hcS, fun v q => by cases q⟩

/-- list(g) -/
theorem kcall_list {Q' : Value → Shared → Prop} (hr : Room (k + 3) A) (hfr : A.frames = some outer) (h : KMade P w k outer Hs sc yl Q E0 u s) (hQ : ∀ S s', Drawn P w outer Hs sc Q S s' → Q' (.ref S) s') : wpAny (model P w) A (call (.type "list") [u]) Q' E s := by
  obtain ⟨a, g, c, go, G, rfl, hg, ha, hgs, han, hos, hb, hkp, hlo, hG, wake⟩ := h
  have hSa : s.heap.objs.size ≠ a := Nat.ne_of_gt (Heap.lt_size ha)
  refine callType_codes (Q₁ := fun obj s₁ => obj = .ref s.heap.objs.size ∧ s₁ = { s with heap := s.heap.push { cls := .type "list", data := .seq #[] } }) F.called_list (F.typeCall_list_1 _) F.entry_list_init
    (code_list_new _ ⟨rfl, rfl⟩) fun obj s₁ h₁ => ?_
  obtain ⟨rfl, rfl⟩ := h₁
  have hS : (s.heap.push { cls := .type "list", data := .seq #[] }).get? s.heap.objs.size = some { cls := .type "list", data := .seq #[] } := Heap.get?_push_size _ rfl
  refine ⟨⟨_, hS, rfl⟩, F.args_list_init_2 _ _, ?_⟩
  show wpAny _ A.in1.in1 (do let old ← Builtin.List.listItems (.ref s.heap.objs.size); Builtin.List.listUpdate (.ref s.heap.objs.size) (fun _ => #[]); letGo old.toList.reverse; Builtin.List.listExtendWith (.ref s.heap.objs.size) (.ref a) .none) _ _ _
  refine wpAny_bind ?_
  unfold Builtin.List.listItems
  refine wpAny_bind (wpAny_seqItems hS rfl (wpAny_pure ?_))
  show wpAny _ A.in1.in1 (updateSeq s.heap.objs.size (fun _ => #[]) >>= fun _ => letGo (#[] : Array Value).toList.reverse >>= fun _ => Builtin.List.listExtendWith (.ref s.heap.objs.size) (.ref a) .none) _ _ _
  refine wpAny_bind (wpAny_updateSeq hS rfl ?_)
  have hS2 := Heap.get?_update_self (Obj.mapSeq (fun _ => (#[] : Array Value))) hS rfl
  refine wpAny_bind (wpAny_letGo ?_)
  unfold Builtin.List.listExtendWith
  have up : ∀ (h : Heap) (f : Obj → Obj), (∀ b o, s.heap.get? b = some o → h.get? b = some o) → ∀ b o, s.heap.get? b = some o → (h.update s.heap.objs.size f).get? b = some o := fun h f q b o e =>
    (Heap.get?_update_other _ _ (Ne.symm (Nat.ne_of_lt (Heap.lt_size e)))).trans (q b o e)
  have k1 : ∀ b o, s.heap.get? b = some o → (s.heap.push { cls := .type "list", data := .seq #[] }).get? b = some o := fun b o e => Heap.get?_push_of_some _ e
  have k2 := up _ (Obj.mapSeq (fun _ => (#[] : Array Value))) k1
  have gty : ∀ {h : Heap}, (∀ b o, s.heap.get? b = some o → h.get? b = some o) → h.IsGen a g := fun {h} q => hg h (q a go ha)
  refine wpAny_bind (wpAny_typeOf (Heap.IsGen.typeIs (s := { s with heap := _ }) (gty k2)) ?_)
  have h1 : Builtin.List.listSameRef (.ref s.heap.objs.size) (.ref a) = false := by simp [Builtin.List.listSameRef, hSa]
  have h2 : (Value.type "generator" == Value.type "list") = false := by decide
  have h3 : (Value.type "generator" == Value.type "tuple") = false := by decide
  simp only [h1, h2, h3, Bool.or_false, Bool.false_eq_true, if_false]
  refine wpAny_bind (wpAny_pyIter_gen (s := { s with heap := _ }) (gty k2) ?_)
  refine wpAny_bind (wpAny_holding ?_)
  unfold Builtin.List.listLengthHint
  refine wpAny_bind (wpAny_specialOf (Heap.IsGen.typeIs (s := { s with heap := _ }) (gty k2)) F.gen_no_len ?_)
  show wpAny _ A.in1.in1 (specialOf (Value.ref a) (Str.ofString "__length_hint__") >>= _) _ _ _
  refine wpAny_bind (wpAny_specialOf (Heap.IsGen.typeIs (s := { s with heap := _ }) (gty k2)) F.gen_no_hint ?_)
  refine wpAny_pure ?_
  show wpAny _ A.in1.in1 (rule "list.extend.makes-room" >>= fun _ => Builtin.List.listTouch (.ref s.heap.objs.size) >>= fun _ =>
    again (.builtin "list.extend.loop" ⟨[.ref s.heap.objs.size, .ref a, .none], []⟩)) _ _ _
  refine wpAny_bind (wpAny_rule ?_)
  refine wpAny_bind ?_
  show wpAny _ A.in1.in1 (updateSeq s.heap.objs.size (·.push .none) >>= fun _ => updateSeq s.heap.objs.size (·.pop)) _ _ _
  refine wpAny_bind (wpAny_updateSeq hS2 rfl ?_)
  have hS3 := Heap.get?_update_self (Obj.mapSeq (·.push Value.none)) hS2 rfl
  refine wpAny_updateSeq (hz := by seq_fits) hS3 rfl ?_
  have hS4 := Heap.get?_update_self (Obj.mapSeq (·.pop)) hS3 rfl
  have k4 := up _ (Obj.mapSeq (·.pop)) (up _ (Obj.mapSeq (·.push Value.none)) k2)
  refine wpAny_pure ⟨plainId_quiet F.plain_extend_loop _, ?_⟩
  have hr3 : Room k A.in1.in1.in1 := ⟨hr.hd, by have := hr.dp; show A.depth + 3 * k + 5 < _; omega, by have := hr.un; show A.units + 1 + 1 + 1 + 16 * k + 200 < _; omega⟩
  exact kfill (B := A.in1) hr3 (by have := hr.dp; show A.depth < _; omega) hfr hg ha hgs han hos hb hkp hlo hG wake rfl rfl rfl k4 ⟨_, hS4⟩ fun s' hD => ⟨rfl, hQ _ s' hD⟩

/-- tuple(g): first the items are gathered -/
theorem kcollect {Q' : List Value → Shared → Prop} (hr : Room (k + 3) A) (hfr : A.frames = some outer) (h : KMade P w k outer Hs sc yl Q E0 u s) (hQ : ∀ S s' acc c, s'.heap.get? S = some (lstObj acc c) → Drawn P w outer Hs sc Q S s' → Q' acc.toList s') : wpAny (model P w) A (collect u) Q' E s := by
  obtain ⟨a, g, c, go, G, rfl, hg, ha, hgs, han, hos, hb, hkp, hlo, hG, wake⟩ := h
  have hSa : s.heap.objs.size ≠ a := Nat.ne_of_gt (Heap.lt_size ha)
  unfold collect
  refine wpAny_bind (wpAny_runValue (codeAny_builtin F.entry_proto_collect ?_))
  rw [Around.under_plainId F.plain_proto_collect _]
  show wpAny _ A.in1 (newList [] >>= fun l => again (.builtin "list.__iadd__" ⟨[l, .ref a], []⟩)) _ _ s
  refine wpAny_bind (wpAny_newObj_type ?_)
  refine wpAny_pure ⟨plainId_quiet F.plain_list_iadd _, codeAny_builtin F.entry_list_iadd ?_⟩
  rw [Around.under_plainId F.plain_list_iadd _]
  show wpAny _ A.in1 (Builtin.List.listExtendWith (.ref s.heap.objs.size) (.ref a) (.ref s.heap.objs.size)) _ _ _
  unfold Builtin.List.listExtendWith
  have k1 : ∀ b o, s.heap.get? b = some o → (s.heap.push { cls := .type "list", data := .seq ([] : List Value).toArray }).get? b = some o := fun b o e => Heap.get?_push_of_some _ e
  have gty : ∀ {h : Heap}, (∀ b o, s.heap.get? b = some o → h.get? b = some o) → h.IsGen a g := fun {h} q => hg h (q a go ha)
  refine wpAny_bind (wpAny_typeOf (Heap.IsGen.typeIs (s := { s with heap := _ }) (gty k1)) ?_)
  have h1 : Builtin.List.listSameRef (.ref s.heap.objs.size) (.ref a) = false := by simp [Builtin.List.listSameRef, hSa]
  have h2 : (Value.type "generator" == Value.type "list") = false := by decide
  have h3 : (Value.type "generator" == Value.type "tuple") = false := by decide
  simp only [h1, h2, h3, Bool.or_false, Bool.false_eq_true, if_false]
  refine wpAny_bind (wpAny_pyIter_gen (s := { s with heap := _ }) (gty k1) ?_)
  refine wpAny_bind (wpAny_holding ?_)
  unfold Builtin.List.listLengthHint
  refine wpAny_bind (wpAny_specialOf (Heap.IsGen.typeIs (s := { s with heap := _ }) (gty k1)) F.gen_no_len ?_)
  show wpAny _ A.in1 (specialOf (Value.ref a) (Str.ofString "__length_hint__") >>= _) _ _ _
  refine wpAny_bind (wpAny_specialOf (Heap.IsGen.typeIs (s := { s with heap := _ }) (gty k1)) F.gen_no_hint ?_)
  refine wpAny_pure ?_
  show wpAny _ A.in1 (rule "list.extend.makes-room" >>= fun _ => Builtin.List.listTouch (.ref s.heap.objs.size) >>= fun _ =>
    again (.builtin "list.extend.loop" ⟨[.ref s.heap.objs.size, .ref a, .ref s.heap.objs.size], []⟩)) _ _ _
  refine wpAny_bind (wpAny_rule ?_)
  have hS1 : (s.heap.push { cls := .type "list", data := .seq ([] : List Value).toArray }).get? s.heap.objs.size = some { cls := .type "list", data := .seq ([] : List Value).toArray } := Heap.get?_push_size _ rfl
  refine wpAny_bind ?_
  show wpAny _ A.in1 (updateSeq s.heap.objs.size (·.push .none) >>= fun _ => updateSeq s.heap.objs.size (·.pop)) _ _ _
  refine wpAny_bind (wpAny_updateSeq hS1 rfl ?_)
  have hS2 := Heap.get?_update_self (Obj.mapSeq (·.push Value.none)) hS1 rfl
  refine wpAny_updateSeq hS2 rfl ?_
  have hS3 := Heap.get?_update_self (Obj.mapSeq (·.pop)) hS2 rfl
  have up : ∀ (h : Heap) (f : Obj → Obj), (∀ b o, s.heap.get? b = some o → h.get? b = some o) → ∀ b o, s.heap.get? b = some o → (h.update s.heap.objs.size f).get? b = some o := fun h f q b o e =>
    (Heap.get?_update_other _ _ (Ne.symm (Nat.ne_of_lt (Heap.lt_size e)))).trans (q b o e)
  have k3 := up _ (Obj.mapSeq (·.pop)) (up _ (Obj.mapSeq (·.push Value.none)) k1)
  have hr3 : Room k A.in1.in1 := ⟨hr.hd, by have := hr.dp; show A.depth + 3 * k + 5 < _; omega, by have := hr.un; show A.units + 1 + 1 + 16 * k + 200 < _; omega⟩
  refine wpAny_pure ⟨plainId_quiet F.plain_extend_loop _, ?_⟩
  refine kfill (B := A) hr3 (by have := hr.dp; show A.depth < _; omega) hfr hg ha hgs han hos hb hkp hlo hG wake rfl rfl rfl k3 ⟨_, hS3⟩ fun s' hD => ?_
  obtain ⟨G', acc, c', H', ys, q1, q2, q3, q4, q5, q6, q7⟩ := id hD
  show wpAny _ A (load s.heap.objs.size >>= _) _ _ s'
  refine wpAny_bind (wpAny_load q6 ?_)
  exact wpAny_pure (hQ _ s' acc c' q6 hD)

theorem code_tuple_draw {Q₁ : Value → Shared → Prop} (hr : Room (k + 5) A) (hfr : A.frames = some outer) (h : KMade P w k outer Hs sc yl Q E0 u s)
    (hQ : ∀ S s' acc c, s'.heap.get? S = some (lstObj acc c) → Drawn P w outer Hs sc Q S s' → Q₁ (.ref s'.heap.objs.size) { s' with heap := s'.heap.push { cls := .type "tuple", data := .seq acc } }) :
    codeAny (model P w) A (.call (.builtin "tuple.__new__") ⟨[.type "tuple", u], []⟩) (wants Q₁ E) s := by
  refine codeAny_of_tree ?_
  show wpAny _ A.in1 (do checkBuiltinCall "tuple.__new__" ⟨[.type "tuple", u], []⟩; again (.builtin "tuple.__new__" ⟨[.type "tuple", u], []⟩)) _ _ s
  refine wpAny_bind (wpAny_of_eq (F.newCall_tuple_1 _) (wpAny_pure ⟨plainId_quiet F.plain_tuple_new _, codeAny_builtin F.entry_tuple_new ?_⟩))
  rw [Around.under_plainId F.plain_tuple_new _]
  have hsub := sub_tuple_self
  have hinit := init_tuple_lookup
  have hmh := madeHere_tuple
  have hrb : Room (k + 3) A.in1 := ⟨hr.hd, by have := hr.dp; show A.depth + 3 * (k + 3) + 5 < _; omega, by have := hr.un; show A.units + 1 + 16 * (k + 3) + 200 < _; omega⟩
  obtain ⟨a, g, c, go, G, rfl, hg, ha, hrest⟩ := id h
  have hTI : s.TypeIs (.ref a) "generator" := (hg _ ha).typeIs
  wp_walk using wpAny_typeOf hTI, kcollect hrb hfr h
  intro S s' acc c' hS hD
  show wpAny _ _ (Builtin.Tuple.tupleExact acc.toList.toArray >>= fun v => ret v) _ _ _
  unfold Builtin.Tuple.tupleExact
  have hz : acc.size ≤ sizeLine := by
    obtain ⟨G', acc', c2, H', ys, q1, q2, q3, q4, q5, q6, q7, q8, q9⟩ := hD
    rw [hS] at q6
    cases q6
    have e1 := q7.length
    have e2 : acc.toList.length = acc.size := by simp
    omega
  refine wpAny_bind (wpAny_newObj_type ?_ (by show acc.toList.toArray.size ≤ sizeLine; simp only [Array.toArray_toList]; exact hz))
  refine wpAny_pure ?_
  have e : acc.toList.toArray = acc := by simp
  rw [e]
  exact hQ S s' acc c' hS hD
theorem kcall_tuple {Q' : Value → Shared → Prop} (hr : Room (k + 7) A) (hfr : A.frames = some outer) (h : KMade P w k outer Hs sc yl Q E0 u s)
    (hQ : ∀ S s' acc c, s'.heap.get? S = some (lstObj acc c) → Drawn P w outer Hs sc Q S s' → Q' (.ref s'.heap.objs.size) { s' with heap := s'.heap.push { cls := .type "tuple", data := .seq acc } }) : wpAny (model P w) A (call (.type "tuple") [u]) Q' E s := by
  have hrb : Room (k + 5) A.in1 := ⟨hr.hd, by have := hr.dp; show A.depth + 3 * (k + 5) + 5 < _; omega, by have := hr.un; show A.units + 1 + 16 * (k + 5) + 200 < _; omega⟩
  refine callType_codes (Q₁ := fun obj s₁ => s₁.TypeIs obj "tuple" ∧ Q' obj s₁) F.called_tuple (F.typeCall_tuple_1 _) F.entry_object_init
    (code_tuple_draw hrb hfr h fun S s' acc c hS hD => ⟨⟨_, Heap.get?_push_size _ rfl, rfl⟩, hQ S s' acc c hS hD⟩) fun obj s₁ h₁ => ?_
  exact ⟨h₁.1, F.args_object_init_2 obj _, object_init_meets F.called_tuple.init.lookup F.called_tuple.made (by decide) P w A.in1 _ s₁ ⟨h₁.1, rfl, h₁.2⟩⟩
end
end KG

end

section
set_option maxHeartbeats 1000000
/-! KGen7: the rules over the layer: f(..) of a generator def, list of it, tuple of it, a for that takes its first item alone. -/
namespace KG
open PySem PySem.Spec PyProof.Rows L2 GenW

/-- an expression whose value is a generator that has not begun -/
abbrev TKG := L2.St → Hp → (Hp → (List V → V → Hp → Prop) → (List V → Hp → Prop) → Prop) → Prop
structure PKGen (X : Cx) (k : Nat) (e : Expr) (tg : TKG) : Prop where
  run : ∀ (pins : List (Addr × Obj)) (s : Shared) (σ : L2.St) (H : Hp) (C : Hp → (List V → V → Hp → Prop) → (List V → Hp → Prop) → Prop), Inv X pins σ H s → tg σ H C → wpAny (model X.prog X.w) X.A (eval e X.env)
    (fun u s' => ∃ H1 yl Q Hs sc, Inv X pins σ H1 sc ∧ Shares H1 Hs ∧ C H1 yl Q ∧ KMade X.prog X.w k X.stack Hs sc yl Q E0 u s') X.xe s
def tKCall (sp : SpK) (t : TA) : TKG := fun σ H C => t σ H fun vs H1 => ∃ yl Q Hs, Shares H1 Hs ∧ sp vs Hs yl Q E0 ∧ C H1 yl Q
section
variable {X : Cx} {k : Nat} {f : Addr} {fd : FuncData} {ps : List Str} {sp : SpK} {x : Str} {p pos : Pos} {e : Expr} {es : List Expr} {t : TA} {tg : TKG}
theorem pkgen_call (F : KFn X.prog X.w X.K X.mg X.base k f fd ps sp) (hr : Room k X.A) (hg : Gl X x) (hm : X.mg x = some (.ref f)) (hk : PySem.W.keepIn X.K (.ref f) = true) (hb : Binds X.K fd ps [])
    (ha : PA X (e :: es) t) (hdb : (x == ("__debug__" : Str)) = false := by decide) (he : starEach (e :: es) X.env = (false, eval e X.env) :: starEach es X.env := by rfl) (hpl : (backTo pos (starEach es X.env)).any (·.1) = false := by rfl) :
    PKGen X k (.Call (.Name x p) (e :: es) [] pos) (tKCall sp t) := by
  refine ⟨fun pins s σ H C I h => ?_⟩
  refine wpAny_Call_Name_kw (ld_glob I hg hm ?_ hdb)
  refine PySem.W.callWith_K (h₀ := X.base) I.ok.mod.kin hk (thn (ha.run pos pins s σ H _ I h) fun us s1 ⟨vs, H1, I1, r, yl, Q, Hs, sh, hsp, q⟩ => ⟨I1.kIn, ?_⟩) he hpl
  have hl : us.length = ps.length := by rw [← r.length]; exact F.len _ _ _ _ _ hsp
  refine wpAny_call (codeAny_mono (F.run X.A X.stack s1 H1 Hs ⟨us, []⟩ us vs yl Q E0 hr I1.env0 sh (by have z := hb s1 us I1.kIn (by rw [List.append_nil]; exact hl); rw [List.append_nil] at z; exact z) r hsp) fun q' s' hq => ?_)
  cases q' with
  | error e => exact False.elim hq
  | ok fl =>
    cases fl with
    | ret u => exact ⟨H1, yl, Q, Hs, s1, I1, sh, q, hq⟩
    | next => exact False.elim hq
    | brk => exact False.elim hq
    | cont => exact False.elim hq

/-- list(g), tuple(g) -/
def tListK (tg : TKG) : TE := fun σ H Qv => tg σ H fun H1 yl Q => ∀ ys H' Hm p, Q ys H' → ys.length ≤ sizeLine → Evl.Ex H1 Hm → Evl.Ex H' Hm → Hm p = none → Qv (.ref p) (upd Hm p (.lst ys))
def tTupK (tg : TKG) : TE := fun σ H Qv => tg σ H fun H1 yl Q => ∀ ys H' Hm p, Q ys H' → ys.length ≤ sizeLine → Evl.Ex H1 Hm → Evl.Ex H' Hm → Hm p = none → Qv (.ref p) (upd Hm p (.tup ys))
theorem pe_listK {nm : Str} (h : PKGen X k e tg) (hr : Room (k + 3) X.A) (hg : Gl X nm) (hmg : X.mg nm = none) (hv : bootBuiltins nm = some (.type "list")) (hnm : nm ≠ "__name__" := by decide) (hdb : (nm == ("__debug__" : Str)) = false := by decide)
    (he : starEach [e] X.env = (false, eval e X.env) :: starEach [] X.env := by rfl) : PE X (.Call (.Name nm p) [e] [] pos) (tListK tg) := by
  refine ⟨fun pins s σ H Q I hq => ?_⟩
  refine wpAny_Call_Name_kw (ld_blt I hg hmg hv ?_ hnm hdb)
  refine PyProof.Rows.callWith_type1 ?_ he rfl
  rw [he]
  show wpAny _ _ (spliced ((false, eval e X.env) :: backTo pos (starEach [] X.env))) _ _ s
  refine Calls.spliced_cons (thn (h.run pins s σ H _ I hq) fun u s1 ⟨H1, yl, Q1, Hs, sc, I1, sh, hc, hK⟩ => ?_)
  refine Calls.spliced_nil ?_
  refine kcall_list hr I1.ok.frames hK fun S s' hD => ?_
  obtain ⟨G, acc, c, H', ys, q1, q2, q3, q4, q5, q6, q7, q8, q9, q10, q11, q12, q13⟩ := hD
  obtain ⟨Hm, un, hok, x1, x2, x3⟩ := join I1 q3 q1 sh q2 q5 q9 q10 q11
  have hn : Hm S = none := by
    rw [x3 S]
    · exact q12
    · rw [q3]
      show (sc.heap.get? S).isSome = false
      rw [Heap.get?_none_of_le q4]; rfl
  exact ⟨.ref S, upd Hm S (.lst ys), I1.drained q4 q8 q6 q7 ExOk.nil q5.os q5.bare un hok hn, rfl, hc ys H' Hm S q13 q8 x1 x2 hn⟩
theorem pe_tupK {nm : Str} (h : PKGen X k e tg) (hr : Room (k + 7) X.A) (hg : Gl X nm) (hmg : X.mg nm = none) (hv : bootBuiltins nm = some (.type "tuple")) (hnm : nm ≠ "__name__" := by decide) (hdb : (nm == ("__debug__" : Str)) = false := by decide)
    (he : starEach [e] X.env = (false, eval e X.env) :: starEach [] X.env := by rfl) : PE X (.Call (.Name nm p) [e] [] pos) (tTupK tg) := by
  refine ⟨fun pins s σ H Q I hq => ?_⟩
  refine wpAny_Call_Name_kw (ld_blt I hg hmg hv ?_ hnm hdb)
  refine PyProof.Rows.callWith_type1 ?_ he rfl
  rw [he]
  show wpAny _ _ (spliced ((false, eval e X.env) :: backTo pos (starEach [] X.env))) _ _ s
  refine Calls.spliced_cons (thn (h.run pins s σ H _ I hq) fun u s1 ⟨H1, yl, Q1, Hs, sc, I1, sh, hc, hK⟩ => ?_)
  refine Calls.spliced_nil ?_
  refine kcall_tuple hr I1.ok.frames hK fun S s' acc0 c0 hS hD => ?_
  obtain ⟨G, acc, c, H', ys, q1, q2, q3, q4, q5, q6, q7, q8, q9, q10, q11, q12, q13⟩ := hD
  rw [hS] at q6
  cases q6
  obtain ⟨Hm, un, hok, x1, x2, x3⟩ := join I1 q3 q1 sh q2 q5 q9 q10 q11
  have J : Inv X pins σ Hm s' := I1.call' (ch := []) q5.os un hok q5.bare fun b z => by simp at z
  have hn : Hm s'.heap.objs.size = none := J.hok.fresh (Nat.le_refl _)
  refine ⟨.ref s'.heap.objs.size, upd Hm s'.heap.objs.size (.tup ys), J.laid (t' := s'.toks) (fun b o e => Heap.get?_push_of_some _ e) (Nat.le_refl _) ?_, rfl, hc ys H' Hm _ q13 q8 x1 x2 hn⟩
  exact ⟨q8, acc0.toList, q7, ⟨_, Heap.get?_push_size _ rfl, rfl, 0, by simp⟩⟩

/-- for x in g: body, where the body always leaves -/
def tFor1 (tg : TKG) (g : TG) (tb : TS) : TS := fun D σ H => tg σ H fun H1 yl Q =>
  (∀ H' Hm, Q [] H' → Evl.Ex H1 Hm → Evl.Ex H' Hm → D.nx σ Hm) ∧
  (∀ x H' Hm, yl [] x H' → Evl.Ex H1 Hm → Evl.Ex H' Hm → g x σ Hm fun σ2 H2 => tb { D with nx := fun _ _ => False, ct := fun _ _ => False, bk := D.nx } σ2 H2)
theorem ps_for1 {tgt iter : Expr} {body : List Stmt} {g : TG} {tb : TS} (hp : PassesOwn (model X.prog X.w) X.A X.env X.xe) (hc : X.calm = true) (hi : PKGen X k iter tg) (hr : Room (k + 1) X.A) (hg : PG X tgt g) (hb : PSs X body tb)
    (hs : ∀ x, foldedSetIterable iter X.env x = pure x := by intro _; rfl) : PS X (.For tgt iter body [] pos) (tFor1 tg g tb) := by
  refine ⟨fun pins s σ H D I h => ?_⟩
  refine wpAny_For (thn (hi.run pins s σ H _ I h) fun u s1 ⟨H1, yl, Q, Hs, sc, I1, sh, hcn, hK⟩ => ?_) hs
  obtain ⟨a, gn, c, go, G, rfl, hgen, ha, hgs, han, hos, hba, hkp, hlo, hG, wake⟩ := hK
  refine wpAny_pyIter_gen (hgen _ ha) ?_
  have hr1 : Room k X.A.in1 := hr.in1
  obtain ⟨e1, e2, e3, e4, e5, e6, e7, e8⟩ := hG X.A.in1
  obtain ⟨g0, t, wk⟩ := wake X.A.in1 hr1 I1.ok.frames
  have hao : (G X.A.in1).old a = false := by rw [e8]; show (sc.heap.get? a).isSome = false; rw [han]; rfl
  have goes : GenState.Goes (model X.prog X.w) X.A.in1 (fun n s₀ q s => ((q = .ok (.ret .none) ∨ q = .ok .next) ∧ (∃ ys H, n + ys.length = sizeLine ∧ True ∧ Told ⟨G X.A.in1, a, go, [], fun _ _ => True, yl⟩ s₀ s H ∧ Q ys H)) ∨
        ∃ e, q = .error e ∧ ((∃ s₀, L2.CX (G X.A.in1).P (G X.A.in1).w (G X.A.in1).outer (G X.A.in1).Hs ((G X.A.in1).cut s₀) (G X.A.in1).E e s) ∧ s.heap.get? a = some go)) (KY ⟨G X.A.in1, a, go, [], fun _ _ => True, yl⟩) sizeLine (.fresh c) (.send .none) (s1.setGen gn .running) :=
    ⟨rfl, wk [] (fun _ _ => True) (s1.setGen gn .running) (by simp) (fun S hS => by simp at hS) ⟨Since.at g0 t ⟨rfl, allBare_setGen hba rfl, fun _ _ _ _ e => e, fun b o _ e => ⟨o.slots, e⟩, by obtain ⟨o, e⟩ := hlo; exact ⟨o, by rw [e7]; exact e⟩⟩, fun S hS => by simp at hS⟩ (fun b o e => e) trivial⟩
  have bad : ∀ {s : Shared} {e : Value}, (∃ s₀, L2.CX (G X.A.in1).P (G X.A.in1).w (G X.A.in1).outer (G X.A.in1).Hs ((G X.A.in1).cut s₀) (G X.A.in1).E e s) → False := fun {s e} ⟨s₀, h⟩ => by
    obtain ⟨_, _, _, _, _, _, _, _, _, _, _, _, z⟩ := h
    rw [e5] at z
    exact z.elim
  have sin : ∀ {s2 : Shared} {H' : Hp}, Told ⟨G X.A.in1, a, go, [], fun _ _ => True, yl⟩ (s1.setGen gn .running) s2 H' → Since (G X.A.in1) sc s2 := fun {s2 H'} T =>
    ⟨T.os.trans hos, T.bare, fun b o h1 h2 e => T.keep b o h1 h2 (hkp b o e), fun b o h e => T.slot b o h (hkp b o e), T.lt⟩
  have lim : s1.heap.NoLimit := I1.ok.mod.nolimit.keeps fun b o e => hkp b o (I1.bk b o e)
  refine codeAny_forLoop_any (fun n s' => n = 0 ∧ s' = s1) ?_ 0 ⟨rfl, rfl⟩
  rintro n s' ⟨rfl, rfl⟩
  refine wpAny_passesOwn hp (next_genG (A := X.A) hr.hd lim hr.depth (hgen _ ha) hgs goes (fun v s2 gs' hbare hv => ?_) (fun s2 hpq h' hk => ?_) fun e s2 he => (bad he.1).elim)
  · -- an item
    obtain ⟨ys, x, H', hn, rv, _, hy, T, _⟩ := hv
    have hys : ys = [] := by
      have z : 1 ≤ sizeLine := by rw [sizeLine_eq]; decide
      have : ys.length = 0 := by omega
      exact List.length_eq_zero_iff.mp this
    subst hys
    have hokT := T.hok
    rw [show (⟨G X.A.in1, a, go, [], fun _ _ => True, yl⟩ : Run).G = G X.A.in1 from rfl, e1, e2] at hokT
    obtain ⟨Hm, un, hok, x1, x2, x3⟩ := join I1 e8 e3 sh e4 (sin T) hokT T.up T.low
    have J : Inv X pins σ Hm (s2.setGen gn gs') := I1.call' (ch := []) (T.os.trans hos) un hok (allBare_setGen T.bare hbare) fun b z => by simp at z
    obtain ⟨go', nm, qn, g1, g2, g3, g4⟩ := hgen _ T.gen
    have hgo : s2.heap.get? a = some go' := g1
    refine wpAny_passesOwn hp (go_of (s := s2.setGen gn gs') (o := go') hgo g2 g3 (by decide) ?_)
    refine wpAny_passesOwn hp (thn (hg.run _ (s2.setGen gn gs') σ Hm x v _ J rv (hcn.2 x H' Hm hy x1 x2)) fun _ s6 ⟨σ6, H6, I6, q6⟩ => ?_)
    refine wpAny_passesOwn hp (thn (hb.run _ s6 σ6 H6 _ I6 q6) fun f s7 q7 => ?_)
    cases f with
    | next => obtain ⟨_, _, _, z⟩ := q7; exact z.elim
    | cont => obtain ⟨_, _, _, z⟩ := q7; exact z.elim
    | brk => obtain ⟨σ7, H7, I7, q7⟩ := q7; exact ⟨σ7, H7, I7, q7⟩
    | ret v => obtain ⟨x7, σ7, H7, I7, r7, q7⟩ := q7; exact ⟨x7, σ7, H7, I7, r7, q7⟩
  · -- none
    obtain ⟨ys, H', hn, _, T, hQ⟩ := hpq
    have hys : ys = [] := by
      have : ys.length = 0 := by omega
      exact List.length_eq_zero_iff.mp this
    subst hys
    have hokT := T.hok
    rw [show (⟨G X.A.in1, a, go, [], fun _ _ => True, yl⟩ : Run).G = G X.A.in1 from rfl, e1, e2] at hokT
    obtain ⟨Hm, un, hok, x1, x2, x3⟩ := join I1 e8 e3 sh e4 (sin T) hokT T.up T.low
    have J : Inv X pins σ Hm (s2.setGen gn .finished) := I1.call' (ch := []) (T.os.trans hos) un hok (allBare_setGen T.bare rfl) fun b z => by simp at z
    exact wpAny_execs_nil ⟨σ, Hm, J.kept (t' := s2.toks) hk, hcn.1 H' Hm hQ x1 x2⟩
end
end KG

end

section
set_option maxHeartbeats 1000000
/-! KEnum: enumerate of a text and of a tuple. -/
namespace PySem
open Sem (wp)
theorem meets_enumT (l : Addr) (o : Obj) (items : Array Value) (n : Nat) (hc : o.cls = .type "tuple") (hdt : o.data = .seq items n) :
    Meets (Builtin.«enumerate.__new__» ⟨[.type "enumerate", .ref l], []⟩) (fun _ R s => s.heap.get? l = some o ∧
      R (.ok (.ret (.ref (s.heap.push { cls := .type "tuple_iterator", data := .fields #[.ref l, .int 0 0] }).objs.size)))
        { s with heap := (s.heap.push { cls := .type "tuple_iterator", data := .fields #[.ref l, .int 0 0] }).push { cls := .type "enumerate", data := .fields #[.none, .bool false, .ref s.heap.objs.size, rawInt 0, .none, .none] } }) :=
  .of_wp fun prog w A R s h => by
    obtain ⟨hp, g, d, tk, os⟩ := s; obtain ⟨hl, h⟩ := h
    have hsub := sub_enumerate
    have hL : PyProof.Rows.IsTup (Shared.heap ⟨hp, g, d, tk, os⟩) l items := ⟨_, hl, hc, n, hdt⟩
    wp_walk using AutoSeq1.wpAny_loadPart' hl
    refine wpAny_stack_any fun st => wpAny_pure ?_
    split
    · rename_i c _ _ _ _ _
      cases (c == Value.type "enumerate")
      · wp_walk using AutoSeq1.wpAny_loadPart' hl, PyProof.Rows.iter_tuple hL
        exact ⟨_, rfl, h⟩
      · wp_walk using AutoSeq1.wpAny_loadPart' hl, PyProof.Rows.iter_tuple hL
        exact ⟨_, rfl, h⟩
    · wp_walk using AutoSeq1.wpAny_loadPart' hl, PyProof.Rows.iter_tuple hL
      exact ⟨_, rfl, h⟩
end PySem
namespace KG
open PySem PySem.Spec PyProof.Rows L2 GenW

section
variable {prog : Program} {w : World} {A : Around} {E : Value → Shared → Prop} {s : Shared}
theorem call_enumT {l : Addr} {items : Array Value} {Q : Value → Shared → Prop} (hL : IsTup s.heap l items)
    (h : ∀ h', IsEnum h' (s.heap.objs.size + 1) s.heap.objs.size 0 .none → IsTupIter h' s.heap.objs.size l 0 → h'.objs.size = s.heap.objs.size + 2 →
      (∀ b o, s.heap.get? b = some o → h'.get? b = some o) → Q (.ref (s.heap.objs.size + 1)) { s with heap := h' }) :
    wpAny (model prog w) A (call (.type "enumerate") [.ref l]) Q E s := by
  obtain ⟨o, hl, hc, n, hd⟩ := hL
  refine callType_new F.called_enumerate (by decide) (F.typeCall_enumerate_1 _) (F.newCall_enumerate_1 _) (fun obj => F.args_object_init_2 obj _) F.entry_enumerate_new
    (meets_enumT l o items n hc hd) ⟨hl, ?_⟩
  have hz : (s.heap.push { cls := .type "tuple_iterator", data := .fields #[.ref l, .int 0 0] }).objs.size = s.heap.objs.size + 1 := Heap.size_push ..
  show _ ∧ _
  rw [hz]
  have he : IsEnum ((s.heap.push { cls := .type "tuple_iterator", data := .fields #[.ref l, .int 0 0] }).push
      { cls := .type "enumerate", data := .fields #[.none, .bool false, .ref s.heap.objs.size, rawInt 0, .none, .none] }) (s.heap.objs.size + 1) s.heap.objs.size 0 .none := by
    have q := Heap.get?_push_size (s.heap.push { cls := .type "tuple_iterator", data := .fields #[.ref l, .int 0 0] })
      (o := { cls := .type "enumerate", data := .fields #[.none, .bool false, .ref s.heap.objs.size, rawInt 0, .none, .none] }) rfl
    rw [hz] at q; exact q
  exact ⟨⟨_, he, rfl⟩, h _ he ⟨_, Heap.get?_push_of_some _ (Heap.get?_push_size _ rfl), rfl, rfl⟩ (by rw [Heap.size_push, hz]) fun b o x => Heap.get?_push_of_some _ (Heap.get?_push_of_some _ x)⟩
end
theorem drawsT {prog : Program} {w : World} {A : Around} (hh : A.handled = none) (it l : Addr) (hne : l ≠ it) (items : Array Value) :
    Draws prog w A it [it, l] items.size (fun i v => items[i]? = some v) (fun i h => IsTupIter h it l i ∧ IsTup h l items) where
  live := fun _ _ st => let ⟨o, ho, _⟩ := st.1; ⟨o, ho⟩
  frame := fun _ _ _ st hk => ⟨let ⟨o, ho, q⟩ := st.1; ⟨o, hk it (by simp) o ho, q⟩, let ⟨o, ho, q⟩ := st.2; ⟨o, hk l (by simp) o ho, q⟩⟩
  item := fun i s Q E hi st hQ => by
    unfold Builtin.SmallTypes.nextOf
    refine wpAny_bind (special_tup_item st.1 st.2 (x := items[i]) (by simp [hi]) fun h' hit' hs' => wpAny_pure ?_)
    exact hQ _ h' s.toks (by simp [hi]) ⟨hit', let ⟨o, ho, q⟩ := st.2; ⟨o, hs'.extBut l o hne ho, q⟩⟩ hs'
  done := fun s Q E st hE => by
    unfold Builtin.SmallTypes.nextOf
    refine wpAny_bind (special_tup_end hh st.1 st.2 (by simp) fun e h' hS hk => ?_)
    obtain ⟨a, o, vs, rfl, ho, hc, _⟩ := hS
    exact hE h' a hk ⟨o, ho, hc⟩

/-- each item of the tuple at a in a new pair -/
def IteT (K : PySem.W.Frag) (a : Addr) : It :=
  ⟨fun i H => ∃ (xs : List V) (x : V), SqT K H a xs ∧ xs[i]? = some x, fun i H v H' => ∃ T x, v = .ref T ∧ H T = none ∧ H' = upd H T (.tup [.int (i : Nat), x]) ∧ ∀ xs, SqT K H a xs → xs[i]? = some x, fun i H => ∃ xs : List V, SqT K H a xs ∧ xs.length ≤ i⟩
/-- each sign of a text in a new pair -/
def IteS (x : Str) : It :=
  ⟨fun i _ => i < x.cps.size, fun i H v H' => ∃ T c, v = .ref T ∧ H T = none ∧ H' = upd H T (.tup [.int (i : Nat), .str ⟨#[c]⟩]) ∧ x.cps[i]? = some c, fun i _ => x.cps.size ≤ i⟩

theorem turn_enumT {P : Program} {w : World} {K : PySem.W.Frag} {elts : List Expr} {kk : Nat} {tpos : Pos} (a e it : Addr) (hai : a ≠ it) :
    Turn P w K (.Tuple elts kk tpos) (IteT K a) [e, it] e (fun i h => (∃ old, IsEnum h e it ((i : Nat) : Int) old) ∧ IsTupIter h it a i ∧ e ≠ it ∧ e ≠ a) where
  mem := by simp
  obj := fun i h st b hb => by
    obtain ⟨⟨old, he⟩, ⟨o, ho, hc, hd⟩, _⟩ := st
    rcases List.mem_cons.mp hb with z | z
    · rw [z]; exact ⟨_, he, fun v q => nomatch q⟩
    · rw [List.mem_singleton.mp z]; exact ⟨o, ho, fun v q => by rw [hd] at q; cases q⟩
  keep := fun i h h' st k => let ⟨⟨old, he⟩, ⟨o, ho, q⟩, hne⟩ := st; ⟨⟨old, k e (by simp) _ he⟩, ⟨o, k it (by simp) o ho, q⟩, hne⟩
  item := by
    intro X hP hw hK hc i pins s σ H E I hf st hg
    subst hP hw hK
    obtain ⟨⟨old, he⟩, hit, hne, hna⟩ := st
    obtain ⟨xs, x, hq, hx⟩ := hg
    obtain ⟨its, rv, p, hz⟩ := I.tuple hq
    have hil : i < its.toArray.size := by
      have e1 := rv.length
      have e2 := (List.getElem?_eq_some_iff.mp hx).1
      simp only [List.size_toArray]; omega
    have hel : e < s.heap.objs.size := Heap.lt_size he
    have hitl : it < s.heap.objs.size := by obtain ⟨_, q, _⟩ := hit; exact Heap.lt_size q
    refine wpAny_pyNext_enum_itemD (drawsT (A := X.A.in1) (I.ok.hd hc) it a hai its.toArray) he ⟨hit, p⟩ hil hne (by simp [hne, hna]) fun u h' tk hu ho hit' hT hsz hk => ?_
    have ru : RelV x u := by
      obtain ⟨u', hu', ru'⟩ := rv.get hx
      rw [List.getElem?_toArray, hu'] at hu
      cases hu; exact ru'
    refine ⟨_, rfl, wpAny_letOwnedTupleGo_enum (s := { s with heap := h', toks := tk + 1 }) ho fun h'' he' sb => ?_⟩
    have hT2 : h''.get? s.heap.objs.size = some { cls := .type "tuple", data := .seq #[.int i tk, u] } := (sb.2 _ (Nat.ne_of_gt hel)).trans hT
    have new : ObjOk X.prog X.w (upd H s.heap.objs.size (.tup [.int (i : Nat), x])) h'' s.heap.objs.size (.tup [.int (i : Nat), x]) :=
      ⟨by show 2 ≤ sizeLine; decide, [.int i tk, u], .cons ⟨_, rfl⟩ (.cons ru .nil), ⟨_, hT2, rfl, _, rfl⟩⟩
    have I1 : Inv X pins σ (upd H s.heap.objs.size (.tup [.int (i : Nat), x])) { s with heap := h'', toks := tk + 1 } :=
      I.turnedNew (ch := [e, it]) (fun b ob hb q => (sb.2 b (fun z => hb (by simp [z]))).trans (hk b ob (fun z => hb (by simp [z])) (fun z => hb (by simp [z])) q)) hf (Nat.le_refl _) new
    refine ⟨.ref s.heap.objs.size, _, I1, rfl, ⟨_, x, rfl, I.hok.fresh (Nat.le_refl _), rfl, fun ys hy => by rw [I.tuple_inj hy hq]; exact hx⟩, ⟨⟨u, ?_⟩, ?_, hne, hna⟩, fun b hb => ?_⟩
    · have e1 : ((i + 1 : Nat) : Int) = (i : Int) + 1 := by omega
      rw [e1]; exact he'
    · obtain ⟨o, ho', q⟩ := hit'.1
      exact ⟨o, (sb.2 it (Ne.symm hne)).trans ho', q⟩
    · have hb' : b < s.heap.objs.size := by
        rcases List.mem_cons.mp hb with z | z
        · rw [z]; exact hel
        · rw [List.mem_singleton.mp z]; exact hitl
      rw [upd_ne (Nat.ne_of_lt hb')]
      exact (hf b hb).1
  done := by
    intro X hP hw hK hc i pins s σ H E I hf st hg
    subst hP hw hK
    obtain ⟨⟨old, he⟩, hit, hne, hna⟩ := st
    obtain ⟨xs, hq, hx⟩ := hg
    obtain ⟨its, rv, p, hz⟩ := I.tuple hq
    obtain ⟨f0, f1, f2, f3, f4, f5⟩ := hf it (by simp)
    have hl := rv.length
    refine wpAny_bind (wpAny_attempt (wpAny_callSpecial?_slot (name := Str.ofString "__next__") ⟨_, he, rfl⟩ F.slot_enumerate_next (wpAny_call_entry F.slot_enumerate_next ⟨_, he, rfl⟩ F.entry_enumerate_next ?_ (F.args_enumerate_next_1 _))))
    show wpAny _ _ (field (.ref e) 2 >>= _) _ _ _
    refine wpAny_bind (wpAny_field he rfl (x := .ref it) rfl ?_)
    unfold Builtin.SmallTypes.nextOf
    refine wpAny_bind (wpAny_bind (special_tup_end (A := X.A.in1) (I.ok.hd hc) hit p (by simp; omega) fun ex h' hS hk => ?_))
    obtain ⟨ea, o, vs, rfl, ho, hcl, _⟩ := hS
    refine wpAny_bind (wpAny_isInstance (T := "StopIteration") (b := true) ⟨o, ho, hcl⟩ isSubtype_stop ?_)
    exact wpAny_pure ⟨rfl, I.turned (t' := s.toks) (fun b o hb q => hk b o hb q) f0 f1 f3 f4 f5⟩
  self := fun A i s Q E st h => let ⟨⟨_, he⟩, _⟩ := st; wpAny_pyIter_enum he h

theorem turn_enumS {P : Program} {w : World} {K : PySem.W.Frag} {elts : List Expr} {kk : Nat} {tpos : Pos} (z : Str) (t : Tok) (ty : String) (hty : ty = "str_ascii_iterator" ∨ ty = "str_iterator") (e it : Addr) :
    Turn P w K (.Tuple elts kk tpos) (IteS z) [e, it] e (fun i h => (∃ old, IsEnum h e it ((i : Nat) : Int) old) ∧ h.IsStrIter it ty z t i ∧ e ≠ it) where
  mem := by simp
  obj := fun i h st b hb => by
    obtain ⟨⟨old, he⟩, ⟨o, ho, hc, hd⟩, _⟩ := st
    rcases List.mem_cons.mp hb with y | y
    · rw [y]; exact ⟨_, he, fun v q => nomatch q⟩
    · rw [List.mem_singleton.mp y]; exact ⟨o, ho, fun v q => by rw [hd] at q; cases q⟩
  keep := fun i h h' st k => let ⟨⟨old, he⟩, ⟨o, ho, q⟩, hne⟩ := st; ⟨⟨old, k e (by simp) _ he⟩, ⟨o, k it (by simp) o ho, q⟩, hne⟩
  item := by
    intro X hP hw hK hc i pins s σ H E I hf st hg
    subst hP hw hK
    obtain ⟨⟨old, he⟩, hit, hne⟩ := st
    have D : Draws X.prog X.w X.A.in1 it [it] z.cps.size (fun i v => ∃ c u, z.cps[i]? = some c ∧ v = .str ⟨#[c]⟩ u) (fun i h => h.IsStrIter it ty z t i) := by
      rcases hty with q | q
      · rw [q]; exact Draws.strAscii (A := X.A.in1) (I.ok.hd hc) it z t
      · rw [q]; exact Draws.strWide (A := X.A.in1) (I.ok.hd hc) it z t
    have hel : e < s.heap.objs.size := Heap.lt_size he
    have hitl : it < s.heap.objs.size := by obtain ⟨_, q, _⟩ := hit; exact Heap.lt_size q
    refine wpAny_pyNext_enum_itemD D he hit hg hne (by simp [hne]) fun u h' tk hu ho hit' hT hsz hk => ?_
    obtain ⟨c, uu, hcx, rfl⟩ := hu
    refine ⟨_, rfl, wpAny_letOwnedTupleGo_enum (s := { s with heap := h', toks := tk + 1 }) ho fun h'' he' sb => ?_⟩
    have hT2 : h''.get? s.heap.objs.size = some { cls := .type "tuple", data := .seq #[.int i tk, .str ⟨#[c]⟩ uu] } := (sb.2 _ (Nat.ne_of_gt hel)).trans hT
    have new : ObjOk X.prog X.w (upd H s.heap.objs.size (.tup [.int (i : Nat), .str ⟨#[c]⟩])) h'' s.heap.objs.size (.tup [.int (i : Nat), .str ⟨#[c]⟩]) :=
      ⟨by show 2 ≤ sizeLine; decide, [.int i tk, .str ⟨#[c]⟩ uu], .cons ⟨_, rfl⟩ (.cons ⟨_, rfl⟩ .nil), ⟨_, hT2, rfl, _, rfl⟩⟩
    have I1 : Inv X pins σ (upd H s.heap.objs.size (.tup [.int (i : Nat), .str ⟨#[c]⟩])) { s with heap := h'', toks := tk + 1 } :=
      I.turnedNew (ch := [e, it]) (fun b ob hb q => (sb.2 b (fun z => hb (by simp [z]))).trans (hk b ob (fun z => hb (by simp [z])) (fun z => hb (by simp [z])) q)) hf (Nat.le_refl _) new
    refine ⟨.ref s.heap.objs.size, _, I1, rfl, ⟨_, c, rfl, I.hok.fresh (Nat.le_refl _), rfl, hcx⟩, ⟨⟨.str ⟨#[c]⟩ uu, ?_⟩, ?_, hne⟩, fun b hb => ?_⟩
    · have e1 : ((i + 1 : Nat) : Int) = (i : Int) + 1 := by omega
      rw [e1]; exact he'
    · obtain ⟨o, ho', q⟩ := hit'
      exact ⟨o, (sb.2 it (Ne.symm hne)).trans ho', q⟩
    · have hb' : b < s.heap.objs.size := by
        rcases List.mem_cons.mp hb with y | y
        · rw [y]; exact hel
        · rw [List.mem_singleton.mp y]; exact hitl
      rw [upd_ne (Nat.ne_of_lt hb')]
      exact (hf b hb).1
  done := by
    intro X hP hw hK hc i pins s σ H E I hf st hg
    subst hP hw hK
    obtain ⟨⟨old, he⟩, hit, hne⟩ := st
    obtain ⟨f0, f1, f2, f3, f4, f5⟩ := hf it (by simp)
    have hx : z.cps[i]? = none := Array.getElem?_eq_none hg
    refine wpAny_bind (wpAny_attempt (wpAny_callSpecial?_slot (name := Str.ofString "__next__") ⟨_, he, rfl⟩ F.slot_enumerate_next (wpAny_call_entry F.slot_enumerate_next ⟨_, he, rfl⟩ F.entry_enumerate_next ?_ (F.args_enumerate_next_1 _))))
    show wpAny _ _ (field (.ref e) 2 >>= _) _ _ _
    refine wpAny_bind (wpAny_field he rfl (x := .ref it) rfl ?_)
    refine wpAny_bind ?_
    rcases hty with q | q
    · rw [q] at hit
      refine wpAny_nextOf_ascii_end (A := X.A.in1) (I.ok.hd hc) hit hx fun h' ea hk ho => ?_
      obtain ⟨o, ho, hcl⟩ := ho
      refine wpAny_bind (wpAny_isInstance (T := "StopIteration") (b := true) ⟨o, ho, hcl⟩ isSubtype_stop ?_)
      exact wpAny_pure ⟨rfl, I.turned (t' := s.toks) (fun b o hb q => hk b o hb q) f0 f1 f3 f4 f5⟩
    · rw [q] at hit
      refine wpAny_nextOf_wide_end (A := X.A.in1) (I.ok.hd hc) hit hx fun h' ea hk ho => ?_
      obtain ⟨o, ho, hcl⟩ := ho
      refine wpAny_bind (wpAny_isInstance (T := "StopIteration") (b := true) ⟨o, ho, hcl⟩ isSubtype_stop ?_)
      exact wpAny_pure ⟨rfl, I.turned (t' := s.toks) (fun b o hb q => hk b o hb q) f0 f1 f3 f4 f5⟩
  self := fun A i s Q E st h => let ⟨⟨_, he⟩, _⟩ := st; wpAny_pyIter_enum he h

section
variable {X : Cx} {e : Expr} {ta : TA} {p pos tpos : Pos} {elts : List Expr} {kk : Nat}
def iEnumT (K : PySem.W.Frag) (ta : TA) : TI := fun σ H R => ta σ H fun vs H1 => ∃ a xs, vs = [.ref a] ∧ SqT K H1 a xs ∧ R (IteT K a) H1
theorem pi_enumT (hg : Gl X "enumerate") (hm : X.mg "enumerate" = none) (ha : PA X [e] ta) (hs : starEach [e] X.env = [(false, eval e X.env)] := by rfl) :
    PI X (.Tuple elts kk tpos) (.Call (.Name "enumerate" p) [e] [] pos) (iEnumT X.K ta) := by
  refine ⟨fun pins s σ H R I h => ?_⟩
  refine Call_ (ld_blt I hg hm boot_enumerate (PyProof.Rows.callWith_type1 (thn (ha.run pos pins s σ H _ I h) fun us s1 ⟨vs, H1, I1, r1, q1⟩ => ?_) hs rfl))
  obtain ⟨a, xs, ex, hq, q⟩ := q1
  subst ex
  cases r1 with
  | cons r rr =>
    cases rr
    cases r
    obtain ⟨its, rv, p', hz⟩ := I1.tuple hq
    have hal : a < s1.heap.objs.size := p'.lt
    refine call_enumT p' fun h' he hit hsz hk => wpAny_pyIter_enum he ?_
    have I2 : Inv X pins σ H1 { s1 with heap := h' } := I1.kept (t' := s1.toks) hk
    refine ⟨s1.heap.objs.size + 1, [s1.heap.objs.size + 1, s1.heap.objs.size], _, _, H1, rfl, I2, turn_enumT a (s1.heap.objs.size + 1) s1.heap.objs.size (Nat.ne_of_lt hal), ⟨⟨.none, he⟩, hit, Nat.succ_ne_self _, Nat.ne_of_gt (Nat.lt_succ_of_lt hal)⟩, fun b hb => ?_, q⟩
    have hle : s1.heap.objs.size ≤ b := by
      rcases List.mem_cons.mp hb with z | z
      · rw [z]; exact Nat.le_add_right _ _
      · rw [List.mem_singleton.mp z]; exact Nat.le_refl _
    exact I1.fpOk hle (I1.hok.fresh hle)
def iEnumS (ta : TA) : TI := fun σ H R => ta σ H fun vs H1 => ∃ z, vs = [.str z] ∧ R (IteS z) H1
theorem pi_enumS (hg : Gl X "enumerate") (hm : X.mg "enumerate" = none) (ha : PA X [e] ta) (hs : starEach [e] X.env = [(false, eval e X.env)] := by rfl) :
    PI X (.Tuple elts kk tpos) (.Call (.Name "enumerate" p) [e] [] pos) (iEnumS ta) := by
  refine ⟨fun pins s σ H R I h => ?_⟩
  refine Call_ (ld_blt I hg hm boot_enumerate (PyProof.Rows.callWith_type1 (thn (ha.run pos pins s σ H _ I h) fun us s1 ⟨vs, H1, I1, r1, q1⟩ => ?_) hs rfl))
  obtain ⟨z, ex, q⟩ := q1
  subst ex
  cases r1 with
  | cons r rr =>
    cases rr
    obtain ⟨t, rfl⟩ := r
    refine call_enumerate_str fun h' he hit hsz hk => wpAny_pyIter_enum he ?_
    have I2 : Inv X pins σ H1 { s1 with heap := h' } := I1.kept (t' := s1.toks) hk
    have hty : strIterType z = "str_ascii_iterator" ∨ strIterType z = "str_iterator" := by
      unfold strIterType
      cases z.cps.all (· < 128)
      · exact .inr rfl
      · exact .inl rfl
    refine ⟨s1.heap.objs.size + 1, [s1.heap.objs.size + 1, s1.heap.objs.size], _, _, H1, rfl, I2, turn_enumS z t (strIterType z) hty (s1.heap.objs.size + 1) s1.heap.objs.size, ⟨⟨.none, he⟩, hit, Nat.succ_ne_self _⟩, fun b hb => ?_, q⟩
    have hle : s1.heap.objs.size ≤ b := by
      rcases List.mem_cons.mp hb with z | z
      · rw [z]; exact Nat.le_add_right _ _
      · rw [List.mem_singleton.mp z]; exact Nat.le_refl _
    exact I1.fpOk hle (I1.hok.fresh hle)
end
end KG

end

section
set_option maxHeartbeats 1000000
/-! KGuard: promises of defs that are called where no container is being shown (repr of data may be asked within). -/
namespace KG
open PySem PySem.Spec PyProof.Rows L2

/-- nothing is being shown around -/
abbrev NoShow (A : Around) : Prop := A.guards = some []
/-- as FnOk, where nothing is being shown -/
structure FnG (P : Program) (w : World) (K : PySem.W.Frag) (mg : Str → Option Value) (base : Heap) (CX : CXT) (k : Nat) (f : Addr) (fd : FuncData) (ps : List Str) (sp : Sp) : Prop where
  len : ∀ vs H Q E, sp vs H Q E → vs.length = ps.length
  run : ∀ (A : Around) (outer : List Env) (s : Shared) (H : Hp) (args : Args) (us : List Value) (vs : List V) (Q : VK) (E : XK), Room k A → NoShow A → Env0 P w K mg base A outer s H → BindsTo s fd args (ps.zip us) → Vals vs us → sp vs H Q E →
    codeAny (model P w) A (.call (.ref f) args) (CR CX outer P w H s Q E) s
section
variable {P : Program} {w : World} {K : PySem.W.Frag} {mg : Str → Option Value} {base : Heap} {CX : CXT} {j k : Nat} {f : Addr} {fd : FuncData} {ps : List Str} {sp : Sp}
theorem FnG.of (F : FnOk P w K mg base CX k f fd ps sp) : FnG P w K mg base CX k f fd ps sp := ⟨F.len, fun A outer s H args us vs Q E hr _ => F.run A outer s H args us vs Q E hr⟩
theorem FnG.mono (F : FnG P w K mg base CX j f fd ps sp) (h : j ≤ k) : FnG P w K mg base CX k f fd ps sp := ⟨F.len, fun A outer s H args us vs Q E hr => F.run A outer s H args us vs Q E (hr.mono h)⟩
/-- THE RULE of a def, its body read where nothing is being shown; what the caller tracks is held at the entry -/
theorem fng_of {name qual : Str} {params : Arguments} {body : List Stmt} {scope : Scope} {dV kV doc pm cdv ct oc : Value} {an od : Option Addr} {osl : Array (Option Value)} {N : List Str}
    (lk : K.lookup f = some ⟨oc, od, .func (PySem.W.fnOf name qual params body scope dV kV doc pm an cdv ct), osl⟩) (hcd : PySem.W.codeIn K cdv qual = true) (S : FnScope N ps scope) (len : ∀ vs H Q E, sp vs H Q E → vs.length = ps.length)
    (hbody : ∀ (A : Around) (outer : List Env) (s : Shared) (H : Hp) (vs : List V) (Q : VK) (E : XK), Room k (A.deeper (envOfC qual scope s.heap.objs.size f cdv)) → NoShow A → HOk P w H s.heap → sp vs H Q E →
      ∃ t, PSs (cxOf CX P w K mg base N qual scope f cdv A outer s H E) body t ∧ t { nx := fun _ H' => Q .non H', rt := Q } (start N vs) H) :
    FnG P w K mg base CX (k + 1) f (PySem.W.fnOf name qual params body scope dV kV doc pm an cdv ct) ps sp := by
  refine ⟨len, fun A outer s H args us vs Q E hr ns e0 hb rv hsp => ?_⟩
  have inK : K.In s.heap := e0.mod.kin.keeps fun b o e => (e0.bs b o e).1
  have free : s.heap.NoLimit := e0.mod.nolimit.keeps fun b o e => (e0.bs b o e).1
  have hkind : ∀ y ∈ ps.zip us, scope.names.lookup y.1 = some .local ∨ (scope.names.lookup y.1 = some .cell ∧ ((cellsFrom (s.heap.objs.size + 1) scope.names []).lookup y.1).isSome = true) := fun ⟨n, v⟩ hy =>
    (S.par n (List.of_mem_zip hy).1).elim .inl fun q => .inr ⟨q, PySem.W.cellsFrom_some _ _ _ (.inl q)⟩
  refine codeAny_call_function hr.depth (inK _ _ lk) rfl S.co S.gen rfl (PySem.W.codeRec_of inK hcd) (hb _ _ _ _ ?_)
  refine wpAny_newFunctionEnv_cells S.kind hkind fun env he s1 x => ?_
  subst he
  refine ⟨free.keeps x.toInCall.keep, codeAny_func ?_⟩
  obtain ⟨t, ht, hq⟩ := hbody A outer s H vs Q E (hr.deeper _) ns e0.hok hsp
  have I : Inv (cxOf CX P w K mg base N qual scope f cdv A outer s H E) [] (start N vs) H s1 := inv_start S hr.hd e0 (len _ _ _ _ hsp) rv x
  refine wpAny_mono (ht.run [] s1 (start N vs) H _ I hq) (fun fl s' hs => ?_) fun e s' hs => hs
  cases fl with
  | ret u =>
    obtain ⟨v, σ', H', J, r', q⟩ := hs
    exact ⟨v, H', J.os, J.bare, J.base, J.hok, r', q⟩
  | next =>
    obtain ⟨σ', H', J, q⟩ := hs
    exact ⟨V.non, H', J.os, J.bare, J.base, J.hok, rfl, q⟩
  | brk =>
    obtain ⟨_, _, _, q⟩ := hs
    exact q.elim
  | cont =>
    obtain ⟨_, _, _, q⟩ := hs
    exact q.elim
/-- by the words of HandS: no exception leaves -/
theorem fun_okG {x qual : Str} {st : Stmt} {N : List Str} (F : Fun K x qual st f fd) (S : FnScope N ps (defScope st)) (len : ∀ vs H Q E, sp vs H Q E → vs.length = ps.length)
    (hbody : ∀ (cdv : Value) (A : Around) (outer : List Env) (s : Shared) (H : Hp) (vs : List V) (Q : VK) (E : XK), Room k (A.deeper (envOfC qual (defScope st) s.heap.objs.size f cdv)) → NoShow A → HOk P w H s.heap → sp vs H Q E →
      ∃ t, PSs (cxOf CX0 P w K mg base N qual (defScope st) f cdv A outer s H E).nox (defBody st) t ∧ t { nx := fun _ H' => Q .non H', rt := Q } (start N vs) H) : FnG P w K mg base CX0 (k + 1) f fd ps sp := by
  obtain ⟨oc, od, kV, doc, pm, an, cdv, ct, osl, rfl, lk, hcd⟩ := F.ex
  refine fng_of lk hcd S len fun A outer s H vs Q E hr ns hok hsp => ?_
  obtain ⟨t, h, q⟩ := hbody cdv A outer s H vs Q E hr ns hok hsp
  exact ⟨t, h.nox, q⟩
/-- .. where one may leave -/
theorem fun_okGX {x qual : Str} {st : Stmt} {N : List Str} (F : Fun K x qual st f fd) (S : FnScope N ps (defScope st)) (len : ∀ vs H Q E, sp vs H Q E → vs.length = ps.length)
    (hbody : ∀ (cdv : Value) (A : Around) (outer : List Env) (s : Shared) (H : Hp) (vs : List V) (Q : VK) (E : XK), Room k (A.deeper (envOfC qual (defScope st) s.heap.objs.size f cdv)) → NoShow A → HOk P w H s.heap → sp vs H Q E →
      ∃ t, PSs (cxOf (L2.CX P w) P w K mg base N qual (defScope st) f cdv A outer s H E) (defBody st) t ∧ t { nx := fun _ H' => Q .non H', rt := Q } (start N vs) H) : FnG P w K mg base (L2.CX P w) (k + 1) f fd ps sp := by
  obtain ⟨oc, od, kV, doc, pm, an, cdv, ct, osl, rfl, lk, hcd⟩ := F.ex
  exact fng_of lk hcd S len fun A outer s H vs Q E hr ns hok hsp => hbody cdv A outer s H vs Q E hr ns hok hsp
end

section
variable {X : Cx} {CX : CXT} {k : Nat} {f : Addr} {fd : FuncData} {ps : List Str} {sp : Sp} {dvs : List V} {ds : List Value} {E : XK} {x : Str} {p pos : Pos} {e : Expr} {es : List Expr} {t : TA}
theorem run_fng {pins : List (Addr × Obj)} {σ : L2.St} {H : Hp} {s : Shared} {Q : VK} {us : List Value} {vs : List V} (F : FnG X.prog X.w X.K X.mg X.base CX k f fd ps sp) (hr : Room k X.A) (ns : NoShow X.A) (hb : Binds X.K fd ps ds) (hd : Vals dvs ds) (hx : Passes CX X E)
    (I : Inv X pins σ H s) (r : Vals vs us) (h : sp (vs ++ dvs) H Q E) : wpAny (model X.prog X.w) X.A (call (.ref f) us) (EP X pins σ Q) X.xe s := by
  have hl : (us ++ ds).length = ps.length := by rw [← (r.append hd).length]; exact F.len _ _ _ _ h
  refine wpAny_call (codeAny_mono (F.run X.A X.stack s H ⟨us, []⟩ (us ++ ds) (vs ++ dvs) Q E hr ns I.env0 (hb s us I.kIn hl) (r.append hd) h) fun q s' hq => ?_)
  cases q with
  | error e => exact hx pins σ H s e s' I hq
  | ok fl =>
    cases fl with
    | ret u => exact I.after hq
    | next => exact False.elim hq
    | brk => exact False.elim hq
    | cont => exact False.elim hq
theorem pe_callG (F : FnG X.prog X.w X.K X.mg X.base CX k f fd ps sp) (hr : Room k X.A) (ns : NoShow X.A) (hg : Gl X x) (hm : X.mg x = some (.ref f)) (hk : PySem.W.keepIn X.K (.ref f) = true) (hb : Binds X.K fd ps ds) (hd : Vals dvs ds) (hx : Passes CX X E)
    (ha : PA X (e :: es) t) (hdb : (x == ("__debug__" : Str)) = false := by decide) (he : starEach (e :: es) X.env = (false, eval e X.env) :: starEach es X.env := by rfl) (hpl : (backTo pos (starEach es X.env)).any (·.1) = false := by rfl) :
    PE X (.Call (.Name x p) (e :: es) [] pos) (tCall sp dvs E t) := by
  refine ⟨fun pins s σ H Q I h => wpAny_Call_Name_kw (ld_glob I hg hm ?_ hdb)⟩
  exact PySem.W.callWith_K (h₀ := X.base) I.ok.mod.kin hk (thn (ha.run pos pins s σ H _ I h) fun us s1 ⟨vs, H1, I1, r, q⟩ => ⟨I1.kIn, run_fng F hr ns hb hd hx I1 r q⟩) he hpl
theorem pe_callG0 (F : FnG X.prog X.w X.K X.mg X.base CX k f fd ps sp) (hr : Room k X.A) (ns : NoShow X.A) (hg : Gl X x) (hm : X.mg x = some (.ref f)) (hk : PySem.W.keepIn X.K (.ref f) = true) (hb : Binds X.K fd ps ds) (hd : Vals dvs ds) (hx : Passes CX X E)
    (hdb : (x == ("__debug__" : Str)) = false := by decide) : PE X (.Call (.Name x p) [] [] pos) (tCall sp dvs E tNil) :=
  ⟨fun pins s σ H Q I h => wpAny_Call_Name_kw (ld_glob I hg hm (PySem.W.callWith_K0 I.kIn hk (run_fng (us := []) F hr ns hb hd hx I .nil h)) hdb)⟩
end

/-! ### repr -/
theorem boot_repr : bootBuiltins "repr" = some (.builtin "repr") := by decide +kernel
/-- no dict within -/
theorem Dp.nodict {K : PySem.W.Frag} {H : Hp} : ∀ {d : PyData} {v : V}, Dp K H v d → d.hasDict = false
  | .none, _, _ => rfl
  | .bool _, _, _ => rfl
  | .int _, _, _ => rfl
  | .str _, _, _ => rfl
  | .list ds, _, h => by
    cases h with
    | lst _ h =>
      show PyData.hasDictAll ds = false
      exact DpAllNo h
  | .tuple ds, _, h => by
    cases h with
    | tup _ h =>
      show PyData.hasDictAll ds = false
      exact DpAllNo h
where DpAllNo {K : PySem.W.Frag} {H : Hp} : ∀ {ds : List PyData} {vs : List V}, DpAll K H vs ds → PyData.hasDictAll ds = false
  | [], _, _ => rfl
  | d :: ds, _, h => by
    cases h with
    | cons h1 h2 =>
      show (d.hasDict || PyData.hasDictAll ds) = false
      rw [Dp.nodict h1, DpAllNo h2]; rfl
/-- repr of data -/
def rRepr (K : PySem.W.Frag) : List V → Hp → VK → Prop := fun xs H Q => ∃ v d, xs = [v] ∧ Dp K H v d ∧ d.showable = true ∧ d.depth < 64 ∧ d.shown.length ≤ sizeLine ∧ Q (.str d.shown) H
theorem call_repr {X : Cx} {k : Nat} (hr : Room k X.A) (ns : NoShow X.A) : CallR X (.builtin "repr") (rRepr X.K) := by
  intro pins s σ H xs us Q I r h
  obtain ⟨v, d, rfl, hd, hsh, hdp, hz, q⟩ := h
  obtain ⟨u, rfl, ru⟩ := vals1 r
  have hu := hr.units
  cases hd with
  | non =>
    obtain rfl : u = Value.none := ru
    exact PySem.P.repr_of_none ⟨.str "None", H, I.tok _, ⟨_, rfl⟩, q⟩
  | bl b =>
    obtain rfl : u = Value.bool b := ru
    exact PySem.P.repr_of_bool ⟨.str (PyData.bool b).shown, H, I.tok _, ⟨_, rfl⟩, q⟩
  | int i =>
    obtain ⟨t, rfl⟩ := ru
    exact PySem.P.repr_of_int (by simpa [PyData.showable] using hsh) ⟨.str (PyData.int i).shown, H, I.tok _, ⟨_, rfl⟩, q⟩
  | str x =>
    obtain ⟨t, rfl⟩ := ru
    exact PySem.P.repr_of_str ⟨.str (PyData.str x).shown, H, I.tok _, ⟨_, rfl⟩, q⟩ hz
  | lst hq ha =>
    obtain rfl : u = Value.ref _ := ru
    obtain ⟨as, hrd⟩ := Dp.reads I _ _ _ (Dp.lst hq ha) rfl
    exact repr_of_reads' hrd hsh (fun z => by rw [Dp.nodict (Dp.lst hq ha)] at z; cases z) ns (by omega) (fun _ _ e => e)
      (fun h' u tk hk => ⟨.str _, H, I.kept (t' := tk) hk, ⟨_, rfl⟩, q⟩) hz
  | tup hq ha =>
    obtain rfl : u = Value.ref _ := ru
    obtain ⟨as, hrd⟩ := Dp.reads I _ _ _ (Dp.tup hq ha) rfl
    exact repr_of_reads' hrd hsh (fun z => by rw [Dp.nodict (Dp.tup hq ha)] at z; cases z) ns (by omega) (fun _ _ e => e)
      (fun h' u tk hk => ⟨.str _, H, I.kept (t' := tk) hk, ⟨_, rfl⟩, q⟩) hz

/-! ### the law's own end -/
/-- the law's promise at the heap behind the top -/
theorem law_callG {P : Program} {w : World} {K : PySem.W.Frag} {mg mb : Str → Option Value} {CX : CXT} {k : Nat} {fa a : Addr} {fd : FuncData} {x : Str} {sp : Sp} {s₁ : Shared} {vs : List Value} {ns : List Int}
    (KX : K.In s₁.heap) (hns : s₁.heap.Ns mainGlobals mg) (hb : s₁.heap.Ns builtinsNs mb) (hbb : ∀ x : Str, x ≠ "__name__" → mb x = bootBuiltins x) (lim : s₁.heap.NoLimit) (hg : s₁.gens = #[])
    (ha : s₁.heap.get? a = some { cls := .type "list", data := .seq vs.toArray }) (hi : IntsAre vs ns) (hl : ns.length ≤ sizeLine) (hr : Room k callerA)
    (F : ∀ base : Heap, K.In base → base.Ns mainGlobals mg → FnG P w K mg base CX k fa fd [x] sp) (hbind : ∀ (s : Shared) (u : Value), BindsTo s fd ⟨[u], []⟩ [(x, u)])
    (hsp : ∀ H : Hp, Only H → SqL K H a (ns.map V.int) → sp [.ref a] H (fun v _ => v = .bl true) fun _ _ _ => False)
    (hCX : ∀ H e s', CX [] H s₁ (fun _ _ _ => False) e s' → False) :
    codeAny (model P w) callerA (.call (.ref fa) ⟨[.ref a], []⟩) (fun q s' => q = .ok (.ret (.bool true)) ∧ OldK s₁.heap s'.heap ∧ s'.os = s₁.os ∧ AllBare s'.gens) s₁ := by
  have rv := vals_ints hi
  have lenV := hi.length
  have nobody : ∀ b : Addr, b ∉ frs ([] : List Env) := fun b z => absurd (show b ∈ ([] : List Addr) from z) (by simp)
  -- H tracks the script at most
  have go : ∀ H : Hp, Only H → SqL K H a (ns.map V.int) → HOk P w H s₁.heap → (∀ b, H b ≠ none → b = a) → (H a ≠ none → K.lookup a = none) →
      codeAny (model P w) callerA (.call (.ref fa) ⟨[.ref a], []⟩) (fun q s' => q = .ok (.ret (.bool true)) ∧ OldK s₁.heap s'.heap ∧ s'.os = s₁.os ∧ AllBare s'.gens) s₁ := by
    intro H hO hS hok hA hK
    have noD : ∀ {b : Addr} {o : Obj} {es : Array DictEntry} {ep : Nat}, s₁.heap.get? b = some o → o.data = .dict es ep → H b = none := fun {b o es ep} e d => by
      cases q : H b with
      | none => rfl
      | some u =>
        obtain rfl := hA b (by rw [q]; simp)
        rw [ha] at e; cases e
        exact nomatch (show Data.seq vs.toArray _ = Data.dict es ep from d)
    have nsT : ∀ {b : Addr} {m : Str → Option Value}, s₁.heap.Ns b m → (hidT s₁.heap H).Ns b m := fun {b m} ⟨o, es, ep, e, d, q⟩ => ⟨o, es, ep, hidT_get e (noD e d), d, q⟩
    have inB : K.In (hidT s₁.heap H) := fun b o e => hidT_get (KX b o e) (by
      cases q : H b with
      | none => rfl
      | some u =>
        obtain rfl := hA b (by rw [q]; simp)
        rw [hK (by rw [q]; simp)] at e; cases e)
    have md : Mod K mg (hidT s₁.heap H) := ⟨inB, nsT hns, ⟨mb, nsT hb, hbb⟩, let ⟨mc, h1, h2⟩ := lim; ⟨mc, nsT h1, h2⟩⟩
    have e0 : Env0 P w K mg (hidT s₁.heap H) callerA [] s₁ H := ⟨rfl, md, fun b o e => of_hidT e, Nat.le_of_eq (hidT_size _ _), trivial, fun b hb => absurd hb (nobody b), hok, .of_eq hg⟩
    refine codeAny_mono ((F _ inB (nsT hns)).run callerA [] s₁ H ⟨[.ref a], []⟩ [.ref a] [.ref a] _ _ hr rfl e0 (hbind s₁ (.ref a)) (.cons rfl .nil) (hsp H hO hS)) fun q s' h => ?_
    cases q with
    | error e => exact (hCX H e s' h).elim
    | ok fl =>
      cases fl with
      | next => exact False.elim h
      | brk => exact False.elim h
      | cont => exact False.elim h
      | ret u =>
        obtain ⟨v, H', os, bare, un, hok', r', ev⟩ := h
        obtain rfl : v = .bl true := ev
        obtain rfl : u = Value.bool true := r'
        refine ⟨rfl, OldK.of_keep fun b o e => ?_, os, bare⟩
        cases q : H b with
        | none => exact un.keep b o e q (nobody b) (by simp)
        | some u =>
          rcases hO b with z | ⟨ob, xs, z⟩
          · rw [q] at z; cases z
          · have y1 := (hok b _ z).1
            have y2 := (hok' b _ (un.frzs b ob _ z)).1
            rw [e] at y1; cases y1
            exact y2
  cases hk : K.lookup a with
  | some o =>
    have e := KX a o hk
    rw [ha] at e
    cases e
    refine go (fun _ => none) (fun _ => .inl rfl) (.inr ⟨_, vs.toArray, _, hk, rfl, rfl, rfl, by rw [List.size_toArray, lenV]; exact hl, by simpa using rv⟩) (fun b u z => nomatch (show (none : Option HO) = some u from z)) (fun b z => absurd rfl z) fun z => absurd rfl z
  | none =>
    refine go (fun b => if b = a then some (.frz { cls := .type "list", data := .seq vs.toArray } (.lst (ns.map V.int))) else none) (fun b => ?_) (.inl (.inr ⟨{ cls := .type "list", data := .seq vs.toArray }, if_pos rfl⟩)) (fun b u z => ?_) (fun b z => ?_) fun _ => hk
    · by_cases hb : b = a
      · exact .inr ⟨_, _, if_pos hb⟩
      · exact .inl (if_neg hb)
    · by_cases hb : b = a
      · have y := (if_pos hb).symm.trans z
        cases y
        subst hb
        exact ⟨ha, by rw [List.length_map]; exact hl, vs, _, rv, ha⟩
      · exact nomatch ((if_neg hb).symm.trans z)
    · by_cases hb : b = a
      · exact hb
      · exact absurd (if_neg hb) z
theorem walk_ofG {l : PySem.W.OpenLaw} {n k : Nat} {q : Program} {loose : List Str} {XP : (Str → Option Value) → Heap → Prop} {YP : World → Heap → Prop} {d : DefRec} {K : Params → PySem.W.Frag} {CX : World → CXT} {sp : World → Sp} {x : Str}
    (hn : l.most = some n) (hn2 : n ≤ sizeLine) (hdf : d.params.defaults = []) (hr : Room k callerA) (hY : ∀ (w : World) (h : Heap), YP w h → (K w.params).In h)
    (F : ∀ (w : World) (mg : Str → Option Value) (fa : Addr) (h : Heap), (K w.params).In h → h.Ns mainGlobals mg → mg d.name = some (.ref fa) →
      ∃ fd : FuncData, (∀ (s : Shared) (u : Value), BindsTo s fd ⟨[u], []⟩ [(x, u)]) ∧ ∀ base : Heap, (K w.params).In base → base.Ns mainGlobals mg → FnG l.prog w (K w.params) mg base (CX w) k fa fd [x] (sp w))
    (hsp : ∀ (w : World) (H : Hp) (a : Addr) (ns : List Int), ns.length ≤ n → Only H → SqL (K w.params) H a (ns.map V.int) → sp w [.ref a] H (fun v _ => v = .bl true) fun _ _ _ => False)
    (hCX : ∀ (w : World) (H : Hp) (s : Shared) (e : Value) (s' : Shared), CX w [] H s (fun _ _ _ => False) e s' → False) :
    PySem.W.WalkO q loose XP YP l.row.toRowW d [] (fun f vs => PySem.call f vs) := by
  refine Att.attach_call hn hdf fun w s₀ s₁ mg mb fa o pm cd doc a vs ns G Y ho hd hcd hmg hobj hints hlen hg => ?_
  obtain ⟨fd, hb, hF⟩ := F w mg fa _ (hY w _ Y) G.T.g hmg
  exact law_callG (hY w _ Y) G.T.g G.T.b G.T.builtins G.T.nolimit hg hobj hints (Nat.le_trans hlen hn2) hr hF hb (fun H hO hS => hsp w H a ns hlen hO hS) fun H e s' => hCX w H s₁ e s'
end KG

end

section
set_option maxHeartbeats 1000000
/-! KTerm: terms as trees and as lists of codes; steps down. Plain Lean. -/
namespace KT

inductive T where
  | lf (c : Nat)
  | nd (l r : T)
  deriving DecidableEq, Repr

def isL (c : Nat) : Bool := decide (97 ≤ c) && decide (c ≤ 122)
theorem isL_ne {c : Nat} (h : isL c = true) : c ≠ 42 := by
  unfold isL at h
  simp at h
  omega
def enc : T → List Nat
  | .lf c => [c]
  | .nd l r => 42 :: (enc l ++ enc r)
def ok : T → Bool
  | .lf c => isL c
  | .nd l r => ok l && ok r
/-- the number of letters -/
def sz : T → Nat
  | .lf _ => 1
  | .nd l r => sz l + sz r
theorem sz_pos : ∀ t, 1 ≤ sz t
  | .lf _ => Nat.le_refl _
  | .nd l r => by have := sz_pos l; simp only [sz]; omega
theorem enc_len : ∀ t, (enc t).length + 1 = 2 * sz t
  | .lf _ => rfl
  | .nd l r => by
    have h1 := enc_len l
    have h2 := enc_len r
    simp only [enc, sz, List.length_cons, List.length_append]; omega
theorem enc_pos (t : T) : 1 ≤ (enc t).length := by have := enc_len t; have := sz_pos t; omega
theorem ok_nd {l r : T} : ok (.nd l r) = true ↔ ok l = true ∧ ok r = true := by simp [ok]

/-- the length of as many terms as are wanted -/
def eat : Nat → List Nat → Nat
  | 0, _ => 0
  | _ + 1, [] => 0
  | w + 1, c :: r => 1 + eat (if c = 42 then w + 2 else w) r
theorem eat_enc : ∀ (t : T), ok t = true → ∀ (w : Nat) (r : List Nat), eat (w + 1) (enc t ++ r) = (enc t).length + eat w r
  | .lf c, h, w, r => by
    have hc : c ≠ 42 := isL_ne h
    show eat (w + 1) (c :: r) = 1 + eat w r
    simp only [eat, if_neg hc]
  | .nd a b, h, w, r => by
    obtain ⟨ha, hb⟩ := ok_nd.mp h
    show eat (w + 1) (42 :: (enc a ++ enc b) ++ r) = _
    simp only [List.cons_append, eat, if_true, List.append_assoc]
    rw [eat_enc a ha (w + 1) (enc b ++ r), eat_enc b hb w r]
    simp only [enc, List.length_cons, List.length_append]; omega
theorem eat_one {t : T} (h : ok t = true) (r : List Nat) : eat 1 (enc t ++ r) = (enc t).length := by
  rw [eat_enc t h 0 r]; simp [eat]
/-- so many terms, one behind the other -/
def encs (ts : List T) : List Nat := (ts.map enc).flatten
theorem encs_nil : encs [] = [] := rfl
theorem encs_cons (t : T) (ts : List T) : encs (t :: ts) = enc t ++ encs ts := rfl

/-- the test of a term -/
def scan : Nat → List Nat → Bool
  | w, [] => w == 0
  | w, c :: r => if w = 0 ∨ (c ≠ 42 ∧ isL c = false) then false else scan (if c = 42 then w + 1 else w - 1) r
def isT (l : List Nat) : Bool := (decide (1 ≤ l.length) && decide (l.length ≤ 399)) && scan 1 l
theorem scan_enc : ∀ (t : T), ok t = true → ∀ (w : Nat) (r : List Nat), scan (w + 1) (enc t ++ r) = scan w r
  | .lf c, h, w, r => by
    have hc : c ≠ 42 := isL_ne h
    have hl : isL c = true := h
    show scan (w + 1) (c :: r) = _
    rw [scan, if_neg (by simp [hl]), if_neg hc]
    simp
  | .nd a b, h, w, r => by
    obtain ⟨ha, hb⟩ := ok_nd.mp h
    show scan (w + 1) (42 :: (enc a ++ enc b) ++ r) = _
    rw [List.cons_append, scan, if_neg (by simp), if_pos rfl, List.append_assoc, scan_enc a ha (w + 1) (enc b ++ r), scan_enc b hb w r]
theorem isT_enc {t : T} (h : ok t = true) (hz : sz t ≤ 200) : isT (enc t) = true := by
  have h1 := scan_enc t h 0 []
  rw [List.append_nil] at h1
  have h2 := enc_len t
  have h3 := sz_pos t
  unfold isT
  rw [h1]
  simp [scan]
  omega
theorem isT_more {t : T} (h : ok t = true) (c : Nat) : isT (enc t ++ [c]) = false := by
  have h1 := scan_enc t h 0 [c]
  unfold isT
  rw [h1]
  simp [scan]
theorem isT_less {t : T} (h : ok t = true) : isT (42 :: enc t) = false := by
  have h1 := scan_enc t h 1 []
  rw [List.append_nil] at h1
  unfold isT
  rw [scan, if_neg (by simp), if_pos rfl, h1]
  simp [scan]
/-- scanned text is made of terms -/
theorem of_scan : ∀ (n : Nat) (l : List Nat) (w : Nat), l.length ≤ n → scan w l = true → ∃ ts : List T, ts.length = w ∧ (∀ t ∈ ts, ok t = true) ∧ l = encs ts := by
  intro n
  induction n with
  | zero =>
    intro l w hl h
    have : l = [] := List.length_eq_zero_iff.mp (by omega)
    subst this
    refine ⟨[], ?_, by simp, rfl⟩
    simp [scan] at h
    exact h.symm
  | succ n ih =>
    intro l w hl h
    cases l with
    | nil =>
      refine ⟨[], ?_, by simp, rfl⟩
      simp [scan] at h
      exact h.symm
    | cons c r =>
      rw [scan] at h
      by_cases hb : w = 0 ∨ (c ≠ 42 ∧ isL c = false)
      · rw [if_pos hb] at h; cases h
      · rw [if_neg hb] at h
        have hw : w ≠ 0 := fun z => hb (.inl z)
        have hlr : r.length ≤ n := by simp only [List.length_cons] at hl; omega
        by_cases hc : c = 42
        · rw [if_pos hc] at h
          obtain ⟨ts, h1, h2, h3⟩ := ih r (w + 1) hlr h
          match ts, h1, h2, h3 with
          | a :: b :: ts, h1, h2, h3 =>
            refine ⟨.nd a b :: ts, by simp only [List.length_cons] at h1 ⊢; omega, fun t ht => ?_, ?_⟩
            · rcases List.mem_cons.mp ht with z | z
              · rw [z]; exact ok_nd.mpr ⟨h2 a (by simp), h2 b (by simp)⟩
              · exact h2 t (by simp [z])
            · rw [h3, hc, encs_cons, encs_cons, encs_cons]
              simp [enc]
          | [a], h1, _, _ => simp only [List.length_cons, List.length_nil] at h1; omega
          | [], h1, _, _ => simp only [List.length_nil] at h1; omega
        · rw [if_neg hc] at h
          have hl' : isL c = true := by
            cases q : isL c with
            | true => rfl
            | false => exact absurd (.inr ⟨hc, q⟩) hb
          obtain ⟨ts, h1, h2, h3⟩ := ih r (w - 1) hlr h
          refine ⟨.lf c :: ts, by simp only [List.length_cons]; omega, fun t ht => ?_, ?_⟩
          · rcases List.mem_cons.mp ht with z | z
            · rw [z]; exact hl'
            · exact h2 t z
          · rw [h3, encs_cons]; rfl
theorem isT_iff (l : List Nat) : isT l = true ↔ ∃ t, ok t = true ∧ sz t ≤ 200 ∧ l = enc t := by
  constructor
  · intro h
    unfold isT at h
    simp only [Bool.and_eq_true, decide_eq_true_eq] at h
    obtain ⟨⟨h1, h2⟩, h3⟩ := h
    obtain ⟨ts, h4, h5, h6⟩ := of_scan _ l 1 (Nat.le_refl _) h3
    match ts, h4, h5, h6 with
    | [t], _, h5, h6 =>
      have e : l = enc t := by rw [h6, encs_cons, encs_nil, List.append_nil]
      refine ⟨t, h5 t (by simp), ?_, e⟩
      have := enc_len t
      rw [← e] at this
      omega
  · rintro ⟨t, h1, h2, rfl⟩
    exact isT_enc h1 h2

/-- terms are read in one way -/
theorem enc_inj : ∀ (t u : T), ok t = true → ok u = true → ∀ (r s : List Nat), enc t ++ r = enc u ++ s → t = u ∧ r = s
  | .lf c, .lf d, _, _, r, s, h => by
    have h' : c :: r = d :: s := h
    injection h' with h1 h2
    exact ⟨by rw [h1], h2⟩
  | .lf c, .nd a b, h1, _, r, s, h => by
    have h' : c :: r = 42 :: ((enc a ++ enc b) ++ s) := h
    injection h' with h2 _
    exact absurd h2 (isL_ne h1)
  | .nd a b, .lf c, _, h1, r, s, h => by
    have h' : 42 :: ((enc a ++ enc b) ++ r) = c :: s := h
    injection h' with h2 _
    exact absurd h2.symm (isL_ne h1)
  | .nd a b, .nd c d, h1, h2, r, s, h => by
    have h' : 42 :: ((enc a ++ enc b) ++ r) = 42 :: ((enc c ++ enc d) ++ s) := h
    injection h' with _ h3
    rw [List.append_assoc, List.append_assoc] at h3
    obtain ⟨e1, e2⟩ := enc_inj a c (ok_nd.mp h1).1 (ok_nd.mp h2).1 _ _ h3
    obtain ⟨e3, e4⟩ := enc_inj b d (ok_nd.mp h1).2 (ok_nd.mp h2).2 _ _ e2
    exact ⟨by rw [e1, e3], e4⟩
theorem enc_inj' {t u : T} (h1 : ok t = true) (h2 : ok u = true) (h : enc t = enc u) : t = u :=
  (enc_inj t u h1 h2 [] [] (by rw [h])).1

/-- the parts of a term in the order of their begins, each with what stands around it -/
def subs : T → List (T × (T → T))
  | .lf c => [(.lf c, fun x => x)]
  | .nd a b => (.nd a b, fun x => x) :: ((subs a).map (fun p => (p.1, fun x => .nd (p.2 x) b)) ++ (subs b).map (fun p => (p.1, fun x => .nd a (p.2 x))))
theorem subs_len : ∀ t, (subs t).length = (enc t).length
  | .lf _ => rfl
  | .nd a b => by simp only [subs, enc, List.length_cons, List.length_append, List.length_map, subs_len a, subs_len b]
/-- where a part begins -/
theorem subs_at : ∀ (t : T) (i : Nat) (s : T) (f : T → T), (subs t)[i]? = some (s, f) →
    (∀ x, enc (f x) = (enc t).take i ++ enc x ++ (enc t).drop (i + (enc s).length)) ∧ (enc t).drop i = enc s ++ (enc t).drop (i + (enc s).length) ∧ f s = t ∧
    (ok t = true → ok s = true ∧ ∀ x, ok x = true → ok (f x) = true) ∧ ∀ x, sz (f x) + sz s = sz t + sz x
  | .lf c, i, s, f, h => by
    cases i with
    | succ i => simp [subs] at h
    | zero =>
      simp only [subs, List.getElem?_cons_zero, Option.some.injEq, Prod.mk.injEq] at h
      obtain ⟨rfl, rfl⟩ := h
      exact ⟨fun x => by simp [enc], by simp [enc], rfl, fun h => ⟨h, fun _ h => h⟩, fun x => Nat.add_comm _ _⟩
  | .nd a b, i, s, f, h => by
    cases i with
    | zero =>
      simp only [subs, List.getElem?_cons_zero, Option.some.injEq, Prod.mk.injEq] at h
      obtain ⟨rfl, rfl⟩ := h
      exact ⟨fun x => by simp, by simp, rfl, fun h => ⟨h, fun _ h => h⟩, fun x => Nat.add_comm _ _⟩
    | succ i =>
      simp only [subs, List.getElem?_cons_succ] at h
      by_cases hi : i < (subs a).length
      · rw [List.getElem?_append_left (by simpa using hi), List.getElem?_map] at h
        cases q : (subs a)[i]? with
        | none => rw [q] at h; cases h
        | some p =>
          obtain ⟨s', f'⟩ := p
          rw [q] at h
          simp only [Option.map_some, Option.some.injEq, Prod.mk.injEq] at h
          obtain ⟨rfl, rfl⟩ := h
          obtain ⟨h1, h2, h3, h4, h5⟩ := subs_at a i s' f' q
          have hl : i + (enc s').length ≤ (enc a).length := by
            have e := congrArg List.length h2
            have hi' : i < (enc a).length := by rw [← subs_len]; exact hi
            simp only [List.length_drop, List.length_append] at e
            by_cases hq : i + (enc s').length ≤ (enc a).length
            · exact hq
            · omega
          have hi' : i ≤ (enc a).length := by rw [← subs_len]; omega
          have e0 : i + 1 + (enc s').length = (i + (enc s').length) + 1 := by omega
          refine ⟨fun x => ?_, ?_, by show T.nd (f' s') b = _; rw [h3], fun h => ⟨(h4 (ok_nd.mp h).1).1, fun x hx => ok_nd.mpr ⟨(h4 (ok_nd.mp h).1).2 x hx, (ok_nd.mp h).2⟩⟩, fun x => ?_⟩
          · simp only [enc]
            rw [h1 x, e0, List.take_succ_cons, List.drop_succ_cons, List.take_append_of_le_length hi', List.drop_append_of_le_length hl]
            simp
          · simp only [enc]
            rw [e0, List.drop_succ_cons, List.drop_succ_cons, List.drop_append_of_le_length hi', List.drop_append_of_le_length hl, h2]
            simp
          · have := h5 x
            simp only [sz]; omega
      · rw [List.getElem?_append_right (by simpa using hi), List.getElem?_map] at h
        simp only [List.length_map] at h
        cases q : (subs b)[i - (subs a).length]? with
        | none => rw [q] at h; cases h
        | some p =>
          obtain ⟨s', f'⟩ := p
          rw [q] at h
          simp only [Option.map_some, Option.some.injEq, Prod.mk.injEq] at h
          obtain ⟨rfl, rfl⟩ := h
          obtain ⟨h1, h2, h3, h4, h5⟩ := subs_at b _ s' f' q
          rw [subs_len] at h1 h2 hi
          have hi' : (enc a).length ≤ i := by omega
          have e0 : i + 1 + (enc s').length = (i + (enc s').length) + 1 := by omega
          have e1 : i + (enc s').length - (enc a).length = i - (enc a).length + (enc s').length := by omega
          refine ⟨fun x => ?_, ?_, by show T.nd a (f' s') = _; rw [h3], fun h => ⟨(h4 (ok_nd.mp h).2).1, fun x hx => ok_nd.mpr ⟨(ok_nd.mp h).1, (h4 (ok_nd.mp h).2).2 x hx⟩⟩, fun x => ?_⟩
          · simp only [enc]
            rw [h1 x, e0, List.take_succ_cons, List.drop_succ_cons, List.take_append, List.drop_append, List.take_of_length_le hi', List.drop_of_length_le (by omega : (enc a).length ≤ i + (enc s').length), e1]
            simp
          · simp only [enc]
            rw [e0, List.drop_succ_cons, List.drop_succ_cons, List.drop_append, List.drop_append, List.drop_of_length_le hi', List.drop_of_length_le (by omega : (enc a).length ≤ i + (enc s').length), e1, h2]
            simp
          · have := h5 x
            simp only [sz]; omega
theorem subs_some (t : T) {i : Nat} (h : i < (enc t).length) : ∃ s f, (subs t)[i]? = some (s, f) := by
  rw [← subs_len] at h
  exact ⟨_, _, List.getElem?_eq_getElem h⟩

/-! ### the three rules -/
def red1 : T → List (Nat × T)
  | .nd (.nd _ y) (.nd y' _) => if y = y' then [(1, y)] else []
  | _ => []
def red2 : T → List (Nat × T)
  | .nd x (.nd (.nd x' y) _) => if x' = x then [(2, .nd x' y)] else []
  | _ => []
def red3 : T → List (Nat × T)
  | .nd (.nd _ (.nd y z')) z => if z' = z then [(3, .nd y z')] else []
  | _ => []
def red (t : T) : List (Nat × T) := red1 t ++ (red2 t ++ red3 t)
theorem red_lf (c : Nat) : red (.lf c) = [] := rfl
theorem red1_mem {t : T} {r : Nat} {u : T} : (r, u) ∈ red1 t ↔ ∃ x y z, t = .nd (.nd x y) (.nd y z) ∧ r = 1 ∧ u = y := by
  constructor
  · intro h
    match t, h with
    | .nd (.nd x y) (.nd y' z), h =>
      simp only [red1] at h
      by_cases e : y = y'
      · subst e
        rw [if_pos rfl] at h
        obtain ⟨h1, h2⟩ := Prod.mk.inj (List.mem_singleton.mp h)
        exact ⟨x, y, z, rfl, h1, h2⟩
      · rw [if_neg e] at h; simp at h
    | .lf _, h => simp [red1] at h
    | .nd (.lf _) _, h => simp [red1] at h
    | .nd (.nd _ _) (.lf _), h => simp [red1] at h
  · rintro ⟨x, y, z, rfl, rfl, rfl⟩
    simp [red1]
theorem red2_mem {t : T} {r : Nat} {u : T} : (r, u) ∈ red2 t ↔ ∃ x y z, t = .nd x (.nd (.nd x y) z) ∧ r = 2 ∧ u = .nd x y := by
  constructor
  · intro h
    match t, h with
    | .nd x (.nd (.nd x' y) z), h =>
      simp only [red2] at h
      by_cases e : x' = x
      · subst e
        rw [if_pos rfl] at h
        obtain ⟨h1, h2⟩ := Prod.mk.inj (List.mem_singleton.mp h)
        exact ⟨x', y, z, rfl, h1, h2⟩
      · rw [if_neg e] at h; simp at h
    | .lf _, h => simp [red2] at h
    | .nd _ (.lf _), h => simp [red2] at h
    | .nd _ (.nd (.lf _) _), h => simp [red2] at h
  · rintro ⟨x, y, z, rfl, rfl, rfl⟩
    simp [red2]
theorem red3_mem {t : T} {r : Nat} {u : T} : (r, u) ∈ red3 t ↔ ∃ x y z, t = .nd (.nd x (.nd y z)) z ∧ r = 3 ∧ u = .nd y z := by
  constructor
  · intro h
    match t, h with
    | .nd (.nd x (.nd y z')) z, h =>
      simp only [red3] at h
      by_cases e : z' = z
      · subst e
        rw [if_pos rfl] at h
        obtain ⟨h1, h2⟩ := Prod.mk.inj (List.mem_singleton.mp h)
        exact ⟨x, y, z', rfl, h1, h2⟩
      · rw [if_neg e] at h; simp at h
    | .lf _, h => simp [red3] at h
    | .nd (.lf _) _, h => simp [red3] at h
    | .nd (.nd _ (.lf _)) _, h => simp [red3] at h
  · rintro ⟨x, y, z, rfl, rfl, rfl⟩
    simp [red3]
theorem red_sz {t : T} {r : Nat} {u : T} (h : (r, u) ∈ red t) : sz u < sz t ∧ (ok t = true → ok u = true) ∧ r < 4 := by
  unfold red at h
  rcases List.mem_append.mp h with h | h
  · obtain ⟨x, y, z, rfl, rfl, rfl⟩ := red1_mem.mp h
    have := sz_pos x; have := sz_pos z; have := sz_pos u
    exact ⟨by simp only [sz]; omega, fun q => (ok_nd.mp (ok_nd.mp q).1).2, by omega⟩
  · rcases List.mem_append.mp h with h | h
    · obtain ⟨x, y, z, rfl, rfl, rfl⟩ := red2_mem.mp h
      have := sz_pos x; have := sz_pos z
      exact ⟨by simp only [sz]; omega, fun q => (ok_nd.mp (ok_nd.mp q).2).1, by omega⟩
    · obtain ⟨x, y, z, rfl, rfl, rfl⟩ := red3_mem.mp h
      have := sz_pos x; have := sz_pos z
      exact ⟨by simp only [sz]; omega, fun q => (ok_nd.mp (ok_nd.mp q).1).2, by omega⟩
/-- the steps down: index, rule, result -/
def stepsAt (i : Nat) (p : T × (T → T)) : List (Nat × Nat × T) := (red p.1).map fun q => (i, q.1, p.2 q.2)
def stepsFrom (i : Nat) : List (T × (T → T)) → List (Nat × Nat × T)
  | [] => []
  | p :: ps => stepsAt i p ++ stepsFrom (i + 1) ps
def steps (t : T) : List (Nat × Nat × T) := stepsFrom 0 (subs t)
end KT

end

section
set_option maxHeartbeats 1000000
/-! KOps: readings of operations that ask by the values at hand; texts by their codes. -/
namespace KG
open PySem PySem.Spec PyProof.Rows L2

/-- a text by its codes -/
def S (l : List Nat) : V := .str ⟨l.toArray⟩
theorem S_inj {a b : List Nat} : (S a = S b) ↔ a = b := by
  constructor
  · intro h
    have h1 : (⟨a.toArray⟩ : Str) = ⟨b.toArray⟩ := V.str.inj h
    have h2 : a.toArray = b.toArray := congrArg Str.cps h1
    exact List.toArray_inj h2
  · rintro rfl
    rfl
theorem str_len (l : List Nat) : (⟨l.toArray⟩ : Str).length = l.length := by simp [Str.length]
theorem str_cat (a b : List Nat) : (⟨a.toArray⟩ : Str) ++ ⟨b.toArray⟩ = ⟨(a ++ b).toArray⟩ := by
  show Str.append _ _ = _
  simp [Str.append]
theorem str_of (z : Str) : z = ⟨z.cps.toList.toArray⟩ := by cases z; simp
theorem V_str (z : Str) : V.str z = S z.cps.toList := by
  unfold S
  rw [← str_of]
/-- the bound of sizes that these readings ask -/
theorem line_ge : 1000000 ≤ sizeLine := by decide
theorem line_of {n : Nat} (h : n ≤ 1000000) : n ≤ sizeLine := Nat.le_trans h line_ge

section
variable {X : Cx} {pos : Pos}
theorem pe_S {x : Str} {j : Nat} (l : List Nat) (h : x.cps.toList = l) : PE X (.Constant (.str x) j pos) (tC (S l)) := by
  have e : V.str x = S l := by rw [V_str, h]
  rw [← e]
  exact pe_str
theorem pe_globS {x z : Str} (l : List Nat) (h : z.cps.toList = l) (hg : Gl X x) (hm : ∃ t, X.mg x = some (.str z t)) (hd : (x == ("__debug__" : Str)) = false := by decide) : PE X (.Name x pos) (tC (S l)) := by
  obtain ⟨t, hm⟩ := hm
  have e : V.str z = S l := by rw [V_str, h]
  rw [← e]
  exact pe_glob (v := .str z) hg hm ⟨t, rfl⟩ hd
theorem pe_globI {x : Str} {i : Int} (hg : Gl X x) (hm : ∃ t, X.mg x = some (.int i t)) (hd : (x == ("__debug__" : Str)) = false := by decide) : PE X (.Name x pos) (tC (.int i)) := by
  obtain ⟨t, hm⟩ := hm
  exact pe_glob (v := .int i) hg hm ⟨t, rfl⟩ hd
theorem pe_globR {x : Str} {a : Addr} (hg : Gl X x) (hm : X.mg x = some (.ref a)) (hd : (x == ("__debug__" : Str)) = false := by decide) : PE X (.Name x pos) (tC (.ref a)) := pe_glob (v := .ref a) hg hm rfl hd
end

/-! ### + -/
def kAdd (K : PySem.W.Frag) : R2 := fun x y H Q => match x, y with
  | .int i, .int j => Q (.int (i + j)) H
  | .str i, .str j => i.length + j.length ≤ 1000000 ∧ Q (.str (i ++ j)) H
  | .ref a, .ref b => rCat (.ref a) (.ref b) H Q ∨ rCatA K (.ref a) (.ref b) H Q
  | _, _ => False
section
variable {K : PySem.W.Frag} {H : Hp} {Q : VK}
theorem kAdd_i {i j : Int} : kAdd K (.int i) (.int j) H Q ↔ Q (.int (i + j)) H := Iff.rfl
theorem kAdd_s {i j : List Nat} : kAdd K (S i) (S j) H Q ↔ i.length + j.length ≤ 1000000 ∧ Q (S (i ++ j)) H := by
  show (_ ∧ Q (.str _) H) ↔ _
  rw [str_len, str_len, str_cat]
  exact Iff.rfl
theorem op_kAdd {X : Cx} : OpR X (binaryOp .Add) (kAdd X.K) := by
  intro pins s σ H x y v u Q I rx ry h
  cases x with
  | int i => cases y with
    | int j => exact op_add pins s σ H _ _ v u Q I rx ry ⟨i, j, rfl, rfl, h⟩
    | _ => exact False.elim h
  | str i => cases y with
    | str j => exact op_add_str pins s σ H _ _ v u Q I rx ry ⟨i, j, rfl, rfl, line_of h.1, h.2⟩
    | _ => exact False.elim h
  | ref a => cases y with
    | ref b =>
      rcases h with h | h
      · exact op_cat pins s σ H _ _ v u Q I rx ry h
      · exact op_catA pins s σ H _ _ v u Q I rx ry h
    | _ => exact False.elim h
  | _ => exact False.elim h
/-- x += e at a name -/
theorem ip_kAdd {X : Cx} : PIp X .Add (fun x y H Q => match x, y with | .int i, .int j => Q (.int (i + j)) H | .str i, .str j => i.length + j.length ≤ 1000000 ∧ Q (.str (i ++ j)) H | _, _ => False) := by
  intro pins s σ H x y v u Q I rx ry h
  cases x with
  | int i => cases y with
    | int j => exact iop_add pins s σ H _ _ v u Q I rx ry ⟨i, j, rfl, rfl, h⟩
    | _ => exact False.elim h
  | str i => cases y with
    | str j => exact iop_add_str pins s σ H _ _ v u Q I rx ry ⟨i, j, rfl, rfl, line_of h.1, h.2⟩
    | _ => exact False.elim h
  | _ => exact False.elim h
end

/-! ### ints -/
def kInt (C : Int → Int → Prop) (g : Int → Int → V) : R2 := fun x y H Q => match x, y with
  | .int i, .int j => C i j ∧ Q (g i j) H
  | _, _ => False
theorem kInt_i {C : Int → Int → Prop} {g : Int → Int → V} {i j : Int} {H : Hp} {Q : VK} : kInt C g (.int i) (.int j) H Q ↔ C i j ∧ Q (g i j) H := Iff.rfl
def kInt0 (g : Int → Int → V) : R2 := fun x y H Q => match x, y with
  | .int i, .int j => Q (g i j) H
  | _, _ => False
theorem kInt0_i {g : Int → Int → V} {i j : Int} {H : Hp} {Q : VK} : kInt0 g (.int i) (.int j) H Q ↔ Q (g i j) H := Iff.rfl
theorem op_kI {X : Cx} {f : Value → Value → Sem Value} {C : Int → Int → Prop} {g : Int → Int → V} (h : OpR X f (rI C g)) : OpR X f (kInt C g) := by
  intro pins s σ H x y v u Q I rx ry h'
  cases x with
  | int i => cases y with
    | int j => exact h pins s σ H _ _ v u Q I rx ry ⟨i, j, rfl, rfl, h'.1, h'.2⟩
    | _ => exact False.elim h'
  | _ => exact False.elim h'
theorem op_kI0 {X : Cx} {f : Value → Value → Sem Value} {g : Int → Int → V} (h : OpR X f (rI0 g)) : OpR X f (kInt0 g) := by
  intro pins s σ H x y v u Q I rx ry h'
  cases x with
  | int i => cases y with
    | int j => exact h pins s σ H _ _ v u Q I rx ry ⟨i, j, rfl, rfl, h'⟩
    | _ => exact False.elim h'
  | _ => exact False.elim h'
section
variable {X : Cx}
theorem op_kSub : OpR X (binaryOp .Sub) (kInt0 fun i j => .int (i - j)) := op_kI0 op_sub
theorem op_kFdiv : OpR X (binaryOp .FloorDiv) (kInt CDivW fun i j => .int (i / j)) := op_kI op_fdivW
theorem op_kMod : OpR X (binaryOp .Mod) (kInt (fun _ j => 0 < j) fun i j => .int (i % j)) := op_kI op_mod
theorem op_kPow : OpR X (binaryOp .Pow) (kInt CPow fun i j => .int (i ^ j.toNat)) := op_kI op_pow
theorem op_kLt : OpR X (compareOp .Lt) (kInt0 fun i j => .bl (decide (i < j))) := op_kI0 op_lt
theorem op_kLe : OpR X (compareOp .LtE) (kInt0 fun i j => .bl (decide (i ≤ j))) := op_kI0 op_le
theorem op_kGt : OpR X (compareOp .Gt) (kInt0 fun i j => .bl (decide (j < i))) := op_kI0 op_gt
theorem op_kGe : OpR X (compareOp .GtE) (kInt0 fun i j => .bl (decide (j ≤ i))) := op_kI0 op_ge
end
/-! ### * -/
def kMul (K : PySem.W.Frag) : R2 := fun x y H Q => match x, y with
  | .int i, .int j => (CMulW i j ∨ CMul i j) ∧ Q (.int (i * j)) H
  | .str z, .int k => 2 ≤ k ∧ k ≤ 1000 ∧ 1 ≤ z.length ∧ z.length ≤ 1000 ∧ Q (S (List.replicate k.toNat z.cps.toList).flatten) H
  | .ref a, .int k => rRep (.ref a) (.int k) H Q ∨ rRepT K (.ref a) (.int k) H Q
  | _, _ => False
theorem fold_cat (a : Array Nat) : ∀ (n : Nat) (acc : Array Nat), ((List.replicate n a).foldl (· ++ ·) acc).toList = acc.toList ++ (List.replicate n a.toList).flatten
  | 0, acc => by simp
  | n + 1, acc => by
    rw [List.replicate_succ, List.foldl_cons, fold_cat a n, List.replicate_succ, List.flatten_cons, Array.toList_append, List.append_assoc]
theorem op_mulStr {X : Cx} : OpR X (binaryOp .Mult) (fun x y H Q => ∃ (z : Str) (k : Int), x = .str z ∧ y = .int k ∧ 2 ≤ k ∧ k ≤ 1000 ∧ 1 ≤ z.length ∧ z.length ≤ 1000 ∧ Q (S (List.replicate k.toNat z.cps.toList).flatten) H) := by
  intro pins s σ H x y v u Q I rx ry h
  obtain ⟨z, k, rfl, rfl, k1, k2, z1, z2, q⟩ := h
  obtain ⟨t, rfl⟩ := rx
  obtain ⟨t', rfl⟩ := ry
  have hm : z.length * k.toNat ≤ 1000 * 1000 := Nat.mul_le_mul z2 (by omega)
  have e1 : ¬ k < 1 := by omega
  have e2 : (k == 1 || z.length == 0) = false := by
    rw [Bool.or_eq_false_iff]
    exact ⟨beq_eq_false_iff_ne.mpr (by omega), beq_eq_false_iff_ne.mpr (by omega)⟩
  have e3 : (⟨(List.replicate k.toNat z.cps).foldl (· ++ ·) #[]⟩ : Str) = ⟨((List.replicate k.toNat z.cps.toList).flatten).toArray⟩ := by
    have := fold_cat z.cps k.toNat #[]
    rw [Array.toList_empty, List.nil_append] at this
    rw [← this]
  refine PySem.P.mul_str ?_ (fun _ _ => ?_) (fun _ _ => ?_) ?_
  · have h1 : ¬ k < -(2 ^ 63 : Int) := by omega
    have h2 : ¬ k ≥ 2 ^ 63 := by omega
    rw [decide_eq_false h1, decide_eq_false h2] <;> rfl
  · have h3 : (z.length : Int) * k ≤ 2 ^ 63 - 1 := by
      have h4 : ((z.length * k.toNat : Nat) : Int) ≤ ((1000 * 1000 : Nat) : Int) := Int.ofNat_le.mpr hm
      rw [Int.natCast_mul, Int.toNat_of_nonneg (by omega)] at h4
      omega
    have h5 := Int.le_ediv_of_mul_le (show 0 < k by omega) h3
    omega
  · unfold Builtin.Str.tooLong
    refine decide_eq_false ?_
    have := line_ge
    first | omega | (have hh : sizeLine ≥ 1000000 := this; omega)
  · rw [if_neg e1, if_neg (by rw [e2]; exact Bool.false_ne_true), e3]
    refine ⟨?_, .str _, H, I.tok _, ⟨_, rfl⟩, q⟩
    have e4 : ((List.replicate k.toNat z.cps.toList).flatten).length = k.toNat * z.length := by simp [Str.length]
    first
      | (rw [str_len, e4, Nat.mul_comm]; exact line_of hm)
      | (show Str.length _ ≤ _; rw [str_len, e4, Nat.mul_comm]; exact line_of hm)
theorem op_kMul {X : Cx} : OpR X (binaryOp .Mult) (kMul X.K) := by
  intro pins s σ H x y v u Q I rx ry h
  cases x with
  | int i => cases y with
    | int j =>
      rcases h.1 with h1 | h1
      · exact op_mulW pins s σ H _ _ v u Q I rx ry ⟨i, j, rfl, rfl, h1, h.2⟩
      · exact op_mul pins s σ H _ _ v u Q I rx ry ⟨i, j, rfl, rfl, h1, h.2⟩
    | _ => exact False.elim h
  | str z => cases y with
    | int j => exact op_mulStr pins s σ H _ _ v u Q I rx ry ⟨z, j, rfl, rfl, h⟩
    | _ => exact False.elim h
  | ref a => cases y with
    | int j =>
      rcases h with h | h
      · exact op_rep pins s σ H _ _ v u Q I rx ry h
      · exact op_repT pins s σ H _ _ v u Q I rx ry h
    | _ => exact False.elim h
  | _ => exact False.elim h
theorem kMul_i {K : PySem.W.Frag} {i j : Int} {H : Hp} {Q : VK} : kMul K (.int i) (.int j) H Q ↔ (CMulW i j ∨ CMul i j) ∧ Q (.int (i * j)) H := Iff.rfl
theorem kMul_s {K : PySem.W.Frag} {l : List Nat} {k : Int} {H : Hp} {Q : VK} : kMul K (S l) (.int k) H Q ↔ 2 ≤ k ∧ k ≤ 1000 ∧ 1 ≤ l.length ∧ l.length ≤ 1000 ∧ Q (S (List.replicate k.toNat l).flatten) H := by
  show (_ ∧ _ ∧ _ ∧ _ ∧ Q (S (List.replicate k.toNat (List.toArray l).toList).flatten) H) ↔ _
  rw [str_len, List.toList_toArray]
/-! ### == -/
def kEq (K : PySem.W.Frag) : R2 := fun x y H Q => if scal x y = true then Q (.bl (decide (x = y))) H else rEqD K x y H Q
def kNe (K : PySem.W.Frag) : R2 := fun x y H Q => if scal x y = true then Q (.bl (!decide (x = y))) H else rNeD K x y H Q
section
variable {K : PySem.W.Frag} {H : Hp} {Q : VK} {X : Cx}
theorem op_kEq {k : Nat} (hr : Room k X.A) : OpR X (compareOp .Eq) (kEq X.K) := by
  intro pins s σ H x y v u Q I rx ry h
  unfold kEq at h
  split at h
  · rename_i c
    exact op_eq pins s σ H _ _ v u Q I rx ry ⟨c, h⟩
  · exact op_eqD hr.units pins s σ H _ _ v u Q I rx ry h
theorem op_kNe {k : Nat} (hr : Room k X.A) : OpR X (compareOp .NotEq) (kNe X.K) := by
  intro pins s σ H x y v u Q I rx ry h
  unfold kNe at h
  split at h
  · rename_i c
    exact op_ne pins s σ H _ _ v u Q I rx ry ⟨c, h⟩
  · exact op_neD hr.units pins s σ H _ _ v u Q I rx ry h
theorem kEq_i {i j : Int} : kEq K (.int i) (.int j) H Q ↔ Q (.bl (decide (i = j))) H := by
  unfold kEq
  rw [if_pos (by rfl)]
  simp only [V.int.injEq]
theorem kEq_s {i j : List Nat} : kEq K (S i) (S j) H Q ↔ Q (.bl (decide (i = j))) H := by
  unfold kEq
  rw [if_pos (by rfl)]
  have e : decide (S i = S j) = decide (i = j) := by rw [decide_eq_decide]; exact S_inj
  rw [e]
theorem kNe_i {i j : Int} : kNe K (.int i) (.int j) H Q ↔ Q (.bl (!decide (i = j))) H := by
  unfold kNe
  rw [if_pos (by rfl)]
  simp only [V.int.injEq]
theorem kNe_s {i j : List Nat} : kNe K (S i) (S j) H Q ↔ Q (.bl (!decide (i = j))) H := by
  unfold kNe
  rw [if_pos (by rfl)]
  have e : decide (S i = S j) = decide (i = j) := by rw [decide_eq_decide]; exact S_inj
  rw [e]
theorem kEq_b {i j : Bool} : kEq K (.bl i) (.bl j) H Q ↔ Q (.bl (decide (i = j))) H := by
  unfold kEq
  rw [if_pos (by rfl)]
  simp only [V.bl.injEq]
theorem kNe_b {i j : Bool} : kNe K (.bl i) (.bl j) H Q ↔ Q (.bl (!decide (i = j))) H := by
  unfold kNe
  rw [if_pos (by rfl)]
  simp only [V.bl.injEq]
theorem kEq_D {x : V} {a : Addr} : kEq K x (.ref a) H Q ↔ rEqD K x (.ref a) H Q := by
  unfold kEq
  rw [if_neg (by cases x <;> simp [scal])]
theorem kNe_D {x : V} {a : Addr} : kNe K x (.ref a) H Q ↔ rNeD K x (.ref a) H Q := by
  unfold kNe
  rw [if_neg (by cases x <;> simp [scal])]
end
/-! ### is -/
def kIsN : R2 := fun x y H Q => match y with
  | .non => Q (.bl (match x with | .non => true | _ => false)) H
  | .bl b => (match x with | .bl a => Q (.bl (decide (a = b))) H | _ => False)
  | _ => False
def kNotN : R2 := fun x y H Q => match y with
  | .non => Q (.bl (match x with | .non => false | _ => true)) H
  | .bl b => (match x with | .bl a => Q (.bl (!decide (a = b))) H | _ => False)
  | _ => False
section
variable {X : Cx}
theorem op_kIsN : OpR X (compareOp .Is) kIsN := by
  intro pins s σ H x y v u Q I rx ry h
  cases y with
  | non => exact op_isN pins s σ H _ _ v u Q I rx ry ⟨rfl, by cases x <;> exact h⟩
  | bl b => cases x with
    | bl a => exact op_isBl pins s σ H _ _ v u Q I rx ry ⟨a, b, rfl, rfl, h⟩
    | _ => exact False.elim h
  | _ => exact False.elim h
theorem op_kNotN : OpR X (compareOp .IsNot) kNotN := by
  intro pins s σ H x y v u Q I rx ry h
  cases y with
  | non => exact op_notN pins s σ H _ _ v u Q I rx ry ⟨rfl, by cases x <;> exact h⟩
  | bl b => cases x with
    | bl a => exact op_notBl pins s σ H _ _ v u Q I rx ry ⟨a, b, rfl, rfl, h⟩
    | _ => exact False.elim h
  | _ => exact False.elim h
end
/-! ### in -/
def kIn (K : PySem.W.Frag) : R2 := fun x y H Q => match y with
  | .str z => ∃ c, x = S [c] ∧ Q (.bl (decide (c ∈ z.cps.toList))) H
  | .ref a => rIn K false x (.ref a) H Q ∨ rInD K x (.ref a) H Q
  | _ => False
def kNotIn (K : PySem.W.Frag) : R2 := fun x y H Q => match y with
  | .str z => ∃ c, x = S [c] ∧ Q (.bl (!decide (c ∈ z.cps.toList))) H
  | .ref a => rIn K true x (.ref a) H Q ∨ rNotInD K x (.ref a) H Q
  | _ => False
section
variable {X : Cx} {K : PySem.W.Frag} {H : Hp} {Q : VK}
theorem op_kIn {k : Nat} (hr : Room k X.A) : OpR X (compareOp .In) (kIn X.K) := by
  intro pins s σ H x y v u Q I rx ry h
  have hu := hr.un
  cases y with
  | str z =>
    obtain ⟨c, rfl, q⟩ := h
    exact op_in_sign pins s σ H _ _ v u Q I rx ry ⟨c, z, rfl, rfl, q⟩
  | ref a =>
    rcases h with h | h
    · exact op_in_seq pins s σ H _ _ v u Q I rx ry h
    · exact op_inD (by omega) pins s σ H _ _ v u Q I rx ry h
  | _ => exact False.elim h
theorem op_kNotIn {k : Nat} (hr : Room k X.A) : OpR X (compareOp .NotIn) (kNotIn X.K) := by
  intro pins s σ H x y v u Q I rx ry h
  have hu := hr.un
  cases y with
  | str z =>
    obtain ⟨c, rfl, q⟩ := h
    exact op_notIn_sign pins s σ H _ _ v u Q I rx ry ⟨c, z, rfl, rfl, q⟩
  | ref a =>
    rcases h with h | h
    · exact op_notIn_seq pins s σ H _ _ v u Q I rx ry h
    · exact op_notInD (by omega) pins s σ H _ _ v u Q I rx ry h
  | _ => exact False.elim h
theorem kIn_s {c : Nat} {l : List Nat} : kIn K (S [c]) (S l) H Q ↔ Q (.bl (decide (c ∈ l))) H := by
  constructor
  · rintro ⟨d, e, q⟩
    have e2 := S_inj.mp e
    cases e2
    simpa using q
  · intro q
    exact ⟨c, rfl, by simpa using q⟩
theorem kNotIn_s {c : Nat} {l : List Nat} : kNotIn K (S [c]) (S l) H Q ↔ Q (.bl (!decide (c ∈ l))) H := by
  constructor
  · rintro ⟨d, e, q⟩
    have e2 := S_inj.mp e
    cases e2
    simpa using q
  · intro q
    exact ⟨c, rfl, by simpa using q⟩
end
/-! ### len -/
def kLen (K : PySem.W.Frag) : List V → Hp → VK → Prop := fun xs H Q => match xs with
  | [.str z] => z.length ≤ 1000000 ∧ Q (.int z.length) H
  | [.ref p] => (∃ ys, (SqL K H p ys ∨ SqT K H p ys) ∧ Q (.int ys.length) H) ∨ ∃ kvs, H p = some (.dK kvs) ∧ Q (.int kvs.length) H
  | _ => False
theorem kLen_s {K : PySem.W.Frag} {l : List Nat} {H : Hp} {Q : VK} : kLen K [S l] H Q ↔ l.length ≤ 1000000 ∧ Q (.int l.length) H := by
  show (_ ∧ Q (.int (Str.length _ : Nat)) H) ↔ _
  rw [str_len]
theorem call_kLen {X : Cx} : CallR X (.builtin "len") (kLen X.K) := by
  intro pins s σ H xs us Q I r h
  match xs, r, h with
  | [.str z], r, h => exact call_len_str pins s σ H _ us Q I r ⟨z, rfl, line_of h.1, h.2⟩
  | [.ref p], r, h =>
    rcases h with ⟨ys, h, q⟩ | ⟨kvs, h, q⟩
    · exact call_len_seq pins s σ H _ us Q I r ⟨p, ys, rfl, h, q⟩
    · exact call_lenD pins s σ H _ us Q I r ⟨p, kvs, rfl, h, q⟩
/-! ### subscripts -/
def kIx (K : PySem.W.Frag) : R2 := fun x y H Q => match x, y with
  | .str z, .int i => z.length ≤ 1000000 ∧ ∃ c, atI z.cps.toList i = some c ∧ Q (S [c]) H
  | .ref p, .int i => ∃ xs v, (SqL K H p xs ∨ SqT K H p xs) ∧ atI xs i = some v ∧ Q v H
  | _, _ => False
theorem ix_k {X : Cx} : IxR X (kIx X.K) := by
  intro value slice pins s σ H x y v u Q I rx ry h hs
  cases x with
  | str z => cases y with
    | int i =>
      obtain ⟨hz, c, hc, q⟩ := h
      exact ix_str value slice pins s σ H _ _ v u Q I rx ry ⟨z, i, c, rfl, rfl, line_of hz, hc, q⟩ hs
    | _ => exact False.elim h
  | ref p => cases y with
    | int i =>
      obtain ⟨xs, w, hx, hc, q⟩ := h
      rcases hx with hx | hx
      · exact ix_list value slice pins s σ H _ _ v u Q I rx ry ⟨p, xs, i, w, rfl, rfl, hx, hc, q⟩ hs
      · exact ix_tup value slice pins s σ H _ _ v u Q I rx ry ⟨p, xs, i, w, rfl, rfl, hx, hc, q⟩ hs
    | _ => exact False.elim h
  | _ => exact False.elim h
theorem kIx_s {K : PySem.W.Frag} {l : List Nat} {i : Int} {H : Hp} {Q : VK} : kIx K (S l) (.int i) H Q ↔ l.length ≤ 1000000 ∧ ∃ c, atI l i = some c ∧ Q (S [c]) H := by
  show (_ ∧ ∃ c, atI (List.toArray l).toList i = some c ∧ _) ↔ _
  rw [str_len, List.toList_toArray]
/-! ### slices -/
def cutL (l : List Nat) (lo hi : Option Int) : List Nat := (l.drop (HT.sIx l.length 0 lo)).take (HT.sIx l.length l.length hi - HT.sIx l.length 0 lo)
def kSl (K : PySem.W.Frag) : V → Option Int → Option Int → Hp → VK → Prop := fun x lo hi H Q => match x with
  | .str z => z.length ≤ 1000000 ∧ Q (S (cutL z.cps.toList lo hi)) H
  | .ref p => rSlA K (.ref p) lo hi H Q ∨ rSlL K (.ref p) lo hi H Q
  | _ => False
theorem cutS_S (z : Str) (lo hi : Option Int) : V.str (cutS z lo hi) = S (cutL z.cps.toList lo hi) := by
  unfold cutS cutL S
  rw [show z.length = z.cps.toList.length by simp [Str.length]]
theorem sl_k {X : Cx} : SlR X (kSl X.K) := by
  intro pins s σ H x v vl vu lo hi sl Q I rx hs pl pu h
  cases x with
  | str z =>
    refine sl_str pins s σ H _ v vl vu lo hi sl Q I rx hs pl pu ⟨z, rfl, line_of h.1, ?_⟩
    rw [cutS_S]
    exact h.2
  | ref p =>
    rcases h with h | h
    · exact sl_tupA pins s σ H _ v vl vu lo hi sl Q I rx hs pl pu h
    · exact sl_list pins s σ H _ v vl vu lo hi sl Q I rx hs pl pu h
  | _ => exact False.elim h
theorem kSl_s {K : PySem.W.Frag} {l : List Nat} {lo hi : Option Int} {H : Hp} {Q : VK} : kSl K (S l) lo hi H Q ↔ l.length ≤ 1000000 ∧ Q (S (cutL l lo hi)) H := by
  show (_ ∧ Q (S (cutL (List.toArray l).toList lo hi)) H) ↔ _
  rw [str_len, List.toList_toArray]
theorem cutL_lo {l : List Nat} {i : Nat} (h : i ≤ l.length) : cutL l (some (i : Int)) none = l.drop i := by
  unfold cutL
  have e : HT.sIx l.length 0 (some (i : Int)) = i := by
    rw [HT.sIx_nat]
    omega
  rw [e, HT.sIx_none, List.take_of_length_le (by simp)]
theorem cutL_hi {l : List Nat} {j : Nat} (h : j ≤ l.length) : cutL l none (some (j : Int)) = l.take j := by
  unfold cutL
  have e : HT.sIx l.length l.length (some (j : Int)) = j := by
    rw [HT.sIx_nat]
    omega
  rw [e, HT.sIx_none, List.drop_zero, Nat.sub_zero]
theorem cutL_both {l : List Nat} {i j : Nat} (hi : i ≤ j) (hj : j ≤ l.length) : cutL l (some (i : Int)) (some (j : Int)) = (l.drop i).take (j - i) := by
  unfold cutL
  have e : HT.sIx l.length l.length (some (j : Int)) = j := by
    rw [HT.sIx_nat]
    omega
  have e2 : HT.sIx l.length 0 (some (i : Int)) = i := by
    rw [HT.sIx_nat]
    omega
  rw [e, e2]
/-! ### isinstance(x, T), T a built-in type by its name -/
def kindV (K : PySem.W.Frag) (x : V) (H : Hp) : Option String := match x with
  | .non => some "NoneType"
  | .bl _ => some "bool"
  | .int _ => some "int"
  | .str _ => some "str"
  | .ref p => (match H p with
    | some (.lst _) => some "list"
    | some (.tup _) => some "tuple"
    | some (.dK _) => some "dict"
    | _ => none)
  | _ => none
def kIsi (K : PySem.W.Frag) : List V → Hp → VK → Prop := fun xs H Q => match xs with
  | [x, .ty n] => (match kindV K x H with
    | some m => (match kitB m n with
      | some b => Q (.bl b) H
      | none => False)
    | none => rIsi K [x, .ty n] H Q)
  | [x, .ref C] => rIsi K [x, .ref C] H Q
  | _ => False
theorem kind_ty {K : PySem.W.Frag} {x : V} {H : Hp} {m : String} (h : kindV K x H = some m) : TyX K H x (.type m) := by
  cases x with
  | non => cases h; exact .base (.non)
  | bl b => cases h; exact .base (.bl b)
  | int i => cases h; exact .base (.int i)
  | str z => cases h; exact .base (.str z)
  | ref p =>
    unfold kindV at h
    cases e : H p with
    | none => simp only [e] at h; cases h
    | some o =>
      cases o with
      | lst xs => simp only [e] at h; cases h; exact .base (.lst e)
      | tup xs => simp only [e] at h; cases h; exact .base (.tup e)
      | dK kvs => simp only [e] at h; cases h; exact .base (.dK e)
      | _ => simp only [e] at h; cases h
  | _ => cases h
theorem call_kIsi {X : Cx} : CallR X (.builtin "isinstance") (kIsi X.K) := by
  intro pins s σ H xs us Q I r h
  match xs, r, h with
  | [x, .ty n], r, h =>
    unfold kIsi at h
    simp only at h
    split at h
    · rename_i m hm
      split at h
      · rename_i b hb
        exact call_isi pins s σ H _ us Q I r ⟨x, .ty n, .type m, .type n, b, rfl, .ty n, kind_ty hm, kit_ty hb, h⟩
      · exact h.elim
    · exact call_isi pins s σ H _ us Q I r h
  | [x, .ref C], r, h => exact call_isi pins s σ H _ us Q I r h
theorem kit_str_str : kitB "str" "str" = some true := by decide +kernel
theorem kIsi_of {K : PySem.W.Frag} {x : V} {n m : String} {b : Bool} {H : Hp} {Q : VK} (h : kindV K x H = some m) (hb : kitB m n = some b) : kIsi K [x, .ty n] H Q ↔ Q (.bl b) H := by
  unfold kIsi
  simp only [h, hb]
/-- for x in a text, a list or a tuple -/
def iK (K : PySem.W.Frag) (te : TE) : TI := fun σ H R => te σ H fun v H1 => match v with
  | .str z => R (Its z) H1
  | .ref a => ((∃ xs, SqL K H1 a xs) ∧ R (Itl K a) H1) ∨ ((∃ xs, SqT K H1 a xs) ∧ R (Itt K a) H1)
  | _ => False
theorem pi_k {X : Cx} {tg e : Expr} {te : TE} (he : PE X e te) : PI X tg e (iK X.K te) := by
  refine ⟨fun pins s σ H R I h => ?_⟩
  refine thn (he.run pins s σ H _ I h) fun v s1 ⟨y, H1, I1, r1, q⟩ => ?_
  cases y with
  | str x =>
    obtain ⟨t, rfl⟩ := r1
    cases ha : x.cps.all (· < 128)
    · exact wpAny_pyIter_wide ha (pi_one (tk := s1.toks) I1 _ (turn_str _ x t "str_iterator" (.inr rfl)) ⟨_, Heap.get?_push_size _ rfl, rfl, rfl⟩ q)
    · exact wpAny_pyIter_ascii ha (pi_one (tk := s1.toks) I1 _ (turn_str _ x t "str_ascii_iterator" (.inl rfl)) ⟨_, Heap.get?_push_size _ rfl, rfl, rfl⟩ q)
  | ref a =>
    cases r1
    rcases q with ⟨⟨xs, hq⟩, q⟩ | ⟨⟨xs, hq⟩, q⟩
    · obtain ⟨its, rv, p, hz⟩ := I1.list hq
      refine wpAny_pyIter_list p.isList ?_
      refine ⟨s1.heap.objs.size, [s1.heap.objs.size], _, _, H1, rfl, I1.kept (t' := s1.toks) fun b o e => Heap.get?_push_of_some _ e, turn_list a _, ⟨_, Heap.get?_push_size _ rfl, rfl, rfl⟩, fun b hb => ?_, q⟩
      have e : b = s1.heap.objs.size := by simpa using hb
      subst e
      exact I1.fpOk (Nat.le_refl _) (I1.hok.fresh (Nat.le_refl _))
    · obtain ⟨its, rv, p, hz⟩ := I1.tuple hq
      refine wpAny_pyIter_tuple (show s1.heap.IsTuple a its.toArray from p) ?_
      refine ⟨s1.heap.objs.size, [s1.heap.objs.size], _, _, H1, rfl, I1.kept (t' := s1.toks) fun b o e => Heap.get?_push_of_some _ e, turn_tuple a _, ⟨_, Heap.get?_push_size _ rfl, rfl, rfl⟩, fun b hb => ?_, q⟩
      have e : b = s1.heap.objs.size := by simpa using hb
      subst e
      exact I1.fpOk (Nat.le_refl _) (I1.hok.fresh (Nat.le_refl _))
  | _ => exact q.elim
/-! ### rows to walk -/
/-- an expression that has this value, and changes nothing -/
abbrev Is (te : TE) (σ : L2.St) (H : Hp) (v : V) : Prop := ∀ Q : VK, Q v H → te σ H Q
theorem is_var {i : Nat} {σ : L2.St} {H : Hp} {v : V} (h : σ[i]? = some (some v)) : Is (tVar i) σ H v := fun _ q => ⟨v, h, q⟩
/-- all the for-loops over one row: n items, the i-th one given by P -/
theorem loop_of {J : It} {n : Nat} {g : TG} {tb : TS} {D : Ends} {σ : L2.St} {H : Hp} (P : Nat → V → Hp → Hp → Prop) (Pv : Nat → L2.St → Hp → Prop)
    (hgo : ∀ i σ H, i < n → Pv i σ H → J.go i H) (hy : ∀ i H x H', i < n → J.yld i H x H' → P i x H H') (hst : ∀ σ H, Pv n σ H → J.stop n H) (h0 : Pv 0 σ H)
    (hs : ∀ i x σ H H', i < n → P i x H H' → Pv i σ H → g x σ H' fun σ2 H2 => tb { D with nx := Pv (i + 1), ct := Pv (i + 1), bk := D.nx } σ2 H2) (hd : ∀ σ H, Pv n σ H → D.nx σ H) :
    ∃ W : Nat → Nat → L2.St → Hp → Prop, (∃ m, W 0 m σ H) ∧ ∀ i m σ H, W i m σ H →
      (J.stop i H ∧ D.nx σ H) ∨ (J.go i H ∧ ∃ N : L2.St → Hp → Prop, (∀ σ' H', N σ' H' → ∃ m', m' < m ∧ W (i + 1) m' σ' H') ∧ ∀ x H', J.yld i H x H' → g x σ H' fun σ2 H2 => tb { D with nx := N, ct := N, bk := D.nx } σ2 H2) := by
  refine ⟨fun i m σ H => m = n - i ∧ i ≤ n ∧ Pv i σ H, ⟨n, by simp, Nat.zero_le _, h0⟩, ?_⟩
  rintro i m σ H ⟨rfl, hi, p⟩
  by_cases hlt : i < n
  · exact .inr ⟨hgo i σ H hlt p, Pv (i + 1), fun σ' H' p' => ⟨n - (i + 1), by omega, rfl, hlt, p'⟩, fun x H' y => hs i x σ H H' hlt (hy i H x H' hlt y) p⟩
  · have e : i = n := by omega
    subst e
    exact .inl ⟨hst σ H p, hd σ H p⟩
theorem its_go {l : List Nat} {i : Nat} {H : Hp} : (Its ⟨l.toArray⟩).go i H ↔ i < l.length := by simp [Its]
theorem its_stop {l : List Nat} {i : Nat} {H : Hp} : (Its ⟨l.toArray⟩).stop i H ↔ l.length ≤ i := by simp [Its]
theorem its_yld {l : List Nat} {i : Nat} {H H' : Hp} {v : V} : (Its ⟨l.toArray⟩).yld i H v H' ↔ H' = H ∧ ∃ c, l[i]? = some c ∧ v = S [c] := by
  simp [Its, S]
/-- for x in s: s a text -/
theorem loop_S {K : PySem.W.Frag} {te : TE} {l : List Nat} {j : Nat} {tb : TS} {D : Ends} {σ : L2.St} {H : Hp} (hv : Is te σ H (S l)) (Pv : Nat → L2.St → Hp → Prop) (h0 : Pv 0 σ H)
    (hs : ∀ i c σ H, l[i]? = some c → Pv i σ H → tb { D with nx := Pv (i + 1), ct := Pv (i + 1), bk := D.nx } (σ.set j (some (S [c]))) H) (hd : ∀ σ H, Pv l.length σ H → D.nx σ H) :
    tFor (iK K te) (gName j) tb D σ H :=
  hv _ (loop_of (n := l.length) (fun i x H H' => H' = H ∧ ∃ c, l[i]? = some c ∧ x = S [c]) Pv (fun i _ _ hi _ => its_go.mpr hi) (fun i H x H' _ y => its_yld.mp y) (fun _ _ _ => its_stop.mpr (Nat.le_refl _)) h0
    (fun i x σ H H' _ p pv => by
      obtain ⟨rfl, c, hc, rfl⟩ := p
      exact hs i c σ _ hc pv) hd)
/-- for x in t: t a tuple -/
theorem loop_T {te : TE} {K : PySem.W.Frag} {a : Addr} {xs : List V} {g : TG} {tb : TS} {D : Ends} {σ : L2.St} {H : Hp} (hv : Is te σ H (.ref a)) (Pv : Nat → L2.St → Hp → Prop) (h0 : Pv 0 σ H)
    (hx : ∀ i σ H, i ≤ xs.length → Pv i σ H → SqT K H a xs)
    (hs : ∀ i x σ H, xs[i]? = some x → Pv i σ H → g x σ H fun σ2 H2 => tb { D with nx := Pv (i + 1), ct := Pv (i + 1), bk := D.nx } σ2 H2) (hd : ∀ σ H, Pv xs.length σ H → D.nx σ H) :
    tFor (iK K te) g tb D σ H := hv _ (.inr ⟨⟨xs, hx 0 σ H (Nat.zero_le _) h0⟩, for_tup Pv h0 hx hs hd⟩)
theorem loop_L {te : TE} {K : PySem.W.Frag} {a : Addr} {xs : List V} {g : TG} {tb : TS} {D : Ends} {σ : L2.St} {H : Hp} (hv : Is te σ H (.ref a)) (Pv : Nat → L2.St → Hp → Prop) (h0 : Pv 0 σ H)
    (hx : ∀ i σ H, i ≤ xs.length → Pv i σ H → SqL K H a xs)
    (hs : ∀ i x σ H, xs[i]? = some x → Pv i σ H → g x σ H fun σ2 H2 => tb { D with nx := Pv (i + 1), ct := Pv (i + 1), bk := D.nx } σ2 H2) (hd : ∀ σ H, Pv xs.length σ H → D.nx σ H) :
    tFor (iK K te) g tb D σ H := hv _ (.inl ⟨⟨xs, hx 0 σ H (Nat.zero_le _) h0⟩, for_list Pv h0 hx hs hd⟩)
/-- for x in range(n) -/
theorem loop_R {ta : TA} {n : Int} {j : Nat} {tb : TS} {D : Ends} {σ : L2.St} {H : Hp} (hv : ∀ Q : List V → Hp → Prop, Q [.int n] H → ta σ H Q) (hn : n ≤ 1000000 ∧ -1000000 ≤ n) (Pv : Nat → L2.St → Hp → Prop) (h0 : Pv 0 σ H)
    (hs : ∀ i σ H, i < n.toNat → Pv i σ H → tb { D with nx := Pv (i + 1), ct := Pv (i + 1), bk := D.nx } (σ.set j (some (.int (i : Nat)))) H) (hd : ∀ σ H, Pv n.toNat σ H → D.nx σ H) :
    tFor (iRng1 ta) (gName j) tb D σ H := hv _ ⟨n, rfl, by omega, by omega, for_range (lo := 0) Pv h0 (fun i σ H hi p => by
      show tb _ (σ.set j (some (.int (0 + (i : Nat))))) H
      rw [Int.zero_add]
      exact hs i σ H hi p) hd⟩
/-! ### x op= e at a name -/
def kAug : TIp := fun x y H Q => match x, y with
  | .int i, .int j => Q (.int (i + j)) H
  | .str i, .str j => i.length + j.length ≤ 1000000 ∧ Q (.str (i ++ j)) H
  | _, _ => False
theorem ip_kAug {X : Cx} : PIp X .Add kAug := ip_kAdd
theorem kAug_i {i j : Int} {H : Hp} {Q : VK} : kAug (.int i) (.int j) H Q ↔ Q (.int (i + j)) H := Iff.rfl
/-! ### truth -/
theorem tru_S {K : PySem.W.Frag} {l : List Nat} {H : Hp} (h : l.length ≤ 1000000) : TruV K (S l) H (!l.isEmpty) := by
  refine ⟨by rw [str_len]; exact line_of h, ?_⟩
  rw [str_len]
  cases l <;> simp <;> omega
end KG

end

section
set_option maxHeartbeats 1000000
/-! KMeth: methods of lists and dicts; defs of the text by their row of facts. -/
namespace KG
open PySem PySem.Spec PyProof.Rows L2

section
variable {K : PySem.W.Frag} {H : Hp} {l : Addr} {xs : List V} {y : V} {Q : VK}
theorem tyL (h : H l = some (.lst xs)) : tyV K "list" (.ref l) H := .inl ⟨rfl, xs, SqL.of h⟩
theorem tyDk {d : Addr} {kvs : List (Key × V)} (h : H d = some (.dK kvs)) : tyV K "dict" (.ref d) H := .inr (.inr (.inl ⟨rfl, .inl ⟨kvs, h⟩⟩))
theorem rApp (h : H l = some (.lst xs)) (hz : xs.length < 1000000) (q : Q .non (upd H l (.lst (xs ++ [y])))) : rAppend (.ref l) [y] H Q := ⟨l, xs, y, rfl, rfl, h, Nat.lt_of_lt_of_le hz line_ge, q⟩
/-- d.setdefault(k, v) as a call -/
theorem mt_setdefault {X : Cx} : MtR X "dict.setdefault" rSetd := by
  intro pins s σ H x vs v us Q I rx rv h
  obtain ⟨a, kvs, k, d, rfl, rfl, ea, hl, w1, w2⟩ := h
  cases rx
  cases rv with
  | cons ry rv =>
    cases rv with
    | cons rd rv =>
      cases rv
      obtain ⟨z, hd, vs0, rel, dd⟩ := dk_of I.hok ea
      have dd2 := dd
      obtain ⟨o, es, ep, eo, exd, hdat, _⟩ := dd2
      have hz : vs0.length ≤ sizeLine := by rw [← rel.length]; exact z
      refine call_meetsIn PySem.F.slot_dict_setdefault dd.typeIs PySem.F.entry_dict_setdefault (PySem.F.args_dict_setdefault_3 _ _ _) (PySem.kt_meets_setdefault (mixKind X.prog X.w) _ (kV_is ry) hd _) ⟨vs0, dd, hz, fun u hu => ?_, fun hn h' dd' hs => ?_⟩
      · have rr := rel.val k
        rw [hu] at rr
        cases hv : valV kvs k with
        | none => rw [hv] at rr; exact False.elim rr
        | some x =>
          rw [hv] at rr
          exact (⟨x, H, I.tok _, rr, w1 x hv⟩ : EP X pins σ Q u _)
      · have rr := rel.val k
        rw [hn] at rr
        cases hv : valV kvs k with
        | some x => rw [hv] at rr; exact False.elim rr
        | none =>
          have hl2 : (putK kvs k d).length ≤ sizeLine := by have := length_putK kvs k d; omega
          exact (⟨d, _, d_write (t' := s.toks + 1) I (by rw [ea]; exact True.intro) hs (let ⟨q, _, _, hq, _⟩ := dd'; ⟨q, hq⟩) (dk_new hl2 hd (rel.put k rd) dd'), rd, w2 hv⟩ : EP X pins σ Q _ _)
end

/-- a def of the text where the top left it -/
structure Df (K : PySem.W.Frag) (mg : Str → Option Value) (x : Str) (st : Stmt) (ps : List Str) where
  f : Addr
  fd : FuncData
  F : Fun K x x st f fd
  g : mg x = some (.ref f)
  b : Binds K fd ps []
section
variable {X : Cx} {st : Stmt} {x : Str} {ps : List Str} {k : Nat} {sp : Sp} {p pos : Pos} {e : Expr} {es : List Expr} {t : TA}
theorem callD {D : Df X.K X.mg x st ps} (F : FnG X.prog X.w X.K X.mg X.base CX0 k D.f D.fd ps sp) (hr : Room k X.A) (ns : NoShow X.A) (hg : Gl X x)
    (ha : PA X (e :: es) t) (hdb : (x == ("__debug__" : Str)) = false := by decide) (he : starEach (e :: es) X.env = (false, eval e X.env) :: starEach es X.env := by rfl) (hpl : (backTo pos (starEach es X.env)).any (·.1) = false := by rfl) :
    PE X (.Call (.Name x p) (e :: es) [] pos) (tCall sp [] E0 t) := pe_callG F hr ns hg D.g D.F.kp D.b .nil pass0 ha hdb he hpl
theorem callO {D : Df X.K X.mg x st ps} (F : FnOk X.prog X.w X.K X.mg X.base CX0 k D.f D.fd ps sp) (hr : Room k X.A) (hg : Gl X x)
    (ha : PA X (e :: es) t) (hdb : (x == ("__debug__" : Str)) = false := by decide) (he : starEach (e :: es) X.env = (false, eval e X.env) :: starEach es X.env := by rfl) (hpl : (backTo pos (starEach es X.env)).any (·.1) = false := by rfl) :
    PE X (.Call (.Name x p) (e :: es) [] pos) (tCall sp [] E0 t) := pe_call F hr hg D.g D.F.kp D.b .nil pass0 ha hdb he hpl
theorem callO0 {D : Df X.K X.mg x st ps} (F : FnOk X.prog X.w X.K X.mg X.base CX0 k D.f D.fd ps sp) (hr : Room k X.A) (hg : Gl X x)
    (hdb : (x == ("__debug__" : Str)) = false := by decide) :
    PE X (.Call (.Name x p) [] [] pos) (tCall sp [] E0 tNil) := pe_call0 F hr hg D.g D.F.kp D.b .nil pass0 hdb
theorem callD0 {D : Df X.K X.mg x st ps} (F : FnG X.prog X.w X.K X.mg X.base CX0 k D.f D.fd ps sp) (hr : Room k X.A) (ns : NoShow X.A) (hg : Gl X x)
    (hdb : (x == ("__debug__" : Str)) = false := by decide) :
    PE X (.Call (.Name x p) [] [] pos) (tCall sp [] E0 tNil) := pe_callG0 F hr ns hg D.g D.F.kp D.b .nil pass0 hdb
end
/-! ### is x None, as a test's word; what a reading of a test asks -/
theorem iteB {b : Bool} {P Q : Prop} : (if b = true then P else Q) ↔ (match b with | true => P | false => Q) := by cases b <;> simp
end KG

end

section
set_option maxHeartbeats 1000000
/-! KGo: words that bring a reading to what it asks. -/
namespace KG
open PySem PySem.Spec PyProof.Rows L2
section
variable {K : PySem.W.Frag} {H : Hp} {b c : Bool} {i : Int} {l : List Nat} {Q : VK} {Qb : Bool → Prop}
theorem tru_b : (∃ k, TruV K (.bl b) H k ∧ Qb k) ↔ Qb b := by
  constructor
  · rintro ⟨k, h, q⟩
    have e : k = b := h
    subst e
    exact q
  · exact fun q => ⟨b, rfl, q⟩
theorem tru_i : (∃ k, TruV K (.int i) H k ∧ Qb k) ↔ Qb (i != 0) := by
  constructor
  · rintro ⟨k, h, q⟩
    have e : k = (i != 0) := h
    subst e
    exact q
  · exact fun q => ⟨_, rfl, q⟩
theorem tru_n : (∃ k, TruV K .non H k ∧ Qb k) ↔ Qb false := by
  constructor
  · rintro ⟨k, h, q⟩
    have e : k = false := h
    subst e
    exact q
  · exact fun q => ⟨_, rfl, q⟩
theorem ex_bl {p : Bool → Prop} : (∃ k, V.bl b = V.bl k ∧ p k) ↔ p b := by
  constructor
  · rintro ⟨k, h, q⟩
    cases h
    exact q
  · exact fun q => ⟨_, rfl, q⟩
theorem ex_some {p : V → Prop} {v : V} : (∃ w, some (some v) = some (some w) ∧ p w) ↔ p v := by
  constructor
  · rintro ⟨k, h, q⟩
    cases h
    exact q
  · exact fun q => ⟨_, rfl, q⟩
theorem ex_int {p : Int → Prop} : (∃ k, V.int i = V.int k ∧ p k) ↔ p i := by
  constructor
  · rintro ⟨k, h, q⟩
    cases h
    exact q
  · exact fun q => ⟨_, rfl, q⟩
theorem dec_one {c d : Nat} : decide ([c] = [d]) = decide (c = d) := by rw [decide_eq_decide]; simp
theorem isi_S {m : String} {r : Bool} (h : kitB "str" m = some r) : kIsi K [S l, .ty m] H Q ↔ Q (.bl r) H := kIsi_of (x := S l) rfl h
theorem isi_i {m : String} {r : Bool} (h : kitB "int" m = some r) : kIsi K [.int i, .ty m] H Q ↔ Q (.bl r) H := kIsi_of (x := .int i) rfl h
theorem isi_b {m : String} {r : Bool} (h : kitB "bool" m = some r) : kIsi K [.bl b, .ty m] H Q ↔ Q (.bl r) H := kIsi_of (x := .bl b) rfl h
theorem isi_n {m : String} {r : Bool} (h : kitB "NoneType" m = some r) : kIsi K [.non, .ty m] H Q ↔ Q (.bl r) H := kIsi_of (x := .non) rfl h
theorem kit_ss : kitB "str" "str" = some true := by decide +kernel
theorem isN_S : kIsN (S l) .non H Q ↔ Q (.bl false) H := Iff.rfl
theorem isN_i : kIsN (.int i) .non H Q ↔ Q (.bl false) H := Iff.rfl
theorem isN_n : kIsN .non .non H Q ↔ Q (.bl true) H := Iff.rfl
theorem isN_r {a : Addr} : kIsN (.ref a) .non H Q ↔ Q (.bl false) H := Iff.rfl
theorem notN_S : kNotN (S l) .non H Q ↔ Q (.bl true) H := Iff.rfl
theorem notN_i : kNotN (.int i) .non H Q ↔ Q (.bl true) H := Iff.rfl
theorem notN_n : kNotN .non .non H Q ↔ Q (.bl false) H := Iff.rfl
theorem notN_r {a : Addr} : kNotN (.ref a) .non H Q ↔ Q (.bl true) H := Iff.rfl
theorem isN_b : kIsN (.bl b) (.bl c) H Q ↔ Q (.bl (decide (b = c))) H := Iff.rfl
theorem notN_b : kNotN (.bl b) (.bl c) H Q ↔ Q (.bl (!decide (b = c))) H := Iff.rfl
theorem ifT {P Q : Prop} : (if true = true then P else Q) ↔ P := by simp
theorem ifF {P Q : Prop} : (if false = true then P else Q) ↔ Q := by simp
theorem par_2 {v w : V} {p : V → V → Prop} : (∃ a b, [v, w] = [a, b] ∧ p a b) ↔ p v w := by
  constructor
  · rintro ⟨a, b, h, q⟩
    cases h
    exact q
  · exact fun q => ⟨_, _, rfl, q⟩
theorem par_3 {u v w : V} {p : V → V → V → Prop} : (∃ a b c, [u, v, w] = [a, b, c] ∧ p a b c) ↔ p u v w := by
  constructor
  · rintro ⟨a, b, c, h, q⟩
    cases h
    exact q
  · exact fun q => ⟨_, _, _, rfl, q⟩
theorem cx_K {CX : CXT} {P : Program} {w : World} {K : PySem.W.Frag} {mg : Str → Option Value} {base : Heap} {N : List Str} {qual : Str} {scope : Scope} {f : Addr} {cd : Value} {A : Around} {outer : List Env} {s : Shared} {H : Hp} {E : XK} :
    (cxOf CX P w K mg base N qual scope f cd A outer s H E).K = K := rfl
theorem cx_Kn {CX : CXT} {P : Program} {w : World} {K : PySem.W.Frag} {mg : Str → Option Value} {base : Heap} {N : List Str} {qual : Str} {scope : Scope} {f : Addr} {cd : Value} {A : Around} {outer : List Env} {s : Shared} {H : Hp} {E : XK} :
    (cxOf CX P w K mg base N qual scope f cd A outer s H E).nox.K = K := rfl
end
/-! ### a reading at its place, fully applied: the ways of an if stay folded till it is decided -/
def BrS (b : Bool) (t u : TS) : TS := fun D σ H => if b = true then t D σ H else u D σ H
def BrE (b : Bool) (t u : TE) : TE := fun σ H Q => if b = true then t σ H Q else u σ H Q
def BrA (b : Bool) (u : TT) : TT := fun σ H Q => if b = true then u σ H Q else Q false H
def BrO (b : Bool) (u : TT) : TT := fun σ H Q => if b = true then Q true H else u σ H Q
def BrAV (b : Bool) (u : TE) : TE := fun σ H Q => if b = true then u σ H Q else Q (.bl false) H
def BrOV (b : Bool) (u : TE) : TE := fun σ H Q => if b = true then Q (.bl true) H else u σ H Q
def BrC (b : Bool) (r : R2) (y : V) (u : TE) : TE := fun σ H Q => if b = true then u σ H fun w' H4 => r y w' H4 Q else Q (.bl false) H
section
variable {t u : TS} {ta tb tc te : TE} {tt tu : TT} {as bs : TA} {D : Ends} {σ : L2.St} {H : Hp} {Q : VK} {Qb : Bool → Hp → Prop} {Qs : List V → Hp → Prop} {Qg : L2.St → Hp → Prop} {i j k : Nat} {v x y z : V} {r r' : R2} {g : TG} {gs : TGs} {K : PySem.W.Frag} {Qo : Option Int → Hp → Prop} {to : TO}
theorem b_St : BrS true t u D σ H = t D σ H := if_pos rfl
theorem b_Sf : BrS false t u D σ H = u D σ H := if_neg Bool.false_ne_true
theorem b_Et : BrE true ta tb σ H Q = ta σ H Q := if_pos rfl
theorem b_Ef : BrE false ta tb σ H Q = tb σ H Q := if_neg Bool.false_ne_true
theorem b_At : BrA true tu σ H Qb = tu σ H Qb := if_pos rfl
theorem b_Af : BrA false tu σ H Qb = Qb false H := if_neg Bool.false_ne_true
theorem b_Ot : BrO true tu σ H Qb = Qb true H := if_pos rfl
theorem b_Of : BrO false tu σ H Qb = tu σ H Qb := if_neg Bool.false_ne_true
theorem b_AVt : BrAV true ta σ H Q = ta σ H Q := if_pos rfl
theorem b_AVf : BrAV false ta σ H Q = Q (.bl false) H := if_neg Bool.false_ne_true
theorem b_OVt : BrOV true ta σ H Q = Q (.bl true) H := if_pos rfl
theorem b_OVf : BrOV false ta σ H Q = ta σ H Q := if_neg Bool.false_ne_true
theorem b_Ct : BrC true r y ta σ H Q = ta σ H fun w' H4 => r y w' H4 Q := if_pos rfl
theorem b_Cf : BrC false r y ta σ H Q = Q (.bl false) H := if_neg Bool.false_ne_true
theorem g_seq : tSeq t u D σ H = t { D with nx := u D } σ H := rfl
theorem g_asg : tAsg te g D σ H = te σ H fun x H1 => g x σ H1 D.nx := rfl
theorem g_name : gName i v σ H Qg = Qg (σ.set i (some v)) H := rfl
theorem g_ret : tRet te D σ H = te σ H D.rt := rfl
theorem g_retN : tRetN D σ H = D.rt .non H := rfl
theorem g_next : tNext D σ H = D.nx σ H := rfl
theorem g_brk : tBreak D σ H = D.bk σ H := rfl
theorem g_cont : tCont D σ H = D.ct σ H := rfl
theorem g_drop : tDrop te D σ H = te σ H fun _ H1 => D.nx σ H1 := rfl
theorem g_ifS : tIfS tt t u D σ H = tt σ H fun b H1 => BrS b t u D σ H1 := rfl
theorem g_if : tIf tt ta tb σ H Q = tt σ H fun b H1 => BrE b ta tb σ H1 Q := rfl
theorem g_and : tAnd tt tu σ H Qb = tt σ H fun c H1 => BrA c tu σ H1 Qb := rfl
theorem g_or : tOr tt tu σ H Qb = tt σ H fun c H1 => BrO c tu σ H1 Qb := rfl
theorem g_not : tNot tt σ H Qb = tt σ H fun c H1 => Qb (!c) H1 := rfl
theorem g_andV : tAndV ta tb σ H Q = ta σ H fun x H1 => ∃ c, x = .bl c ∧ BrAV c tb σ H1 Q := rfl
theorem g_orV : tOrV ta tb σ H Q = ta σ H fun x H1 => ∃ c, x = .bl c ∧ BrOV c tb σ H1 Q := rfl
theorem g_notV : tNotV ta σ H Q = ta σ H fun x H1 => ∃ c, x = .bl c ∧ Q (.bl (!c)) H1 := rfl
theorem g_chain : tChain r r' ta tb tc σ H Q = ta σ H fun x H1 => tb σ H1 fun y H2 => r x y H2 fun z H3 => ∃ k, z = .bl k ∧ BrC k r' y tc σ H3 Q := rfl
theorem g_test : tTest te σ H Qb = te σ H fun x H' => ∃ k, x = .bl k ∧ Qb k H' := rfl
theorem g_B : tB te σ H Qb = te σ H fun x H' => ∃ k, x = .bl k ∧ Qb k H' := rfl
theorem g_op : tOp r ta tb σ H Q = ta σ H fun x H1 => tb σ H1 fun y H2 => r x y H2 Q := rfl
theorem g_un {f : V → Hp → VK → Prop} : tUn f ta σ H Q = ta σ H fun x H1 => f x H1 Q := rfl
theorem g_neg {n : Int} {f : Int → V} : rU f (.int n) H Q ↔ Q (f n) H := by
  constructor
  · rintro ⟨k, h, q⟩
    cases h
    exact q
  · exact fun q => ⟨_, rfl, q⟩
theorem g_var : tVar i σ H Q = ∃ v, σ[i]? = some (some v) ∧ Q v H := rfl
theorem g_c : tC v σ H Q = Q v H := rfl
theorem g_nil : tNil σ H Qs = Qs [] H := rfl
theorem g_cons : tCons ta as σ H Qs = ta σ H fun x H1 => as σ H1 fun xs H2 => Qs (x :: xs) H2 := rfl
theorem g_CB {f : List V → Hp → VK → Prop} : tCB f as σ H Q = as σ H fun vs H1 => f vs H1 Q := rfl
theorem g_call {sp : Sp} {dvs : List V} {E : XK} : tCall sp dvs E as σ H Q = as σ H fun vs H1 => sp (vs ++ dvs) H1 Q E := rfl
theorem g_par : tPar i j as D σ H = as σ H fun vs H1 => ∃ v w, vs = [v, w] ∧ D.nx ((σ.set i (some v)).set j (some w)) H1 := rfl
theorem g_par3 : tPar3 i j k as D σ H = as σ H fun vs H1 => ∃ u v w, vs = [u, v, w] ∧ D.nx (((σ.set i (some u)).set j (some v)).set k (some w)) H1 := rfl
theorem g_aug {ti : TIp} : tAug i te ti D σ H = ∃ x, σ[i]? = some (some x) ∧ te σ H fun y H1 => ti x y H1 fun z H2 => D.nx (σ.set i (some z)) H2 := rfl
theorem g_sl {f : V → Option Int → Option Int → Hp → VK → Prop} {tl th : TO} : tSl f te tl th σ H Q = te σ H fun x H1 => tl σ H1 fun l H2 => th σ H2 fun u H3 => f x l u H3 Q := rfl
theorem g_part : tPart te σ H Qo = te σ H fun x H1 => ∃ i, x = .int i ∧ Qo (some i) H1 := rfl
theorem g_nopart : tNoPart σ H Qo = Qo none H := rfl
theorem g_tup : tTup as σ H Q = as σ H fun xs H1 => xs.length ≤ sizeLine ∧ ∀ p, H1 p = none → Q (.ref p) (upd H1 p (.tup xs)) := rfl
theorem g_lst : tLst as σ H Q = as σ H fun xs H1 => xs.length ≤ sizeLine ∧ ∀ p, H1 p = none → Q (.ref p) (upd H1 p (.lst xs)) := rfl
theorem g_gtup : gTup K i gs v σ H Qg = ∃ a xs, v = .ref a ∧ SqT K H a xs ∧ xs.length = i ∧ gs xs σ H Qg := rfl
theorem g_gcons {vs : List V} {w : V} : gCons g gs (w :: vs) σ H Qg ↔ g w σ H fun σ' H' => gs vs σ' H' Qg := by
  constructor
  · rintro ⟨a, b, h, q⟩
    cases h
    exact q
  · exact fun q => ⟨_, _, rfl, q⟩
theorem g_gnil : gNil [] σ H Qg ↔ Qg σ H := by
  constructor
  · exact fun q => q.2
  · exact fun q => ⟨rfl, q⟩
theorem g_BM {T : String} {f : V → List V → Hp → VK → Prop} : tBM K T f te as σ H Q = te σ H fun x H1 => tyV K T x H1 ∧ as σ H1 fun xs H2 => f x xs H2 Q := rfl
theorem g_dnew : tDNewK σ H Q = ∀ p, H p = none → Q (.ref p) (upd H p (.dK [])) := rfl
end
/-! ### an if by its cases -/
section
variable {p : Prop} [Decidable p] {b : Bool} {t u : TS} {ta tb : TE} {tu : TT} {D : Ends} {σ : L2.St} {H : Hp} {Q : VK} {Qb : Bool → Hp → Prop} {r : R2} {y : V}
theorem br_S (h1 : p → t D σ H) (h2 : ¬ p → u D σ H) : BrS (decide p) t u D σ H := by
  by_cases h : p
  · rw [decide_eq_true h, b_St]; exact h1 h
  · rw [decide_eq_false h, b_Sf]; exact h2 h
theorem br_Sn (h1 : p → u D σ H) (h2 : ¬ p → t D σ H) : BrS (!decide p) t u D σ H := by
  by_cases h : p
  · rw [decide_eq_true h, Bool.not_true, b_Sf]; exact h1 h
  · rw [decide_eq_false h, Bool.not_false, b_St]; exact h2 h
theorem br_Sb (h1 : b = true → t D σ H) (h2 : b = false → u D σ H) : BrS b t u D σ H := by
  cases b
  · rw [b_Sf]; exact h2 rfl
  · rw [b_St]; exact h1 rfl
theorem br_Sm (h1 : b = true → u D σ H) (h2 : b = false → t D σ H) : BrS (!b) t u D σ H := by
  cases b
  · rw [Bool.not_false, b_St]; exact h2 rfl
  · rw [Bool.not_true, b_Sf]; exact h1 rfl
theorem br_E (h1 : p → ta σ H Q) (h2 : ¬ p → tb σ H Q) : BrE (decide p) ta tb σ H Q := by
  by_cases h : p
  · rw [decide_eq_true h, b_Et]; exact h1 h
  · rw [decide_eq_false h, b_Ef]; exact h2 h
theorem br_En (h1 : p → tb σ H Q) (h2 : ¬ p → ta σ H Q) : BrE (!decide p) ta tb σ H Q := by
  by_cases h : p
  · rw [decide_eq_true h, Bool.not_true, b_Ef]; exact h1 h
  · rw [decide_eq_false h, Bool.not_false, b_Et]; exact h2 h
theorem br_Eb (h1 : b = true → ta σ H Q) (h2 : b = false → tb σ H Q) : BrE b ta tb σ H Q := by
  cases b
  · rw [b_Ef]; exact h2 rfl
  · rw [b_Et]; exact h1 rfl
theorem br_Em (h1 : b = true → tb σ H Q) (h2 : b = false → ta σ H Q) : BrE (!b) ta tb σ H Q := by
  cases b
  · rw [Bool.not_false, b_Et]; exact h2 rfl
  · rw [Bool.not_true, b_Ef]; exact h1 rfl
theorem br_A (h1 : p → tu σ H Qb) (h2 : ¬ p → Qb false H) : BrA (decide p) tu σ H Qb := by
  by_cases h : p
  · rw [decide_eq_true h, b_At]; exact h1 h
  · rw [decide_eq_false h, b_Af]; exact h2 h
theorem br_An (h1 : p → Qb false H) (h2 : ¬ p → tu σ H Qb) : BrA (!decide p) tu σ H Qb := by
  by_cases h : p
  · rw [decide_eq_true h, Bool.not_true, b_Af]; exact h1 h
  · rw [decide_eq_false h, Bool.not_false, b_At]; exact h2 h
theorem br_Ab (h1 : b = true → tu σ H Qb) (h2 : b = false → Qb false H) : BrA b tu σ H Qb := by
  cases b
  · rw [b_Af]; exact h2 rfl
  · rw [b_At]; exact h1 rfl
theorem br_Am (h1 : b = true → Qb false H) (h2 : b = false → tu σ H Qb) : BrA (!b) tu σ H Qb := by
  cases b
  · rw [Bool.not_false, b_At]; exact h2 rfl
  · rw [Bool.not_true, b_Af]; exact h1 rfl
theorem br_O (h1 : p → Qb true H) (h2 : ¬ p → tu σ H Qb) : BrO (decide p) tu σ H Qb := by
  by_cases h : p
  · rw [decide_eq_true h, b_Ot]; exact h1 h
  · rw [decide_eq_false h, b_Of]; exact h2 h
theorem br_On (h1 : p → tu σ H Qb) (h2 : ¬ p → Qb true H) : BrO (!decide p) tu σ H Qb := by
  by_cases h : p
  · rw [decide_eq_true h, Bool.not_true, b_Of]; exact h1 h
  · rw [decide_eq_false h, Bool.not_false, b_Ot]; exact h2 h
theorem br_Ob (h1 : b = true → Qb true H) (h2 : b = false → tu σ H Qb) : BrO b tu σ H Qb := by
  cases b
  · rw [b_Of]; exact h2 rfl
  · rw [b_Ot]; exact h1 rfl
theorem br_Om (h1 : b = true → tu σ H Qb) (h2 : b = false → Qb true H) : BrO (!b) tu σ H Qb := by
  cases b
  · rw [Bool.not_false, b_Ot]; exact h2 rfl
  · rw [Bool.not_true, b_Of]; exact h1 rfl
theorem br_AV (h1 : p → ta σ H Q) (h2 : ¬ p → Q (.bl false) H) : BrAV (decide p) ta σ H Q := by
  by_cases h : p
  · rw [decide_eq_true h, b_AVt]; exact h1 h
  · rw [decide_eq_false h, b_AVf]; exact h2 h
theorem br_AVn (h1 : p → Q (.bl false) H) (h2 : ¬ p → ta σ H Q) : BrAV (!decide p) ta σ H Q := by
  by_cases h : p
  · rw [decide_eq_true h, Bool.not_true, b_AVf]; exact h1 h
  · rw [decide_eq_false h, Bool.not_false, b_AVt]; exact h2 h
theorem br_AVb (h1 : b = true → ta σ H Q) (h2 : b = false → Q (.bl false) H) : BrAV b ta σ H Q := by
  cases b
  · rw [b_AVf]; exact h2 rfl
  · rw [b_AVt]; exact h1 rfl
theorem br_AVm (h1 : b = true → Q (.bl false) H) (h2 : b = false → ta σ H Q) : BrAV (!b) ta σ H Q := by
  cases b
  · rw [Bool.not_false, b_AVt]; exact h2 rfl
  · rw [Bool.not_true, b_AVf]; exact h1 rfl
theorem br_OV (h1 : p → Q (.bl true) H) (h2 : ¬ p → ta σ H Q) : BrOV (decide p) ta σ H Q := by
  by_cases h : p
  · rw [decide_eq_true h, b_OVt]; exact h1 h
  · rw [decide_eq_false h, b_OVf]; exact h2 h
theorem br_OVn (h1 : p → ta σ H Q) (h2 : ¬ p → Q (.bl true) H) : BrOV (!decide p) ta σ H Q := by
  by_cases h : p
  · rw [decide_eq_true h, Bool.not_true, b_OVf]; exact h1 h
  · rw [decide_eq_false h, Bool.not_false, b_OVt]; exact h2 h
theorem br_OVb (h1 : b = true → Q (.bl true) H) (h2 : b = false → ta σ H Q) : BrOV b ta σ H Q := by
  cases b
  · rw [b_OVf]; exact h2 rfl
  · rw [b_OVt]; exact h1 rfl
theorem br_OVm (h1 : b = true → ta σ H Q) (h2 : b = false → Q (.bl true) H) : BrOV (!b) ta σ H Q := by
  cases b
  · rw [Bool.not_false, b_OVt]; exact h2 rfl
  · rw [Bool.not_true, b_OVf]; exact h1 rfl
theorem br_C (h1 : p → (ta σ H fun w' H4 => r y w' H4 Q)) (h2 : ¬ p → Q (.bl false) H) : BrC (decide p) r y ta σ H Q := by
  by_cases h : p
  · rw [decide_eq_true h, b_Ct]; exact h1 h
  · rw [decide_eq_false h, b_Cf]; exact h2 h
theorem br_Cn (h1 : p → Q (.bl false) H) (h2 : ¬ p → (ta σ H fun w' H4 => r y w' H4 Q)) : BrC (!decide p) r y ta σ H Q := by
  by_cases h : p
  · rw [decide_eq_true h, Bool.not_true, b_Cf]; exact h1 h
  · rw [decide_eq_false h, Bool.not_false, b_Ct]; exact h2 h
theorem br_Cb (h1 : b = true → (ta σ H fun w' H4 => r y w' H4 Q)) (h2 : b = false → Q (.bl false) H) : BrC b r y ta σ H Q := by
  cases b
  · rw [b_Cf]; exact h2 rfl
  · rw [b_Ct]; exact h1 rfl
theorem br_Cm (h1 : b = true → Q (.bl false) H) (h2 : b = false → (ta σ H fun w' H4 => r y w' H4 Q)) : BrC (!b) r y ta σ H Q := by
  cases b
  · rw [Bool.not_false, b_Ct]; exact h2 rfl
  · rw [Bool.not_true, b_Cf]; exact h1 rfl
end
/-! ### while -/
def NX (W : Nat → L2.St → Hp → Prop) (m : Nat) : L2.St → Hp → Prop := fun σ H => ∃ m', m' < m ∧ W m' σ H
def BrW (b : Bool) (W : Nat → L2.St → Hp → Prop) (m : Nat) (tb : TS) : TS := fun D σ H1 => if b = true then ∃ N : L2.St → Hp → Prop, (∀ σ' H', N σ' H' → ∃ m', m' < m ∧ W m' σ' H') ∧ tb { D with nx := N, ct := N, bk := D.nx } σ H1 else D.nx σ H1
theorem g_while {tt : TT} {tb : TS} {D : Ends} {σ : L2.St} {H : Hp} : tWhile tt tb D σ H = ∃ W : Nat → L2.St → Hp → Prop, (∃ m, W m σ H) ∧ ∀ m σ H, W m σ H → tt σ H fun b H1 => BrW b W m tb D σ H1 := rfl
section
variable {p : Prop} [Decidable p] {W : Nat → L2.St → Hp → Prop} {m : Nat} {tb : TS} {D : Ends} {σ : L2.St} {H : Hp}
theorem b_Wt (h : tb { D with nx := NX W m, ct := NX W m, bk := D.nx } σ H) : BrW true W m tb D σ H := by
  show if true = true then _ else _
  rw [if_pos rfl]
  exact ⟨NX W m, fun _ _ h => h, h⟩
theorem b_Wf (h : D.nx σ H) : BrW false W m tb D σ H := by
  show if false = true then _ else _
  rw [if_neg Bool.false_ne_true]
  exact h
theorem br_W (h1 : p → tb { D with nx := NX W m, ct := NX W m, bk := D.nx } σ H) (h2 : ¬ p → D.nx σ H) : BrW (decide p) W m tb D σ H := by
  by_cases h : p
  · rw [decide_eq_true h]; exact b_Wt (h1 h)
  · rw [decide_eq_false h]; exact b_Wf (h2 h)
end
end KG

end

section
set_option maxHeartbeats 1000000
/-! KLc: comprehensions, walks with their places; dicts by texts. -/
namespace KG
open PySem PySem.Spec PyProof.Rows L2

/-- what a turn of a comprehension has to reach -/
def BrL (b : Bool) (te : TE) (D : Addr) (Nx : Hp → Prop) (σ2 : L2.St) (H3 : Hp) : Prop :=
  if b = true then te σ2 H3 fun y H4 => ∃ acc, H4 D = some (.lst acc) ∧ acc.length < sizeLine ∧ Nx (upd H4 D (.lst (acc ++ [y]))) else Nx H3
section
variable {te : TE} {D : Addr} {Nx : Hp → Prop} {σ : L2.St} {H : Hp} {p : Prop} [Decidable p] {b : Bool}
theorem b_Lt : BrL true te D Nx σ H = te σ H fun y H4 => ∃ acc, H4 D = some (.lst acc) ∧ acc.length < sizeLine ∧ Nx (upd H4 D (.lst (acc ++ [y]))) := if_pos rfl
theorem b_Lf : BrL false te D Nx σ H = Nx H := if_neg Bool.false_ne_true
theorem br_L (h1 : p → te σ H fun y H4 => ∃ acc, H4 D = some (.lst acc) ∧ acc.length < sizeLine ∧ Nx (upd H4 D (.lst (acc ++ [y])))) (h2 : ¬ p → Nx H) : BrL (decide p) te D Nx σ H := by
  by_cases h : p
  · rw [decide_eq_true h, b_Lt]; exact h1 h
  · rw [decide_eq_false h, b_Lf]; exact h2 h
theorem br_Ln (h1 : p → Nx H) (h2 : ¬ p → te σ H fun y H4 => ∃ acc, H4 D = some (.lst acc) ∧ acc.length < sizeLine ∧ Nx (upd H4 D (.lst (acc ++ [y])))) : BrL (!decide p) te D Nx σ H := by
  by_cases h : p
  · rw [decide_eq_true h, Bool.not_true, b_Lf]; exact h1 h
  · rw [decide_eq_false h, Bool.not_false, b_Lt]; exact h2 h
theorem br_Lb (h1 : b = true → te σ H fun y H4 => ∃ acc, H4 D = some (.lst acc) ∧ acc.length < sizeLine ∧ Nx (upd H4 D (.lst (acc ++ [y])))) (h2 : b = false → Nx H) : BrL b te D Nx σ H := by
  cases b
  · rw [b_Lf]; exact h2 rfl
  · rw [b_Lt]; exact h1 rfl
theorem br_Lm (h1 : b = true → Nx H) (h2 : b = false → te σ H fun y H4 => ∃ acc, H4 D = some (.lst acc) ∧ acc.length < sizeLine ∧ Nx (upd H4 D (.lst (acc ++ [y])))) : BrL (!b) te D Nx σ H := by
  cases b
  · rw [Bool.not_false, b_Lt]; exact h2 rfl
  · rw [Bool.not_true, b_Lf]; exact h1 rfl
theorem g_yes {Qb : Bool → Hp → Prop} : tYes σ H Qb = Qb true H := rfl
theorem g_wipe0 : wipe σ [] = σ := rfl
theorem g_wipe1 {v : Nat} : wipe σ [v] = σ.set v none := rfl
theorem g_wipe3 {v u t : Nat} : wipe σ [v, u, t] = ((σ.set t none).set u none).set v none := rfl
theorem g_wipe2 {v u : Nat} : wipe σ [v, u] = (σ.set u none).set v none := rfl
end
theorem lc_of {J : It} {n : Nat} {g : TG} {tt : TT} {te : TE} {vs : List Nat} {σ : L2.St} {H1 : Hp} {D : Addr} {Qd : Hp → Prop} (P : Nat → V → Hp → Hp → Prop) (Pv : Nat → Hp → Prop)
    (hgo : ∀ i H, i < n → Pv i H → J.go i H) (hy : ∀ i H x H', i < n → J.yld i H x H' → P i x H H') (hst : ∀ H, Pv n H → J.stop n H) (h0 : Pv 0 (upd H1 D (.lst [])))
    (hs : ∀ i x H H', i < n → P i x H H' → Pv i H → g x (wipe σ vs) H' fun σ2 H2 => wipe σ2 vs = wipe σ vs ∧ tt σ2 H2 fun b H3 => BrL b te D (Pv (i + 1)) σ2 H3) (hd : ∀ H, Pv n H → Qd H) :
    ∃ W : Nat → Nat → Hp → Prop, (∃ m, W 0 m (upd H1 D (.lst []))) ∧ ∀ i m H, W i m H →
      (J.stop i H ∧ Qd H) ∨ (J.go i H ∧ ∃ Nx : Hp → Prop, (∀ H', Nx H' → ∃ m', m' < m ∧ W (i + 1) m' H') ∧ ∀ x H', J.yld i H x H' → g x (wipe σ vs) H' fun σ2 H2 => wipe σ2 vs = wipe σ vs ∧ tt σ2 H2 fun b H3 =>
        if b = true then te σ2 H3 fun y H4 => ∃ acc, H4 D = some (.lst acc) ∧ acc.length < sizeLine ∧ Nx (upd H4 D (.lst (acc ++ [y]))) else Nx H3) := by
  refine ⟨fun i m H => m = n - i ∧ i ≤ n ∧ Pv i H, ⟨n, by simp, Nat.zero_le _, h0⟩, ?_⟩
  rintro i m H ⟨rfl, hi, p⟩
  by_cases hlt : i < n
  · exact .inr ⟨hgo i H hlt p, Pv (i + 1), fun H' p' => ⟨n - (i + 1), by omega, rfl, hlt, p'⟩, fun x H' y => hs i x H H' hlt (hy i H x H' hlt y) p⟩
  · have e : i = n := by omega
    subst e
    exact .inl ⟨hst H p, hd H p⟩
section
variable {K : PySem.W.Frag} {te0 te : TE} {g : TG} {tt : TT} {vs : List Nat} {σ : L2.St} {H : Hp} {Q : VK}
theorem lc_S {l : List Nat} (hv : Is te0 σ H (S l)) (Pv : Addr → Nat → Hp → Prop) (h0 : ∀ D, H D = none → Pv D 0 (upd H D (.lst [])))
    (hs : ∀ D i c H', H D = none → l[i]? = some c → Pv D i H' → g (S [c]) (wipe σ vs) H' fun σ2 H2 => wipe σ2 vs = wipe σ vs ∧ tt σ2 H2 fun b H3 => BrL b te D (Pv D (i + 1)) σ2 H3)
    (hd : ∀ D H', H D = none → Pv D l.length H' → Q (.ref D) H') : tLc (iK K te0) g tt te vs σ H Q :=
  hv _ fun D hD => lc_of (n := l.length) (fun i x H H' => H' = H ∧ ∃ c, l[i]? = some c ∧ x = S [c]) (Pv D) (fun i _ hi _ => its_go.mpr hi) (fun i H x H' _ y => its_yld.mp y) (fun _ _ => its_stop.mpr (Nat.le_refl _)) (h0 D hD)
    (fun i x H H' _ p pv => by
      obtain ⟨rfl, c, hc, rfl⟩ := p
      exact hs D i c _ hD hc pv) (fun H' p => hd D H' hD p)
theorem lc_L {a : Addr} {xs : List V} (hv : Is te0 σ H (.ref a)) (hx0 : SqL K H a xs) (Pv : Addr → Nat → Hp → Prop) (h0 : ∀ D, H D = none → Pv D 0 (upd H D (.lst [])))
    (hx : ∀ D i H', H D = none → i ≤ xs.length → Pv D i H' → SqL K H' a xs)
    (hs : ∀ D i x H', H D = none → xs[i]? = some x → Pv D i H' → g x (wipe σ vs) H' fun σ2 H2 => wipe σ2 vs = wipe σ vs ∧ tt σ2 H2 fun b H3 => BrL b te D (Pv D (i + 1)) σ2 H3)
    (hd : ∀ D H', H D = none → Pv D xs.length H' → Q (.ref D) H') : tLc (iK K te0) g tt te vs σ H Q :=
  hv _ (.inl ⟨⟨xs, hx0⟩, fun D hD => lc_list (Pv D) (h0 D hD) (fun i H' hi p => hx D i H' hD hi p) (fun i x H' hi p => hs D i x H' hD hi p) (fun H' p => hd D H' hD p)⟩)
theorem lc_T {a : Addr} {xs : List V} (hv : Is te0 σ H (.ref a)) (hx0 : SqT K H a xs) (Pv : Addr → Nat → Hp → Prop) (h0 : ∀ D, H D = none → Pv D 0 (upd H D (.lst [])))
    (hx : ∀ D i H', H D = none → i ≤ xs.length → Pv D i H' → SqT K H' a xs)
    (hs : ∀ D i x H', H D = none → xs[i]? = some x → Pv D i H' → g x (wipe σ vs) H' fun σ2 H2 => wipe σ2 vs = wipe σ vs ∧ tt σ2 H2 fun b H3 => BrL b te D (Pv D (i + 1)) σ2 H3)
    (hd : ∀ D H', H D = none → Pv D xs.length H' → Q (.ref D) H') : tLc (iK K te0) g tt te vs σ H Q :=
  hv _ (.inr ⟨⟨xs, hx0⟩, fun D hD => lc_tup (Pv D) (h0 D hD) (fun i H' hi p => hx D i H' hD hi p) (fun i x H' hi p => hs D i x H' hD hi p) (fun H' p => hd D H' hD p)⟩)
theorem lc_R {ta : TA} {n : Int} (hv : ∀ Q : List V → Hp → Prop, Q [.int n] H → ta σ H Q) (hn : n ≤ 1000000 ∧ -1000000 ≤ n) (Pv : Addr → Nat → Hp → Prop) (h0 : ∀ D, H D = none → Pv D 0 (upd H D (.lst [])))
    (hs : ∀ D i H', H D = none → i < n.toNat → Pv D i H' → g (.int (i : Nat)) (wipe σ vs) H' fun σ2 H2 => wipe σ2 vs = wipe σ vs ∧ tt σ2 H2 fun b H3 => BrL b te D (Pv D (i + 1)) σ2 H3)
    (hd : ∀ D H', H D = none → Pv D n.toNat H' → Q (.ref D) H') : tLc (iRng1 ta) g tt te vs σ H Q :=
  hv _ ⟨n, rfl, by omega, by omega, fun D hD => lc_range (lo := 0) (Pv D) (h0 D hD) (fun i H' hi p => by
    have := hs D i H' hD hi p
    rw [← Int.zero_add ((i : Nat) : Int)] at this
    exact this) (fun H' p => hd D H' hD p)⟩
end
/-! ### walks with their places -/
theorem ites_go {l : List Nat} {i : Nat} {H : Hp} : (IteS ⟨l.toArray⟩).go i H ↔ i < l.length := by simp [IteS]
theorem ites_stop {l : List Nat} {i : Nat} {H : Hp} : (IteS ⟨l.toArray⟩).stop i H ↔ l.length ≤ i := by simp [IteS]
theorem ites_yld {l : List Nat} {i : Nat} {H H' : Hp} {v : V} : (IteS ⟨l.toArray⟩).yld i H v H' ↔ ∃ T c, v = .ref T ∧ H T = none ∧ H' = upd H T (.tup [.int (i : Nat), S [c]]) ∧ l[i]? = some c := by
  simp [IteS, S]
/-! ### dicts by texts: the keys single signs -/
def ks (c : Nat) : Key := .inr ⟨#[c]⟩
theorem ks_kV (c : Nat) : kV (ks c) = S [c] := rfl
theorem ks_inj {a b : Nat} : ks a = ks b ↔ a = b := by
  constructor
  · intro h
    have h1 : (⟨#[a]⟩ : Str) = ⟨#[b]⟩ := Sum.inr.inj h
    have h2 : #[a] = #[b] := congrArg Str.cps h1
    simpa using h2
  · rintro rfl
    rfl
/-- the dict of a row of signs with texts -/
def kvs (b : List (Nat × List Nat)) : List (Key × V) := b.map fun p => (ks p.1, S p.2)
theorem valV_kvs (c : Nat) : ∀ b : List (Nat × List Nat), valV (kvs b) (ks c) = (b.lookup c).map S
  | [] => rfl
  | (d, x) :: r => by
    have ih := valV_kvs c r
    by_cases h : d = c
    · subst h
      rw [show kvs ((d, x) :: r) = (ks d, S x) :: kvs r from rfl, valV_pos rfl]
      simp [List.lookup]
    · have h2 : ¬ ks d = ks c := fun e => h (ks_inj.mp e)
      rw [show kvs ((d, x) :: r) = (ks d, S x) :: kvs r from rfl, valV_neg h2, ih]
      have h3 : (c == d) = false := beq_eq_false_iff_ne.mpr (fun e => h e.symm)
      simp [List.lookup, h3]
theorem putK_kvs {c : Nat} {x : List Nat} {b : List (Nat × List Nat)} (h : b.lookup c = none) : putK (kvs b) (ks c) (S x) = kvs (b ++ [(c, x)]) := by
  have h1 : ((kvs b).any fun kv => decide (kv.1 = ks c)) = false := by
    rw [valV_any, valV_kvs, h]
    rfl
  unfold putK
  rw [if_neg (by rw [h1]; exact Bool.false_ne_true)]
  simp [kvs]
theorem kvs_len (b : List (Nat × List Nat)) : (kvs b).length = b.length := by simp [kvs]
/-! ### join -/
theorem joinL_nil : ∀ ls : List (List Nat), TL.joinL [] ls = ls.flatten
  | [] => rfl
  | [p] => by simp [TL.joinL]
  | p :: q :: r => by
    show p ++ ([] ++ TL.joinL [] (q :: r)) = _
    rw [joinL_nil (q :: r)]
    simp
def kJoin (K : PySem.W.Frag) : V → List V → Hp → VK → Prop := fun x xs H Q => ∃ a p, ∃ ys : List Str, x = .str a ∧ xs = [.ref p] ∧ (SqL K H p (ys.map V.str) ∨ SqT K H p (ys.map V.str)) ∧
  (ys.map (·.length)).sum + ys.length * a.length ≤ 16777216 ∧ Q (.str (Txt.join a ys)) H
theorem join_run {K : PySem.W.Frag} {H : Hp} {Q : VK} {a : List Nat} {p : Addr} {ls : List (List Nat)} (h : SqL K H p (ls.map S) ∨ SqT K H p (ls.map S)) (hz : (ls.map (·.length)).sum + ls.length * a.length ≤ 1000000) (q : Q (S (TL.joinL a ls)) H) : kJoin K (S a) [.ref p] H Q := by
  have e : ls.map S = (ls.map SX.S).map V.str := by rw [List.map_map]; rfl
  refine ⟨SX.S a, p, ls.map SX.S, rfl, rfl, by rw [← e]; exact h, ?_, ?_⟩
  · rw [SX.lens, List.length_map, SX.S_len]
    omega
  · rw [SX.join_S]
    exact q
section
variable {σ : L2.St} {H : Hp} {Q : VK} {to te td ty tx : TE} {K : PySem.W.Frag}
theorem g_M1 {r : V → List V → Hp → VK → Prop} : tM1 r to te σ H Q = to σ H fun x H1 => (∃ a, x = .str a) ∧ te σ H1 fun y H2 => r x [y] H2 Q := rfl
theorem g_dget2 : tDGet2 td ty tx σ H Q = td σ H fun x H1 => ∃ a, x = .ref a ∧ IsD H1 a ∧ ty σ H1 fun y H2 => tx σ H2 fun z H3 => ∃ o, DGet H3 a y o ∧ Q (o.getD z) H3 := rfl
theorem g_isS {l : List Nat} : (∃ a, S l = .str a) ↔ True := ⟨fun _ => trivial, fun _ => ⟨_, rfl⟩⟩
end
end KG

end

section
set_option maxHeartbeats 1000000
/-! KGenGo: readings of generator bodies at their place; their loops; walks with places. -/
namespace KG
open PySem PySem.Spec PyProof.Rows L2 GenW

def BrG (b : Bool) (t u : TGn) : TGn := fun D ys σ H => if b = true then t D ys σ H else u D ys σ H
section
variable {t u : TGn} {ts : TS} {D : GEnds} {ys : List V} {σ : L2.St} {H : Hp} {c : TT} {te : TE} {yl : List V → V → Hp → Prop} {p : Prop} [Decidable p] {b : Bool}
theorem b_Gt : BrG true t u D ys σ H = t D ys σ H := if_pos rfl
theorem b_Gf : BrG false t u D ys σ H = u D ys σ H := if_neg Bool.false_ne_true
theorem br_G (h1 : p → t D ys σ H) (h2 : ¬ p → u D ys σ H) : BrG (decide p) t u D ys σ H := by
  by_cases h : p
  · rw [decide_eq_true h, b_Gt]; exact h1 h
  · rw [decide_eq_false h, b_Gf]; exact h2 h
theorem k_then : tGThen t u D ys σ H = t { D with nx := fun ys' σ' H' => u D ys' σ' H' } ys σ H := rfl
theorem k_0 : tG0 D ys σ H = D.nx ys σ H := rfl
theorem k_plain : tPlain ts D ys σ H = ts { nx := D.nx ys, rt := D.rt ys, bk := D.bk ys, ct := D.ct ys } σ H := rfl
theorem k_if : tGIf c t u D ys σ H = c σ H fun b H1 => BrG b t u D ys σ H1 := rfl
theorem k_yield : tKYield yl te D ys σ H = (ys.length < sizeLine ∧ te σ H fun x H1 => yl ys x H1 ∧ D.nx (ys ++ [x]) σ H1) := rfl
end
theorem kloop_of {J : It} {n : Nat} {g : TG} {tb : TGn} {D : GEnds} {ys : List V} {σ : L2.St} {H : Hp} (P : Nat → V → Hp → Hp → Prop) (Pv : Nat → List V → L2.St → Hp → Prop)
    (hgo : ∀ i ys σ H, i < n → Pv i ys σ H → J.go i H) (hy : ∀ i H x H', i < n → J.yld i H x H' → P i x H H') (hst : ∀ ys σ H, Pv n ys σ H → J.stop n H) (h0 : Pv 0 ys σ H)
    (hs : ∀ i x ys σ H H', i < n → P i x H H' → Pv i ys σ H → g x σ H' fun σ2 H2 => tb { D with nx := Pv (i + 1), ct := Pv (i + 1), bk := D.nx } ys σ2 H2) (hd : ∀ ys σ H, Pv n ys σ H → D.nx ys σ H) :
    ∃ W : Nat → Nat → List V → L2.St → Hp → Prop, (∃ m, W 0 m ys σ H) ∧ ∀ i m ys σ H, W i m ys σ H →
      (J.stop i H ∧ D.nx ys σ H) ∨ (J.go i H ∧ ∃ N : List V → L2.St → Hp → Prop, (∀ ys' σ' H', N ys' σ' H' → ∃ m', m' < m ∧ W (i + 1) m' ys' σ' H') ∧ ∀ x H', J.yld i H x H' → g x σ H' fun σ2 H2 => tb { D with nx := N, ct := N, bk := D.nx } ys σ2 H2) := by
  refine ⟨fun i m ys σ H => m = n - i ∧ i ≤ n ∧ Pv i ys σ H, ⟨n, by simp, Nat.zero_le _, h0⟩, ?_⟩
  rintro i m ys σ H ⟨rfl, hi, p⟩
  by_cases hlt : i < n
  · exact .inr ⟨hgo i ys σ H hlt p, Pv (i + 1), fun ys' σ' H' p' => ⟨n - (i + 1), by omega, rfl, hlt, p'⟩, fun x H' y => hs i x ys σ H H' hlt (hy i H x H' hlt y) p⟩
  · have e : i = n := by omega
    subst e
    exact .inl ⟨hst ys σ H p, hd ys σ H p⟩
/-- for i, x in enumerate(s), in a generator: s a text -/
theorem kloop_eS {ta : TA} {l : List Nat} {g : TG} {tb : TGn} {D : GEnds} {ys : List V} {σ : L2.St} {H : Hp} (hv : ∀ Q : List V → Hp → Prop, Q [S l] H → ta σ H Q) (Pv : Nat → List V → L2.St → Hp → Prop) (h0 : Pv 0 ys σ H)
    (hs : ∀ i c ys σ H T, l[i]? = some c → H T = none → Pv i ys σ H → g (.ref T) σ (upd H T (.tup [.int (i : Nat), S [c]])) fun σ2 H2 => tb { D with nx := Pv (i + 1), ct := Pv (i + 1), bk := D.nx } ys σ2 H2)
    (hd : ∀ ys σ H, Pv l.length ys σ H → D.nx ys σ H) : tGFor (iEnumS ta) g tb D ys σ H :=
  hv _ ⟨⟨l.toArray⟩, rfl, kloop_of (n := l.length) (fun i x H H' => ∃ T c, x = .ref T ∧ H T = none ∧ H' = upd H T (.tup [.int (i : Nat), S [c]]) ∧ l[i]? = some c) Pv (fun i _ _ _ hi _ => ites_go.mpr hi) (fun i H x H' _ y => ites_yld.mp y)
    (fun _ _ _ _ => ites_stop.mpr (Nat.le_refl _)) h0 (fun i x ys σ H H' _ p pv => by
      obtain ⟨T, c, rfl, hT, rfl, hc⟩ := p
      exact hs i c ys σ H T hc hT pv) hd⟩
/-- for i, x in enumerate(t), in a generator: t a tuple -/
theorem kloop_eT {K : PySem.W.Frag} {ta : TA} {a : Addr} {xs : List V} {g : TG} {tb : TGn} {D : GEnds} {ys : List V} {σ : L2.St} {H : Hp} (hv : ∀ Q : List V → Hp → Prop, Q [.ref a] H → ta σ H Q) (Pv : Nat → List V → L2.St → Hp → Prop) (h0 : Pv 0 ys σ H)
    (hx : ∀ i ys σ H, Pv i ys σ H → SqT K H a xs)
    (hs : ∀ i x ys σ H T, xs[i]? = some x → H T = none → Pv i ys σ H → g (.ref T) σ (upd H T (.tup [.int (i : Nat), x])) fun σ2 H2 => tb { D with nx := Pv (i + 1), ct := Pv (i + 1), bk := D.nx } ys σ2 H2)
    (hd : ∀ ys σ H, Pv xs.length ys σ H → D.nx ys σ H) : tGFor (iEnumT K ta) g tb D ys σ H := by
  refine hv _ ⟨a, xs, rfl, hx 0 ys σ H h0, ?_⟩
  refine kloop_of (n := xs.length) (fun i x H H' => ∃ T y, x = .ref T ∧ H T = none ∧ H' = upd H T (.tup [.int (i : Nat), y]) ∧ ∀ xs, SqT K H a xs → xs[i]? = some y) Pv (fun i ys σ H hi p => ⟨xs, xs[i], hx i ys σ H p, by simp [hi]⟩) (fun i H x H' _ y => y)
    (fun ys σ H p => ⟨xs, hx _ ys σ H p, Nat.le_refl _⟩) h0 (fun i x ys σ H H' _ p pv => ?_) hd
  obtain ⟨T, y, rfl, hT, rfl, hy⟩ := p
  exact hs i y ys σ H T (hy xs (hx i ys σ H pv)) hT pv
/-- THE RULE of a generator def, by the words -/
theorem gen_ok {P : Program} {w : World} {K : PySem.W.Frag} {mg : Str → Option Value} {base : Heap} {k : Nat} {x qual : Str} {st : Stmt} {f : Addr} {fd : FuncData} {N ps : List Str} {sp : SpK} (F : Fun K x qual st f fd) (S : GScope N ps (defScope st))
    (len : ∀ vs H yl Q E, sp vs H yl Q E → vs.length = ps.length)
    (hbody : ∀ (cdv : Value) (A : Around) (outer : List Env) (sc : Shared) (Hs : Hp) (vs : List V) (yl : List V → V → Hp → Prop) (Q : List V → Hp → Prop) (E : XK) (a : Addr) (go : Obj) (Ss : List Addr) (Gh : List V → Heap → Prop),
      Room k (A.deeper (envOfC qual (defScope st) sc.heap.objs.size f cdv)) → Run.Good ⟨konOf P w K mg base N (envOfC qual (defScope st) sc.heap.objs.size f cdv) outer Hs E sc A, a, go, Ss, Gh, yl⟩ → sp vs Hs yl Q E →
      ∃ t, KSs ⟨konOf P w K mg base N (envOfC qual (defScope st) sc.heap.objs.size f cdv) outer Hs E sc A, a, go, Ss, Gh, yl⟩ (defBody st) t ∧ t { nx := fun ys _ H' => Q ys H', rt := fun ys v H' => v = .non ∧ Q ys H' } [] (L2.start N vs) Hs) :
    KFn P w K mg base (k + 1) f fd ps sp := by
  obtain ⟨oc, od, kV, doc, pm, an, cdv, ct, osl, rfl, lk, hcd⟩ := F.ex
  exact kfn_of lk hcd S len fun A outer sc Hs vs yl Q E a go Ss Gh hr rg hsp => hbody cdv A outer sc Hs vs yl Q E a go Ss Gh hr rg hsp
theorem rx_K {G : Kon} {a : Addr} {go : Obj} {Ss : List Addr} {Gh : List V → Heap → Prop} {yl : List V → V → Hp → Prop} {s : Shared} : (Run.X ⟨G, a, go, Ss, Gh, yl⟩ s).K = G.K := rfl
theorem kon_K {P : Program} {w : World} {K : PySem.W.Frag} {mg : Str → Option Value} {base : Heap} {N : List Str} {env : Env} {outer : List Env} {Hs : Hp} {E : XK} {sc : Shared} {A : Around} : (konOf P w K mg base N env outer Hs E sc A).K = K := rfl
theorem g_never {D : Ends} {σ : L2.St} {H : Hp} : tNever D σ H = False := rfl
theorem g_tupK {tg : TKG} {σ : L2.St} {H : Hp} {Qv : VK} : tTupK tg σ H Qv = tg σ H fun H1 yl Q => ∀ ys H' Hm p, Q ys H' → ys.length ≤ sizeLine → Evl.Ex H1 Hm → Evl.Ex H' Hm → Hm p = none → Qv (.ref p) (upd Hm p (.tup ys)) := rfl
theorem g_listK {tg : TKG} {σ : L2.St} {H : Hp} {Qv : VK} : tListK tg σ H Qv = tg σ H fun H1 yl Q => ∀ ys H' Hm p, Q ys H' → ys.length ≤ sizeLine → Evl.Ex H1 Hm → Evl.Ex H' Hm → Hm p = none → Qv (.ref p) (upd Hm p (.lst ys)) := rfl
theorem g_KCall {sp : SpK} {t : TA} {σ : L2.St} {H : Hp} {C : Hp → (List V → V → Hp → Prop) → (List V → Hp → Prop) → Prop} : tKCall sp t σ H C = t σ H fun vs H1 => ∃ yl Q Hs, Shares H1 Hs ∧ sp vs Hs yl Q E0 ∧ C H1 yl Q := rfl
theorem g_for1 {tg : TKG} {g : TG} {tb : TS} {D : Ends} {σ : L2.St} {H : Hp} : tFor1 tg g tb D σ H = tg σ H fun H1 yl Q =>
  (∀ H' Hm, Q [] H' → Evl.Ex H1 Hm → Evl.Ex H' Hm → D.nx σ Hm) ∧
  (∀ x H' Hm, yl [] x H' → Evl.Ex H1 Hm → Evl.Ex H' Hm → g x σ Hm fun σ2 H2 => tb { D with nx := fun _ _ => False, ct := fun _ _ => False, bk := D.nx } σ2 H2) := rfl
/-- targets: a pair's names -/
theorem g_unpack {K : PySem.W.Frag} {gs : TGs} {n : Nat} {T : Addr} {xs : List V} {σ : L2.St} {H : Hp} {Q : L2.St → Hp → Prop} (h : SqT K H T xs) (hn : xs.length = n) (q : gs xs σ H Q) : gTup K n gs (.ref T) σ H Q := ⟨T, xs, rfl, h, hn, q⟩
/-- a tuple of the written part -/
def KTup (K : PySem.W.Frag) (a : Addr) (xs : List V) : Prop := ∃ (o : Obj) (its : Array Value) (n : Nat), K.lookup a = some o ∧ o.cls = .type "tuple" ∧ o.data = .seq its n ∧ its.size ≤ sizeLine ∧ Vals xs its.toList
theorem KTup.sq {K : PySem.W.Frag} {H : Hp} {a : Addr} {xs : List V} (h : KTup K a xs) : SqT K H a xs := .inr h
end KG

end

section
set_option maxHeartbeats 1000000
/-! KK: the rules whose readings name the written part, with its name K told (h by rfl). -/
namespace KG
open PySem PySem.Spec PyProof.Rows L2
section
variable {X : Cx} {K : PySem.W.Frag} {k : Nat}
theorem kk_add (h : X.K = K) : OpR X (binaryOp .Add) (kAdd K) := h ▸ op_kAdd
theorem kk_mul (h : X.K = K) : OpR X (binaryOp .Mult) (kMul K) := h ▸ op_kMul
theorem kk_eq (h : X.K = K) (hr : Room k X.A) : OpR X (compareOp .Eq) (kEq K) := h ▸ op_kEq hr
theorem kk_ne (h : X.K = K) (hr : Room k X.A) : OpR X (compareOp .NotEq) (kNe K) := h ▸ op_kNe hr
theorem kk_in (h : X.K = K) (hr : Room k X.A) : OpR X (compareOp .In) (kIn K) := h ▸ op_kIn hr
theorem kk_notin (h : X.K = K) (hr : Room k X.A) : OpR X (compareOp .NotIn) (kNotIn K) := h ▸ op_kNotIn hr
theorem kk_len (h : X.K = K) : CallR X (.builtin "len") (kLen K) := h ▸ call_kLen
theorem kk_isi (h : X.K = K) : CallR X (.builtin "isinstance") (kIsi K) := h ▸ call_kIsi
theorem kk_repr (h : X.K = K) (hr : Room k X.A) (ns : NoShow X.A) : CallR X (.builtin "repr") (rRepr K) := h ▸ call_repr hr ns
theorem kk_ix (h : X.K = K) : IxR X (kIx K) := h ▸ ix_k
theorem kk_sl (h : X.K = K) : SlR X (kSl K) := h ▸ sl_k
def kTupOf (K : PySem.W.Frag) : List V → Hp → VK → Prop := fun xs H Q => ∃ p ys, xs = [.ref p] ∧ ((SqL K H p ys ∧ ∀ l, H l = none → Q (.ref l) (upd H l (.tup ys))) ∨ (SqT K H p ys ∧ Q (.ref p) H))
theorem kk_tupOf (h : X.K = K) : CallR X (.type "tuple") (kTupOf K) := h ▸ call_tuple_of
def kListOf (K : PySem.W.Frag) : List V → Hp → VK → Prop := fun xs H Q => ∃ p ys, xs = [.ref p] ∧ (SqL K H p ys ∨ SqT K H p ys) ∧ ∀ l, H l = none → Q (.ref l) (upd H l (.lst ys))
theorem kk_listOf (h : X.K = K) : CallR X (.type "list") (kListOf K) := h ▸ call_list_of
theorem kk_pi {tg e : Expr} {te : TE} (h : X.K = K) (he : PE X e te) : PI X tg e (iK K te) := h ▸ pi_k he
theorem kk_piT {tg e : Expr} {ta : TA} (h : X.K = K) (hp : PI X tg e (iEnumT X.K ta)) : PI X tg e (iEnumT K ta) := h ▸ hp
theorem kk_gtup {e : Expr} {n : Nat} {t : TGs} (h : X.K = K) (hp : PG X e (gTup X.K n t)) : PG X e (gTup K n t) := h ▸ hp
theorem kk_bm {e : Expr} {T : String} {r : V → List V → Hp → VK → Prop} {to : TE} {t : TA} (h : X.K = K) (hp : PE X e (tBM X.K T r to t)) : PE X e (tBM K T r to t) := h ▸ hp
def tTruK (K : PySem.W.Frag) (ta : TE) : TT := fun σ H Q => ta σ H fun x H' => ∃ k, TruV K x H' k ∧ Q k H'
theorem kk_tru {a : Expr} {ta : TE} (h : X.K = K) (hp : PT X a (fun σ H Q => ta σ H fun x H' => ∃ k, TruV X.K x H' k ∧ Q k H')) : PT X a (tTruK K ta) := h ▸ hp
theorem kk_join {e : Expr} {to te : TE} (h : X.K = K) (hp : PE X e (tM1 (kJoin X.K) to te)) : PE X e (tM1 (kJoin K) to te) := h ▸ hp
theorem g_tru {σ : L2.St} {H : Hp} {Qb : Bool → Hp → Prop} {ta : TE} : tTruK K ta σ H Qb = ta σ H fun x H' => ∃ k, TruV K x H' k ∧ Qb k H' := rfl
/-! ### scalar built-ins by values -/
def kAbs : List V → Hp → VK → Prop := fun xs H Q => match xs with
  | [.int i] => Q (.int (if i < 0 then -i else i)) H
  | _ => False
theorem call_kAbs : CallR X (.builtin "abs") kAbs := by
  intro pins s σ H xs us Q I r h
  match xs, r, h with
  | [.int i], r, h => exact call_abs pins s σ H _ us Q I r ⟨i, rfl, h⟩
theorem kAbs_i {i : Int} {H : Hp} {Q : VK} : kAbs [.int i] H Q ↔ Q (.int (if i < 0 then -i else i)) H := Iff.rfl
def kMax : List V → Hp → VK → Prop := fun xs H Q => match xs with
  | [.int i, .int j] => Q (.int (if j > i then j else i)) H
  | _ => False
theorem call_kMax (hc : X.calm = true) : CallR X (.builtin "max") kMax := by
  intro pins s σ H xs us Q I r h
  match xs, r, h with
  | [.int i, .int j], r, h => exact call_max2 hc pins s σ H _ us Q I r ⟨i, j, rfl, h⟩
theorem kMax_i {i j : Int} {H : Hp} {Q : VK} : kMax [.int i, .int j] H Q ↔ Q (.int (if j > i then j else i)) H := Iff.rfl
def kMin : List V → Hp → VK → Prop := fun xs H Q => match xs with
  | [.int i, .int j] => Q (.int (if j < i then j else i)) H
  | _ => False
theorem call_kMin (hc : X.calm = true) : CallR X (.builtin "min") kMin := by
  intro pins s σ H xs us Q I r h
  match xs, r, h with
  | [.int i, .int j], r, h => exact call_min2 hc pins s σ H _ us Q I r ⟨i, j, rfl, h⟩
theorem kMin_i {i j : Int} {H : Hp} {Q : VK} : kMin [.int i, .int j] H Q ↔ Q (.int (if j < i then j else i)) H := Iff.rfl
def kIntOf : List V → Hp → VK → Prop := fun xs H Q => match xs with
  | [.int i] => Q (.int i) H
  | [.bl k] => Q (.int (if k then 1 else 0)) H
  | _ => False
theorem call_kInt : CallR X (.type "int") kIntOf := by
  intro pins s σ H xs us Q I r h
  match xs, r, h with
  | [.int i], r, h => exact call_int1 pins s σ H _ us Q I r (.inl ⟨i, rfl, h⟩)
  | [.bl k], r, h => exact call_int1 pins s σ H _ us Q I r (.inr ⟨k, rfl, h⟩)
theorem kIntOf_i {i : Int} {H : Hp} {Q : VK} : kIntOf [.int i] H Q ↔ Q (.int i) H := Iff.rfl
theorem kIntOf_b {b : Bool} {H : Hp} {Q : VK} : kIntOf [.bl b] H Q ↔ Q (.int (if b then 1 else 0)) H := Iff.rfl
theorem g_sub {to ti : TE} {f : TSet} {v : V} {σ : L2.St} {H : Hp} {Q : L2.St → Hp → Prop} : gSub to ti f v σ H Q = to σ H fun o H1 => ti σ H1 fun i H2 => f o i v H2 fun H3 => Q σ H3 := rfl
theorem ixL {p : Addr} {xs : List V} {i : Int} {v : V} {H : Hp} {Q : VK} (h : SqL K H p xs) (e : atI xs i = some v) (q : Q v H) : kIx K (.ref p) (.int i) H Q := ⟨xs, v, .inl h, e, q⟩
theorem ixT {p : Addr} {xs : List V} {i : Int} {v : V} {H : Hp} {Q : VK} (h : SqT K H p xs) (e : atI xs i = some v) (q : Q v H) : kIx K (.ref p) (.int i) H Q := ⟨xs, v, .inr h, e, q⟩
theorem lenL {p : Addr} {xs : List V} {H : Hp} {Q : VK} (h : SqL K H p xs) (q : Q (.int xs.length) H) : kLen K [.ref p] H Q := .inl ⟨xs, .inl h, q⟩
theorem lenT {p : Addr} {xs : List V} {H : Hp} {Q : VK} (h : SqT K H p xs) (q : Q (.int xs.length) H) : kLen K [.ref p] H Q := .inl ⟨xs, .inr h, q⟩
theorem setL {p : Addr} {xs : List V} {i : Int} {j : Nat} {v : V} {H : Hp} {Q : Hp → Prop} (h : H p = some (.lst xs)) (e : ixN xs.length i = some j) (q : Q (upd H p (.lst (xs.set j v)))) : rSetL (.ref p) (.int i) v H Q := ⟨p, xs, i, j, rfl, rfl, h, e, q⟩
end
/-! ### a heap where the dice alone have turned -/
def Dc (H : Hp) (d : Addr) : Prop := ∃ a b c : Int, H d = some (.lst [.int a, .int b, .int c])
structure Fx (d : Addr) (H H' : Hp) : Prop where
  keep : ∀ b o, b ≠ d → H b = some o → H' b = some o
  dc : Dc H' d
theorem Dc.ex {H H' : Hp} {d : Addr} (e : Evl.Ex H H') (h : Dc H d) : Dc H' d := let ⟨a, b, c, h⟩ := h; ⟨a, b, c, e _ _ h⟩
theorem Fx.refl {d : Addr} {H : Hp} (h : Dc H d) : Fx d H H := ⟨fun _ _ _ e => e, h⟩
theorem Fx.of {d : Addr} {H H' : Hp} (h : Dc H d) (e : Evl.Ex H H') : Fx d H H' := ⟨fun b o _ q => e b o q, h.ex e⟩
theorem Fx.trans {d : Addr} {H H1 H2 : Hp} (a : Fx d H H1) (b : Fx d H1 H2) : Fx d H H2 := ⟨fun c o h q => b.keep c o h (a.keep c o h q), b.dc⟩
theorem Fx.upd {d : Addr} {H : Hp} {a b c : Int} : Fx d H (upd H d (.lst [.int a, .int b, .int c])) := ⟨fun e o h q => by rw [upd_ne h]; exact q, a, b, c, upd_same⟩
theorem Fx.l {d p : Addr} {H H' : Hp} {K : PySem.W.Frag} {xs : List V} (f : Fx d H H') (h : p ≠ d) (q : SqL K H p xs) : SqL K H' p xs := by
  rcases q with (q | ⟨o, q⟩) | q
  · exact .inl (.inl (f.keep _ _ h q))
  · exact .inl (.inr ⟨o, f.keep _ _ h q⟩)
  · exact .inr q
theorem Fx.t {d p : Addr} {H H' : Hp} {K : PySem.W.Frag} {xs : List V} (f : Fx d H H') (h : p ≠ d) (q : SqT K H p xs) : SqT K H' p xs := by
  rcases q with (q | ⟨o, q⟩) | q
  · exact .inl (.inl (f.keep _ _ h q))
  · exact .inl (.inr ⟨o, f.keep _ _ h q⟩)
  · exact .inr q
/-- a thing that stands (not the dice) -/
theorem Dc.ne {H : Hp} {d p : Addr} {o : HO} (h : Dc H d) (e : H p = some o) (z : ∀ a b c : Int, o ≠ .lst [.int a, .int b, .int c]) : p ≠ d := by
  obtain ⟨a, b, c, h⟩ := h
  exact ne_of e h (z a b c)
/-! ### a heap where one list alone has grown -/
def Mx (p : Addr) (H H' : Hp) : Prop := ∀ b o, b ≠ p → H b = some o → H' b = some o
theorem Mx.refl {p : Addr} {H : Hp} : Mx p H H := fun _ _ _ e => e
theorem Mx.trans {p : Addr} {H H1 H2 : Hp} (a : Mx p H H1) (b : Mx p H1 H2) : Mx p H H2 := fun c o h q => b c o h (a c o h q)
theorem Mx.of {p : Addr} {H H' : Hp} (e : Evl.Ex H H') : Mx p H H' := fun b o _ q => e b o q
theorem Mx.upd {p : Addr} {H : Hp} {o : HO} : Mx p H (upd H p o) := fun b u h q => by rw [upd_ne h]; exact q
theorem Mx.ex {p : Addr} {H H' : Hp} {o : HO} (m : Mx p (L2.upd H p o) H') (hp : H p = none) : Evl.Ex H H' := fun b u q => by
  have h : b ≠ p := fun z => by rw [z, hp] at q; cases q
  exact m b u h (by rw [upd_ne h]; exact q)
/-- things that stand outside of p -/
theorem Mx.at {p q : Addr} {H H' : Hp} {o o' : HO} (m : Mx p H H') (hp : H p = some o) (hq : H q = some o') (ne : o ≠ o') : H' q = some o' := m q o' (fun z => ne (by rw [z, hp] at hq; exact Option.some.inj hq)) hq
end KG

end

section
set_option maxHeartbeats 1000000
/-! KConf: every way down ends in the same form. -/
namespace KT

/-- the product of two forms, brought down -/
def mul (x y : T) : T :=
  match red (.nd x y) with
  | [] => .nd x y
  | (_, u) :: _ => u
def nf : T → T
  | .lf c => .lf c
  | .nd a b => mul (nf a) (nf b)
/-- no rule applies anywhere -/
def isNf : T → Bool
  | .lf _ => true
  | .nd a b => isNf a && isNf b && (red (.nd a b)).isEmpty
theorem isNf_nd {a b : T} : isNf (.nd a b) = true ↔ isNf a = true ∧ isNf b = true ∧ red (.nd a b) = [] := by
  simp [isNf, and_assoc]
/-- what a rule gives at a product of forms is a form -/
theorem red_nf {a b u : T} {r : Nat} (ha : isNf a = true) (hb : isNf b = true) (h : (r, u) ∈ red (.nd a b)) : isNf u = true := by
  unfold red at h
  rcases List.mem_append.mp h with h | h
  · obtain ⟨x, y, z, e, _, rfl⟩ := red1_mem.mp h
    cases e
    exact (isNf_nd.mp ha).2.1
  · rcases List.mem_append.mp h with h | h
    · obtain ⟨x, y, z, e, _, rfl⟩ := red2_mem.mp h
      cases e
      exact (isNf_nd.mp hb).1
    · obtain ⟨x, y, z, e, _, rfl⟩ := red3_mem.mp h
      cases e
      exact (isNf_nd.mp ha).2.1
theorem mul_nf {a b : T} (ha : isNf a = true) (hb : isNf b = true) : isNf (mul a b) = true := by
  unfold mul
  split
  · rename_i e
    exact isNf_nd.mpr ⟨ha, hb, e⟩
  · rename_i r u l e
    exact red_nf ha hb (by rw [e]; exact List.mem_cons_self ..)
theorem nf_nf : ∀ t : T, isNf (nf t) = true
  | .lf _ => rfl
  | .nd a b => mul_nf (nf_nf a) (nf_nf b)
theorem nf_id : ∀ {t : T}, isNf t = true → nf t = t
  | .lf _, _ => rfl
  | .nd a b, h => by
    obtain ⟨ha, hb, e⟩ := isNf_nd.mp h
    show mul (nf a) (nf b) = _
    rw [nf_id ha, nf_id hb]
    unfold mul
    rw [e]
/-- the cases of a product -/
theorem mul_cases (x y : T) : (mul x y = .nd x y ∧ red (.nd x y) = []) ∨ (∃ a b c, x = .nd a b ∧ y = .nd b c ∧ mul x y = b) ∨ (∃ b c, y = .nd (.nd x b) c ∧ mul x y = .nd x b) ∨ (∃ a b, x = .nd a (.nd b y) ∧ mul x y = .nd b y) := by
  unfold mul
  split
  · rename_i e
    exact .inl ⟨rfl, e⟩
  · rename_i r u l e
    have h : (r, u) ∈ red (.nd x y) := by rw [e]; exact List.mem_cons_self ..
    refine .inr ?_
    unfold red at h
    rcases List.mem_append.mp h with h | h
    · obtain ⟨a, b, c, e2, _, rfl⟩ := red1_mem.mp h
      cases e2
      exact .inl ⟨_, _, _, rfl, rfl, rfl⟩
    · rcases List.mem_append.mp h with h | h
      · obtain ⟨a, b, c, e2, _, rfl⟩ := red2_mem.mp h
        cases e2
        exact .inr (.inl ⟨_, _, rfl, rfl⟩)
      · obtain ⟨a, b, c, e2, _, rfl⟩ := red3_mem.mp h
        cases e2
        exact .inr (.inr ⟨_, _, rfl, rfl⟩)
/-- whichever rule applies, the first one told is the product -/
theorem red_uniq {x y : T} (hx : isNf x = true) (hy : isNf y = true) {r s : Nat} {u v : T} (h : (r, u) ∈ red (.nd x y)) (h' : (s, v) ∈ red (.nd x y)) : u = v := by
  have key : ∀ {r u}, (r, u) ∈ red (.nd x y) → (∃ a b c, x = .nd a b ∧ y = .nd b c ∧ u = b) ∨ (∃ b c, y = .nd (.nd x b) c ∧ u = .nd x b) ∨ (∃ a b, x = .nd a (.nd b y) ∧ u = .nd b y) := by
    intro r u h
    unfold red at h
    rcases List.mem_append.mp h with h | h
    · obtain ⟨a, b, c, e2, _, rfl⟩ := red1_mem.mp h
      cases e2
      exact .inl ⟨_, _, _, rfl, rfl, rfl⟩
    · rcases List.mem_append.mp h with h | h
      · obtain ⟨a, b, c, e2, _, rfl⟩ := red2_mem.mp h
        cases e2
        exact .inr (.inl ⟨_, _, rfl, rfl⟩)
      · obtain ⟨a, b, c, e2, _, rfl⟩ := red3_mem.mp h
        cases e2
        exact .inr (.inr ⟨_, _, rfl, rfl⟩)
  have sz1 : ∀ {a b : T}, sz (.nd a b) = sz a + sz b := fun {_ _} => rfl
  rcases key h with ⟨a, b, c, e1, e2, e3⟩ | ⟨b, c, e1, e2⟩ | ⟨a, b, e1, e2⟩ <;> rcases key h' with ⟨a', b', c', f1, f2, f3⟩ | ⟨b', c', f1, f2⟩ | ⟨a', b', f1, f2⟩
  · subst e1; cases f1; rw [e3, f3]
  · -- x = a b, y = b c = (x b') c': b = x b', so x = a (x b'): too long
    subst e1; subst e2
    injection f1 with f1 _
    have := congrArg sz f1
    have := sz_pos a; have := sz_pos b'
    simp only [sz] at *
    omega
  · subst e1; subst e2
    injection f1 with _ f1
    have := congrArg sz f1
    have := sz_pos b'; have := sz_pos c
    simp only [sz] at *
    omega
  · subst f1; subst f2
    injection e1 with e1 _
    have := congrArg sz e1
    have := sz_pos a'; have := sz_pos b
    simp only [sz] at *
    omega
  · rw [e1] at f1
    injection f1 with f1 _
    injection f1 with _ f1
    rw [e2, f2, f1]
  · -- y = (x b) c, x = a' (b' y)
    have h1 := congrArg sz e1
    have h2 := congrArg sz f1
    have := sz_pos b; have := sz_pos c; have := sz_pos a'; have := sz_pos b'
    simp only [sz] at *
    omega
  · subst f1; subst f2
    injection e1 with _ e1
    have := congrArg sz e1
    have := sz_pos b; have := sz_pos c'
    simp only [sz] at *
    omega
  · have h1 := congrArg sz e1
    have h2 := congrArg sz f1
    have := sz_pos b'; have := sz_pos c'; have := sz_pos a; have := sz_pos b
    simp only [sz] at *
    omega
  · rw [e1] at f1
    injection f1 with _ f1
    injection f1 with f1 _
    rw [e2, f2, f1]
theorem mul_red {x y u : T} {r : Nat} (hx : isNf x = true) (hy : isNf y = true) (h : (r, u) ∈ red (.nd x y)) : mul x y = u := by
  unfold mul
  split
  · rename_i e
    rw [e] at h
    cases h
  · rename_i s v l e
    exact red_uniq hx hy (by rw [e]; exact List.mem_cons_self ..) h
theorem mul1 {a b c : T} (hx : isNf (.nd a b) = true) (hy : isNf (.nd b c) = true) : mul (.nd a b) (.nd b c) = b := mul_red (r := 1) hx hy (by simp [red, red1])
theorem mul2 {x b c : T} (hx : isNf x = true) (hy : isNf (.nd (.nd x b) c) = true) : mul x (.nd (.nd x b) c) = .nd x b := mul_red (r := 2) hx hy (by simp [red, red2])
theorem mul3 {a b y : T} (hx : isNf (.nd a (.nd b y)) = true) (hy : isNf y = true) : mul (.nd a (.nd b y)) y = .nd b y := mul_red (r := 3) hx hy (by simp [red, red3])
theorem mul_left {x y : T} (hx : isNf x = true) (hy : isNf y = true) : (∃ p, mul x y = .nd p y ∧ isNf (.nd p y) = true) ∨ ∃ c, y = .nd (mul x y) c := by
  rcases mul_cases x y with ⟨e, h⟩ | ⟨a, b, c, rfl, rfl, e⟩ | ⟨b, c, rfl, e⟩ | ⟨a, b, rfl, e⟩
  · exact .inl ⟨x, e, isNf_nd.mpr ⟨hx, hy, h⟩⟩
  · exact .inr ⟨c, by rw [e]⟩
  · exact .inr ⟨c, by rw [e]⟩
  · exact .inl ⟨b, e, (isNf_nd.mp hx).2.1⟩
theorem mul_right {y z : T} (hy : isNf y = true) (hz : isNf z = true) : (∃ r, mul y z = .nd y r ∧ isNf (.nd y r) = true) ∨ ∃ q, y = .nd q (mul y z) := by
  rcases mul_cases y z with ⟨e, h⟩ | ⟨a, b, c, rfl, rfl, e⟩ | ⟨b, c, rfl, e⟩ | ⟨a, b, rfl, e⟩
  · exact .inl ⟨z, e, isNf_nd.mpr ⟨hy, hz, h⟩⟩
  · exact .inr ⟨a, by rw [e]⟩
  · exact .inl ⟨b, e, (isNf_nd.mp hz).1⟩
  · exact .inr ⟨a, by rw [e]⟩
theorem mul_irr {a b : T} (h : isNf (.nd a b) = true) : mul a b = .nd a b := by
  unfold mul
  rw [(isNf_nd.mp h).2.2]
/-- THE LAW of central groupoids, at forms -/
theorem central {x y z : T} (hx : isNf x = true) (hy : isNf y = true) (hz : isNf z = true) : mul (mul x y) (mul y z) = y := by
  rcases mul_left hx hy with ⟨p, e1, n1⟩ | ⟨c, e1⟩ <;> rcases mul_right hy hz with ⟨r, e2, n2⟩ | ⟨q, e2⟩
  · rw [e1, e2]
    exact mul1 n1 n2
  · rw [e1]
    have n3 : isNf (mul y z) = true := mul_nf hy hz
    generalize mul y z = R at e2 n3 ⊢
    subst e2
    exact mul3 n1 n3
  · rw [e2]
    have n3 : isNf (mul x y) = true := mul_nf hx hy
    generalize mul x y = P at e1 n3 ⊢
    subst e1
    exact mul2 n3 n2
  · have e3 : T.nd (mul x y) c = .nd q (mul y z) := e1.symm.trans e2
    injection e3 with e4 e5
    have e6 : y = .nd (mul x y) (mul y z) := e1.trans (congrArg (T.nd (mul x y)) e5)
    rw [e6] at hy
    rw [mul_irr hy]
    exact e6.symm
/-- the other two rules follow -/
theorem central2 {x y z : T} (hx : isNf x = true) (hy : isNf y = true) (hz : isNf z = true) : mul x (mul (mul x y) z) = mul x y := by
  have h := central (mul_nf hx hx) (mul_nf hx hy) hz
  rw [central hx hx hy] at h
  exact h
theorem central3 {x y z : T} (hx : isNf x = true) (hy : isNf y = true) (hz : isNf z = true) : mul (mul x (mul y z)) z = mul y z := by
  have h := central hx (mul_nf hy hz) (mul_nf hz hz)
  rw [central hy hz hz] at h
  exact h
/-- a rule keeps the form -/
theorem red_form {t u : T} {r : Nat} (h : (r, u) ∈ red t) : nf t = nf u := by
  unfold red at h
  rcases List.mem_append.mp h with h | h
  · obtain ⟨x, y, z, rfl, _, rfl⟩ := red1_mem.mp h
    exact central (nf_nf _) (nf_nf _) (nf_nf _)
  · rcases List.mem_append.mp h with h | h
    · obtain ⟨x, y, z, rfl, _, rfl⟩ := red2_mem.mp h
      exact central2 (nf_nf _) (nf_nf _) (nf_nf _)
    · obtain ⟨x, y, z, rfl, _, rfl⟩ := red3_mem.mp h
      exact central3 (nf_nf _) (nf_nf _) (nf_nf _)
/-- around a part -/
theorem subs_form : ∀ (t : T) (i : Nat) (s : T) (f : T → T), (subs t)[i]? = some (s, f) → ∀ x y, nf x = nf y → nf (f x) = nf (f y)
  | .lf c, i, s, f, h, x, y, e => by
    cases i with
    | zero =>
      simp only [subs, List.getElem?_cons_zero, Option.some.injEq, Prod.mk.injEq] at h
      obtain ⟨_, rfl⟩ := h
      exact e
    | succ i => simp [subs] at h
  | .nd a b, i, s, f, h, x, y, e => by
    cases i with
    | zero =>
      simp only [subs, List.getElem?_cons_zero, Option.some.injEq, Prod.mk.injEq] at h
      obtain ⟨_, rfl⟩ := h
      exact e
    | succ i =>
      simp only [subs, List.getElem?_cons_succ] at h
      by_cases hi : i < (subs a).length
      · rw [List.getElem?_append_left (by simpa using hi), List.getElem?_map] at h
        cases q : (subs a)[i]? with
        | none => rw [q] at h; cases h
        | some p =>
          obtain ⟨s', f'⟩ := p
          rw [q] at h
          simp only [Option.map_some, Option.some.injEq, Prod.mk.injEq] at h
          obtain ⟨_, rfl⟩ := h
          show mul (nf (f' x)) (nf b) = mul (nf (f' y)) (nf b)
          rw [subs_form a i s' f' q x y e]
      · rw [List.getElem?_append_right (by simpa using hi), List.getElem?_map] at h
        simp only [List.length_map] at h
        cases q : (subs b)[i - (subs a).length]? with
        | none => rw [q] at h; cases h
        | some p =>
          obtain ⟨s', f'⟩ := p
          rw [q] at h
          simp only [Option.map_some, Option.some.injEq, Prod.mk.injEq] at h
          obtain ⟨_, rfl⟩ := h
          show mul (nf a) (nf (f' x)) = mul (nf a) (nf (f' y))
          rw [subs_form b _ s' f' q x y e]
/-- no step: a form -/
theorem stepsFrom_nil : ∀ (ps : List (T × (T → T))) (k : Nat), stepsFrom k ps = [] ↔ ∀ p ∈ ps, red p.1 = []
  | [], _ => by simp [stepsFrom]
  | p :: ps, k => by
    simp only [stepsFrom, stepsAt, List.append_eq_nil_iff, List.map_eq_nil_iff, stepsFrom_nil ps, List.mem_cons, forall_eq_or_imp]
theorem subs_all : ∀ t : T, (∀ p ∈ subs t, red p.1 = []) ↔ isNf t = true
  | .lf c => by simp [subs, isNf, red_lf]
  | .nd a b => by
    rw [isNf_nd, ← subs_all a, ← subs_all b]
    simp only [subs, List.mem_cons, List.mem_append, List.mem_map, forall_eq_or_imp]
    constructor
    · rintro ⟨h1, h2⟩
      exact ⟨fun p hp => h2 (p.1, fun x => .nd (p.2 x) b) (.inl ⟨p, hp, rfl⟩), fun p hp => h2 (p.1, fun x => .nd a (p.2 x)) (.inr ⟨p, hp, rfl⟩), h1⟩
    · rintro ⟨h1, h2, h3⟩
      refine ⟨h3, ?_⟩
      rintro p (⟨q, hq, rfl⟩ | ⟨q, hq, rfl⟩)
      · exact h1 q hq
      · exact h2 q hq
theorem steps_nil {t : T} : steps t = [] ↔ isNf t = true := (stepsFrom_nil _ _).trans (subs_all t)
end KT

end

section
set_option maxHeartbeats 1000000
/-! KStar: x, *rest = a tuple. -/
namespace KG
open PySem PySem.Spec PyProof.Rows L2

/-- the first item, and a new list of the others -/
theorem unpack_headT {prog : Program} {w : World} {A : Around} {E : Value → Shared → Prop} {s : Shared} {l : Addr} {items : Array Value} {Q : List Value → Shared → Prop} (hl : IsTup s.heap l items) (hh : A.handled = none) (h1 : 1 ≤ items.size) (hz : items.size ≤ sizeLine)
    (hQ : ∀ (h' : Heap) (tk : Nat), (∀ b o, s.heap.get? b = some o → h'.get? b = some o) →
      Q (items.toList.take 1 ++ [Value.ref h'.objs.size] ++ []) { s with heap := h'.push { cls := .type "list", data := .seq (items.toList.drop 1).toArray }, toks := tk }) :
    wpAny (model prog w) A (unpackItems (.ref l) 2 (some 1)) Q E s := by
  obtain ⟨ol0, hol0, hc0⟩ := id hl
  have hne : l ≠ s.heap.objs.size := Nat.ne_of_lt (Heap.lt_size hol0)
  unfold unpackItems
  refine wpAny_bind ?_
  unfold notIterableAtAll
  refine wpAny_bind (wpAny_specialOf hl.typeIs slot_tuple_iter.lookup (wpAny_pure ?_))
  simp only [Bool.false_eq_true, if_false]
  refine wpAny_bind (wpAny_holding (iter_tuple hl ?_))
  refine wpAny_bind (wpAny_holding (draw_tuple hne 1 0 _ _ ⟨_, Heap.get?_push_size _ rfl, rfl, rfl⟩ (hl.push _) (by omega) fun g1 it1 sb1 => ?_))
  have tp1 : IsTup g1 l items := (hl.push _).extBut sb1.extBut hne
  rw [Nat.zero_add] at it1
  obtain ⟨oi, hoi, _⟩ := id it1
  obtain ⟨ol, hol, _⟩ := id tp1
  rw [List.drop_zero]
  have hfl : (items.toList.take 1).length = 1 := by rw [List.length_take, Array.length_toList]; omega
  rw [if_neg (by omega)]
  refine wpAny_bind (wpAny_holding (PySem.W.kun_collect (s := { s with heap := g1 }) (T := "tuple_iterator") (.inr (.inr (.inr rfl))) (Walks.tuple (A := A.in1) hh s.heap.objs.size l hne items) (fun j u st => st.1.typeIs) (k := 1) h1 ⟨it1, tp1⟩ (Heap.lt_size hoi) (Heap.lt_size hol) (fun g2 tk kp => ?_) hz))
  have hrl : (items.toList.drop 1).length = items.size - 1 := by rw [List.length_drop, Array.length_toList]
  show wpAny _ _ (if (items.toList.drop 1).length < 0 then _ else _) _ _ _
  rw [if_neg (by omega)]
  show wpAny _ _ (newList ((items.toList.drop 1).take ((items.toList.drop 1).length - 0)) >>= fun d => pure (items.toList.take 1 ++ [d] ++ (items.toList.drop 1).drop ((items.toList.drop 1).length - 0))) _ _ _
  rw [Nat.sub_zero, List.take_length, List.drop_length]
  have keep : ∀ b o, s.heap.get? b = some o → g2.get? b = some o := fun b o e => by
    have hb : b ≠ s.heap.objs.size := Nat.ne_of_lt (Heap.lt_size e)
    exact kp b o hb (sb1.extBut b o hb (Heap.get?_push_of_some _ e))
  exact wpAny_bind (wpAny_newList (wpAny_pure (hQ g2 tk keep)) (by omega))
def gHead (K : PySem.W.Frag) (t : TGs) : TG := fun v σ H Q => ∃ a x xs, v = .ref a ∧ SqT K H a (x :: xs) ∧ ∀ p, H p = none → t [x, .ref p] σ (upd H p (.lst xs)) Q
theorem pg_head {X : Cx} {K : PySem.W.Frag} {es : List Expr} {k : Nat} {pos : Pos} {t : TGs} (hK : X.K = K) (hc : X.calm = true) (h : PGs X es t)
    (hn : (assignEach es X.env).length = 2 := by rfl) (hst : (assignEach es X.env).findIdx? (·.1) = some 1 := by rfl) : PG X (.Tuple es k pos) (gHead K t) := by
  subst hK
  refine ⟨fun pins s σ H v u Q I r hw => ?_⟩
  obtain ⟨a, x, xs, e1, hq, hw⟩ := hw
  subst e1
  cases r
  obtain ⟨its, rv, ht, hz⟩ := I.tuple hq
  cases rv with
  | @cons _ y _ ys rx rr =>
    have hlen := rr.length
    rw [assign_Tuple]
    refine wpAny_bind (wpAny_standAt ?_)
    unfold unpack
    rw [hn, hst]
    refine wpAny_bind (wpAny_holding (unpack_headT ht (I.ok.hd hc) (by simp) (by simp only [List.size_toArray]; rw [List.length_cons, ← hlen]; simpa using hz) fun h' tk kp => ?_))
    have I1 : Inv X pins σ H { s with heap := h', toks := tk } := I.kept kp
    have I2 : Inv X pins σ (upd H h'.objs.size (.lst xs)) { s with heap := h'.push { cls := .type "list", data := .seq ys.toArray }, toks := tk } :=
      I1.laid (t' := tk) (fun b o e => Heap.get?_push_of_some _ e) (Nat.le_refl _) ⟨by simp only [List.length_cons] at hz; omega, ys, 0, rr, Heap.get?_push_size _ rfl⟩
    exact h.run pins _ σ _ [x, .ref h'.objs.size] _ Q I2 (.cons rx (.cons rfl .nil)) (hw _ (I1.hok.fresh (Nat.le_refl _)))
end KG

end

section
set_option maxHeartbeats 1000000
/-! KPath: any, all, zip in comprehensions, tuples cut and joined, starred targets. -/
namespace KG
open PySem PySem.Spec PyProof.Rows L2

section
variable {X : Cx} {K : PySem.W.Frag}
def kAny (K : PySem.W.Frag) : List V → Hp → VK → Prop := fun xs H Q => ∃ (a : Addr) (bs : List Bool), xs = [V.ref a] ∧ SqL K H a (bs.map V.bl) ∧ Q (.bl (bs.any id)) H
def kAll (K : PySem.W.Frag) : List V → Hp → VK → Prop := fun xs H Q => ∃ (a : Addr) (bs : List Bool), xs = [V.ref a] ∧ SqL K H a (bs.map V.bl) ∧ Q (.bl (bs.all id)) H
theorem kk_any (h : X.K = K) (hc : X.calm = true) : CallR X (.builtin "any") (kAny K) := h ▸ cr_any hc
theorem kk_all (h : X.K = K) (hc : X.calm = true) : CallR X (.builtin "all") (kAll K) := h ▸ cr_all hc
theorem anyRun {H : Hp} {Q : VK} {a : Addr} {bs : List Bool} (h : SqL K H a (bs.map V.bl)) (q : Q (.bl (bs.any id)) H) : kAny K [.ref a] H Q := ⟨a, bs, rfl, h, q⟩
theorem allRun {H : Hp} {Q : VK} {a : Addr} {bs : List Bool} (h : SqL K H a (bs.map V.bl)) (q : Q (.bl (bs.all id)) H) : kAll K [.ref a] H Q := ⟨a, bs, rfl, h, q⟩
theorem kk_zip {tg e : Expr} {ta : TA} (h : X.K = K) (hp : PI X tg e (RZ.iZipA X.K ta)) : PI X tg e (RZ.iZipA K ta) := h ▸ hp
theorem pgs_starred {e : Expr} {p : Pos} {es : List Expr} {t : TG} {u : TGs} (h1 : PG X e t) (h2 : PGs X es u)
    (hs : (assignEach (.Starred e p :: es) X.env).map (·.2) = assign e X.env :: (assignEach es X.env).map (·.2) := by rfl) : PGs X (.Starred e p :: es) (gCons t u) := by
  refine ⟨fun pins s σ H vs us Q I r h => ?_⟩
  obtain ⟨v, vr, rfl, h⟩ := h
  cases r with
  | cons r rr =>
    rw [hs]
    exact assignInOrder_cons (thn (h1.run pins s σ H _ _ _ I r h) fun _ s1 ⟨σ1, H1, I1, q1⟩ => h2.run pins s1 σ1 H1 _ _ Q I1 rr q1)
end
section
variable {K : PySem.W.Frag} {te0 te : TE} {g : TG} {tt : TT} {vs : List Nat} {σ : L2.St} {H : Hp} {Q : VK} {ta : TA}
/-- the walked thing is made first -/
theorem lc_via : tLc (iK K te0) g tt te vs σ H Q = te0 σ H fun v H1 => tLc (iK K (tC v)) g tt te vs σ H1 Q := rfl
theorem lc_viaR : tLc (iRng1 ta) g tt te vs σ H Q = ta σ H fun us H1 => tLc (iRng1 (fun _ H Q => Q us H)) g tt te vs σ H1 Q := rfl
theorem lc_viaZ : tLc (RZ.iZipA K ta) g tt te vs σ H Q = ta σ H fun us H1 => tLc (RZ.iZipA K (fun _ H Q => Q us H)) g tt te vs σ H1 Q := rfl
/-- [.. for x, y in zip(t, u)]: two tuples, the shorter one ends -/
theorem lc_Z {a b : Addr} {xs ys : List V} (hv : ∀ Q : List V → Hp → Prop, Q [.ref a, .ref b] H → ta σ H Q) (hx : SqT K H a xs) (hy : SqT K H b ys) (Pv : Addr → Nat → Hp → Prop) (h0 : ∀ D, H D = none → Pv D 0 (upd H D (.lst [])))
    (hk : ∀ D i H', H D = none → Pv D i H' → SqT K H' a xs ∧ SqT K H' b ys)
    (hs : ∀ D i x y T H', H D = none → xs[i]? = some x → ys[i]? = some y → H' T = none → Pv D i H' → g (.ref T) (wipe σ vs) (upd H' T (.tup [x, y])) fun σ2 H2 => wipe σ2 vs = wipe σ vs ∧ tt σ2 H2 fun b H3 => BrL b te D (Pv D (i + 1)) σ2 H3)
    (hd : ∀ D H', H D = none → Pv D (min xs.length ys.length) H' → Q (.ref D) H') : tLc (RZ.iZipA K ta) g tt te vs σ H Q := by
  refine hv _ ⟨a, b, xs, ys, rfl, .inr ⟨hx, hy, fun D hD => ?_⟩⟩
  refine lc_of (n := min xs.length ys.length) (fun i v H H' => ∃ T x y, v = .ref T ∧ H T = none ∧ H' = upd H T (.tup [x, y]) ∧ (∀ xs, SqT K H a xs → xs[i]? = some x) ∧ ∀ ys, SqT K H b ys → ys[i]? = some y) (Pv D)
    (fun i H hi p => ?_) (fun i H x H' _ y => y) (fun H p => ?_) (h0 D hD) (fun i v H H' hi p pv => ?_) fun H' p => hd D H' hD p
  · obtain ⟨k1, k2⟩ := hk D i H hD p
    exact ⟨xs, ys, _, _, k1, k2, List.getElem?_eq_getElem (by omega), List.getElem?_eq_getElem (by omega)⟩
  · obtain ⟨k1, k2⟩ := hk D _ H hD p
    exact ⟨xs, ys, k1, k2, by omega⟩
  · obtain ⟨T, x, y, rfl, hT, rfl, f1, f2⟩ := p
    obtain ⟨k1, k2⟩ := hk D i H hD pv
    exact hs D i x y T H hD (f1 xs k1) (f2 ys k2) hT pv
end
/-! ### tuples cut, joined, repeated: the answer stands somewhere -/
section
variable {K : PySem.W.Frag} {H : Hp} {Q : VK}
theorem SqT.ex {H H' : Hp} {a : Addr} {xs : List V} (e : Evl.Ex H H') (h : SqT K H a xs) : SqT K H' a xs := Evl.ex_t e h
theorem SqL.ex {H H' : Hp} {a : Addr} {xs : List V} (e : Evl.Ex H H') (h : SqL K H a xs) : SqL K H' a xs := Evl.ex_l e h
theorem cutT {a : Addr} {xs : List V} {lo hi : Option Int} (h : H a = some (.tup xs)) (q : ∀ p H2, Evl.Ex H H2 → H2 p = some (.tup (cutV xs lo hi)) → Q (.ref p) H2) : kSl K (.ref a) lo hi H Q := by
  refine .inl ⟨a, xs, rfl, SqT.of h, fun hw => ?_, fun hw p hp => ?_⟩
  · refine q a H (Evl.Ex.refl _) ?_
    have e : cutV xs lo hi = xs := by
      unfold cutV
      rw [hw.1, hw.2, List.drop_zero, Nat.sub_zero, List.take_length]
    rw [e]
    exact h
  · exact q p _ (Evl.Ex.new hp) upd_same
theorem catT {a b : Addr} {xs ys : List V} (hx : H a = some (.tup xs)) (hy : H b = some (.tup ys)) (hz : xs.length + ys.length ≤ 1000000) (q : ∀ p H2, Evl.Ex H H2 → H2 p = some (.tup (xs ++ ys)) → Q (.ref p) H2) : kAdd K (.ref a) (.ref b) H Q := by
  refine .inr ⟨a, b, xs, ys, rfl, rfl, SqT.of hx, SqT.of hy, line_of hz, fun e => ?_, fun _ e => ?_, fun _ _ p hp => ?_⟩
  · subst e
    exact q b H (Evl.Ex.refl _) hy
  · subst e
    exact q a H (Evl.Ex.refl _) (by rw [List.append_nil]; exact hx)
  · exact q p _ (Evl.Ex.new hp) upd_same
theorem catL {a b : Addr} {xs ys : List V} (hx : H a = some (.lst xs)) (hy : H b = some (.lst ys)) (hz : xs.length + ys.length ≤ 1000000) (q : ∀ p, H p = none → Q (.ref p) (upd H p (.lst (xs ++ ys)))) : kAdd K (.ref a) (.ref b) H Q :=
  .inl ⟨a, b, xs, ys, rfl, rfl, hx, hy, line_of hz, q⟩
theorem repT {a : Addr} {xs : List V} {k : Int} (h : SqT K H a xs) (hn : xs ≠ []) (k1 : 2 ≤ k) (k2 : k ≤ 1000) (hz : xs.length ≤ 1000) (q : ∀ p, H p = none → Q (.ref p) (upd H p (.tup (List.replicate k.toNat xs).flatten))) : kMul K (.ref a) (.int k) H Q :=
  .inr ⟨a, k, xs, rfl, rfl, h, hn, k1, k2, hz, q⟩
theorem tupOfL {a : Addr} {xs : List V} (h : SqL K H a xs) (q : ∀ p, H p = none → Q (.ref p) (upd H p (.tup xs))) : kTupOf K [.ref a] H Q := ⟨a, xs, rfl, .inl ⟨h, q⟩⟩
theorem listOfT {a : Addr} {xs : List V} (h : SqT K H a xs) (q : ∀ p, H p = none → Q (.ref p) (upd H p (.lst xs))) : kListOf K [.ref a] H Q := ⟨a, xs, rfl, .inr h, q⟩
theorem cutV_lo {xs : List V} {i : Nat} (h : i ≤ xs.length) : cutV xs (some (i : Int)) none = xs.drop i := by
  unfold cutV
  have e : HT.sIx xs.length 0 (some (i : Int)) = i := by
    rw [HT.sIx_nat]
    omega
  rw [e, HT.sIx_none, List.take_of_length_le (by simp)]
theorem cutV_hi {xs : List V} {j : Nat} (h : j ≤ xs.length) : cutV xs none (some (j : Int)) = xs.take j := by
  unfold cutV
  have e : HT.sIx xs.length xs.length (some (j : Int)) = j := by
    rw [HT.sIx_nat]
    omega
  rw [e, HT.sIx_none, List.drop_zero, Nat.sub_zero]
theorem cutV_last {xs : List V} : cutV xs none (some (-1)) = xs.take (xs.length - 1) := by
  unfold cutV
  have e : HT.sIx xs.length xs.length (some (-1)) = xs.length - 1 := by
    show (if (-1 : Int) < 0 then ((-1 : Int) + (xs.length : Int)).toNat else min (-1 : Int).toNat xs.length) = _
    rw [if_pos (by decide)]
    omega
  rw [e, HT.sIx_none, List.drop_zero, Nat.sub_zero]
end
end KG

end

section
set_option maxHeartbeats 4000000
namespace LW
open PySem PySem.Spec PyProof.Rows L2 KG KT

def top (i : Nat) : Stmt := PySem.Challenge.pw_onebetween_k78_whole_equality_papers_jud.main.body.getD i (.Pass ⟨0, 0, 0, 0⟩)
abbrev s_is_letter : Stmt := top 2
abbrev s_is_term : Stmt := top 9
abbrev s_require_term : Stmt := top 10
abbrev s_end_of : Stmt := top 11
abbrev s_part_in : Stmt := top 12
abbrev s_put_in : Stmt := top 13
abbrev s_substituted_in : Stmt := top 14
abbrev s_match_in : Stmt := top 15
abbrev s_each_step : Stmt := top 21
abbrev s_first_step : Stmt := top 22
abbrev s_has_step : Stmt := top 23
abbrev s_require_terms : Stmt := top 24
abbrev s_leads_down : Stmt := top 25
abbrev s_are_chain : Stmt := top 26
abbrev s_is_equal_chain : Stmt := top 27
abbrev s_is_down_chain : Stmt := top 28
abbrev s_is_equality_paper : Stmt := top 29
abbrev s__law_dice : Stmt := top 31
abbrev s__law_roll : Stmt := top 32
abbrev s__law_pick : Stmt := top 33
abbrev s__law_grown_term : Stmt := top 34
abbrev s__law_part_of : Stmt := top 35
abbrev s__law_sides : Stmt := top 36
abbrev s__law_rule_results : Stmt := top 37
abbrev s__law_steps : Stmt := top 38
abbrev s__law_down : Stmt := top 39
abbrev s__law_up : Stmt := top 40
abbrev s__law_leads : Stmt := top 41
abbrev s__law_takes : Stmt := top 42
abbrev s__law_takes_down : Stmt := top 43
abbrev s__law_near : Stmt := top 44
abbrev s__law_right : Stmt := top 45
abbrev s_law : Stmt := top 46
abbrev Tm := KT.T
structure Top (K : PySem.W.Frag) (mg : Str → Option Value) where
  abs : mg "abs" = none
  all : mg "all" = none
  any : mg "any" = none
  enumerate : mg "enumerate" = none
  int : mg "int" = none
  isinstance : mg "isinstance" = none
  len : mg "len" = none
  list : mg "list" = none
  max : mg "max" = none
  min : mg "min" = none
  range : mg "range" = none
  repr : mg "repr" = none
  str : mg "str" = none
  tuple : mg "tuple" = none
  zip : mg "zip" = none
  LETTERS : ∃ t, mg "LETTERS" = some (.str "abcdefghijklmnopqrstuvwxyz" t)
  MAX_LETTERS : ∃ t, mg "MAX_LETTERS" = some (.int 200 t)
  STAR : ∃ t, mg "STAR" = some (.str "*" t)
  MAX_CHAIN : ∃ t, mg "MAX_CHAIN" = some (.int 400 t)
  EQUAL : ∃ t, mg "EQUAL" = some (.str "equal" t)
  UNEQUAL : ∃ t, mg "UNEQUAL" = some (.str "unequal" t)
  RULESa : Addr
  r1 : Addr
  r2 : Addr
  r3 : Addr
  RULES : mg "RULES" = some (.ref RULESa)
  t0 : KTup K RULESa [.ref r1, .ref r2, .ref r3]
  t1 : KTup K r1 [S [42, 42, 120, 121, 42, 121, 122], S [121]]
  t2 : KTup K r2 [S [42, 120, 42, 42, 120, 121, 122], S [42, 120, 121]]
  t3 : KTup K r3 [S [42, 42, 120, 42, 121, 122, 122], S [42, 121, 122]]
  is_letter : Df K mg "is_letter" s_is_letter ["value"]
  is_term : Df K mg "is_term" s_is_term ["value"]
  require_term : Df K mg "require_term" s_require_term ["value"]
  end_of : Df K mg "end_of" s_end_of ["term", "index"]
  part_in : Df K mg "part_in" s_part_in ["term", "index"]
  put_in : Df K mg "put_in" s_put_in ["term", "index", "other"]
  substituted_in : Df K mg "substituted_in" s_substituted_in ["term", "terms"]
  match_in : Df K mg "match_in" s_match_in ["pattern", "term"]
  each_step : Df K mg "each_step" s_each_step ["term"]
  first_step : Df K mg "first_step" s_first_step ["term"]
  has_step : Df K mg "has_step" s_has_step ["term"]
  require_terms : Df K mg "require_terms" s_require_terms ["one", "other"]
  leads_down : Df K mg "leads_down" s_leads_down ["one", "other"]
  are_chain : Df K mg "are_chain" s_are_chain ["value"]
  is_equal_chain : Df K mg "is_equal_chain" s_is_equal_chain ["one", "other", "value"]
  is_down_chain : Df K mg "is_down_chain" s_is_down_chain ["term", "value"]
  is_equality_paper : Df K mg "is_equality_paper" s_is_equality_paper ["one", "other", "value"]
  _law_dice : Df K mg "_law_dice" s__law_dice ["script", "spot"]
  _law_roll : Df K mg "_law_roll" s__law_roll ["dice", "total"]
  _law_pick : Df K mg "_law_pick" s__law_pick ["dice", "items"]
  _law_grown_term : Df K mg "_law_grown_term" s__law_grown_term ["dice", "letters", "size"]
  _law_part_of : Df K mg "_law_part_of" s__law_part_of ["term", "index"]
  _law_sides : Df K mg "_law_sides" s__law_sides ["term"]
  _law_rule_results : Df K mg "_law_rule_results" s__law_rule_results ["part"]
  _law_steps : Df K mg "_law_steps" s__law_steps ["term"]
  _law_down : Df K mg "_law_down" s__law_down ["dice", "term"]
  _law_up : Df K mg "_law_up" s__law_up ["dice", "term", "letters"]
  _law_leads : Df K mg "_law_leads" s__law_leads ["one", "other"]
  _law_takes : Df K mg "_law_takes" s__law_takes ["one", "other", "chain"]
  _law_takes_down : Df K mg "_law_takes_down" s__law_takes_down ["term", "chain"]
  _law_near : Df K mg "_law_near" s__law_near ["dice", "chain", "letters"]
  _law_right : Df K mg "_law_right" s__law_right ["dice", "letters"]
  law : Df K mg "law" s_law ["script"]
end LW

end

section
set_option maxHeartbeats 4000000

namespace LW
open PySem PySem.Spec PyProof.Rows L2 KG KT
local macro_rules | `(tactic| walk_at "go") => `(tactic| try simp only [b_St, b_Sf, b_Et, b_Ef, b_At, b_Af, b_Ot, b_Of, b_AVt, b_AVf, b_OVt, b_OVf, b_Ct, b_Cf, g_seq, g_asg, g_name, g_ret, g_retN, g_next, g_brk, g_cont, g_drop, g_ifS, g_if, g_and, g_or, g_not, g_andV, g_orV, g_notV, g_chain, g_test, g_B, g_op, g_un, g_neg, g_var, g_c, g_nil, g_cons, g_CB, g_call, g_par, g_par3, g_aug, g_sl, g_part, g_nopart, g_tup, g_lst, g_gcons, g_gnil, g_BM, g_dnew, g_yes, g_never, g_tupK, g_listK, g_KCall, g_for1, g_tru, k_then, k_0, k_plain, k_if, k_yield, b_Gt, b_Gf, rx_K, kon_K, g_M1, g_dget2, g_isS, g_wipe0, g_wipe1, g_wipe2, g_wipe3, b_Lt, b_Lf,
  kAdd_i, kAdd_s, kMul_i, kMul_s, kInt_i, kInt0_i, kEq_i, kEq_s, kNe_i, kNe_s, kEq_b, kNe_b, kIn_s, kNotIn_s, kLen_s, kIx_s, kSl_s, kAug_i, kAbs_i, kMax_i, kMin_i, kIntOf_i, kIntOf_b, g_sub, isN_S, isN_i, isN_n, isN_r, notN_S, notN_i, notN_n, notN_r, isN_b, notN_b, tru_b, tru_i, tru_n, ex_bl, ex_int, ex_some, par_2, par_3, isi_S kit_ss, cx_K, cx_Kn, Bool.not_true, Bool.not_false,
  List.set_cons_zero, List.set_cons_succ, List.getElem?_cons_zero, List.getElem?_cons_succ, List.map_cons, List.map_nil, List.append_nil, List.length_cons, List.length_nil, Nat.zero_add, dec_one, true_and, decide_true, decide_false])
local macro_rules | `(tactic| walk_at "br") => `(tactic| first | refine br_W ?_ ?_ | refine br_G ?_ ?_ | refine br_L ?_ ?_ | refine br_Ln ?_ ?_ | refine br_Lm ?_ ?_ | refine br_Lb ?_ ?_ | refine br_S ?_ ?_ | refine br_E ?_ ?_ | refine br_A ?_ ?_ | refine br_O ?_ ?_ | refine br_AV ?_ ?_ | refine br_OV ?_ ?_ | refine br_C ?_ ?_ | refine br_Sn ?_ ?_ | refine br_En ?_ ?_ | refine br_An ?_ ?_ | refine br_On ?_ ?_ | refine br_AVn ?_ ?_ | refine br_OVn ?_ ?_ | refine br_Cn ?_ ?_ | refine br_Sm ?_ ?_ | refine br_Em ?_ ?_ | refine br_Am ?_ ?_ | refine br_Om ?_ ?_ | refine br_AVm ?_ ?_ | refine br_OVm ?_ ?_ | refine br_Cm ?_ ?_ | refine br_Sb ?_ ?_ | refine br_Eb ?_ ?_ | refine br_Ab ?_ ?_ | refine br_Ob ?_ ?_ | refine br_AVb ?_ ?_ | refine br_OVb ?_ ?_ | refine br_Cb ?_ ?_)

section
variable {P : Program} {w : World} {K : PySem.W.Frag} {mg : Str → Option Value} {base : Heap}
abbrev sl_is_letter : List Str := ["value"]
theorem sc_is_letter : FnScope sl_is_letter ["value"] (defScope s_is_letter) := ⟨rfl, rfl, rfl, by decide +kernel, rfl, by decide +kernel, by decide +kernel⟩
theorem st_is_letter (v0 : V) : L2.start sl_is_letter [v0] = [some v0] := rfl
abbrev sl_is_term : List Str := ["value", "wanted", "sign"]
theorem sc_is_term : FnScope sl_is_term ["value"] (defScope s_is_term) := ⟨rfl, rfl, rfl, by decide +kernel, rfl, by decide +kernel, by decide +kernel⟩
theorem st_is_term (v0 : V) : L2.start sl_is_term [v0] = [some v0, none, none] := rfl
abbrev sl_end_of : List Str := ["term", "index", "wanted", "at"]
theorem sc_end_of : FnScope sl_end_of ["term", "index"] (defScope s_end_of) := ⟨rfl, rfl, rfl, by decide +kernel, rfl, by decide +kernel, by decide +kernel⟩
theorem st_end_of (v0 : V) (v1 : V) : L2.start sl_end_of [v0, v1] = [some v0, some v1, none, none] := rfl
abbrev sl_part_in : List Str := ["term", "index"]
theorem sc_part_in : FnScope sl_part_in ["term", "index"] (defScope s_part_in) := ⟨rfl, rfl, rfl, by decide +kernel, rfl, by decide +kernel, by decide +kernel⟩
theorem st_part_in (v0 : V) (v1 : V) : L2.start sl_part_in [v0, v1] = [some v0, some v1] := rfl
abbrev sl_put_in : List Str := ["term", "index", "other"]
theorem sc_put_in : FnScope sl_put_in ["term", "index", "other"] (defScope s_put_in) := ⟨rfl, rfl, rfl, by decide +kernel, rfl, by decide +kernel, by decide +kernel⟩
theorem st_put_in (v0 : V) (v1 : V) (v2 : V) : L2.start sl_put_in [v0, v1, v2] = [some v0, some v1, some v2] := rfl
/-! ### is_letter -/
theorem in_letters (c : Nat) : decide (c ∈ [97, 98, 99, 100, 101, 102, 103, 104, 105, 106, 107, 108, 109, 110, 111, 112, 113, 114, 115, 116, 117, 118, 119, 120, 121, 122]) = isL c := by
  have e : ([97, 98, 99, 100, 101, 102, 103, 104, 105, 106, 107, 108, 109, 110, 111, 112, 113, 114, 115, 116, 117, 118, 119, 120, 121, 122] : List Nat) = List.range' 97 26 := by decide +kernel
  rw [e]
  unfold isL
  rw [← Bool.decide_and]
  congr 1
  rw [List.mem_range'_1]
  apply propext
  omega
def spLetter : Sp := fun vs H Q _ => ∃ c, vs = [S [c]] ∧ Q (.bl (isL c)) H
theorem spLetter_S {c : Nat} {H : Hp} {Q : VK} {E : XK} : spLetter [S [c]] H Q E ↔ Q (.bl (isL c)) H := by
  constructor
  · rintro ⟨d, h, q⟩
    cases S_inj.mp (List.cons.inj h).1
    exact q
  · exact fun q => ⟨c, rfl, q⟩
theorem ok_is_letter (T : Top K mg) : FnOk P w K mg base CX0 1 T.is_letter.f T.is_letter.fd ["value"] spLetter := by
  refine T.is_letter.F.ok sc_is_letter (fun vs H Q E h => ?_) (fun cdv A outer s H vs Q E hr h => ?_)
  · obtain ⟨c, rfl, _⟩ := h
    rfl
  · obtain ⟨c, rfl, k⟩ := h
    refine ⟨_, (pss_one (ps_ret (pe_and (pe_callB (kk_isi (K := K) rfl) (by rfl) T.isinstance (by decide +kernel) (pa_cons (pv 0) (pa_cons (pe_bltn (v := .ty "str") (by rfl) T.str (by decide +kernel) rfl) pa_nil))) (pe_and (pe_cmpR (kk_eq (K := K) rfl hr) (pe_callB (kk_len (K := K) rfl) (by rfl) T.len (by decide +kernel) (pa_cons (pv 0) pa_nil)) pe_int (nomark _)) (pe_one (pe_cmpR (kk_in (K := K) rfl hr) (pv 0) (pe_globS [97, 98, 99, 100, 101, 102, 103, 104, 105, 106, 107, 108, 109, 110, 111, 112, 113, 114, 115, 116, 117, 118, 119, 120, 121, 122] (by decide) (by rfl) T.LETTERS) (by rfl))))))), ?_⟩
    rw [st_is_letter]
    walk_at "go"
    refine ⟨by decide, ?_⟩
    walk_at "br"
    · intro _
      walk_at "go"
      rw [in_letters]
      exact k
    · intro h
      exact absurd rfl h
/-! ### is_term -/
def spTerm (K : PySem.W.Frag) : Sp := fun vs H Q _ => (∃ l, vs = [S l] ∧ l.length ≤ 1000000 ∧ Q (.bl (isT l)) H) ∨ ∃ v, vs = [v] ∧ (∃ m, kindV K v H = some m ∧ kitB m "str" = some false) ∧ Q (.bl false) H
theorem ok_is_term (T : Top K mg) : FnOk P w K mg base CX0 2 T.is_term.f T.is_term.fd ["value"] (spTerm K) := by
  refine T.is_term.F.ok sc_is_term (fun vs H Q E h => ?_) (fun cdv A outer s H vs Q E hr h => ?_)
  · rcases h with ⟨l, rfl, _⟩ | ⟨v, rfl, _⟩ <;> rfl
  · refine ⟨_, (pss_cons (ps_if (pw_or (pt_not (kk_tru (K := K) rfl (pt_truth (pe_callB (kk_isi (K := K) rfl) (by rfl) T.isinstance (by decide +kernel) (pa_cons (pv 0) (pa_cons (pe_bltn (v := .ty "str") (by rfl) T.str (by decide +kernel) rfl) pa_nil))) (fun _ => rfl)))) (pw_or1 (pt_not (pt_chain op_kLe op_kLe pe_int (pe_callB (kk_len (K := K) rfl) (by rfl) T.len (by decide +kernel) (pa_cons (pv 0) pa_nil)) (pe_op op_kSub (pe_op (kk_mul (K := K) rfl) pe_int (pe_globI (by rfl) T.MAX_LETTERS)) pe_int))))).pt (pss_one (ps_ret pe_bl)) pss_nil) (pss_cons (ps_set (i := 1) sc_is_term.nd rfl (by first | exact Or.inl rfl | exact Or.inr rfl) pe_int) (pss_cons (ps_for PassesOwn.never (by rfl) (kk_pi (K := K) rfl (pv 0)) (pg_name (i := 2) sc_is_term.nd rfl (by first | exact Or.inl rfl | exact Or.inr rfl)) (pss_cons (ps_if (pw_or (pt_cmpR (kk_eq (K := K) rfl hr) (pv 1) pe_int (nomark _)) (pw_or1 (pw_and (pt_cmpR (kk_ne (K := K) rfl hr) (pv 2) (pe_globS [42] (by decide) (by rfl) T.STAR) (nomark _)) (pw_and1 (pt_not (kk_tru (K := K) rfl (pt_truth (callO (ok_is_letter T) (hr.mono (by first | decide | omega)) (by rfl) (pa_cons (pv 2) pa_nil)) (fun _ => rfl)))))).pt)).pt (pss_one (ps_ret pe_bl)) pss_nil) (pss_one (ps_aug (i := 1) sc_is_term.nd rfl (by first | exact Or.inl rfl | exact Or.inr rfl) (pe_ifExp (pt_cmpR (kk_eq (K := K) rfl hr) (pv 2) (pe_globS [42] (by decide) (by rfl) T.STAR) (nomark _)) pe_int (pe_un un_neg pe_int)) ip_kAug)))) (pss_one (ps_ret (pe_cmpR (kk_eq (K := K) rfl hr) (pv 1) pe_int (nomark _))))))), ?_⟩
    rcases h with ⟨l, rfl, hl, k⟩ | ⟨v, rfl, ⟨m, hm, hb⟩, k⟩
    · rw [st_is_term]
      walk_at "go"
      refine ⟨hl, ?_⟩
      have step : ∀ c r w, KT.scan w (c :: r) = if w = 0 ∨ (c ≠ 42 ∧ isL c = false) then false else KT.scan (if c = 42 then w + 1 else w - 1) r := fun _ _ _ => rfl
      have out : ¬ (1 ≤ l.length ∧ l.length ≤ 399) → isT l = false := fun h => by
        unfold isT
        rw [show (decide (1 ≤ l.length) && decide (l.length ≤ 399)) = false by rw [← Bool.decide_and]; exact decide_eq_false h]
        rfl
      walk_at "br"
      · intro h1
        walk_at "go"
        refine ⟨.inr (.inl (by decide)), ?_⟩
        walk_at "br"
        · intro h2
          walk_at "go"
          have e0 : isT l = KT.scan 1 l := by
            unfold isT
            rw [decide_eq_true (show 1 ≤ l.length by omega), decide_eq_true (show l.length ≤ 399 by omega)]
            rfl
          refine loop_S (l := l) (is_var rfl) (fun i σ H' => H' = H ∧ ∃ (w : Nat) (o : Option V), σ = [some (S l), some (.int w), o] ∧ isT l = KT.scan w (l.drop i)) ⟨rfl, 1, none, rfl, by rw [e0]; rfl⟩ ?_ ?_
          · rintro i c σ' H' hi ⟨rfl, w', o, rfl, e1⟩
            have hd : l.drop i = c :: l.drop (i + 1) := by
              obtain ⟨hlt, e⟩ := List.getElem?_eq_some_iff.mp hi
              rw [← e, List.drop_eq_getElem_cons hlt]
            rw [hd, step] at e1
            walk_at "go"
            have fin : ¬ (w' = 0 ∨ c ≠ 42 ∧ isL c = false) → isT l = KT.scan (if c = 42 then w' + 1 else w' - 1) (List.drop (i + 1) l) := fun h => by rw [if_neg h] at e1; exact e1
            have bad : (w' = 0 ∨ c ≠ 42 ∧ isL c = false) → Q (V.bl false) H' := fun h => by
              rw [if_pos h] at e1
              rw [← e1]
              exact k
            walk_at "br"
            · intro h0
              walk_at "go"
              exact bad (.inl (by omega))
            · intro h0
              walk_at "go"
              walk_at "br"
              · intro h3
                subst h3
                walk_at "go"
                refine ⟨w' + 1, _, rfl, ?_⟩
                rw [fin (by omega), if_pos rfl]
              · intro h4
                walk_at "go"
                rw [spLetter_S]
                walk_at "go"
                walk_at "br"
                · intro h5
                  walk_at "go"
                  rw [decide_eq_false h4]
                  walk_at "go"
                  refine ⟨w' - 1, some (S [c]), ?_, ?_⟩
                  · rw [show ((w' - 1 : Nat) : Int) = (w' : Int) + -1 by omega]
                  · rw [fin (by rw [h5]; simp; omega), if_neg h4]
                · intro h5
                  walk_at "go"
                  exact bad (.inr ⟨h4, h5⟩)
          · rintro σ' H' ⟨rfl, w', o, rfl, e1⟩
            walk_at "go"
            rw [List.drop_length] at e1
            have e2 : isT l = decide ((w' : Int) = 0) := by
              rw [e1]
              show (w' == 0) = _
              cases w' <;> simp <;> omega
            rw [← e2]
            exact k
        · intro h2
          walk_at "go"
          rw [← out (by omega)]
          exact k
      · intro h1
        walk_at "go"
        rw [← out (by omega)]
        exact k
    · rw [st_is_term]
      walk_at "go"
      rw [kIsi_of hm hb]
      walk_at "go"
      exact k
/-! ### end_of, part_in, put_in -/
theorem drop_at {l : List Nat} {k c : Nat} {r : List Nat} (h : l.drop k = c :: r) : l[k]? = some c ∧ l.drop (k + 1) = r ∧ k < l.length := by
  have hk : k < l.length := by
    by_cases z : k < l.length
    · exact z
    · rw [List.drop_of_length_le (by omega)] at h
      cases h
  rw [List.drop_eq_getElem_cons hk] at h
  injection h with h1 h2
  exact ⟨by rw [List.getElem?_eq_getElem hk, h1], h2, hk⟩
theorem drop_len {l r : List Nat} {k : Nat} {e : List Nat} (h : l.drop k = e ++ r) (hk : k ≤ l.length) : l.length = k + e.length + r.length := by
  have h1 := congrArg List.length h
  rw [List.length_drop, List.length_append] at h1
  omega
theorem drop_in {l r : List Nat} {i : Nat} {t : Tm} (hd : l.drop i = enc t ++ r) : i ≤ l.length := by
  by_cases z : i ≤ l.length
  · exact z
  · rw [List.drop_of_length_le (by omega)] at hd
    have h1 := congrArg List.length hd
    have h2 := enc_len t
    have h3 := sz_pos t
    rw [List.length_append, List.length_nil] at h1
    omega
def spEnd : Sp := fun vs H Q _ => ∃ (l : List Nat) (i : Nat) (t : Tm) (r : List Nat), vs = [S l, .int (i : Nat)] ∧ l.length ≤ 1000000 ∧ ok t = true ∧ l.drop i = enc t ++ r ∧ Q (.int ((i + (enc t).length : Nat) : Int)) H
theorem ok_end_of (T : Top K mg) : FnOk P w K mg base CX0 1 T.end_of.f T.end_of.fd ["term", "index"] spEnd := by
  refine T.end_of.F.ok sc_end_of (fun vs H Q E h => ?_) (fun cdv A outer s H vs Q E hr h => ?_)
  · obtain ⟨l, i, t, r, rfl, _⟩ := h
    rfl
  · obtain ⟨l, i, t, r, rfl, hl, ht, hd, k⟩ := h
    refine ⟨_, (pss_cons (ps_par (i := 2) (j := 3) (by rfl) sc_end_of.nd rfl rfl (by decide) rfl rfl (pa_cons pe_int (pa_cons (pv 1) pa_nil)) rfl) (pss_cons (ps_while PassesOwn.never (pt_cmpR op_kGt (pv 2) pe_int (nomark _)) (pss_cons (ps_aug (i := 2) sc_end_of.nd rfl (by first | exact Or.inl rfl | exact Or.inr rfl) (pe_ifExp (pt_cmpR (kk_eq (K := K) rfl hr) (pe_ix (kk_ix (K := K) rfl) (pv 0) (pv 3) (fun _ _ => rfl)) (pe_globS [42] (by decide) (by rfl) T.STAR) (nomark _)) pe_int (pe_un un_neg pe_int)) ip_kAug) (pss_one (ps_aug (i := 3) sc_end_of.nd rfl (by first | exact Or.inl rfl | exact Or.inr rfl) pe_int ip_kAug)))) (pss_one (ps_ret (pv 3))))), ?_⟩
    rw [st_end_of]
    walk_at "go"
    rw [g_while]
    refine ⟨fun m σ' H' => H' = H ∧ ∃ (ts : List Tm) (j : Nat), m = (encs ts).length ∧ (∀ t ∈ ts, ok t = true) ∧ l.drop j = encs ts ++ r ∧ i + (enc t).length = j + (encs ts).length ∧ σ' = [some (S l), some (.int (i : Nat)), some (.int ts.length), some (.int (j : Nat))],
      ⟨_, rfl, [t], i, rfl, by simpa using ht, by rw [hd]; simp [encs], by simp [encs], rfl⟩, ?_⟩
    rintro m σ' H' ⟨rfl, ts, j, rfl, hts, hj, hs, rfl⟩
    walk_at "go"
    walk_at "br"
    · intro h0
      match ts, hts, hj, hs, h0 with
      | .lf c :: ts, hts, hj, hs, h0 =>
        obtain ⟨d1, d2, d3⟩ := drop_at (c := c) (r := encs ts ++ r) hj
        have hc : c ≠ 42 := isL_ne (hts (.lf c) (List.mem_cons_self ..))
        walk_at "go"
        refine ⟨hl, c, atI_nat d1, ?_⟩
        walk_at "go"
        rw [decide_eq_false hc]
        walk_at "go"
        refine ⟨(encs ts).length, by simp [encs, enc], rfl, ts, j + 1, rfl, fun t ht => hts t (List.mem_cons_of_mem _ ht), d2, ?_, ?_⟩
        · rw [hs]
          simp [encs, enc]
          omega
        · rw [show ((ts.length + 1 : Nat) : Int) + -1 = (ts.length : Int) by omega]
          rfl
      | .nd a b :: ts, hts, hj, hs, h0 =>
        obtain ⟨d1, d2, d3⟩ := drop_at (c := 42) (r := encs (a :: b :: ts) ++ r) (by rw [hj]; simp [encs, enc])
        obtain ⟨ha, hb⟩ := ok_nd.mp (hts (.nd a b) (List.mem_cons_self ..))
        walk_at "go"
        refine ⟨hl, 42, atI_nat d1, ?_⟩
        walk_at "go"
        refine ⟨(encs (a :: b :: ts)).length, by simp [encs, enc], rfl, a :: b :: ts, j + 1, rfl, ?_, d2, ?_, ?_⟩
        · intro t ht
          rcases List.mem_cons.mp ht with e | ht
          · rw [e]; exact ha
          rcases List.mem_cons.mp ht with e | ht
          · rw [e]; exact hb
          exact hts t (List.mem_cons_of_mem _ ht)
        · rw [hs]
          simp [encs, enc]
          omega
        · rfl
    · intro h0
      have e : ts = [] := List.length_eq_zero_iff.mp (by omega)
      subst e
      walk_at "go"
      rw [hs] at k
      exact k
theorem spEnd_S {l : List Nat} {i : Nat} {H : Hp} {Q : VK} {E : XK} {t : T} {r : List Nat} (hl : l.length ≤ 1000000) (ht : ok t = true) (hd : l.drop i = enc t ++ r) (q : Q (.int ((i + (enc t).length : Nat) : Int)) H) : spEnd [S l, .int (i : Nat)] H Q E := ⟨l, i, t, r, rfl, hl, ht, hd, q⟩
def spPart : Sp := fun vs H Q _ => ∃ (l : List Nat) (i : Nat) (t : Tm) (r : List Nat), vs = [S l, .int (i : Nat)] ∧ l.length ≤ 1000000 ∧ ok t = true ∧ l.drop i = enc t ++ r ∧ Q (S (enc t)) H
theorem ok_part_in (T : Top K mg) : FnOk P w K mg base CX0 2 T.part_in.f T.part_in.fd ["term", "index"] spPart := by
  refine T.part_in.F.ok sc_part_in (fun vs H Q E h => ?_) (fun cdv A outer s H vs Q E hr h => ?_)
  · obtain ⟨l, i, t, r, rfl, _⟩ := h
    rfl
  · obtain ⟨l, i, t, r, rfl, hl, ht, hd, k⟩ := h
    refine ⟨_, (pss_one (ps_ret (pe_slice (kk_sl (K := K) rfl) (pv 0) (po_some (pv 1)) (po_some (callO (ok_end_of T) (hr.mono (by first | decide | omega)) (by rfl) (pa_cons (pv 0) (pa_cons (pv 1) pa_nil))))))), ?_⟩
    rw [st_part_in]
    walk_at "go"
    have hi := drop_in hd
    have hz := drop_len hd hi
    refine spEnd_S hl ht hd ⟨_, rfl, ?_⟩
    walk_at "go"
    refine ⟨hl, ?_⟩
    rw [cutL_both (by omega) (by omega), hd, Nat.add_sub_cancel_left, List.take_left']
    · exact k
    · rfl
def spPut : Sp := fun vs H Q _ => ∃ (l : List Nat) (i : Nat) (t : Tm) (r o : List Nat), vs = [S l, .int (i : Nat), S o] ∧ l.length + o.length ≤ 1000000 ∧ ok t = true ∧ l.drop i = enc t ++ r ∧ Q (S (l.take i ++ o ++ r)) H
theorem ok_put_in (T : Top K mg) : FnOk P w K mg base CX0 2 T.put_in.f T.put_in.fd ["term", "index", "other"] spPut := by
  refine T.put_in.F.ok sc_put_in (fun vs H Q E h => ?_) (fun cdv A outer s H vs Q E hr h => ?_)
  · obtain ⟨l, i, t, r, o, rfl, _⟩ := h
    rfl
  · obtain ⟨l, i, t, r, o, rfl, hl, ht, hd, k⟩ := h
    refine ⟨_, (pss_one (ps_ret (pe_op (kk_add (K := K) rfl) (pe_op (kk_add (K := K) rfl) (pe_slice (kk_sl (K := K) rfl) (pv 0) po_none (po_some (pv 1))) (pv 2)) (pe_slice (kk_sl (K := K) rfl) (pv 0) (po_some (callO (ok_end_of T) (hr.mono (by first | decide | omega)) (by rfl) (pa_cons (pv 0) (pa_cons (pv 1) pa_nil)))) po_none)))), ?_⟩
    rw [st_put_in]
    walk_at "go"
    have hi := drop_in hd
    have hz := drop_len hd hi
    rw [cutL_hi hi, List.length_append, List.length_take]
    refine ⟨by omega, by omega, spEnd_S (by omega) ht hd ⟨_, rfl, ?_⟩⟩
    rw [cutL_lo (by omega), ← List.drop_drop, hd, List.drop_left]
    refine ⟨by omega, by omega, ?_⟩
    exact k
end
end LW

end

section
set_option maxHeartbeats 4000000

namespace LW
open PySem PySem.Spec PyProof.Rows L2 KG KT
local macro_rules | `(tactic| walk_at "go") => `(tactic| try simp only [b_St, b_Sf, b_Et, b_Ef, b_At, b_Af, b_Ot, b_Of, b_AVt, b_AVf, b_OVt, b_OVf, b_Ct, b_Cf, g_seq, g_asg, g_name, g_ret, g_retN, g_next, g_brk, g_cont, g_drop, g_ifS, g_if, g_and, g_or, g_not, g_andV, g_orV, g_notV, g_chain, g_test, g_B, g_op, g_un, g_neg, g_var, g_c, g_nil, g_cons, g_CB, g_call, g_par, g_par3, g_aug, g_sl, g_part, g_nopart, g_tup, g_lst, g_gcons, g_gnil, g_BM, g_dnew, g_yes, g_never, g_tupK, g_listK, g_KCall, g_for1, g_tru, k_then, k_0, k_plain, k_if, k_yield, b_Gt, b_Gf, rx_K, kon_K, g_M1, g_dget2, g_isS, g_wipe0, g_wipe1, g_wipe2, g_wipe3, b_Lt, b_Lf,
  kAdd_i, kAdd_s, kMul_i, kMul_s, kInt_i, kInt0_i, kEq_i, kEq_s, kNe_i, kNe_s, kEq_b, kNe_b, kIn_s, kNotIn_s, kLen_s, kIx_s, kSl_s, kAug_i, kAbs_i, kMax_i, kMin_i, kIntOf_i, kIntOf_b, g_sub, isN_S, isN_i, isN_n, isN_r, notN_S, notN_i, notN_n, notN_r, isN_b, notN_b, tru_b, tru_i, tru_n, ex_bl, ex_int, ex_some, par_2, par_3, isi_S kit_ss, cx_K, cx_Kn, Bool.not_true, Bool.not_false,
  List.set_cons_zero, List.set_cons_succ, List.getElem?_cons_zero, List.getElem?_cons_succ, List.map_cons, List.map_nil, List.append_nil, List.length_cons, List.length_nil, Nat.zero_add, dec_one, true_and, decide_true, decide_false])
local macro_rules | `(tactic| walk_at "br") => `(tactic| first | refine br_W ?_ ?_ | refine br_G ?_ ?_ | refine br_L ?_ ?_ | refine br_Ln ?_ ?_ | refine br_Lm ?_ ?_ | refine br_Lb ?_ ?_ | refine br_S ?_ ?_ | refine br_E ?_ ?_ | refine br_A ?_ ?_ | refine br_O ?_ ?_ | refine br_AV ?_ ?_ | refine br_OV ?_ ?_ | refine br_C ?_ ?_ | refine br_Sn ?_ ?_ | refine br_En ?_ ?_ | refine br_An ?_ ?_ | refine br_On ?_ ?_ | refine br_AVn ?_ ?_ | refine br_OVn ?_ ?_ | refine br_Cn ?_ ?_ | refine br_Sm ?_ ?_ | refine br_Em ?_ ?_ | refine br_Am ?_ ?_ | refine br_Om ?_ ?_ | refine br_AVm ?_ ?_ | refine br_OVm ?_ ?_ | refine br_Cm ?_ ?_ | refine br_Sb ?_ ?_ | refine br_Eb ?_ ?_ | refine br_Ab ?_ ?_ | refine br_Ob ?_ ?_ | refine br_AVb ?_ ?_ | refine br_OVb ?_ ?_ | refine br_Cb ?_ ?_)

section
variable {P : Program} {w : World} {K : PySem.W.Frag} {mg : Str → Option Value} {base : Heap}
abbrev sl_substituted_in : List Str := ["term", "terms", "sign"]
theorem sc_substituted_in : FnScope sl_substituted_in ["term", "terms"] (defScope s_substituted_in) := ⟨rfl, rfl, rfl, by decide +kernel, rfl, by decide +kernel, by decide +kernel⟩
theorem st_substituted_in (v0 : V) (v1 : V) : L2.start sl_substituted_in [v0, v1] = [some v0, some v1, none] := rfl
abbrev sl_match_in : List Str := ["pattern", "term", "found", "at", "sign", "part"]
theorem sc_match_in : FnScope sl_match_in ["pattern", "term"] (defScope s_match_in) := ⟨rfl, rfl, rfl, by decide +kernel, rfl, by decide +kernel, by decide +kernel⟩
theorem st_match_in (v0 : V) (v1 : V) : L2.start sl_match_in [v0, v1] = [some v0, some v1, none, none, none, none] := rfl
theorem spPart_S {l : List Nat} {i : Nat} {H : Hp} {Q : VK} {E : XK} {t : Tm} {r : List Nat} (hl : l.length ≤ 1000000) (ht : ok t = true) (hd : l.drop i = enc t ++ r) (q : Q (S (enc t)) H) : spPart [S l, .int (i : Nat)] H Q E := ⟨l, i, t, r, rfl, hl, ht, hd, q⟩
/-! ### substituted_in -/
def subC (b : List (Nat × List Nat)) (l : List Nat) : List Nat := (l.map fun c => (b.lookup c).getD [c]).flatten
def spSub : Sp := fun vs H Q _ => ∃ (l : List Nat) (d : Addr) (b : List (Nat × List Nat)), vs = [S l, .ref d] ∧ H d = some (.dK (kvs b)) ∧ l.length ≤ 1000 ∧ (subC b l).length ≤ 1000000 ∧ Evl.RetV (S (subC b l)) H Q
theorem ok_substituted_in (T : Top K mg) : FnOk P w K mg base CX0 1 T.substituted_in.f T.substituted_in.fd ["term", "terms"] spSub := by
  refine T.substituted_in.F.ok sc_substituted_in (fun vs H Q E h => ?_) (fun cdv A outer s H vs Q E hr h => ?_)
  · obtain ⟨l, d, b, rfl, _⟩ := h
    rfl
  · obtain ⟨l, d, b, rfl, hd, hl, hz, k⟩ := h
    refine ⟨_, (pss_one (ps_ret (kk_join (K := K) rfl (pe_join (pe_S [] (by decide)) (pe_lc (own := [("sign", 2)]) (by rfl) sc_substituted_in.nd (kk_pi (K := K) rfl (pv 0)) (blkOk_by (own := [("sign", 2)]) (N := sl_substituted_in) (sc := defScope s_substituted_in) (by decide +kernel)) (fun _ _ _ _ _ => (pg_name (i := 2) sc_substituted_in.nd rfl (by first | exact Or.inl rfl | exact Or.inr rfl))) (fun _ _ _ _ _ => pts_nil) (fun _ _ _ _ _ => (pe_dget2 (hu_of hr) (pv 1) (pv 2) (pv 2) ⟨rfl, rfl, rfl, rfl⟩))))))), ?_⟩
    rw [st_substituted_in]
    walk_at "go"
    have hb : ∀ H', Evl.Ex H H' → H' d = some (.dK (kvs b)) := fun H' e => e _ _ hd
    refine lc_S (l := l) (is_var rfl) (fun D i H' => Evl.Ex H H' ∧ H' D = some (.lst ((l.take i).map fun c => S ((b.lookup c).getD [c])))) (fun D hD => ⟨Evl.Ex.new hD, by rw [upd_same]; rfl⟩) ?_ ?_
    · rintro D i c H' hD hi ⟨ex, eD⟩
      walk_at "go"
      refine ⟨d, rfl, .inl ⟨_, .inl (hb H' ex)⟩, (valV (kvs b) (ks c)), (show DGet H' d (S [c]) _ from DGet.k (k := ks c) (hb H' ex)), _, eD, ?_, Evl.Ex.mut ex hD, ?_⟩
      · rw [List.length_map, List.length_take]
        have := line_ge
        omega
      · rw [upd_same, valV_kvs, List.take_add_one, hi]
        cases e : b.lookup c <;> simp [e]
    · rintro D H' hD ⟨ex, eD⟩
      rw [List.take_length] at eD
      refine join_run (a := []) (ls := l.map fun c => (b.lookup c).getD [c]) (.inl (SqL.of ?_)) ?_ ?_
      · rw [List.map_map]
        exact eD
      · have e : ((l.map fun c => (b.lookup c).getD [c]).map (·.length)).sum = (subC b l).length := by
          unfold subC
          rw [List.length_flatten]
        rw [e]
        simp
        exact hz
      · rw [joinL_nil]
        exact k H' ex
/-! ### match_in -/
def matchC : List Nat → List (Nat × Tm) → List Tm → Option (List (Nat × Tm))
  | [], b, _ => some b
  | _ :: _, _, [] => none
  | c :: p, b, t :: ts => if c = 42 then (match t with
      | .nd x y => matchC p b (x :: y :: ts)
      | .lf _ => none)
    else match b.lookup c with
      | none => matchC p (b ++ [(c, t)]) ts
      | some u => if u = t then matchC p b ts else none
theorem matchC_var {c : Nat} (hc : c ≠ 42) {p : List Nat} {b : List (Nat × Tm)} {t : Tm} {ts : List Tm} : matchC (c :: p) b (t :: ts) = match b.lookup c with
      | none => matchC p (b ++ [(c, t)]) ts
      | some u => if u = t then matchC p b ts else none := if_neg hc
theorem lookup_mem {c : Nat} {v : Tm} : ∀ {b : List (Nat × Tm)}, b.lookup c = some v → (c, v) ∈ b
  | [], h => by cases h
  | (d, x) :: r, h => by
    cases e : c == d
    · rw [List.lookup, e] at h
      exact List.mem_cons_of_mem _ (lookup_mem h)
    · rw [List.lookup, e] at h
      cases h
      have : c = d := by simpa using e
      subst this
      exact List.mem_cons_self ..
theorem lookup_encB (c : Nat) : ∀ b : List (Nat × Tm), (b.map fun p => (p.1, enc p.2)).lookup c = (b.lookup c).map enc
  | [] => rfl
  | (d, x) :: r => by
    have ih := lookup_encB c r
    cases h : c == d <;> simp [List.lookup, h, ih]
def encB (b : List (Nat × Tm)) : List (Nat × List Nat) := b.map fun p => (p.1, enc p.2)
def spMatch : Sp := fun vs H Q _ => ∃ (p : List Nat) (t : Tm), vs = [S p, S (enc t)] ∧ ok t = true ∧ p.length ≤ 1000 ∧ (enc t).length ≤ 1000000 ∧
  (matchC p [] [t] = none → Evl.RetV .non H Q) ∧ ∀ b, matchC p [] [t] = some b → ∀ d H2, H d = none → Evl.Ex H H2 → H2 d = some (.dK (kvs (encB b))) → Q (.ref d) H2
theorem ok_match_in (T : Top K mg) : FnOk P w K mg base CX0 3 T.match_in.f T.match_in.fd ["pattern", "term"] spMatch := by
  refine T.match_in.F.ok sc_match_in (fun vs H Q E h => ?_) (fun cdv A outer s H vs Q E hr h => ?_)
  · obtain ⟨p, t, rfl, _⟩ := h
    rfl
  · obtain ⟨p, t, rfl, ht, hp, hl, k1, k2⟩ := h
    refine ⟨_, (pss_cons (ps_par (i := 2) (j := 3) (by rfl) sc_match_in.nd rfl rfl (by decide) rfl rfl (pa_cons pe_dnewK (pa_cons pe_int pa_nil)) rfl) (pss_cons (ps_for PassesOwn.never (by rfl) (kk_pi (K := K) rfl (pv 0)) (pg_name (i := 4) sc_match_in.nd rfl (by first | exact Or.inl rfl | exact Or.inr rfl)) (pss_cons (ps_if (pt_cmpR op_kGe (pv 3) (pe_callB (kk_len (K := K) rfl) (by rfl) T.len (by decide +kernel) (pa_cons (pv 1) pa_nil)) (nomark _)) (pss_one (ps_ret pe_non)) pss_nil) (pss_one (ps_if (pt_cmpR (kk_eq (K := K) rfl hr) (pv 4) (pe_globS [42] (by decide) (by rfl) T.STAR) (nomark _)) (pss_cons (ps_if (pt_cmpR (kk_ne (K := K) rfl hr) (pe_ix (kk_ix (K := K) rfl) (pv 1) (pv 3) (fun _ _ => rfl)) (pe_globS [42] (by decide) (by rfl) T.STAR) (nomark _)) (pss_one (ps_ret pe_non)) pss_nil) (pss_one (ps_aug (i := 3) sc_match_in.nd rfl (by first | exact Or.inl rfl | exact Or.inr rfl) pe_int ip_kAug))) (pss_cons (ps_set (i := 5) sc_match_in.nd rfl (by first | exact Or.inl rfl | exact Or.inr rfl) (callO (ok_part_in T) (hr.mono (by first | decide | omega)) (by rfl) (pa_cons (pv 1) (pa_cons (pv 3) pa_nil)))) (pss_cons (ps_if (pt_cmpR (kk_ne (K := K) rfl hr) (kk_bm (K := K) rfl (pe_bm PySem.F.plainAttrs_dict PySem.F.slot_dict_setdefault PySem.F.type_dict_setdefault mt_setdefault (pv 2) (pa_cons (pv 4) (pa_cons (pv 5) pa_nil)))) (pv 5) (nomark _)) (pss_one (ps_ret pe_non)) pss_nil) (pss_one (ps_aug (i := 3) sc_match_in.nd rfl (by first | exact Or.inl rfl | exact Or.inr rfl) (pe_callB (kk_len (K := K) rfl) (by rfl) T.len (by decide +kernel) (pa_cons (pv 5) pa_nil)) ip_kAug)))))))) (pss_one (ps_ret (pv 2))))), ?_⟩
    rw [st_match_in]
    walk_at "go"
    intro d hd
    refine loop_S (l := p) (is_var rfl) (fun i σ' H' => ∃ (b : List (Nat × Tm)) (ts : List Tm) (j : Nat) (o1 o2 : Option V), σ' = [some (S p), some (S (enc t)), some (.ref d), some (.int (j : Nat)), o1, o2] ∧
      H' d = some (.dK (kvs (encB b))) ∧ Evl.Ex H H' ∧ (enc t).drop j = encs ts ∧ j ≤ (enc t).length ∧ (∀ t ∈ ts, ok t = true) ∧ matchC p [] [t] = matchC (p.drop i) b ts ∧ b.length ≤ i ∧ ∀ q ∈ b, ok q.2 = true)
      ⟨[], [t], 0, none, none, rfl, upd_same, Evl.Ex.new hd, by simp [encs], Nat.zero_le _, by simpa using ht, rfl, Nat.le_refl _, fun q h => by cases h⟩ ?_ ?_
    · rintro i c σ' H' hi ⟨b, ts, j, o1, o2, rfl, eD, ex, hj, hjl, hts, hm, hbl, hbo⟩
      have hi2 := (List.getElem?_eq_some_iff.mp hi).1
      have hdr : p.drop i = c :: p.drop (i + 1) := by
        obtain ⟨hlt, e⟩ := List.getElem?_eq_some_iff.mp hi
        rw [← e, List.drop_eq_getElem_cons hlt]
      rw [hdr] at hm
      walk_at "go"
      refine ⟨hl, ?_⟩
      match ts, hj, hts, hm with
      | [], hj, hts, hm =>
        have hz : (enc t).length ≤ j := by
          have h1 := congrArg List.length hj
          rw [List.length_drop, encs_nil, List.length_nil] at h1
          omega
        rw [decide_eq_true (show ((enc t).length : Int) ≤ (j : Int) by omega)]
        walk_at "go"
        exact k1 hm H' ex
      | u :: ts, hj, hts, hm =>
        have hu := hts u (List.mem_cons_self ..)
        have hts' : ∀ t ∈ ts, ok t = true := fun t h => hts t (List.mem_cons_of_mem _ h)
        have hz := drop_len (e := encs (u :: ts)) (r := []) (by rw [List.append_nil]; exact hj) hjl
        have hzu : (encs (u :: ts)).length = (enc u).length + (encs ts).length := by simp [encs]
        have hpu := enc_len u
        have hpo := sz_pos u
        rw [decide_eq_false (show ¬ ((enc t).length : Int) ≤ (j : Int) by omega)]
        walk_at "go"
        walk_at "br"
        · rintro rfl
          walk_at "go"
          match u, hj, hu, hm, hz, hzu, hpu with
          | .lf c, hj, hu, hm, hz, hzu, hpu =>
            obtain ⟨d1, d2, d3⟩ := drop_at (c := c) (r := encs ts) hj
            refine ⟨hl, c, atI_nat d1, ?_⟩
            walk_at "go"
            rw [decide_eq_false (isL_ne hu)]
            walk_at "go"
            exact k1 hm H' ex
          | .nd x y, hj, hu, hm, hz, hzu, hpu =>
            obtain ⟨d1, d2, d3⟩ := drop_at (c := 42) (r := encs (x :: y :: ts)) (by rw [hj]; simp [encs, enc])
            obtain ⟨hx, hy⟩ := ok_nd.mp hu
            refine ⟨hl, 42, atI_nat d1, ?_⟩
            walk_at "go"
            refine ⟨b, x :: y :: ts, j + 1, _, _, rfl, eD, ex, d2, d3, ?_, hm, by omega, hbo⟩
            intro t ht
            rcases List.mem_cons.mp ht with e | ht
            · rw [e]; exact hx
            rcases List.mem_cons.mp ht with e | ht
            · rw [e]; exact hy
            exact hts' t ht
        · intro hc
          walk_at "go"
          have hm' : matchC p [] [t] = match b.lookup c with
            | none => matchC (p.drop (i + 1)) (b ++ [(c, u)]) ts
            | some v => if v = u then matchC (p.drop (i + 1)) b ts else none := by
            rw [hm, matchC_var hc]
          have hn : (enc t).drop (j + (enc u).length) = encs ts := by
            rw [← List.drop_drop, hj]
            exact List.drop_left
          refine spPart_S hl hu (r := encs ts) hj ?_
          walk_at "go"
          refine ⟨tyDk eD, d, kvs (encB b), ks c, S (enc u), rfl, rfl, eD, ?_, ?_, ?_⟩
          · rw [kvs_len]
            have := line_ge
            simp [encB]
            omega
          · intro v hv
            rw [valV_kvs, show (encB b).lookup c = (b.lookup c).map enc from lookup_encB c b] at hv
            cases e : b.lookup c with
            | none => rw [e] at hv; cases hv
            | some v0 =>
              rw [e] at hv hm'
              cases hv
              have hm2 : matchC p [] [t] = if v0 = u then matchC (p.drop (i + 1)) b ts else none := hm'
              walk_at "go"
              walk_at "br"
              · intro hne
                have e0 : v0 = u := enc_inj' (hbo _ (lookup_mem e)) hu hne
                subst e0
                rw [if_pos rfl] at hm2
                walk_at "go"
                exact ⟨by omega, b, ts, j + (enc v0).length, _, _, rfl, eD, ex, hn, by omega, hts', hm2, by omega, hbo⟩
              · intro hne
                have e0 : ¬ v0 = u := fun z => hne (by rw [z])
                rw [if_neg e0] at hm2
                walk_at "go"
                exact k1 hm2 H' ex
          · intro hv
            rw [valV_kvs, show (encB b).lookup c = (b.lookup c).map enc from lookup_encB c b] at hv
            cases e : b.lookup c with
            | some v0 => rw [e] at hv; cases hv
            | none =>
              rw [e] at hm'
              have hm2 : matchC p [] [t] = matchC (p.drop (i + 1)) (b ++ [(c, u)]) ts := hm'
              have e2 : (encB b).lookup c = none := by
                rw [show (encB b).lookup c = (b.lookup c).map enc from lookup_encB c b, e] <;> rfl
              walk_at "go"
              refine ⟨by omega, b ++ [(c, u)], ts, j + (enc u).length, _, _, rfl, ?_, Evl.Ex.mut ex hd, hn, by omega, hts', hm2, by simp; omega, ?_⟩
              · rw [upd_same, putK_kvs e2]
                simp [encB]
              · intro q hq
                rcases List.mem_append.mp hq with hq | hq
                · exact hbo q hq
                · cases List.mem_singleton.mp hq
                  exact hu
    · rintro σ' H' ⟨b, ts, j, o1, o2, rfl, eD, ex, hj, hjl, hts, hm, hbl, hbo⟩
      walk_at "go"
      rw [List.drop_length] at hm
      exact k2 b hm d H' hd ex eD
end
end LW

end

section
set_option maxHeartbeats 4000000

namespace LW
open PySem PySem.Spec PyProof.Rows L2 KG KT
local macro_rules | `(tactic| walk_at "go") => `(tactic| try simp only [b_St, b_Sf, b_Et, b_Ef, b_At, b_Af, b_Ot, b_Of, b_AVt, b_AVf, b_OVt, b_OVf, b_Ct, b_Cf, g_seq, g_asg, g_name, g_ret, g_retN, g_next, g_brk, g_cont, g_drop, g_ifS, g_if, g_and, g_or, g_not, g_andV, g_orV, g_notV, g_chain, g_test, g_B, g_op, g_un, g_neg, g_var, g_c, g_nil, g_cons, g_CB, g_call, g_par, g_par3, g_aug, g_sl, g_part, g_nopart, g_tup, g_lst, g_gcons, g_gnil, g_BM, g_dnew, g_yes, g_never, g_tupK, g_listK, g_KCall, g_for1, g_tru, k_then, k_0, k_plain, k_if, k_yield, b_Gt, b_Gf, rx_K, kon_K, g_M1, g_dget2, g_isS, g_wipe0, g_wipe1, g_wipe2, g_wipe3, b_Lt, b_Lf,
  kAdd_i, kAdd_s, kMul_i, kMul_s, kInt_i, kInt0_i, kEq_i, kEq_s, kNe_i, kNe_s, kEq_b, kNe_b, kIn_s, kNotIn_s, kLen_s, kIx_s, kSl_s, kAug_i, kAbs_i, kMax_i, kMin_i, kIntOf_i, kIntOf_b, g_sub, isN_S, isN_i, isN_n, isN_r, notN_S, notN_i, notN_n, notN_r, isN_b, notN_b, tru_b, tru_i, tru_n, ex_bl, ex_int, ex_some, par_2, par_3, isi_S kit_ss, cx_K, cx_Kn, Bool.not_true, Bool.not_false,
  List.set_cons_zero, List.set_cons_succ, List.getElem?_cons_zero, List.getElem?_cons_succ, List.map_cons, List.map_nil, List.append_nil, List.length_cons, List.length_nil, Nat.zero_add, dec_one, true_and, decide_true, decide_false])
local macro_rules | `(tactic| walk_at "br") => `(tactic| first | refine br_W ?_ ?_ | refine br_G ?_ ?_ | refine br_L ?_ ?_ | refine br_Ln ?_ ?_ | refine br_Lm ?_ ?_ | refine br_Lb ?_ ?_ | refine br_S ?_ ?_ | refine br_E ?_ ?_ | refine br_A ?_ ?_ | refine br_O ?_ ?_ | refine br_AV ?_ ?_ | refine br_OV ?_ ?_ | refine br_C ?_ ?_ | refine br_Sn ?_ ?_ | refine br_En ?_ ?_ | refine br_An ?_ ?_ | refine br_On ?_ ?_ | refine br_AVn ?_ ?_ | refine br_OVn ?_ ?_ | refine br_Cn ?_ ?_ | refine br_Sm ?_ ?_ | refine br_Em ?_ ?_ | refine br_Am ?_ ?_ | refine br_Om ?_ ?_ | refine br_AVm ?_ ?_ | refine br_OVm ?_ ?_ | refine br_Cm ?_ ?_ | refine br_Sb ?_ ?_ | refine br_Eb ?_ ?_ | refine br_Ab ?_ ?_ | refine br_Ob ?_ ?_ | refine br_AVb ?_ ?_ | refine br_OVb ?_ ?_ | refine br_Cb ?_ ?_)

/-! ### the three rules, by texts -/
def outC (p r : List Nat) (n : Nat) (t : Tm) : List (Nat × List Nat) := match matchC p [] [t] with
  | none => []
  | some b => [(n, subC (encB b) r)]
theorem out1 (t : Tm) : outC [42, 42, 120, 121, 42, 121, 122] [121] 1 t = (red1 t).map fun q => (q.1, enc q.2) := by
  match t with
  | .lf c => rfl
  | .nd (.lf c) b => rfl
  | .nd (.nd x y) (.lf c) => rfl
  | .nd (.nd x y) (.nd y' z) =>
    by_cases h : y = y'
    · subst h
      simp [outC, matchC, red1, List.lookup, subC, encB]
    · simp [outC, matchC, red1, List.lookup, subC, encB, h]
theorem out2 (t : Tm) : outC [42, 120, 42, 42, 120, 121, 122] [42, 120, 121] 2 t = (red2 t).map fun q => (q.1, enc q.2) := by
  match t with
  | .lf c => rfl
  | .nd x (.lf c) => rfl
  | .nd x (.nd (.lf c) z) => rfl
  | .nd x (.nd (.nd x' y) z) =>
    by_cases h : x' = x
    · subst h
      simp [outC, matchC, red2, List.lookup, subC, encB, enc]
    · have h2 : ¬ x = x' := fun e => h e.symm
      simp [outC, matchC, red2, List.lookup, subC, encB, h, h2]
theorem out3 (t : Tm) : outC [42, 42, 120, 42, 121, 122, 122] [42, 121, 122] 3 t = (red3 t).map fun q => (q.1, enc q.2) := by
  match t with
  | .lf c => rfl
  | .nd (.lf c) z => rfl
  | .nd (.nd x (.lf c)) z => rfl
  | .nd (.nd x (.nd y z')) z =>
    by_cases h : z' = z
    · subst h
      simp [outC, matchC, red3, List.lookup, subC, encB, enc]
    · simp [outC, matchC, red3, List.lookup, subC, encB, h]
theorem red_len (t : Tm) : (red t).length ≤ 3 := by
  have h1 : (red1 t).length ≤ 1 := by
    unfold red1
    split
    · split <;> simp
    · simp
  have h2 : (red2 t).length ≤ 1 := by
    unfold red2
    split
    · split <;> simp
    · simp
  have h3 : (red3 t).length ≤ 1 := by
    unfold red3
    split
    · split <;> simp
    · simp
  unfold red
  rw [List.length_append, List.length_append]
  omega
theorem stepsFrom_len : ∀ (ps : List (Tm × (Tm → Tm))) (i : Nat), (stepsFrom i ps).length ≤ 3 * ps.length
  | [], _ => by simp [stepsFrom]
  | p :: ps, i => by
    have h1 := stepsFrom_len ps (i + 1)
    have h2 := red_len p.1
    simp only [stepsFrom, stepsAt, List.length_append, List.length_map, List.length_cons]
    omega
theorem steps_len (t : Tm) : (steps t).length ≤ 3 * (enc t).length := by
  have h := stepsFrom_len (subs t) 0
  rw [subs_len] at h
  exact h
/-- a step as it is told -/
def tellS (s : Nat × Nat × Tm) (H : Hp) (v : V) : Prop := ∃ a, v = .ref a ∧ H a = some (.tup [.int (s.1 : Nat), .int (s.2.1 : Nat), S (enc s.2.2)])
abbrev Told (H : Hp) (ys : List V) (ss : List (Nat × Nat × Tm)) : Prop := Paired (fun v s => tellS s H v) ys ss
theorem tellS.mono {s : Nat × Nat × Tm} {H H' : Hp} {v : V} (e : Evl.Ex H H') : tellS s H v → tellS s H' v
  | ⟨a, h1, h2⟩ => ⟨a, h1, e _ _ h2⟩
theorem Told.mono {H H' : Hp} (e : Evl.Ex H H') : ∀ {ys : List V} {ss : List (Nat × Nat × Tm)}, Told H ys ss → Told H' ys ss
  | _, _, .nil => .nil
  | _, _, .cons h t => .cons (h.mono e) (Told.mono e t)
theorem Told.snoc {H : Hp} {x : V} {s : Nat × Nat × Tm} (h : tellS s H x) : ∀ {ys : List V} {ss : List (Nat × Nat × Tm)}, Told H ys ss → Told H (ys ++ [x]) (ss ++ [s])
  | _, _, .nil => .cons h .nil
  | _, _, .cons h' t => .cons h' (Told.snoc h t)
/-- the rules' outcomes from the n-th one on -/
def redFrom (n : Nat) (s : Tm) : List (Nat × Tm) := match n with
  | 0 => red1 s ++ (red2 s ++ red3 s)
  | 1 => red2 s ++ red3 s
  | 2 => red3 s
  | _ => []
def ruleP (n : Nat) : List Nat := match n with
  | 0 => [42, 42, 120, 121, 42, 121, 122]
  | 1 => [42, 120, 42, 42, 120, 121, 122]
  | _ => [42, 42, 120, 42, 121, 122, 122]
def ruleR (n : Nat) : List Nat := match n with
  | 0 => [121]
  | 1 => [42, 120, 121]
  | _ => [42, 121, 122]
theorem redFrom_step {n : Nat} (h : n < 3) (s : Tm) : (matchC (ruleP n) [] [s] = none ∧ redFrom n s = redFrom (n + 1) s) ∨
    ∃ b u, matchC (ruleP n) [] [s] = some b ∧ redFrom n s = (n + 1, u) :: redFrom (n + 1) s ∧ enc u = subC (encB b) (ruleR n) := by
  have key : ∀ (p r : List Nat) (k : Nat) (l : List (Nat × Tm)), outC p r k s = l.map (fun q => (q.1, enc q.2)) → (matchC p [] [s] = none ∧ l = []) ∨ ∃ b u, matchC p [] [s] = some b ∧ l = [(k, u)] ∧ enc u = subC (encB b) r := by
    intro p r k l e
    unfold outC at e
    cases m : matchC p [] [s] with
    | none =>
      rw [m] at e
      exact .inl ⟨rfl, List.map_eq_nil_iff.mp e.symm⟩
    | some b =>
      rw [m] at e
      match l, e with
      | [(k', u)], e =>
        simp only [List.map_cons, List.map_nil, List.cons.injEq, Prod.mk.injEq, and_true] at e
        exact .inr ⟨b, u, rfl, by rw [e.1], e.2.symm⟩
      | [], e => simp at e
      | _ :: _ :: _, e => simp at e
  match n, h with
  | 0, _ =>
    rcases key _ _ _ _ (out1 s) with ⟨h1, h2⟩ | ⟨b, u, h1, h2, h3⟩
    · exact .inl ⟨h1, by show red1 s ++ _ = _; rw [h2]; rfl⟩
    · exact .inr ⟨b, u, h1, by show red1 s ++ _ = _; rw [h2]; rfl, h3⟩
  | 1, _ =>
    rcases key _ _ _ _ (out2 s) with ⟨h1, h2⟩ | ⟨b, u, h1, h2, h3⟩
    · exact .inl ⟨h1, by show red2 s ++ _ = _; rw [h2]; rfl⟩
    · exact .inr ⟨b, u, h1, by show red2 s ++ _ = _; rw [h2]; rfl, h3⟩
  | 2, _ =>
    rcases key _ _ _ _ (out3 s) with ⟨h1, h2⟩ | ⟨b, u, h1, h2, h3⟩
    · exact .inl ⟨h1, by show red3 s = _; rw [h2]; rfl⟩
    · exact .inr ⟨b, u, h1, by show red3 s = _; rw [h2]; rfl, h3⟩
theorem redFrom_lf (n c : Nat) : redFrom n (.lf c) = [] := by
  unfold redFrom
  split <;> rfl
theorem redFrom_sub {n r : Nat} {s u : Tm} (h : (r, u) ∈ redFrom n s) : (r, u) ∈ red s := by
  unfold redFrom at h
  unfold red
  split at h
  · exact h
  · exact List.mem_append_right _ h
  · exact List.mem_append_right _ (List.mem_append_right _ h)
  · cases h
theorem head_of {s : Tm} {l r : List Nat} {i c : Nat} (hs : ok s = true) (h : l.drop i = enc s ++ r) (hc : l[i]? = some c) : (c = 42 ∧ ∃ a b, s = .nd a b) ∨ (c ≠ 42 ∧ s = .lf c) := by
  match s, hs, h with
  | .lf d, hs, h =>
    obtain ⟨d1, _, _⟩ := drop_at (c := d) (r := r) h
    rw [hc] at d1
    cases d1
    exact .inr ⟨isL_ne hs, rfl⟩
  | .nd a b, hs, h =>
    obtain ⟨d1, _, _⟩ := drop_at (c := 42) (r := enc a ++ enc b ++ r) (by rw [h]; simp [enc])
    rw [hc] at d1
    cases d1
    exact .inl ⟨rfl, a, b, rfl⟩
section
variable {P : Program} {w : World} {K : PySem.W.Frag} {mg : Str → Option Value} {base : Heap}
abbrev sl_each_step : List Str := ["term", "index", "sign", "part", "number", "left", "right", "found"]
theorem sc_each_step : GScope sl_each_step ["term"] (defScope s_each_step) := ⟨rfl, rfl, rfl, by decide +kernel, rfl, by decide +kernel, by decide +kernel⟩
theorem st_each_step (v0 : V) : L2.start sl_each_step [v0] = [some v0, none, none, none, none, none, none, none] := rfl
def spEach : SpK := fun vs Hs yl Q _ => ∃ t : Tm, vs = [S (enc t)] ∧ ok t = true ∧ (enc t).length ≤ 100000 ∧
  (∀ ys x H' s, (steps t)[ys.length]? = some s → Told H' ys ((steps t).take ys.length) → tellS s H' x → yl ys x H') ∧ ∀ ys H', Told H' ys (steps t) → Q ys H'
theorem gen_each_step (T : Top K mg) : KFn P w K mg base 5 T.each_step.f T.each_step.fd ["term"] spEach := by
  refine gen_ok T.each_step.F sc_each_step (fun vs H yl Q E h => ?_) (fun cdv A outer sc Hs vs yl Q E a go Ss Gh hr rg h => ?_)
  · obtain ⟨t, rfl, _⟩ := h
    rfl
  · obtain ⟨t, rfl, ht, hl, hy, hq⟩ := h
    refine ⟨_, (kss_one (ks_for (fun _ => PassesOwn.leaving) (fun _ => (pi_enumS (by rfl) T.enumerate (pa_cons (pv 0) pa_nil))) (fun _ => (kk_gtup (K := K) rfl (pg_tup (n := 2) (by rfl) (pgs_cons (pg_name (i := 1) sc_each_step.nd rfl (by first | exact Or.inl rfl | exact Or.inr rfl)) (pgs_cons (pg_name (i := 2) sc_each_step.nd rfl (by first | exact Or.inl rfl | exact Or.inr rfl)) pgs_nil))))) (kss_cons (ks_ps (fun _ => (ps_set (i := 3) sc_each_step.nd rfl (by first | exact Or.inl rfl | exact Or.inr rfl) (pe_ifExp (pt_cmpR (kk_eq (K := K) rfl hr) (pv 2) (pe_globS [42] (by decide) (by rfl) T.STAR) (nomark _)) (callO (ok_part_in T) (hr.mono (by first | decide | omega)) (by rfl) (pa_cons (pv 0) (pa_cons (pv 1) pa_nil))) (pe_S [] (by decide)))))) (kss_one (ks_for (fun _ => PassesOwn.leaving) (fun _ => (kk_piT (K := K) rfl (pi_enumT (by rfl) T.enumerate (pa_cons (pe_globR (by rfl) T.RULES) pa_nil)))) (fun _ => (kk_gtup (K := K) rfl (pg_tup (n := 2) (by rfl) (pgs_cons (pg_name (i := 4) sc_each_step.nd rfl (by first | exact Or.inl rfl | exact Or.inr rfl)) (pgs_cons (kk_gtup (K := K) rfl (pg_tup (n := 2) (by rfl) (pgs_cons (pg_name (i := 5) sc_each_step.nd rfl (by first | exact Or.inl rfl | exact Or.inr rfl)) (pgs_cons (pg_name (i := 6) sc_each_step.nd rfl (by first | exact Or.inl rfl | exact Or.inr rfl)) pgs_nil)))) pgs_nil))))) (kss_cons (ks_ps (fun _ => (ps_set (i := 7) sc_each_step.nd rfl (by first | exact Or.inl rfl | exact Or.inr rfl) (pe_ifExp (pt_cmpR (kk_ne (K := K) rfl hr) (pv 3) (pe_S [] (by decide)) (nomark _)) (callO (ok_match_in T) (hr.mono (by first | decide | omega)) (by rfl) (pa_cons (pv 5) (pa_cons (pv 3) pa_nil))) pe_non)))) (kss_one (ks_if (fun _ => (pt_cmpR op_kNotN (pv 7) pe_non (nomark _))) (kss_one (ks_yield rg (fun _ => (pe_tup (pa_cons (pv 1) (pa_cons (pe_op (kk_add (K := K) rfl) (pv 4) pe_int) (pa_cons (callO (ok_put_in T) (hr.mono (by first | decide | omega)) (by rfl) (pa_cons (pv 0) (pa_cons (pv 1) (pa_cons (callO (ok_substituted_in T) (hr.mono (by first | decide | omega)) (by rfl) (pa_cons (pv 6) (pa_cons (pv 7) pa_nil))) pa_nil)))) pa_nil))))))) kss_nil)))))))), ?_⟩
    rw [st_each_step]
    walk_at "go"
    refine kloop_eS (l := enc t) (fun Q q => ⟨_, rfl, q⟩) (fun i ys σ H' => ∃ (o1 o2 o3 o4 o5 o6 o7 : Option V) (dn : List (Nat × Nat × Tm)), σ = [some (S (enc t)), o1, o2, o3, o4, o5, o6, o7] ∧ Told H' ys dn ∧ steps t = dn ++ stepsFrom i ((subs t).drop i))
      ⟨none, none, none, none, none, none, none, [], rfl, .nil, rfl⟩ ?_ ?_
    · rintro i c ys σ H1 A1 hc hA1 ⟨o1, o2, o3, o4, o5, o6, o7, dn, rfl, told, hst⟩
      have ex1 : Evl.Ex H1 (upd H1 A1 (.tup [.int (i : Nat), S [c]])) := Evl.Ex.new hA1
      refine g_unpack (SqT.of upd_same) rfl ?_
      walk_at "go"
      have hi := (List.getElem?_eq_some_iff.mp hc).1
      obtain ⟨s, f, hsf⟩ := subs_some t hi
      obtain ⟨f1, f2, f3, f4, f5⟩ := subs_at t i s f hsf
      obtain ⟨os, of⟩ := f4 ht
      have hdrop : (subs t).drop i = (s, f) :: (subs t).drop (i + 1) := by
        obtain ⟨hlt, e⟩ := List.getElem?_eq_some_iff.mp hsf
        rw [← e, List.drop_eq_getElem_cons hlt]
      have hst2 : steps t = dn ++ ((redFrom 0 s).map (fun q => (i, q.1, f q.2)) ++ stepsFrom (i + 1) ((subs t).drop (i + 1))) := by
        rw [hst, hdrop]
        rfl
      have told1 := told.mono ex1
      generalize hG : upd H1 A1 (HO.tup [V.int (i : Nat), S [c]]) = G1 at told1 ⊢
      -- the three rules at this part, its text pt
      have inner : ∀ pt : List Nat, (pt = enc s ∨ (pt = [] ∧ ∃ d, s = .lf d)) → (pt = [] → ∃ d, s = .lf d) →
        tGThen (tGFor (iEnumT K (tCons (tC (V.ref T.RULESa)) tNil)) (gTup K 2 (gCons (gName 4) (gCons (gTup K 2 (gCons (gName 5) (gCons (gName 6) gNil))) gNil)))
          (tGThen (tPlain (tAsg (tIf (tTest (tOp (kNe K) (tVar 3) (tC (S [])))) (tCall spMatch [] E0 (tCons (tVar 5) (tCons (tVar 3) tNil))) (tC V.non)) (gName 7)))
            (tGThen (tGIf (tTest (tOp kNotN (tVar 7) (tC V.non)))
                (tGThen (tKYield yl (tTup (tCons (tVar 1) (tCons (tOp (kAdd K) (tVar 4) (tC (V.int 1))) (tCons (tCall spPut [] E0 (tCons (tVar 0) (tCons (tVar 1) (tCons (tCall spSub [] E0 (tCons (tVar 6) (tCons (tVar 7) tNil))) tNil)))) tNil))))) tG0) tG0) tG0))) tG0
          { nx := fun ys σ H' => ∃ (o1 o2 o3 o4 o5 o6 o7 : Option V) (dn : List (Nat × Nat × Tm)), σ = [some (S (enc t)), o1, o2, o3, o4, o5, o6, o7] ∧ Told H' ys dn ∧ steps t = dn ++ stepsFrom (i + 1) ((subs t).drop (i + 1)),
            rt := fun ys v H' => v = V.non ∧ Q ys H', bk := fun ys x H' => Q ys H', ct := fun ys σ H' => ∃ (o1 o2 o3 o4 o5 o6 o7 : Option V) (dn : List (Nat × Nat × Tm)), σ = [some (S (enc t)), o1, o2, o3, o4, o5, o6, o7] ∧ Told H' ys dn ∧ steps t = dn ++ stepsFrom (i + 1) ((subs t).drop (i + 1)) } ys
          [some (S (enc t)), some (V.int (i : Nat)), some (S [c]), some (S pt), o4, o5, o6, o7] G1 := by
        intro pt hpt hpt2
        walk_at "go"
        refine kloop_eT (a := T.RULESa) (xs := [.ref T.r1, .ref T.r2, .ref T.r3]) (fun Q q => q) (fun n ys σ H' => ∃ (p4 p5 p6 p7 : Option V) (dn : List (Nat × Nat × Tm)), σ = [some (S (enc t)), some (V.int (i : Nat)), some (S [c]), some (S pt), p4, p5, p6, p7] ∧ Told H' ys dn ∧
            steps t = dn ++ ((redFrom n s).map (fun q => (i, q.1, f q.2)) ++ stepsFrom (i + 1) ((subs t).drop (i + 1)))) ⟨o4, o5, o6, o7, dn, rfl, told1, hst2⟩ (fun _ _ _ _ _ => T.t0.sq) ?_ ?_
        · rintro n x ys2 σ2 H2 A2 hx hA2 ⟨p4, p5, p6, p7, dn2, rfl, told2, hst3⟩
          obtain ⟨hn, r, rfl, hr2⟩ : n < 3 ∧ ∃ r, x = .ref r ∧ KTup K r [S (ruleP n), S (ruleR n)] := by
            match n, hx with
            | 0, hx => cases hx; exact ⟨by omega, _, rfl, T.t1⟩
            | 1, hx => cases hx; exact ⟨by omega, _, rfl, T.t2⟩
            | 2, hx => cases hx; exact ⟨by omega, _, rfl, T.t3⟩
            | n + 3, hx => simp at hx
          have told3 := told2.mono (Evl.Ex.new (o := .tup [.int (n : Nat), .ref r]) hA2)
          refine g_unpack (SqT.of upd_same) rfl ?_
          walk_at "go"
          refine g_unpack hr2.sq rfl ?_
          walk_at "go"
          generalize hG2 : upd H2 A2 (HO.tup [V.int (n : Nat), V.ref r]) = G2 at told3 ⊢
          -- nothing found at this rule
          have none_ : redFrom n s = redFrom (n + 1) s → ∀ G3, Evl.Ex G2 G3 → ∃ (p4 p5 p6 p7 : Option V) (dn : List (Nat × Nat × Tm)), [some (S (enc t)), some (V.int (i : Nat)), some (S [c]), some (S pt), some (V.int (n : Nat)), some (S (ruleP n)), some (S (ruleR n)), some V.non] = [some (S (enc t)), some (V.int (i : Nat)), some (S [c]), some (S pt), p4, p5, p6, p7] ∧ Told G3 ys2 dn ∧
              steps t = dn ++ ((redFrom (n + 1) s).map (fun q => (i, q.1, f q.2)) ++ stepsFrom (i + 1) ((subs t).drop (i + 1))) := fun e G3 ex3 => ⟨_, _, _, _, dn2, rfl, told3.mono ex3, by rw [hst3, e]⟩
          walk_at "br"
          · intro hp0
            obtain ⟨d, rfl⟩ := hpt2 hp0
            walk_at "go"
            exact none_ (by rw [redFrom_lf, redFrom_lf]) G2 (Evl.Ex.refl _)
          · intro hp0
            rcases hpt with hpt | ⟨h0, _⟩
            · subst hpt
              walk_at "go"
              have hls : (enc s).length ≤ 100000 := by
                have := drop_len f2 (Nat.le_of_lt hi)
                omega
              refine ⟨ruleP n, s, rfl, os, ?_, by omega, fun hm G3 ex3 => ?_, fun b hb d G3 hd ex3 eD => ?_⟩
              · unfold ruleP
                split <;> decide
              · walk_at "go"
                rcases redFrom_step hn s with ⟨_, e⟩ | ⟨b, u, e, _⟩
                · exact none_ e G3 ex3
                · rw [hm] at e; cases e
              · walk_at "go"
                rcases redFrom_step hn s with ⟨e, _⟩ | ⟨b', u, e, hru, heu⟩
                · rw [hb] at e; cases e
                rw [hb] at e
                cases e
                have hmem : (n + 1, u) ∈ red s := redFrom_sub (by rw [hru]; exact List.mem_cons_self ..)
                obtain ⟨u1, u2, _⟩ := red_sz hmem
                have hlu := enc_len u
                have hls2 := enc_len s
                have hlt2 := enc_len t
                have hst4 : steps t = dn2 ++ ((i, n + 1, f u) :: ((redFrom (n + 1) s).map (fun q => (i, q.1, f q.2)) ++ stepsFrom (i + 1) ((subs t).drop (i + 1)))) := by
                  rw [hst3, hru]
                  rfl
                have hys := told2.length
                have hlen := congrArg List.length hst4
                rw [List.length_append, List.length_cons] at hlen
                have hsl := steps_len t
                have hline := line_ge
                refine ⟨by omega, ruleR n, d, encB b, rfl, eD, ?_, by rw [← heu]; omega, fun G4 ex4 => ?_⟩
                · unfold ruleR
                  split <;> decide
                · refine ⟨enc t, i, s, (enc t).drop (i + (enc s).length), subC (encB b) (ruleR n), rfl, by rw [← heu]; omega, os, f2, ⟨by omega, fun p hp => ?_⟩⟩
                  rw [← heu, ← f1 u]
                  have hx : tellS (i, n + 1, f u) (upd G4 p (HO.tup [V.int (i : Nat), V.int ((n : Nat) + 1), S (enc (f u))])) (.ref p) := ⟨p, rfl, upd_same⟩
                  have told5 := told3.mono ((ex3.trans ex4).trans (Evl.Ex.new (o := .tup [V.int (i : Nat), V.int ((n : Nat) + 1), S (enc (f u))]) hp))
                  refine ⟨hy _ _ _ (i, n + 1, f u) ?_ ?_ hx, _, _, _, _, dn2 ++ [(i, n + 1, f u)], rfl, Told.snoc hx told5, ?_⟩
                  · rw [hys, hst4]
                    simp
                  · rw [hys, hst4, List.take_left]
                    exact told5
                  · rw [hst4, List.append_assoc]
                    rfl
            · exact absurd h0 hp0
        · rintro ys2 σ2 H2 ⟨p4, p5, p6, p7, dn2, rfl, told2, hst3⟩
          walk_at "go"
          exact ⟨_, _, _, _, _, _, _, dn2, rfl, told2, hst3⟩
      walk_at "br"
      · rintro rfl
        walk_at "go"
        refine spPart_S (by omega) os f2 ?_
        walk_at "go"
        exact inner (enc s) (.inl rfl) (fun z => by
          have h1 := enc_len s
          have h2 := sz_pos s
          rw [z] at h1
          simp at h1
          omega)
      · intro hc42
        walk_at "go"
        have h : ∃ d, s = KT.T.lf d := by
          rcases head_of os f2 hc with ⟨z, _⟩ | ⟨_, z⟩
          · exact absurd z hc42
          · exact ⟨_, z⟩
        exact inner [] (.inr ⟨rfl, h⟩) (fun _ => h)
    · rintro ys σ H1 ⟨o1, o2, o3, o4, o5, o6, o7, dn, rfl, told, hst⟩
      rw [List.drop_of_length_le (by rw [subs_len]; exact Nat.le_refl _)] at hst
      have e : steps t = dn := by rw [hst]; simp [stepsFrom]
      walk_at "go"
      exact hq ys H1 (by rw [e]; exact told)
end
end LW

end

section
set_option maxHeartbeats 4000000

namespace LW
open PySem PySem.Spec PyProof.Rows L2 KG KT
local macro_rules | `(tactic| walk_at "go") => `(tactic| try simp only [b_St, b_Sf, b_Et, b_Ef, b_At, b_Af, b_Ot, b_Of, b_AVt, b_AVf, b_OVt, b_OVf, b_Ct, b_Cf, g_seq, g_asg, g_name, g_ret, g_retN, g_next, g_brk, g_cont, g_drop, g_ifS, g_if, g_and, g_or, g_not, g_andV, g_orV, g_notV, g_chain, g_test, g_B, g_op, g_un, g_neg, g_var, g_c, g_nil, g_cons, g_CB, g_call, g_par, g_par3, g_aug, g_sl, g_part, g_nopart, g_tup, g_lst, g_gcons, g_gnil, g_BM, g_dnew, g_yes, g_never, g_tupK, g_listK, g_KCall, g_for1, g_tru, k_then, k_0, k_plain, k_if, k_yield, b_Gt, b_Gf, rx_K, kon_K, g_M1, g_dget2, g_isS, g_wipe0, g_wipe1, g_wipe2, g_wipe3, b_Lt, b_Lf,
  kAdd_i, kAdd_s, kMul_i, kMul_s, kInt_i, kInt0_i, kEq_i, kEq_s, kNe_i, kNe_s, kEq_b, kNe_b, kIn_s, kNotIn_s, kLen_s, kIx_s, kSl_s, kAug_i, kAbs_i, kMax_i, kMin_i, kIntOf_i, kIntOf_b, g_sub, isN_S, isN_i, isN_n, isN_r, notN_S, notN_i, notN_n, notN_r, isN_b, notN_b, tru_b, tru_i, tru_n, ex_bl, ex_int, ex_some, par_2, par_3, isi_S kit_ss, cx_K, cx_Kn, Bool.not_true, Bool.not_false,
  List.set_cons_zero, List.set_cons_succ, List.getElem?_cons_zero, List.getElem?_cons_succ, List.map_cons, List.map_nil, List.append_nil, List.length_cons, List.length_nil, Nat.zero_add, dec_one, true_and, decide_true, decide_false])
local macro_rules | `(tactic| walk_at "br") => `(tactic| first | refine br_W ?_ ?_ | refine br_G ?_ ?_ | refine br_L ?_ ?_ | refine br_Ln ?_ ?_ | refine br_Lm ?_ ?_ | refine br_Lb ?_ ?_ | refine br_S ?_ ?_ | refine br_E ?_ ?_ | refine br_A ?_ ?_ | refine br_O ?_ ?_ | refine br_AV ?_ ?_ | refine br_OV ?_ ?_ | refine br_C ?_ ?_ | refine br_Sn ?_ ?_ | refine br_En ?_ ?_ | refine br_An ?_ ?_ | refine br_On ?_ ?_ | refine br_AVn ?_ ?_ | refine br_OVn ?_ ?_ | refine br_Cn ?_ ?_ | refine br_Sm ?_ ?_ | refine br_Em ?_ ?_ | refine br_Am ?_ ?_ | refine br_Om ?_ ?_ | refine br_AVm ?_ ?_ | refine br_OVm ?_ ?_ | refine br_Cm ?_ ?_ | refine br_Sb ?_ ?_ | refine br_Eb ?_ ?_ | refine br_Ab ?_ ?_ | refine br_Ob ?_ ?_ | refine br_AVb ?_ ?_ | refine br_OVb ?_ ?_ | refine br_Cb ?_ ?_)

section
variable {P : Program} {w : World} {K : PySem.W.Frag} {mg : Str → Option Value} {base : Heap}
abbrev sl_require_term : List Str := ["value"]
theorem sc_require_term : FnScope sl_require_term ["value"] (defScope s_require_term) := ⟨rfl, rfl, rfl, by decide +kernel, rfl, by decide +kernel, by decide +kernel⟩
theorem st_require_term (v0 : V) : L2.start sl_require_term [v0] = [some v0] := rfl
abbrev sl_first_step : List Str := ["term", "step"]
theorem sc_first_step : FnScope sl_first_step ["term"] (defScope s_first_step) := ⟨rfl, rfl, rfl, by decide +kernel, rfl, by decide +kernel, by decide +kernel⟩
theorem st_first_step (v0 : V) : L2.start sl_first_step [v0] = [some v0, none] := rfl
abbrev sl_has_step : List Str := ["term"]
theorem sc_has_step : FnScope sl_has_step ["term"] (defScope s_has_step) := ⟨rfl, rfl, rfl, by decide +kernel, rfl, by decide +kernel, by decide +kernel⟩
theorem st_has_step (v0 : V) : L2.start sl_has_step [v0] = [some v0] := rfl
theorem len_of {t : Tm} (h : sz t ≤ 400) : (enc t).length ≤ 1000 := by
  have := enc_len t
  omega
theorem spTerm_S {l : List Nat} {H : Hp} {Q : VK} {E : XK} (hl : l.length ≤ 1000000) (q : Q (.bl (isT l)) H) : spTerm K [S l] H Q E := .inl ⟨l, rfl, hl, q⟩
def spReq : Sp := fun vs H Q _ => ∃ t : Tm, vs = [S (enc t)] ∧ ok t = true ∧ sz t ≤ 200 ∧ Q .non H
theorem ok_require_term (T : Top K mg) : FnOk P w K mg base CX0 3 T.require_term.f T.require_term.fd ["value"] spReq := by
  refine T.require_term.F.ok sc_require_term (fun vs H Q E h => ?_) (fun cdv A outer s H vs Q E hr h => ?_)
  · obtain ⟨t, rfl, _⟩ := h
    rfl
  · obtain ⟨t, rfl, ht, hz, k⟩ := h
    refine ⟨_, (pss_one (ps_if (pt_not (kk_tru (K := K) rfl (pt_truth (callO (ok_is_term T) (hr.mono (by first | decide | omega)) (by rfl) (pa_cons (pv 0) pa_nil)) (fun _ => rfl)))) (pss_one ps_never) pss_nil)), ?_⟩
    rw [st_require_term]
    walk_at "go"
    refine spTerm_S (by have := len_of (t := t) (by omega); omega) ?_
    rw [isT_enc ht hz]
    walk_at "go"
    exact k
def spFirst : Sp := fun vs H Q _ => ∃ t : Tm, vs = [S (enc t)] ∧ ok t = true ∧ sz t ≤ 200 ∧ (steps t = [] → Evl.RetV .non H Q) ∧ ∀ s ss, steps t = s :: ss → ∀ v H2, Evl.Ex H H2 → tellS s H2 v → Q v H2
theorem ok_first_step (T : Top K mg) : FnOk P w K mg base CX0 20 T.first_step.f T.first_step.fd ["term"] spFirst := by
  refine T.first_step.F.ok sc_first_step (fun vs H Q E h => ?_) (fun cdv A outer s H vs Q E hr h => ?_)
  · obtain ⟨t, rfl, _⟩ := h
    rfl
  · obtain ⟨t, rfl, ht, hz, k1, k2⟩ := h
    refine ⟨_, (pss_cons (ps_for1 PassesOwn.never (by rfl) (pkgen_call (gen_each_step T) (hr.mono (by first | decide | omega)) (by rfl) T.each_step.g T.each_step.F.kp T.each_step.b (pa_cons (pv 0) pa_nil)) (hr.mono (by first | decide | omega)) (pg_name (i := 1) sc_first_step.nd rfl (by first | exact Or.inl rfl | exact Or.inr rfl)) (pss_one (ps_ret (pv 1)))) (pss_one (ps_ret pe_non))), ?_⟩
    rw [st_first_step]
    walk_at "go"
    have hl := len_of (t := t) (by omega)
    refine ⟨fun ys x H' => ys = [] → ∃ s ss, steps t = s :: ss ∧ tellS s H' x, fun ys H' => Told H' ys (steps t), _, Shares.none _, ⟨t, rfl, ht, by omega, fun ys x H' s h1 h2 h3 h4 => ?_, fun _ _ h => h⟩, fun H' Hm told e1 e2 => ?_, fun x H' Hm hx e1 e2 => ?_⟩
    · subst h4
      cases e : steps t with
      | nil => rw [e] at h1; cases h1
      | cons s' ss =>
        rw [e] at h1
        cases h1
        exact ⟨_, _, rfl, h3⟩
    · walk_at "go"
      refine k1 ?_ Hm e1
      have := told.length
      exact List.length_eq_zero_iff.mp this.symm
    · walk_at "go"
      obtain ⟨s, ss, e, h⟩ := hx rfl
      exact k2 s ss e x Hm e1 (h.mono e2)
def spHas : Sp := fun vs H Q _ => ∃ t : Tm, vs = [S (enc t)] ∧ ok t = true ∧ sz t ≤ 200 ∧ Evl.RetV (.bl (!(steps t).isEmpty)) H Q
theorem ok_has_step (T : Top K mg) : FnOk P w K mg base CX0 21 T.has_step.f T.has_step.fd ["term"] spHas := by
  refine T.has_step.F.ok sc_has_step (fun vs H Q E h => ?_) (fun cdv A outer s H vs Q E hr h => ?_)
  · obtain ⟨t, rfl, _⟩ := h
    rfl
  · obtain ⟨t, rfl, ht, hz, k⟩ := h
    refine ⟨_, (pss_one (ps_ret (pe_cmpR op_kNotN (callO (ok_first_step T) (hr.mono (by first | decide | omega)) (by rfl) (pa_cons (pv 0) pa_nil)) pe_non (nomark _)))), ?_⟩
    rw [st_has_step]
    walk_at "go"
    refine ⟨t, rfl, ht, hz, fun e H2 e2 => ?_, fun s ss e v H2 e2 hv => ?_⟩
    · walk_at "go"
      rw [e] at k
      exact k H2 e2
    · obtain ⟨a, rfl, _⟩ := hv
      walk_at "go"
      rw [e] at k
      exact k H2 e2
end
end LW

end

section
set_option maxHeartbeats 4000000

namespace LW
open PySem PySem.Spec PyProof.Rows L2 KG KT
local macro_rules | `(tactic| walk_at "go") => `(tactic| try simp only [b_St, b_Sf, b_Et, b_Ef, b_At, b_Af, b_Ot, b_Of, b_AVt, b_AVf, b_OVt, b_OVf, b_Ct, b_Cf, g_seq, g_asg, g_name, g_ret, g_retN, g_next, g_brk, g_cont, g_drop, g_ifS, g_if, g_and, g_or, g_not, g_andV, g_orV, g_notV, g_chain, g_test, g_B, g_op, g_un, g_neg, g_var, g_c, g_nil, g_cons, g_CB, g_call, g_par, g_par3, g_aug, g_sl, g_part, g_nopart, g_tup, g_lst, g_gcons, g_gnil, g_BM, g_dnew, g_yes, g_never, g_tupK, g_listK, g_KCall, g_for1, g_tru, k_then, k_0, k_plain, k_if, k_yield, b_Gt, b_Gf, rx_K, kon_K, g_M1, g_dget2, g_isS, g_wipe0, g_wipe1, g_wipe2, g_wipe3, b_Lt, b_Lf,
  kAdd_i, kAdd_s, kMul_i, kMul_s, kInt_i, kInt0_i, kEq_i, kEq_s, kNe_i, kNe_s, kEq_b, kNe_b, kIn_s, kNotIn_s, kLen_s, kIx_s, kSl_s, kAug_i, kAbs_i, kMax_i, kMin_i, kIntOf_i, kIntOf_b, g_sub, isN_S, isN_i, isN_n, isN_r, notN_S, notN_i, notN_n, notN_r, isN_b, notN_b, tru_b, tru_i, tru_n, ex_bl, ex_int, ex_some, par_2, par_3, isi_S kit_ss, cx_K, cx_Kn, Bool.not_true, Bool.not_false,
  List.set_cons_zero, List.set_cons_succ, List.getElem?_cons_zero, List.getElem?_cons_succ, List.map_cons, List.map_nil, List.append_nil, List.length_cons, List.length_nil, Nat.zero_add, dec_one, true_and, decide_true, decide_false])
local macro_rules | `(tactic| walk_at "br") => `(tactic| first | refine br_W ?_ ?_ | refine br_G ?_ ?_ | refine br_L ?_ ?_ | refine br_Ln ?_ ?_ | refine br_Lm ?_ ?_ | refine br_Lb ?_ ?_ | refine br_S ?_ ?_ | refine br_E ?_ ?_ | refine br_A ?_ ?_ | refine br_O ?_ ?_ | refine br_AV ?_ ?_ | refine br_OV ?_ ?_ | refine br_C ?_ ?_ | refine br_Sn ?_ ?_ | refine br_En ?_ ?_ | refine br_An ?_ ?_ | refine br_On ?_ ?_ | refine br_AVn ?_ ?_ | refine br_OVn ?_ ?_ | refine br_Cn ?_ ?_ | refine br_Sm ?_ ?_ | refine br_Em ?_ ?_ | refine br_Am ?_ ?_ | refine br_Om ?_ ?_ | refine br_AVm ?_ ?_ | refine br_OVm ?_ ?_ | refine br_Cm ?_ ?_ | refine br_Sb ?_ ?_ | refine br_Eb ?_ ?_ | refine br_Ab ?_ ?_ | refine br_Ob ?_ ?_ | refine br_AVb ?_ ?_ | refine br_OVb ?_ ?_ | refine br_Cb ?_ ?_)

section
variable {P : Program} {w : World} {K : PySem.W.Frag} {mg : Str → Option Value} {base : Heap}
abbrev sl__law_dice : List Str := ["script", "spot", "cell", "left"]
theorem sc__law_dice : FnScope sl__law_dice ["script", "spot"] (defScope s__law_dice) := ⟨rfl, rfl, rfl, by decide +kernel, rfl, by decide +kernel, by decide +kernel⟩
theorem st__law_dice (v0 : V) (v1 : V) : L2.start sl__law_dice [v0, v1] = [some v0, some v1, none, none] := rfl
abbrev sl__law_roll : List Str := ["dice", "total", "found", "one", "two"]
theorem sc__law_roll : FnScope sl__law_roll ["dice", "total"] (defScope s__law_roll) := ⟨rfl, rfl, rfl, by decide +kernel, rfl, by decide +kernel, by decide +kernel⟩
theorem st__law_roll (v0 : V) (v1 : V) : L2.start sl__law_roll [v0, v1] = [some v0, some v1, none, none, none] := rfl
abbrev sl__law_pick : List Str := ["dice", "items"]
theorem sc__law_pick : FnScope sl__law_pick ["dice", "items"] (defScope s__law_pick) := ⟨rfl, rfl, rfl, by decide +kernel, rfl, by decide +kernel, by decide +kernel⟩
theorem st__law_pick (v0 : V) (v1 : V) : L2.start sl__law_pick [v0, v1] = [some v0, some v1] := rfl
/-! ### the dice -/
def spDice (K : PySem.W.Frag) : Sp := fun vs H Q _ => ∃ (a : Addr) (ns : List Int) (i : Nat), vs = [.ref a, .int (i : Nat)] ∧ SqL K H a (ns.map V.int) ∧ i < 1000 ∧ ∀ d H2, H d = none → Evl.Ex H H2 → Dc H2 d → Q (.ref d) H2
theorem ok__law_dice (T : Top K mg) : FnOk P w K mg base CX0 1 T._law_dice.f T._law_dice.fd ["script", "spot"] (spDice K) := by
  refine T._law_dice.F.ok sc__law_dice (fun vs H Q E h => ?_) (fun cdv A outer s H vs Q E hr h => ?_)
  · obtain ⟨a, ns, i, rfl, _⟩ := h
    rfl
  · obtain ⟨a, ns, i, rfl, hs, hi, k⟩ := h
    refine ⟨_, (pss_cons (ps_set (i := 2) sc__law_dice.nd rfl (by first | exact Or.inl rfl | exact Or.inr rfl) (pe_ifExp (pt_cmpR op_kLt (pv 1) (pe_callB (kk_len (K := K) rfl) (by rfl) T.len (by decide +kernel) (pa_cons (pv 0) pa_nil)) (nomark _)) (pe_callTy call_kInt (by rfl) T.int (by decide +kernel) (pa_cons (pe_ix (kk_ix (K := K) rfl) (pv 0) (pv 1) (fun _ _ => rfl)) pa_nil)) (pe_op (kk_add (K := K) rfl) (pe_op (kk_mul (K := K) rfl) pe_int (pv 1)) pe_int))) (pss_cons (ps_set (i := 3) sc__law_dice.nd rfl (by first | exact Or.inl rfl | exact Or.inr rfl) (pe_op op_kMod (pe_callB (call_kMax (by rfl)) (by rfl) T.max (by decide +kernel) (pa_cons pe_int (pa_cons (pe_op op_kSub (pe_callB call_kAbs (by rfl) T.abs (by decide +kernel) (pa_cons (pv 2) pa_nil)) (pe_op op_kPow pe_int pe_int)) pa_nil))) (pe_op (kk_mul (K := K) rfl) (pe_op op_kPow pe_int pe_int) (pe_op op_kPow pe_int pe_int)))) (pss_one (ps_ret (pe_lst (pa_cons (pv 3) (pa_cons (pe_op (kk_add (K := K) rfl) (pe_op (kk_add (K := K) rfl) (pe_op (kk_add (K := K) rfl) (pe_op (kk_mul (K := K) rfl) (pe_op op_kMod (pe_callB call_kAbs (by rfl) T.abs (by decide +kernel) (pa_cons (pv 2) pa_nil)) pe_int) pe_int) (pe_op (kk_mul (K := K) rfl) pe_int (pv 1))) (pe_op (kk_mul (K := K) rfl) pe_int (pe_callTy call_kInt (by rfl) T.int (by decide +kernel) (pa_cons (pe_cmpR op_kLt (pv 2) pe_int (nomark _)) pa_nil)))) pe_int) (pa_cons pe_int pa_nil)))))))), ?_⟩
    rw [st__law_dice]
    walk_at "go"
    refine lenL hs ?_
    rw [List.length_map]
    walk_at "go"
    walk_at "br"
    · intro h
      walk_at "go"
      refine ixL hs (v := .int (ns[i]'(by omega))) (atI_nat (by rw [List.getElem?_map, List.getElem?_eq_getElem (by omega)]; rfl)) ?_
      walk_at "go"
      generalize ns[i]'(by omega) = cell
      exact ⟨⟨by decide, by decide, by decide⟩, ⟨by decide, by decide, by decide⟩, ⟨by decide, by decide, by decide⟩, .inl (by show Nat.log2 _ + Nat.log2 _ < _; decide +kernel), by decide +kernel, by decide, .inr (.inr (by decide)), .inr (.inl (by decide)), .inr (.inl (by decide)), by decide, fun p hp => k p _ hp (Evl.Ex.new hp) ⟨_, _, _, upd_same⟩⟩
    · intro h
      walk_at "go"
      refine ⟨.inr (.inl (by decide)), ?_⟩
      generalize 73 * (i : Int) + 37 = cell
      exact ⟨⟨by decide, by decide, by decide⟩, ⟨by decide, by decide, by decide⟩, ⟨by decide, by decide, by decide⟩, .inl (by show Nat.log2 _ + Nat.log2 _ < _; decide +kernel), by decide +kernel, by decide, .inr (.inr (by decide)), .inr (.inl (by decide)), .inr (.inl (by decide)), by decide, fun p hp => k p _ hp (Evl.Ex.new hp) ⟨_, _, _, upd_same⟩⟩
def spRoll : Sp := fun vs H Q _ => ∃ (d : Addr) (n : Int), vs = [.ref d, .int n] ∧ Dc H d ∧ 0 < n ∧ n < 2 ^ 100 ∧ ∀ r H2, 0 ≤ r → r < n → Fx d H H2 → Q (.int r) H2
theorem ok__law_roll (T : Top K mg) : FnOk P w K mg base CX0 1 T._law_roll.f T._law_roll.fd ["dice", "total"] spRoll := by
  refine T._law_roll.F.ok sc__law_roll (fun vs H Q E h => ?_) (fun cdv A outer s H vs Q E hr h => ?_)
  · obtain ⟨d, n, rfl, _⟩ := h
    rfl
  · obtain ⟨d, n, rfl, ⟨a, b, c, hd⟩, h0, h1, k⟩ := h
    refine ⟨_, (pss_cons (ps_if (pt_cmpR op_kGt (pe_ix (kk_ix (K := K) rfl) (pv 0) pe_int (fun _ _ => rfl)) pe_int (nomark _)) (pss_cons (ps_set (i := 2) sc__law_roll.nd rfl (by first | exact Or.inl rfl | exact Or.inr rfl) (pe_op op_kMod (pe_callTy call_kInt (by rfl) T.int (by decide +kernel) (pa_cons (pe_ix (kk_ix (K := K) rfl) (pv 0) pe_int (fun _ _ => rfl)) pa_nil)) (pv 1))) (pss_cons (ps_asg (pe_op op_kFdiv (pe_ix (kk_ix (K := K) rfl) (pv 0) pe_int (fun _ _ => rfl)) (pv 1)) (pg_sub (pv 0) pe_int set_list (fun _ => rfl))) (pss_one (ps_ret (pv 2))))) pss_nil) (pss_cons (ps_asg (pe_op (kk_add (K := K) rfl) (pe_ix (kk_ix (K := K) rfl) (pv 0) pe_int (fun _ _ => rfl)) pe_int) (pg_sub (pv 0) pe_int set_list (fun _ => rfl))) (pss_cons (ps_set (i := 3) sc__law_roll.nd rfl (by first | exact Or.inl rfl | exact Or.inr rfl) (pe_op op_kMod (pe_callTy call_kInt (by rfl) T.int (by decide +kernel) (pa_cons (pe_op (kk_add (K := K) rfl) (pe_ix (kk_ix (K := K) rfl) (pv 0) pe_int (fun _ _ => rfl)) (pe_op (kk_mul (K := K) rfl) pe_int (pe_ix (kk_ix (K := K) rfl) (pv 0) pe_int (fun _ _ => rfl)))) pa_nil)) pe_int)) (pss_cons (ps_set (i := 4) sc__law_roll.nd rfl (by first | exact Or.inl rfl | exact Or.inr rfl) (pe_op (kk_add (K := K) rfl) (pe_op (kk_mul (K := K) rfl) (pe_op op_kMod (pe_callTy call_kInt (by rfl) T.int (by decide +kernel) (pa_cons (pe_op (kk_add (K := K) rfl) (pe_op (kk_mul (K := K) rfl) (pv 3) (pv 3)) (pe_op (kk_mul (K := K) rfl) pe_int (pe_ix (kk_ix (K := K) rfl) (pv 0) pe_int (fun _ _ => rfl)))) pa_nil)) pe_int) pe_int) (pv 3))) (pss_one (ps_ret (pe_op op_kMod (pe_callTy call_kInt (by rfl) T.int (by decide +kernel) (pa_cons (pe_op op_kFdiv (pv 4) pe_int) pa_nil)) (pv 1)))))))), ?_⟩
    rw [st__law_roll]
    walk_at "go"
    refine ixL (SqL.of hd) rfl ?_
    walk_at "go"
    have hdiv : CDivW a n := ⟨h0, by have := PySem.Flt.log2_lt_of (n := n.natAbs) (k := 100) (by decide) (by omega); omega⟩
    walk_at "br"
    · intro ha
      walk_at "go"
      refine ixL (SqL.of hd) rfl ?_
      walk_at "go"
      refine ⟨h0, ixL (SqL.of hd) rfl ?_⟩
      walk_at "go"
      refine ⟨hdiv, setL hd rfl ?_⟩
      walk_at "go"
      exact k _ _ (Int.emod_nonneg _ (by omega)) (Int.emod_lt_of_pos _ h0) Fx.upd
    · intro ha
      walk_at "go"
      refine ixL (SqL.of hd) rfl ?_
      walk_at "go"
      refine setL (j := 2) hd rfl ?_
      have hd2 : (upd H d (HO.lst ([V.int a, V.int b, V.int c].set 2 (V.int (c + 1))))) d = some (.lst [V.int a, V.int b, V.int (c + 1)]) := upd_same
      have hf : Fx d H (upd H d (HO.lst ([V.int a, V.int b, V.int c].set 2 (V.int (c + 1))))) := Fx.upd
      generalize upd H d (HO.lst ([V.int a, V.int b, V.int c].set 2 (V.int (c + 1)))) = H2 at hd2 hf ⊢
      walk_at "go"
      refine ixL (SqL.of hd2) rfl ?_
      walk_at "go"
      refine ixL (SqL.of hd2) rfl ?_
      walk_at "go"
      refine ⟨.inr (.inl (by decide)), by decide, ?_⟩
      have b1 := Int.emod_nonneg (b + 86028121 * (c + 1)) (show (2305843009213693669 : Int) ≠ 0 by decide)
      have b2 := Int.emod_lt_of_pos (b + 86028121 * (c + 1)) (show (0 : Int) < 2305843009213693669 by decide)
      generalize (b + 86028121 * (c + 1)) % 2305843009213693669 = one at b1 b2 ⊢
      refine ⟨.inr (.inl ⟨by omega, by omega⟩), ixL (SqL.of hd2) rfl ?_⟩
      walk_at "go"
      refine ⟨.inr (.inl (by decide)), by decide, .inr (.inr (by decide)), ⟨by decide, by show Nat.log2 131072 < 9000; decide +kernel⟩, h0, ?_⟩
      exact k _ _ (Int.emod_nonneg _ (by omega)) (Int.emod_lt_of_pos _ h0) hf
theorem roll_run {H : Hp} {Q : VK} {E : XK} {d : Addr} {n : Int} (hd : Dc H d) (h0 : 0 < n) (h1 : n < 2 ^ 100) (k : ∀ r H2, 0 ≤ r → r < n → Fx d H H2 → Q (.int r) H2) : spRoll [.ref d, .int n] H Q E := ⟨d, n, rfl, hd, h0, h1, k⟩
/-! ### a thing drawn from a row -/
def spPick (K : PySem.W.Frag) : Sp := fun vs H Q _ => (∃ (d : Addr) (l : List Nat), vs = [.ref d, S l] ∧ Dc H d ∧ l ≠ [] ∧ l.length ≤ 1000000 ∧ ∀ c H2, c ∈ l → Fx d H H2 → Q (S [c]) H2) ∨
  ∃ (d p : Addr) (xs : List V), vs = [.ref d, .ref p] ∧ Dc H d ∧ p ≠ d ∧ SqL K H p xs ∧ xs ≠ [] ∧ xs.length ≤ 1000000 ∧ ∀ x H2, x ∈ xs → Fx d H H2 → Q x H2
theorem ok__law_pick (T : Top K mg) : FnOk P w K mg base CX0 2 T._law_pick.f T._law_pick.fd ["dice", "items"] (spPick K) := by
  refine T._law_pick.F.ok sc__law_pick (fun vs H Q E h => ?_) (fun cdv A outer s H vs Q E hr h => ?_)
  · rcases h with ⟨d, l, rfl, _⟩ | ⟨d, p, xs, rfl, _⟩ <;> rfl
  · refine ⟨_, (pss_one (ps_ret (pe_ix (kk_ix (K := K) rfl) (pv 1) (callO (ok__law_roll T) (hr.mono (by first | decide | omega)) (by rfl) (pa_cons (pv 0) (pa_cons (pe_callB (kk_len (K := K) rfl) (by rfl) T.len (by decide +kernel) (pa_cons (pv 1) pa_nil)) pa_nil))) (fun _ _ => rfl)))), ?_⟩
    rcases h with ⟨d, l, rfl, hd, hn, hl, k⟩ | ⟨d, p, xs, rfl, hd, hp, hx, hn, hl, k⟩
    · rw [st__law_pick]
      walk_at "go"
      have hpos : 0 < l.length := List.length_pos_iff.mpr hn
      refine ⟨hl, roll_run hd (by omega) (by omega) fun r H2 r0 r1 fx => ?_⟩
      walk_at "go"
      obtain ⟨j, rfl⟩ : ∃ j : Nat, r = j := ⟨r.toNat, by omega⟩
      have hj : l[j]? = some (l[j]'(by omega)) := List.getElem?_eq_getElem (by omega)
      exact ⟨hl, _, atI_nat hj, k _ _ (List.getElem_mem _) fx⟩
    · rw [st__law_pick]
      walk_at "go"
      have hpos : 0 < xs.length := List.length_pos_iff.mpr hn
      refine lenL hx (roll_run hd (by omega) (by omega) fun r H2 r0 r1 fx => ?_)
      walk_at "go"
      obtain ⟨j, rfl⟩ : ∃ j : Nat, r = j := ⟨r.toNat, by omega⟩
      have hj : xs[j]? = some (xs[j]'(by omega)) := List.getElem?_eq_getElem (by omega)
      exact ixL (fx.l hp hx) (atI_nat hj) (k _ _ (List.getElem_mem _) fx)
theorem pick_S {H : Hp} {Q : VK} {E : XK} {d : Addr} {l : List Nat} (hd : Dc H d) (hn : l ≠ []) (hl : l.length ≤ 1000000) (k : ∀ c H2, c ∈ l → Fx d H H2 → Q (S [c]) H2) : spPick K [.ref d, S l] H Q E := .inl ⟨d, l, rfl, hd, hn, hl, k⟩
theorem pick_L {H : Hp} {Q : VK} {E : XK} {d p : Addr} {xs : List V} (hd : Dc H d) (hp : p ≠ d) (hx : SqL K H p xs) (hn : xs ≠ []) (hl : xs.length ≤ 1000000) (k : ∀ x H2, x ∈ xs → Fx d H H2 → Q x H2) : spPick K [.ref d, .ref p] H Q E := .inr ⟨d, p, xs, rfl, hd, hp, hx, hn, hl, k⟩
/-! ### a drawn term -/
abbrev sl__law_grown_term : List Str := ["dice", "letters", "size", "left"]
theorem sc__law_grown_term : FnScope sl__law_grown_term ["dice", "letters", "size"] (defScope s__law_grown_term) := ⟨rfl, rfl, rfl, by decide +kernel, rfl, by decide +kernel, by decide +kernel⟩
theorem st__law_grown_term (v0 : V) (v1 : V) (v2 : V) : L2.start sl__law_grown_term [v0, v1, v2] = [some v0, some v1, some v2, none] := rfl
def spGrown (m : Nat) : Sp := fun vs H Q _ => ∃ (d : Addr) (l : List Nat) (n : Nat), vs = [.ref d, S l, .int (n : Nat)] ∧ 1 ≤ n ∧ n ≤ m ∧ m ≤ 1000 ∧ Dc H d ∧ l ≠ [] ∧ l.length ≤ 1000 ∧ (∀ c ∈ l, isL c = true) ∧
  ∀ (t : Tm) H2, ok t = true → sz t = n → Fx d H H2 → Q (S (enc t)) H2
theorem ok__law_grown_term (T : Top K mg) : ∀ m : Nat, FnOk P w K mg base CX0 (m + 3) T._law_grown_term.f T._law_grown_term.fd ["dice", "letters", "size"] (spGrown m) := by
  intro m
  induction m with
  | zero =>
    refine ⟨fun vs H Q E h => ?_, fun A outer s H args us vs Q E _ _ _ _ h => ?_⟩ <;> obtain ⟨d, l, n, _, h1, h2, _⟩ := h <;> omega
  | succ m ih =>
    refine T._law_grown_term.F.ok sc__law_grown_term (fun vs H Q E h => ?_) (fun cdv A outer s H vs Q E hr h => ?_)
    · obtain ⟨d, l, n, rfl, _⟩ := h
      rfl
    · obtain ⟨d, l, n, rfl, h1, hm, hm2, hd, hn, hl, hL, k⟩ := h
      have hr1 : Room (m + 3) (A.deeper (envOfC "_law_grown_term" (defScope s__law_grown_term) s.heap.objs.size T._law_grown_term.f cdv)) := hr
      refine ⟨_, (pss_cons (ps_if (pt_cmpR (kk_eq (K := K) rfl hr) (pv 2) pe_int (nomark _)) (pss_one (ps_ret (callO (ok__law_pick T) (hr.mono (by first | decide | omega)) (by rfl) (pa_cons (pv 0) (pa_cons (pv 1) pa_nil))))) pss_nil) (pss_cons (ps_set (i := 3) sc__law_grown_term.nd rfl (by first | exact Or.inl rfl | exact Or.inr rfl) (pe_op (kk_add (K := K) rfl) pe_int (callO (ok__law_roll T) (hr.mono (by first | decide | omega)) (by rfl) (pa_cons (pv 0) (pa_cons (pe_op op_kSub (pv 2) pe_int) pa_nil))))) (pss_one (ps_ret (pe_op (kk_add (K := K) rfl) (pe_op (kk_add (K := K) rfl) (pe_S [42] (by decide)) (callO ih (hr.mono (by first | decide | omega)) (by rfl) (pa_cons (pv 0) (pa_cons (pv 1) (pa_cons (pv 3) pa_nil))))) (callO ih (hr.mono (by first | decide | omega)) (by rfl) (pa_cons (pv 0) (pa_cons (pv 1) (pa_cons (pe_op op_kSub (pv 2) (pv 3)) pa_nil))))))))), ?_⟩
      rw [st__law_grown_term]
      walk_at "go"
      walk_at "br"
      · intro hn1
        walk_at "go"
        refine pick_S hd hn (by omega) fun c H2 hc fx => ?_
        exact k (.lf c) H2 (hL c hc) (by simp only [sz]; omega) fx
      · intro hn1
        walk_at "go"
        refine roll_run hd (by omega) (by omega) fun r H2 r0 r1 fx => ?_
        walk_at "go"
        obtain ⟨j, rfl⟩ : ∃ j : Nat, r = j := ⟨r.toNat, by omega⟩
        refine ⟨d, l, j + 1, by rw [show (1 : Int) + (j : Int) = ((j + 1 : Nat) : Int) by omega], by omega, by omega, by omega, fx.dc, hn, hl, hL, fun t1 H3 ht1 hz1 fx3 => ?_⟩
        have e1 := enc_len t1
        walk_at "go"
        refine ⟨by omega, d, l, n - (j + 1), by rw [show (n : Int) - (1 + (j : Int)) = ((n - (j + 1) : Nat) : Int) by omega], by omega, by omega, by omega, fx3.dc, hn, hl, hL, fun t2 H4 ht2 hz2 fx4 => ?_⟩
        have e2 := enc_len t2
        walk_at "go"
        refine ⟨by simp; omega, ?_⟩
        exact k (.nd t1 t2) H4 (ok_nd.mpr ⟨ht1, ht2⟩) (by simp only [sz]; omega) ((fx.trans fx3).trans fx4)
end
end LW

end

section
set_option maxHeartbeats 4000000

namespace LW
open PySem PySem.Spec PyProof.Rows L2 KG KT
local macro_rules | `(tactic| walk_at "go") => `(tactic| try simp only [b_St, b_Sf, b_Et, b_Ef, b_At, b_Af, b_Ot, b_Of, b_AVt, b_AVf, b_OVt, b_OVf, b_Ct, b_Cf, g_seq, g_asg, g_name, g_ret, g_retN, g_next, g_brk, g_cont, g_drop, g_ifS, g_if, g_and, g_or, g_not, g_andV, g_orV, g_notV, g_chain, g_test, g_B, g_op, g_un, g_neg, g_var, g_c, g_nil, g_cons, g_CB, g_call, g_par, g_par3, g_aug, g_sl, g_part, g_nopart, g_tup, g_lst, g_gcons, g_gnil, g_BM, g_dnew, g_yes, g_never, g_tupK, g_listK, g_KCall, g_for1, g_tru, k_then, k_0, k_plain, k_if, k_yield, b_Gt, b_Gf, rx_K, kon_K, g_M1, g_dget2, g_isS, g_wipe0, g_wipe1, g_wipe2, g_wipe3, b_Lt, b_Lf,
  kAdd_i, kAdd_s, kMul_i, kMul_s, kInt_i, kInt0_i, kEq_i, kEq_s, kNe_i, kNe_s, kEq_b, kNe_b, kIn_s, kNotIn_s, kLen_s, kIx_s, kSl_s, kAug_i, kAbs_i, kMax_i, kMin_i, kIntOf_i, kIntOf_b, g_sub, isN_S, isN_i, isN_n, isN_r, notN_S, notN_i, notN_n, notN_r, isN_b, notN_b, tru_b, tru_i, tru_n, ex_bl, ex_int, ex_some, par_2, par_3, isi_S kit_ss, cx_K, cx_Kn, Bool.not_true, Bool.not_false,
  List.set_cons_zero, List.set_cons_succ, List.getElem?_cons_zero, List.getElem?_cons_succ, List.map_cons, List.map_nil, List.append_nil, List.length_cons, List.length_nil, Nat.zero_add, dec_one, true_and, decide_true, decide_false])
local macro_rules | `(tactic| walk_at "br") => `(tactic| first | refine br_W ?_ ?_ | refine br_G ?_ ?_ | refine br_L ?_ ?_ | refine br_Ln ?_ ?_ | refine br_Lm ?_ ?_ | refine br_Lb ?_ ?_ | refine br_S ?_ ?_ | refine br_E ?_ ?_ | refine br_A ?_ ?_ | refine br_O ?_ ?_ | refine br_AV ?_ ?_ | refine br_OV ?_ ?_ | refine br_C ?_ ?_ | refine br_Sn ?_ ?_ | refine br_En ?_ ?_ | refine br_An ?_ ?_ | refine br_On ?_ ?_ | refine br_AVn ?_ ?_ | refine br_OVn ?_ ?_ | refine br_Cn ?_ ?_ | refine br_Sm ?_ ?_ | refine br_Em ?_ ?_ | refine br_Am ?_ ?_ | refine br_Om ?_ ?_ | refine br_AVm ?_ ?_ | refine br_OVm ?_ ?_ | refine br_Cm ?_ ?_ | refine br_Sb ?_ ?_ | refine br_Eb ?_ ?_ | refine br_Ab ?_ ?_ | refine br_Ob ?_ ?_ | refine br_AVb ?_ ?_ | refine br_OVb ?_ ?_ | refine br_Cb ?_ ?_)

section
variable {P : Program} {w : World} {K : PySem.W.Frag} {mg : Str → Option Value} {base : Heap}
abbrev sl__law_part_of : List Str := ["term", "index", "wanted", "end", "turn"]
theorem sc__law_part_of : FnScope sl__law_part_of ["term", "index"] (defScope s__law_part_of) := ⟨rfl, rfl, rfl, by decide +kernel, rfl, by decide +kernel, by decide +kernel⟩
theorem st__law_part_of (v0 : V) (v1 : V) : L2.start sl__law_part_of [v0, v1] = [some v0, some v1, none, none, none] := rfl
abbrev sl__law_sides : List Str := ["term", "left"]
theorem sc__law_sides : FnScope sl__law_sides ["term"] (defScope s__law_sides) := ⟨rfl, rfl, rfl, by decide +kernel, rfl, by decide +kernel, by decide +kernel⟩
theorem st__law_sides (v0 : V) : L2.start sl__law_sides [v0] = [some v0, none] := rfl
abbrev sl__law_rule_results : List Str := ["part", "found", "left", "right"]
theorem sc__law_rule_results : FnScope sl__law_rule_results ["part"] (defScope s__law_rule_results) := ⟨rfl, rfl, rfl, by decide +kernel, rfl, by decide +kernel, by decide +kernel⟩
theorem st__law_rule_results (v0 : V) : L2.start sl__law_rule_results [v0] = [some v0, none, none, none] := rfl
/-! ### the law's own look at a term -/
theorem ok__law_part_of (T : Top K mg) : FnOk P w K mg base CX0 1 T._law_part_of.f T._law_part_of.fd ["term", "index"] spPart := by
  refine T._law_part_of.F.ok sc__law_part_of (fun vs H Q E h => ?_) (fun cdv A outer s H vs Q E hr h => ?_)
  · obtain ⟨l, i, t, r, rfl, _⟩ := h
    rfl
  · obtain ⟨l, i, t, r, rfl, hl, ht, hd, k⟩ := h
    refine ⟨_, (pss_cons (ps_par (i := 2) (j := 3) (by rfl) sc__law_part_of.nd rfl rfl (by decide) rfl rfl (pa_cons pe_int (pa_cons (pv 1) pa_nil)) rfl) (pss_cons (ps_for PassesOwn.never (by rfl) (pi_range1 (by rfl) T.range (pa_cons (pe_op op_kSub (pe_callB (kk_len (K := K) rfl) (by rfl) T.len (by decide +kernel) (pa_cons (pv 0) pa_nil)) (pv 1)) pa_nil)) (pg_name (i := 4) sc__law_part_of.nd rfl (by first | exact Or.inl rfl | exact Or.inr rfl)) (pss_cons (ps_if (pt_cmpR (kk_eq (K := K) rfl hr) (pv 2) pe_int (nomark _)) (pss_one ps_break) pss_nil) (pss_cons (ps_set (i := 2) sc__law_part_of.nd rfl (by first | exact Or.inl rfl | exact Or.inr rfl) (pe_op (kk_add (K := K) rfl) (pv 2) (pe_ifExp (pt_cmpR (kk_eq (K := K) rfl hr) (pe_ix (kk_ix (K := K) rfl) (pv 0) (pv 3) (fun _ _ => rfl)) (pe_S [42] (by decide)) (nomark _)) pe_int (pe_op op_kSub pe_int pe_int)))) (pss_one (ps_set (i := 3) sc__law_part_of.nd rfl (by first | exact Or.inl rfl | exact Or.inr rfl) (pe_op (kk_add (K := K) rfl) (pv 3) pe_int)))))) (pss_one (ps_ret (pe_slice (kk_sl (K := K) rfl) (pv 0) (po_some (pv 1)) (po_some (pv 3))))))), ?_⟩
    rw [st__law_part_of]
    walk_at "go"
    have hi := drop_in hd
    have hz := drop_len hd hi
    refine loop_R (n := (l.length : Int) - (i : Int)) (fun Q q => by walk_at "go"; exact ⟨hl, q⟩) (by omega)
      (fun k σ' H' => H' = H ∧ ∃ (ts : List Tm) (j : Nat) (o : Option V), (∀ t ∈ ts, ok t = true) ∧ l.drop j = encs ts ++ r ∧ i + (enc t).length = j + (encs ts).length ∧ j = i + k ∧ j ≤ l.length ∧ σ' = [some (S l), some (.int (i : Nat)), some (.int ts.length), some (.int (j : Nat)), o])
      ⟨rfl, [t], i, none, by simpa using ht, by rw [hd]; simp [encs], by simp [encs], rfl, hi, rfl⟩ ?_ ?_
    · rintro n σ' H' hn ⟨rfl, ts, j, o, hts, hj, hs, hjn, hjl, rfl⟩
      walk_at "go"
      match ts, hts, hj, hs with
      | [], hts, hj, hs =>
        walk_at "br"
        · intro _
          walk_at "go"
          have e : j = i + (enc t).length := by rw [hs]; simp [encs]
          rw [e]
          refine ⟨hl, ?_⟩
          rw [cutL_both (by omega) (by omega), hd, Nat.add_sub_cancel_left, List.take_left']
          · exact k
          · rfl
        · intro h
          exact absurd rfl h
      | u :: ts, hts, hj, hs =>
        rw [decide_eq_false (by rw [List.length_cons]; omega)]
        walk_at "go"
        match u, hts, hj, hs with
        | .lf c, hts, hj, hs =>
          obtain ⟨d1, d2, d3⟩ := drop_at (c := c) (r := encs ts ++ r) hj
          have hc : c ≠ 42 := isL_ne (hts (.lf c) (List.mem_cons_self ..))
          refine ⟨hl, c, atI_nat d1, ?_⟩
          walk_at "go"
          rw [decide_eq_false hc]
          walk_at "go"
          refine ⟨ts, j + 1, some (V.int (n : Nat)), fun t ht => hts t (List.mem_cons_of_mem _ ht), d2, ?_, by omega, d3, ?_⟩
          · rw [hs]
            simp [encs, enc]
            omega
          · rw [show ((ts.length + 1 : Nat) : Int) + (0 - 1) = (ts.length : Int) by omega]
            rfl
        | .nd a b, hts, hj, hs =>
          obtain ⟨d1, d2, d3⟩ := drop_at (c := 42) (r := encs (a :: b :: ts) ++ r) (by rw [hj]; simp [encs, enc])
          obtain ⟨ha, hb⟩ := ok_nd.mp (hts (.nd a b) (List.mem_cons_self ..))
          refine ⟨hl, 42, atI_nat d1, ?_⟩
          walk_at "go"
          refine ⟨a :: b :: ts, j + 1, some (V.int (n : Nat)), ?_, d2, ?_, by omega, d3, ?_⟩
          · intro t ht
            rcases List.mem_cons.mp ht with e | ht
            · rw [e]; exact ha
            rcases List.mem_cons.mp ht with e | ht
            · rw [e]; exact hb
            exact hts t (List.mem_cons_of_mem _ ht)
          · rw [hs]
            simp [encs, enc]
            omega
          · rfl
    · rintro σ' H' ⟨rfl, ts, j, o, hts, hj, hs, hjn, hjl, rfl⟩
      have e1 : j = l.length := by omega
      have e2 : encs ts ++ r = [] := by rw [← hj, e1, List.drop_length]
      have e3 : (encs ts).length = 0 := by
        have := congrArg List.length e2
        simp at this
        simp [this.1]
      have e : j = i + (enc t).length := by omega
      rw [e]
      walk_at "go"
      refine ⟨hl, ?_⟩
      rw [cutL_both (by omega) (by omega), hd, Nat.add_sub_cancel_left, List.take_left']
      · exact k
      · rfl
theorem at0 {α : Type} {xs : List α} {v : α} (h : xs[0]? = some v) : atI xs 0 = some v := atI_nat (j := 0) h
/-- both sides of a product, as a tuple -/
def spSides : Sp := fun vs H Q _ => ∃ a b : Tm, vs = [S (enc (.nd a b))] ∧ ok (.nd a b) = true ∧ (enc (.nd a b)).length ≤ 1000000 ∧ ∀ p H2, Evl.Ex H H2 → H2 p = some (.tup [S (enc a), S (enc b)]) → Q (.ref p) H2
theorem ok__law_sides (T : Top K mg) : FnOk P w K mg base CX0 2 T._law_sides.f T._law_sides.fd ["term"] spSides := by
  refine T._law_sides.F.ok sc__law_sides (fun vs H Q E h => ?_) (fun cdv A outer s H vs Q E hr h => ?_)
  · obtain ⟨a, b, rfl, _⟩ := h
    rfl
  · obtain ⟨a, b, rfl, ht, hl, k⟩ := h
    refine ⟨_, (pss_cons (ps_set (i := 1) sc__law_sides.nd rfl (by first | exact Or.inl rfl | exact Or.inr rfl) (callO (ok__law_part_of T) (hr.mono (by first | decide | omega)) (by rfl) (pa_cons (pv 0) (pa_cons pe_int pa_nil)))) (pss_one (ps_ret (pe_tup (pa_cons (pv 1) (pa_cons (pe_slice (kk_sl (K := K) rfl) (pv 0) (po_some (pe_op (kk_add (K := K) rfl) pe_int (pe_callB (kk_len (K := K) rfl) (by rfl) T.len (by decide +kernel) (pa_cons (pv 1) pa_nil)))) po_none) pa_nil)))))), ?_⟩
    rw [st__law_sides]
    walk_at "go"
    obtain ⟨ha, hb⟩ := ok_nd.mp ht
    have e : (enc (.nd a b)).drop 1 = enc a ++ enc b := rfl
    have hn : (enc (.nd a b)).length = 1 + (enc a).length + (enc b).length := by simp [enc]; omega
    refine spPart_S hl (i := 1) ha e ?_
    walk_at "go"
    refine ⟨by omega, hl, by decide, fun p hp => ?_⟩
    rw [show (1 : Int) + ((enc a).length : Nat) = ((1 + (enc a).length : Nat) : Int) by omega, cutL_lo (by omega), ← List.drop_drop, e, List.drop_left]
    exact k p _ (Evl.Ex.new hp) upd_same
theorem sides_run {H : Hp} {Q : VK} {E : XK} {a b : Tm} (ht : ok (.nd a b) = true) (hl : (enc (.nd a b)).length ≤ 1000000) (k : ∀ p H2, Evl.Ex H H2 → H2 p = some (.tup [S (enc a), S (enc b)]) → Q (.ref p) H2) : spSides [S (enc (.nd a b))] H Q E := ⟨a, b, rfl, ht, hl, k⟩
theorem pair_app {α β : Type} {F : α → β → Prop} : ∀ {a c : List α} {b d : List β}, Paired F a b → Paired F c d → Paired F (a ++ c) (b ++ d)
  | _, _, _, _, .nil, h => h
  | _, _, _, _, .cons r t, h => .cons r (pair_app t h)
/-- the rules' outcomes at a part, as a fresh list -/
def tellR (q : Nat × Tm) (H : Hp) (v : V) : Prop := ∃ a, v = .ref a ∧ H a = some (.tup [.int (q.1 : Nat), S (enc q.2)])
def spRes : Sp := fun vs H Q _ => ∃ t : Tm, vs = [S (enc t)] ∧ ok t = true ∧ (enc t).length ≤ 1000000 ∧ ∀ p H2 xs, H p = none → Evl.Ex H H2 → H2 p = some (.lst xs) → Paired (fun v q => tellR q H2 v) xs (red t) → Q (.ref p) H2
theorem ok__law_rule_results (T : Top K mg) : FnOk P w K mg base CX0 3 T._law_rule_results.f T._law_rule_results.fd ["part"] spRes := by
  refine T._law_rule_results.F.ok sc__law_rule_results (fun vs H Q E h => ?_) (fun cdv A outer s H vs Q E hr h => ?_)
  · obtain ⟨t, rfl, _⟩ := h
    rfl
  · obtain ⟨t, rfl, ht, hl, k⟩ := h
    refine ⟨_, (pss_cons (ps_set (i := 1) sc__law_rule_results.nd rfl (by first | exact Or.inl rfl | exact Or.inr rfl) (pe_lst pa_nil)) (Evl.pss_cut (ps_if (pt_cmpR (kk_ne (K := K) rfl hr) (pe_ix (kk_ix (K := K) rfl) (pv 0) pe_int (fun _ _ => rfl)) (pe_S [42] (by decide)) (nomark _)) (pss_one (ps_ret (pv 1))) pss_nil) (pss_cons (ps_asg (callO (ok__law_sides T) (hr.mono (by first | decide | omega)) (by rfl) (pa_cons (pv 0) pa_nil)) (kk_gtup (K := K) rfl (pg_tup (n := 2) (by rfl) (pgs_cons (pg_name (i := 2) sc__law_rule_results.nd rfl (by first | exact Or.inl rfl | exact Or.inr rfl)) (pgs_cons (pg_name (i := 3) sc__law_rule_results.nd rfl (by first | exact Or.inl rfl | exact Or.inr rfl)) pgs_nil))))) (Evl.pss_cut (ps_if (pw_and (pt_cmpR (kk_eq (K := K) rfl hr) (pe_ix (kk_ix (K := K) rfl) (pv 2) pe_int (fun _ _ => rfl)) (pe_S [42] (by decide)) (nomark _)) (pw_and (pt_cmpR (kk_eq (K := K) rfl hr) (pe_ix (kk_ix (K := K) rfl) (pv 3) pe_int (fun _ _ => rfl)) (pe_S [42] (by decide)) (nomark _)) (pw_and1 (pt_cmpR (kk_eq (K := K) rfl hr) (pe_ix (kk_ix (K := K) rfl) (callO (ok__law_sides T) (hr.mono (by first | decide | omega)) (by rfl) (pa_cons (pv 2) pa_nil)) pe_int (fun _ _ => rfl)) (pe_ix (kk_ix (K := K) rfl) (callO (ok__law_sides T) (hr.mono (by first | decide | omega)) (by rfl) (pa_cons (pv 3) pa_nil)) pe_int (fun _ _ => rfl)) (nomark _))))).pt (pss_one (ps_expr (kk_bm (K := K) rfl (pe_bm PySem.F.plainAttrs_list PySem.F.slot_list_append PySem.F.type_list_append mt_append (pv 1) (pa_cons (pe_tup (pa_cons pe_int (pa_cons (pe_ix (kk_ix (K := K) rfl) (callO (ok__law_sides T) (hr.mono (by first | decide | omega)) (by rfl) (pa_cons (pv 2) pa_nil)) pe_int (fun _ _ => rfl)) pa_nil))) pa_nil))))) pss_nil) (Evl.pss_cut (ps_if (pw_and (pt_cmpR (kk_eq (K := K) rfl hr) (pe_ix (kk_ix (K := K) rfl) (pv 3) pe_int (fun _ _ => rfl)) (pe_S [42] (by decide)) (nomark _)) (pw_and (pt_cmpR (kk_eq (K := K) rfl hr) (pe_ix (kk_ix (K := K) rfl) (pe_ix (kk_ix (K := K) rfl) (callO (ok__law_sides T) (hr.mono (by first | decide | omega)) (by rfl) (pa_cons (pv 3) pa_nil)) pe_int (fun _ _ => rfl)) pe_int (fun _ _ => rfl)) (pe_S [42] (by decide)) (nomark _)) (pw_and1 (pt_cmpR (kk_eq (K := K) rfl hr) (pe_ix (kk_ix (K := K) rfl) (callO (ok__law_sides T) (hr.mono (by first | decide | omega)) (by rfl) (pa_cons (pe_ix (kk_ix (K := K) rfl) (callO (ok__law_sides T) (hr.mono (by first | decide | omega)) (by rfl) (pa_cons (pv 3) pa_nil)) pe_int (fun _ _ => rfl)) pa_nil)) pe_int (fun _ _ => rfl)) (pv 2) (nomark _))))).pt (pss_one (ps_expr (kk_bm (K := K) rfl (pe_bm PySem.F.plainAttrs_list PySem.F.slot_list_append PySem.F.type_list_append mt_append (pv 1) (pa_cons (pe_tup (pa_cons pe_int (pa_cons (pe_ix (kk_ix (K := K) rfl) (callO (ok__law_sides T) (hr.mono (by first | decide | omega)) (by rfl) (pa_cons (pv 3) pa_nil)) pe_int (fun _ _ => rfl)) pa_nil))) pa_nil))))) pss_nil) (Evl.pss_cut (ps_if (pw_and (pt_cmpR (kk_eq (K := K) rfl hr) (pe_ix (kk_ix (K := K) rfl) (pv 2) pe_int (fun _ _ => rfl)) (pe_S [42] (by decide)) (nomark _)) (pw_and (pt_cmpR (kk_eq (K := K) rfl hr) (pe_ix (kk_ix (K := K) rfl) (pe_ix (kk_ix (K := K) rfl) (callO (ok__law_sides T) (hr.mono (by first | decide | omega)) (by rfl) (pa_cons (pv 2) pa_nil)) pe_int (fun _ _ => rfl)) pe_int (fun _ _ => rfl)) (pe_S [42] (by decide)) (nomark _)) (pw_and1 (pt_cmpR (kk_eq (K := K) rfl hr) (pe_ix (kk_ix (K := K) rfl) (callO (ok__law_sides T) (hr.mono (by first | decide | omega)) (by rfl) (pa_cons (pe_ix (kk_ix (K := K) rfl) (callO (ok__law_sides T) (hr.mono (by first | decide | omega)) (by rfl) (pa_cons (pv 2) pa_nil)) pe_int (fun _ _ => rfl)) pa_nil)) pe_int (fun _ _ => rfl)) (pv 3) (nomark _))))).pt (pss_one (ps_expr (kk_bm (K := K) rfl (pe_bm PySem.F.plainAttrs_list PySem.F.slot_list_append PySem.F.type_list_append mt_append (pv 1) (pa_cons (pe_tup (pa_cons pe_int (pa_cons (pe_ix (kk_ix (K := K) rfl) (callO (ok__law_sides T) (hr.mono (by first | decide | omega)) (by rfl) (pa_cons (pv 2) pa_nil)) pe_int (fun _ _ => rfl)) pa_nil))) pa_nil))))) pss_nil) (pss_one (ps_ret (pv 1))))))))), ?_⟩
    rw [st__law_rule_results]
    walk_at "go"
    refine ⟨by decide, fun p hp => ?_⟩
    refine ⟨fun σ' H' => σ' = [some (S (enc t)), some (.ref p), none, none] ∧ H' = upd H p (.lst []) ∧ ∃ a b, t = .nd a b, ?_, ?_⟩
    · walk_at "go"
      match t, ht, hl, k with
      | .lf c, ht, hl, k =>
        refine ⟨hl, c, at0 rfl, ?_⟩
        rw [decide_eq_false (isL_ne ht)]
        walk_at "go"
        exact k p _ [] hp (Evl.Ex.new hp) upd_same .nil
      | .nd a b, ht, hl, k =>
        refine ⟨hl, 42, at0 rfl, ?_⟩
        walk_at "go"
        exact ⟨a, b, rfl⟩
    · rintro σ' H' ⟨rfl, rfl, a, b, rfl⟩
      walk_at "go"
      obtain ⟨ha, hb⟩ := ok_nd.mp ht
      have hn : (enc (.nd a b)).length = 1 + (enc a).length + (enc b).length := by simp [enc]; omega
      refine sides_run ht hl fun p1 H1 e1 hp1 => ?_
      refine g_unpack (SqT.of hp1) rfl ?_
      walk_at "go"
      have m1 : Mx p (upd H p (.lst [])) H1 := Mx.of e1
      have l1 : H1 p = some (.lst []) := e1 _ _ upd_same
      -- the first rule
      refine ⟨fun σ' H' => σ' = [some (S (enc (.nd a b))), some (.ref p), some (S (enc a)), some (S (enc b))] ∧ Mx p (upd H p (.lst [])) H' ∧ ∃ xs, H' p = some (.lst xs) ∧ Paired (fun v q => tellR q H' v) xs (red1 (.nd a b)), ?_, ?_⟩
      · walk_at "go"
        refine ⟨by omega, ?_⟩
        match a, ha, hn with
        | .lf c, ha, hn =>
          refine ⟨c, at0 rfl, ?_⟩
          rw [decide_eq_false (isL_ne ha)]
          walk_at "go"
          exact ⟨m1, [], l1, .nil⟩
        | .nd a1 a2, ha, hn =>
          refine ⟨42, at0 rfl, ?_⟩
          walk_at "go"
          refine ⟨by omega, ?_⟩
          match b, hb, hn with
          | .lf c, hb, hn =>
            refine ⟨c, at0 rfl, ?_⟩
            rw [decide_eq_false (isL_ne hb)]
            walk_at "go"
            exact ⟨m1, [], l1, .nil⟩
          | .nd b1 b2, hb, hn =>
            refine ⟨42, at0 rfl, ?_⟩
            walk_at "go"
            refine sides_run ha (by omega) fun p2 H2 e2 hp2 => ixT (SqT.of hp2) rfl ?_
            refine sides_run hb (by omega) fun p3 H3 e3 hp3 => ixT (SqT.of hp3) rfl ?_
            walk_at "go"
            have m3 : Mx p (upd H p (.lst [])) H3 := (m1.trans (Mx.of e2)).trans (Mx.of e3)
            have l3 : H3 p = some (.lst []) := e3 _ _ (e2 _ _ l1)
            walk_at "br"
            · intro he
              have he2 : a2 = b1 := enc_inj' (ok_nd.mp ha).2 (ok_nd.mp hb).1 he
              subst he2
              walk_at "go"
              refine ⟨tyL l3, sides_run ha (by omega) fun p4 H4 e4 hp4 => ixT (SqT.of hp4) rfl ⟨by decide, fun p5 hp5 => ?_⟩⟩
              have l4 : H4 p = some (.lst []) := e4 _ _ l3
              have l5 : (upd H4 p5 (.tup [V.int 1, S (enc a2)])) p = some (.lst []) := (Evl.Ex.new hp5) _ _ l4
              refine rApp l5 (by decide) ?_
              refine ⟨((m3.trans (Mx.of e4)).trans (Mx.of (Evl.Ex.new hp5))).trans Mx.upd, [.ref p5], upd_same, ?_⟩
              rw [show red1 (.nd (.nd a1 a2) (.nd a2 b2)) = [(1, a2)] by simp [red1]]
              exact .cons ⟨p5, rfl, Mx.upd _ _ (ne_of_none (l4 ▸ rfl : H4 p = some (.lst [])) hp5).symm upd_same⟩ .nil
            · intro he
              walk_at "go"
              exact ⟨m3, [], l3, by rw [show red1 (.nd (.nd a1 a2) (.nd b1 b2)) = [] from if_neg fun z => he (by rw [z])]; exact .nil⟩
      · rintro σ' H' ⟨rfl, m2, xs, l2, t2⟩
        walk_at "go"
        have z2 : xs.length ≤ 3 := by
          have h1 := t2.length
          have h2 : (red1 (.nd a b)).length ≤ 3 := by
            have := red_len (.nd a b)
            unfold red at this
            rw [List.length_append] at this
            omega
          omega
        -- the second rule
        refine ⟨fun σ' H'' => σ' = [some (S (enc (.nd a b))), some (.ref p), some (S (enc a)), some (S (enc b))] ∧ Mx p H' H'' ∧ ∃ ys, H'' p = some (.lst (xs ++ ys)) ∧ Paired (fun v q => tellR q H'' v) ys (red2 (.nd a b)), ?_, ?_⟩
        · walk_at "go"
          refine ⟨by omega, ?_⟩
          match b, hb, hn with
          | .lf c, hb, hn =>
            refine ⟨c, at0 rfl, ?_⟩
            rw [decide_eq_false (isL_ne hb)]
            walk_at "go"
            exact ⟨Mx.refl, [], by rw [List.append_nil]; exact l2, .nil⟩
          | .nd b1 b2, hb, hn =>
            refine ⟨42, at0 rfl, ?_⟩
            walk_at "go"
            have hn2 : (enc (.nd b1 b2)).length = 1 + (enc b1).length + (enc b2).length := by simp [enc]; omega
            refine sides_run hb (by omega) fun p2 H2 e2 hp2 => ixT (SqT.of hp2) rfl ?_
            walk_at "go"
            refine ⟨by omega, ?_⟩
            match b1, hb, hn, hn2, hp2 with
            | .lf c, hb, hn, hn2, hp2 =>
              refine ⟨c, at0 rfl, ?_⟩
              rw [decide_eq_false (isL_ne (ok_nd.mp hb).1)]
              walk_at "go"
              exact ⟨Mx.of e2, [], by rw [List.append_nil]; exact e2 _ _ l2, .nil⟩
            | .nd x y, hb, hn, hn2, hp2 =>
              have hb1 := (ok_nd.mp hb).1
              refine ⟨42, at0 rfl, ?_⟩
              walk_at "go"
              refine sides_run hb (by omega) fun p3 H3 e3 hp3 => ixT (SqT.of hp3) rfl ?_
              refine sides_run hb1 (by omega) fun p4 H4 e4 hp4 => ixT (SqT.of hp4) rfl ?_
              walk_at "go"
              have e24 : Evl.Ex H' H4 := (e2.trans e3).trans e4
              walk_at "br"
              · intro he
                have he2 : x = a := enc_inj' (ok_nd.mp hb1).1 ha he
                subst he2
                walk_at "go"
                refine ⟨tyL (e24 _ _ l2), sides_run hb (by omega) fun p5 H5 e5 hp5 => ixT (SqT.of hp5) rfl ⟨by decide, fun p6 hp6 => ?_⟩⟩
                have l5 : H5 p = some (.lst xs) := e5 _ _ (e24 _ _ l2)
                refine rApp ((Evl.Ex.new hp6) _ _ l5) (by omega) ?_
                refine ⟨((Mx.of e24).trans (Mx.of e5)).trans ((Mx.of (Evl.Ex.new hp6)).trans Mx.upd), [.ref p6], upd_same, ?_⟩
                rw [show red2 (.nd x (.nd (.nd x y) b2)) = [(2, .nd x y)] by simp [red2]]
                exact .cons ⟨p6, rfl, Mx.upd _ _ (ne_of_none l5 hp6).symm upd_same⟩ .nil
              · intro he
                walk_at "go"
                exact ⟨Mx.of e24, [], by rw [List.append_nil]; exact e24 _ _ l2, by rw [show red2 (.nd a (.nd (.nd x y) b2)) = [] from if_neg fun z => he (by rw [z])]; exact .nil⟩
        · rintro σ' H'' ⟨rfl, m3, ys, l3, t3⟩
          walk_at "go"
          have z3 : ys.length ≤ 3 := by
            have h1 := t3.length
            have h2 : (red2 (.nd a b)).length ≤ 3 := by
              have := red_len (.nd a b)
              unfold red at this
              rw [List.length_append, List.length_append] at this
              omega
            omega
          -- the third rule
          refine ⟨fun σ' H3 => σ' = [some (S (enc (.nd a b))), some (.ref p), some (S (enc a)), some (S (enc b))] ∧ Mx p H'' H3 ∧ ∃ zs, H3 p = some (.lst (xs ++ ys ++ zs)) ∧ Paired (fun v q => tellR q H3 v) zs (red3 (.nd a b)), ?_, ?_⟩
          · walk_at "go"
            refine ⟨by omega, ?_⟩
            match a, ha, hn with
            | .lf c, ha, hn =>
              refine ⟨c, at0 rfl, ?_⟩
              rw [decide_eq_false (isL_ne ha)]
              walk_at "go"
              exact ⟨Mx.refl, [], by rw [List.append_nil]; exact l3, .nil⟩
            | .nd a1 a2, ha, hn =>
              refine ⟨42, at0 rfl, ?_⟩
              walk_at "go"
              have hn2 : (enc (.nd a1 a2)).length = 1 + (enc a1).length + (enc a2).length := by simp [enc]; omega
              refine sides_run ha (by omega) fun p2 H2 e2 hp2 => ixT (SqT.of hp2) rfl ?_
              walk_at "go"
              refine ⟨by omega, ?_⟩
              match a2, ha, hn, hn2, hp2 with
              | .lf c, ha, hn, hn2, hp2 =>
                refine ⟨c, at0 rfl, ?_⟩
                rw [decide_eq_false (isL_ne (ok_nd.mp ha).2)]
                walk_at "go"
                exact ⟨Mx.of e2, [], by rw [List.append_nil]; exact e2 _ _ l3, .nil⟩
              | .nd y z, ha, hn, hn2, hp2 =>
                have ha2 := (ok_nd.mp ha).2
                refine ⟨42, at0 rfl, ?_⟩
                walk_at "go"
                refine sides_run ha (by omega) fun p3 H3 e3 hp3 => ixT (SqT.of hp3) rfl ?_
                refine sides_run ha2 (by omega) fun p4 H4 e4 hp4 => ixT (SqT.of hp4) rfl ?_
                walk_at "go"
                have e24 : Evl.Ex H'' H4 := (e2.trans e3).trans e4
                walk_at "br"
                · intro he
                  have he2 : z = b := enc_inj' (ok_nd.mp ha2).2 hb he
                  subst he2
                  walk_at "go"
                  refine ⟨tyL (e24 _ _ l3), sides_run ha (by omega) fun p5 H5 e5 hp5 => ixT (SqT.of hp5) rfl ⟨by decide, fun p6 hp6 => ?_⟩⟩
                  have l5 : H5 p = some (.lst (xs ++ ys)) := e5 _ _ (e24 _ _ l3)
                  refine rApp ((Evl.Ex.new hp6) _ _ l5) (by rw [List.length_append]; omega) ?_
                  refine ⟨((Mx.of e24).trans (Mx.of e5)).trans ((Mx.of (Evl.Ex.new hp6)).trans Mx.upd), [.ref p6], upd_same, ?_⟩
                  rw [show red3 (.nd (.nd a1 (.nd y z)) z) = [(3, .nd y z)] by simp [red3]]
                  exact .cons ⟨p6, rfl, Mx.upd _ _ (ne_of_none l5 hp6).symm upd_same⟩ .nil
                · intro he
                  walk_at "go"
                  exact ⟨Mx.of e24, [], by rw [List.append_nil]; exact e24 _ _ l3, by rw [show red3 (.nd (.nd a1 (.nd y z)) b) = [] from if_neg fun w => he (by rw [w])]; exact .nil⟩
          · rintro σ' H3 ⟨rfl, m4, zs, l4, t4⟩
            walk_at "go"
            have mono : ∀ {G G' : Hp} {us : List V} {qs : List (Nat × Tm)}, Mx p G G' → (∃ ws, G p = some (.lst ws)) → Paired (fun v q => tellR q G v) us qs → Paired (fun v q => tellR q G' v) us qs := fun m ⟨ws, hw⟩ t => L2.Paired.mapP t fun v q ⟨w, h1, h2⟩ => ⟨w, h1, m.at hw h2 (by intro z; cases z)⟩
            refine k p H3 (xs ++ ys ++ zs) hp (((m2.trans m3).trans m4).ex hp) l4 ?_
            have t2' := mono (m3.trans m4) ⟨_, l2⟩ t2
            have t3' := mono m4 ⟨_, l3⟩ t3
            rw [List.append_assoc]
            exact pair_app t2' (pair_app t3' t4)
abbrev sl__law_steps : List Str := ["term", "found", "index", "part", "rule", "result"]
theorem sc__law_steps : FnScope sl__law_steps ["term"] (defScope s__law_steps) := ⟨rfl, rfl, rfl, by decide +kernel, rfl, by decide +kernel, by decide +kernel⟩
theorem st__law_steps (v0 : V) : L2.start sl__law_steps [v0] = [some v0, none, none, none, none, none] := rfl
theorem pair_get {α β : Type} {F : α → β → Prop} : ∀ {a : List α} {b : List β} {i : Nat} {x : α}, Paired F a b → a[i]? = some x → ∃ y, b[i]? = some y ∧ F x y
  | _, _, _, _, .nil, e => by simp at e
  | _, _, 0, _, .cons r _, e => by simp at e; subst e; exact ⟨_, rfl, r⟩
  | _, _, i + 1, _, .cons _ t, e => by
    obtain ⟨y, h1, h2⟩ := pair_get (i := i) t (by simpa using e)
    exact ⟨y, by simpa using h1, h2⟩
theorem for_via {te : TE} {g : TG} {tb : TS} {D : Ends} {σ : L2.St} {H : Hp} : tFor (iK K te) g tb D σ H = te σ H fun v H1 => tFor (iK K (tC v)) g tb D σ H1 := rfl
/-- all steps, as a fresh list -/
def spAll : Sp := fun vs H Q _ => ∃ t : Tm, vs = [S (enc t)] ∧ ok t = true ∧ (enc t).length ≤ 100000 ∧ ∀ p H2 xs, H p = none → Evl.Ex H H2 → H2 p = some (.lst xs) → Told H2 xs (steps t) → Q (.ref p) H2
theorem ok__law_steps (T : Top K mg) : FnOk P w K mg base CX0 4 T._law_steps.f T._law_steps.fd ["term"] spAll := by
  refine T._law_steps.F.ok sc__law_steps (fun vs H Q E h => ?_) (fun cdv A outer s H vs Q E hr h => ?_)
  · obtain ⟨t, rfl, _⟩ := h
    rfl
  · obtain ⟨t, rfl, ht, hl, k⟩ := h
    refine ⟨_, (pss_cons (ps_set (i := 1) sc__law_steps.nd rfl (by first | exact Or.inl rfl | exact Or.inr rfl) (pe_lst pa_nil)) (pss_cons (ps_for PassesOwn.never (by rfl) (pi_range1 (by rfl) T.range (pa_cons (pe_callB (kk_len (K := K) rfl) (by rfl) T.len (by decide +kernel) (pa_cons (pv 0) pa_nil)) pa_nil)) (pg_name (i := 2) sc__law_steps.nd rfl (by first | exact Or.inl rfl | exact Or.inr rfl)) (pss_cons (ps_set (i := 3) sc__law_steps.nd rfl (by first | exact Or.inl rfl | exact Or.inr rfl) (callO (ok__law_part_of T) (hr.mono (by first | decide | omega)) (by rfl) (pa_cons (pv 0) (pa_cons (pv 2) pa_nil)))) (pss_one (ps_for PassesOwn.never (by rfl) (kk_pi (K := K) rfl (callO (ok__law_rule_results T) (hr.mono (by first | decide | omega)) (by rfl) (pa_cons (pv 3) pa_nil))) (kk_gtup (K := K) rfl (pg_tup (n := 2) (by rfl) (pgs_cons (pg_name (i := 4) sc__law_steps.nd rfl (by first | exact Or.inl rfl | exact Or.inr rfl)) (pgs_cons (pg_name (i := 5) sc__law_steps.nd rfl (by first | exact Or.inl rfl | exact Or.inr rfl)) pgs_nil)))) (pss_one (ps_expr (kk_bm (K := K) rfl (pe_bm PySem.F.plainAttrs_list PySem.F.slot_list_append PySem.F.type_list_append mt_append (pv 1) (pa_cons (pe_tup (pa_cons (pv 2) (pa_cons (pv 4) (pa_cons (pe_op (kk_add (K := K) rfl) (pe_op (kk_add (K := K) rfl) (pe_slice (kk_sl (K := K) rfl) (pv 0) po_none (po_some (pv 2))) (pv 5)) (pe_slice (kk_sl (K := K) rfl) (pv 0) (po_some (pe_op (kk_add (K := K) rfl) (pv 2) (pe_callB (kk_len (K := K) rfl) (by rfl) T.len (by decide +kernel) (pa_cons (pv 3) pa_nil)))) po_none)) pa_nil)))) pa_nil))))))))) (pss_one (ps_ret (pv 1))))), ?_⟩
    rw [st__law_steps]
    walk_at "go"
    refine ⟨by decide, fun p hp => ?_⟩
    have mono : ∀ {G G' : Hp} {us : List V} {qs : List (Nat × Nat × Tm)}, Mx p G G' → (∃ ws, G p = some (.lst ws)) → Told G us qs → Told G' us qs := fun m ⟨ws, hw⟩ t => L2.Paired.mapP t fun v q ⟨w, h1, h2⟩ => ⟨w, h1, m.at hw h2 (by intro z; cases z)⟩
    refine loop_R (n := ((enc t).length : Int)) (fun Q q => by walk_at "go"; exact ⟨by omega, q⟩) (by omega) (fun i σ' H' => ∃ (o2 o3 o4 o5 : Option V) (xs : List V) (dn : List (Nat × Nat × Tm)), σ' = [some (S (enc t)), some (.ref p), o2, o3, o4, o5] ∧ Mx p (upd H p (.lst [])) H' ∧ H' p = some (.lst xs) ∧ Told H' xs dn ∧ steps t = dn ++ stepsFrom i ((subs t).drop i))
      ⟨none, none, none, none, [], [], rfl, Mx.refl, upd_same, .nil, rfl⟩ ?_ ?_
    · rintro i σ' H1 hi ⟨o2, o3, o4, o5, xs, dn, rfl, m1, l1, told, hst⟩
      walk_at "go"
      have hi2 : i < (enc t).length := by omega
      obtain ⟨s, f, hsf⟩ := subs_some t hi2
      obtain ⟨f1, f2, f3, f4, f5⟩ := subs_at t i s f hsf
      obtain ⟨os, of⟩ := f4 ht
      have hdrop : (subs t).drop i = (s, f) :: (subs t).drop (i + 1) := by
        obtain ⟨hlt, e⟩ := List.getElem?_eq_some_iff.mp hsf
        rw [← e, List.drop_eq_getElem_cons hlt]
      have hst2 : steps t = dn ++ ((red s).map (fun q => (i, q.1, f q.2)) ++ stepsFrom (i + 1) ((subs t).drop (i + 1))) := by
        rw [hst, hdrop]
        rfl
      have hz := drop_len f2 (Nat.le_of_lt hi2)
      refine spPart_S (by omega) os f2 ?_
      walk_at "go"
      rw [for_via]
      walk_at "go"
      refine ⟨s, rfl, os, by omega, fun q H2 rs hq e2 hrs res => ?_⟩
      have hqp : q ≠ p := fun z => by rw [z, l1] at hq; cases hq
      have hlen := congrArg List.length hst2
      rw [List.length_append, List.length_append, List.length_map] at hlen
      have hsl := steps_len t
      have hxs := told.length
      have hrl := res.length
      refine loop_L (a := q) (xs := rs) (fun Q q => q) (fun n σ' H' => ∃ (o4 o5 : Option V) (ys : List V), σ' = [some (S (enc t)), some (.ref p), some (V.int (i : Nat)), some (S (enc s)), o4, o5] ∧ Mx p H2 H' ∧ H' p = some (.lst ys) ∧ n ≤ (red s).length ∧ Told H' ys (dn ++ ((red s).take n).map (fun q => (i, q.1, f q.2))))
        ⟨o4, o5, xs, rfl, Mx.refl, e2 _ _ l1, Nat.zero_le _, by rw [List.take_zero, List.map_nil, List.append_nil]; exact told.mono e2⟩ ?_ ?_ ?_
      · rintro n σ' H' _ ⟨_, _, _, rfl, m, _⟩
        exact SqL.of (m q _ hqp hrs)
      · rintro n x σ' H3 hx ⟨o4, o5, ys, rfl, m3, l3, hn, told3⟩
        obtain ⟨⟨r, u⟩, hru, a, rfl, ha⟩ := pair_get res hx
        have ha3 : H3 a = some (.tup [.int (r : Nat), S (enc u)]) := m3.at (e2 _ _ l1) ha (by intro z; cases z)
        refine g_unpack (SqT.of ha3) rfl ?_
        walk_at "go"
        have hmem : (r, u) ∈ red s := List.mem_of_getElem? hru
        obtain ⟨u1, u2, _⟩ := red_sz hmem
        have hlu := enc_len u
        have hls := enc_len s
        have hnl := (List.getElem?_eq_some_iff.mp hru).1
        have htl := told3.length
        rw [List.length_append, List.length_map, List.length_take] at htl
        rw [cutL_hi (by omega), show (i : Int) + ((enc s).length : Nat) = ((i + (enc s).length : Nat) : Int) by omega, cutL_lo (by omega)]
        have htk : (List.take i (enc t)).length = i := by rw [List.length_take]; omega
        refine ⟨tyL l3, by omega, by omega, by omega, by omega, by rw [List.length_append, List.length_drop]; omega, by decide, fun p2 hp2 => ?_⟩
        rw [← f1 u]
        refine rApp ((Evl.Ex.new hp2) _ _ l3) (by omega) ?_
        have m4 : Mx p H3 (upd (upd H3 p2 (.tup [V.int (i : Nat), V.int (r : Nat), S (enc (f u))])) p (.lst (ys ++ [V.ref p2]))) := (Mx.of (Evl.Ex.new hp2)).trans Mx.upd
        refine ⟨_, _, ys ++ [.ref p2], rfl, m3.trans m4, upd_same, hnl, ?_⟩
        rw [List.take_add_one, hru, Option.toList_some, List.map_append, ← List.append_assoc]
        have told4 := mono m4 ⟨_, l3⟩ told3
        exact Told.snoc (s := (i, r, f u)) ⟨p2, rfl, Mx.upd _ _ (ne_of_none l3 hp2).symm upd_same⟩ told4
      · rintro σ' H3 ⟨o4, o5, ys, rfl, m3, l3, hn, told3⟩
        rw [hrl, List.take_length] at told3
        exact ⟨_, _, _, _, ys, _, rfl, (m1.trans (Mx.of e2)).trans m3, l3, told3, by rw [hst2, List.append_assoc]⟩
    · rintro σ' H1 ⟨o2, o3, o4, o5, xs, dn, rfl, m1, l1, told, hst⟩
      rw [show ((enc t).length : Int).toNat = (enc t).length by omega, List.drop_of_length_le (by rw [subs_len]; exact Nat.le_refl _)] at hst
      have e : steps t = dn := by rw [hst]; simp [stepsFrom]
      walk_at "go"
      exact k p H1 xs hp (m1.ex hp) l1 (by rw [e]; exact told)
end
end LW

end

section
set_option maxHeartbeats 4000000

namespace LW
open PySem PySem.Spec PyProof.Rows L2 KG KT
local macro_rules | `(tactic| walk_at "go") => `(tactic| try simp only [b_St, b_Sf, b_Et, b_Ef, b_At, b_Af, b_Ot, b_Of, b_AVt, b_AVf, b_OVt, b_OVf, b_Ct, b_Cf, g_seq, g_asg, g_name, g_ret, g_retN, g_next, g_brk, g_cont, g_drop, g_ifS, g_if, g_and, g_or, g_not, g_andV, g_orV, g_notV, g_chain, g_test, g_B, g_op, g_un, g_neg, g_var, g_c, g_nil, g_cons, g_CB, g_call, g_par, g_par3, g_aug, g_sl, g_part, g_nopart, g_tup, g_lst, g_gcons, g_gnil, g_BM, g_dnew, g_yes, g_never, g_tupK, g_listK, g_KCall, g_for1, g_tru, k_then, k_0, k_plain, k_if, k_yield, b_Gt, b_Gf, rx_K, kon_K, g_M1, g_dget2, g_isS, g_wipe0, g_wipe1, g_wipe2, g_wipe3, b_Lt, b_Lf,
  kAdd_i, kAdd_s, kMul_i, kMul_s, kInt_i, kInt0_i, kEq_i, kEq_s, kNe_i, kNe_s, kEq_b, kNe_b, kIn_s, kNotIn_s, kLen_s, kIx_s, kSl_s, kAug_i, kAbs_i, kMax_i, kMin_i, kIntOf_i, kIntOf_b, g_sub, isN_S, isN_i, isN_n, isN_r, notN_S, notN_i, notN_n, notN_r, isN_b, notN_b, tru_b, tru_i, tru_n, ex_bl, ex_int, ex_some, par_2, par_3, isi_S kit_ss, cx_K, cx_Kn, Bool.not_true, Bool.not_false,
  List.set_cons_zero, List.set_cons_succ, List.getElem?_cons_zero, List.getElem?_cons_succ, List.map_cons, List.map_nil, List.append_nil, List.length_cons, List.length_nil, Nat.zero_add, dec_one, true_and, decide_true, decide_false])
local macro_rules | `(tactic| walk_at "br") => `(tactic| first | refine br_W ?_ ?_ | refine br_G ?_ ?_ | refine br_L ?_ ?_ | refine br_Ln ?_ ?_ | refine br_Lm ?_ ?_ | refine br_Lb ?_ ?_ | refine br_S ?_ ?_ | refine br_E ?_ ?_ | refine br_A ?_ ?_ | refine br_O ?_ ?_ | refine br_AV ?_ ?_ | refine br_OV ?_ ?_ | refine br_C ?_ ?_ | refine br_Sn ?_ ?_ | refine br_En ?_ ?_ | refine br_An ?_ ?_ | refine br_On ?_ ?_ | refine br_AVn ?_ ?_ | refine br_OVn ?_ ?_ | refine br_Cn ?_ ?_ | refine br_Sm ?_ ?_ | refine br_Em ?_ ?_ | refine br_Am ?_ ?_ | refine br_Om ?_ ?_ | refine br_AVm ?_ ?_ | refine br_OVm ?_ ?_ | refine br_Cm ?_ ?_ | refine br_Sb ?_ ?_ | refine br_Eb ?_ ?_ | refine br_Ab ?_ ?_ | refine br_Ob ?_ ?_ | refine br_AVb ?_ ?_ | refine br_OVb ?_ ?_ | refine br_Cb ?_ ?_)

section
variable {P : Program} {w : World} {K : PySem.W.Frag} {mg : Str → Option Value} {base : Heap}
abbrev sl__law_up : List Str := ["dice", "term", "letters", "index", "rule", "part", "more", "other", "fresh"]
theorem sc__law_up : FnScope sl__law_up ["dice", "term", "letters"] (defScope s__law_up) := ⟨rfl, rfl, rfl, by decide +kernel, rfl, by decide +kernel, by decide +kernel⟩
theorem st__law_up (v0 : V) (v1 : V) (v2 : V) : L2.start sl__law_up [v0, v1, v2] = [some v0, some v1, some v2, none, none, none, none, none, none] := rfl
/-! ### a step up -/
/-- t' steps down to t -/
def UpOf (t t' : Tm) : Prop := ∃ (i : Nat) (s x : Tm) (f : Tm → Tm) (r : Nat), (subs t)[i]? = some (s, f) ∧ t' = f x ∧ (r, s) ∈ red x
def spUp : Sp := fun vs H Q _ => ∃ (d : Addr) (t : Tm) (l : List Nat), vs = [.ref d, S (enc t), S l] ∧ Dc H d ∧ ok t = true ∧ sz t ≤ 1000 ∧ l ≠ [] ∧ l.length ≤ 1000 ∧ (∀ c ∈ l, isL c = true) ∧
  ∀ (t' : Tm) H2, ok t' = true → sz t' ≤ 2 * sz t + 2 → UpOf t t' → Fx d H H2 → Q (S (enc t')) H2
theorem ok__law_up (T : Top K mg) : FnOk P w K mg base CX0 4 T._law_up.f T._law_up.fd ["dice", "term", "letters"] spUp := by
  refine T._law_up.F.ok sc__law_up (fun vs H Q E h => ?_) (fun cdv A outer s H vs Q E hr h => ?_)
  · obtain ⟨d, t, l, rfl, _⟩ := h
    rfl
  · obtain ⟨d, t, l, rfl, hd, ht, hz, hn, hl, hL, k⟩ := h
    refine ⟨_, (pss_cons (ps_par (i := 3) (j := 4) (by rfl) sc__law_up.nd rfl rfl (by decide) rfl rfl (pa_cons (callO (ok__law_roll T) (hr.mono (by first | decide | omega)) (by rfl) (pa_cons (pv 0) (pa_cons (pe_callB (kk_len (K := K) rfl) (by rfl) T.len (by decide +kernel) (pa_cons (pv 1) pa_nil)) pa_nil))) (pa_cons (callO (ok__law_roll T) (hr.mono (by first | decide | omega)) (by rfl) (pa_cons (pv 0) (pa_cons pe_int pa_nil))) pa_nil)) rfl) (pss_cons (ps_set (i := 5) sc__law_up.nd rfl (by first | exact Or.inl rfl | exact Or.inr rfl) (callO (ok__law_part_of T) (hr.mono (by first | decide | omega)) (by rfl) (pa_cons (pv 1) (pa_cons (pv 3) pa_nil)))) (pss_cons (ps_par (i := 6) (j := 7) (by rfl) sc__law_up.nd rfl rfl (by decide) rfl rfl (pa_cons (callO (ok__law_pick T) (hr.mono (by first | decide | omega)) (by rfl) (pa_cons (pv 0) (pa_cons (pv 2) pa_nil))) (pa_cons (callO (ok__law_pick T) (hr.mono (by first | decide | omega)) (by rfl) (pa_cons (pv 0) (pa_cons (pv 2) pa_nil))) pa_nil)) rfl) (Evl.pss_cut (ps_if (pw_or (pt_cmpR (kk_eq (K := K) rfl hr) (pv 4) pe_int (nomark _)) (pw_or1 (pt_cmpR (kk_ne (K := K) rfl hr) (pe_ix (kk_ix (K := K) rfl) (pv 5) pe_int (fun _ _ => rfl)) (pe_S [42] (by decide)) (nomark _)))).pt (pss_one (ps_set (i := 8) sc__law_up.nd rfl (by first | exact Or.inl rfl | exact Or.inr rfl) (pe_op (kk_add (K := K) rfl) (pe_op (kk_add (K := K) rfl) (pe_op (kk_add (K := K) rfl) (pe_op (kk_add (K := K) rfl) (pe_op (kk_add (K := K) rfl) (pe_S [42, 42] (by decide)) (pv 6)) (pv 5)) (pe_S [42] (by decide))) (pv 5)) (pv 7)))) (pss_one (ps_if (pt_cmpR (kk_eq (K := K) rfl hr) (pv 4) pe_int (nomark _)) (pss_one (ps_set (i := 8) sc__law_up.nd rfl (by first | exact Or.inl rfl | exact Or.inr rfl) (pe_op (kk_add (K := K) rfl) (pe_op (kk_add (K := K) rfl) (pe_op (kk_add (K := K) rfl) (pe_op (kk_add (K := K) rfl) (pe_S [42] (by decide)) (pe_ix (kk_ix (K := K) rfl) (callO (ok__law_sides T) (hr.mono (by first | decide | omega)) (by rfl) (pa_cons (pv 5) pa_nil)) pe_int (fun _ _ => rfl))) (pe_S [42] (by decide))) (pv 5)) (pv 6)))) (pss_one (ps_set (i := 8) sc__law_up.nd rfl (by first | exact Or.inl rfl | exact Or.inr rfl) (pe_op (kk_add (K := K) rfl) (pe_op (kk_add (K := K) rfl) (pe_op (kk_add (K := K) rfl) (pe_S [42, 42] (by decide)) (pv 6)) (pv 5)) (pe_ix (kk_ix (K := K) rfl) (callO (ok__law_sides T) (hr.mono (by first | decide | omega)) (by rfl) (pa_cons (pv 5) pa_nil)) pe_int (fun _ _ => rfl)))))))) (pss_one (ps_ret (pe_op (kk_add (K := K) rfl) (pe_op (kk_add (K := K) rfl) (pe_slice (kk_sl (K := K) rfl) (pv 1) po_none (po_some (pv 3))) (pv 8)) (pe_slice (kk_sl (K := K) rfl) (pv 1) (po_some (pe_op (kk_add (K := K) rfl) (pv 3) (pe_callB (kk_len (K := K) rfl) (by rfl) T.len (by decide +kernel) (pa_cons (pv 5) pa_nil)))) po_none)))))))), ?_⟩
    rw [st__law_up]
    walk_at "go"
    have hlt := enc_len t
    have hpos := sz_pos t
    refine ⟨by omega, roll_run hd (by omega) (by omega) fun r H1 r0 r1 fx1 => ?_⟩
    obtain ⟨i, rfl⟩ : ∃ i : Nat, r = i := ⟨r.toNat, by omega⟩
    refine roll_run fx1.dc (by decide) (by decide) fun r2 H2 q0 q1 fx2 => ?_
    walk_at "go"
    obtain ⟨s, f, hsf⟩ := subs_some t (i := i) (by omega)
    obtain ⟨f1, f2, f3, f4, f5⟩ := subs_at t i s f hsf
    obtain ⟨os, of⟩ := f4 ht
    have hls := enc_len s
    have hsz := drop_len f2 (by omega)
    have hps := sz_pos s
    refine spPart_S (by omega) os f2 ?_
    walk_at "go"
    refine pick_S fx2.dc hn (by omega) fun c1 H3 hc1 fx3 => ?_
    refine pick_S fx3.dc hn (by omega) fun c2 H4 hc2 fx4 => ?_
    walk_at "go"
    have fx : Fx d H H4 := ((fx1.trans fx2).trans fx3).trans fx4
    have ok1 : ok (.lf c1) = true := hL c1 hc1
    have ok2 : ok (.lf c2) = true := hL c2 hc2
    refine ⟨fun σ' H' => Fx d H H' ∧ ∃ x r, (r, s) ∈ red x ∧ ok x = true ∧ sz x ≤ 2 * sz s + 2 ∧ σ' = [some (.ref d), some (S (enc t)), some (S l), some (.int (i : Nat)), some (.int r2), some (S (enc s)), some (S [c1]), some (S [c2]), some (S (enc x))], ?_, ?_⟩
    · have case0 : (tAsg (tOp (kAdd K) (tOp (kAdd K) (tOp (kAdd K) (tOp (kAdd K) (tOp (kAdd K) (tC (S [42, 42])) (tVar 6)) (tVar 5)) (tC (S [42]))) (tVar 5)) (tVar 7)) (gName 8))
          { nx := fun σ' H' => Fx d H H' ∧ ∃ x r, (r, s) ∈ red x ∧ ok x = true ∧ sz x ≤ 2 * sz s + 2 ∧ σ' = [some (.ref d), some (S (enc t)), some (S l), some (.int (i : Nat)), some (.int r2), some (S (enc s)), some (S [c1]), some (S [c2]), some (S (enc x))], rt := Q }
          [some (V.ref d), some (S (enc t)), some (S l), some (V.int (i : Nat)), some (V.int r2), some (S (enc s)), some (S [c1]), some (S [c2]), none] H4 := by
        walk_at "go"
        simp only [List.length_append, List.length_cons, List.length_nil]
        refine ⟨by omega, by omega, by omega, by omega, by omega, fx, .nd (.nd (.lf c1) s) (.nd s (.lf c2)), 1, ?_, ok_nd.mpr ⟨ok_nd.mpr ⟨ok1, os⟩, ok_nd.mpr ⟨os, ok2⟩⟩, by simp only [sz]; omega, ?_⟩
        · simp [red, red1]
        · rw [show [42, 42] ++ [c1] ++ enc s ++ [42] ++ enc s ++ [c2] = enc (.nd (.nd (.lf c1) s) (.nd s (.lf c2))) by simp [enc]]
      walk_at "go"
      walk_at "br"
      · intro _
        exact case0
      · intro hr0
        walk_at "go"
        refine ⟨by omega, ?_⟩
        match s, os, hls, hps, hsz, case0 with
        | .lf c, os, hls, hps, hsz, case0 =>
          refine ⟨c, at0 rfl, ?_⟩
          rw [decide_eq_false (isL_ne os)]
          exact case0
        | .nd a b, os, hls, hps, hsz, case0 =>
          obtain ⟨oa, ob⟩ := ok_nd.mp os
          have ha := enc_len a
          have hb := enc_len b
          have hab : (enc (.nd a b)).length = 1 + (enc a).length + (enc b).length := by simp [enc]; omega
          have hsab : sz (.nd a b) = sz a + sz b := rfl
          have hpa := sz_pos a
          have hpb := sz_pos b
          refine ⟨42, at0 rfl, ?_⟩
          walk_at "go"
          walk_at "br"
          · intro hr1
            walk_at "go"
            refine sides_run os (by omega) fun p H5 e5 hp5 => ixT (SqT.of hp5) rfl ?_
            walk_at "go"
            simp only [List.length_append, List.length_cons, List.length_nil]
            refine ⟨by omega, by omega, by omega, by omega, fx.trans (Fx.of fx.dc e5), .nd a (.nd (.nd a b) (.lf c1)), 2, ?_, ok_nd.mpr ⟨oa, ok_nd.mpr ⟨os, ok1⟩⟩, by simp only [sz]; omega, ?_⟩
            · simp [red, red2]
            · rw [show [42] ++ enc a ++ [42] ++ enc (.nd a b) ++ [c1] = enc (.nd a (.nd (.nd a b) (.lf c1))) by simp [enc]]
          · intro hr1
            walk_at "go"
            simp only [List.length_append, List.length_cons, List.length_nil]
            refine ⟨by omega, by omega, sides_run os (by omega) fun p H5 e5 hp5 => ixT (SqT.of hp5) rfl ?_⟩
            walk_at "go"
            simp only [List.length_append, List.length_cons, List.length_nil]
            refine ⟨by omega, fx.trans (Fx.of fx.dc e5), .nd (.nd (.lf c1) (.nd a b)) b, 3, ?_, ok_nd.mpr ⟨ok_nd.mpr ⟨ok1, os⟩, ob⟩, by simp only [sz]; omega, ?_⟩
            · simp [red, red3]
            · rw [show [42, 42] ++ [c1] ++ enc (.nd a b) ++ enc b = enc (.nd (.nd (.lf c1) (.nd a b)) b) by simp [enc]]
    · rintro σ' H' ⟨fx', x, r, hx, okx, szx, rfl⟩
      have hlx := enc_len x
      have h5 := f5 x
      walk_at "go"
      rw [cutL_hi (by omega), show (i : Int) + ((enc s).length : Nat) = ((i + (enc s).length : Nat) : Int) by omega, cutL_lo (by omega)]
      have htk : (List.take i (enc t)).length = i := by rw [List.length_take]; omega
      refine ⟨by omega, by omega, by omega, by omega, by rw [List.length_append, List.length_drop]; omega, ?_⟩
      rw [← f1 x]
      exact k (f x) H' (of x okx) (by omega) ⟨i, s, x, f, r, hsf, rfl, hx⟩ fx'
end
end LW

end

section
set_option maxHeartbeats 4000000

namespace LW
open PySem PySem.Spec PyProof.Rows L2 KG KT
local macro_rules | `(tactic| walk_at "go") => `(tactic| try simp only [b_St, b_Sf, b_Et, b_Ef, b_At, b_Af, b_Ot, b_Of, b_AVt, b_AVf, b_OVt, b_OVf, b_Ct, b_Cf, g_seq, g_asg, g_name, g_ret, g_retN, g_next, g_brk, g_cont, g_drop, g_ifS, g_if, g_and, g_or, g_not, g_andV, g_orV, g_notV, g_chain, g_test, g_B, g_op, g_un, g_neg, g_var, g_c, g_nil, g_cons, g_CB, g_call, g_par, g_par3, g_aug, g_sl, g_part, g_nopart, g_tup, g_lst, g_gcons, g_gnil, g_BM, g_dnew, g_yes, g_never, g_tupK, g_listK, g_KCall, g_for1, g_tru, k_then, k_0, k_plain, k_if, k_yield, b_Gt, b_Gf, rx_K, kon_K, g_M1, g_dget2, g_isS, g_wipe0, g_wipe1, g_wipe2, g_wipe3, b_Lt, b_Lf,
  kAdd_i, kAdd_s, kMul_i, kMul_s, kInt_i, kInt0_i, kEq_i, kEq_s, kNe_i, kNe_s, kEq_b, kNe_b, kIn_s, kNotIn_s, kLen_s, kIx_s, kSl_s, kAug_i, kAbs_i, kMax_i, kMin_i, kIntOf_i, kIntOf_b, g_sub, isN_S, isN_i, isN_n, isN_r, notN_S, notN_i, notN_n, notN_r, isN_b, notN_b, tru_b, tru_i, tru_n, ex_bl, ex_int, ex_some, par_2, par_3, isi_S kit_ss, cx_K, cx_Kn, Bool.not_true, Bool.not_false,
  List.set_cons_zero, List.set_cons_succ, List.getElem?_cons_zero, List.getElem?_cons_succ, List.map_cons, List.map_nil, List.append_nil, List.length_cons, List.length_nil, Nat.zero_add, dec_one, true_and, decide_true, decide_false])
local macro_rules | `(tactic| walk_at "br") => `(tactic| first | refine br_W ?_ ?_ | refine br_G ?_ ?_ | refine br_L ?_ ?_ | refine br_Ln ?_ ?_ | refine br_Lm ?_ ?_ | refine br_Lb ?_ ?_ | refine br_S ?_ ?_ | refine br_E ?_ ?_ | refine br_A ?_ ?_ | refine br_O ?_ ?_ | refine br_AV ?_ ?_ | refine br_OV ?_ ?_ | refine br_C ?_ ?_ | refine br_Sn ?_ ?_ | refine br_En ?_ ?_ | refine br_An ?_ ?_ | refine br_On ?_ ?_ | refine br_AVn ?_ ?_ | refine br_OVn ?_ ?_ | refine br_Cn ?_ ?_ | refine br_Sm ?_ ?_ | refine br_Em ?_ ?_ | refine br_Am ?_ ?_ | refine br_Om ?_ ?_ | refine br_AVm ?_ ?_ | refine br_OVm ?_ ?_ | refine br_Cm ?_ ?_ | refine br_Sb ?_ ?_ | refine br_Eb ?_ ?_ | refine br_Ab ?_ ?_ | refine br_Ob ?_ ?_ | refine br_AVb ?_ ?_ | refine br_OVb ?_ ?_ | refine br_Cb ?_ ?_)

theorem kNe_same {K : PySem.W.Frag} {x : Str} {H : Hp} {Q : VK} : kNe K (.str x) (.str x) H Q ↔ Q (.bl false) H := by
  unfold kNe
  rw [if_pos (by rfl)]
  simp
theorem show_b {K : PySem.W.Frag} {b : Bool} {H : Hp} {Q : VK} (q : Q (.str (PyData.shown (.bool b))) H) : rRepr K [.bl b] H Q := ⟨_, .bool b, rfl, .bl b, rfl, by show 0 < 64; decide, by cases b <;> decide +kernel, q⟩
/-! ### the steps as data -/
theorem stepsFrom_mem {i r : Nat} {u : Tm} : ∀ {ps : List (Tm × (Tm → Tm))} {k : Nat}, (i, r, u) ∈ stepsFrom k ps → ∃ j p x, ps[j]? = some p ∧ i = k + j ∧ (r, x) ∈ red p.1 ∧ u = p.2 x
  | [], _, h => by cases h
  | p :: ps, k, h => by
    rw [stepsFrom] at h
    rcases List.mem_append.mp h with h | h
    · unfold stepsAt at h
      obtain ⟨⟨r', x⟩, hx, e⟩ := List.mem_map.mp h
      cases e
      exact ⟨0, p, x, rfl, rfl, hx, rfl⟩
    · obtain ⟨j, q, x, h1, h2, h3, h4⟩ := stepsFrom_mem h
      exact ⟨j + 1, q, x, by simpa using h1, by omega, h3, h4⟩
theorem steps_mem {t u : Tm} {i r : Nat} (h : (i, r, u) ∈ steps t) : ∃ s f x, (subs t)[i]? = some (s, f) ∧ (r, x) ∈ red s ∧ u = f x := by
  obtain ⟨j, ⟨s, f⟩, x, h1, h2, h3, h4⟩ := stepsFrom_mem h
  exact ⟨s, f, x, by rw [h2, Nat.zero_add]; exact h1, h3, h4⟩
theorem steps_ok {t u : Tm} {i r : Nat} (ht : ok t = true) (h : (i, r, u) ∈ steps t) : i < (enc t).length ∧ r < 4 ∧ ok u = true ∧ sz u < sz t := by
  obtain ⟨s, f, x, h1, h2, rfl⟩ := steps_mem h
  obtain ⟨_, _, _, h6, h7⟩ := subs_at t i s f h1
  obtain ⟨os, of⟩ := h6 ht
  obtain ⟨r1, r2, r3⟩ := red_sz h2
  have := h7 x
  exact ⟨by rw [← subs_len]; exact (List.getElem?_eq_some_iff.mp h1).1, r3, of x (r2 os), by omega⟩
theorem enc_codes : ∀ (t : Tm), ok t = true → ∀ c ∈ enc t, c < 128
  | .lf c, h, d, hd => by
    have e : d = c := List.mem_singleton.mp hd
    subst e
    have h' : isL d = true := h
    unfold isL at h'
    simp at h'
    omega
  | .nd a b, h, d, hd => by
    obtain ⟨ha, hb⟩ := ok_nd.mp h
    rcases List.mem_cons.mp hd with e | hd
    · omega
    · rcases List.mem_append.mp hd with hd | hd
      · exact enc_codes a ha d hd
      · exact enc_codes b hb d hd
def stepD (s : Nat × Nat × Tm) : PyData := .tuple [.int (s.1 : Nat), .int (s.2.1 : Nat), .str ⟨(enc s.2.2).toArray⟩]
section
variable {K : PySem.W.Frag} {H : Hp}
theorem tellS.dp {s : Nat × Nat × Tm} {v : V} : tellS s H v → Dp K H v (stepD s)
  | ⟨a, e, h⟩ => by
    subst e
    exact .tup (SqT.of h) (.cons (.int _) (.cons (.int _) (.cons (.str _) .nil)))
theorem Told.dp : ∀ {ys : List V} {ss : List (Nat × Nat × Tm)}, Told H ys ss → DpAll K H ys (ss.map stepD)
  | _, _, .nil => .nil
  | _, _, .cons h t => .cons h.dp (Told.dp t)
end
/-- small enough to be shown -/
structure Sm (ss : List (Nat × Nat × Tm)) : Prop where
  all : ∀ s ∈ ss, s.1 < 1000 ∧ s.2.1 < 4 ∧ ok s.2.2 = true ∧ (enc s.2.2).length ≤ 400
theorem short_int : ∀ n : Nat, n < 1000 → (PyData.shown (.int (n : Int))).length ≤ 13 := by
  have h : ∀ n : Fin 1000, (toString ((n.val : Nat) : Int) : Str).length ≤ 13 := by decide +kernel
  intro n hn
  have := h ⟨n, hn⟩
  simpa [PyData.shown] using this
theorem weight_int {n : Nat} (h : n < 1000) : PyData.weight (.int (n : Int)) ≤ 10 := by
  unfold PyData.weight
  split
  · omega
  · have : (n : Int).natAbs.log2 < 10 := PySem.Flt.log2_lt_of (by decide) (by simp; omega)
    omega
theorem sm_data : ∀ {ss : List (Nat × Nat × Tm)}, (∀ s ∈ ss, s.1 < 1000 ∧ s.2.1 < 4 ∧ ok s.2.2 = true ∧ (enc s.2.2).length ≤ 400) →
    PyData.canLayAll0 (ss.map stepD) = true ∧ PyData.showableAll (ss.map stepD) = true ∧ PyData.depthAll (ss.map stepD) ≤ 1 ∧ PyData.weightAll (ss.map stepD) ≤ 430 * ss.length ∧ PyData.intsShortAll 13 (ss.map stepD) = true
  | [], _ => by simp [PyData.canLayAll0, PyData.showableAll, PyData.depthAll, PyData.weightAll, PyData.intsShortAll]
  | s :: ss, h => by
    obtain ⟨h1, h2, h3, h4, h5⟩ := sm_data fun x hx => h x (List.mem_cons_of_mem _ hx)
    obtain ⟨g1, g2, g3, g4⟩ := h s (List.mem_cons_self ..)
    have w1 := weight_int g1
    have w2 := weight_int (show s.2.1 < 1000 by omega)
    have i1 := short_int s.1 g1
    have i2 := short_int s.2.1 (by omega)
    have l1 : (s.1 : Int).natAbs.log2 < 1920 := Nat.lt_of_lt_of_le (PySem.Flt.log2_lt_of (n := (s.1 : Int).natAbs) (k := 10) (by decide) (by simp; omega)) (by decide)
    have l2 : (s.2.1 : Int).natAbs.log2 < 1920 := Nat.lt_of_lt_of_le (PySem.Flt.log2_lt_of (n := (s.2.1 : Int).natAbs) (k := 10) (by decide) (by simp; omega)) (by decide)
    have so : PyData.canLay0 (.str ⟨(enc s.2.2).toArray⟩) = true := by
      simp only [PyData.canLay0, PyData.strOk]
      rw [← Array.all_toList, List.all_eq_true]
      intro c hc
      have := enc_codes s.2.2 g3 c (by simpa using hc)
      simp
      omega
    refine ⟨?_, ?_, ?_, ?_, ?_⟩
    · simp only [List.map_cons, PyData.canLayAll0, stepD, PyData.canLay0, h1, Bool.and_true, Bool.true_and]
      simpa only [PyData.canLay0] using so
    · simp only [List.map_cons, PyData.showableAll, stepD, PyData.showable, h2, Bool.and_true, decide_eq_true l1, decide_eq_true l2]
    · simp only [List.map_cons, PyData.depthAll, stepD, PyData.depth]
      omega
    · simp only [List.map_cons, PyData.weightAll, stepD, List.length_cons]
      have e1 : PyData.weight (.tuple [.int (s.1 : Nat), .int (s.2.1 : Nat), .str ⟨(enc s.2.2).toArray⟩]) = PyData.weight (.int (s.1 : Nat)) + 1 + (PyData.weight (.int (s.2.1 : Nat)) + 1 + ((enc s.2.2).length + 1 + 0)) := by
        simp only [PyData.weight, PyData.weightAll]
        rfl
      omega
    · simp only [List.map_cons, PyData.intsShortAll, stepD, PyData.intsShort, h5, Bool.and_true, decide_eq_true i1, decide_eq_true i2]
theorem sm_steps {t : Tm} (ht : ok t = true) (hz : sz t ≤ 200) : ∀ s ∈ steps t, s.1 < 1000 ∧ s.2.1 < 4 ∧ ok s.2.2 = true ∧ (enc s.2.2).length ≤ 400 := by
  rintro ⟨i, r, u⟩ h
  obtain ⟨h1, h2, h3, h4⟩ := steps_ok ht h
  have e1 := enc_len t
  have e2 := enc_len u
  exact ⟨by show i < 1000; omega, h2, h3, by show (enc u).length ≤ 400; omega⟩
theorem shown_steps {t : Tm} (ht : ok t = true) (hz : sz t ≤ 200) : (PyData.tuple ((steps t).map stepD)).showable = true ∧ (PyData.tuple ((steps t).map stepD)).depth < 64 ∧ (PyData.tuple ((steps t).map stepD)).shown.length ≤ sizeLine := by
  obtain ⟨h1, h2, h3, h4, h5⟩ := sm_data (sm_steps ht hz)
  have e1 := enc_len t
  have e2 := steps_len t
  have hd : (PyData.tuple ((steps t).map stepD)).depth < 64 := by
    simp only [PyData.depth]
    omega
  refine ⟨by simpa only [PyData.showable] using h2, hd, ?_⟩
  have hl : PyData.layable0 (PyData.tuple ((steps t).map stepD)) = true := by
    unfold PyData.layable0
    simp only [PyData.canLay0, h1, Bool.true_and, Bool.and_eq_true, decide_eq_true_eq]
    refine ⟨by omega, ?_⟩
    simp only [PyData.weight]
    omega
  have h6 := PyProof.Rows.shown_le13 hl (by simpa only [PyData.intsShort] using h5)
  rw [sizeLine_eq]
  omega
end LW

end

section
set_option maxHeartbeats 4000000

namespace LW
open PySem PySem.Spec PyProof.Rows L2 KG KT
local macro_rules | `(tactic| walk_at "go") => `(tactic| try simp only [b_St, b_Sf, b_Et, b_Ef, b_At, b_Af, b_Ot, b_Of, b_AVt, b_AVf, b_OVt, b_OVf, b_Ct, b_Cf, g_seq, g_asg, g_name, g_ret, g_retN, g_next, g_brk, g_cont, g_drop, g_ifS, g_if, g_and, g_or, g_not, g_andV, g_orV, g_notV, g_chain, g_test, g_B, g_op, g_un, g_neg, g_var, g_c, g_nil, g_cons, g_CB, g_call, g_par, g_par3, g_aug, g_sl, g_part, g_nopart, g_tup, g_lst, g_gcons, g_gnil, g_BM, g_dnew, g_yes, g_never, g_tupK, g_listK, g_KCall, g_for1, g_tru, k_then, k_0, k_plain, k_if, k_yield, b_Gt, b_Gf, rx_K, kon_K, g_M1, g_dget2, g_isS, g_wipe0, g_wipe1, g_wipe2, g_wipe3, b_Lt, b_Lf,
  kAdd_i, kAdd_s, kMul_i, kMul_s, kInt_i, kInt0_i, kEq_i, kEq_s, kNe_i, kNe_s, kEq_b, kNe_b, kIn_s, kNotIn_s, kLen_s, kIx_s, kSl_s, kAug_i, kAbs_i, kMax_i, kMin_i, kIntOf_i, kIntOf_b, g_sub, isN_S, isN_i, isN_n, isN_r, notN_S, notN_i, notN_n, notN_r, isN_b, notN_b, tru_b, tru_i, tru_n, ex_bl, ex_int, ex_some, par_2, par_3, isi_S kit_ss, cx_K, cx_Kn, Bool.not_true, Bool.not_false,
  List.set_cons_zero, List.set_cons_succ, List.getElem?_cons_zero, List.getElem?_cons_succ, List.map_cons, List.map_nil, List.append_nil, List.length_cons, List.length_nil, Nat.zero_add, dec_one, true_and, decide_true, decide_false])
local macro_rules | `(tactic| walk_at "br") => `(tactic| first | refine br_W ?_ ?_ | refine br_G ?_ ?_ | refine br_L ?_ ?_ | refine br_Ln ?_ ?_ | refine br_Lm ?_ ?_ | refine br_Lb ?_ ?_ | refine br_S ?_ ?_ | refine br_E ?_ ?_ | refine br_A ?_ ?_ | refine br_O ?_ ?_ | refine br_AV ?_ ?_ | refine br_OV ?_ ?_ | refine br_C ?_ ?_ | refine br_Sn ?_ ?_ | refine br_En ?_ ?_ | refine br_An ?_ ?_ | refine br_On ?_ ?_ | refine br_AVn ?_ ?_ | refine br_OVn ?_ ?_ | refine br_Cn ?_ ?_ | refine br_Sm ?_ ?_ | refine br_Em ?_ ?_ | refine br_Am ?_ ?_ | refine br_Om ?_ ?_ | refine br_AVm ?_ ?_ | refine br_OVm ?_ ?_ | refine br_Cm ?_ ?_ | refine br_Sb ?_ ?_ | refine br_Eb ?_ ?_ | refine br_Ab ?_ ?_ | refine br_Ob ?_ ?_ | refine br_AVb ?_ ?_ | refine br_OVb ?_ ?_ | refine br_Cb ?_ ?_)

section
variable {P : Program} {w : World} {K : PySem.W.Frag} {mg : Str → Option Value} {base : Heap}
abbrev sl_require_terms : List Str := ["one", "other"]
theorem sc_require_terms : FnScope sl_require_terms ["one", "other"] (defScope s_require_terms) := ⟨rfl, rfl, rfl, by decide +kernel, rfl, by decide +kernel, by decide +kernel⟩
theorem st_require_terms (v0 : V) (v1 : V) : L2.start sl_require_terms [v0, v1] = [some v0, some v1] := rfl
abbrev sl_leads_down : List Str := ["one", "other", "index", "number", "result"]
theorem sc_leads_down : FnScope sl_leads_down ["one", "other"] (defScope s_leads_down) := ⟨rfl, rfl, rfl, by decide +kernel, rfl, by decide +kernel, by decide +kernel⟩
theorem st_leads_down (v0 : V) (v1 : V) : L2.start sl_leads_down [v0, v1] = [some v0, some v1, none, none, none] := rfl
abbrev sl_are_chain : List Str := ["value", "term"]
theorem sc_are_chain : FnScope sl_are_chain ["value"] (defScope s_are_chain) := ⟨rfl, rfl, rfl, by decide +kernel, rfl, by decide +kernel, by decide +kernel⟩
theorem st_are_chain (v0 : V) : L2.start sl_are_chain [v0] = [some v0, none] := rfl
abbrev sl_is_equal_chain : List Str := ["one", "other", "value", "first", "second"]
theorem sc_is_equal_chain : FnScope sl_is_equal_chain ["one", "other", "value"] (defScope s_is_equal_chain) := ⟨rfl, rfl, rfl, by decide +kernel, rfl, by decide +kernel, by decide +kernel⟩
theorem st_is_equal_chain (v0 : V) (v1 : V) (v2 : V) : L2.start sl_is_equal_chain [v0, v1, v2] = [some v0, some v1, some v2, none, none] := rfl
abbrev sl_is_down_chain : List Str := ["term", "value", "first", "second"]
theorem sc_is_down_chain : FnScope sl_is_down_chain ["term", "value"] (defScope s_is_down_chain) := ⟨rfl, rfl, rfl, by decide +kernel, rfl, by decide +kernel, by decide +kernel⟩
theorem st_is_down_chain (v0 : V) (v1 : V) : L2.start sl_is_down_chain [v0, v1] = [some v0, some v1, none, none] := rfl
abbrev sl_is_equality_paper : List Str := ["one", "other", "value", "word", "chains"]
theorem sc_is_equality_paper : FnScope sl_is_equality_paper ["one", "other", "value"] (defScope s_is_equality_paper) := ⟨rfl, rfl, rfl, by decide +kernel, rfl, by decide +kernel, by decide +kernel⟩
theorem st_is_equality_paper (v0 : V) (v1 : V) (v2 : V) : L2.start sl_is_equality_paper [v0, v1, v2] = [some v0, some v1, some v2, none, none] := rfl
def spReqs : Sp := fun vs H Q _ => ∃ t u : Tm, vs = [S (enc t), S (enc u)] ∧ ok t = true ∧ sz t ≤ 200 ∧ ok u = true ∧ sz u ≤ 200 ∧ Q .non H
theorem ok_require_terms (T : Top K mg) : FnOk P w K mg base CX0 4 T.require_terms.f T.require_terms.fd ["one", "other"] spReqs := by
  refine T.require_terms.F.ok sc_require_terms (fun vs H Q E h => ?_) (fun cdv A outer s H vs Q E hr h => ?_)
  · obtain ⟨t, u, rfl, _⟩ := h
    rfl
  · obtain ⟨t, u, rfl, ht, hz, hu, hz2, k⟩ := h
    refine ⟨_, (pss_cons (ps_expr (callO (ok_require_term T) (hr.mono (by first | decide | omega)) (by rfl) (pa_cons (pv 0) pa_nil))) (pss_one (ps_expr (callO (ok_require_term T) (hr.mono (by first | decide | omega)) (by rfl) (pa_cons (pv 1) pa_nil))))), ?_⟩
    rw [st_require_terms]
    walk_at "go"
    refine ⟨t, rfl, ht, hz, ?_⟩
    walk_at "go"
    exact ⟨u, rfl, hu, hz2, k⟩
/-- one leads down to other by a step -/
def leads (t u : Tm) : Bool := (steps t).any fun s => decide (enc s.2.2 = enc u)
def spLeads : Sp := fun vs H Q _ => ∃ t u : Tm, vs = [S (enc t), S (enc u)] ∧ ok t = true ∧ sz t ≤ 200 ∧ Evl.RetV (.bl (leads t u)) H Q
theorem ok_leads_down (T : Top K mg) : FnOk P w K mg base CX0 12 T.leads_down.f T.leads_down.fd ["one", "other"] spLeads := by
  refine T.leads_down.F.ok sc_leads_down (fun vs H Q E h => ?_) (fun cdv A outer s H vs Q E hr h => ?_)
  · obtain ⟨t, u, rfl, _⟩ := h
    rfl
  · obtain ⟨t, u, rfl, ht, hz, k⟩ := h
    refine ⟨_, (pss_one (ps_ret (pe_callB (kk_any (K := K) rfl (by rfl)) (by rfl) T.any (by decide +kernel) (pa_cons (pe_lc (own := [("index", 2), ("number", 3), ("result", 4)]) (by rfl) sc_leads_down.nd (kk_pi (K := K) rfl (pe_listK (pkgen_call (gen_each_step T) (hr.mono (by first | decide | omega)) (by rfl) T.each_step.g T.each_step.F.kp T.each_step.b (pa_cons (pv 0) pa_nil)) (hr.mono (by first | decide | omega)) (by rfl) T.list (by decide +kernel))) (blkOk_by (own := [("index", 2), ("number", 3), ("result", 4)]) (N := sl_leads_down) (sc := defScope s_leads_down) (by decide +kernel)) (fun _ _ _ _ _ => (kk_gtup (K := K) rfl (pg_tup (n := 3) (by rfl) (pgs_cons (pg_name (i := 2) sc_leads_down.nd rfl (by first | exact Or.inl rfl | exact Or.inr rfl)) (pgs_cons (pg_name (i := 3) sc_leads_down.nd rfl (by first | exact Or.inl rfl | exact Or.inr rfl)) (pgs_cons (pg_name (i := 4) sc_leads_down.nd rfl (by first | exact Or.inl rfl | exact Or.inr rfl)) pgs_nil)))))) (fun _ _ _ _ _ => pts_nil) (fun _ _ _ _ _ => (pe_cmpR (kk_eq (K := K) rfl hr) (pv 4) (pv 1) (nomark _)))) pa_nil)))), ?_⟩
    rw [st_leads_down]
    walk_at "go"
    rw [lc_via]
    walk_at "go"
    have hl := len_of (t := t) (by omega)
    have hsl := steps_len t
    refine ⟨fun _ _ _ => True, fun ys H' => Told H' ys (steps t), _, Shares.none _, ⟨t, rfl, ht, by omega, fun _ _ _ _ _ _ _ => trivial, fun _ _ h => h⟩, fun ys H' Hm p told _ e1 e2 hp => ?_⟩
    have told2 := (told.mono e2).mono (Evl.Ex.new (o := .lst ys) hp)
    have e3 := e1.trans (Evl.Ex.new (o := .lst ys) hp)
    have hG : (upd Hm p (.lst ys)) p = some (.lst ys) := upd_same
    generalize upd Hm p (.lst ys) = G at told2 e3 hG ⊢
    have hyl := told2.length
    refine lc_L (a := p) (xs := ys) (fun Q q => q) (SqL.of hG) (fun D i H' => Evl.Ex G H' ∧ H' D = some (.lst (((steps t).take i).map fun s => V.bl (decide (enc s.2.2 = enc u))))) (fun D hD => ⟨Evl.Ex.new hD, by rw [upd_same]; rfl⟩) (fun D i H' _ _ q => SqL.of (q.1 _ _ hG)) ?_ ?_
    · rintro D i x H' hD hx ⟨e, l⟩
      obtain ⟨⟨j, r, v⟩, hs, a, rfl, ha⟩ := pair_get told2 hx
      have ha2 : H' a = some (.tup [.int (j : Nat), .int (r : Nat), S (enc v)]) := e _ _ ha
      refine g_unpack (SqT.of ha2) rfl ?_
      walk_at "go"
      have hi := (List.getElem?_eq_some_iff.mp hs).1
      refine ⟨_, l, ?_, Evl.Ex.mut e hD, ?_⟩
      · rw [List.length_map, List.length_take]
        have := line_ge
        omega
      · rw [upd_same, List.take_add_one, hs]
        simp
    · rintro D H' hD ⟨e, l⟩
      rw [hyl, List.take_length] at l
      refine anyRun (bs := (steps t).map fun s => decide (enc s.2.2 = enc u)) (SqL.of (by rw [l, List.map_map]; rfl)) ?_
      have e2 : ((steps t).map fun s => decide (enc s.2.2 = enc u)).any id = leads t u := by
        unfold leads
        rw [List.any_map]
        rfl
      rw [e2]
      exact k H' (e3.trans e)
theorem leads_run {H : Hp} {Q : VK} {E : XK} {t u : Tm} (ht : ok t = true) (hz : sz t ≤ 200) (k : Evl.RetV (.bl (leads t u)) H Q) : spLeads [S (enc t), S (enc u)] H Q E := ⟨t, u, rfl, ht, hz, k⟩
/-- a row of terms -/
abbrev Ch (ts : List Tm) : List V := ts.map fun t => S (enc t)
abbrev Fine (ts : List Tm) : Prop := ∀ t ∈ ts, ok t = true ∧ sz t ≤ 200
def NoTup (K : PySem.W.Frag) (v : V) (H : Hp) : Prop := ∃ m, kindV K v H = some m ∧ kitB m "tuple" = some false
theorem kind_tup {K : PySem.W.Frag} {H : Hp} {p : Addr} {xs : List V} (h : H p = some (.tup xs)) : kindV K (.ref p) H = some "tuple" := by
  show (match H p with | some (.lst _) => some "list" | some (.tup _) => some "tuple" | some (.dK _) => some "dict" | _ => none) = some "tuple"
  rw [h]
def spChain (K : PySem.W.Frag) : Sp := fun vs H Q _ => (∃ p ts, vs = [.ref p] ∧ H p = some (.tup (Ch ts)) ∧ Fine ts ∧ ts.length ≤ 100000 ∧ Evl.RetV (.bl (decide (1 ≤ ts.length ∧ ts.length ≤ 400))) H Q) ∨ ∃ v, vs = [v] ∧ NoTup K v H ∧ Q (.bl false) H
theorem ok_are_chain (T : Top K mg) : FnOk P w K mg base CX0 12 T.are_chain.f T.are_chain.fd ["value"] (spChain K) := by
  refine T.are_chain.F.ok sc_are_chain (fun vs H Q E h => ?_) (fun cdv A outer s H vs Q E hr h => ?_)
  · rcases h with ⟨p, ts, rfl, _⟩ | ⟨v, rfl, _⟩ <;> rfl
  · refine ⟨_, (pss_one (ps_ret (pe_and (pe_callB (kk_isi (K := K) rfl) (by rfl) T.isinstance (by decide +kernel) (pa_cons (pv 0) (pa_cons (pe_bltn (v := .ty "tuple") (by rfl) T.tuple (by decide +kernel) rfl) pa_nil))) (pe_and (pe_chain op_kLe op_kLe pe_int (pe_callB (kk_len (K := K) rfl) (by rfl) T.len (by decide +kernel) (pa_cons (pv 0) pa_nil)) (pe_globI (by rfl) T.MAX_CHAIN)) (pe_one (pe_callB (kk_all (K := K) rfl (by rfl)) (by rfl) T.all (by decide +kernel) (pa_cons (pe_lc (own := [("term", 1)]) (by rfl) sc_are_chain.nd (kk_pi (K := K) rfl (pv 0)) (blkOk_by (own := [("term", 1)]) (N := sl_are_chain) (sc := defScope s_are_chain) (by decide +kernel)) (fun _ _ _ _ _ => (pg_name (i := 1) sc_are_chain.nd rfl (by first | exact Or.inl rfl | exact Or.inr rfl))) (fun _ _ _ _ _ => pts_nil) (fun _ _ _ _ _ => (callO (ok_is_term T) (hr.mono (by first | decide | omega)) (by rfl) (pa_cons (pv 1) pa_nil)))) pa_nil))))))), ?_⟩
    rcases h with ⟨p, ts, rfl, hp, hf, hl, k⟩ | ⟨v, rfl, ⟨m, hm, hb⟩, k⟩
    · rw [st_are_chain]
      walk_at "go"
      rw [kIsi_of (kind_tup hp) (show kitB "tuple" "tuple" = some true by decide +kernel)]
      walk_at "go"
      refine lenT (SqT.of hp) ?_
      rw [List.length_map]
      walk_at "go"
      have no : ¬ (1 ≤ ts.length ∧ ts.length ≤ 400) → Q (.bl false) H := fun h => by
        have := k H (Evl.Ex.refl _)
        rw [decide_eq_false h] at this
        exact this
      walk_at "br"
      · intro h1
        walk_at "go"
        walk_at "br"
        · intro h2
          walk_at "go"
          refine lc_T (a := p) (xs := Ch ts) (is_var rfl) (SqT.of hp) (fun D i H' => Evl.Ex H H' ∧ H' D = some (.lst ((List.replicate i true).map V.bl))) (fun D hD => ⟨Evl.Ex.new hD, upd_same⟩) (fun D i H' _ _ q => SqT.of (q.1 _ _ hp)) ?_ ?_
          · rintro D i x H' hD hx ⟨e, l⟩
            rw [List.getElem?_map] at hx
            cases hq : ts[i]? with
            | none => rw [hq] at hx; cases hx
            | some t =>
              rw [hq] at hx
              cases hx
              obtain ⟨g1, g2⟩ := hf t (List.mem_of_getElem? hq)
              have hi := (List.getElem?_eq_some_iff.mp hq).1
              have hlt := len_of (t := t) (by omega)
              walk_at "go"
              refine spTerm_S (by omega) ?_
              rw [isT_enc g1 g2]
              refine ⟨_, l, ?_, Evl.Ex.mut e hD, ?_⟩
              · rw [List.length_map, List.length_replicate]
                have := line_ge
                omega
              · rw [upd_same, List.replicate_succ', List.map_append]
                rfl
          · rintro D H' hD ⟨e, l⟩
            refine allRun (SqL.of l) ?_
            have e2 : (List.replicate (Ch ts).length true).all id = true := by simp
            rw [e2]
            have := k H' e
            rw [decide_eq_true ⟨by omega, by omega⟩] at this
            exact this
        · intro h2
          walk_at "go"
          exact no (by omega)
      · intro h1
        walk_at "go"
        exact no (by omega)
    · rw [st_are_chain]
      walk_at "go"
      rw [kIsi_of hm hb]
      walk_at "go"
      exact k
end
end LW

end

section
set_option maxHeartbeats 4000000

namespace LW
open PySem PySem.Spec PyProof.Rows L2 KG KT
local macro_rules | `(tactic| walk_at "go") => `(tactic| try simp only [b_St, b_Sf, b_Et, b_Ef, b_At, b_Af, b_Ot, b_Of, b_AVt, b_AVf, b_OVt, b_OVf, b_Ct, b_Cf, g_seq, g_asg, g_name, g_ret, g_retN, g_next, g_brk, g_cont, g_drop, g_ifS, g_if, g_and, g_or, g_not, g_andV, g_orV, g_notV, g_chain, g_test, g_B, g_op, g_un, g_neg, g_var, g_c, g_nil, g_cons, g_CB, g_call, g_par, g_par3, g_aug, g_sl, g_part, g_nopart, g_tup, g_lst, g_gcons, g_gnil, g_BM, g_dnew, g_yes, g_never, g_tupK, g_listK, g_KCall, g_for1, g_tru, k_then, k_0, k_plain, k_if, k_yield, b_Gt, b_Gf, rx_K, kon_K, g_M1, g_dget2, g_isS, g_wipe0, g_wipe1, g_wipe2, g_wipe3, b_Lt, b_Lf,
  kAdd_i, kAdd_s, kMul_i, kMul_s, kInt_i, kInt0_i, kEq_i, kEq_s, kNe_i, kNe_s, kEq_b, kNe_b, kIn_s, kNotIn_s, kLen_s, kIx_s, kSl_s, kAug_i, kAbs_i, kMax_i, kMin_i, kIntOf_i, kIntOf_b, g_sub, isN_S, isN_i, isN_n, isN_r, notN_S, notN_i, notN_n, notN_r, isN_b, notN_b, tru_b, tru_i, tru_n, ex_bl, ex_int, ex_some, par_2, par_3, isi_S kit_ss, cx_K, cx_Kn, Bool.not_true, Bool.not_false,
  List.set_cons_zero, List.set_cons_succ, List.getElem?_cons_zero, List.getElem?_cons_succ, List.map_cons, List.map_nil, List.append_nil, List.length_cons, List.length_nil, Nat.zero_add, dec_one, true_and, decide_true, decide_false])
local macro_rules | `(tactic| walk_at "br") => `(tactic| first | refine br_W ?_ ?_ | refine br_G ?_ ?_ | refine br_L ?_ ?_ | refine br_Ln ?_ ?_ | refine br_Lm ?_ ?_ | refine br_Lb ?_ ?_ | refine br_S ?_ ?_ | refine br_E ?_ ?_ | refine br_A ?_ ?_ | refine br_O ?_ ?_ | refine br_AV ?_ ?_ | refine br_OV ?_ ?_ | refine br_C ?_ ?_ | refine br_Sn ?_ ?_ | refine br_En ?_ ?_ | refine br_An ?_ ?_ | refine br_On ?_ ?_ | refine br_AVn ?_ ?_ | refine br_OVn ?_ ?_ | refine br_Cn ?_ ?_ | refine br_Sm ?_ ?_ | refine br_Em ?_ ?_ | refine br_Am ?_ ?_ | refine br_Om ?_ ?_ | refine br_AVm ?_ ?_ | refine br_OVm ?_ ?_ | refine br_Cm ?_ ?_ | refine br_Sb ?_ ?_ | refine br_Eb ?_ ?_ | refine br_Ab ?_ ?_ | refine br_Ob ?_ ?_ | refine br_AVb ?_ ?_ | refine br_OVb ?_ ?_ | refine br_Cb ?_ ?_)

section
variable {P : Program} {w : World} {K : PySem.W.Frag} {mg : Str → Option Value} {base : Heap}
theorem at_last {α : Type} {xs : List α} {v : α} (h : xs[xs.length - 1]? = some v) : atI xs (-1) = some v := by
  have hp : 0 < xs.length := by
    have := (List.getElem?_eq_some_iff.mp h).1
    omega
  unfold atI
  rw [show ixN xs.length (-1) = some (xs.length - 1) by unfold ixN; simp; omega]
  exact h
/-- neighbours -/
def linkAt (f : Tm → Tm → Bool) (ts : List Tm) (i : Nat) : Bool := match ts[i]?, ts[i + 1]? with
  | some a, some b => f a b
  | _, _ => false
def links (f : Tm → Tm → Bool) (ts : List Tm) : Bool := ((List.range (ts.length - 1)).map (linkAt f ts)).all id
def either (a b : Tm) : Bool := leads a b || leads b a
def eqCh (t u : Tm) (ts : List Tm) : Bool := decide (1 ≤ ts.length ∧ ts.length ≤ 400) && decide (ts[0]?.map enc = some (enc t)) && decide (ts[ts.length - 1]?.map enc = some (enc u)) && links either ts
def spEqCh (K : PySem.W.Frag) : Sp := fun vs H Q _ => ∃ t u : Tm, ∃ v, vs = [S (enc t), S (enc u), v] ∧ ((∃ p ts, v = .ref p ∧ H p = some (.tup (Ch ts)) ∧ Fine ts ∧ ts.length ≤ 100000 ∧ Evl.RetV (.bl (eqCh t u ts)) H Q) ∨ (NoTup K v H ∧ Q (.bl false) H))
theorem ok_is_equal_chain (T : Top K mg) : FnOk P w K mg base CX0 13 T.is_equal_chain.f T.is_equal_chain.fd ["one", "other", "value"] (spEqCh K) := by
  refine T.is_equal_chain.F.ok sc_is_equal_chain (fun vs H Q E h => ?_) (fun cdv A outer s H vs Q E hr h => ?_)
  · obtain ⟨t, u, v, rfl, _⟩ := h
    rfl
  · obtain ⟨t, u, v, rfl, h⟩ := h
    refine ⟨_, (pss_cons (ps_if (pw_or (pt_not (kk_tru (K := K) rfl (pt_truth (callO (ok_are_chain T) (hr.mono (by first | decide | omega)) (by rfl) (pa_cons (pv 2) pa_nil)) (fun _ => rfl)))) (pw_or (pt_cmpR (kk_ne (K := K) rfl hr) (pe_ix (kk_ix (K := K) rfl) (pv 2) pe_int (fun _ _ => rfl)) (pv 0) (nomark _)) (pw_or1 (pt_cmpR (kk_ne (K := K) rfl hr) (pe_ix (kk_ix (K := K) rfl) (pv 2) (pe_un un_neg pe_int) (fun _ _ => rfl)) (pv 1) (nomark _))))).pt (pss_one (ps_ret pe_bl)) pss_nil) (pss_one (ps_ret (pe_callB (kk_all (K := K) rfl (by rfl)) (by rfl) T.all (by decide +kernel) (pa_cons (pe_lc (own := [("first", 3), ("second", 4)]) (by rfl) sc_is_equal_chain.nd (kk_zip (K := K) rfl (RZ.pi_zipA (by rfl) T.zip (pa_cons (pv 2) (pa_cons (pe_slice (kk_sl (K := K) rfl) (pv 2) (po_some pe_int) po_none) pa_nil)))) (blkOk_by (own := [("first", 3), ("second", 4)]) (N := sl_is_equal_chain) (sc := defScope s_is_equal_chain) (by decide +kernel)) (fun _ _ _ _ _ => (kk_gtup (K := K) rfl (pg_tup (n := 2) (by rfl) (pgs_cons (pg_name (i := 3) sc_is_equal_chain.nd rfl (by first | exact Or.inl rfl | exact Or.inr rfl)) (pgs_cons (pg_name (i := 4) sc_is_equal_chain.nd rfl (by first | exact Or.inl rfl | exact Or.inr rfl)) pgs_nil))))) (fun _ _ _ _ _ => pts_nil) (fun _ _ _ _ _ => (pe_or (callO (ok_leads_down T) (hr.mono (by first | decide | omega)) (by rfl) (pa_cons (pv 3) (pa_cons (pv 4) pa_nil))) (pe_one (callO (ok_leads_down T) (hr.mono (by first | decide | omega)) (by rfl) (pa_cons (pv 4) (pa_cons (pv 3) pa_nil))))))) pa_nil))))), ?_⟩
    rw [st_is_equal_chain]
    rcases h with ⟨p, ts, rfl, hp, hf, hl, k⟩ | ⟨hv, k⟩
    · walk_at "go"
      refine .inl ⟨p, ts, rfl, hp, hf, hl, fun H1 e1 => ?_⟩
      walk_at "go"
      have no : eqCh t u ts = false → ∀ H', Evl.Ex H H' → Q (.bl false) H' := fun h H' e => by
        have := k H' e
        rw [h] at this
        exact this
      have hp1 := e1 _ _ hp
      walk_at "br"
      · intro h1
        walk_at "go"
        obtain ⟨a, ha⟩ : ∃ a, ts[0]? = some a := ⟨_, List.getElem?_eq_getElem (by omega)⟩
        obtain ⟨z, hz⟩ : ∃ z, ts[ts.length - 1]? = some z := ⟨_, List.getElem?_eq_getElem (by omega)⟩
        refine ixT (SqT.of hp1) (at0 (v := S (enc a)) (by rw [List.getElem?_map, ha]; rfl)) ?_
        walk_at "go"
        walk_at "br"
        · intro h2
          walk_at "go"
          refine ixT (SqT.of hp1) (at_last (v := S (enc z)) (by rw [List.length_map, List.getElem?_map, hz]; rfl)) ?_
          walk_at "go"
          walk_at "br"
          · intro h3
            walk_at "go"
            rw [lc_viaZ]
            walk_at "go"
            refine cutT hp1 fun p2 H2 e2 hp2 => ?_
            have hc : cutV (Ch ts) (some (1 : Int)) none = Ch ts.tail := by
              rw [show (1 : Int) = ((1 : Nat) : Int) from rfl, cutV_lo (by rw [List.length_map]; omega)]
              cases ts <;> simp
            rw [hc] at hp2
            have hpp := e2 _ _ hp1
            refine lc_Z (a := p) (b := p2) (xs := Ch ts) (ys := Ch ts.tail) (fun _ q => q) (SqT.of hpp) (SqT.of hp2) (fun D i H' => Evl.Ex H2 H' ∧ H' D = some (.lst ((((List.range (ts.length - 1)).map (linkAt either ts)).take i).map V.bl))) (fun D hD => ⟨Evl.Ex.new hD, upd_same⟩) (fun D i H' _ q => ⟨SqT.of (q.1 _ _ hpp), SqT.of (q.1 _ _ hp2)⟩) ?_ ?_
            · rintro D i x y U H' hD hx hy hU ⟨e, l⟩
              rw [List.getElem?_map] at hx hy
              rw [List.getElem?_tail] at hy
              obtain ⟨b, hb, rfl⟩ := Option.map_eq_some_iff.mp hx
              obtain ⟨c, hc, rfl⟩ := Option.map_eq_some_iff.mp hy
              refine g_unpack (SqT.of upd_same) rfl ?_
              walk_at "go"
              have hi := (List.getElem?_eq_some_iff.mp hc).1
              obtain ⟨b1, b2⟩ := hf b (List.mem_of_getElem? hb)
              obtain ⟨c1, c2⟩ := hf c (List.mem_of_getElem? hc)
              have hw : linkAt either ts i = (leads b c || leads c b) := by
                unfold linkAt
                rw [hb, hc]
                rfl
              have fin : ∀ H4, Evl.Ex H' H4 → ∃ acc, H4 D = some (.lst acc) ∧ acc.length < sizeLine ∧ Evl.Ex H2 (upd H4 D (.lst (acc ++ [V.bl (linkAt either ts i)]))) ∧ (upd H4 D (.lst (acc ++ [V.bl (linkAt either ts i)]))) D = some (.lst ((((List.range (ts.length - 1)).map (linkAt either ts)).take (i + 1)).map V.bl)) := fun H4 e4 => by
                refine ⟨_, e4 _ _ l, ?_, Evl.Ex.mut (e.trans e4) hD, ?_⟩
                · rw [List.length_map, List.length_take]
                  have := line_ge
                  omega
                · rw [upd_same, List.take_add_one, List.getElem?_map, List.getElem?_range (by omega)]
                  simp
              rw [hw] at fin
              refine leads_run b1 b2 fun H4 e4 => ?_
              have e4' := (Evl.Ex.new (o := .tup [S (enc b), S (enc c)]) hU).trans e4
              walk_at "go"
              cases hl1 : leads b c with
              | true =>
                rw [hl1, Bool.true_or] at fin
                walk_at "go"
                exact fin _ e4'
              | false =>
                rw [hl1, Bool.false_or] at fin
                walk_at "go"
                refine leads_run c1 c2 fun H5 e5 => ?_
                walk_at "go"
                exact fin _ (e4'.trans e5)
            · rintro D H' hD ⟨e, l⟩
              rw [List.length_map, List.length_map, List.length_tail, Nat.min_eq_right (by omega), List.take_of_length_le (by simp)] at l
              refine allRun (SqL.of l) ?_
              have h6 : ((List.range (ts.length - 1)).map (linkAt either ts)).all id = eqCh t u ts := by
                unfold eqCh links
                rw [decide_eq_true h1, ha, hz, decide_eq_true (by rw [Option.map_some, h2]), decide_eq_true (by rw [Option.map_some, h3])]
                rfl
              rw [h6]
              exact k H' ((e1.trans e2).trans e)
          · intro h3
            walk_at "go"
            refine no ?_ _ e1
            unfold eqCh
            rw [hz]
            simp [h3]
        · intro h2
          walk_at "go"
          refine no ?_ _ e1
          unfold eqCh
          rw [ha]
          simp [h2]
      · intro h1
        walk_at "go"
        refine no ?_ _ e1
        unfold eqCh
        rw [decide_eq_false h1]
        rfl
    · walk_at "go"
      refine .inr ⟨v, rfl, hv, ?_⟩
      walk_at "go"
      exact k
def downCh (t : Tm) (ts : List Tm) : Bool := decide (1 ≤ ts.length ∧ ts.length ≤ 400) && decide (ts[0]?.map enc = some (enc t)) && (ts[ts.length - 1]?.map fun z => (steps z).isEmpty).getD false && links leads ts
def spDownCh (K : PySem.W.Frag) : Sp := fun vs H Q _ => ∃ t : Tm, ∃ v, vs = [S (enc t), v] ∧ ((∃ p ts, v = .ref p ∧ H p = some (.tup (Ch ts)) ∧ Fine ts ∧ ts.length ≤ 100000 ∧ Evl.RetV (.bl (downCh t ts)) H Q) ∨ (NoTup K v H ∧ Q (.bl false) H))
theorem ok_is_down_chain (T : Top K mg) : FnOk P w K mg base CX0 22 T.is_down_chain.f T.is_down_chain.fd ["term", "value"] (spDownCh K) := by
  refine T.is_down_chain.F.ok sc_is_down_chain (fun vs H Q E h => ?_) (fun cdv A outer s H vs Q E hr h => ?_)
  · obtain ⟨t, v, rfl, _⟩ := h
    rfl
  · obtain ⟨t, v, rfl, h⟩ := h
    refine ⟨_, (pss_cons (ps_if (pw_or (pt_not (kk_tru (K := K) rfl (pt_truth (callO (ok_are_chain T) (hr.mono (by first | decide | omega)) (by rfl) (pa_cons (pv 1) pa_nil)) (fun _ => rfl)))) (pw_or (pt_cmpR (kk_ne (K := K) rfl hr) (pe_ix (kk_ix (K := K) rfl) (pv 1) pe_int (fun _ _ => rfl)) (pv 0) (nomark _)) (pw_or1 (kk_tru (K := K) rfl (pt_truth (callO (ok_has_step T) (hr.mono (by first | decide | omega)) (by rfl) (pa_cons (pe_ix (kk_ix (K := K) rfl) (pv 1) (pe_un un_neg pe_int) (fun _ _ => rfl)) pa_nil)) (fun _ => rfl)))))).pt (pss_one (ps_ret pe_bl)) pss_nil) (pss_one (ps_ret (pe_callB (kk_all (K := K) rfl (by rfl)) (by rfl) T.all (by decide +kernel) (pa_cons (pe_lc (own := [("first", 2), ("second", 3)]) (by rfl) sc_is_down_chain.nd (kk_zip (K := K) rfl (RZ.pi_zipA (by rfl) T.zip (pa_cons (pv 1) (pa_cons (pe_slice (kk_sl (K := K) rfl) (pv 1) (po_some pe_int) po_none) pa_nil)))) (blkOk_by (own := [("first", 2), ("second", 3)]) (N := sl_is_down_chain) (sc := defScope s_is_down_chain) (by decide +kernel)) (fun _ _ _ _ _ => (kk_gtup (K := K) rfl (pg_tup (n := 2) (by rfl) (pgs_cons (pg_name (i := 2) sc_is_down_chain.nd rfl (by first | exact Or.inl rfl | exact Or.inr rfl)) (pgs_cons (pg_name (i := 3) sc_is_down_chain.nd rfl (by first | exact Or.inl rfl | exact Or.inr rfl)) pgs_nil))))) (fun _ _ _ _ _ => pts_nil) (fun _ _ _ _ _ => (callO (ok_leads_down T) (hr.mono (by first | decide | omega)) (by rfl) (pa_cons (pv 2) (pa_cons (pv 3) pa_nil))))) pa_nil))))), ?_⟩
    rw [st_is_down_chain]
    rcases h with ⟨p, ts, rfl, hp, hf, hl, k⟩ | ⟨hv, k⟩
    · walk_at "go"
      refine .inl ⟨p, ts, rfl, hp, hf, hl, fun H1 e1 => ?_⟩
      walk_at "go"
      have no : downCh t ts = false → ∀ H', Evl.Ex H H' → Q (.bl false) H' := fun h H' e => by
        have := k H' e
        rw [h] at this
        exact this
      have hp1 := e1 _ _ hp
      walk_at "br"
      · intro h1
        walk_at "go"
        obtain ⟨a, ha⟩ : ∃ a, ts[0]? = some a := ⟨_, List.getElem?_eq_getElem (by omega)⟩
        obtain ⟨z, hz⟩ : ∃ z, ts[ts.length - 1]? = some z := ⟨_, List.getElem?_eq_getElem (by omega)⟩
        refine ixT (SqT.of hp1) (at0 (v := S (enc a)) (by rw [List.getElem?_map, ha]; rfl)) ?_
        walk_at "go"
        walk_at "br"
        · intro h2
          walk_at "go"
          refine ixT (SqT.of hp1) (at_last (v := S (enc z)) (by rw [List.length_map, List.getElem?_map, hz]; rfl)) ?_
          walk_at "go"
          obtain ⟨z1, z2⟩ := hf z (List.mem_of_getElem? hz)
          refine ⟨z, rfl, z1, z2, fun H1' e1' => ?_⟩
          walk_at "go"
          have hp1' := e1' _ _ hp1
          cases hst : (steps z).isEmpty with
          | true =>
            walk_at "go"
            rw [lc_viaZ]
            walk_at "go"
            refine cutT hp1' fun p2 H2 e2 hp2 => ?_
            have hc : cutV (Ch ts) (some (1 : Int)) none = Ch ts.tail := by
              rw [show (1 : Int) = ((1 : Nat) : Int) from rfl, cutV_lo (by rw [List.length_map]; omega)]
              cases ts <;> simp
            rw [hc] at hp2
            have hpp := e2 _ _ hp1'
            refine lc_Z (a := p) (b := p2) (xs := Ch ts) (ys := Ch ts.tail) (fun _ q => q) (SqT.of hpp) (SqT.of hp2) (fun D i H' => Evl.Ex H2 H' ∧ H' D = some (.lst ((((List.range (ts.length - 1)).map (linkAt leads ts)).take i).map V.bl))) (fun D hD => ⟨Evl.Ex.new hD, upd_same⟩) (fun D i H' _ q => ⟨SqT.of (q.1 _ _ hpp), SqT.of (q.1 _ _ hp2)⟩) ?_ ?_
            · rintro D i x y U H' hD hx hy hU ⟨e, l⟩
              rw [List.getElem?_map] at hx hy
              rw [List.getElem?_tail] at hy
              obtain ⟨b, hb, rfl⟩ := Option.map_eq_some_iff.mp hx
              obtain ⟨c, hc, rfl⟩ := Option.map_eq_some_iff.mp hy
              refine g_unpack (SqT.of upd_same) rfl ?_
              walk_at "go"
              have hi := (List.getElem?_eq_some_iff.mp hc).1
              obtain ⟨b1, b2⟩ := hf b (List.mem_of_getElem? hb)
              have hw : linkAt leads ts i = leads b c := by
                unfold linkAt
                rw [hb, hc]
              refine leads_run b1 b2 fun H4 e4 => ?_
              have e4' := (Evl.Ex.new (o := .tup [S (enc b), S (enc c)]) hU).trans e4
              rw [← hw]
              refine ⟨_, e4' _ _ l, ?_, Evl.Ex.mut (e.trans e4') hD, ?_⟩
              · rw [List.length_map, List.length_take]
                have := line_ge
                omega
              · rw [upd_same, List.take_add_one, List.getElem?_map, List.getElem?_range (by omega)]
                simp
            · rintro D H' hD ⟨e, l⟩
              rw [List.length_map, List.length_map, List.length_tail, Nat.min_eq_right (by omega), List.take_of_length_le (by simp)] at l
              refine allRun (SqL.of l) ?_
              have h6 : ((List.range (ts.length - 1)).map (linkAt leads ts)).all id = downCh t ts := by
                unfold downCh links
                rw [decide_eq_true h1, ha, hz, decide_eq_true (by rw [Option.map_some, h2]), Option.map_some, hst]
                rfl
              rw [h6]
              exact k H' (((e1.trans e1').trans e2).trans e)
          | false =>
            walk_at "go"
            refine no ?_ _ (e1.trans e1')
            unfold downCh
            rw [hz, Option.map_some, hst]
            simp
        · intro h2
          walk_at "go"
          refine no ?_ _ e1
          unfold downCh
          rw [ha]
          simp [h2]
      · intro h1
        walk_at "go"
        refine no ?_ _ e1
        unfold downCh
        rw [decide_eq_false h1]
        rfl
    · walk_at "go"
      refine .inr ⟨v, rfl, hv, ?_⟩
      walk_at "go"
      exact k
end
end LW

end

section
set_option maxHeartbeats 4000000

namespace LW
open PySem PySem.Spec PyProof.Rows L2 KG KT
local macro_rules | `(tactic| walk_at "go") => `(tactic| try simp only [b_St, b_Sf, b_Et, b_Ef, b_At, b_Af, b_Ot, b_Of, b_AVt, b_AVf, b_OVt, b_OVf, b_Ct, b_Cf, g_seq, g_asg, g_name, g_ret, g_retN, g_next, g_brk, g_cont, g_drop, g_ifS, g_if, g_and, g_or, g_not, g_andV, g_orV, g_notV, g_chain, g_test, g_B, g_op, g_un, g_neg, g_var, g_c, g_nil, g_cons, g_CB, g_call, g_par, g_par3, g_aug, g_sl, g_part, g_nopart, g_tup, g_lst, g_gcons, g_gnil, g_BM, g_dnew, g_yes, g_never, g_tupK, g_listK, g_KCall, g_for1, g_tru, k_then, k_0, k_plain, k_if, k_yield, b_Gt, b_Gf, rx_K, kon_K, g_M1, g_dget2, g_isS, g_wipe0, g_wipe1, g_wipe2, g_wipe3, b_Lt, b_Lf,
  kAdd_i, kAdd_s, kMul_i, kMul_s, kInt_i, kInt0_i, kEq_i, kEq_s, kNe_i, kNe_s, kEq_b, kNe_b, kIn_s, kNotIn_s, kLen_s, kIx_s, kSl_s, kAug_i, kAbs_i, kMax_i, kMin_i, kIntOf_i, kIntOf_b, g_sub, isN_S, isN_i, isN_n, isN_r, notN_S, notN_i, notN_n, notN_r, isN_b, notN_b, tru_b, tru_i, tru_n, ex_bl, ex_int, ex_some, par_2, par_3, isi_S kit_ss, cx_K, cx_Kn, Bool.not_true, Bool.not_false,
  List.set_cons_zero, List.set_cons_succ, List.getElem?_cons_zero, List.getElem?_cons_succ, List.map_cons, List.map_nil, List.append_nil, List.length_cons, List.length_nil, Nat.zero_add, dec_one, true_and, decide_true, decide_false])
local macro_rules | `(tactic| walk_at "br") => `(tactic| first | refine br_W ?_ ?_ | refine br_G ?_ ?_ | refine br_L ?_ ?_ | refine br_Ln ?_ ?_ | refine br_Lm ?_ ?_ | refine br_Lb ?_ ?_ | refine br_S ?_ ?_ | refine br_E ?_ ?_ | refine br_A ?_ ?_ | refine br_O ?_ ?_ | refine br_AV ?_ ?_ | refine br_OV ?_ ?_ | refine br_C ?_ ?_ | refine br_Sn ?_ ?_ | refine br_En ?_ ?_ | refine br_An ?_ ?_ | refine br_On ?_ ?_ | refine br_AVn ?_ ?_ | refine br_OVn ?_ ?_ | refine br_Cn ?_ ?_ | refine br_Sm ?_ ?_ | refine br_Em ?_ ?_ | refine br_Am ?_ ?_ | refine br_Om ?_ ?_ | refine br_AVm ?_ ?_ | refine br_OVm ?_ ?_ | refine br_Cm ?_ ?_ | refine br_Sb ?_ ?_ | refine br_Eb ?_ ?_ | refine br_Ab ?_ ?_ | refine br_Ob ?_ ?_ | refine br_AVb ?_ ?_ | refine br_OVb ?_ ?_ | refine br_Cb ?_ ?_)

def EQUAL : List Nat := [101, 113, 117, 97, 108]
def UNEQUAL : List Nat := [117, 110, 101, 113, 117, 97, 108]
section
variable {P : Program} {w : World} {K : PySem.W.Frag} {mg : Str → Option Value} {base : Heap}
theorem kind_ex {x : V} {H H' : Hp} {m : String} (e : Evl.Ex H H') (h1 : kindV K x H = some m) : kindV K x H' = some m := by
  cases x with
  | ref p =>
    change (match H p with | some (.lst _) => some "list" | some (.tup _) => some "tuple" | some (.dK _) => some "dict" | _ => none) = some m at h1
    show (match H' p with | some (.lst _) => some "list" | some (.tup _) => some "tuple" | some (.dK _) => some "dict" | _ => none) = some m
    cases ho : H p with
    | none => rw [ho] at h1; cases h1
    | some o =>
      rw [e _ _ ho]
      rw [ho] at h1
      exact h1
  | _ => exact h1
theorem NoTup.ex {v : V} {H H' : Hp} (e : Evl.Ex H H') : NoTup K v H → NoTup K v H'
  | ⟨m, h1, h2⟩ => ⟨m, kind_ex e h1, h2⟩
theorem dp_ex {K : PySem.W.Frag} {H H' : Hp} (e : Evl.Ex H H') : ∀ {d : PyData} {v : V}, Dp K H v d → Dp K H' v d
  | .none, _, h => by cases h; exact .non
  | .bool _, _, h => by cases h; exact .bl _
  | .int _, _, h => by cases h; exact .int _
  | .str _, _, h => by cases h; exact .str _
  | .list ds, _, h => by
    cases h with
    | lst q h => exact .lst (Evl.ex_l e q) (dp_ex.all e h)
  | .tuple ds, _, h => by
    cases h with
    | tup q h => exact .tup (Evl.ex_t e q) (dp_ex.all e h)
  | .dict _, _, h => by cases h
where all {K : PySem.W.Frag} {H H' : Hp} (e : Evl.Ex H H') : ∀ {ds : List PyData} {vs : List V}, DpAll K H vs ds → DpAll K H' vs ds
  | [], _, h => by cases h; exact .nil
  | d :: ds, _, h => by
    cases h with
    | cons h1 h2 => exact .cons (dp_ex e h1) (all e h2)
def IsCh (y : V) (H : Hp) (ts : List Tm) : Prop := ∃ p, y = .ref p ∧ H p = some (.tup (Ch ts)) ∧ Fine ts ∧ ts.length ≤ 100000
theorem IsCh.ex {y : V} {ts : List Tm} {H H' : Hp} (e : Evl.Ex H H') : IsCh y H ts → IsCh y H' ts
  | ⟨p, h1, h2, h3⟩ => ⟨p, h1, e _ _ h2, h3⟩
def Dat (K : PySem.W.Frag) (v : V) (H : Hp) : Prop := ∃ d ds, Dp K H v (.tuple (d :: ds)) ∧ SeqAt.shaped (.tuple (d :: ds)) = true
def lastE (ts : List Tm) : Option (List Nat) := ts[ts.length - 1]?.map enc
def uneq (t u : Tm) (ts us : List Tm) : Bool := downCh t ts && downCh u us && !decide (lastE ts = lastE us)
def spPaper (K : PySem.W.Frag) : Sp := fun vs H Q _ => ∃ t u : Tm, ∃ v, vs = [S (enc t), S (enc u), v] ∧ ok t = true ∧ sz t ≤ 200 ∧ ok u = true ∧ sz u ≤ 200 ∧
  ((NoTup K v H ∧ Q (.bl false) H) ∨ (∃ p, v = .ref p ∧ H p = some (.tup []) ∧ Evl.RetV (.bl false) H Q) ∨
   (∃ p xs, v = .ref p ∧ H p = some (.tup xs) ∧ Dat K v H ∧
     ((∃ x r m, xs = x :: r ∧ kindV K x H = some m ∧ kitB m "str" = some false ∧ Evl.RetV (.bl false) H Q) ∨
      (∃ y, xs = [S EQUAL, y] ∧ ((∃ ts, IsCh y H ts ∧ Evl.RetV (.bl (eqCh t u ts)) H Q) ∨ (NoTup K y H ∧ Evl.RetV (.bl false) H Q))) ∨
      (∃ y z, xs = [S UNEQUAL, y, z] ∧ ∃ ts, IsCh y H ts ∧ ((∃ us, IsCh z H us ∧ Evl.RetV (.bl (uneq t u ts us)) H Q) ∨ (NoTup K z H ∧ Evl.RetV (.bl false) H Q))) ∨
      (∃ wd r, xs = S wd :: r ∧ r.length ≤ 10 ∧ ¬ (wd = EQUAL ∧ r.length = 1) ∧ ¬ (wd = UNEQUAL ∧ r.length = 2) ∧ Evl.RetV (.bl false) H Q))))
theorem ok_is_equality_paper (T : Top K mg) : FnOk P w K mg base CX0 23 T.is_equality_paper.f T.is_equality_paper.fd ["one", "other", "value"] (spPaper K) := by
  refine T.is_equality_paper.F.ok sc_is_equality_paper (fun vs H Q E h => ?_) (fun cdv A outer s H vs Q E hr h => ?_)
  · obtain ⟨t, u, v, rfl, _⟩ := h
    rfl
  · obtain ⟨t, u, v, rfl, ht, hzt, hu, hzu, h⟩ := h
    refine ⟨_, (pss_cons (ps_expr (callO (ok_require_terms T) (hr.mono (by first | decide | omega)) (by rfl) (pa_cons (pv 0) (pa_cons (pv 1) pa_nil)))) (pss_cons (ps_if (pw_or (pt_not (kk_tru (K := K) rfl (pt_truth (pe_callB (kk_isi (K := K) rfl) (by rfl) T.isinstance (by decide +kernel) (pa_cons (pv 2) (pa_cons (pe_bltn (v := .ty "tuple") (by rfl) T.tuple (by decide +kernel) rfl) pa_nil))) (fun _ => rfl)))) (pw_or (pt_cmpR (kk_eq (K := K) rfl hr) (pv 2) (pe_tup pa_nil) (nomark _)) (pw_or1 (pt_not (kk_tru (K := K) rfl (pt_truth (pe_callB (kk_isi (K := K) rfl) (by rfl) T.isinstance (by decide +kernel) (pa_cons (pe_ix (kk_ix (K := K) rfl) (pv 2) pe_int (fun _ _ => rfl)) (pa_cons (pe_bltn (v := .ty "str") (by rfl) T.str (by decide +kernel) rfl) pa_nil))) (fun _ => rfl))))))).pt (pss_one (ps_ret pe_bl)) pss_nil) (pss_cons (ps_asg (pv 2) (pg_head (K := K) rfl (by rfl) (pgs_cons (pg_name (i := 3) sc_is_equality_paper.nd rfl (by first | exact Or.inl rfl | exact Or.inr rfl)) (pgs_starred (pg_name (i := 4) sc_is_equality_paper.nd rfl (by first | exact Or.inl rfl | exact Or.inr rfl)) pgs_nil)))) (pss_cons (ps_if (pw_and (pt_cmpR (kk_eq (K := K) rfl hr) (pv 3) (pe_globS [101, 113, 117, 97, 108] (by decide) (by rfl) T.EQUAL) (nomark _)) (pw_and1 (pt_cmpR (kk_eq (K := K) rfl hr) (pe_callB (kk_len (K := K) rfl) (by rfl) T.len (by decide +kernel) (pa_cons (pv 4) pa_nil)) pe_int (nomark _)))).pt (pss_one (ps_ret (callO (ok_is_equal_chain T) (hr.mono (by first | decide | omega)) (by rfl) (pa_cons (pv 0) (pa_cons (pv 1) (pa_cons (pe_ix (kk_ix (K := K) rfl) (pv 4) pe_int (fun _ _ => rfl)) pa_nil)))))) pss_nil) (pss_cons (ps_if (pw_or (pt_cmpR (kk_ne (K := K) rfl hr) (pv 3) (pe_globS [117, 110, 101, 113, 117, 97, 108] (by decide) (by rfl) T.UNEQUAL) (nomark _)) (pw_or1 (pt_cmpR (kk_ne (K := K) rfl hr) (pe_callB (kk_len (K := K) rfl) (by rfl) T.len (by decide +kernel) (pa_cons (pv 4) pa_nil)) pe_int (nomark _)))).pt (pss_one (ps_ret pe_bl)) pss_nil) (pss_cons (ps_if (pw_or (pt_not (kk_tru (K := K) rfl (pt_truth (callO (ok_is_down_chain T) (hr.mono (by first | decide | omega)) (by rfl) (pa_cons (pv 0) (pa_cons (pe_ix (kk_ix (K := K) rfl) (pv 4) pe_int (fun _ _ => rfl)) pa_nil))) (fun _ => rfl)))) (pw_or1 (pt_not (kk_tru (K := K) rfl (pt_truth (callO (ok_is_down_chain T) (hr.mono (by first | decide | omega)) (by rfl) (pa_cons (pv 1) (pa_cons (pe_ix (kk_ix (K := K) rfl) (pv 4) pe_int (fun _ _ => rfl)) pa_nil))) (fun _ => rfl)))))).pt (pss_one (ps_ret pe_bl)) pss_nil) (pss_one (ps_ret (pe_cmpR (kk_ne (K := K) rfl hr) (pe_ix (kk_ix (K := K) rfl) (pe_ix (kk_ix (K := K) rfl) (pv 4) pe_int (fun _ _ => rfl)) (pe_un un_neg pe_int) (fun _ _ => rfl)) (pe_ix (kk_ix (K := K) rfl) (pe_ix (kk_ix (K := K) rfl) (pv 4) pe_int (fun _ _ => rfl)) (pe_un un_neg pe_int) (fun _ _ => rfl)) (nomark _)))))))))), ?_⟩
    rw [st_is_equality_paper]
    walk_at "go"
    refine ⟨t, u, rfl, ht, hzt, hu, hzu, ?_⟩
    walk_at "go"
    rcases h with ⟨⟨m, hm, hb⟩, k⟩ | h
    · rw [kIsi_of hm hb]
      walk_at "go"
      exact k
    · rcases h with ⟨p, rfl, hp, k⟩ | ⟨p, xs, rfl, hp, ⟨d0, ds, hd1, hd2⟩, h⟩
      · rw [kIsi_of (kind_tup hp) (show kitB "tuple" "tuple" = some true by decide +kernel)]
        walk_at "go"
        refine ⟨Nat.zero_le _, fun p2 hp2 => kEq_D.mpr ⟨.tuple [], .tuple [], .tup (SqT.of (Evl.Ex.new hp2 _ _ hp)) .nil, .tup (SqT.of upd_same) .nil, rfl, rfl, ?_⟩⟩
        walk_at "go"
        rw [show PyData.eqv (.tuple []) (.tuple []) = true from rfl]
        walk_at "go"
        exact k _ (Evl.Ex.new hp2)
      · rw [kIsi_of (kind_tup hp) (show kitB "tuple" "tuple" = some true by decide +kernel)]
        walk_at "go"
        refine ⟨Nat.zero_le _, fun p2 hp2 => kEq_D.mpr ⟨.tuple (d0 :: ds), .tuple [], dp_ex (Evl.Ex.new hp2) hd1, .tup (SqT.of upd_same) .nil, hd2, rfl, ?_⟩⟩
        walk_at "go"
        rw [show PyData.eqv (.tuple (d0 :: ds)) (.tuple []) = false from rfl]
        walk_at "go"
        have e1 : Evl.Ex H (upd H p2 (.tup [])) := Evl.Ex.new hp2
        generalize upd H p2 (.tup []) = H1 at e1 ⊢
        have hp1 := e1 _ _ hp
        rcases h with ⟨x, r, m, rfl, hm, hb, k⟩ | ⟨y, rfl, h⟩ | ⟨y, z, rfl, ts, hy, h⟩ | ⟨wd, r, rfl, hr10, n1, n2, k⟩
        · refine ixT (SqT.of hp1) (at0 rfl) ?_
          walk_at "go"
          rw [kIsi_of (kind_ex e1 hm) hb]
          walk_at "go"
          exact k _ e1
        · refine ixT (SqT.of hp1) (at0 rfl) ?_
          walk_at "go"
          refine ⟨_, _, _, rfl, SqT.of hp1, fun p3 hp3 => ?_⟩
          have e2 : Evl.Ex H (upd H1 p3 (.lst [y])) := e1.trans (Evl.Ex.new hp3)
          have hl : (upd H1 p3 (.lst [y])) p3 = some (.lst [y]) := upd_same
          generalize upd H1 p3 (.lst [y]) = H2 at e2 hl ⊢
          walk_at "go"
          walk_at "br"
          · intro _
            walk_at "go"
            refine lenL (SqL.of hl) ?_
            walk_at "go"
            rw [show decide (((1 : Nat) : Int) = 1) = true from rfl]
            walk_at "go"
            refine ixL (SqL.of hl) (at0 rfl) ?_
            walk_at "go"
            refine ⟨t, u, y, rfl, ?_⟩
            rcases h with ⟨ts, ⟨q, rfl, c1, c2, c3⟩, k⟩ | ⟨h, k⟩
            · exact .inl ⟨q, ts, rfl, e2 _ _ c1, c2, c3, fun H3 e3 => k _ (e2.trans e3)⟩
            · exact .inr ⟨h.ex e2, k _ e2⟩
          · intro h
            exact absurd rfl h
        · refine ixT (SqT.of hp1) (at0 rfl) ?_
          walk_at "go"
          refine ⟨_, _, _, rfl, SqT.of hp1, fun p3 hp3 => ?_⟩
          have e2 : Evl.Ex H (upd H1 p3 (.lst [y, z])) := e1.trans (Evl.Ex.new hp3)
          have hl : (upd H1 p3 (.lst [y, z])) p3 = some (.lst [y, z]) := upd_same
          generalize upd H1 p3 (.lst [y, z]) = H2 at e2 hl ⊢
          walk_at "go"
          rw [decide_eq_false (show ¬ UNEQUAL = [101, 113, 117, 97, 108] by decide)]
          walk_at "go"
          rw [show decide (UNEQUAL = [117, 110, 101, 113, 117, 97, 108]) = true from rfl]
          walk_at "go"
          refine lenL (SqL.of hl) ?_
          walk_at "go"
          rw [show decide (((1 + 1 : Nat) : Int) = 2) = true from rfl]
          walk_at "go"
          refine ixL (SqL.of hl) (at0 rfl) ?_
          walk_at "go"
          obtain ⟨q, rfl, c1, c2, c3⟩ := hy
          refine ⟨t, _, rfl, .inl ⟨q, ts, rfl, e2 _ _ c1, c2, c3, fun H3 e3 => ?_⟩⟩
          walk_at "go"
          have hl3 := e3 _ _ hl
          have e23 := e2.trans e3
          cases hd : downCh t ts with
          | false =>
            walk_at "go"
            rcases h with ⟨us, _, k⟩ | ⟨_, k⟩
            · have := k _ e23
              unfold uneq at this
              rw [hd] at this
              exact this
            · exact k _ e23
          | true =>
            walk_at "go"
            refine ixL (SqL.of hl3) (atI_nat (j := 1) rfl) ?_
            walk_at "go"
            rcases h with ⟨us, ⟨q2, rfl, g1, g2, g3⟩, k⟩ | ⟨h, k⟩
            · refine ⟨u, _, rfl, .inl ⟨q2, us, rfl, e23 _ _ g1, g2, g3, fun H4 e4 => ?_⟩⟩
              walk_at "go"
              have hl4 := e4 _ _ hl3
              have e24 := e23.trans e4
              cases hd2 : downCh u us with
              | false =>
                walk_at "go"
                have := k _ e24
                unfold uneq at this
                rw [hd, hd2] at this
                exact this
              | true =>
                walk_at "go"
                have hts : 1 ≤ ts.length := by
                  unfold downCh at hd
                  simp at hd
                  omega
                have hus : 1 ≤ us.length := by
                  unfold downCh at hd2
                  simp at hd2
                  omega
                obtain ⟨z1, hz1⟩ : ∃ z, ts[ts.length - 1]? = some z := ⟨_, List.getElem?_eq_getElem (by omega)⟩
                obtain ⟨z2, hz2⟩ : ∃ z, us[us.length - 1]? = some z := ⟨_, List.getElem?_eq_getElem (by omega)⟩
                refine ixL (SqL.of hl4) (at0 rfl) ?_
                walk_at "go"
                refine ixT (SqT.of (e24 _ _ c1)) (at_last (v := S (enc z1)) (by rw [List.length_map, List.getElem?_map, hz1]; rfl)) ?_
                walk_at "go"
                refine ixL (SqL.of hl4) (atI_nat (j := 1) rfl) ?_
                walk_at "go"
                refine ixT (SqT.of (e24 _ _ g1)) (at_last (v := S (enc z2)) (by rw [List.length_map, List.getElem?_map, hz2]; rfl)) ?_
                walk_at "go"
                have := k _ e24
                unfold uneq lastE at this
                rw [hd, hd2, hz1, hz2] at this
                simpa using this
            · refine ⟨u, _, rfl, .inr ⟨h.ex e23, ?_⟩⟩
              walk_at "go"
              exact k _ e23
        · refine ixT (SqT.of hp1) (at0 rfl) ?_
          walk_at "go"
          refine ⟨_, _, _, rfl, SqT.of hp1, fun p3 hp3 => ?_⟩
          have e2 : Evl.Ex H (upd H1 p3 (.lst r)) := e1.trans (Evl.Ex.new hp3)
          have hl : (upd H1 p3 (.lst r)) p3 = some (.lst r) := upd_same
          generalize upd H1 p3 (.lst r) = H2 at e2 hl ⊢
          walk_at "go"
          walk_at "br"
          · intro h1
            walk_at "go"
            refine lenL (SqL.of hl) ?_
            walk_at "go"
            rw [decide_eq_false (show ¬ ((r.length : Nat) : Int) = 1 from fun q => n1 ⟨h1, by omega⟩)]
            walk_at "go"
            rw [decide_eq_false (show ¬ wd = [117, 110, 101, 113, 117, 97, 108] by rw [h1]; decide)]
            walk_at "go"
            exact k _ e2
          · intro h1
            walk_at "go"
            walk_at "br"
            · intro h2
              walk_at "go"
              refine lenL (SqL.of hl) ?_
              walk_at "go"
              rw [decide_eq_false (show ¬ ((r.length : Nat) : Int) = 2 from fun q => n2 ⟨h2, by omega⟩)]
              walk_at "go"
              exact k _ e2
            · intro h2
              walk_at "go"
              exact k _ e2
end
end LW

end

section
set_option maxHeartbeats 4000000

namespace LW
open PySem PySem.Spec PyProof.Rows L2 KG KT
local macro_rules | `(tactic| walk_at "go") => `(tactic| try simp only [b_St, b_Sf, b_Et, b_Ef, b_At, b_Af, b_Ot, b_Of, b_AVt, b_AVf, b_OVt, b_OVf, b_Ct, b_Cf, g_seq, g_asg, g_name, g_ret, g_retN, g_next, g_brk, g_cont, g_drop, g_ifS, g_if, g_and, g_or, g_not, g_andV, g_orV, g_notV, g_chain, g_test, g_B, g_op, g_un, g_neg, g_var, g_c, g_nil, g_cons, g_CB, g_call, g_par, g_par3, g_aug, g_sl, g_part, g_nopart, g_tup, g_lst, g_gcons, g_gnil, g_BM, g_dnew, g_yes, g_never, g_tupK, g_listK, g_KCall, g_for1, g_tru, k_then, k_0, k_plain, k_if, k_yield, b_Gt, b_Gf, rx_K, kon_K, g_M1, g_dget2, g_isS, g_wipe0, g_wipe1, g_wipe2, g_wipe3, b_Lt, b_Lf,
  kAdd_i, kAdd_s, kMul_i, kMul_s, kInt_i, kInt0_i, kEq_i, kEq_s, kNe_i, kNe_s, kEq_b, kNe_b, kIn_s, kNotIn_s, kLen_s, kIx_s, kSl_s, kAug_i, kAbs_i, kMax_i, kMin_i, kIntOf_i, kIntOf_b, g_sub, isN_S, isN_i, isN_n, isN_r, notN_S, notN_i, notN_n, notN_r, isN_b, notN_b, tru_b, tru_i, tru_n, ex_bl, ex_int, ex_some, par_2, par_3, isi_S kit_ss, cx_K, cx_Kn, Bool.not_true, Bool.not_false,
  List.set_cons_zero, List.set_cons_succ, List.getElem?_cons_zero, List.getElem?_cons_succ, List.map_cons, List.map_nil, List.append_nil, List.length_cons, List.length_nil, Nat.zero_add, dec_one, true_and, decide_true, decide_false])
local macro_rules | `(tactic| walk_at "br") => `(tactic| first | refine br_W ?_ ?_ | refine br_G ?_ ?_ | refine br_L ?_ ?_ | refine br_Ln ?_ ?_ | refine br_Lm ?_ ?_ | refine br_Lb ?_ ?_ | refine br_S ?_ ?_ | refine br_E ?_ ?_ | refine br_A ?_ ?_ | refine br_O ?_ ?_ | refine br_AV ?_ ?_ | refine br_OV ?_ ?_ | refine br_C ?_ ?_ | refine br_Sn ?_ ?_ | refine br_En ?_ ?_ | refine br_An ?_ ?_ | refine br_On ?_ ?_ | refine br_AVn ?_ ?_ | refine br_OVn ?_ ?_ | refine br_Cn ?_ ?_ | refine br_Sm ?_ ?_ | refine br_Em ?_ ?_ | refine br_Am ?_ ?_ | refine br_Om ?_ ?_ | refine br_AVm ?_ ?_ | refine br_OVm ?_ ?_ | refine br_Cm ?_ ?_ | refine br_Sb ?_ ?_ | refine br_Eb ?_ ?_ | refine br_Ab ?_ ?_ | refine br_Ob ?_ ?_ | refine br_AVb ?_ ?_ | refine br_OVb ?_ ?_ | refine br_Cb ?_ ?_)

section
variable {P : Program} {w : World} {K : PySem.W.Frag} {mg : Str → Option Value} {base : Heap}
abbrev sl__law_leads : List Str := ["one", "other", "step"]
theorem sc__law_leads : FnScope sl__law_leads ["one", "other"] (defScope s__law_leads) := ⟨rfl, rfl, rfl, by decide +kernel, rfl, by decide +kernel, by decide +kernel⟩
theorem st__law_leads (v0 : V) (v1 : V) : L2.start sl__law_leads [v0, v1] = [some v0, some v1, none] := rfl
abbrev sl__law_takes : List Str := ["one", "other", "chain", "at"]
theorem sc__law_takes : FnScope sl__law_takes ["one", "other", "chain"] (defScope s__law_takes) := ⟨rfl, rfl, rfl, by decide +kernel, rfl, by decide +kernel, by decide +kernel⟩
theorem st__law_takes (v0 : V) (v1 : V) (v2 : V) : L2.start sl__law_takes [v0, v1, v2] = [some v0, some v1, some v2, none] := rfl
abbrev sl__law_takes_down : List Str := ["term", "chain", "at"]
theorem sc__law_takes_down : FnScope sl__law_takes_down ["term", "chain"] (defScope s__law_takes_down) := ⟨rfl, rfl, rfl, by decide +kernel, rfl, by decide +kernel, by decide +kernel⟩
theorem st__law_takes_down (v0 : V) (v1 : V) : L2.start sl__law_takes_down [v0, v1] = [some v0, some v1, none] := rfl
abbrev sl__law_near : List Str := ["dice", "chain", "letters", "at", "way", "fresh", "more"]
theorem sc__law_near : FnScope sl__law_near ["dice", "chain", "letters"] (defScope s__law_near) := ⟨rfl, rfl, rfl, by decide +kernel, rfl, by decide +kernel, by decide +kernel⟩
theorem st__law_near (v0 : V) (v1 : V) (v2 : V) : L2.start sl__law_near [v0, v1, v2] = [some v0, some v1, some v2, none, none, none, none] := rfl
abbrev sl__law_down : List Str := ["dice", "term", "found", "turn", "steps"]
theorem sc__law_down : FnScope sl__law_down ["dice", "term"] (defScope s__law_down) := ⟨rfl, rfl, rfl, by decide +kernel, rfl, by decide +kernel, by decide +kernel⟩
theorem st__law_down (v0 : V) (v1 : V) : L2.start sl__law_down [v0, v1] = [some v0, some v1, none, none, none] := rfl
theorem str_beq (a b : List Nat) : eqV (S a) (S b) = decide (a = b) := by
  show ((⟨a.toArray⟩ : Str) == ⟨b.toArray⟩) = _
  rw [Bool.eq_iff_iff, beq_iff_eq, decide_eq_true_iff]
  exact ⟨fun h => by simpa using congrArg (fun z : Str => z.cps.toList) h, fun h => by rw [h]⟩
theorem for_viaR {ta : TA} {g : TG} {tb : TS} {D : Ends} {σ : L2.St} {H : Hp} : tFor (iRng1 ta) g tb D σ H = ta σ H fun vs H1 => tFor (iRng1 (fun _ H Q => Q vs H)) g tb D σ H1 := rfl
def spLleads : Sp := fun vs H Q _ => ∃ t u : Tm, vs = [S (enc t), S (enc u)] ∧ ok t = true ∧ sz t ≤ 200 ∧ Evl.RetV (.bl (leads t u)) H Q
theorem ok__law_leads (T : Top K mg) : FnOk P w K mg base CX0 5 T._law_leads.f T._law_leads.fd ["one", "other"] spLleads := by
  refine T._law_leads.F.ok sc__law_leads (fun vs H Q E h => ?_) (fun cdv A outer s H vs Q E hr h => ?_)
  · obtain ⟨t, u, rfl, _⟩ := h
    rfl
  · obtain ⟨t, u, rfl, ht, hz, k⟩ := h
    refine ⟨_, (pss_one (ps_ret (pe_cmpR (kk_in (K := K) rfl hr) (pv 1) (pe_lc (own := [("step", 2)]) (by rfl) sc__law_leads.nd (kk_pi (K := K) rfl (callO (ok__law_steps T) (hr.mono (by first | decide | omega)) (by rfl) (pa_cons (pv 0) pa_nil))) (blkOk_by (own := [("step", 2)]) (N := sl__law_leads) (sc := defScope s__law_leads) (by decide +kernel)) (fun _ _ _ _ _ => (pg_name (i := 2) sc__law_leads.nd rfl (by first | exact Or.inl rfl | exact Or.inr rfl))) (fun _ _ _ _ _ => pts_nil) (fun _ _ _ _ _ => (pe_ix (kk_ix (K := K) rfl) (pv 2) pe_int (fun _ _ => rfl)))) (by rfl)))), ?_⟩
    rw [st__law_leads]
    walk_at "go"
    rw [lc_via]
    walk_at "go"
    have hl := len_of (t := t) (by omega)
    have hsl := steps_len t
    refine ⟨t, rfl, ht, by omega, fun p H1 ys hp e1 hH1 told => ?_⟩
    have hyl := told.length
    refine lc_L (a := p) (xs := ys) (fun Q q => q) (SqL.of hH1) (fun D i H' => Evl.Ex H1 H' ∧ H' D = some (.lst (((steps t).take i).map fun s => S (enc s.2.2)))) (fun D hD => ⟨Evl.Ex.new hD, by rw [upd_same]; rfl⟩) (fun D i H' _ _ q => SqL.of (q.1 _ _ hH1)) ?_ ?_
    · rintro D i x H' hD hx ⟨e, l⟩
      obtain ⟨⟨j, r, v⟩, hs, a, rfl, ha⟩ := pair_get told hx
      have ha2 : H' a = some (.tup [.int (j : Nat), .int (r : Nat), S (enc v)]) := e _ _ ha
      walk_at "go"
      have hi := (List.getElem?_eq_some_iff.mp hs).1
      refine ixT (SqT.of ha2) (atI_nat (j := 2) rfl) ?_
      refine ⟨_, l, ?_, Evl.Ex.mut e hD, ?_⟩
      · rw [List.length_map, List.length_take]
        have := line_ge
        omega
      · rw [upd_same, List.take_add_one, hs]
        simp
    · rintro D H' hD ⟨e, l⟩
      rw [hyl, List.take_length] at l
      refine .inl ⟨D, _, rfl, .inl (SqL.of l), rfl, by rw [List.all_map]; exact List.all_eq_true.mpr fun _ _ => rfl, ?_⟩
      have e2 : inV (S (enc u)) ((steps t).map fun s => S (enc s.2.2)) = leads t u := by
        unfold inV leads
        rw [List.any_map]
        congr 1
        funext s
        show eqV (S (enc s.2.2)) (S (enc u)) = _
        exact str_beq _ _
      rw [e2]
      exact k H' (e1.trans e)
theorem lleads_run {H : Hp} {Q : VK} {E : XK} {t u : Tm} (ht : ok t = true) (hz : sz t ≤ 200) (k : Evl.RetV (.bl (leads t u)) H Q) : spLleads [S (enc t), S (enc u)] H Q E := ⟨t, u, rfl, ht, hz, k⟩
theorem links_no {f : Tm → Tm → Bool} {ts : List Tm} {i : Nat} (h : i + 1 < ts.length) (hi : linkAt f ts i = false) : links f ts = false := by
  unfold links
  rw [List.all_map]
  exact List.all_eq_false.mpr ⟨i, List.mem_range.mpr (by omega), by simp [hi]⟩
theorem links_yes {f : Tm → Tm → Bool} {ts : List Tm} (h : ∀ i, i + 1 < ts.length → linkAt f ts i = true) : links f ts = true := by
  unfold links
  rw [List.all_map]
  exact List.all_eq_true.mpr fun i hi => h i (by have := List.mem_range.mp hi; omega)
def spTakes : Sp := fun vs H Q _ => ∃ t u : Tm, ∃ p ts, vs = [S (enc t), S (enc u), .ref p] ∧ H p = some (.tup (Ch ts)) ∧ Fine ts ∧ ts.length ≤ 100000 ∧ Evl.RetV (.bl (eqCh t u ts)) H Q
theorem ok__law_takes (T : Top K mg) : FnOk P w K mg base CX0 6 T._law_takes.f T._law_takes.fd ["one", "other", "chain"] spTakes := by
  refine T._law_takes.F.ok sc__law_takes (fun vs H Q E h => ?_) (fun cdv A outer s H vs Q E hr h => ?_)
  · obtain ⟨t, u, p, ts, rfl, _⟩ := h
    rfl
  · obtain ⟨t, u, p, ts, rfl, hp, hf, hl, k⟩ := h
    refine ⟨_, (pss_cons (ps_if (pw_or (pt_cmpR (kk_eq (K := K) rfl hr) (pe_callB (kk_len (K := K) rfl) (by rfl) T.len (by decide +kernel) (pa_cons (pv 2) pa_nil)) pe_int (nomark _)) (pw_or (pt_cmpR op_kGt (pe_callB (kk_len (K := K) rfl) (by rfl) T.len (by decide +kernel) (pa_cons (pv 2) pa_nil)) pe_int (nomark _)) (pw_or (pt_cmpR (kk_ne (K := K) rfl hr) (pe_ix (kk_ix (K := K) rfl) (pv 2) pe_int (fun _ _ => rfl)) (pv 0) (nomark _)) (pw_or1 (pt_cmpR (kk_ne (K := K) rfl hr) (pe_ix (kk_ix (K := K) rfl) (pv 2) (pe_un un_neg pe_int) (fun _ _ => rfl)) (pv 1) (nomark _)))))).pt (pss_one (ps_ret pe_bl)) pss_nil) (pss_cons (ps_for PassesOwn.never (by rfl) (pi_range1 (by rfl) T.range (pa_cons (pe_op op_kSub (pe_callB (kk_len (K := K) rfl) (by rfl) T.len (by decide +kernel) (pa_cons (pv 2) pa_nil)) pe_int) pa_nil)) (pg_name (i := 3) sc__law_takes.nd rfl (by first | exact Or.inl rfl | exact Or.inr rfl)) (pss_one (ps_if (pw_and (pt_not (kk_tru (K := K) rfl (pt_truth (callO (ok__law_leads T) (hr.mono (by first | decide | omega)) (by rfl) (pa_cons (pe_ix (kk_ix (K := K) rfl) (pv 2) (pv 3) (fun _ _ => rfl)) (pa_cons (pe_ix (kk_ix (K := K) rfl) (pv 2) (pe_op (kk_add (K := K) rfl) (pv 3) pe_int) (fun _ _ => rfl)) pa_nil))) (fun _ => rfl)))) (pw_and1 (pt_not (kk_tru (K := K) rfl (pt_truth (callO (ok__law_leads T) (hr.mono (by first | decide | omega)) (by rfl) (pa_cons (pe_ix (kk_ix (K := K) rfl) (pv 2) (pe_op (kk_add (K := K) rfl) (pv 3) pe_int) (fun _ _ => rfl)) (pa_cons (pe_ix (kk_ix (K := K) rfl) (pv 2) (pv 3) (fun _ _ => rfl)) pa_nil))) (fun _ => rfl)))))).pt (pss_one (ps_ret pe_bl)) pss_nil))) (pss_one (ps_ret pe_bl)))), ?_⟩
    rw [st__law_takes]
    walk_at "go"
    have no : eqCh t u ts = false → ∀ H', Evl.Ex H H' → Q (.bl false) H' := fun h H' e => by
      have := k H' e
      rw [h] at this
      exact this
    refine lenT (SqT.of hp) ?_
    rw [List.length_map]
    walk_at "go"
    walk_at "br"
    · intro h0
      walk_at "go"
      refine no ?_ _ (Evl.Ex.refl _)
      unfold eqCh
      rw [decide_eq_false (by omega)]
      rfl
    · intro h0
      walk_at "go"
      refine lenT (SqT.of hp) ?_
      rw [List.length_map]
      walk_at "go"
      walk_at "br"
      · intro h1
        walk_at "go"
        refine no ?_ _ (Evl.Ex.refl _)
        unfold eqCh
        rw [decide_eq_false (by omega)]
        rfl
      · intro h1
        walk_at "go"
        have h2 : 1 ≤ ts.length ∧ ts.length ≤ 400 := by omega
        obtain ⟨a, ha⟩ : ∃ a, ts[0]? = some a := ⟨_, List.getElem?_eq_getElem (by omega)⟩
        obtain ⟨z, hz⟩ : ∃ z, ts[ts.length - 1]? = some z := ⟨_, List.getElem?_eq_getElem (by omega)⟩
        refine ixT (SqT.of hp) (at0 (v := S (enc a)) (by rw [List.getElem?_map, ha]; rfl)) ?_
        walk_at "go"
        walk_at "br"
        · intro h3
          walk_at "go"
          refine ixT (SqT.of hp) (at_last (v := S (enc z)) (by rw [List.length_map, List.getElem?_map, hz]; rfl)) ?_
          walk_at "go"
          walk_at "br"
          · intro h4
            walk_at "go"
            rw [for_viaR]
            walk_at "go"
            refine lenT (SqT.of hp) ?_
            rw [List.length_map]
            walk_at "go"
            refine loop_R (n := (ts.length : Int) - 1) (fun Q q => q) (by omega) (fun i σ' H' => Evl.Ex H H' ∧ (∀ m, m < i → linkAt either ts m = true) ∧ ∃ o : Option V, σ' = [some (S (enc t)), some (S (enc u)), some (.ref p), o]) ⟨Evl.Ex.refl _, fun _ h => by omega, none, rfl⟩ ?_ ?_
            · rintro i σ' H' hi ⟨e, hm, o, rfl⟩
              walk_at "go"
              obtain ⟨b, hb⟩ : ∃ b, ts[i]? = some b := ⟨_, List.getElem?_eq_getElem (by omega)⟩
              obtain ⟨c, hc⟩ : ∃ c, ts[i + 1]? = some c := ⟨_, List.getElem?_eq_getElem (by omega)⟩
              obtain ⟨b1, b2⟩ := hf b (List.mem_of_getElem? hb)
              obtain ⟨c1, c2⟩ := hf c (List.mem_of_getElem? hc)
              have hib : atI (Ch ts) (i : Int) = some (S (enc b)) := atI_nat (by rw [List.getElem?_map, hb]; rfl)
              have hic : atI (Ch ts) ((i : Int) + 1) = some (S (enc c)) := by
                rw [show (i : Int) + 1 = ((i + 1 : Nat) : Int) by omega]
                exact atI_nat (by rw [List.getElem?_map, hc]; rfl)
              have hw : linkAt either ts i = (leads b c || leads c b) := by
                unfold linkAt
                rw [hb, hc]
                rfl
              have more : linkAt either ts i = true → ∀ m, m < i + 1 → linkAt either ts m = true := fun h m hm' => by
                by_cases q : m = i
                · rw [q]; exact h
                · exact hm m (by omega)
              refine ixT (SqT.of (e _ _ hp)) hib ?_
              refine ixT (SqT.of (e _ _ hp)) hic ?_
              refine lleads_run b1 b2 fun H4 e4 => ?_
              walk_at "go"
              cases hl1 : leads b c with
              | true =>
                walk_at "go"
                exact ⟨e.trans e4, more (by rw [hw, hl1]; rfl), _, rfl⟩
              | false =>
                walk_at "go"
                refine ixT (SqT.of (e4 _ _ (e _ _ hp))) hic ?_
                refine ixT (SqT.of (e4 _ _ (e _ _ hp))) hib ?_
                refine lleads_run c1 c2 fun H5 e5 => ?_
                walk_at "go"
                cases hl2 : leads c b with
                | true =>
                  walk_at "go"
                  exact ⟨(e.trans e4).trans e5, more (by rw [hw, hl1, hl2]; rfl), _, rfl⟩
                | false =>
                  walk_at "go"
                  refine no ?_ _ ((e.trans e4).trans e5)
                  unfold eqCh
                  rw [show links either ts = false from links_no (i := i) (by omega) (by rw [hw, hl1, hl2]; rfl), Bool.and_false]
            · rintro σ' H' ⟨e, hm, o, rfl⟩
              walk_at "go"
              have h6 : eqCh t u ts = true := by
                unfold eqCh
                rw [decide_eq_true h2, ha, hz, decide_eq_true (by rw [Option.map_some, h3]), decide_eq_true (by rw [Option.map_some, h4]), links_yes (fun m h => hm m (by omega))]
                rfl
              have := k H' e
              rw [h6] at this
              exact this
          · intro h4
            walk_at "go"
            refine no ?_ _ (Evl.Ex.refl _)
            unfold eqCh
            rw [hz]
            simp [h4]
        · intro h3
          walk_at "go"
          refine no ?_ _ (Evl.Ex.refl _)
          unfold eqCh
          rw [ha]
          simp [h3]
end
end LW

end

section
set_option maxHeartbeats 4000000

namespace LW
open PySem PySem.Spec PyProof.Rows L2 KG KT
local macro_rules | `(tactic| walk_at "go") => `(tactic| try simp only [b_St, b_Sf, b_Et, b_Ef, b_At, b_Af, b_Ot, b_Of, b_AVt, b_AVf, b_OVt, b_OVf, b_Ct, b_Cf, g_seq, g_asg, g_name, g_ret, g_retN, g_next, g_brk, g_cont, g_drop, g_ifS, g_if, g_and, g_or, g_not, g_andV, g_orV, g_notV, g_chain, g_test, g_B, g_op, g_un, g_neg, g_var, g_c, g_nil, g_cons, g_CB, g_call, g_par, g_par3, g_aug, g_sl, g_part, g_nopart, g_tup, g_lst, g_gcons, g_gnil, g_BM, g_dnew, g_yes, g_never, g_tupK, g_listK, g_KCall, g_for1, g_tru, k_then, k_0, k_plain, k_if, k_yield, b_Gt, b_Gf, rx_K, kon_K, g_M1, g_dget2, g_isS, g_wipe0, g_wipe1, g_wipe2, g_wipe3, b_Lt, b_Lf,
  kAdd_i, kAdd_s, kMul_i, kMul_s, kInt_i, kInt0_i, kEq_i, kEq_s, kNe_i, kNe_s, kEq_b, kNe_b, kIn_s, kNotIn_s, kLen_s, kIx_s, kSl_s, kAug_i, kAbs_i, kMax_i, kMin_i, kIntOf_i, kIntOf_b, g_sub, isN_S, isN_i, isN_n, isN_r, notN_S, notN_i, notN_n, notN_r, isN_b, notN_b, tru_b, tru_i, tru_n, ex_bl, ex_int, ex_some, par_2, par_3, isi_S kit_ss, cx_K, cx_Kn, Bool.not_true, Bool.not_false,
  List.set_cons_zero, List.set_cons_succ, List.getElem?_cons_zero, List.getElem?_cons_succ, List.map_cons, List.map_nil, List.append_nil, List.length_cons, List.length_nil, Nat.zero_add, dec_one, true_and, decide_true, decide_false])
local macro_rules | `(tactic| walk_at "br") => `(tactic| first | refine br_W ?_ ?_ | refine br_G ?_ ?_ | refine br_L ?_ ?_ | refine br_Ln ?_ ?_ | refine br_Lm ?_ ?_ | refine br_Lb ?_ ?_ | refine br_S ?_ ?_ | refine br_E ?_ ?_ | refine br_A ?_ ?_ | refine br_O ?_ ?_ | refine br_AV ?_ ?_ | refine br_OV ?_ ?_ | refine br_C ?_ ?_ | refine br_Sn ?_ ?_ | refine br_En ?_ ?_ | refine br_An ?_ ?_ | refine br_On ?_ ?_ | refine br_AVn ?_ ?_ | refine br_OVn ?_ ?_ | refine br_Cn ?_ ?_ | refine br_Sm ?_ ?_ | refine br_Em ?_ ?_ | refine br_Am ?_ ?_ | refine br_Om ?_ ?_ | refine br_AVm ?_ ?_ | refine br_OVm ?_ ?_ | refine br_Cm ?_ ?_ | refine br_Sb ?_ ?_ | refine br_Eb ?_ ?_ | refine br_Ab ?_ ?_ | refine br_Ob ?_ ?_ | refine br_AVb ?_ ?_ | refine br_OVb ?_ ?_ | refine br_Cb ?_ ?_)

theorem steps_shaped {t : Tm} (ht : ok t = true) (hz : sz t ≤ 200) : SeqAt.shaped (.list ((steps t).map stepD)) = true := by
  obtain ⟨h1, _, h3, _⟩ := sm_data (sm_steps ht hz)
  unfold SeqAt.shaped
  rw [Bool.and_eq_true_iff]
  refine ⟨h1, decide_eq_true ?_⟩
  show PyData.depthAll _ + 1 ≤ 64
  omega
theorem eqv_nil (ds : List PyData) : PyData.eqv (.list ds) (.list []) = ds.isEmpty := by cases ds <;> rfl
theorem ints_data : ∀ is : List Int, PyData.canLayAll0 (is.map .int) = true ∧ PyData.depthAll (is.map .int) ≤ 0
  | [] => ⟨rfl, Nat.le_refl _⟩
  | i :: is => by
    obtain ⟨h1, h2⟩ := ints_data is
    refine ⟨?_, ?_⟩
    · show (PyData.canLay0 (.int i) && PyData.canLayAll0 (is.map .int)) = true
      rw [h1]; rfl
    · show max (PyData.depth (.int i)) (PyData.depthAll (is.map .int)) ≤ 0
      simp only [PyData.depth]
      omega
theorem ints_shaped (is : List Int) : SeqAt.shaped (.list (is.map .int)) = true := by
  obtain ⟨h1, h2⟩ := ints_data is
  unfold SeqAt.shaped
  rw [Bool.and_eq_true_iff]
  refine ⟨h1, decide_eq_true ?_⟩
  show PyData.depthAll _ + 1 ≤ 64
  omega
theorem ints_dp {K : PySem.W.Frag} {H : Hp} : ∀ is : List Int, DpAll K H (is.map V.int) (is.map .int)
  | [] => .nil
  | i :: is => .cons (.int i) (ints_dp is)
section
variable {P : Program} {w : World} {K : PySem.W.Frag} {mg : Str → Option Value} {base : Heap}
def takesD (t : Tm) (ts : List Tm) : Bool := decide (1 ≤ ts.length) && decide (ts[0]?.map enc = some (enc t)) && (ts[ts.length - 1]?.map fun z => (steps z).isEmpty).getD false && links leads ts
theorem takes_down {t : Tm} {ts : List Tm} (h : ts.length ≤ 400) : takesD t ts = downCh t ts := by
  unfold takesD downCh
  rw [show decide (1 ≤ ts.length) = decide (1 ≤ ts.length ∧ ts.length ≤ 400) by rw [decide_eq_decide]; omega]
def spTakesD : Sp := fun vs H Q _ => ∃ t : Tm, ∃ p ts, vs = [S (enc t), .ref p] ∧ H p = some (.tup (Ch ts)) ∧ Fine ts ∧ ts.length ≤ 100000 ∧ Evl.RetV (.bl (takesD t ts)) H Q
theorem ok__law_takes_down (T : Top K mg) : FnOk P w K mg base CX0 6 T._law_takes_down.f T._law_takes_down.fd ["term", "chain"] spTakesD := by
  refine T._law_takes_down.F.ok sc__law_takes_down (fun vs H Q E h => ?_) (fun cdv A outer s H vs Q E hr h => ?_)
  · obtain ⟨t, p, ts, rfl, _⟩ := h
    rfl
  · obtain ⟨t, p, ts, rfl, hp, hf, hl, k⟩ := h
    refine ⟨_, (pss_cons (ps_if (pw_or (pt_cmpR (kk_eq (K := K) rfl hr) (pe_callB (kk_len (K := K) rfl) (by rfl) T.len (by decide +kernel) (pa_cons (pv 1) pa_nil)) pe_int (nomark _)) (pw_or (pt_cmpR (kk_ne (K := K) rfl hr) (pe_ix (kk_ix (K := K) rfl) (pv 1) pe_int (fun _ _ => rfl)) (pv 0) (nomark _)) (pw_or1 (pt_cmpR (kk_ne (K := K) rfl hr) (callO (ok__law_steps T) (hr.mono (by first | decide | omega)) (by rfl) (pa_cons (pe_ix (kk_ix (K := K) rfl) (pv 1) (pe_un un_neg pe_int) (fun _ _ => rfl)) pa_nil)) (pe_lst pa_nil) (nomark _))))).pt (pss_one (ps_ret pe_bl)) pss_nil) (pss_one (ps_ret (pe_cmpR (kk_eq (K := K) rfl hr) (pe_lc (own := [("at", 2)]) (by rfl) sc__law_takes_down.nd (pi_range1 (by rfl) T.range (pa_cons (pe_op op_kSub (pe_callB (kk_len (K := K) rfl) (by rfl) T.len (by decide +kernel) (pa_cons (pv 1) pa_nil)) pe_int) pa_nil)) (blkOk_by (own := [("at", 2)]) (N := sl__law_takes_down) (sc := defScope s__law_takes_down) (by decide +kernel)) (fun _ _ _ _ _ => (pg_name (i := 2) sc__law_takes_down.nd rfl (by first | exact Or.inl rfl | exact Or.inr rfl))) (fun _ _ _ _ _ => (pts_one (pt_not (kk_tru (K := K) rfl (pt_truth (callO (ok__law_leads T) (hr.mono (by first | decide | omega)) (by rfl) (pa_cons (pe_ix (kk_ix (K := K) rfl) (pv 1) (pv 2) (fun _ _ => rfl)) (pa_cons (pe_ix (kk_ix (K := K) rfl) (pv 1) (pe_op (kk_add (K := K) rfl) (pv 2) pe_int) (fun _ _ => rfl)) pa_nil))) (fun _ => rfl)))))) (fun _ _ _ _ _ => (pv 2))) (pe_lst pa_nil) (nomark _))))), ?_⟩
    rw [st__law_takes_down]
    walk_at "go"
    have no : takesD t ts = false → ∀ H', Evl.Ex H H' → Q (.bl false) H' := fun h H' e => by
      have := k H' e
      rw [h] at this
      exact this
    refine lenT (SqT.of hp) ?_
    rw [List.length_map]
    walk_at "go"
    walk_at "br"
    · intro h0
      walk_at "go"
      refine no ?_ _ (Evl.Ex.refl _)
      unfold takesD
      rw [decide_eq_false (by omega)]
      rfl
    · intro h0
      walk_at "go"
      obtain ⟨a, ha⟩ : ∃ a, ts[0]? = some a := ⟨_, List.getElem?_eq_getElem (by omega)⟩
      obtain ⟨z, hz⟩ : ∃ z, ts[ts.length - 1]? = some z := ⟨_, List.getElem?_eq_getElem (by omega)⟩
      refine ixT (SqT.of hp) (at0 (v := S (enc a)) (by rw [List.getElem?_map, ha]; rfl)) ?_
      walk_at "go"
      walk_at "br"
      · intro h3
        walk_at "go"
        refine ixT (SqT.of hp) (at_last (v := S (enc z)) (by rw [List.length_map, List.getElem?_map, hz]; rfl)) ?_
        walk_at "go"
        obtain ⟨z1, z2⟩ := hf z (List.mem_of_getElem? hz)
        have hzl := len_of (t := z) (by omega)
        refine ⟨z, rfl, z1, by omega, fun q H1 ys hq e1 hH1 told => ?_⟩
        walk_at "go"
        refine ⟨Nat.zero_le _, fun q2 hq2 => kNe_D.mpr ⟨.list ((steps z).map stepD), .list [], dp_ex (Evl.Ex.new hq2) (.lst (SqL.of hH1) told.dp), .lst (SqL.of upd_same) .nil, steps_shaped z1 z2, rfl, ?_⟩⟩
        rw [eqv_nil, List.isEmpty_map]
        walk_at "go"
        have e2 := e1.trans (Evl.Ex.new (o := .lst []) hq2)
        generalize upd H1 q2 (.lst []) = H2 at e2 ⊢
        have hp2 := e2 _ _ hp
        cases hst : (steps z).isEmpty with
        | false =>
          walk_at "go"
          refine no ?_ _ e2
          unfold takesD
          rw [hz, Option.map_some, hst]
          simp
        | true =>
          walk_at "go"
          rw [lc_viaR]
          walk_at "go"
          refine lenT (SqT.of hp2) ?_
          rw [List.length_map]
          walk_at "go"
          refine lc_R (n := (ts.length : Int) - 1) (fun Q q => q) (by omega) (fun D i H' => Evl.Ex H2 H' ∧ H' D = some (.lst ((((List.range i).filter fun m => !linkAt leads ts m).map fun (m : Nat) => (m : Int)).map V.int))) (fun D hD => ⟨Evl.Ex.new hD, upd_same⟩) ?_ ?_
          · rintro D i H' hD hi ⟨e, l⟩
            walk_at "go"
            obtain ⟨b, hb⟩ : ∃ b, ts[i]? = some b := ⟨_, List.getElem?_eq_getElem (by omega)⟩
            obtain ⟨c, hc⟩ : ∃ c, ts[i + 1]? = some c := ⟨_, List.getElem?_eq_getElem (by omega)⟩
            obtain ⟨b1, b2⟩ := hf b (List.mem_of_getElem? hb)
            have hib : atI (Ch ts) (i : Int) = some (S (enc b)) := atI_nat (by rw [List.getElem?_map, hb]; rfl)
            have hic : atI (Ch ts) ((i : Int) + 1) = some (S (enc c)) := by
              rw [show (i : Int) + 1 = ((i + 1 : Nat) : Int) by omega]
              exact atI_nat (by rw [List.getElem?_map, hc]; rfl)
            have hw : linkAt leads ts i = leads b c := by
              unfold linkAt
              rw [hb, hc]
            refine ixT (SqT.of (e _ _ hp2)) hib ?_
            refine ixT (SqT.of (e _ _ hp2)) hic ?_
            refine lleads_run b1 b2 fun H4 e4 => ?_
            walk_at "go"
            cases hl1 : leads b c with
            | true =>
              walk_at "go"
              refine ⟨e.trans e4, ?_⟩
              rw [e4 _ _ l, List.range_succ, List.filter_append]
              simp [hw, hl1]
            | false =>
              walk_at "go"
              refine ⟨_, e4 _ _ l, ?_, Evl.Ex.mut (e.trans e4) hD, ?_⟩
              · rw [List.length_map, List.length_map]
                have := line_ge
                have := List.length_filter_le (fun m => !linkAt leads ts m) (List.range i)
                rw [List.length_range] at this
                omega
              · rw [upd_same, List.range_succ, List.filter_append]
                simp [hw, hl1]
          · rintro D H' hD ⟨e, l⟩
            walk_at "go"
            refine ⟨Nat.zero_le _, fun q3 hq3 => kEq_D.mpr ⟨.list (List.map .int _), .list [], .lst (SqL.of (Evl.Ex.new hq3 _ _ l)) (ints_dp _), .lst (SqL.of upd_same) .nil, ints_shaped _, rfl, ?_⟩⟩
            rw [eqv_nil, List.isEmpty_map, List.isEmpty_map]
            have h6 : ((List.range ((ts.length : Int) - 1).toNat).filter fun m => !linkAt leads ts m).isEmpty = takesD t ts := by
              unfold takesD
              rw [decide_eq_true (by omega), ha, hz, decide_eq_true (by rw [Option.map_some, h3]), Option.map_some, hst]
              show _ = (true && true && true && links leads ts)
              unfold links
              rw [show ((ts.length : Int) - 1).toNat = ts.length - 1 by omega, Bool.eq_iff_iff]
              simp
            rw [h6]
            exact k _ ((e2.trans e).trans (Evl.Ex.new hq3))
      · intro h3
        walk_at "go"
        refine no ?_ _ (Evl.Ex.refl _)
        unfold takesD
        rw [ha]
        simp [h3]
end
end LW

end

section
set_option maxHeartbeats 4000000

namespace LW
open PySem PySem.Spec PyProof.Rows L2 KG KT
local macro_rules | `(tactic| walk_at "go") => `(tactic| try simp only [b_St, b_Sf, b_Et, b_Ef, b_At, b_Af, b_Ot, b_Of, b_AVt, b_AVf, b_OVt, b_OVf, b_Ct, b_Cf, g_seq, g_asg, g_name, g_ret, g_retN, g_next, g_brk, g_cont, g_drop, g_ifS, g_if, g_and, g_or, g_not, g_andV, g_orV, g_notV, g_chain, g_test, g_B, g_op, g_un, g_neg, g_var, g_c, g_nil, g_cons, g_CB, g_call, g_par, g_par3, g_aug, g_sl, g_part, g_nopart, g_tup, g_lst, g_gcons, g_gnil, g_BM, g_dnew, g_yes, g_never, g_tupK, g_listK, g_KCall, g_for1, g_tru, k_then, k_0, k_plain, k_if, k_yield, b_Gt, b_Gf, rx_K, kon_K, g_M1, g_dget2, g_isS, g_wipe0, g_wipe1, g_wipe2, g_wipe3, b_Lt, b_Lf,
  kAdd_i, kAdd_s, kMul_i, kMul_s, kInt_i, kInt0_i, kEq_i, kEq_s, kNe_i, kNe_s, kEq_b, kNe_b, kIn_s, kNotIn_s, kLen_s, kIx_s, kSl_s, kAug_i, kAbs_i, kMax_i, kMin_i, kIntOf_i, kIntOf_b, g_sub, isN_S, isN_i, isN_n, isN_r, notN_S, notN_i, notN_n, notN_r, isN_b, notN_b, tru_b, tru_i, tru_n, ex_bl, ex_int, ex_some, par_2, par_3, isi_S kit_ss, cx_K, cx_Kn, Bool.not_true, Bool.not_false,
  List.set_cons_zero, List.set_cons_succ, List.getElem?_cons_zero, List.getElem?_cons_succ, List.map_cons, List.map_nil, List.append_nil, List.length_cons, List.length_nil, Nat.zero_add, dec_one, true_and, decide_true, decide_false])
local macro_rules | `(tactic| walk_at "br") => `(tactic| first | refine br_W ?_ ?_ | refine br_G ?_ ?_ | refine br_L ?_ ?_ | refine br_Ln ?_ ?_ | refine br_Lm ?_ ?_ | refine br_Lb ?_ ?_ | refine br_S ?_ ?_ | refine br_E ?_ ?_ | refine br_A ?_ ?_ | refine br_O ?_ ?_ | refine br_AV ?_ ?_ | refine br_OV ?_ ?_ | refine br_C ?_ ?_ | refine br_Sn ?_ ?_ | refine br_En ?_ ?_ | refine br_An ?_ ?_ | refine br_On ?_ ?_ | refine br_AVn ?_ ?_ | refine br_OVn ?_ ?_ | refine br_Cn ?_ ?_ | refine br_Sm ?_ ?_ | refine br_Em ?_ ?_ | refine br_Am ?_ ?_ | refine br_Om ?_ ?_ | refine br_AVm ?_ ?_ | refine br_OVm ?_ ?_ | refine br_Cm ?_ ?_ | refine br_Sb ?_ ?_ | refine br_Eb ?_ ?_ | refine br_Ab ?_ ?_ | refine br_Ob ?_ ?_ | refine br_AVb ?_ ?_ | refine br_OVb ?_ ?_ | refine br_Cb ?_ ?_)

section
variable {P : Program} {w : World} {K : PySem.W.Frag} {mg : Str → Option Value} {base : Heap}
theorem fx_mut {d D : Addr} {H H' : Hp} {o : HO} (f : Fx d H H') (hD : H D = none) (hd : D ≠ d) : Fx d H (upd H' D o) := by
  refine ⟨fun b u hb q => ?_, ?_⟩
  · have : b ≠ D := fun z => by rw [z, hD] at q; cases q
    rw [upd_ne this]
    exact f.keep b u hb q
  · obtain ⟨x, y, z, h⟩ := f.dc
    exact ⟨x, y, z, by rw [upd_ne hd.symm]; exact h⟩
def spDown : Sp := fun vs H Q _ => ∃ (d : Addr) (t : Tm), vs = [.ref d, S (enc t)] ∧ Dc H d ∧ ok t = true ∧ sz t ≤ 100 ∧
  ∀ p H2 ts, H p = none → Fx d H H2 → H2 p = some (.lst (Ch ts)) → ts ≠ [] → ts.length ≤ 2 * sz t → (∀ x ∈ ts, ok x = true ∧ sz x ≤ sz t) → Q (.ref p) H2
theorem ok__law_down (T : Top K mg) : FnOk P w K mg base CX0 5 T._law_down.f T._law_down.fd ["dice", "term"] spDown := by
  refine T._law_down.F.ok sc__law_down (fun vs H Q E h => ?_) (fun cdv A outer s H vs Q E hr h => ?_)
  · obtain ⟨d, t, rfl, _⟩ := h
    rfl
  · obtain ⟨d, t, rfl, hd, ht, hz, k⟩ := h
    refine ⟨_, (pss_cons (ps_set (i := 2) sc__law_down.nd rfl (by first | exact Or.inl rfl | exact Or.inr rfl) (pe_lst (pa_cons (pv 1) pa_nil))) (pss_cons (ps_for PassesOwn.never (by rfl) (pi_range1 (by rfl) T.range (pa_cons (pe_callB (kk_len (K := K) rfl) (by rfl) T.len (by decide +kernel) (pa_cons (pv 1) pa_nil)) pa_nil)) (pg_name (i := 3) sc__law_down.nd rfl (by first | exact Or.inl rfl | exact Or.inr rfl)) (pss_cons (ps_set (i := 4) sc__law_down.nd rfl (by first | exact Or.inl rfl | exact Or.inr rfl) (callO (ok__law_steps T) (hr.mono (by first | decide | omega)) (by rfl) (pa_cons (pe_ix (kk_ix (K := K) rfl) (pv 2) (pe_un un_neg pe_int) (fun _ _ => rfl)) pa_nil))) (pss_cons (ps_if (pt_cmpR (kk_eq (K := K) rfl hr) (pv 4) (pe_lst pa_nil) (nomark _)) (pss_one ps_break) pss_nil) (pss_one (ps_expr (kk_bm (K := K) rfl (pe_bm PySem.F.plainAttrs_list PySem.F.slot_list_append PySem.F.type_list_append mt_append (pv 2) (pa_cons (pe_ix (kk_ix (K := K) rfl) (callO (ok__law_pick T) (hr.mono (by first | decide | omega)) (by rfl) (pa_cons (pv 0) (pa_cons (pv 4) pa_nil))) pe_int (fun _ _ => rfl)) pa_nil)))))))) (pss_one (ps_ret (pv 2))))), ?_⟩
    rw [st__law_down]
    walk_at "go"
    refine ⟨by decide, fun D hD => ?_⟩
    walk_at "go"
    have hl := len_of (t := t) (by omega)
    have hlen := enc_len t
    have hpos := sz_pos t
    have hDd : D ≠ d := fun z => by
      obtain ⟨x, y, z', h⟩ := hd
      rw [z, h] at hD
      cases hD
    rw [for_viaR]
    walk_at "go"
    refine ⟨by omega, ?_⟩
    refine loop_R (n := (enc t).length) (fun Q q => q) (by omega) (fun i σ' H' => Fx d H H' ∧ ∃ ts, H' D = some (.lst (Ch ts)) ∧ ts ≠ [] ∧ ts.length ≤ i + 1 ∧ (∀ x ∈ ts, ok x = true ∧ sz x ≤ sz t) ∧ ∃ o3 o4 : Option V, σ' = [some (.ref d), some (S (enc t)), some (.ref D), o3, o4]) ⟨fx_mut (Fx.refl hd) hD hDd, [t], upd_same, by simp, by simp, by simp [ht], none, none, rfl⟩ ?_ ?_
    · rintro i σ' H' hi ⟨fx, ts, hts, hne, htl, hall, o3, o4, rfl⟩
      walk_at "go"
      have htp : 0 < ts.length := List.length_pos_iff.mpr hne
      obtain ⟨z, hz1⟩ : ∃ z, ts[ts.length - 1]? = some z := ⟨_, List.getElem?_eq_getElem (by omega)⟩
      obtain ⟨z1, z2⟩ := hall z (List.mem_of_getElem? hz1)
      refine ixL (SqL.of hts) (at_last (v := S (enc z)) (by rw [List.length_map, List.getElem?_map, hz1]; rfl)) ?_
      walk_at "go"
      have hzl := len_of (t := z) (by omega)
      refine ⟨z, rfl, z1, by omega, fun q H1 ys hq e1 hH1 told => ?_⟩
      walk_at "go"
      refine ⟨Nat.zero_le _, fun q2 hq2 => kEq_D.mpr ⟨.list ((steps z).map stepD), .list [], dp_ex (Evl.Ex.new hq2) (.lst (SqL.of hH1) told.dp), .lst (SqL.of upd_same) .nil, steps_shaped z1 (by omega), rfl, ?_⟩⟩
      rw [eqv_nil, List.isEmpty_map]
      walk_at "go"
      have en : Evl.Ex H1 (upd H1 q2 (.lst [])) := Evl.Ex.new hq2
      generalize upd H1 q2 (.lst []) = H2 at en ⊢
      have e2 := e1.trans en
      have fx2 := fx.trans (Fx.of fx.dc e2)
      cases hst : (steps z).isEmpty with
      | true =>
        walk_at "go"
        exact k D H2 ts hD fx2 (e2 _ _ hts) hne (by simp at hi; omega) hall
      | false =>
        walk_at "go"
        refine ⟨tyL (e2 _ _ hts), ?_⟩
        have hyl := told.length
        have hyn : ys ≠ [] := fun h => by
          rw [h] at hyl
          rw [List.isEmpty_eq_false_iff] at hst
          exact hst (List.length_eq_zero_iff.mp hyl.symm)
        have hsl := steps_len z
        have hqd : q ≠ d := fun h => by
          obtain ⟨x, y, z', h'⟩ := fx.dc
          rw [h, h'] at hq
          cases hq
        refine pick_L fx2.dc hqd (SqL.of (en _ _ hH1)) hyn (by omega) fun x H3 hx fx3 => ?_
        obtain ⟨m, hm⟩ := List.mem_iff_getElem?.mp hx
        obtain ⟨⟨j, r, v⟩, hs, a, rfl, ha⟩ := pair_get told hm
        have ha2 : H2 a = some (.tup [.int (j : Nat), .int (r : Nat), S (enc v)]) := en _ _ ha
        have had : a ≠ d := fx2.dc.ne ha2 (fun _ _ _ h => by cases h)
        have ha3 := fx3.keep _ _ had ha2
        obtain ⟨_, _, v1, v2⟩ := steps_ok z1 (List.mem_of_getElem? hs)
        have hD3 : H3 D = some (.lst (Ch ts)) := fx3.keep _ _ hDd (e2 _ _ hts)
        refine ixT (SqT.of ha3) (atI_nat (j := 2) rfl) ?_
        refine rApp hD3 (by rw [List.length_map]; simp at hi; omega) ?_
        refine ⟨fx_mut (fx2.trans fx3) hD hDd, ts ++ [v], by rw [upd_same]; simp [Ch], by simp, by rw [List.length_append]; simp; omega, fun x hx => ?_, _, _, rfl⟩
        rcases List.mem_append.mp hx with hx | hx
        · exact hall x hx
        · have e := List.mem_singleton.mp hx
          subst e
          exact ⟨v1, by omega⟩
    · rintro σ' H' ⟨fx, ts, hts, hne, htl, hall, o3, o4, rfl⟩
      walk_at "go"
      exact k D H' ts hD fx hts hne (by simp at htl; omega) hall
def spNear : Sp := fun vs H Q _ => ∃ (d p : Addr) (ts : List Tm) (l : List Nat), vs = [.ref d, .ref p, S l] ∧ Dc H d ∧ H p = some (.tup (Ch ts)) ∧ ts ≠ [] ∧ ts.length ≤ 300 ∧ (∀ t ∈ ts, ok t = true ∧ sz t ≤ 99) ∧ l ≠ [] ∧ l.length ≤ 1000 ∧ (∀ c ∈ l, isL c = true) ∧
  ∀ q H2 us, Fx d H H2 → H2 q = some (.tup (Ch us)) → Fine us → us.length ≤ ts.length + 2 → Q (.ref q) H2
theorem ok__law_near (T : Top K mg) : FnOk P w K mg base CX0 10 T._law_near.f T._law_near.fd ["dice", "chain", "letters"] spNear := by
  have okG : FnOk P w K mg base CX0 9 T._law_grown_term.f T._law_grown_term.fd ["dice", "letters", "size"] (spGrown 6) := ok__law_grown_term T 6
  refine T._law_near.F.ok sc__law_near (fun vs H Q E h => ?_) (fun cdv A outer s H vs Q E hr h => ?_)
  · obtain ⟨d, p, ts, l, rfl, _⟩ := h
    rfl
  · obtain ⟨d, p, ts, l, rfl, hd, hp, hn, hlen, hf, ln, ll, lL, k⟩ := h
    refine ⟨_, (pss_cons (ps_par (i := 3) (j := 4) (by rfl) sc__law_near.nd rfl rfl (by decide) rfl rfl (pa_cons (callO (ok__law_roll T) (hr.mono (by first | decide | omega)) (by rfl) (pa_cons (pv 0) (pa_cons (pe_callB (kk_len (K := K) rfl) (by rfl) T.len (by decide +kernel) (pa_cons (pv 1) pa_nil)) pa_nil))) (pa_cons (callO (ok__law_roll T) (hr.mono (by first | decide | omega)) (by rfl) (pa_cons (pv 0) (pa_cons pe_int pa_nil))) pa_nil)) rfl) (pss_cons (ps_if (pt_cmpR (kk_eq (K := K) rfl hr) (pv 4) pe_int (nomark _)) (pss_one (ps_ret (pe_op (kk_add (K := K) rfl) (pe_slice (kk_sl (K := K) rfl) (pv 1) po_none (po_some (pv 3))) (pe_slice (kk_sl (K := K) rfl) (pv 1) (po_some (pe_op (kk_add (K := K) rfl) (pv 3) pe_int)) po_none)))) pss_nil) (pss_cons (ps_if (pt_cmpR (kk_eq (K := K) rfl hr) (pv 4) pe_int (nomark _)) (pss_one (ps_ret (pe_op (kk_add (K := K) rfl) (pe_op (kk_add (K := K) rfl) (pe_slice (kk_sl (K := K) rfl) (pv 1) po_none (po_some (pv 3))) (pe_tup (pa_cons (pe_ix (kk_ix (K := K) rfl) (pv 1) (pv 3) (fun _ _ => rfl)) pa_nil))) (pe_slice (kk_sl (K := K) rfl) (pv 1) (po_some (pv 3)) po_none)))) pss_nil) (pss_cons (ps_if (pt_cmpR (kk_eq (K := K) rfl hr) (pv 4) pe_int (nomark _)) (pss_cons (ps_set (i := 5) sc__law_near.nd rfl (by first | exact Or.inl rfl | exact Or.inr rfl) (callO okG (hr.mono (by first | decide | omega)) (by rfl) (pa_cons (pv 0) (pa_cons (pv 2) (pa_cons (pe_op (kk_add (K := K) rfl) pe_int (callO (ok__law_roll T) (hr.mono (by first | decide | omega)) (by rfl) (pa_cons (pv 0) (pa_cons pe_int pa_nil)))) pa_nil))))) (pss_one (ps_ret (pe_op (kk_add (K := K) rfl) (pe_op (kk_add (K := K) rfl) (pe_slice (kk_sl (K := K) rfl) (pv 1) po_none (po_some (pv 3))) (pe_tup (pa_cons (pv 5) pa_nil))) (pe_slice (kk_sl (K := K) rfl) (pv 1) (po_some (pe_op (kk_add (K := K) rfl) (pv 3) pe_int)) po_none))))) pss_nil) (pss_cons (ps_set (i := 6) sc__law_near.nd rfl (by first | exact Or.inl rfl | exact Or.inr rfl) (pe_tup (pa_cons (pe_ix (kk_ix (K := K) rfl) (pv 1) (pv 3) (fun _ _ => rfl)) (pa_cons (callO (ok__law_up T) (hr.mono (by first | decide | omega)) (by rfl) (pa_cons (pv 0) (pa_cons (pe_ix (kk_ix (K := K) rfl) (pv 1) (pv 3) (fun _ _ => rfl)) (pa_cons (pv 2) pa_nil)))) (pa_cons (pe_ix (kk_ix (K := K) rfl) (pv 1) (pv 3) (fun _ _ => rfl)) pa_nil))))) (pss_one (ps_ret (pe_op (kk_add (K := K) rfl) (pe_op (kk_add (K := K) rfl) (pe_slice (kk_sl (K := K) rfl) (pv 1) po_none (po_some (pv 3))) (pv 6)) (pe_slice (kk_sl (K := K) rfl) (pv 1) (po_some (pe_op (kk_add (K := K) rfl) (pv 3) pe_int)) po_none))))))))), ?_⟩
    rw [st__law_near]
    walk_at "go"
    have htp : 0 < ts.length := List.length_pos_iff.mpr hn
    refine lenT (SqT.of hp) ?_
    rw [List.length_map]
    refine roll_run hd (by omega) (by omega) fun r H1 r0 r1 fx1 => ?_
    obtain ⟨i, rfl⟩ : ∃ i : Nat, r = i := ⟨r.toNat, by omega⟩
    refine roll_run fx1.dc (by decide) (by decide) fun r2 H2 q0 q1 fx2 => ?_
    walk_at "go"
    have fx : Fx d H H2 := fx1.trans fx2
    have hpd : p ≠ d := hd.ne hp (fun _ _ _ h => by cases h)
    have hp2 : H2 p = some (.tup (Ch ts)) := fx.keep _ _ hpd hp
    have hi : i < ts.length := by omega
    obtain ⟨c, hc⟩ : ∃ c, ts[i]? = some c := ⟨_, List.getElem?_eq_getElem hi⟩
    obtain ⟨c1, c2⟩ := hf c (List.mem_of_getElem? hc)
    have hic : atI (Ch ts) (i : Int) = some (S (enc c)) := atI_nat (by rw [List.getElem?_map, hc]; rfl)
    have cutA : cutV (Ch ts) none (some (i : Int)) = Ch (ts.take i) := by rw [cutV_hi (by rw [List.length_map]; omega)]; exact List.map_take.symm
    have cutB : cutV (Ch ts) (some (i : Int)) none = Ch (ts.drop i) := by rw [cutV_lo (by rw [List.length_map]; omega)]; exact List.map_drop.symm
    have cutC : cutV (Ch ts) (some ((i : Int) + 1)) none = Ch (ts.drop (i + 1)) := by
      rw [show (i : Int) + 1 = ((i + 1 : Nat) : Int) by omega, cutV_lo (by rw [List.length_map]; omega)]; exact List.map_drop.symm
    have fA : Fine (ts.take i) := fun x hx => by
      obtain ⟨g1, g2⟩ := hf x (List.mem_of_mem_take hx)
      exact ⟨g1, by omega⟩
    have fB : ∀ j, Fine (ts.drop j) := fun j x hx => by
      obtain ⟨g1, g2⟩ := hf x (List.mem_of_mem_drop hx)
      exact ⟨g1, by omega⟩
    have fAB : ∀ us j, Fine us → Fine (ts.take i ++ us ++ ts.drop j) := fun us j h x hx => by
      rcases List.mem_append.mp hx with hx | hx
      · rcases List.mem_append.mp hx with hx | hx
        · exact fA x hx
        · exact h x hx
      · exact fB j x hx
    -- the join of three
    have three : ∀ (m : Addr) (us : List Tm) (G : Hp) (cut : Option Int) (j : Nat), Fx d H G → G m = some (.tup (Ch us)) → us.length ≤ 3 → i ≤ j → us.length + i ≤ j + 2 → Fine us → cutV (Ch ts) cut none = Ch (ts.drop j) → ∀ a1, G a1 = some (.tup (Ch (ts.take i))) →
        kAdd K (.ref a1) (.ref m) G fun z H3 => kSl K (.ref p) cut none H3 fun y H4 => kAdd K z y H4 Q := fun m us G cut j fG hm hu hij huj hF hcut a1 ha1 => by
      refine catT ha1 hm (by simp; omega) fun a2 G2 e2 h2 => ?_
      have f2 := fG.trans (Fx.of fG.dc e2)
      refine cutT (f2.keep _ _ hpd hp) fun a3 G3 e3 h3 => ?_
      rw [hcut] at h3
      have f3 := f2.trans (Fx.of f2.dc e3)
      refine catT (e3 _ _ h2) h3 (by simp; omega) fun a4 G4 e4 h4 => ?_
      refine k a4 G4 (ts.take i ++ us ++ ts.drop j) (f3.trans (Fx.of f3.dc e4)) (by rw [h4]; simp [Ch]) (fAB us j hF) ?_
      simp
      omega
    walk_at "br"
    · intro _
      walk_at "go"
      refine cutT hp2 fun a1 G1 e1 h1 => ?_
      rw [cutA] at h1
      refine cutT (e1 _ _ hp2) fun a2 G2 e2 h2 => ?_
      rw [cutC] at h2
      have f2 := fx.trans (Fx.of fx.dc (e1.trans e2))
      refine catT (e2 _ _ h1) h2 (by simp; omega) fun a3 G3 e3 h3 => ?_
      refine k a3 G3 (ts.take i ++ [] ++ ts.drop (i + 1)) (f2.trans (Fx.of f2.dc e3)) (by rw [h3]; simp [Ch]) (fAB [] _ (fun x hx => by cases hx)) (by simp; omega)
    · intro _
      walk_at "go"
      walk_at "br"
      · intro _
        walk_at "go"
        refine cutT hp2 fun a1 G1 e1 h1 => ?_
        rw [cutA] at h1
        refine ixT (SqT.of (e1 _ _ hp2)) hic ?_
        walk_at "go"
        refine ⟨by decide, fun m hm => ?_⟩
        exact three m [c] _ _ i (fx.trans (Fx.of fx.dc (e1.trans (Evl.Ex.new hm)))) upd_same (by simp) (by omega) (by simp; omega) (fun x hx => by rw [List.mem_singleton.mp hx]; exact ⟨c1, by omega⟩) cutB a1 (Evl.Ex.new hm _ _ h1)
      · intro _
        walk_at "go"
        walk_at "br"
        · intro _
          walk_at "go"
          refine roll_run fx.dc (by decide) (by decide) fun r3 H3 p0 p1 fx3 => ?_
          walk_at "go"
          obtain ⟨n, hn'⟩ : ∃ n : Nat, 1 + r3 = n := ⟨(1 + r3).toNat, by omega⟩
          rw [hn']
          refine ⟨d, l, n, rfl, by omega, by omega, by omega, fx3.dc, ln, ll, lL, fun t' H4 ht' hz' fx4 => ?_⟩
          walk_at "go"
          have fx' := (fx.trans fx3).trans fx4
          have hp4 := fx'.keep _ _ hpd hp
          refine cutT hp4 fun a1 G1 e1 h1 => ?_
          rw [cutA] at h1
          refine ⟨by decide, fun m hm => ?_⟩
          exact three m [t'] _ _ (i + 1) (fx'.trans (Fx.of fx'.dc (e1.trans (Evl.Ex.new hm)))) upd_same (by simp) (by omega) (by simp; omega) (fun x hx => by rw [List.mem_singleton.mp hx]; exact ⟨ht', by omega⟩) cutC a1 (Evl.Ex.new hm _ _ h1)
        · intro _
          walk_at "go"
          refine ixT (SqT.of hp2) hic ?_
          refine ixT (SqT.of hp2) hic ?_
          refine ⟨d, c, l, rfl, fx.dc, c1, by omega, ln, ll, lL, fun t' H4 ht' hz' _ fx4 => ?_⟩
          walk_at "go"
          have fx' := fx.trans fx4
          have hp4 := fx'.keep _ _ hpd hp
          refine ixT (SqT.of hp4) hic ?_
          walk_at "go"
          refine ⟨by decide, fun m hm => ?_⟩
          walk_at "go"
          have em : Evl.Ex H4 (upd H4 m (.tup [S (enc c), S (enc t'), S (enc c)])) := Evl.Ex.new hm
          have hG : (upd H4 m (.tup [S (enc c), S (enc t'), S (enc c)])) m = some (.tup (Ch [c, t', c])) := upd_same
          generalize upd H4 m (.tup [S (enc c), S (enc t'), S (enc c)]) = G at em hG ⊢
          refine cutT (em _ _ hp4) fun a1 G1 e1 h1 => ?_
          rw [cutA] at h1
          walk_at "go"
          refine three m [c, t', c] _ _ (i + 1) (fx'.trans (Fx.of fx'.dc (em.trans e1))) (e1 _ _ hG) (by simp) (by omega) (by simp; omega) (fun x hx => ?_) cutC a1 h1
          simp at hx
          rcases hx with rfl | rfl | rfl
          · exact ⟨c1, by omega⟩
          · exact ⟨ht', by omega⟩
          · exact ⟨c1, by omega⟩
end
end LW

end

section
set_option maxHeartbeats 4000000

namespace LW
open PySem PySem.Spec PyProof.Rows L2 KG KT
local macro_rules | `(tactic| walk_at "go") => `(tactic| try simp only [b_St, b_Sf, b_Et, b_Ef, b_At, b_Af, b_Ot, b_Of, b_AVt, b_AVf, b_OVt, b_OVf, b_Ct, b_Cf, g_seq, g_asg, g_name, g_ret, g_retN, g_next, g_brk, g_cont, g_drop, g_ifS, g_if, g_and, g_or, g_not, g_andV, g_orV, g_notV, g_chain, g_test, g_B, g_op, g_un, g_neg, g_var, g_c, g_nil, g_cons, g_CB, g_call, g_par, g_par3, g_aug, g_sl, g_part, g_nopart, g_tup, g_lst, g_gcons, g_gnil, g_BM, g_dnew, g_yes, g_never, g_tupK, g_listK, g_KCall, g_for1, g_tru, k_then, k_0, k_plain, k_if, k_yield, b_Gt, b_Gf, rx_K, kon_K, g_M1, g_dget2, g_isS, g_wipe0, g_wipe1, g_wipe2, g_wipe3, b_Lt, b_Lf,
  kAdd_i, kAdd_s, kMul_i, kMul_s, kInt_i, kInt0_i, kEq_i, kEq_s, kNe_i, kNe_s, kEq_b, kNe_b, kIn_s, kNotIn_s, kLen_s, kIx_s, kSl_s, kAug_i, kAbs_i, kMax_i, kMin_i, kIntOf_i, kIntOf_b, g_sub, isN_S, isN_i, isN_n, isN_r, notN_S, notN_i, notN_n, notN_r, isN_b, notN_b, tru_b, tru_i, tru_n, ex_bl, ex_int, ex_some, par_2, par_3, isi_S kit_ss, cx_K, cx_Kn, Bool.not_true, Bool.not_false,
  List.set_cons_zero, List.set_cons_succ, List.getElem?_cons_zero, List.getElem?_cons_succ, List.map_cons, List.map_nil, List.append_nil, List.length_cons, List.length_nil, Nat.zero_add, dec_one, true_and, decide_true, decide_false])
local macro_rules | `(tactic| walk_at "br") => `(tactic| first | refine br_W ?_ ?_ | refine br_G ?_ ?_ | refine br_L ?_ ?_ | refine br_Ln ?_ ?_ | refine br_Lm ?_ ?_ | refine br_Lb ?_ ?_ | refine br_S ?_ ?_ | refine br_E ?_ ?_ | refine br_A ?_ ?_ | refine br_O ?_ ?_ | refine br_AV ?_ ?_ | refine br_OV ?_ ?_ | refine br_C ?_ ?_ | refine br_Sn ?_ ?_ | refine br_En ?_ ?_ | refine br_An ?_ ?_ | refine br_On ?_ ?_ | refine br_AVn ?_ ?_ | refine br_OVn ?_ ?_ | refine br_Cn ?_ ?_ | refine br_Sm ?_ ?_ | refine br_Em ?_ ?_ | refine br_Am ?_ ?_ | refine br_Om ?_ ?_ | refine br_AVm ?_ ?_ | refine br_OVm ?_ ?_ | refine br_Cm ?_ ?_ | refine br_Sb ?_ ?_ | refine br_Eb ?_ ?_ | refine br_Ab ?_ ?_ | refine br_Ob ?_ ?_ | refine br_AVb ?_ ?_ | refine br_OVb ?_ ?_ | refine br_Cb ?_ ?_)

/-! ### the form does not move -/
theorem step_nf {t u : Tm} {i r : Nat} (h : (i, r, u) ∈ steps t) : nf u = nf t := by
  obtain ⟨s, f, x, h1, h2, rfl⟩ := steps_mem h
  obtain ⟨_, _, h5, _⟩ := subs_at t i s f h1
  have := subs_form t i s f h1 _ _ (red_form h2)
  rw [← this, h5]
theorem up_nf {t t' : Tm} (h : UpOf t t') : nf t' = nf t := by
  obtain ⟨i, s, x, f, r, h1, rfl, h2⟩ := h
  have := subs_form t i s f h1 _ _ (red_form h2)
  obtain ⟨_, _, h5, _⟩ := subs_at t i s f h1
  rw [this, h5]
theorem mul_sz (x y : Tm) : sz (mul x y) ≤ sz x + sz y := by
  rcases mul_cases x y with ⟨h, _⟩ | ⟨a, b, c, h1, h2, h⟩ | ⟨b, c, h1, h⟩ | ⟨a, b, h1, h⟩
  · rw [h]; exact Nat.le_refl _
  · rw [h, h1]; simp only [sz]; omega
  · rw [h, h1]; simp only [sz]; omega
  · rw [h, h1]; simp only [sz]; omega
theorem nf_sz : ∀ t : Tm, sz (nf t) ≤ sz t
  | .lf _ => Nat.le_refl _
  | .nd a b => by
    have h1 := nf_sz a
    have h2 := nf_sz b
    have h3 := mul_sz (nf a) (nf b)
    show sz (mul (nf a) (nf b)) ≤ sz a + sz b
    omega
theorem small_nf {t t0 : Tm} (h : steps t = []) (e : nf t = nf t0) : sz t ≤ sz t0 := by
  have := nf_id (steps_nil.mp h)
  rw [← this, e]
  exact nf_sz t0
section
variable {P : Program} {w : World} {K : PySem.W.Frag} {mg : Str → Option Value} {base : Heap}
abbrev sl__law_right : List Str := ["dice", "letters", "chain", "turn", "steps", "is_down", "fresh", "one", "other", "some", "third", "first", "second", "pairs", "more", "due", "odd", "value"]
theorem sc__law_right : FnScope sl__law_right ["dice", "letters"] (defScope s__law_right) := ⟨rfl, rfl, rfl, by decide +kernel, rfl, by decide +kernel, by decide +kernel⟩
theorem st__law_right (v0 : V) (v1 : V) : L2.start sl__law_right [v0, v1] = [some v0, some v1, none, none, none, none, none, none, none, none, none, none, none, none, none, none, none, none] := rfl
/-- a row of terms, standing beside the dice -/
def ChA (d q : Addr) (us : List Tm) (G : Hp) : Prop := q ≠ d ∧ G q = some (.tup (Ch us))
theorem ChA.fx {d q : Addr} {us : List Tm} {G G' : Hp} (h : ChA d q us G) (f : Fx d G G') : ChA d q us G' := ⟨h.1, f.keep _ _ h.1 h.2⟩
theorem ChA.of {d q : Addr} {us : List Tm} {G : Hp} (hd : Dc G d) (h : G q = some (.tup (Ch us))) : ChA d q us G := ⟨hd.ne h (fun _ _ _ h => by cases h), h⟩
/-! ### the data of a paper -/
def strsD (us : List Tm) : List PyData := us.map fun t => .str ⟨(enc t).toArray⟩
theorem strs_dp {K : PySem.W.Frag} {H : Hp} : ∀ us : List Tm, DpAll K H (Ch us) (strsD us)
  | [] => .nil
  | _ :: us => .cons (.str _) (strs_dp us)
theorem strs_lay : ∀ {us : List Tm}, (∀ t ∈ us, ok t = true) → PyData.canLayAll0 (strsD us) = true ∧ PyData.depthAll (strsD us) ≤ 0
  | [], _ => ⟨rfl, Nat.le_refl _⟩
  | t :: us, h => by
    obtain ⟨h1, h2⟩ := strs_lay fun x hx => h x (List.mem_cons_of_mem _ hx)
    refine ⟨?_, ?_⟩
    · show (PyData.canLay0 (.str ⟨(enc t).toArray⟩) && PyData.canLayAll0 (strsD us)) = true
      rw [h1, Bool.and_true]
      simp only [PyData.canLay0, PyData.strOk]
      rw [← Array.all_toList, List.all_eq_true]
      intro c hc
      have := enc_codes t (h t (List.mem_cons_self ..)) c (by simpa using hc)
      simp
      omega
    · show max (PyData.depth (.str ⟨(enc t).toArray⟩)) (PyData.depthAll (strsD us)) ≤ 0
      simp only [PyData.depth]
      omega
/-- data that == can look at -/
def LayV (K : PySem.W.Frag) (v : V) (H : Hp) : Prop := ∃ d, Dp K H v d ∧ PyData.canLay0 d = true ∧ PyData.depth d ≤ 5
def LayVs (K : PySem.W.Frag) (vs : List V) (H : Hp) : Prop := ∃ ds, DpAll K H vs ds ∧ PyData.canLayAll0 ds = true ∧ PyData.depthAll ds ≤ 5
theorem layNil {H : Hp} : LayVs K [] H := ⟨[], .nil, rfl, by show 0 ≤ 5; decide⟩
theorem layCons {v : V} {vs : List V} {H : Hp} : LayV K v H → LayVs K vs H → LayVs K (v :: vs) H
  | ⟨d, h1, h2, h3⟩, ⟨ds, g1, g2, g3⟩ => ⟨d :: ds, .cons h1 g1, by show (d.canLay0 && PyData.canLayAll0 ds) = true; rw [h2, g2]; rfl, by show max d.depth (PyData.depthAll ds) ≤ 5; omega⟩
theorem layNon {H : Hp} : LayV K .non H := ⟨_, .non, rfl, by show 0 ≤ 5; decide⟩
theorem layInt {H : Hp} {i : Int} : LayV K (.int i) H := ⟨_, .int i, rfl, by show 0 ≤ 5; decide⟩
theorem layStr {H : Hp} {l : List Nat} (h : (l.all fun c => decide (c < 128)) = true) : LayV K (S l) H := by
  refine ⟨_, .str _, ?_, by show 0 ≤ 5; decide⟩
  simp only [PyData.canLay0, PyData.strOk]
  rw [← Array.all_toList, List.all_eq_true]
  intro c hc
  have := of_decide_eq_true (List.all_eq_true.mp h c (by simpa using hc))
  simp
  omega
theorem layEnc {H : Hp} {t : Tm} (h : ok t = true) : LayV K (S (enc t)) H := by
  refine ⟨_, .str _, ?_, by show 0 ≤ 5; decide⟩
  simp only [PyData.canLay0, PyData.strOk]
  rw [← Array.all_toList, List.all_eq_true]
  intro c hc
  have := enc_codes t h c (by simpa using hc)
  simp
  omega
theorem layCh {H : Hp} {q : Addr} {us : List Tm} (h : H q = some (.tup (Ch us))) (hf : ∀ t ∈ us, ok t = true) : LayV K (.ref q) H := by
  obtain ⟨h1, h2⟩ := strs_lay hf
  exact ⟨.tuple (strsD us), .tup (SqT.of h) (strs_dp us), h1, by show PyData.depthAll _ + 1 ≤ 5; omega⟩
theorem layChL {H : Hp} {q : Addr} {us : List Tm} (h : H q = some (.lst (Ch us))) (hf : ∀ t ∈ us, ok t = true) : LayV K (.ref q) H := by
  obtain ⟨h1, h2⟩ := strs_lay hf
  exact ⟨.list (strsD us), .lst (SqL.of h) (strs_dp us), h1, by show PyData.depthAll _ + 1 ≤ 5; omega⟩
theorem dat_of {H : Hp} {p : Addr} {x : V} {xs : List V} (hp : H p = some (.tup (x :: xs))) : LayVs K (x :: xs) H → Dat K (.ref p) H
  | ⟨ds, h1, h2, h3⟩ => by
    cases h1 with
    | @cons _ _ d ds h g =>
      refine ⟨d, ds, .tup (SqT.of hp) (.cons h g), ?_⟩
      unfold SeqAt.shaped
      rw [Bool.and_eq_true_iff]
      refine ⟨h2, decide_eq_true ?_⟩
      show PyData.depthAll (d :: ds) + 1 ≤ 64
      omega
abbrev Mid (t : Tm) : Prop := ok t = true ∧ sz t ≤ 200
theorem eq_run {H : Hp} {Q : VK} {E : XK} {p q : Addr} {t u : Tm} {ts : List Tm} (ht : Mid t) (hu : Mid u) (hp : H p = some (.tup [S EQUAL, .ref q])) (hq : H q = some (.tup (Ch ts))) (hf : Fine ts) (hl : ts.length ≤ 100000)
    (k : Evl.RetV (.bl (eqCh t u ts)) H Q) : spPaper K [S (enc t), S (enc u), .ref p] H Q E :=
  ⟨t, u, _, rfl, ht.1, ht.2, hu.1, hu.2, .inr (.inr ⟨p, _, rfl, hp, dat_of hp (layCons (layStr (by decide)) (layCons (layCh hq fun x hx => (hf x hx).1) layNil)), .inr (.inl ⟨.ref q, rfl, .inl ⟨ts, ⟨q, rfl, hq, hf, hl⟩, k⟩⟩)⟩)⟩
theorem uneq_run {H : Hp} {Q : VK} {E : XK} {p q q2 : Addr} {t u : Tm} {ts us : List Tm} (ht : Mid t) (hu : Mid u) (hp : H p = some (.tup [S UNEQUAL, .ref q, .ref q2])) (hq : H q = some (.tup (Ch ts))) (hf : Fine ts) (hl : ts.length ≤ 100000)
    (hq2 : H q2 = some (.tup (Ch us))) (hf2 : Fine us) (hl2 : us.length ≤ 100000) (k : Evl.RetV (.bl (uneq t u ts us)) H Q) : spPaper K [S (enc t), S (enc u), .ref p] H Q E :=
  ⟨t, u, _, rfl, ht.1, ht.2, hu.1, hu.2, .inr (.inr ⟨p, _, rfl, hp, dat_of hp (layCons (layStr (by decide)) (layCons (layCh hq fun x hx => (hf x hx).1) (layCons (layCh hq2 fun x hx => (hf2 x hx).1) layNil))),
    .inr (.inr (.inl ⟨.ref q, .ref q2, rfl, ts, ⟨q, rfl, hq, hf, hl⟩, .inl ⟨us, ⟨q2, rfl, hq2, hf2, hl2⟩, k⟩⟩))⟩)⟩
theorem near_run {H : Hp} {Q : VK} {E : XK} {d q : Addr} {ts : List Tm} {l : List Nat} (hd : Dc H d) (hq : ChA d q ts H) (hn : ts ≠ []) (hlen : ts.length ≤ 300) (hall : ∀ t ∈ ts, ok t = true ∧ sz t ≤ 99) (ln : l ≠ []) (ll : l.length ≤ 1000) (lL : ∀ c ∈ l, isL c = true)
    (k : ∀ p H2 us, Fx d H H2 → ChA d p us H2 → Fine us → us.length ≤ 302 → Q (.ref p) H2) : spNear [.ref d, .ref q, S l] H Q E :=
  ⟨d, q, ts, l, rfl, hd, hq.2, hn, hlen, hall, ln, ll, lL, fun p H2 us f h1 h2 h3 => k p H2 us f (ChA.of f.dc h1) h2 (by omega)⟩
theorem SqL.fx {K : PySem.W.Frag} {H H' : Hp} {a d : Addr} {xs : List V} (h : H a = some (.lst xs)) (ha : a ≠ d) (f : Fx d H H') : SqL K H' a xs := SqL.of (f.keep _ _ ha h)
theorem not_dice {H : Hp} {d p : Addr} (hd : Dc H d) (hp : H p = none) : p ≠ d := fun h => by
  obtain ⟨x, y, z', h'⟩ := hd
  rw [h, h'] at hp
  cases hp
/-- a chain for the judge -/
def Row (d : Addr) (v : V) (G : Hp) : Prop := ∃ q us, v = .ref q ∧ ChA d q us G ∧ Fine us ∧ us.length ≤ 302
theorem Row.fx {d : Addr} {v : V} {G G' : Hp} (f : Fx d G G') : Row d v G → Row d v G'
  | ⟨q, us, h1, h2, h3⟩ => ⟨q, us, h1, h2.fx f, h3⟩
theorem ChA.set {d q L : Addr} {us : List Tm} {G : Hp} {xs : List V} {o : HO} (h : ChA d q us G) (hL : G L = some (.lst xs)) : ChA d q us (upd G L o) := by
  refine ⟨h.1, ?_⟩
  have : q ≠ L := fun z => by
    have := h.2
    rw [z, hL] at this
    cases this
  rw [upd_ne this]
  exact h.2
/-- two chains for the judge -/
def PRow (d : Addr) (v : V) (G : Hp) : Prop := ∃ a q1 q2 us ws, v = .ref a ∧ a ≠ d ∧ G a = some (.tup [.ref q1, .ref q2]) ∧ ChA d q1 us G ∧ Fine us ∧ us.length ≤ 302 ∧ ChA d q2 ws G ∧ Fine ws ∧ ws.length ≤ 302
theorem PRow.fx {d : Addr} {v : V} {G G' : Hp} (f : Fx d G G') : PRow d v G → PRow d v G'
  | ⟨a, q1, q2, us, ws, h1, h2, h3, h4, h5, h6, h7, h8⟩ => ⟨a, q1, q2, us, ws, h1, h2, f.keep _ _ h2 h3, h4.fx f, h5, h6, h7.fx f, h8⟩
theorem PRow.set {d L : Addr} {v : V} {G : Hp} {xs : List V} {o : HO} (hL : G L = some (.lst xs)) : PRow d v G → PRow d v (upd G L o)
  | ⟨a, q1, q2, us, ws, h1, h2, h3, h4, h5, h6, h7, h8⟩ => by
    refine ⟨a, q1, q2, us, ws, h1, h2, ?_, h4.set hL, h5, h6, h7.set hL, h8⟩
    rw [upd_ne (fun z => by rw [z, hL] at h3; cases h3)]
    exact h3
theorem PRow.new {d p q1 q2 : Addr} {us ws : List Tm} {G : Hp} (hd : Dc G d) (hp : G p = none) (h1 : ChA d q1 us G) (f1 : Fine us) (l1 : us.length ≤ 302) (h2 : ChA d q2 ws G) (f2 : Fine ws) (l2 : ws.length ≤ 302) : PRow d (.ref p) (upd G p (.tup [.ref q1, .ref q2])) :=
  ⟨p, q1, q2, us, ws, rfl, not_dice hd hp, upd_same, h1.fx (Fx.of hd (Evl.Ex.new hp)), f1, l1, h2.fx (Fx.of hd (Evl.Ex.new hp)), f2, l2⟩
theorem judge_run {H : Hp} {q q2 : Addr} {t u : Tm} {ts us : List Tm} {b : Bool} {Qf : VK} (ht : Mid t) (hu : Mid u) (hq : H q = some (.tup (Ch ts))) (hf : Fine ts) (hl : ts.length ≤ 100000)
    (hq2 : H q2 = some (.tup (Ch us))) (hf2 : Fine us) (hl2 : us.length ≤ 100000) (hb : b = uneq t u ts us) (k : ∀ G, Evl.Ex H G → Qf (.bl false) G) :
    1 + 1 + 1 ≤ sizeLine ∧ ∀ p, H p = none → spPaper K [S (enc t), S (enc u), .ref p] (upd H p (.tup [S [117, 110, 101, 113, 117, 97, 108], .ref q, .ref q2])) (fun x H1 => rRepr K [x] H1 fun x H1 => rRepr K [.bl b] H1 fun y H2 => kNe K x y H2 Qf) E0 := by
  refine ⟨by decide, fun p hp => ?_⟩
  have e : Evl.Ex H (upd H p (.tup [S UNEQUAL, .ref q, .ref q2])) := Evl.Ex.new hp
  refine uneq_run ht hu upd_same (e _ _ hq) hf hl (e _ _ hq2) hf2 hl2 fun G1 e1 => ?_
  refine show_b ?_
  rw [hb]
  refine show_b ?_
  exact kNe_same.mpr (k G1 (e.trans e1))
/-! ### values that are no papers -/
def OddV (K : PySem.W.Frag) (t u : Tm) (v : V) (G : Hp) : Prop := ∀ G', Evl.Ex G G' → ∀ (Q : VK) (E : XK), Evl.RetV (.bl false) G' Q → spPaper K [S (enc t), S (enc u), v] G' Q E
theorem OddV.ex {t u : Tm} {v : V} {G G' : Hp} (h : OddV K t u v G) (e : Evl.Ex G G') : OddV K t u v G' := fun G2 e2 => h G2 (e.trans e2)
theorem LayV.ex {v : V} {G G' : Hp} (e : Evl.Ex G G') : LayV K v G → LayV K v G'
  | ⟨d, h1, h2, h3⟩ => ⟨d, dp_ex e h1, h2, h3⟩
theorem LayVs.ex {vs : List V} {G G' : Hp} (e : Evl.Ex G G') : LayVs K vs G → LayVs K vs G'
  | ⟨d, h1, h2, h3⟩ => ⟨d, dp_ex.all e h1, h2, h3⟩
section
variable {t u : Tm} (ht : Mid t) (hu : Mid u)
include ht hu
theorem odd_kind {v : V} {G : Hp} {m : String} (h1 : kindV K v G = some m) (h2 : kitB m "tuple" = some false) : OddV K t u v G := fun G' e Q E k =>
  ⟨t, u, v, rfl, ht.1, ht.2, hu.1, hu.2, .inl ⟨⟨m, kind_ex e h1, h2⟩, k _ (Evl.Ex.refl _)⟩⟩
theorem odd_nil {p : Addr} {G : Hp} (h : G p = some (.tup [])) : OddV K t u (.ref p) G := fun G' e Q E k =>
  ⟨t, u, _, rfl, ht.1, ht.2, hu.1, hu.2, .inr (.inl ⟨p, rfl, e _ _ h, k⟩)⟩
theorem odd_word {p : Addr} {wd : List Nat} {r : List V} {G : Hp} (h : G p = some (.tup (S wd :: r))) (l : LayVs K (S wd :: r) G) (h1 : r.length ≤ 10) (h2 : ¬ (wd = EQUAL ∧ r.length = 1)) (h3 : ¬ (wd = UNEQUAL ∧ r.length = 2)) : OddV K t u (.ref p) G := fun G' e Q E k =>
  ⟨t, u, _, rfl, ht.1, ht.2, hu.1, hu.2, .inr (.inr ⟨p, _, rfl, e _ _ h, dat_of (e _ _ h) (l.ex e), .inr (.inr (.inr ⟨wd, r, rfl, h1, h2, h3, k⟩))⟩)⟩
theorem odd_first {p : Addr} {x : V} {r : List V} {G : Hp} {m : String} (h : G p = some (.tup (x :: r))) (l : LayVs K (x :: r) G) (h1 : kindV K x G = some m) (h2 : kitB m "str" = some false) : OddV K t u (.ref p) G := fun G' e Q E k =>
  ⟨t, u, _, rfl, ht.1, ht.2, hu.1, hu.2, .inr (.inr ⟨p, _, rfl, e _ _ h, dat_of (e _ _ h) (l.ex e), .inl ⟨x, r, m, rfl, kind_ex e h1, h2, k⟩⟩)⟩
theorem odd_equal {p : Addr} {y : V} {G : Hp} {m : String} (h : G p = some (.tup [S EQUAL, y])) (l : LayVs K [S EQUAL, y] G) (h1 : kindV K y G = some m) (h2 : kitB m "tuple" = some false) : OddV K t u (.ref p) G := fun G' e Q E k =>
  ⟨t, u, _, rfl, ht.1, ht.2, hu.1, hu.2, .inr (.inr ⟨p, _, rfl, e _ _ h, dat_of (e _ _ h) (l.ex e), .inr (.inl ⟨y, rfl, .inr ⟨⟨m, kind_ex e h1, h2⟩, k⟩⟩)⟩)⟩
theorem odd_equal0 {p q : Addr} {G : Hp} (h : G p = some (.tup [S EQUAL, .ref q])) (hq : G q = some (.tup [])) : OddV K t u (.ref p) G := fun G' e Q E k => by
  refine eq_run (ts := []) ht hu (e _ _ h) (e _ _ hq) (fun x hx => by cases hx) (by simp) ?_
  have : eqCh t u [] = false := by simp [eqCh]
  rw [this]
  exact k
theorem odd_unequal {p q : Addr} {us : List Tm} {G : Hp} (h : G p = some (.tup [S UNEQUAL, .ref q, .non])) (hq : G q = some (.tup (Ch us))) (hf : Fine us) (hl : us.length ≤ 100000) : OddV K t u (.ref p) G := fun G' e Q E k =>
  ⟨t, u, _, rfl, ht.1, ht.2, hu.1, hu.2, .inr (.inr ⟨p, _, rfl, e _ _ h, dat_of (e _ _ h) (layCons (layStr (by decide)) (layCons (layCh (e _ _ hq) fun x hx => (hf x hx).1) (layCons layNon layNil))),
    .inr (.inr (.inl ⟨.ref q, .non, rfl, us, ⟨q, rfl, e _ _ hq, hf, hl⟩, .inr ⟨⟨"NoneType", rfl, by decide +kernel⟩, k⟩⟩))⟩)⟩
end
theorem kind_r {p : Addr} {G : Hp} {o : HO} (h : G p = some o) : kindV K (.ref p) G = (match (some o : Option HO) with | some (.lst _) => some "list" | some (.tup _) => some "tuple" | some (.dK _) => some "dict" | _ => none) := by
  show (match G p with | some (.lst _) => some "list" | some (.tup _) => some "tuple" | some (.dK _) => some "dict" | _ => none) = _
  rw [h]
def spRight : Sp := fun vs H Q _ => ∃ (d : Addr) (l : List Nat), vs = [.ref d, S l] ∧ Dc H d ∧ l ≠ [] ∧ l.length ≤ 1000 ∧ (∀ c ∈ l, isL c = true) ∧ ∀ H2, Fx d H H2 → Q (.bl true) H2
theorem pss_given {X : Cx} {rest : List Stmt} {R : TS} (h : ∃ u, PSs X rest u ∧ ∀ D σ H, R D σ H → u D σ H) : PSs X rest R := by
  obtain ⟨u, hu, q⟩ := h
  exact ⟨fun pins s σ H D I w => hu.run pins s σ H D I (q D σ H w)⟩
/-! ### displays, step by step -/
def EvArgs (as : TA) (σ : L2.St) (vs : List V) : Prop := ∀ (H : Hp) (Qs : List V → Hp → Prop), Qs vs H → as σ H Qs
section
variable {as tas : TA} {σ : L2.St} {H : Hp} {Q : VK} {Qs : List V → Hp → Prop} {vs xs : List V} {v : V} {i : Nat} {te ta tb : TE} {r : R2} {D : Ends} {g : TG}
theorem ea_nil : EvArgs tNil σ [] := fun _ _ q => q
theorem ea_c (h : EvArgs as σ vs) : EvArgs (tCons (tC v) as) σ (v :: vs) := fun H Qs q => h H _ q
theorem ea_v (hi : σ[i]? = some (some v)) (h : EvArgs as σ vs) : EvArgs (tCons (tVar i) as) σ (v :: vs) := fun H Qs q => ⟨v, hi, h H _ q⟩
theorem go_asg (h : te σ H fun x H1 => g x σ H1 D.nx) : tAsg te g D σ H := h
theorem go_ret (h : te σ H D.rt) : tRet te D σ H := h
theorem go_op (h : ta σ H fun x H1 => tb σ H1 fun y H2 => r x y H2 Q) : tOp r ta tb σ H Q := h
theorem go_v (hi : σ[i]? = some (some v)) (q : Q v H) : tVar i σ H Q := ⟨v, hi, q⟩
theorem go_lst (h : as σ H fun xs H1 => xs.length ≤ sizeLine ∧ ∀ p, H1 p = none → Q (.ref p) (upd H1 p (.lst xs))) : tLst as σ H Q := h
theorem end_new {p : Addr} {o : HO} {R : Hp → Prop} (n : H p = none) (k : ∀ H1, Evl.Ex H H1 → H1 p = some o → R H1) : R (upd H p o) := k _ (Evl.Ex.new n) upd_same
theorem catNew {K : PySem.W.Frag} {a p : Addr} {xs ys : List V} (hx : H a = some (.lst xs)) (n : H p = none) (hz : xs.length + ys.length ≤ 1000000) (k : ∀ q H2, Evl.Ex H H2 → H2 q = some (.lst (xs ++ ys)) → Q (.ref q) H2) : kAdd K (.ref a) (.ref p) (upd H p (.lst ys)) Q :=
  catL (Evl.Ex.new n _ _ hx) upd_same hz fun q hq => k q _ ((Evl.Ex.new n).trans (Evl.Ex.new hq)) upd_same
theorem co_nil (h : Qs [] H) : tNil σ H Qs := h
theorem co_c (h : as σ H fun ys H2 => Qs (v :: ys) H2) : tCons (tC v) as σ H Qs := h
theorem co_tup (ha : EvArgs tas σ xs) (hl : xs.length ≤ sizeLine) (k : ∀ p H1, Evl.Ex H H1 → H1 p = some (.tup xs) → as σ H1 fun ys H2 => Qs (.ref p :: ys) H2) : tCons (tTup tas) as σ H Qs :=
  ha H (fun xs H1 => xs.length ≤ sizeLine ∧ ∀ p, H1 p = none → as σ (upd H1 p (.tup xs)) fun ys H2 => Qs (.ref p :: ys) H2) ⟨hl, fun p hp => k p _ (Evl.Ex.new hp) upd_same⟩
theorem co_lst (ha : EvArgs tas σ xs) (hl : xs.length ≤ sizeLine) (k : ∀ p H1, Evl.Ex H H1 → H1 p = some (.lst xs) → as σ H1 fun ys H2 => Qs (.ref p :: ys) H2) : tCons (tLst tas) as σ H Qs :=
  ha H (fun xs H1 => xs.length ≤ sizeLine ∧ ∀ p, H1 p = none → as σ (upd H1 p (.lst xs)) fun ys H2 => Qs (.ref p :: ys) H2) ⟨hl, fun p hp => k p _ (Evl.Ex.new hp) upd_same⟩
theorem co_dic (k : ∀ p H1, Evl.Ex H H1 → H1 p = some (.dK []) → as σ H1 fun ys H2 => Qs (.ref p :: ys) H2) : tCons tDNewK as σ H Qs := fun p hp => k p _ (Evl.Ex.new hp) upd_same
/-- a word and a new value of its own -/
theorem co_tupN {b : TA} {o : HO} {te : TE} {w : V} (hte : ∀ Q : VK, (∀ p H1, Evl.Ex H H1 → H1 p = some o → Q (.ref p) H1) → te σ H Q) (k : ∀ p q H1, Evl.Ex H H1 → H1 p = some o → H1 q = some (.tup [w, .ref p]) → as σ H1 fun ys H2 => Qs (.ref q :: ys) H2) :
    tCons (tTup (tCons (tC w) (tCons te tNil))) as σ H Qs :=
  hte _ fun p H1 e h => ⟨by show 2 ≤ sizeLine; exact line_of (by omega), fun q hq => k p q _ (e.trans (Evl.Ex.new hq)) (Evl.Ex.new hq _ _ h) upd_same⟩
end
/-- what stands ahead of the values that are no papers -/
def R9 : TS := fun D σ H => ∃ (d : Addr) (l : List Nat) (q p9 p11 Lp : Addr) (ts u8 : List Tm) (t1 t2 t3 : Tm) (o3 o4 o5 o6 o9 o14 o15 : Option V),
  σ = [some (.ref d), some (S l), some (.ref q), o3, o4, o5, o6, some (S (enc t1)), some (S (enc t2)), o9, some (S (enc t3)), some (.ref p9), some (.ref p11), some (.ref Lp), o14, o15, none, none] ∧
  H q = some (.tup (Ch ts)) ∧ Fine ts ∧ ts.length ≤ 302 ∧ H p9 = some (.tup (Ch u8)) ∧ Fine u8 ∧ u8.length ≤ 302 ∧ Mid t1 ∧ Mid t2 ∧ ∀ G, Evl.Ex H G → D.rt (.bl true) G
theorem right9 (T : Top K mg) {cdv : Value} {A : Around} {outer : List Env} {s : Shared} {H : Hp} {E : XK} (hr : Room 23 (A.deeper (envOfC "_law_right" (defScope s__law_right) s.heap.objs.size T._law_right.f cdv))) (ns : NoShow A) :
    ∃ t, PSs (cxOf CX0 P w K mg base sl__law_right "_law_right" (defScope s__law_right) T._law_right.f cdv A outer s H E).nox ((defBody s__law_right).drop 9) t ∧ ∀ D σ H, R9 D σ H → t D σ H := by
  refine ⟨_, (Evl.pss_cut (ps_set (i := 16) sc__law_right.nd rfl (by first | exact Or.inl rfl | exact Or.inr rfl) (pe_lst (pa_cons pe_non (pa_cons pe_int (pa_cons (pe_tup pa_nil) (pa_cons (pe_tup (pa_cons (pe_S [101, 113, 117, 97, 108] (by decide)) pa_nil)) (pa_cons (pe_lst (pa_cons (pe_S [101, 113, 117, 97, 108] (by decide)) (pa_cons (pv 2) pa_nil))) (pa_cons (pe_tup (pa_cons (pe_S [101, 113, 117, 97, 108] (by decide)) (pa_cons (pe_callTy (kk_listOf (K := K) rfl) (by rfl) T.list (by decide +kernel) (pa_cons (pv 2) pa_nil)) pa_nil))) (pa_cons (pe_tup (pa_cons (pe_S [69, 113, 117, 97, 108] (by decide)) (pa_cons (pv 2) pa_nil))) (pa_cons pe_dnewK (pa_cons (pe_S [101, 113, 117, 97, 108] (by decide)) pa_nil))))))))))) (Evl.pss_cut (ps_set (i := 16) sc__law_right.nd rfl (by first | exact Or.inl rfl | exact Or.inr rfl) (pe_op (kk_add (K := K) rfl) (pv 16) (pe_lst (pa_cons (pe_tup (pa_cons (pe_S [117, 110, 101, 113, 117, 97, 108] (by decide)) (pa_cons (pv 11) pa_nil))) (pa_cons (pe_tup (pa_cons (pe_S [117, 110, 101, 113, 117, 97, 108] (by decide)) (pa_cons (pv 11) (pa_cons pe_non pa_nil)))) (pa_cons (pe_tup (pa_cons (pe_S [101, 113, 117, 97, 108] (by decide)) (pa_cons pe_non pa_nil))) (pa_cons (pe_tup (pa_cons (pe_S [101, 113, 117, 97, 108] (by decide)) (pa_cons (pe_tup pa_nil) pa_nil))) (pa_cons (pe_tup (pa_cons pe_int (pa_cons (pv 2) pa_nil))) pa_nil)))))))) (Evl.pss_cut (ps_set (i := 16) sc__law_right.nd rfl (by first | exact Or.inl rfl | exact Or.inr rfl) (pe_op (kk_add (K := K) rfl) (pv 16) (pe_lst (pa_cons (pe_tup (pa_cons (pe_S [101, 113, 117, 97, 108] (by decide)) (pa_cons (pv 7) pa_nil))) (pa_cons (pe_tup (pa_cons (pe_S [101, 113, 117, 97, 108] (by decide)) (pa_cons (pv 2) (pa_cons (pv 2) pa_nil)))) pa_nil))))) (pss_one (ps_ret (pe_cmpR (kk_eq (K := K) rfl hr) (pe_lc (own := [("value", 17)]) (by rfl) sc__law_right.nd (kk_pi (K := K) rfl (pv 16)) (blkOk_by (own := [("value", 17)]) (N := sl__law_right) (sc := defScope s__law_right) (by decide +kernel)) (fun _ _ _ _ _ => (pg_name (i := 17) sc__law_right.nd rfl (by first | exact Or.inl rfl | exact Or.inr rfl))) (fun _ _ _ _ _ => (pts_one (pt_cmpR op_kNotN (callO (ok_is_equality_paper T) (hr.mono (by first | decide | omega)) (by rfl) (pa_cons (pv 7) (pa_cons (pv 8) (pa_cons (pv 17) pa_nil)))) pe_bl (nomark _)))) (fun _ _ _ _ _ => (pv 17))) (pe_lst pa_nil) (nomark _))))))), ?_⟩
  rintro D σ G' ⟨d, l, q, p9, p11, Lp, ts, u8, t1, t2, t3, o3, o4, o5, o6, o9, o14, o15, rfl, cG, hfine, hl302, c9G, hF8, hl8, m1, m2, k⟩
  obtain ⟨M9, hM9⟩ : ∃ M : L2.St → Hp → Prop, M = fun σ' Gx => Evl.Ex G' Gx ∧ ∃ L xs, σ' = [some (.ref d), some (S l), some (.ref q), o3, o4, o5, o6, some (S (enc t1)), some (S (enc t2)), o9, some (S (enc t3)), some (.ref p9), some (.ref p11), some (.ref Lp), o14, o15, some (.ref L), none] ∧ Gx L = some (.lst xs) ∧ xs.length ≤ 100 ∧ ∀ v ∈ xs, OddV K t1 t2 v Gx := ⟨_, rfl⟩
  refine Evl.q_cut (M := M9) ?_ ?_
  · refine go_asg (go_lst (co_c (co_c ?_)))
    refine co_tup ea_nil (Nat.zero_le _) fun a1 H1 e1 h1 => ?_
    refine co_tup (ea_c ea_nil) (line_of (by simp)) fun a2 H2 e2 h2 => ?_
    refine co_lst (ea_c (ea_v (v := .ref q) rfl ea_nil)) (line_of (by simp)) fun a3 H3 e3 h3 => ?_
    refine co_tupN (b := tNil) (o := .lst (Ch ts)) (fun Qa ka => ?_) fun a4 a5 H4 e4 h4 h5 => ?_
    · exact ⟨_, rfl, listOfT (SqT.of ((((e1.trans e2).trans e3)) _ _ cG)) fun p hp => ka p _ (Evl.Ex.new hp) upd_same⟩
    refine co_tup (ea_c (ea_v (v := .ref q) rfl ea_nil)) (line_of (by simp)) fun a6 H5 e5 h6 => ?_
    refine co_dic fun a7 H6 e6 h7 => ?_
    refine co_c (co_nil ⟨line_of (by simp), fun a8 n8 => end_new n8 fun H7 e7 h8 => ?_⟩)
    show M9 _ _
    rw [hM9]
    refine ⟨(((((e1.trans e2).trans e3).trans e4).trans e5).trans e6).trans e7, a8, _, rfl, h8, by simp, fun v hv => ?_⟩
    have cG5 := ((((e1.trans e2).trans e3).trans e4).trans e5) _ _ cG
    simp only [List.mem_cons, List.not_mem_nil, or_false] at hv
    rcases hv with rfl | rfl | rfl | rfl | rfl | rfl | rfl | rfl | rfl
    · exact odd_kind (m := "NoneType") m1 m2 rfl (by decide +kernel)
    · exact odd_kind (m := "int") m1 m2 rfl (by decide +kernel)
    · exact (odd_nil m1 m2 h1).ex (((((e2.trans e3).trans e4).trans e5).trans e6).trans e7)
    · exact (odd_word m1 m2 h2 (layCons (layStr (by decide)) layNil) (by decide) (by decide) (by decide)).ex ((((e3.trans e4).trans e5).trans e6).trans e7)
    · exact (odd_kind (m := "list") m1 m2 (kind_r h3) (by decide +kernel)).ex (((e4.trans e5).trans e6).trans e7)
    · exact (odd_equal (m := "list") m1 m2 h5 (layCons (layStr (by decide)) (layCons (layChL h4 fun x hx => (hfine x hx).1) layNil)) (kind_r h4) (by decide +kernel)).ex ((e5.trans e6).trans e7)
    · exact (odd_word m1 m2 h6 (layCons (layStr (by decide)) (layCons (layCh cG5 fun x hx => (hfine x hx).1) layNil)) (by simp) (fun h => absurd h.1 (by decide)) (fun h => absurd h.1 (by decide))).ex (e6.trans e7)
    · exact (odd_kind (m := "dict") m1 m2 (kind_r h7) (by decide +kernel)).ex e7
    · exact odd_kind (m := "str") m1 m2 rfl (by decide +kernel)
  · rw [hM9]
    rintro σ' G9 ⟨e9, L9, xs9, rfl, hL9, hl9, odd9⟩
    obtain ⟨M10, hM10⟩ : ∃ M : L2.St → Hp → Prop, M = fun σ' Gx => Evl.Ex G' Gx ∧ ∃ L xs, σ' = [some (.ref d), some (S l), some (.ref q), o3, o4, o5, o6, some (S (enc t1)), some (S (enc t2)), o9, some (S (enc t3)), some (.ref p9), some (.ref p11), some (.ref Lp), o14, o15, some (.ref L), none] ∧ Gx L = some (.lst xs) ∧ xs.length ≤ 200 ∧ ∀ v ∈ xs, OddV K t1 t2 v Gx := ⟨_, rfl⟩
    refine Evl.q_cut (M := M10) ?_ ?_
    · have cG9 := e9 _ _ cG
      have c99 := e9 _ _ c9G
      refine go_asg (go_op (go_v (v := .ref L9) rfl (go_lst ?_)))
      refine co_tup (ea_c (ea_v (v := .ref p9) rfl ea_nil)) (line_of (by simp)) fun a1 H1 e1 h1 => ?_
      refine co_tup (ea_c (ea_v (v := .ref p9) rfl (ea_c ea_nil))) (line_of (by simp)) fun a2 H2 e2 h2 => ?_
      refine co_tup (ea_c (ea_c ea_nil)) (line_of (by simp)) fun a3 H3 e3 h3 => ?_
      refine co_tupN (b := tNil) (o := .tup []) (fun Qa ka => ⟨Nat.zero_le _, fun p hp => ka p _ (Evl.Ex.new hp) upd_same⟩) fun a4 a5 H4 e4 h4 h5 => ?_
      refine co_tup (ea_c (ea_v (v := .ref q) rfl ea_nil)) (line_of (by simp)) fun a6 H5 e5 h6 => ?_
      have ee := (((e1.trans e2).trans e3).trans e4).trans e5
      refine co_nil ⟨line_of (by simp), fun a7 n7 => catNew (ee _ _ hL9) n7 (by simp; omega) fun a8 H7 e7 h8 => ?_⟩
      show M10 _ _
      rw [hM10]
      refine ⟨(e9.trans ee).trans e7, a8, _, rfl, h8, by simp; omega, fun v hv => ?_⟩
      rcases List.mem_append.mp hv with hv | hv
      · exact (odd9 v hv).ex (ee.trans e7)
      · simp only [List.mem_cons, List.not_mem_nil, or_false] at hv
        rcases hv with rfl | rfl | rfl | rfl | rfl
        · exact (odd_word m1 m2 h1 (layCons (layStr (by decide)) (layCons (layCh (e1 _ _ c99) fun x hx => (hF8 x hx).1) layNil)) (by simp) (fun h => absurd h.1 (by decide)) (fun h => absurd h.2 (by simp))).ex ((((e2.trans e3).trans e4).trans e5).trans e7)
        · exact (odd_unequal m1 m2 h2 ((e1.trans e2) _ _ c99) hF8 (by omega)).ex (((e3.trans e4).trans e5).trans e7)
        · exact (odd_equal (m := "NoneType") m1 m2 h3 (layCons (layStr (by decide)) (layCons layNon layNil)) rfl (by decide +kernel)).ex ((e4.trans e5).trans e7)
        · exact (odd_equal0 m1 m2 h5 h4).ex (e5.trans e7)
        · exact (odd_first (m := "int") m1 m2 h6 (layCons layInt (layCons (layCh (((((e1.trans e2).trans e3).trans e4).trans e5) _ _ cG9) fun x hx => (hfine x hx).1) layNil)) rfl (by decide +kernel)).ex e7
    · rw [hM10]
      rintro σ' G10 ⟨e10, L10, xs10, rfl, hL10, hl10, odd10⟩
      obtain ⟨M11, hM11⟩ : ∃ M : L2.St → Hp → Prop, M = fun σ' Gx => Evl.Ex G' Gx ∧ ∃ L xs, σ' = [some (.ref d), some (S l), some (.ref q), o3, o4, o5, o6, some (S (enc t1)), some (S (enc t2)), o9, some (S (enc t3)), some (.ref p9), some (.ref p11), some (.ref Lp), o14, o15, some (.ref L), none] ∧ Gx L = some (.lst xs) ∧ xs.length ≤ 300 ∧ ∀ v ∈ xs, OddV K t1 t2 v Gx := ⟨_, rfl⟩
      refine Evl.q_cut (M := M11) ?_ ?_
      · have cG9 := e10 _ _ cG
        refine go_asg (go_op (go_v (v := .ref L10) rfl (go_lst ?_)))
        refine co_tup (ea_c (ea_v (v := S (enc t1)) rfl ea_nil)) (line_of (by simp)) fun a1 H1 e1 h1 => ?_
        refine co_tup (ea_c (ea_v (v := .ref q) rfl (ea_v (v := .ref q) rfl ea_nil))) (line_of (by simp)) fun a2 H2 e2 h2 => ?_
        have ee := e1.trans e2
        refine co_nil ⟨line_of (by simp), fun a7 n7 => catNew (ee _ _ hL10) n7 (by simp; omega) fun a8 H7 e7 h8 => ?_⟩
        show M11 _ _
        rw [hM11]
        refine ⟨(e10.trans ee).trans e7, a8, _, rfl, h8, by simp; omega, fun v hv => ?_⟩
        rcases List.mem_append.mp hv with hv | hv
        · exact (odd10 v hv).ex (ee.trans e7)
        · have lq : LayV K (.ref q) H2 := layCh ((e1.trans e2) _ _ cG9) fun x hx => (hfine x hx).1
          simp only [List.mem_cons, List.not_mem_nil, or_false] at hv
          rcases hv with rfl | rfl
          · exact (odd_equal (m := "str") m1 m2 h1 (layCons (layStr (by decide)) (layCons (layEnc m1.1) layNil)) rfl (by decide +kernel)).ex (e2.trans e7)
          · exact (odd_word m1 m2 h2 (layCons (layStr (by decide)) (layCons lq (layCons lq layNil))) (by simp) (fun h => absurd h.2 (by simp)) (fun h => absurd h.1 (by decide))).ex e7
      · rw [hM11]
        rintro σ' G11 ⟨e11, L11, xs11, rfl, hL11, hl11, odd11⟩
        walk_at "go"
        refine lc_L (a := L11) (xs := xs11) (fun Q q => ⟨_, rfl, q⟩) (SqL.of hL11) (fun D i H' => Evl.Ex G11 H' ∧ H' D = some (.lst [])) (fun D hD => ⟨Evl.Ex.new hD, upd_same⟩) (fun D i H' _ _ z => SqL.of (z.1 _ _ hL11)) ?_ ?_
        · rintro D i x H' hD hx ⟨e, hl⟩
          walk_at "go"
          refine (odd11 x (List.mem_of_getElem? hx)) _ e _ _ fun G12 e12 => ?_
          walk_at "go"
          exact ⟨e.trans e12, e12 _ _ hl⟩
        · rintro D H' hD ⟨e, hl⟩
          walk_at "go"
          refine ⟨Nat.zero_le _, fun p2 hp2 => kEq_D.mpr ⟨.list [], .list [], .lst (SqL.of (Evl.Ex.new hp2 _ _ hl)) .nil, .lst (SqL.of upd_same) .nil, rfl, rfl, ?_⟩⟩
          exact k _ (e11.trans (e.trans (Evl.Ex.new hp2)))
end
end LW

end

section
set_option maxHeartbeats 4000000

namespace LW
open PySem PySem.Spec PyProof.Rows L2 KG KT
local macro_rules | `(tactic| walk_at "go") => `(tactic| try simp only [b_St, b_Sf, b_Et, b_Ef, b_At, b_Af, b_Ot, b_Of, b_AVt, b_AVf, b_OVt, b_OVf, b_Ct, b_Cf, g_seq, g_asg, g_name, g_ret, g_retN, g_next, g_brk, g_cont, g_drop, g_ifS, g_if, g_and, g_or, g_not, g_andV, g_orV, g_notV, g_chain, g_test, g_B, g_op, g_un, g_neg, g_var, g_c, g_nil, g_cons, g_CB, g_call, g_par, g_par3, g_aug, g_sl, g_part, g_nopart, g_tup, g_lst, g_gcons, g_gnil, g_BM, g_dnew, g_yes, g_never, g_tupK, g_listK, g_KCall, g_for1, g_tru, k_then, k_0, k_plain, k_if, k_yield, b_Gt, b_Gf, rx_K, kon_K, g_M1, g_dget2, g_isS, g_wipe0, g_wipe1, g_wipe2, g_wipe3, b_Lt, b_Lf,
  kAdd_i, kAdd_s, kMul_i, kMul_s, kInt_i, kInt0_i, kEq_i, kEq_s, kNe_i, kNe_s, kEq_b, kNe_b, kIn_s, kNotIn_s, kLen_s, kIx_s, kSl_s, kAug_i, kAbs_i, kMax_i, kMin_i, kIntOf_i, kIntOf_b, g_sub, isN_S, isN_i, isN_n, isN_r, notN_S, notN_i, notN_n, notN_r, isN_b, notN_b, tru_b, tru_i, tru_n, ex_bl, ex_int, ex_some, par_2, par_3, isi_S kit_ss, cx_K, cx_Kn, Bool.not_true, Bool.not_false,
  List.set_cons_zero, List.set_cons_succ, List.getElem?_cons_zero, List.getElem?_cons_succ, List.map_cons, List.map_nil, List.append_nil, List.length_cons, List.length_nil, Nat.zero_add, dec_one, true_and, decide_true, decide_false])
local macro_rules | `(tactic| walk_at "br") => `(tactic| first | refine br_W ?_ ?_ | refine br_G ?_ ?_ | refine br_L ?_ ?_ | refine br_Ln ?_ ?_ | refine br_Lm ?_ ?_ | refine br_Lb ?_ ?_ | refine br_S ?_ ?_ | refine br_E ?_ ?_ | refine br_A ?_ ?_ | refine br_O ?_ ?_ | refine br_AV ?_ ?_ | refine br_OV ?_ ?_ | refine br_C ?_ ?_ | refine br_Sn ?_ ?_ | refine br_En ?_ ?_ | refine br_An ?_ ?_ | refine br_On ?_ ?_ | refine br_AVn ?_ ?_ | refine br_OVn ?_ ?_ | refine br_Cn ?_ ?_ | refine br_Sm ?_ ?_ | refine br_Em ?_ ?_ | refine br_Am ?_ ?_ | refine br_Om ?_ ?_ | refine br_AVm ?_ ?_ | refine br_OVm ?_ ?_ | refine br_Cm ?_ ?_ | refine br_Sb ?_ ?_ | refine br_Eb ?_ ?_ | refine br_Ab ?_ ?_ | refine br_Ob ?_ ?_ | refine br_AVb ?_ ?_ | refine br_OVb ?_ ?_ | refine br_Cb ?_ ?_)

section
variable {P : Program} {w : World} {K : PySem.W.Frag} {mg : Str → Option Value} {base : Heap}
theorem ok__law_right (T : Top K mg) : FnG P w K mg base CX0 24 T._law_right.f T._law_right.fd ["dice", "letters"] spRight := by
  have okG : FnOk P w K mg base CX0 9 T._law_grown_term.f T._law_grown_term.fd ["dice", "letters", "size"] (spGrown 6) := ok__law_grown_term T 6
  refine fun_okG T._law_right.F sc__law_right (fun vs H Q E h => ?_) (fun cdv A outer s H vs Q E hr ns hok h => ?_)
  · obtain ⟨d, l, rfl, _⟩ := h
    rfl
  · obtain ⟨d, l, rfl, hd, ln, ll, lL, k⟩ := h
    have tl := right9 (P := P) (w := w) (base := base) (outer := outer) (H := H) (E := E) T hr ns
    refine ⟨_, (pss_cons (ps_set (i := 2) sc__law_right.nd rfl (by first | exact Or.inl rfl | exact Or.inr rfl) (pe_tup (pa_cons (callO okG (hr.mono (by first | decide | omega)) (by rfl) (pa_cons (pv 0) (pa_cons (pv 1) (pa_cons (pe_op (kk_add (K := K) rfl) pe_int (callO (ok__law_roll T) (hr.mono (by first | decide | omega)) (by rfl) (pa_cons (pv 0) (pa_cons pe_int pa_nil)))) pa_nil)))) pa_nil))) (pss_cons (ps_for PassesOwn.never (by rfl) (pi_range1 (by rfl) T.range (pa_cons (callO (ok__law_roll T) (hr.mono (by first | decide | omega)) (by rfl) (pa_cons (pv 0) (pa_cons pe_int pa_nil))) pa_nil)) (pg_name (i := 3) sc__law_right.nd rfl (by first | exact Or.inl rfl | exact Or.inr rfl)) (pss_cons (ps_set (i := 4) sc__law_right.nd rfl (by first | exact Or.inl rfl | exact Or.inr rfl) (callO (ok__law_steps T) (hr.mono (by first | decide | omega)) (by rfl) (pa_cons (pe_ix (kk_ix (K := K) rfl) (pv 2) (pe_un un_neg pe_int) (fun _ _ => rfl)) pa_nil))) (pss_cons (ps_set (i := 5) sc__law_right.nd rfl (by first | exact Or.inl rfl | exact Or.inr rfl) (pe_and (pe_cmpR (kk_ne (K := K) rfl hr) (pv 4) (pe_lst pa_nil) (nomark _)) (pe_one (pe_or (pe_cmpR op_kGt (pe_callB (kk_len (K := K) rfl) (by rfl) T.len (by decide +kernel) (pa_cons (pe_ix (kk_ix (K := K) rfl) (pv 2) (pe_un un_neg pe_int) (fun _ _ => rfl)) pa_nil)) pe_int (nomark _)) (pe_one (pe_cmpR (kk_eq (K := K) rfl hr) (callO (ok__law_roll T) (hr.mono (by first | decide | omega)) (by rfl) (pa_cons (pv 0) (pa_cons pe_int pa_nil))) pe_int (nomark _))))))) (pss_cons (ps_set (i := 6) sc__law_right.nd rfl (by first | exact Or.inl rfl | exact Or.inr rfl) (pe_ifExp (kk_tru (K := K) rfl (pt_truth (pv 5) (fun _ => rfl))) (pe_ix (kk_ix (K := K) rfl) (callO (ok__law_pick T) (hr.mono (by first | decide | omega)) (by rfl) (pa_cons (pv 0) (pa_cons (pv 4) pa_nil))) pe_int (fun _ _ => rfl)) (callO (ok__law_up T) (hr.mono (by first | decide | omega)) (by rfl) (pa_cons (pv 0) (pa_cons (pe_ix (kk_ix (K := K) rfl) (pv 2) (pe_un un_neg pe_int) (fun _ _ => rfl)) (pa_cons (pv 1) pa_nil)))))) (pss_one (ps_set (i := 2) sc__law_right.nd rfl (by first | exact Or.inl rfl | exact Or.inr rfl) (pe_op (kk_add (K := K) rfl) (pv 2) (pe_tup (pa_cons (pv 6) pa_nil))))))))) (pss_cons (ps_asg (pe_tup (pa_cons (pe_ix (kk_ix (K := K) rfl) (pv 2) pe_int (fun _ _ => rfl)) (pa_cons (pe_ix (kk_ix (K := K) rfl) (pv 2) (pe_un un_neg pe_int) (fun _ _ => rfl)) pa_nil))) (kk_gtup (K := K) rfl (pg_tup (n := 2) (by rfl) (pgs_cons (pg_name (i := 7) sc__law_right.nd rfl (by first | exact Or.inl rfl | exact Or.inr rfl)) (pgs_cons (pg_name (i := 8) sc__law_right.nd rfl (by first | exact Or.inl rfl | exact Or.inr rfl)) pgs_nil))))) (pss_cons (ps_for PassesOwn.never (by rfl) (kk_pi (K := K) rfl (pe_lst (pa_cons (pv 2) (pa_cons (callO (ok__law_near T) (hr.mono (by first | decide | omega)) (by rfl) (pa_cons (pv 0) (pa_cons (pv 2) (pa_cons (pv 1) pa_nil)))) (pa_cons (callO (ok__law_near T) (hr.mono (by first | decide | omega)) (by rfl) (pa_cons (pv 0) (pa_cons (pv 2) (pa_cons (pv 1) pa_nil)))) pa_nil))))) (pg_name (i := 9) sc__law_right.nd rfl (by first | exact Or.inl rfl | exact Or.inr rfl)) (pss_one (ps_if (pt_cmpR (kk_ne (K := K) rfl hr) (pe_callB (kk_repr (K := K) rfl hr ns) (by rfl) T.repr (by decide +kernel) (pa_cons (callO (ok_is_equality_paper T) (hr.mono (by first | decide | omega)) (by rfl) (pa_cons (pv 7) (pa_cons (pv 8) (pa_cons (pe_tup (pa_cons (pe_S [101, 113, 117, 97, 108] (by decide)) (pa_cons (pv 9) pa_nil))) pa_nil)))) pa_nil)) (pe_callB (kk_repr (K := K) rfl hr ns) (by rfl) T.repr (by decide +kernel) (pa_cons (callO (ok__law_takes T) (hr.mono (by first | decide | omega)) (by rfl) (pa_cons (pv 7) (pa_cons (pv 8) (pa_cons (pv 9) pa_nil)))) pa_nil)) (nomark _)) (pss_one (ps_ret pe_bl)) pss_nil))) (pss_cons (ps_set (i := 10) sc__law_right.nd rfl (by first | exact Or.inl rfl | exact Or.inr rfl) (callO okG (hr.mono (by first | decide | omega)) (by rfl) (pa_cons (pv 0) (pa_cons (pv 1) (pa_cons (pe_op (kk_add (K := K) rfl) pe_int (callO (ok__law_roll T) (hr.mono (by first | decide | omega)) (by rfl) (pa_cons (pv 0) (pa_cons pe_int pa_nil)))) pa_nil))))) (pss_cons (ps_par (i := 11) (j := 12) (by rfl) sc__law_right.nd rfl rfl (by decide) rfl rfl (pa_cons (pe_callTy (kk_tupOf (K := K) rfl) (by rfl) T.tuple (by decide +kernel) (pa_cons (callO (ok__law_down T) (hr.mono (by first | decide | omega)) (by rfl) (pa_cons (pv 0) (pa_cons (pv 7) pa_nil))) pa_nil)) (pa_cons (pe_callTy (kk_tupOf (K := K) rfl) (by rfl) T.tuple (by decide +kernel) (pa_cons (callO (ok__law_down T) (hr.mono (by first | decide | omega)) (by rfl) (pa_cons (pv 0) (pa_cons (pv 10) pa_nil))) pa_nil)) pa_nil)) rfl) (pss_cons (ps_set (i := 13) sc__law_right.nd rfl (by first | exact Or.inl rfl | exact Or.inr rfl) (pe_lst (pa_cons (pe_tup (pa_cons (pv 11) (pa_cons (pv 12) pa_nil))) (pa_cons (pe_tup (pa_cons (pe_slice (kk_sl (K := K) rfl) (pv 11) po_none (po_some (pe_un un_neg pe_int))) (pa_cons (pv 12) pa_nil))) (pa_cons (pe_tup (pa_cons (callO (ok__law_near T) (hr.mono (by first | decide | omega)) (by rfl) (pa_cons (pv 0) (pa_cons (pv 11) (pa_cons (pv 1) pa_nil)))) (pa_cons (pv 12) pa_nil))) pa_nil))))) (pss_cons (ps_expr (kk_bm (K := K) rfl (pe_bm PySem.F.plainAttrs_list PySem.F.slot_list_append PySem.F.type_list_append mt_append (pv 13) (pa_cons (pe_tup (pa_cons (pv 11) (pa_cons (callO (ok__law_near T) (hr.mono (by first | decide | omega)) (by rfl) (pa_cons (pv 0) (pa_cons (pv 12) (pa_cons (pv 1) pa_nil)))) pa_nil))) pa_nil)))) (pss_cons (ps_for PassesOwn.never (by rfl) (kk_pi (K := K) rfl (pe_op (kk_add (K := K) rfl) (pv 13) (pe_lst (pa_cons (pe_tup (pa_cons (pv 12) (pa_cons (pv 11) pa_nil))) (pa_cons (pe_tup (pa_cons (pv 11) (pa_cons (pv 11) pa_nil))) pa_nil))))) (kk_gtup (K := K) rfl (pg_tup (n := 2) (by rfl) (pgs_cons (pg_name (i := 9) sc__law_right.nd rfl (by first | exact Or.inl rfl | exact Or.inr rfl)) (pgs_cons (pg_name (i := 14) sc__law_right.nd rfl (by first | exact Or.inl rfl | exact Or.inr rfl)) pgs_nil)))) (pss_cons (ps_set (i := 15) sc__law_right.nd rfl (by first | exact Or.inl rfl | exact Or.inr rfl) (pe_and (callO (ok__law_takes_down T) (hr.mono (by first | decide | omega)) (by rfl) (pa_cons (pv 7) (pa_cons (pv 9) pa_nil))) (pe_and (callO (ok__law_takes_down T) (hr.mono (by first | decide | omega)) (by rfl) (pa_cons (pv 10) (pa_cons (pv 14) pa_nil))) (pe_one (pe_cmpR (kk_ne (K := K) rfl hr) (pe_ix (kk_ix (K := K) rfl) (pv 9) (pe_un un_neg pe_int) (fun _ _ => rfl)) (pe_ix (kk_ix (K := K) rfl) (pv 14) (pe_un un_neg pe_int) (fun _ _ => rfl)) (nomark _)))))) (pss_one (ps_if (pt_cmpR (kk_ne (K := K) rfl hr) (pe_callB (kk_repr (K := K) rfl hr ns) (by rfl) T.repr (by decide +kernel) (pa_cons (callO (ok_is_equality_paper T) (hr.mono (by first | decide | omega)) (by rfl) (pa_cons (pv 7) (pa_cons (pv 10) (pa_cons (pe_tup (pa_cons (pe_S [117, 110, 101, 113, 117, 97, 108] (by decide)) (pa_cons (pv 9) (pa_cons (pv 14) pa_nil)))) pa_nil)))) pa_nil)) (pe_callB (kk_repr (K := K) rfl hr ns) (by rfl) T.repr (by decide +kernel) (pa_cons (pv 15) pa_nil)) (nomark _)) (pss_one (ps_ret pe_bl)) pss_nil)))) (pss_given tl)))))))))), ?_⟩
    rw [st__law_right]
    walk_at "go"
    refine roll_run hd (by decide) (by decide) fun r H1 r0 r1 fx1 => ?_
    walk_at "go"
    obtain ⟨n, hn⟩ : ∃ n : Nat, 1 + r = n := ⟨(1 + r).toNat, by omega⟩
    rw [hn]
    refine ⟨d, l, n, rfl, by omega, by omega, by omega, fx1.dc, ln, ll, lL, fun t0 H2 ht0 hz0 fx2 => ?_⟩
    walk_at "go"
    refine ⟨by decide, fun p hp => ?_⟩
    have f3 : Fx d H (upd H2 p (.tup [S (enc t0)])) := (fx1.trans fx2).trans (Fx.of fx2.dc (Evl.Ex.new hp))
    have hp3 : (upd H2 p (.tup [S (enc t0)])) p = some (.tup (Ch [t0])) := upd_same
    generalize upd H2 p (.tup [S (enc t0)]) = H3 at f3 hp3 ⊢
    have c3 := ChA.of f3.dc hp3
    rw [for_viaR]
    walk_at "go"
    refine roll_run f3.dc (by decide) (by decide) fun r4 H4 r40 r41 f4 => ?_
    refine loop_R (n := r4) (fun Q q => q) (by omega) (fun i σ' G => Fx d H G ∧ ∃ q ts, ChA d q ts G ∧ ts ≠ [] ∧ ts.length ≤ i + 1 ∧ (∀ x ∈ ts, ok x = true ∧ sz x ≤ 82 ∧ nf x = nf t0) ∧ ∃ o3 o4 o5 o6 : Option V, σ' = [some (.ref d), some (S l), some (.ref q), o3, o4, o5, o6, none, none, none, none, none, none, none, none, none, none, none])
      ⟨f3.trans f4, p, [t0], c3.fx f4, by simp, by simp, by simp [ht0]; omega, none, none, none, none, rfl⟩ ?_ ?_
    · rintro i σ' G hi ⟨fG, q, ts, hq, hne, htl, hall, o3, o4, o5, o6, rfl⟩
      walk_at "go"
      have htp : 0 < ts.length := List.length_pos_iff.mpr hne
      obtain ⟨z, hz1⟩ : ∃ z, ts[ts.length - 1]? = some z := ⟨_, List.getElem?_eq_getElem (by omega)⟩
      obtain ⟨z1, z2, z3⟩ := hall z (List.mem_of_getElem? hz1)
      have hlz := len_of (t := z) (by omega)
      have hlen := enc_len z
      have hat : atI (Ch ts) (-1) = some (S (enc z)) := at_last (by rw [List.length_map, List.getElem?_map, hz1]; rfl)
      refine ixT (SqT.of hq.2) hat ?_
      refine ⟨z, rfl, z1, by omega, fun qs G1 ys hqs e1 hG1 told => ?_⟩
      walk_at "go"
      refine ⟨Nat.zero_le _, fun q2 hq2 => kNe_D.mpr ⟨.list ((steps z).map stepD), .list [], dp_ex (Evl.Ex.new hq2) (.lst (SqL.of hG1) told.dp), .lst (SqL.of upd_same) .nil, steps_shaped z1 (by omega), rfl, ?_⟩⟩
      rw [eqv_nil, List.isEmpty_map]
      walk_at "go"
      have en : Evl.Ex G1 (upd G1 q2 (.lst [])) := Evl.Ex.new hq2
      generalize upd G1 q2 (.lst []) = G2 at en ⊢
      have fG2 := fG.trans (Fx.of fG.dc (e1.trans en))
      have hq2' : ChA d q ts G2 := hq.fx (Fx.of fG.dc (e1.trans en))
      have hG2 := en _ _ hG1
      have hqsd : qs ≠ d := fun h => by
        obtain ⟨x, y, z', h'⟩ := fG.dc
        rw [h, h'] at hqs
        cases hqs
      have fin : ∀ (b : Bool) (v : Tm) (G' : Hp), Fx d G2 G' → ok v = true → sz v ≤ 82 → nf v = nf t0 → 1 ≤ sizeLine ∧ ∀ p, G' p = none → kAdd K (V.ref q) (V.ref p) (upd G' p (.tup [S (enc v)])) fun x_1 H1 =>
          Fx d H H1 ∧ ∃ q ts, ChA d q ts H1 ∧ ts ≠ [] ∧ ts.length ≤ i + 1 + 1 ∧ (∀ x ∈ ts, ok x = true ∧ sz x ≤ 82 ∧ nf x = nf t0) ∧ ∃ o3 o4 o5 o6 : Option V,
            [some (V.ref d), some (S l), some x_1, some (V.int (i : Nat)), some (V.ref qs), some (V.bl b), some (S (enc v)), none, none, none, none, none, none, none, none, none, none, none] = [some (.ref d), some (S l), some (.ref q), o3, o4, o5, o6, none, none, none, none, none, none, none, none, none, none, none] := fun b v G' fg v1 v2 v3 => by
        refine ⟨by decide, fun m hm => ?_⟩
        have fm := fG2.trans (fg.trans (Fx.of fg.dc (Evl.Ex.new (o := .tup [S (enc v)]) hm)))
        have hqm := hq2'.fx (fg.trans (Fx.of fg.dc (Evl.Ex.new (o := .tup [S (enc v)]) hm)))
        have hmm : (upd G' m (.tup [S (enc v)])) m = some (.tup (Ch [v])) := upd_same
        refine catT hqm.2 hmm (by simp; simp at hi; omega) fun a3 G3 e3 h3 => ?_
        have f4 := fm.trans (Fx.of fm.dc e3)
        refine ⟨f4, a3, ts ++ [v], ChA.of f4.dc (by rw [h3]; simp [Ch]), by simp, by simp; omega, fun x hx => ?_, _, _, _, _, rfl⟩
        rcases List.mem_append.mp hx with hx | hx
        · exact hall x hx
        · rw [List.mem_singleton.mp hx]
          exact ⟨v1, v2, v3⟩
      have up : ∀ (b : Bool) (G' : Hp), Fx d G2 G' → sz z ≤ 40 → kIx K (V.ref q) (V.int (-1)) G' fun x H1 => spUp [V.ref d, x, S l] H1 (fun x H1 => 1 ≤ sizeLine ∧ ∀ p, H1 p = none → kAdd K (V.ref q) (V.ref p) (upd H1 p (.tup [x])) fun x_1 H1 =>
          Fx d H H1 ∧ ∃ q ts, ChA d q ts H1 ∧ ts ≠ [] ∧ ts.length ≤ i + 1 + 1 ∧ (∀ x ∈ ts, ok x = true ∧ sz x ≤ 82 ∧ nf x = nf t0) ∧ ∃ o3 o4 o5 o6 : Option V,
            [some (V.ref d), some (S l), some x_1, some (V.int (i : Nat)), some (V.ref qs), some (V.bl b), some x, none, none, none, none, none, none, none, none, none, none, none] = [some (.ref d), some (S l), some (.ref q), o3, o4, o5, o6, none, none, none, none, none, none, none, none, none, none, none]) E0 := fun b G' fg hz40 => by
        refine ixT (SqT.of (hq2'.fx fg).2) hat ?_
        refine ⟨d, z, l, rfl, fg.dc, z1, by omega, ln, ll, lL, fun t' H5 ht' hz' hup f5 => ?_⟩
        exact fin b t' H5 (fg.trans f5) ht' (by omega) (by rw [up_nf hup]; exact z3)
      cases hst : (steps z).isEmpty with
      | true =>
        walk_at "go"
        have := small_nf (List.isEmpty_iff.mp hst) z3
        exact up false G2 (Fx.refl fG2.dc) (by omega)
      | false =>
        walk_at "go"
        refine ixT (SqT.of hq2'.2) hat ?_
        walk_at "go"
        have hyl := told.length
        have hyn : ys ≠ [] := fun h => by
          rw [h] at hyl
          rw [List.isEmpty_eq_false_iff] at hst
          exact hst (List.length_eq_zero_iff.mp hyl.symm)
        have hsl := steps_len z
        have down : ∀ (G' : Hp), Fx d G2 G' → spPick K [V.ref d, V.ref qs] G' (fun x H1 => kIx K x (V.int 2) H1 fun x H1 => 1 ≤ sizeLine ∧ ∀ p, H1 p = none → kAdd K (V.ref q) (V.ref p) (upd H1 p (.tup [x])) fun x_1 H1 =>
          Fx d H H1 ∧ ∃ q ts, ChA d q ts H1 ∧ ts ≠ [] ∧ ts.length ≤ i + 1 + 1 ∧ (∀ x ∈ ts, ok x = true ∧ sz x ≤ 82 ∧ nf x = nf t0) ∧ ∃ o3 o4 o5 o6 : Option V,
            [some (V.ref d), some (S l), some x_1, some (V.int (i : Nat)), some (V.ref qs), some (V.bl true), some x, none, none, none, none, none, none, none, none, none, none, none] = [some (.ref d), some (S l), some (.ref q), o3, o4, o5, o6, none, none, none, none, none, none, none, none, none, none, none]) E0 := fun G' fg => by
          refine pick_L fg.dc hqsd (SqL.of (fg.keep _ _ hqsd hG2)) hyn (by omega) fun x H5 hx f5 => ?_
          obtain ⟨m, hm⟩ := List.mem_iff_getElem?.mp hx
          obtain ⟨⟨j, r', v⟩, hs, a, rfl, ha⟩ := pair_get told hm
          have ha2 : G2 a = some (.tup [.int (j : Nat), .int (r' : Nat), S (enc v)]) := en _ _ ha
          have had : a ≠ d := fG2.dc.ne ha2 (fun _ _ _ h => by cases h)
          obtain ⟨_, _, v1, v2⟩ := steps_ok z1 (List.mem_of_getElem? hs)
          refine ixT (SqT.of ((fg.trans f5).keep _ _ had ha2)) (atI_nat (j := 2) rfl) ?_
          exact fin true v H5 (fg.trans f5) v1 (by omega) (by rw [step_nf (List.mem_of_getElem? hs)]; exact z3)
        refine ⟨by omega, ?_⟩
        walk_at "br"
        · intro h80
          walk_at "go"
          exact down G2 (Fx.refl fG2.dc)
        · intro h80
          walk_at "go"
          refine roll_run fG2.dc (by decide) (by decide) fun r5 G5 r50 r51 f5 => ?_
          walk_at "go"
          by_cases h5 : r5 = 0
          · rw [decide_eq_true h5]
            walk_at "go"
            exact down G5 f5
          · rw [decide_eq_false h5]
            walk_at "go"
            exact up false G5 f5 (by omega)
    · rintro σ' G ⟨fG, q, ts, hq, hne, htl, hall, o3, o4, o5, o6, rfl⟩
      walk_at "go"
      have htp : 0 < ts.length := List.length_pos_iff.mpr hne

      obtain ⟨t1, ht1⟩ : ∃ z, ts[0]? = some z := ⟨_, List.getElem?_eq_getElem (by omega)⟩
      obtain ⟨t2, ht2⟩ : ∃ z, ts[ts.length - 1]? = some z := ⟨_, List.getElem?_eq_getElem (by omega)⟩
      refine ixT (SqT.of hq.2) (at0 (v := S (enc t1)) (by rw [List.getElem?_map, ht1]; rfl)) ?_
      refine ixT (SqT.of hq.2) (at_last (v := S (enc t2)) (by rw [List.length_map, List.getElem?_map, ht2]; rfl)) ?_
      walk_at "go"
      refine ⟨by decide, fun m hm => ?_⟩
      have fG' := fG.trans (Fx.of fG.dc (Evl.Ex.new (o := .tup [S (enc t1), S (enc t2)]) hm))
      have hq' := hq.fx (Fx.of fG.dc (Evl.Ex.new (o := .tup [S (enc t1), S (enc t2)]) hm))
      have hm1 : (upd G m (.tup [S (enc t1), S (enc t2)])) m = some (.tup [S (enc t1), S (enc t2)]) := upd_same
      generalize upd G m (.tup [S (enc t1), S (enc t2)]) = G1 at fG' hq' hm1 ⊢
      refine g_unpack (SqT.of hm1) rfl ?_
      walk_at "go"
      rw [for_via]
      walk_at "go"
      have hall9 : ∀ x ∈ ts, ok x = true ∧ sz x ≤ 99 := fun x hx => ⟨(hall x hx).1, by have := (hall x hx).2.1; omega⟩
      have hfine : Fine ts := fun x hx => ⟨(hall x hx).1, by have := (hall x hx).2.1; omega⟩
      have htl300 : ts.length ≤ 300 := by omega
      have m1 : Mid t1 := hfine _ (List.mem_of_getElem? ht1)
      have m2 : Mid t2 := hfine _ (List.mem_of_getElem? ht2)
      refine near_run fG'.dc hq' hne htl300 hall9 ln ll lL fun qa G2 ua fa ca Fa la => ?_
      refine near_run fa.dc (hq'.fx fa) hne htl300 hall9 ln ll lL fun qb G3 ub fb cb Fb lb => ?_
      refine ⟨by decide, fun L hL => ?_⟩
      have rows : ∀ v ∈ [V.ref q, V.ref qa, V.ref qb], Row d v G3 := fun v hv => by
        simp at hv
        rcases hv with rfl | rfl | rfl
        · exact ⟨q, ts, rfl, (hq'.fx fa).fx fb, hfine, by omega⟩
        · exact ⟨qa, ua, rfl, ca.fx fb, Fa, la⟩
        · exact ⟨qb, ub, rfl, cb, Fb, lb⟩
      have fL : Fx d G3 (upd G3 L (.lst [.ref q, .ref qa, .ref qb])) := Fx.of fb.dc (Evl.Ex.new hL)
      have hLd := not_dice fb.dc hL
      have hLL : (upd G3 L (.lst [.ref q, .ref qa, .ref qb])) L = some (.lst [.ref q, .ref qa, .ref qb]) := upd_same
      have hq4 := ((hq'.fx fa).fx fb).fx fL
      have fG4 := ((fG'.trans fa).trans fb).trans fL
      generalize upd G3 L (.lst [.ref q, .ref qa, .ref qb]) = G4 at fL hLL hq4 fG4 ⊢
      refine loop_L (a := L) (xs := [.ref q, .ref qa, .ref qb]) (fun Q q => q) (fun i σ' G' => Fx d G4 G' ∧ ∃ o9 : Option V, σ' = [some (.ref d), some (S l), some (.ref q), o3, o4, o5, o6, some (S (enc t1)), some (S (enc t2)), o9, none, none, none, none, none, none, none, none]) ⟨Fx.refl fG4.dc, none, rfl⟩ (fun i σ' G' _ p => SqL.fx hLL hLd p.1) ?_ ?_
      · rintro i x σ' G' hx ⟨fG5, o9, rfl⟩
        obtain ⟨qx, ux, rfl, cx, Fx1, lx⟩ := (rows x (List.mem_of_getElem? hx)).fx (fL.trans fG5)
        walk_at "go"
        refine ⟨by decide, fun mm hmm => ?_⟩
        have e5 : Evl.Ex G' (upd G' mm (.tup [S EQUAL, .ref qx])) := Evl.Ex.new hmm
        refine eq_run m1 m2 upd_same (e5 _ _ cx.2) Fx1 (by omega) fun G6 e6 => ?_
        refine show_b ?_
        refine ⟨t1, t2, qx, ux, rfl, (e5.trans e6) _ _ cx.2, Fx1, by omega, fun G7 e7 => ?_⟩
        refine show_b ?_
        refine kNe_same.mpr ?_
        walk_at "go"
        exact ⟨fG5.trans (Fx.of fG5.dc ((e5.trans e6).trans e7)), _, rfl⟩
      · rintro σ' G5 ⟨fG5, o9, rfl⟩
        walk_at "go"
        refine roll_run fG5.dc (by decide) (by decide) fun r6 G6 r60 r61 f6 => ?_
        walk_at "go"
        obtain ⟨n6, hn6⟩ : ∃ n : Nat, 1 + r6 = n := ⟨(1 + r6).toNat, by omega⟩
        rw [hn6]
        refine ⟨d, l, n6, rfl, by omega, by omega, by omega, f6.dc, ln, ll, lL, fun t3 G7 ht3 hz3 f7 => ?_⟩
        walk_at "go"
        have f57 := (fG5.trans f6).trans f7
        have hq7 := hq4.fx f57
        have m3 : Mid t3 := ⟨ht3, by omega⟩
        refine ⟨d, t1, rfl, f57.dc, m1.1, by have := (hall t1 (List.mem_of_getElem? ht1)).2.1; omega, fun p8 G8 u8 hp8 f8 h8 n8 l8 a8 => ?_⟩
        refine tupOfL (SqL.of h8) fun p9 hp9 => ?_
        have f9 : Fx d G7 (upd G8 p9 (.tup (Ch u8))) := f8.trans (Fx.of f8.dc (Evl.Ex.new hp9))
        have c9 : ChA d p9 u8 (upd G8 p9 (.tup (Ch u8))) := ChA.of f9.dc upd_same
        generalize upd G8 p9 (.tup (Ch u8)) = G9 at f9 c9 ⊢
        refine ⟨d, t3, rfl, f9.dc, ht3, by omega, fun p10 G10 u10 hp10 f10 h10 n10 l10 a10 => ?_⟩
        refine tupOfL (SqL.of h10) fun p11 hp11 => ?_
        have f11 : Fx d G9 (upd G10 p11 (.tup (Ch u10))) := f10.trans (Fx.of f10.dc (Evl.Ex.new hp11))
        have c11 : ChA d p11 u10 (upd G10 p11 (.tup (Ch u10))) := ChA.of f11.dc upd_same
        have c9' := c9.fx f11
        generalize upd G10 p11 (.tup (Ch u10)) = G11 at f11 c11 c9' ⊢
        have z1 := (hall t1 (List.mem_of_getElem? ht1)).2.1
        have F8 : Fine u8 := fun x hx => ⟨(a8 x hx).1, by have := (a8 x hx).2; omega⟩
        have F10 : Fine u10 := fun x hx => ⟨(a10 x hx).1, by have := (a10 x hx).2; omega⟩
        refine ⟨by decide, fun pa hpa => ?_⟩
        have ra := PRow.new f11.dc hpa c9' F8 (by omega) c11 F10 (by omega)
        have fa2 : Fx d G11 (upd G11 pa (.tup [.ref p9, .ref p11])) := Fx.of f11.dc (Evl.Ex.new hpa)
        generalize upd G11 pa (.tup [.ref p9, .ref p11]) = G12 at ra fa2 ⊢
        have c9b := c9'.fx fa2
        have c11b := c11.fx fa2
        refine cutT c9b.2 fun pc G13 ec hc => ?_
        rw [cutV_last, List.length_map, show (Ch u8).take (u8.length - 1) = Ch (u8.take (u8.length - 1)) from List.map_take.symm] at hc
        have f13 : Fx d G12 G13 := Fx.of fa2.dc ec
        have cc := ChA.of f13.dc hc
        refine ⟨by decide, fun pb hpb => ?_⟩
        have rb := PRow.new f13.dc hpb cc (fun x hx => F8 x (List.mem_of_mem_take hx)) (by rw [List.length_take]; omega) (c11b.fx f13) F10 (by omega)
        have fb2 : Fx d G13 (upd G13 pb (.tup [.ref pc, .ref p11])) := Fx.of f13.dc (Evl.Ex.new hpb)
        generalize upd G13 pb (.tup [.ref pc, .ref p11]) = G14 at rb fb2 ⊢
        have f12_14 := f13.trans fb2
        refine near_run fb2.dc (c9b.fx f12_14) n8 (by omega) (fun x hx => ⟨(a8 x hx).1, by have := (a8 x hx).2; omega⟩) ln ll lL fun qd G15 ud fd cd Fd ld => ?_
        refine ⟨by decide, fun pe hpe => ?_⟩
        have re := PRow.new fd.dc hpe cd Fd ld (c11b.fx (f12_14.trans fd)) F10 (by omega)
        have fe : Fx d G15 (upd G15 pe (.tup [.ref qd, .ref p11])) := Fx.of fd.dc (Evl.Ex.new hpe)
        generalize upd G15 pe (.tup [.ref qd, .ref p11]) = G16 at re fe ⊢
        refine ⟨by decide, fun L2 hL2 => ?_⟩
        have fL2 : Fx d G16 (upd G16 L2 (.lst [.ref pa, .ref pb, .ref pe])) := Fx.of fe.dc (Evl.Ex.new hL2)
        have hLd2 := not_dice fe.dc hL2
        have hLL2 : (upd G16 L2 (.lst [.ref pa, .ref pb, .ref pe])) L2 = some (.lst [.ref pa, .ref pb, .ref pe]) := upd_same
        generalize upd G16 L2 (.lst [.ref pa, .ref pb, .ref pe]) = G17 at fL2 hLL2 ⊢
        refine ⟨tyL hLL2, ?_⟩
        have f14_17 := (fd.trans fe).trans fL2
        have f12_17 := f12_14.trans f14_17
        refine near_run fL2.dc (c11b.fx f12_17) n10 (by omega) (fun x hx => ⟨(a10 x hx).1, by have := (a10 x hx).2; omega⟩) ln ll lL fun qf G18 uf ff cf Ff lf => ?_
        refine ⟨by decide, fun pg hpg => ?_⟩
        have rg := PRow.new ff.dc hpg (c9b.fx (f12_17.trans ff)) F8 (by omega) cf Ff lf
        have fg : Fx d G18 (upd G18 pg (.tup [.ref p9, .ref qf])) := Fx.of ff.dc (Evl.Ex.new hpg)
        generalize upd G18 pg (.tup [.ref p9, .ref qf]) = G19 at rg fg ⊢
        have f17_19 := ff.trans fg
        have hL19 : G19 L2 = some (.lst [.ref pa, .ref pb, .ref pe]) := f17_19.keep _ _ hLd2 hLL2
        refine rApp hL19 (by simp) ?_
        have ra3 := (ra.fx (f12_17.trans f17_19)).set (o := .lst ([.ref pa, .ref pb, .ref pe] ++ [.ref pg])) hL19
        have rb3 := (rb.fx (f14_17.trans f17_19)).set (o := .lst ([.ref pa, .ref pb, .ref pe] ++ [.ref pg])) hL19
        have re3 := (re.fx (fL2.trans f17_19)).set (o := .lst ([.ref pa, .ref pb, .ref pe] ++ [.ref pg])) hL19
        have rg3 := rg.set (o := .lst ([.ref pa, .ref pb, .ref pe] ++ [.ref pg])) hL19
        have c9d := (c9b.fx (f12_17.trans f17_19)).set (o := .lst ([.ref pa, .ref pb, .ref pe] ++ [.ref pg])) hL19
        have c11d := (c11b.fx (f12_17.trans f17_19)).set (o := .lst ([.ref pa, .ref pb, .ref pe] ++ [.ref pg])) hL19
        have fall : Fx d G16 (upd G19 L2 (.lst ([.ref pa, .ref pb, .ref pe] ++ [.ref pg]))) := fx_mut (fL2.trans f17_19) hL2 hLd2
        have hL20 : (upd G19 L2 (.lst ([.ref pa, .ref pb, .ref pe] ++ [.ref pg]))) L2 = some (.lst [.ref pa, .ref pb, .ref pe, .ref pg]) := upd_same
        generalize upd G19 L2 (.lst ([.ref pa, .ref pb, .ref pe] ++ [.ref pg])) = G20 at ra3 rb3 re3 rg3 c9d c11d fall hL20 ⊢
        have f7_20 : Fx d G7 G20 := (((((f9.trans f11).trans fa2).trans f12_14).trans fd).trans fe).trans fall
        have fH20 : Fx d H G20 := fG4.trans (f57.trans f7_20)
        have hq20 := hq7.fx f7_20
        rw [for_via]
        walk_at "go"
        refine ⟨by decide, fun ph hph => ?_⟩
        have rh := PRow.new fall.dc hph c11d F10 (by omega) c9d F8 (by omega)
        have fh : Fx d G20 (upd G20 ph (.tup [.ref p11, .ref p9])) := Fx.of fall.dc (Evl.Ex.new hph)
        have eh : Evl.Ex G20 (upd G20 ph (.tup [.ref p11, .ref p9])) := Evl.Ex.new hph
        generalize upd G20 ph (.tup [.ref p11, .ref p9]) = G21 at rh fh eh ⊢
        refine ⟨by decide, fun pj hpj => ?_⟩
        have rj := PRow.new fh.dc hpj (c9d.fx fh) F8 (by omega) (c9d.fx fh) F8 (by omega)
        have fj : Fx d G21 (upd G21 pj (.tup [.ref p9, .ref p9])) := Fx.of fh.dc (Evl.Ex.new hpj)
        have ej : Evl.Ex G21 (upd G21 pj (.tup [.ref p9, .ref p9])) := Evl.Ex.new hpj
        generalize upd G21 pj (.tup [.ref p9, .ref p9]) = G22 at rj fj ej ⊢
        refine ⟨by decide, fun L3 hL3 => ?_⟩
        have e3 : Evl.Ex G22 (upd G22 L3 (.lst [.ref ph, .ref pj])) := Evl.Ex.new hL3
        have hLL3 : (upd G22 L3 (.lst [.ref ph, .ref pj])) L3 = some (.lst [.ref ph, .ref pj]) := upd_same
        have f3' : Fx d G22 (upd G22 L3 (.lst [.ref ph, .ref pj])) := Fx.of fj.dc e3
        generalize upd G22 L3 (.lst [.ref ph, .ref pj]) = G23 at e3 hLL3 f3' ⊢
        have f20_23 := (fh.trans fj).trans f3'
        refine catL (((eh.trans ej).trans e3) _ _ hL20) hLL3 (by simp) fun L4 hL4 => ?_
        have f4' : Fx d G23 (upd G23 L4 (.lst [.ref pa, .ref pb, .ref pe, .ref pg, .ref ph, .ref pj])) := Fx.of f3'.dc (Evl.Ex.new hL4)
        have hLd4 := not_dice f3'.dc hL4
        have hLL4 : (upd G23 L4 (.lst [.ref pa, .ref pb, .ref pe, .ref pg, .ref ph, .ref pj])) L4 = some (.lst [.ref pa, .ref pb, .ref pe, .ref pg, .ref ph, .ref pj]) := upd_same
        have f20_24 := f20_23.trans f4'
        have rows4 : ∀ v ∈ [V.ref pa, V.ref pb, V.ref pe, V.ref pg, V.ref ph, V.ref pj], PRow d v (upd G23 L4 (.lst [.ref pa, .ref pb, .ref pe, .ref pg, .ref ph, .ref pj])) := fun v hv => by
          simp at hv
          rcases hv with rfl | rfl | rfl | rfl | rfl | rfl
          · exact ra3.fx f20_24
          · exact rb3.fx f20_24
          · exact re3.fx f20_24
          · exact rg3.fx f20_24
          · exact rh.fx ((fj.trans f3').trans f4')
          · exact rj.fx (f3'.trans f4')
        simp only [List.cons_append, List.nil_append]
        generalize upd G23 L4 (.lst [.ref pa, .ref pb, .ref pe, .ref pg, .ref ph, .ref pj]) = G24 at f4' hLL4 f20_24 rows4 ⊢
        have fH24 := fH20.trans f20_24
        have hq24 := hq20.fx f20_24
        have c9e := c9d.fx f20_24
        refine loop_L (a := L4) (xs := [.ref pa, .ref pb, .ref pe, .ref pg, .ref ph, .ref pj]) (fun Q q => q) (fun i σ' G' => Fx d G24 G' ∧ ∃ o9 o14 o15 : Option V, σ' = [some (.ref d), some (S l), some (.ref q), o3, o4, o5, o6, some (S (enc t1)), some (S (enc t2)), o9, some (S (enc t3)), some (.ref p9), some (.ref p11), some (.ref L2), o14, o15, none, none]) ⟨Fx.refl fH24.dc, o9, none, none, rfl⟩ (fun i σ' G' _ p => SqL.fx hLL4 hLd4 p.1) ?_ ?_
        · rintro i x σ' G' hx ⟨fG, o9, o14, o15, rfl⟩
          obtain ⟨a, q1, q2, us, ws, rfl, ha, hG', k1, k2, k3, k4, k5, k6⟩ := (rows4 x (List.mem_of_getElem? hx)).fx fG
          refine g_unpack (SqT.of hG') rfl ?_
          walk_at "go"
          refine ⟨t1, q1, us, rfl, k1.2, k2, by omega, fun G25 e25 => ?_⟩
          walk_at "go"
          have c1' := k1.fx (Fx.of fG.dc e25)
          have c4' := k4.fx (Fx.of fG.dc e25)
          have f25 := fG.trans (Fx.of fG.dc e25)
          have hu0 : uneq t1 t3 us ws = (takesD t1 us && takesD t3 ws && !decide (lastE us = lastE ws)) := by
            unfold uneq
            rw [takes_down (by omega), takes_down (by omega)]
          cases hb : takesD t1 us with
          | false =>
            walk_at "go"
            refine judge_run m1 m3 c1'.2 k2 (by omega) c4'.2 k5 (by omega) (by rw [hu0, hb]; rfl) fun G26 e26 => ?_
            walk_at "go"
            exact ⟨f25.trans (Fx.of f25.dc e26), _, _, _, rfl⟩
          | true =>
            walk_at "go"
            refine ⟨t3, q2, ws, rfl, c4'.2, k5, by omega, fun G26 e26 => ?_⟩
            walk_at "go"
            have c1b := c1'.fx (Fx.of f25.dc e26)
            have c4b := c4'.fx (Fx.of f25.dc e26)
            have f26 := f25.trans (Fx.of f25.dc e26)
            cases hb2 : takesD t3 ws with
            | false =>
              walk_at "go"
              refine judge_run m1 m3 c1b.2 k2 (by omega) c4b.2 k5 (by omega) (by rw [hu0, hb, hb2]; rfl) fun G27 e27 => ?_
              walk_at "go"
              exact ⟨f26.trans (Fx.of f26.dc e27), _, _, _, rfl⟩
            | true =>
              walk_at "go"
              have hus : 1 ≤ us.length := by
                unfold takesD at hb
                simp at hb
                omega
              have hws : 1 ≤ ws.length := by
                unfold takesD at hb2
                simp at hb2
                omega
              obtain ⟨y1, hy1⟩ : ∃ z, us[us.length - 1]? = some z := ⟨_, List.getElem?_eq_getElem (by omega)⟩
              obtain ⟨y2, hy2⟩ : ∃ z, ws[ws.length - 1]? = some z := ⟨_, List.getElem?_eq_getElem (by omega)⟩
              refine ixT (SqT.of c1b.2) (at_last (v := S (enc y1)) (by rw [List.length_map, List.getElem?_map, hy1]; rfl)) ?_
              refine ixT (SqT.of c4b.2) (at_last (v := S (enc y2)) (by rw [List.length_map, List.getElem?_map, hy2]; rfl)) ?_
              walk_at "go"
              refine judge_run m1 m3 c1b.2 k2 (by omega) c4b.2 k5 (by omega) (by rw [hu0, hb, hb2]; unfold lastE; rw [hy1, hy2]; simp) fun G27 e27 => ?_
              walk_at "go"
              exact ⟨f26.trans (Fx.of f26.dc e27), _, _, _, rfl⟩
        · rintro σ' G' ⟨fG, o9, o14, o15, rfl⟩
          have F8' : u8.length ≤ 302 := by omega
          exact ⟨d, l, q, p9, p11, L2, ts, u8, t1, t2, t3, o3, o4, o5, o6, o9, o14, o15, rfl, (hq24.fx fG).2, hfine, by omega, (c9e.fx fG).2, F8, F8', m1, m2, fun G e => k G (fH24.trans (fG.trans (Fx.of fG.dc e)))⟩
end
end LW

end

section
set_option maxHeartbeats 4000000

namespace LW
open PySem PySem.Spec PyProof.Rows L2 KG KT
local macro_rules | `(tactic| walk_at "go") => `(tactic| try simp only [b_St, b_Sf, b_Et, b_Ef, b_At, b_Af, b_Ot, b_Of, b_AVt, b_AVf, b_OVt, b_OVf, b_Ct, b_Cf, g_seq, g_asg, g_name, g_ret, g_retN, g_next, g_brk, g_cont, g_drop, g_ifS, g_if, g_and, g_or, g_not, g_andV, g_orV, g_notV, g_chain, g_test, g_B, g_op, g_un, g_neg, g_var, g_c, g_nil, g_cons, g_CB, g_call, g_par, g_par3, g_aug, g_sl, g_part, g_nopart, g_tup, g_lst, g_gcons, g_gnil, g_BM, g_dnew, g_yes, g_never, g_tupK, g_listK, g_KCall, g_for1, g_tru, k_then, k_0, k_plain, k_if, k_yield, b_Gt, b_Gf, rx_K, kon_K, g_M1, g_dget2, g_isS, g_wipe0, g_wipe1, g_wipe2, g_wipe3, b_Lt, b_Lf,
  kAdd_i, kAdd_s, kMul_i, kMul_s, kInt_i, kInt0_i, kEq_i, kEq_s, kNe_i, kNe_s, kEq_b, kNe_b, kIn_s, kNotIn_s, kLen_s, kIx_s, kSl_s, kAug_i, kAbs_i, kMax_i, kMin_i, kIntOf_i, kIntOf_b, g_sub, isN_S, isN_i, isN_n, isN_r, notN_S, notN_i, notN_n, notN_r, isN_b, notN_b, tru_b, tru_i, tru_n, ex_bl, ex_int, ex_some, par_2, par_3, isi_S kit_ss, cx_K, cx_Kn, Bool.not_true, Bool.not_false,
  List.set_cons_zero, List.set_cons_succ, List.getElem?_cons_zero, List.getElem?_cons_succ, List.map_cons, List.map_nil, List.append_nil, List.length_cons, List.length_nil, Nat.zero_add, dec_one, true_and, decide_true, decide_false])
local macro_rules | `(tactic| walk_at "br") => `(tactic| first | refine br_W ?_ ?_ | refine br_G ?_ ?_ | refine br_L ?_ ?_ | refine br_Ln ?_ ?_ | refine br_Lm ?_ ?_ | refine br_Lb ?_ ?_ | refine br_S ?_ ?_ | refine br_E ?_ ?_ | refine br_A ?_ ?_ | refine br_O ?_ ?_ | refine br_AV ?_ ?_ | refine br_OV ?_ ?_ | refine br_C ?_ ?_ | refine br_Sn ?_ ?_ | refine br_En ?_ ?_ | refine br_An ?_ ?_ | refine br_On ?_ ?_ | refine br_AVn ?_ ?_ | refine br_OVn ?_ ?_ | refine br_Cn ?_ ?_ | refine br_Sm ?_ ?_ | refine br_Em ?_ ?_ | refine br_Am ?_ ?_ | refine br_Om ?_ ?_ | refine br_AVm ?_ ?_ | refine br_OVm ?_ ?_ | refine br_Cm ?_ ?_ | refine br_Sb ?_ ?_ | refine br_Eb ?_ ?_ | refine br_Ab ?_ ?_ | refine br_Ob ?_ ?_ | refine br_AVb ?_ ?_ | refine br_OVb ?_ ?_ | refine br_Cb ?_ ?_)

section
variable {P : Program} {w : World} {K : PySem.W.Frag} {mg : Str → Option Value} {base : Heap}
abbrev sl_law : List Str := ["script", "spot", "dice", "turn", "long", "told"]
theorem sc_law : FnScope sl_law ["script"] (defScope s_law) := ⟨rfl, rfl, rfl, by decide +kernel, rfl, by decide +kernel, by decide +kernel⟩
theorem st_law (v0 : V) : L2.start sl_law [v0] = [some v0, none, none, none, none, none] := rfl
def A1 : Tm := .nd (.lf 97) (.lf 98)
def A2 : Tm := .nd (.lf 97) (.nd (.nd (.lf 97) (.lf 98)) (.lf 97))
def A3 : Tm := .nd (.nd (.lf 97) (.lf 98)) (.nd (.lf 98) (.lf 99))
def A4 : Tm := .lf 98
def A5 : Tm := .nd (.nd (.lf 100) (.lf 98)) (.nd (.lf 98) (.lf 100))
def LL : List Tm := (List.replicate 200 [A1, A2]).flatten
theorem LL_ch : Ch LL = (List.replicate 200 (Ch [A1, A2])).flatten := by
  unfold LL Ch
  rw [List.map_flatten, List.map_replicate]
theorem mem_LL {x : Tm} (h : x ∈ LL) : x = A1 ∨ x = A2 := by
  unfold LL at h
  obtain ⟨l, h1, h2⟩ := List.mem_flatten.mp h
  have := List.eq_of_mem_replicate h1
  subst this
  simpa using h2
theorem LL_len : LL.length = 400 := by
  unfold LL
  simp
theorem b1 : eqCh A1 A2 LL = true := by decide +kernel
theorem b2 : eqCh A1 A1 (LL ++ [A1]) = false := by
  unfold eqCh
  rw [decide_eq_false (by rw [List.length_append, LL_len]; simp)]
  rfl
theorem b3 : eqCh A3 A5 [A3, A4, A5] = true := by decide +kernel
theorem mA1 : Mid A1 := ⟨rfl, by decide⟩
theorem mA2 : Mid A2 := ⟨rfl, by decide⟩
theorem mA3 : Mid A3 := ⟨rfl, by decide⟩
theorem mA4 : Mid A4 := ⟨rfl, by decide⟩
theorem mA5 : Mid A5 := ⟨rfl, by decide⟩
theorem fLL : Fine LL := fun x hx => by
  rcases mem_LL hx with rfl | rfl
  · exact mA1
  · exact mA2
theorem fLL1 : Fine (LL ++ [A1]) := fun x hx => by
  rcases List.mem_append.mp hx with hx | hx
  · exact fLL x hx
  · rw [List.mem_singleton.mp hx]
    exact mA1
def spLaw (K : PySem.W.Frag) : Sp := fun vs H Q _ => ∃ (a : Addr) (ns : List Int), vs = [.ref a] ∧ SqL K H a (ns.map V.int) ∧ ∀ H', Q (.bl true) H'
theorem SqL.fxF {K : PySem.W.Frag} {H H1 H2 : Hp} {a d : Addr} {xs : List V} (h : SqL K H a xs) (hd : H d = none) (e : Evl.Ex H H1) (f : Fx d H1 H2) : SqL K H2 a xs := by
  rcases h with (h | ⟨o, h⟩) | h
  · exact .inl (.inl (f.keep _ _ (ne_of_none h hd) (e _ _ h)))
  · exact .inl (.inr ⟨o, f.keep _ _ (ne_of_none h hd) (e _ _ h)⟩)
  · exact .inr h
theorem go_tup {tas : TA} {σ : L2.St} {H : Hp} {Q : VK} {xs : List V} (ha : EvArgs tas σ xs) (hl : xs.length ≤ sizeLine) (k : ∀ p H1, Evl.Ex H H1 → H1 p = some (.tup xs) → Q (.ref p) H1) : tTup tas σ H Q :=
  ha H (fun xs H1 => xs.length ≤ sizeLine ∧ ∀ p, H1 p = none → Q (.ref p) (upd H1 p (.tup xs))) ⟨hl, fun p hp => k p _ (Evl.Ex.new hp) upd_same⟩
theorem ok_law (T : Top K mg) : FnG P w K mg base CX0 30 T.law.f T.law.fd ["script"] (spLaw K) := by
  refine fun_okG T.law.F sc_law (fun vs H Q E h => ?_) (fun cdv A outer s H vs Q E hr ns hok h => ?_)
  · obtain ⟨a, ns, rfl, _⟩ := h
    rfl
  · obtain ⟨a, nums, rfl, ha, k⟩ := h
    refine ⟨_, (pss_cons (ps_for PassesOwn.never (by rfl) (pi_range1 (by rfl) T.range (pa_cons (pe_callB (call_kMax (by rfl)) (by rfl) T.max (by decide +kernel) (pa_cons pe_int (pa_cons (pe_callB (call_kMin (by rfl)) (by rfl) T.min (by decide +kernel) (pa_cons pe_int (pa_cons (pe_callB (kk_len (K := K) rfl) (by rfl) T.len (by decide +kernel) (pa_cons (pv 0) pa_nil)) pa_nil))) pa_nil))) pa_nil)) (pg_name (i := 1) sc_law.nd rfl (by first | exact Or.inl rfl | exact Or.inr rfl)) (pss_cons (ps_set (i := 2) sc_law.nd rfl (by first | exact Or.inl rfl | exact Or.inr rfl) (callO (ok__law_dice T) (hr.mono (by first | decide | omega)) (by rfl) (pa_cons (pv 0) (pa_cons (pv 1) pa_nil)))) (pss_one (ps_for PassesOwn.never (by rfl) (pi_range1 (by rfl) T.range (pa_cons pe_int pa_nil)) (pg_name (i := 3) sc_law.nd rfl (by first | exact Or.inl rfl | exact Or.inr rfl)) (pss_one (ps_if (pt_not (kk_tru (K := K) rfl (pt_truth (callD (ok__law_right T) (hr.mono (by first | decide | omega)) ns (by rfl) (pa_cons (pv 2) (pa_cons (callO (ok__law_pick T) (hr.mono (by first | decide | omega)) (by rfl) (pa_cons (pv 2) (pa_cons (pe_lst (pa_cons (pe_S [97] (by decide)) (pa_cons (pe_S [97, 98] (by decide)) (pa_cons (pe_S [97, 98, 99] (by decide)) pa_nil)))) pa_nil))) pa_nil))) (fun _ => rfl)))) (pss_one (ps_ret pe_bl)) pss_nil)))))) (Evl.pss_cut (ps_set (i := 4) sc_law.nd rfl (by first | exact Or.inl rfl | exact Or.inr rfl) (pe_op (kk_mul (K := K) rfl) (pe_tup (pa_cons (pe_S [42, 97, 98] (by decide)) (pa_cons (pe_S [42, 97, 42, 42, 97, 98, 97] (by decide)) pa_nil))) pe_int)) (Evl.pss_cut (ps_set (i := 5) sc_law.nd rfl (by first | exact Or.inl rfl | exact Or.inr rfl) (pe_lst (pa_cons (callO (ok_is_equality_paper T) (hr.mono (by first | decide | omega)) (by rfl) (pa_cons (pe_S [42, 97, 98] (by decide)) (pa_cons (pe_S [42, 97, 42, 42, 97, 98, 97] (by decide)) (pa_cons (pe_tup (pa_cons (pe_S [101, 113, 117, 97, 108] (by decide)) (pa_cons (pv 4) pa_nil))) pa_nil)))) pa_nil))) (Evl.pss_cut (ps_expr (kk_bm (K := K) rfl (pe_bm PySem.F.plainAttrs_list PySem.F.slot_list_append PySem.F.type_list_append mt_append (pv 5) (pa_cons (callO (ok_is_equality_paper T) (hr.mono (by first | decide | omega)) (by rfl) (pa_cons (pe_S [42, 97, 98] (by decide)) (pa_cons (pe_S [42, 97, 98] (by decide)) (pa_cons (pe_tup (pa_cons (pe_S [101, 113, 117, 97, 108] (by decide)) (pa_cons (pe_op (kk_add (K := K) rfl) (pv 4) (pe_tup (pa_cons (pe_S [42, 97, 98] (by decide)) pa_nil))) pa_nil))) pa_nil)))) pa_nil)))) (Evl.pss_cut (ps_expr (kk_bm (K := K) rfl (pe_bm PySem.F.plainAttrs_list PySem.F.slot_list_append PySem.F.type_list_append mt_append (pv 5) (pa_cons (callO (ok_is_equality_paper T) (hr.mono (by first | decide | omega)) (by rfl) (pa_cons (pe_S [42, 42, 97, 98, 42, 98, 99] (by decide)) (pa_cons (pe_S [42, 42, 100, 98, 42, 98, 100] (by decide)) (pa_cons (pe_tup (pa_cons (pe_S [101, 113, 117, 97, 108] (by decide)) (pa_cons (pe_tup (pa_cons (pe_S [42, 42, 97, 98, 42, 98, 99] (by decide)) (pa_cons (pe_S [98] (by decide)) (pa_cons (pe_S [42, 42, 100, 98, 42, 98, 100] (by decide)) pa_nil)))) pa_nil))) pa_nil)))) pa_nil)))) (pss_one (ps_ret (pe_cmpR (kk_eq (K := K) rfl hr) (pv 5) (pe_lst (pa_cons pe_bl (pa_cons pe_bl (pa_cons pe_bl pa_nil)))) (nomark _))))))))), ?_⟩
    rw [st_law]
    walk_at "go"
    rw [for_viaR]
    walk_at "go"
    refine lenL ha ?_
    rw [List.length_map]
    walk_at "go"
    have hn : ∃ n : Int, n ≤ 3 ∧ -3 ≤ n ∧ (if (if (nums.length : Int) < 3 then (nums.length : Int) else 3) > 1 then (if (nums.length : Int) < 3 then (nums.length : Int) else 3) else 1) = n := ⟨_, by split <;> split <;> omega, by split <;> split <;> omega, rfl⟩
    obtain ⟨n, n4, n0, hn⟩ := hn
    rw [hn]
    refine loop_R (n := n) (fun Q q => q) (by omega) (fun i σ' H' => SqL K H' a (nums.map V.int) ∧ ∃ o1 o2 o3 : Option V, σ' = [some (.ref a), o1, o2, o3, none, none]) ⟨ha, none, none, none, rfl⟩ ?_ ?_
    · rintro i σ' H1 hi ⟨ha1, o1, o2, o3, rfl⟩
      walk_at "go"
      refine ⟨a, nums, i, rfl, ha1, by omega, fun d Hd hd0 ed hdc => ?_⟩
      walk_at "go"
      refine loop_R (n := 4) (fun Q q => q) (by omega) (fun j σ' H' => Fx d Hd H' ∧ ∃ o3 : Option V, σ' = [some (.ref a), some (.int (i : Nat)), some (.ref d), o3, none, none]) ⟨Fx.refl hdc, o3, rfl⟩ ?_ ?_
      · rintro j σ' H2 hj ⟨fx2, o3, rfl⟩
        walk_at "go"
        refine ⟨by decide, fun p hp => ?_⟩
        have fx3 := fx2.trans (Fx.of fx2.dc (Evl.Ex.new (o := .lst [S [97], S [97, 98], S [97, 98, 99]]) hp))
        have hpd : p ≠ d := not_dice fx2.dc hp
        refine pick_L fx3.dc hpd (SqL.of upd_same) (by simp) (by decide) fun x H3 hx fx4 => ?_
        obtain ⟨l, rfl, ln, ll, lL⟩ : ∃ l, x = S l ∧ l ≠ [] ∧ l.length ≤ 1000 ∧ ∀ c ∈ l, isL c = true := by
          simp only [List.mem_cons, List.not_mem_nil, or_false] at hx
          rcases hx with rfl | rfl | rfl <;> exact ⟨_, rfl, by decide, by decide, by decide⟩
        refine ⟨d, l, rfl, fx4.dc, ln, ll, lL, fun H4 fx5 => ?_⟩
        walk_at "go"
        exact ⟨(fx3.trans fx4).trans fx5, _, rfl⟩
      · rintro σ' H2 ⟨fx2, o3, rfl⟩
        exact ⟨SqL.fxF ha1 hd0 ed fx2, _, _, _, rfl⟩
    · rintro σ' H1 ⟨ha1, o1, o2, o3, rfl⟩
      refine Evl.q_cut (M := fun σ' G => ∃ q, σ' = [some (.ref a), o1, o2, o3, some (.ref q), none] ∧ G q = some (.tup (Ch LL))) ?_ ?_
      · refine go_asg (go_op (go_tup (ea_c (ea_c ea_nil)) (line_of (by simp)) fun p G1 e1 h1 => ?_))
        refine repT (SqT.of h1) (by simp) (by decide) (by decide) (by simp) fun q hq => end_new hq fun G2 e2 h2 => ?_
        exact ⟨q, rfl, by rw [h2, LL_ch]; rfl⟩
      · rintro σ' G1 ⟨q, rfl, hq⟩
        refine Evl.q_cut (M := fun σ' G => ∃ p, σ' = [some (.ref a), o1, o2, o3, some (.ref q), some (.ref p)] ∧ G q = some (.tup (Ch LL)) ∧ G p = some (.lst [.bl true])) ?_ ?_
        · walk_at "go"
          refine ⟨by decide, fun p hp => ?_⟩
          have e1 : Evl.Ex G1 (upd G1 p (.tup [S EQUAL, .ref q])) := Evl.Ex.new hp
          refine eq_run (t := A1) (u := A2) (ts := LL) mA1 mA2 upd_same (e1 _ _ hq) fLL (by rw [LL_len]; decide) fun G2 e2 => ?_
          rw [b1]
          refine ⟨by decide, fun p2 hp2 => ?_⟩
          exact ⟨p2, rfl, ((e1.trans e2).trans (Evl.Ex.new hp2)) _ _ hq, upd_same⟩
        · rintro σ' G2 ⟨p, rfl, hq2, hp2⟩
          refine Evl.q_cut (M := fun σ' G => ∃ p, σ' = [some (.ref a), o1, o2, o3, some (.ref q), some (.ref p)] ∧ G p = some (.lst [.bl true, .bl false])) ?_ ?_
          · walk_at "go"
            refine ⟨tyL hp2, by decide, fun p3 hp3 => ?_⟩
            have e3 : Evl.Ex G2 (upd G2 p3 (.tup (Ch [A1]))) := Evl.Ex.new hp3
            have h3 : (upd G2 p3 (.tup (Ch [A1]))) p3 = some (.tup (Ch [A1])) := upd_same
            revert e3 h3
            show _ → _ → kAdd K (.ref q) (.ref p3) (upd G2 p3 (.tup (Ch [A1]))) _
            generalize upd G2 p3 (.tup (Ch [A1])) = G3
            intro e3 h3
            refine catT (e3 _ _ hq2) h3 (by rw [List.length_map, LL_len]; simp) fun p4 G4 e4 h4 => ?_
            refine ⟨by decide, fun p5 hp5 => ?_⟩
            have e5 : Evl.Ex G4 (upd G4 p5 (.tup [S EQUAL, .ref p4])) := Evl.Ex.new hp5
            refine eq_run (t := A1) (u := A1) (ts := LL ++ [A1]) mA1 mA1 upd_same (e5 _ _ (by rw [h4]; simp [Ch])) fLL1 (by rw [List.length_append, LL_len]; decide) fun G5 e6 => ?_
            rw [b2]
            refine rApp ((((e3.trans e4).trans e5).trans e6) _ _ hp2) (by simp) ?_
            exact ⟨p, rfl, upd_same⟩
          · rintro σ' G3 ⟨p, rfl, hp3⟩
            refine Evl.q_cut (M := fun σ' G => ∃ p, σ' = [some (.ref a), o1, o2, o3, some (.ref q), some (.ref p)] ∧ G p = some (.lst [.bl true, .bl false, .bl true])) ?_ ?_
            · walk_at "go"
              refine ⟨tyL hp3, by decide, fun p4 hp4 => ⟨by decide, fun p5 hp5 => ?_⟩⟩
              have e4 : Evl.Ex G3 (upd G3 p4 (.tup (Ch [A3, A4, A5]))) := Evl.Ex.new hp4
              have e5 : Evl.Ex (upd G3 p4 (.tup (Ch [A3, A4, A5]))) (upd (upd G3 p4 (.tup (Ch [A3, A4, A5]))) p5 (.tup [S EQUAL, .ref p4])) := Evl.Ex.new hp5
              refine eq_run (t := A3) (u := A5) (ts := [A3, A4, A5]) mA3 mA5 upd_same (e5 _ _ upd_same) (fun x hx => ?_) (by decide) fun G5 e6 => ?_
              · simp only [List.mem_cons, List.not_mem_nil, or_false] at hx
                rcases hx with rfl | rfl | rfl
                · exact mA3
                · exact mA4
                · exact mA5
              rw [b3]
              refine rApp (((e4.trans e5).trans e6) _ _ hp3) (by simp) ?_
              exact ⟨p, rfl, upd_same⟩
            · rintro σ' G4 ⟨p, rfl, hp4⟩
              walk_at "go"
              refine ⟨by decide, fun p2 hp2 => kEq_D.mpr ⟨.list [.bool true, .bool false, .bool true], .list [.bool true, .bool false, .bool true], .lst (SqL.of (Evl.Ex.new hp2 _ _ hp4)) (.cons (.bl _) (.cons (.bl _) (.cons (.bl _) .nil))), .lst (SqL.of upd_same) (.cons (.bl _) (.cons (.bl _) (.cons (.bl _) .nil))), by decide +kernel, by decide +kernel, ?_⟩⟩
              rw [show PyData.eqv (.list [.bool true, .bool false, .bool true]) (.list [.bool true, .bool false, .bool true]) = true by decide +kernel]
              exact k _
end
end LW

end

section
set_option maxHeartbeats 8000000
namespace LW
open PySem PySem.Spec PyProof.Rows L2 KG KT

def mkDf {K : PySem.W.Frag} {mg : Str → Option Value} {h : Heap} {x : Str} {st : Stmt} {ps : List Str} {f : Addr} {od an : Option Addr} {sl : Array (Option Value)} {oc kV dc pm cd ct : Value} (X : K.In h) (G : h.Ns mainGlobals mg)
    (a : PySem.W.nsIn K mainGlobals x = some (some (.ref f))) (l : K.lookup f = some ⟨oc, od, .func (PySem.W.fnOf x x (defArgs st) (defBody st) (defScope st) .none kV dc pm an cd ct), sl⟩) (c : PySem.W.codeIn K cd x = true) (k : PySem.W.keepIn K (.ref f) = true)
    (b : ∀ (kV doc pm : Value) (an : Option Addr) (cdv ct : Value) (us : List Value), us.length = ps.length → bindArgs (PySem.W.fnOf x x (defArgs st) (defBody st) (defScope st) .none kV doc pm an cdv ct) ⟨us, []⟩ = pure (ps.zip us)) : Df K mg x st ps :=
  { f := f, fd := _, F := fun_mk l c k, g := PySem.W.mg_of X G a, b := (fun_mk (st := st) l c k).binds b }
theorem relS {l : List Nat} {z : Str} {t : Tok} (h : z.cps.toList = l) : RelV (S l) (.str z t) := ⟨t, by rw [← h]⟩
theorem mkTup {K : PySem.W.Frag} {a : Addr} {xs : List V} {od : Option Addr} {its : Array Value} {n : Nat} {sl : Array (Option Value)} (l : K.lookup a = some ⟨.type "tuple", od, .seq its n, sl⟩) (hz : its.size ≤ sizeLine) (v : Vals xs its.toList) : KTup K a xs := ⟨_, its, n, l, rfl, rfl, hz, v⟩
theorem fin {K : PySem.W.Frag} {h : Heap} {mg : Str → Option Value} {fa : Addr} {P : Program} {w : World} (X : K.In h) (G : h.Ns mainGlobals mg) (hfa : mg "law" = some (.ref fa))
    {k_LETTERS : Tok}
    {k_MAX_LETTERS : Tok}
    {k_STAR : Tok}
    {k_MAX_CHAIN : Tok}
    {k_EQUAL : Tok}
    {k_UNEQUAL : Tok}
    {R r1 r2 r3 : Addr} {oR o1 o2 o3 : Option Addr} {nR n1 n2 n3 : Nat} {sR s1 s2 s3 : Array (Option Value)} {y11 y12 y21 y22 y31 y32 : Tok}
    {f_is_letter : Addr} {od_is_letter an_is_letter : Option Addr} {sl_is_letter : Array (Option Value)} {oc_is_letter kV_is_letter dc_is_letter pm_is_letter cd_is_letter ct_is_letter : Value}
    {f_is_term : Addr} {od_is_term an_is_term : Option Addr} {sl_is_term : Array (Option Value)} {oc_is_term kV_is_term dc_is_term pm_is_term cd_is_term ct_is_term : Value}
    {f_require_term : Addr} {od_require_term an_require_term : Option Addr} {sl_require_term : Array (Option Value)} {oc_require_term kV_require_term dc_require_term pm_require_term cd_require_term ct_require_term : Value}
    {f_end_of : Addr} {od_end_of an_end_of : Option Addr} {sl_end_of : Array (Option Value)} {oc_end_of kV_end_of dc_end_of pm_end_of cd_end_of ct_end_of : Value}
    {f_part_in : Addr} {od_part_in an_part_in : Option Addr} {sl_part_in : Array (Option Value)} {oc_part_in kV_part_in dc_part_in pm_part_in cd_part_in ct_part_in : Value}
    {f_put_in : Addr} {od_put_in an_put_in : Option Addr} {sl_put_in : Array (Option Value)} {oc_put_in kV_put_in dc_put_in pm_put_in cd_put_in ct_put_in : Value}
    {f_substituted_in : Addr} {od_substituted_in an_substituted_in : Option Addr} {sl_substituted_in : Array (Option Value)} {oc_substituted_in kV_substituted_in dc_substituted_in pm_substituted_in cd_substituted_in ct_substituted_in : Value}
    {f_match_in : Addr} {od_match_in an_match_in : Option Addr} {sl_match_in : Array (Option Value)} {oc_match_in kV_match_in dc_match_in pm_match_in cd_match_in ct_match_in : Value}
    {f_each_step : Addr} {od_each_step an_each_step : Option Addr} {sl_each_step : Array (Option Value)} {oc_each_step kV_each_step dc_each_step pm_each_step cd_each_step ct_each_step : Value}
    {f_first_step : Addr} {od_first_step an_first_step : Option Addr} {sl_first_step : Array (Option Value)} {oc_first_step kV_first_step dc_first_step pm_first_step cd_first_step ct_first_step : Value}
    {f_has_step : Addr} {od_has_step an_has_step : Option Addr} {sl_has_step : Array (Option Value)} {oc_has_step kV_has_step dc_has_step pm_has_step cd_has_step ct_has_step : Value}
    {f_require_terms : Addr} {od_require_terms an_require_terms : Option Addr} {sl_require_terms : Array (Option Value)} {oc_require_terms kV_require_terms dc_require_terms pm_require_terms cd_require_terms ct_require_terms : Value}
    {f_leads_down : Addr} {od_leads_down an_leads_down : Option Addr} {sl_leads_down : Array (Option Value)} {oc_leads_down kV_leads_down dc_leads_down pm_leads_down cd_leads_down ct_leads_down : Value}
    {f_are_chain : Addr} {od_are_chain an_are_chain : Option Addr} {sl_are_chain : Array (Option Value)} {oc_are_chain kV_are_chain dc_are_chain pm_are_chain cd_are_chain ct_are_chain : Value}
    {f_is_equal_chain : Addr} {od_is_equal_chain an_is_equal_chain : Option Addr} {sl_is_equal_chain : Array (Option Value)} {oc_is_equal_chain kV_is_equal_chain dc_is_equal_chain pm_is_equal_chain cd_is_equal_chain ct_is_equal_chain : Value}
    {f_is_down_chain : Addr} {od_is_down_chain an_is_down_chain : Option Addr} {sl_is_down_chain : Array (Option Value)} {oc_is_down_chain kV_is_down_chain dc_is_down_chain pm_is_down_chain cd_is_down_chain ct_is_down_chain : Value}
    {f_is_equality_paper : Addr} {od_is_equality_paper an_is_equality_paper : Option Addr} {sl_is_equality_paper : Array (Option Value)} {oc_is_equality_paper kV_is_equality_paper dc_is_equality_paper pm_is_equality_paper cd_is_equality_paper ct_is_equality_paper : Value}
    {f__law_dice : Addr} {od__law_dice an__law_dice : Option Addr} {sl__law_dice : Array (Option Value)} {oc__law_dice kV__law_dice dc__law_dice pm__law_dice cd__law_dice ct__law_dice : Value}
    {f__law_roll : Addr} {od__law_roll an__law_roll : Option Addr} {sl__law_roll : Array (Option Value)} {oc__law_roll kV__law_roll dc__law_roll pm__law_roll cd__law_roll ct__law_roll : Value}
    {f__law_pick : Addr} {od__law_pick an__law_pick : Option Addr} {sl__law_pick : Array (Option Value)} {oc__law_pick kV__law_pick dc__law_pick pm__law_pick cd__law_pick ct__law_pick : Value}
    {f__law_grown_term : Addr} {od__law_grown_term an__law_grown_term : Option Addr} {sl__law_grown_term : Array (Option Value)} {oc__law_grown_term kV__law_grown_term dc__law_grown_term pm__law_grown_term cd__law_grown_term ct__law_grown_term : Value}
    {f__law_part_of : Addr} {od__law_part_of an__law_part_of : Option Addr} {sl__law_part_of : Array (Option Value)} {oc__law_part_of kV__law_part_of dc__law_part_of pm__law_part_of cd__law_part_of ct__law_part_of : Value}
    {f__law_sides : Addr} {od__law_sides an__law_sides : Option Addr} {sl__law_sides : Array (Option Value)} {oc__law_sides kV__law_sides dc__law_sides pm__law_sides cd__law_sides ct__law_sides : Value}
    {f__law_rule_results : Addr} {od__law_rule_results an__law_rule_results : Option Addr} {sl__law_rule_results : Array (Option Value)} {oc__law_rule_results kV__law_rule_results dc__law_rule_results pm__law_rule_results cd__law_rule_results ct__law_rule_results : Value}
    {f__law_steps : Addr} {od__law_steps an__law_steps : Option Addr} {sl__law_steps : Array (Option Value)} {oc__law_steps kV__law_steps dc__law_steps pm__law_steps cd__law_steps ct__law_steps : Value}
    {f__law_down : Addr} {od__law_down an__law_down : Option Addr} {sl__law_down : Array (Option Value)} {oc__law_down kV__law_down dc__law_down pm__law_down cd__law_down ct__law_down : Value}
    {f__law_up : Addr} {od__law_up an__law_up : Option Addr} {sl__law_up : Array (Option Value)} {oc__law_up kV__law_up dc__law_up pm__law_up cd__law_up ct__law_up : Value}
    {f__law_leads : Addr} {od__law_leads an__law_leads : Option Addr} {sl__law_leads : Array (Option Value)} {oc__law_leads kV__law_leads dc__law_leads pm__law_leads cd__law_leads ct__law_leads : Value}
    {f__law_takes : Addr} {od__law_takes an__law_takes : Option Addr} {sl__law_takes : Array (Option Value)} {oc__law_takes kV__law_takes dc__law_takes pm__law_takes cd__law_takes ct__law_takes : Value}
    {f__law_takes_down : Addr} {od__law_takes_down an__law_takes_down : Option Addr} {sl__law_takes_down : Array (Option Value)} {oc__law_takes_down kV__law_takes_down dc__law_takes_down pm__law_takes_down cd__law_takes_down ct__law_takes_down : Value}
    {f__law_near : Addr} {od__law_near an__law_near : Option Addr} {sl__law_near : Array (Option Value)} {oc__law_near kV__law_near dc__law_near pm__law_near cd__law_near ct__law_near : Value}
    {f__law_right : Addr} {od__law_right an__law_right : Option Addr} {sl__law_right : Array (Option Value)} {oc__law_right kV__law_right dc__law_right pm__law_right cd__law_right ct__law_right : Value}
    {f_law : Addr} {od_law an_law : Option Addr} {sl_law : Array (Option Value)} {oc_law kV_law dc_law pm_law cd_law ct_law : Value}
    (z_abs : PySem.W.nsIn K mainGlobals "abs" = some none)
    (z_all : PySem.W.nsIn K mainGlobals "all" = some none)
    (z_any : PySem.W.nsIn K mainGlobals "any" = some none)
    (z_enumerate : PySem.W.nsIn K mainGlobals "enumerate" = some none)
    (z_int : PySem.W.nsIn K mainGlobals "int" = some none)
    (z_isinstance : PySem.W.nsIn K mainGlobals "isinstance" = some none)
    (z_len : PySem.W.nsIn K mainGlobals "len" = some none)
    (z_list : PySem.W.nsIn K mainGlobals "list" = some none)
    (z_max : PySem.W.nsIn K mainGlobals "max" = some none)
    (z_min : PySem.W.nsIn K mainGlobals "min" = some none)
    (z_range : PySem.W.nsIn K mainGlobals "range" = some none)
    (z_repr : PySem.W.nsIn K mainGlobals "repr" = some none)
    (z_str : PySem.W.nsIn K mainGlobals "str" = some none)
    (z_tuple : PySem.W.nsIn K mainGlobals "tuple" = some none)
    (z_zip : PySem.W.nsIn K mainGlobals "zip" = some none)
    (v_LETTERS : PySem.W.nsIn K mainGlobals "LETTERS" = some (some (.str "abcdefghijklmnopqrstuvwxyz" k_LETTERS)))
    (v_MAX_LETTERS : PySem.W.nsIn K mainGlobals "MAX_LETTERS" = some (some (.int 200 k_MAX_LETTERS)))
    (v_STAR : PySem.W.nsIn K mainGlobals "STAR" = some (some (.str "*" k_STAR)))
    (v_MAX_CHAIN : PySem.W.nsIn K mainGlobals "MAX_CHAIN" = some (some (.int 400 k_MAX_CHAIN)))
    (v_EQUAL : PySem.W.nsIn K mainGlobals "EQUAL" = some (some (.str "equal" k_EQUAL)))
    (v_UNEQUAL : PySem.W.nsIn K mainGlobals "UNEQUAL" = some (some (.str "unequal" k_UNEQUAL)))
    (aR : PySem.W.nsIn K mainGlobals "RULES" = some (some (.ref R))) (lR : K.lookup R = some ⟨.type "tuple", oR, .seq #[.ref r1, .ref r2, .ref r3] nR, sR⟩)
    (l1 : K.lookup r1 = some ⟨.type "tuple", o1, .seq #[.str "**xy*yz" y11, .str "y" y12] n1, s1⟩) (l2 : K.lookup r2 = some ⟨.type "tuple", o2, .seq #[.str "*x**xyz" y21, .str "*xy" y22] n2, s2⟩) (l3 : K.lookup r3 = some ⟨.type "tuple", o3, .seq #[.str "**x*yzz" y31, .str "*yz" y32] n3, s3⟩)
    (a_is_letter : PySem.W.nsIn K mainGlobals "is_letter" = some (some (.ref f_is_letter)))
    (l_is_letter : K.lookup f_is_letter = some ⟨oc_is_letter, od_is_letter, .func (PySem.W.fnOf "is_letter" "is_letter" (defArgs s_is_letter) (defBody s_is_letter) (defScope s_is_letter) .none kV_is_letter dc_is_letter pm_is_letter an_is_letter cd_is_letter ct_is_letter), sl_is_letter⟩)
    (c_is_letter : PySem.W.codeIn K cd_is_letter "is_letter" = true) (k_is_letter : PySem.W.keepIn K (.ref f_is_letter) = true)
    (a_is_term : PySem.W.nsIn K mainGlobals "is_term" = some (some (.ref f_is_term)))
    (l_is_term : K.lookup f_is_term = some ⟨oc_is_term, od_is_term, .func (PySem.W.fnOf "is_term" "is_term" (defArgs s_is_term) (defBody s_is_term) (defScope s_is_term) .none kV_is_term dc_is_term pm_is_term an_is_term cd_is_term ct_is_term), sl_is_term⟩)
    (c_is_term : PySem.W.codeIn K cd_is_term "is_term" = true) (k_is_term : PySem.W.keepIn K (.ref f_is_term) = true)
    (a_require_term : PySem.W.nsIn K mainGlobals "require_term" = some (some (.ref f_require_term)))
    (l_require_term : K.lookup f_require_term = some ⟨oc_require_term, od_require_term, .func (PySem.W.fnOf "require_term" "require_term" (defArgs s_require_term) (defBody s_require_term) (defScope s_require_term) .none kV_require_term dc_require_term pm_require_term an_require_term cd_require_term ct_require_term), sl_require_term⟩)
    (c_require_term : PySem.W.codeIn K cd_require_term "require_term" = true) (k_require_term : PySem.W.keepIn K (.ref f_require_term) = true)
    (a_end_of : PySem.W.nsIn K mainGlobals "end_of" = some (some (.ref f_end_of)))
    (l_end_of : K.lookup f_end_of = some ⟨oc_end_of, od_end_of, .func (PySem.W.fnOf "end_of" "end_of" (defArgs s_end_of) (defBody s_end_of) (defScope s_end_of) .none kV_end_of dc_end_of pm_end_of an_end_of cd_end_of ct_end_of), sl_end_of⟩)
    (c_end_of : PySem.W.codeIn K cd_end_of "end_of" = true) (k_end_of : PySem.W.keepIn K (.ref f_end_of) = true)
    (a_part_in : PySem.W.nsIn K mainGlobals "part_in" = some (some (.ref f_part_in)))
    (l_part_in : K.lookup f_part_in = some ⟨oc_part_in, od_part_in, .func (PySem.W.fnOf "part_in" "part_in" (defArgs s_part_in) (defBody s_part_in) (defScope s_part_in) .none kV_part_in dc_part_in pm_part_in an_part_in cd_part_in ct_part_in), sl_part_in⟩)
    (c_part_in : PySem.W.codeIn K cd_part_in "part_in" = true) (k_part_in : PySem.W.keepIn K (.ref f_part_in) = true)
    (a_put_in : PySem.W.nsIn K mainGlobals "put_in" = some (some (.ref f_put_in)))
    (l_put_in : K.lookup f_put_in = some ⟨oc_put_in, od_put_in, .func (PySem.W.fnOf "put_in" "put_in" (defArgs s_put_in) (defBody s_put_in) (defScope s_put_in) .none kV_put_in dc_put_in pm_put_in an_put_in cd_put_in ct_put_in), sl_put_in⟩)
    (c_put_in : PySem.W.codeIn K cd_put_in "put_in" = true) (k_put_in : PySem.W.keepIn K (.ref f_put_in) = true)
    (a_substituted_in : PySem.W.nsIn K mainGlobals "substituted_in" = some (some (.ref f_substituted_in)))
    (l_substituted_in : K.lookup f_substituted_in = some ⟨oc_substituted_in, od_substituted_in, .func (PySem.W.fnOf "substituted_in" "substituted_in" (defArgs s_substituted_in) (defBody s_substituted_in) (defScope s_substituted_in) .none kV_substituted_in dc_substituted_in pm_substituted_in an_substituted_in cd_substituted_in ct_substituted_in), sl_substituted_in⟩)
    (c_substituted_in : PySem.W.codeIn K cd_substituted_in "substituted_in" = true) (k_substituted_in : PySem.W.keepIn K (.ref f_substituted_in) = true)
    (a_match_in : PySem.W.nsIn K mainGlobals "match_in" = some (some (.ref f_match_in)))
    (l_match_in : K.lookup f_match_in = some ⟨oc_match_in, od_match_in, .func (PySem.W.fnOf "match_in" "match_in" (defArgs s_match_in) (defBody s_match_in) (defScope s_match_in) .none kV_match_in dc_match_in pm_match_in an_match_in cd_match_in ct_match_in), sl_match_in⟩)
    (c_match_in : PySem.W.codeIn K cd_match_in "match_in" = true) (k_match_in : PySem.W.keepIn K (.ref f_match_in) = true)
    (a_each_step : PySem.W.nsIn K mainGlobals "each_step" = some (some (.ref f_each_step)))
    (l_each_step : K.lookup f_each_step = some ⟨oc_each_step, od_each_step, .func (PySem.W.fnOf "each_step" "each_step" (defArgs s_each_step) (defBody s_each_step) (defScope s_each_step) .none kV_each_step dc_each_step pm_each_step an_each_step cd_each_step ct_each_step), sl_each_step⟩)
    (c_each_step : PySem.W.codeIn K cd_each_step "each_step" = true) (k_each_step : PySem.W.keepIn K (.ref f_each_step) = true)
    (a_first_step : PySem.W.nsIn K mainGlobals "first_step" = some (some (.ref f_first_step)))
    (l_first_step : K.lookup f_first_step = some ⟨oc_first_step, od_first_step, .func (PySem.W.fnOf "first_step" "first_step" (defArgs s_first_step) (defBody s_first_step) (defScope s_first_step) .none kV_first_step dc_first_step pm_first_step an_first_step cd_first_step ct_first_step), sl_first_step⟩)
    (c_first_step : PySem.W.codeIn K cd_first_step "first_step" = true) (k_first_step : PySem.W.keepIn K (.ref f_first_step) = true)
    (a_has_step : PySem.W.nsIn K mainGlobals "has_step" = some (some (.ref f_has_step)))
    (l_has_step : K.lookup f_has_step = some ⟨oc_has_step, od_has_step, .func (PySem.W.fnOf "has_step" "has_step" (defArgs s_has_step) (defBody s_has_step) (defScope s_has_step) .none kV_has_step dc_has_step pm_has_step an_has_step cd_has_step ct_has_step), sl_has_step⟩)
    (c_has_step : PySem.W.codeIn K cd_has_step "has_step" = true) (k_has_step : PySem.W.keepIn K (.ref f_has_step) = true)
    (a_require_terms : PySem.W.nsIn K mainGlobals "require_terms" = some (some (.ref f_require_terms)))
    (l_require_terms : K.lookup f_require_terms = some ⟨oc_require_terms, od_require_terms, .func (PySem.W.fnOf "require_terms" "require_terms" (defArgs s_require_terms) (defBody s_require_terms) (defScope s_require_terms) .none kV_require_terms dc_require_terms pm_require_terms an_require_terms cd_require_terms ct_require_terms), sl_require_terms⟩)
    (c_require_terms : PySem.W.codeIn K cd_require_terms "require_terms" = true) (k_require_terms : PySem.W.keepIn K (.ref f_require_terms) = true)
    (a_leads_down : PySem.W.nsIn K mainGlobals "leads_down" = some (some (.ref f_leads_down)))
    (l_leads_down : K.lookup f_leads_down = some ⟨oc_leads_down, od_leads_down, .func (PySem.W.fnOf "leads_down" "leads_down" (defArgs s_leads_down) (defBody s_leads_down) (defScope s_leads_down) .none kV_leads_down dc_leads_down pm_leads_down an_leads_down cd_leads_down ct_leads_down), sl_leads_down⟩)
    (c_leads_down : PySem.W.codeIn K cd_leads_down "leads_down" = true) (k_leads_down : PySem.W.keepIn K (.ref f_leads_down) = true)
    (a_are_chain : PySem.W.nsIn K mainGlobals "are_chain" = some (some (.ref f_are_chain)))
    (l_are_chain : K.lookup f_are_chain = some ⟨oc_are_chain, od_are_chain, .func (PySem.W.fnOf "are_chain" "are_chain" (defArgs s_are_chain) (defBody s_are_chain) (defScope s_are_chain) .none kV_are_chain dc_are_chain pm_are_chain an_are_chain cd_are_chain ct_are_chain), sl_are_chain⟩)
    (c_are_chain : PySem.W.codeIn K cd_are_chain "are_chain" = true) (k_are_chain : PySem.W.keepIn K (.ref f_are_chain) = true)
    (a_is_equal_chain : PySem.W.nsIn K mainGlobals "is_equal_chain" = some (some (.ref f_is_equal_chain)))
    (l_is_equal_chain : K.lookup f_is_equal_chain = some ⟨oc_is_equal_chain, od_is_equal_chain, .func (PySem.W.fnOf "is_equal_chain" "is_equal_chain" (defArgs s_is_equal_chain) (defBody s_is_equal_chain) (defScope s_is_equal_chain) .none kV_is_equal_chain dc_is_equal_chain pm_is_equal_chain an_is_equal_chain cd_is_equal_chain ct_is_equal_chain), sl_is_equal_chain⟩)
    (c_is_equal_chain : PySem.W.codeIn K cd_is_equal_chain "is_equal_chain" = true) (k_is_equal_chain : PySem.W.keepIn K (.ref f_is_equal_chain) = true)
    (a_is_down_chain : PySem.W.nsIn K mainGlobals "is_down_chain" = some (some (.ref f_is_down_chain)))
    (l_is_down_chain : K.lookup f_is_down_chain = some ⟨oc_is_down_chain, od_is_down_chain, .func (PySem.W.fnOf "is_down_chain" "is_down_chain" (defArgs s_is_down_chain) (defBody s_is_down_chain) (defScope s_is_down_chain) .none kV_is_down_chain dc_is_down_chain pm_is_down_chain an_is_down_chain cd_is_down_chain ct_is_down_chain), sl_is_down_chain⟩)
    (c_is_down_chain : PySem.W.codeIn K cd_is_down_chain "is_down_chain" = true) (k_is_down_chain : PySem.W.keepIn K (.ref f_is_down_chain) = true)
    (a_is_equality_paper : PySem.W.nsIn K mainGlobals "is_equality_paper" = some (some (.ref f_is_equality_paper)))
    (l_is_equality_paper : K.lookup f_is_equality_paper = some ⟨oc_is_equality_paper, od_is_equality_paper, .func (PySem.W.fnOf "is_equality_paper" "is_equality_paper" (defArgs s_is_equality_paper) (defBody s_is_equality_paper) (defScope s_is_equality_paper) .none kV_is_equality_paper dc_is_equality_paper pm_is_equality_paper an_is_equality_paper cd_is_equality_paper ct_is_equality_paper), sl_is_equality_paper⟩)
    (c_is_equality_paper : PySem.W.codeIn K cd_is_equality_paper "is_equality_paper" = true) (k_is_equality_paper : PySem.W.keepIn K (.ref f_is_equality_paper) = true)
    (a__law_dice : PySem.W.nsIn K mainGlobals "_law_dice" = some (some (.ref f__law_dice)))
    (l__law_dice : K.lookup f__law_dice = some ⟨oc__law_dice, od__law_dice, .func (PySem.W.fnOf "_law_dice" "_law_dice" (defArgs s__law_dice) (defBody s__law_dice) (defScope s__law_dice) .none kV__law_dice dc__law_dice pm__law_dice an__law_dice cd__law_dice ct__law_dice), sl__law_dice⟩)
    (c__law_dice : PySem.W.codeIn K cd__law_dice "_law_dice" = true) (k__law_dice : PySem.W.keepIn K (.ref f__law_dice) = true)
    (a__law_roll : PySem.W.nsIn K mainGlobals "_law_roll" = some (some (.ref f__law_roll)))
    (l__law_roll : K.lookup f__law_roll = some ⟨oc__law_roll, od__law_roll, .func (PySem.W.fnOf "_law_roll" "_law_roll" (defArgs s__law_roll) (defBody s__law_roll) (defScope s__law_roll) .none kV__law_roll dc__law_roll pm__law_roll an__law_roll cd__law_roll ct__law_roll), sl__law_roll⟩)
    (c__law_roll : PySem.W.codeIn K cd__law_roll "_law_roll" = true) (k__law_roll : PySem.W.keepIn K (.ref f__law_roll) = true)
    (a__law_pick : PySem.W.nsIn K mainGlobals "_law_pick" = some (some (.ref f__law_pick)))
    (l__law_pick : K.lookup f__law_pick = some ⟨oc__law_pick, od__law_pick, .func (PySem.W.fnOf "_law_pick" "_law_pick" (defArgs s__law_pick) (defBody s__law_pick) (defScope s__law_pick) .none kV__law_pick dc__law_pick pm__law_pick an__law_pick cd__law_pick ct__law_pick), sl__law_pick⟩)
    (c__law_pick : PySem.W.codeIn K cd__law_pick "_law_pick" = true) (k__law_pick : PySem.W.keepIn K (.ref f__law_pick) = true)
    (a__law_grown_term : PySem.W.nsIn K mainGlobals "_law_grown_term" = some (some (.ref f__law_grown_term)))
    (l__law_grown_term : K.lookup f__law_grown_term = some ⟨oc__law_grown_term, od__law_grown_term, .func (PySem.W.fnOf "_law_grown_term" "_law_grown_term" (defArgs s__law_grown_term) (defBody s__law_grown_term) (defScope s__law_grown_term) .none kV__law_grown_term dc__law_grown_term pm__law_grown_term an__law_grown_term cd__law_grown_term ct__law_grown_term), sl__law_grown_term⟩)
    (c__law_grown_term : PySem.W.codeIn K cd__law_grown_term "_law_grown_term" = true) (k__law_grown_term : PySem.W.keepIn K (.ref f__law_grown_term) = true)
    (a__law_part_of : PySem.W.nsIn K mainGlobals "_law_part_of" = some (some (.ref f__law_part_of)))
    (l__law_part_of : K.lookup f__law_part_of = some ⟨oc__law_part_of, od__law_part_of, .func (PySem.W.fnOf "_law_part_of" "_law_part_of" (defArgs s__law_part_of) (defBody s__law_part_of) (defScope s__law_part_of) .none kV__law_part_of dc__law_part_of pm__law_part_of an__law_part_of cd__law_part_of ct__law_part_of), sl__law_part_of⟩)
    (c__law_part_of : PySem.W.codeIn K cd__law_part_of "_law_part_of" = true) (k__law_part_of : PySem.W.keepIn K (.ref f__law_part_of) = true)
    (a__law_sides : PySem.W.nsIn K mainGlobals "_law_sides" = some (some (.ref f__law_sides)))
    (l__law_sides : K.lookup f__law_sides = some ⟨oc__law_sides, od__law_sides, .func (PySem.W.fnOf "_law_sides" "_law_sides" (defArgs s__law_sides) (defBody s__law_sides) (defScope s__law_sides) .none kV__law_sides dc__law_sides pm__law_sides an__law_sides cd__law_sides ct__law_sides), sl__law_sides⟩)
    (c__law_sides : PySem.W.codeIn K cd__law_sides "_law_sides" = true) (k__law_sides : PySem.W.keepIn K (.ref f__law_sides) = true)
    (a__law_rule_results : PySem.W.nsIn K mainGlobals "_law_rule_results" = some (some (.ref f__law_rule_results)))
    (l__law_rule_results : K.lookup f__law_rule_results = some ⟨oc__law_rule_results, od__law_rule_results, .func (PySem.W.fnOf "_law_rule_results" "_law_rule_results" (defArgs s__law_rule_results) (defBody s__law_rule_results) (defScope s__law_rule_results) .none kV__law_rule_results dc__law_rule_results pm__law_rule_results an__law_rule_results cd__law_rule_results ct__law_rule_results), sl__law_rule_results⟩)
    (c__law_rule_results : PySem.W.codeIn K cd__law_rule_results "_law_rule_results" = true) (k__law_rule_results : PySem.W.keepIn K (.ref f__law_rule_results) = true)
    (a__law_steps : PySem.W.nsIn K mainGlobals "_law_steps" = some (some (.ref f__law_steps)))
    (l__law_steps : K.lookup f__law_steps = some ⟨oc__law_steps, od__law_steps, .func (PySem.W.fnOf "_law_steps" "_law_steps" (defArgs s__law_steps) (defBody s__law_steps) (defScope s__law_steps) .none kV__law_steps dc__law_steps pm__law_steps an__law_steps cd__law_steps ct__law_steps), sl__law_steps⟩)
    (c__law_steps : PySem.W.codeIn K cd__law_steps "_law_steps" = true) (k__law_steps : PySem.W.keepIn K (.ref f__law_steps) = true)
    (a__law_down : PySem.W.nsIn K mainGlobals "_law_down" = some (some (.ref f__law_down)))
    (l__law_down : K.lookup f__law_down = some ⟨oc__law_down, od__law_down, .func (PySem.W.fnOf "_law_down" "_law_down" (defArgs s__law_down) (defBody s__law_down) (defScope s__law_down) .none kV__law_down dc__law_down pm__law_down an__law_down cd__law_down ct__law_down), sl__law_down⟩)
    (c__law_down : PySem.W.codeIn K cd__law_down "_law_down" = true) (k__law_down : PySem.W.keepIn K (.ref f__law_down) = true)
    (a__law_up : PySem.W.nsIn K mainGlobals "_law_up" = some (some (.ref f__law_up)))
    (l__law_up : K.lookup f__law_up = some ⟨oc__law_up, od__law_up, .func (PySem.W.fnOf "_law_up" "_law_up" (defArgs s__law_up) (defBody s__law_up) (defScope s__law_up) .none kV__law_up dc__law_up pm__law_up an__law_up cd__law_up ct__law_up), sl__law_up⟩)
    (c__law_up : PySem.W.codeIn K cd__law_up "_law_up" = true) (k__law_up : PySem.W.keepIn K (.ref f__law_up) = true)
    (a__law_leads : PySem.W.nsIn K mainGlobals "_law_leads" = some (some (.ref f__law_leads)))
    (l__law_leads : K.lookup f__law_leads = some ⟨oc__law_leads, od__law_leads, .func (PySem.W.fnOf "_law_leads" "_law_leads" (defArgs s__law_leads) (defBody s__law_leads) (defScope s__law_leads) .none kV__law_leads dc__law_leads pm__law_leads an__law_leads cd__law_leads ct__law_leads), sl__law_leads⟩)
    (c__law_leads : PySem.W.codeIn K cd__law_leads "_law_leads" = true) (k__law_leads : PySem.W.keepIn K (.ref f__law_leads) = true)
    (a__law_takes : PySem.W.nsIn K mainGlobals "_law_takes" = some (some (.ref f__law_takes)))
    (l__law_takes : K.lookup f__law_takes = some ⟨oc__law_takes, od__law_takes, .func (PySem.W.fnOf "_law_takes" "_law_takes" (defArgs s__law_takes) (defBody s__law_takes) (defScope s__law_takes) .none kV__law_takes dc__law_takes pm__law_takes an__law_takes cd__law_takes ct__law_takes), sl__law_takes⟩)
    (c__law_takes : PySem.W.codeIn K cd__law_takes "_law_takes" = true) (k__law_takes : PySem.W.keepIn K (.ref f__law_takes) = true)
    (a__law_takes_down : PySem.W.nsIn K mainGlobals "_law_takes_down" = some (some (.ref f__law_takes_down)))
    (l__law_takes_down : K.lookup f__law_takes_down = some ⟨oc__law_takes_down, od__law_takes_down, .func (PySem.W.fnOf "_law_takes_down" "_law_takes_down" (defArgs s__law_takes_down) (defBody s__law_takes_down) (defScope s__law_takes_down) .none kV__law_takes_down dc__law_takes_down pm__law_takes_down an__law_takes_down cd__law_takes_down ct__law_takes_down), sl__law_takes_down⟩)
    (c__law_takes_down : PySem.W.codeIn K cd__law_takes_down "_law_takes_down" = true) (k__law_takes_down : PySem.W.keepIn K (.ref f__law_takes_down) = true)
    (a__law_near : PySem.W.nsIn K mainGlobals "_law_near" = some (some (.ref f__law_near)))
    (l__law_near : K.lookup f__law_near = some ⟨oc__law_near, od__law_near, .func (PySem.W.fnOf "_law_near" "_law_near" (defArgs s__law_near) (defBody s__law_near) (defScope s__law_near) .none kV__law_near dc__law_near pm__law_near an__law_near cd__law_near ct__law_near), sl__law_near⟩)
    (c__law_near : PySem.W.codeIn K cd__law_near "_law_near" = true) (k__law_near : PySem.W.keepIn K (.ref f__law_near) = true)
    (a__law_right : PySem.W.nsIn K mainGlobals "_law_right" = some (some (.ref f__law_right)))
    (l__law_right : K.lookup f__law_right = some ⟨oc__law_right, od__law_right, .func (PySem.W.fnOf "_law_right" "_law_right" (defArgs s__law_right) (defBody s__law_right) (defScope s__law_right) .none kV__law_right dc__law_right pm__law_right an__law_right cd__law_right ct__law_right), sl__law_right⟩)
    (c__law_right : PySem.W.codeIn K cd__law_right "_law_right" = true) (k__law_right : PySem.W.keepIn K (.ref f__law_right) = true)
    (a_law : PySem.W.nsIn K mainGlobals "law" = some (some (.ref f_law)))
    (l_law : K.lookup f_law = some ⟨oc_law, od_law, .func (PySem.W.fnOf "law" "law" (defArgs s_law) (defBody s_law) (defScope s_law) .none kV_law dc_law pm_law an_law cd_law ct_law), sl_law⟩)
    (c_law : PySem.W.codeIn K cd_law "law" = true) (k_law : PySem.W.keepIn K (.ref f_law) = true)
    : ∃ fd : FuncData, (∀ (s : Shared) (u : Value), BindsTo s fd ⟨[u], []⟩ [("script", u)]) ∧ ∀ base : Heap, K.In base → base.Ns mainGlobals mg → FnG P w K mg base CX0 30 fa fd ["script"] (spLaw K) := by
  have T : Top K mg :=
    { abs := PySem.W.mg_none_of X G z_abs,
      all := PySem.W.mg_none_of X G z_all,
      any := PySem.W.mg_none_of X G z_any,
      enumerate := PySem.W.mg_none_of X G z_enumerate,
      int := PySem.W.mg_none_of X G z_int,
      isinstance := PySem.W.mg_none_of X G z_isinstance,
      len := PySem.W.mg_none_of X G z_len,
      list := PySem.W.mg_none_of X G z_list,
      max := PySem.W.mg_none_of X G z_max,
      min := PySem.W.mg_none_of X G z_min,
      range := PySem.W.mg_none_of X G z_range,
      repr := PySem.W.mg_none_of X G z_repr,
      str := PySem.W.mg_none_of X G z_str,
      tuple := PySem.W.mg_none_of X G z_tuple,
      zip := PySem.W.mg_none_of X G z_zip,
      LETTERS := ⟨_, PySem.W.mg_of X G v_LETTERS⟩,
      MAX_LETTERS := ⟨_, PySem.W.mg_of X G v_MAX_LETTERS⟩,
      STAR := ⟨_, PySem.W.mg_of X G v_STAR⟩,
      MAX_CHAIN := ⟨_, PySem.W.mg_of X G v_MAX_CHAIN⟩,
      EQUAL := ⟨_, PySem.W.mg_of X G v_EQUAL⟩,
      UNEQUAL := ⟨_, PySem.W.mg_of X G v_UNEQUAL⟩,
      RULESa := R, r1 := r1, r2 := r2, r3 := r3, RULES := PySem.W.mg_of X G aR, t0 := mkTup lR (by show 3 ≤ sizeLine; decide) (.cons rfl (.cons rfl (.cons rfl .nil))),
      t1 := mkTup l1 (by show 2 ≤ sizeLine; decide) (.cons (relS (by decide)) (.cons (relS (by decide)) .nil)), t2 := mkTup l2 (by show 2 ≤ sizeLine; decide) (.cons (relS (by decide)) (.cons (relS (by decide)) .nil)), t3 := mkTup l3 (by show 2 ≤ sizeLine; decide) (.cons (relS (by decide)) (.cons (relS (by decide)) .nil)),
      is_letter := mkDf X G a_is_letter l_is_letter c_is_letter k_is_letter (fun _ _ _ _ _ _ us hl => match us, hl with | [_], _ => rfl),
      is_term := mkDf X G a_is_term l_is_term c_is_term k_is_term (fun _ _ _ _ _ _ us hl => match us, hl with | [_], _ => rfl),
      require_term := mkDf X G a_require_term l_require_term c_require_term k_require_term (fun _ _ _ _ _ _ us hl => match us, hl with | [_], _ => rfl),
      end_of := mkDf X G a_end_of l_end_of c_end_of k_end_of (fun _ _ _ _ _ _ us hl => match us, hl with | [_, _], _ => rfl),
      part_in := mkDf X G a_part_in l_part_in c_part_in k_part_in (fun _ _ _ _ _ _ us hl => match us, hl with | [_, _], _ => rfl),
      put_in := mkDf X G a_put_in l_put_in c_put_in k_put_in (fun _ _ _ _ _ _ us hl => match us, hl with | [_, _, _], _ => rfl),
      substituted_in := mkDf X G a_substituted_in l_substituted_in c_substituted_in k_substituted_in (fun _ _ _ _ _ _ us hl => match us, hl with | [_, _], _ => rfl),
      match_in := mkDf X G a_match_in l_match_in c_match_in k_match_in (fun _ _ _ _ _ _ us hl => match us, hl with | [_, _], _ => rfl),
      each_step := mkDf X G a_each_step l_each_step c_each_step k_each_step (fun _ _ _ _ _ _ us hl => match us, hl with | [_], _ => rfl),
      first_step := mkDf X G a_first_step l_first_step c_first_step k_first_step (fun _ _ _ _ _ _ us hl => match us, hl with | [_], _ => rfl),
      has_step := mkDf X G a_has_step l_has_step c_has_step k_has_step (fun _ _ _ _ _ _ us hl => match us, hl with | [_], _ => rfl),
      require_terms := mkDf X G a_require_terms l_require_terms c_require_terms k_require_terms (fun _ _ _ _ _ _ us hl => match us, hl with | [_, _], _ => rfl),
      leads_down := mkDf X G a_leads_down l_leads_down c_leads_down k_leads_down (fun _ _ _ _ _ _ us hl => match us, hl with | [_, _], _ => rfl),
      are_chain := mkDf X G a_are_chain l_are_chain c_are_chain k_are_chain (fun _ _ _ _ _ _ us hl => match us, hl with | [_], _ => rfl),
      is_equal_chain := mkDf X G a_is_equal_chain l_is_equal_chain c_is_equal_chain k_is_equal_chain (fun _ _ _ _ _ _ us hl => match us, hl with | [_, _, _], _ => rfl),
      is_down_chain := mkDf X G a_is_down_chain l_is_down_chain c_is_down_chain k_is_down_chain (fun _ _ _ _ _ _ us hl => match us, hl with | [_, _], _ => rfl),
      is_equality_paper := mkDf X G a_is_equality_paper l_is_equality_paper c_is_equality_paper k_is_equality_paper (fun _ _ _ _ _ _ us hl => match us, hl with | [_, _, _], _ => rfl),
      _law_dice := mkDf X G a__law_dice l__law_dice c__law_dice k__law_dice (fun _ _ _ _ _ _ us hl => match us, hl with | [_, _], _ => rfl),
      _law_roll := mkDf X G a__law_roll l__law_roll c__law_roll k__law_roll (fun _ _ _ _ _ _ us hl => match us, hl with | [_, _], _ => rfl),
      _law_pick := mkDf X G a__law_pick l__law_pick c__law_pick k__law_pick (fun _ _ _ _ _ _ us hl => match us, hl with | [_, _], _ => rfl),
      _law_grown_term := mkDf X G a__law_grown_term l__law_grown_term c__law_grown_term k__law_grown_term (fun _ _ _ _ _ _ us hl => match us, hl with | [_, _, _], _ => rfl),
      _law_part_of := mkDf X G a__law_part_of l__law_part_of c__law_part_of k__law_part_of (fun _ _ _ _ _ _ us hl => match us, hl with | [_, _], _ => rfl),
      _law_sides := mkDf X G a__law_sides l__law_sides c__law_sides k__law_sides (fun _ _ _ _ _ _ us hl => match us, hl with | [_], _ => rfl),
      _law_rule_results := mkDf X G a__law_rule_results l__law_rule_results c__law_rule_results k__law_rule_results (fun _ _ _ _ _ _ us hl => match us, hl with | [_], _ => rfl),
      _law_steps := mkDf X G a__law_steps l__law_steps c__law_steps k__law_steps (fun _ _ _ _ _ _ us hl => match us, hl with | [_], _ => rfl),
      _law_down := mkDf X G a__law_down l__law_down c__law_down k__law_down (fun _ _ _ _ _ _ us hl => match us, hl with | [_, _], _ => rfl),
      _law_up := mkDf X G a__law_up l__law_up c__law_up k__law_up (fun _ _ _ _ _ _ us hl => match us, hl with | [_, _, _], _ => rfl),
      _law_leads := mkDf X G a__law_leads l__law_leads c__law_leads k__law_leads (fun _ _ _ _ _ _ us hl => match us, hl with | [_, _], _ => rfl),
      _law_takes := mkDf X G a__law_takes l__law_takes c__law_takes k__law_takes (fun _ _ _ _ _ _ us hl => match us, hl with | [_, _, _], _ => rfl),
      _law_takes_down := mkDf X G a__law_takes_down l__law_takes_down c__law_takes_down k__law_takes_down (fun _ _ _ _ _ _ us hl => match us, hl with | [_, _], _ => rfl),
      _law_near := mkDf X G a__law_near l__law_near c__law_near k__law_near (fun _ _ _ _ _ _ us hl => match us, hl with | [_, _, _], _ => rfl),
      _law_right := mkDf X G a__law_right l__law_right c__law_right k__law_right (fun _ _ _ _ _ _ us hl => match us, hl with | [_, _], _ => rfl),
      law := mkDf X G a_law l_law c_law k_law (fun _ _ _ _ _ _ us hl => match us, hl with | [_], _ => rfl) }
  have e := hfa.symm.trans T.law.g
  cases e
  obtain ⟨oc, od, kV, doc, pm, an, cdv, ct, osl, hfd, lk, hcd⟩ := T.law.F.ex
  exact ⟨T.law.fd, fun s u => by rw [hfd]; exact .of_eq rfl, fun base _ _ => ok_law T⟩
theorem walk {l : PySem.W.OpenLaw} {q : Program} {loose : List Str} {XP : (Str → Option Value) → Heap → Prop} {YP : World → Heap → Prop} {d : DefRec} {K : Params → PySem.W.Frag} (hn : l.most = some 63) (hdf : d.params.defaults = [])
    (hY : ∀ (w : World) (h : Heap), YP w h → (K w.params).In h)
    (F : ∀ (w : World) (mg : Str → Option Value) (fa : Addr) (h : Heap), (K w.params).In h → h.Ns mainGlobals mg → mg d.name = some (.ref fa) →
      ∃ fd : FuncData, (∀ (s : Shared) (u : Value), BindsTo s fd ⟨[u], []⟩ [("script", u)]) ∧ ∀ base : Heap, (K w.params).In base → base.Ns mainGlobals mg → FnG l.prog w (K w.params) mg base CX0 30 fa fd ["script"] (spLaw (K w.params))) :
    PySem.W.WalkO q loose XP YP l.row.toRowW d [] (fun f vs => PySem.call f vs) :=
  KG.walk_ofG (n := 63) (k := 30) (x := "script") (CX := fun _ => CX0) (sp := fun w => spLaw (K w.params)) hn (by decide) hdf ⟨rfl, by decide, by decide⟩ hY F (fun _ _ a ns hl _ hS => ⟨a, ns, rfl, hS, fun _ => rfl⟩) fun _ _ _ _ _ z => z
end LW
open PySem PySem.W PyProof.Rows
set_option maxRecDepth 100000 in
set_option maxHeartbeats 0 in
theorem PySem.Challenge.cw_onebetween_k78_whole_equality_papers_jud_holds : PySem.Challenge.rw_onebetween_k78_whole_equality_papers_jud.Holds := by
  w_on; o_law; k_head; (case hw => w_witness2)
  k_fill
  refine LW.walk (l := PySem.Challenge.rw_onebetween_k78_whole_equality_papers_jud) rfl rfl (fun w h Y => PySem.W.kIn_of Y) ?F
  case F =>
    intro w mg fa h KX G hmg
    refine' LW.fin KX G hmg ?z_abs ?z_all ?z_any ?z_enumerate ?z_int ?z_isinstance ?z_len ?z_list ?z_max ?z_min ?z_range ?z_repr ?z_str ?z_tuple ?z_zip ?v_LETTERS ?v_MAX_LETTERS ?v_STAR ?v_MAX_CHAIN ?v_EQUAL ?v_UNEQUAL ?aR ?lR ?l1 ?l2 ?l3 ?a_is_letter ?l_is_letter ?c_is_letter ?k_is_letter ?a_is_term ?l_is_term ?c_is_term ?k_is_term ?a_require_term ?l_require_term ?c_require_term ?k_require_term ?a_end_of ?l_end_of ?c_end_of ?k_end_of ?a_part_in ?l_part_in ?c_part_in ?k_part_in ?a_put_in ?l_put_in ?c_put_in ?k_put_in ?a_substituted_in ?l_substituted_in ?c_substituted_in ?k_substituted_in ?a_match_in ?l_match_in ?c_match_in ?k_match_in ?a_each_step ?l_each_step ?c_each_step ?k_each_step ?a_first_step ?l_first_step ?c_first_step ?k_first_step ?a_has_step ?l_has_step ?c_has_step ?k_has_step ?a_require_terms ?l_require_terms ?c_require_terms ?k_require_terms ?a_leads_down ?l_leads_down ?c_leads_down ?k_leads_down ?a_are_chain ?l_are_chain ?c_are_chain ?k_are_chain ?a_is_equal_chain ?l_is_equal_chain ?c_is_equal_chain ?k_is_equal_chain ?a_is_down_chain ?l_is_down_chain ?c_is_down_chain ?k_is_down_chain ?a_is_equality_paper ?l_is_equality_paper ?c_is_equality_paper ?k_is_equality_paper ?a__law_dice ?l__law_dice ?c__law_dice ?k__law_dice ?a__law_roll ?l__law_roll ?c__law_roll ?k__law_roll ?a__law_pick ?l__law_pick ?c__law_pick ?k__law_pick ?a__law_grown_term ?l__law_grown_term ?c__law_grown_term ?k__law_grown_term ?a__law_part_of ?l__law_part_of ?c__law_part_of ?k__law_part_of ?a__law_sides ?l__law_sides ?c__law_sides ?k__law_sides ?a__law_rule_results ?l__law_rule_results ?c__law_rule_results ?k__law_rule_results ?a__law_steps ?l__law_steps ?c__law_steps ?k__law_steps ?a__law_down ?l__law_down ?c__law_down ?k__law_down ?a__law_up ?l__law_up ?c__law_up ?k__law_up ?a__law_leads ?l__law_leads ?c__law_leads ?k__law_leads ?a__law_takes ?l__law_takes ?c__law_takes ?k__law_takes ?a__law_takes_down ?l__law_takes_down ?c__law_takes_down ?k__law_takes_down ?a__law_near ?l__law_near ?c__law_near ?k__law_near ?a__law_right ?l__law_right ?c__law_right ?k__law_right ?a_law ?l_law ?c_law ?k_law
    (case z_abs => k_is)
    (case z_all => k_is)
    (case z_any => k_is)
    (case z_enumerate => k_is)
    (case z_int => k_is)
    (case z_isinstance => k_is)
    (case z_len => k_is)
    (case z_list => k_is)
    (case z_max => k_is)
    (case z_min => k_is)
    (case z_range => k_is)
    (case z_repr => k_is)
    (case z_str => k_is)
    (case z_tuple => k_is)
    (case z_zip => k_is)
    (case v_LETTERS => k_is)
    (case v_MAX_LETTERS => k_is)
    (case v_STAR => k_is)
    (case v_MAX_CHAIN => k_is)
    (case v_EQUAL => k_is)
    (case v_UNEQUAL => k_is)
    (case aR => k_is)
    (case lR => k_is)
    (case l1 => k_is)
    (case l2 => k_is)
    (case l3 => k_is)
    (case a_is_letter => k_is)
    (case l_is_letter => k_is)
    (case c_is_letter => k_is)
    (case k_is_letter => k_is)
    (case a_is_term => k_is)
    (case l_is_term => k_is)
    (case c_is_term => k_is)
    (case k_is_term => k_is)
    (case a_require_term => k_is)
    (case l_require_term => k_is)
    (case c_require_term => k_is)
    (case k_require_term => k_is)
    (case a_end_of => k_is)
    (case l_end_of => k_is)
    (case c_end_of => k_is)
    (case k_end_of => k_is)
    (case a_part_in => k_is)
    (case l_part_in => k_is)
    (case c_part_in => k_is)
    (case k_part_in => k_is)
    (case a_put_in => k_is)
    (case l_put_in => k_is)
    (case c_put_in => k_is)
    (case k_put_in => k_is)
    (case a_substituted_in => k_is)
    (case l_substituted_in => k_is)
    (case c_substituted_in => k_is)
    (case k_substituted_in => k_is)
    (case a_match_in => k_is)
    (case l_match_in => k_is)
    (case c_match_in => k_is)
    (case k_match_in => k_is)
    (case a_each_step => k_is)
    (case l_each_step => k_is)
    (case c_each_step => k_is)
    (case k_each_step => k_is)
    (case a_first_step => k_is)
    (case l_first_step => k_is)
    (case c_first_step => k_is)
    (case k_first_step => k_is)
    (case a_has_step => k_is)
    (case l_has_step => k_is)
    (case c_has_step => k_is)
    (case k_has_step => k_is)
    (case a_require_terms => k_is)
    (case l_require_terms => k_is)
    (case c_require_terms => k_is)
    (case k_require_terms => k_is)
    (case a_leads_down => k_is)
    (case l_leads_down => k_is)
    (case c_leads_down => k_is)
    (case k_leads_down => k_is)
    (case a_are_chain => k_is)
    (case l_are_chain => k_is)
    (case c_are_chain => k_is)
    (case k_are_chain => k_is)
    (case a_is_equal_chain => k_is)
    (case l_is_equal_chain => k_is)
    (case c_is_equal_chain => k_is)
    (case k_is_equal_chain => k_is)
    (case a_is_down_chain => k_is)
    (case l_is_down_chain => k_is)
    (case c_is_down_chain => k_is)
    (case k_is_down_chain => k_is)
    (case a_is_equality_paper => k_is)
    (case l_is_equality_paper => k_is)
    (case c_is_equality_paper => k_is)
    (case k_is_equality_paper => k_is)
    (case a__law_dice => k_is)
    (case l__law_dice => k_is)
    (case c__law_dice => k_is)
    (case k__law_dice => k_is)
    (case a__law_roll => k_is)
    (case l__law_roll => k_is)
    (case c__law_roll => k_is)
    (case k__law_roll => k_is)
    (case a__law_pick => k_is)
    (case l__law_pick => k_is)
    (case c__law_pick => k_is)
    (case k__law_pick => k_is)
    (case a__law_grown_term => k_is)
    (case l__law_grown_term => k_is)
    (case c__law_grown_term => k_is)
    (case k__law_grown_term => k_is)
    (case a__law_part_of => k_is)
    (case l__law_part_of => k_is)
    (case c__law_part_of => k_is)
    (case k__law_part_of => k_is)
    (case a__law_sides => k_is)
    (case l__law_sides => k_is)
    (case c__law_sides => k_is)
    (case k__law_sides => k_is)
    (case a__law_rule_results => k_is)
    (case l__law_rule_results => k_is)
    (case c__law_rule_results => k_is)
    (case k__law_rule_results => k_is)
    (case a__law_steps => k_is)
    (case l__law_steps => k_is)
    (case c__law_steps => k_is)
    (case k__law_steps => k_is)
    (case a__law_down => k_is)
    (case l__law_down => k_is)
    (case c__law_down => k_is)
    (case k__law_down => k_is)
    (case a__law_up => k_is)
    (case l__law_up => k_is)
    (case c__law_up => k_is)
    (case k__law_up => k_is)
    (case a__law_leads => k_is)
    (case l__law_leads => k_is)
    (case c__law_leads => k_is)
    (case k__law_leads => k_is)
    (case a__law_takes => k_is)
    (case l__law_takes => k_is)
    (case c__law_takes => k_is)
    (case k__law_takes => k_is)
    (case a__law_takes_down => k_is)
    (case l__law_takes_down => k_is)
    (case c__law_takes_down => k_is)
    (case k__law_takes_down => k_is)
    (case a__law_near => k_is)
    (case l__law_near => k_is)
    (case c__law_near => k_is)
    (case k__law_near => k_is)
    (case a__law_right => k_is)
    (case l__law_right => k_is)
    (case c__law_right => k_is)
    (case k__law_right => k_is)
    (case a_law => k_is)
    (case l_law => k_is)
    (case c_law => k_is)
    (case k_law => k_is)
#print axioms PySem.Challenge.cw_onebetween_k78_whole_equality_papers_jud_holds

end
